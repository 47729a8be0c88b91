import PyProof.Rows.All
import Wide.All
import OpenK.AllK
import Wide.FinOn
import HandS.ForMost
import HandS.IsInst
import HandS.Wide
import HandS.Lambda
import HandS.Exc
import HandS.ExcIs
import HandS.ExcField
import HandS.HeadHook1
import HandS.Style
import HandS.Defaults
import HandS.TupAny
import HandS.TupMul
import HandS.SortInts
import HandS.Deep
import HandS.RaiseMore
import KE.KTupSum
import PyProof.ReprRoads
import HandS.Zip
import HandS.Iter
import PyProof.ReprLen
import HandS.HeadEnd
import HandS.Head0
import HandS.Head1
import HandS.Head2
import HandS.HeadHook2
import KE.GoesMore
import HandS.Dict
import HandS.Conv
import KE.GoesNew
import HandS.Flt
import HandS.More
import HandS.NoneIn
import PyProof.FactsAll.list_3
import PyProof.FactsAll.list_4
import KE.KSortKeySt
import HandS.Flow
import PyProof.CollectIter
import PyProof.WalksMore
import KE.DataMinMax
import PyProof.TwoTypesSub
import KE.DataAny
import HandS.DictTup
import KE.KDictZip
import KE.SortData
import PyProof.NeKinds
import PyProof.FactsAll.dict_2
import PyProof.StrOps2
import PyProof.FitsStr
import PyProof.EqAt
import KE.KIndexWalk
import HandS.ExcInit
import HandS.TryMany
import KE.KTryMore
import HandS.ClsMeth
import KE.KExcInit
import HandS.EndTab
import HandS.HeadHook4
import HandS.TupSets
import HandS.Text
import KE.KDictDisplayH
import KE.KDictCopyH
import KE.KDictSum
import KE.KSortKeyAny
import KE.KDictKeyed
import HandS.TupLen
import PySem.Challenge.RW_nonegrowsrich_k02_whole_each_row_one_sha
set_option Elab.async false
set_option linter.all false
set_option maxRecDepth 100000
set_option maxHeartbeats 0
set_option hygiene false
local macro_rules | `(tactic| simp_arith [$ls,*]) => `(tactic| (try simp only [sE, List.map_cons, List.map_nil, List.cons_append, List.nil_append, List.length_cons, List.length_nil, Nat.reduceAdd, Nat.reduceSub, List.reduceReplicate, SV_seq, SV_nil, SV_break, SV_expr, SV_ret, SV_if, SV_asg, SV_par, SV_par3, SV_aug, SV_asgL, SV_for, EV_var, EV_c, EV_e2, EV_e1, EV_and, EV_or, EV_if, EV_tup, EV_fz, EV_bx, EV_cb, EV_sl, EV_call, EV_callK, EV_mt, EV_chain, TV_of, TV_and, TV_or, TV_not, TV_yes, AV_nil, AV_cons, AV_disp, AV_cb, AV_l2, AV_sl, AV_lc, OV_no, OV_some, GV_n, GV_t, GsV_nil, GsV_cons, GV_s, IV_seq, IV_rg1, IV_rg2, IV_enum, then_, BV_some, BV_ite, LBV_some, LBV_ite, r_add, r_addT, r_iadd, r_sub, r_mul, r_div, r_mod, r_pow, r_shl, r_neg, r_lt, r_le, r_gt, r_ge, r_eq, r_ne, r_eqS, r_neS, r_gabs, r_gmax, r_gmin, r_gintI, r_gintB, r_not, r_fn1, r_fn2, r_fnl1, r_lenT, r_lenL, r_lenR, r_tupT, r_tupL, r_tupR, r_listT, r_listL, r_listR, r_ixT, r_ixL, r_ixR, r_ixX, r_lenX, r_tupX, r_listX, r_seqT, r_seqL, r_seqR, r_seqX, r_isN, r_isNN, r_isB, r_slT, r_slL, r_slR, r_sumT, r_sumL, at_0, at_1, at_2, at_3, List.set_cons_zero, List.set_cons_succ, List.getElem?_cons_zero, List.getElem?_cons_succ, List.getElem?_nil, Option.some.injEq, Option.bind_some, Option.map_some, exists_eq_left, exists_eq_left', exists_and_left, D.int.injEq, D.bl.injEq, D.tup.injEq, D.ref.injEq, List.cons.injEq, and_assoc, true_and, and_true, decide_eq_true_eq, Bool.not_eq_true', decide_eq_false_iff_not, Bool.false_eq_true, not_true_eq_false, not_false_eq_true, if_false, if_true, ite_true, ite_false, reduceIte, r_addLL, r_mulLL, r_isTt, r_isTi, r_isTs, r_gsT, r_gsL, r_gsR, r_gsX, wipeE, $ls,*]))
local macro_rules | `(tactic| simp_arith! [$ls,*]) => `(tactic| (try simp only [sE, List.map_cons, List.map_nil, List.cons_append, List.nil_append, List.length_cons, List.length_nil, Nat.reduceAdd, Nat.reduceSub, List.reduceReplicate, SV_seq, SV_nil, SV_break, SV_expr, SV_ret, SV_if, SV_asg, SV_par, SV_par3, SV_aug, SV_asgL, SV_for, EV_var, EV_c, EV_e2, EV_e1, EV_and, EV_or, EV_if, EV_tup, EV_fz, EV_bx, EV_cb, EV_sl, EV_call, EV_callK, EV_mt, EV_chain, TV_of, TV_and, TV_or, TV_not, TV_yes, AV_nil, AV_cons, AV_disp, AV_cb, AV_l2, AV_sl, AV_lc, OV_no, OV_some, GV_n, GV_t, GsV_nil, GsV_cons, GV_s, IV_seq, IV_rg1, IV_rg2, IV_enum, then_, BV_some, BV_ite, LBV_some, LBV_ite, r_add, r_addT, r_iadd, r_sub, r_mul, r_div, r_mod, r_pow, r_shl, r_neg, r_lt, r_le, r_gt, r_ge, r_eq, r_ne, r_eqS, r_neS, r_gabs, r_gmax, r_gmin, r_gintI, r_gintB, r_not, r_fn1, r_fn2, r_fnl1, r_lenT, r_lenL, r_lenR, r_tupT, r_tupL, r_tupR, r_listT, r_listL, r_listR, r_ixT, r_ixL, r_ixR, r_ixX, r_lenX, r_tupX, r_listX, r_seqT, r_seqL, r_seqR, r_seqX, r_isN, r_isNN, r_isB, r_slT, r_slL, r_slR, r_sumT, r_sumL, at_0, at_1, at_2, at_3, List.set_cons_zero, List.set_cons_succ, List.getElem?_cons_zero, List.getElem?_cons_succ, List.getElem?_nil, Option.some.injEq, Option.bind_some, Option.map_some, exists_eq_left, exists_eq_left', exists_and_left, D.int.injEq, D.bl.injEq, D.tup.injEq, D.ref.injEq, List.cons.injEq, and_assoc, true_and, and_true, decide_eq_true_eq, Bool.not_eq_true', decide_eq_false_iff_not, Bool.false_eq_true, not_true_eq_false, not_false_eq_true, if_false, if_true, ite_true, ite_false, reduceIte, r_addLL, r_mulLL, r_isTt, r_isTi, r_isTs, r_gsT, r_gsL, r_gsR, r_gsX, wipeE, Wd, sz_0, sz_1, sz_2, sz_3, sz_4, sz_5, sz_6, m2_2, m1_2, m2_3, m1_3, m2_5, m1_5, r_in3, r_in2, beqS, decide_true, decide_false, Bool.or_false, Bool.true_or, Bool.or_true, Bool.false_or, stay_nil, LV_fold, r_min2L, r_max2L, EV_chain3, IV_rg3, AV_rg1, EV_dct, AV_rev, $ls,*]))
namespace Pv
open PySem PySem.Spec PyProof.Rows L2
inductive D where
 | non
 | bl (b : Bool)
 | int (i : Int)
 | str (x : Str)
 | tup (xs : List D)
 | lst (xs : List D)
 | rol (xs : List D)
 | dic (ks : List Key) (vs : List D)
 | ref (n : Nat)
 | tag (k : Nat) (xs : List D)
 | dref (n : Nat)
 | iref (k n : Nat)
mutual
def dB (K : PySem.W.Frag) : D → Value → Bool
 | .non, u => decide (u = .none)
 | .bl b, u => decide (u = .bool b)
 | .int i, u => match u with
   | .int j _ => decide (j = i)
   | _ => false
 | .str x, u => match u with
   | .str y _ => decide (y = x)
   | _ => false
 | .tup ds, u => match u with
   | .ref a => match K.lookup a with
    | some ⟨.type c, _, .seq its _, _⟩ => decide (c = "tuple") && (decide (its.size ≤ sizeLine) && dBL K ds its.toList)
    | _ => false
   | _ => false
 | .rol ds, u => match u with
   | .ref a => match K.lookup a with
    | some ⟨.type c, none, .seq its _, _⟩ => decide (c = "list") && (decide (its.size ≤ sizeLine) && dBL K ds its.toList)
    | _ => false
   | _ => false
 | .lst _, _ => false
 | .dic _ _, _ => false
 | .tag _ _, _ => false
 | .dref _, _ => false
 | .iref _ _, _ => false
 | .ref _, _ => false
def dBL (K : PySem.W.Frag) : List D → List Value → Bool
 | [], us => us.isEmpty
 | d :: ds, us => match us with
   | u :: us => dB K d u && dBL K ds us
   | [] => false
end
def gcB (K : PySem.W.Frag) (q : Str × D) : Bool := match PySem.W.nsIn K mainGlobals q.1 with
 | some (some u) => dB K q.2 u
 | _ => false
abbrev AlP : Type := He.AlD × Bool
def obsP (n : Nat) (fa : List He.Fa) (fn : List He.DefD) (cs : List (Str × D)) (g : Addr → Option Obj) : AlP := (He.obsDG n fa fn g, cs.all fun q => gcB (He.frG g (He.asD g n)) q)
structure SaysP (fa : List He.Fa) (fn : List He.DefD) (cs : List (Str × D)) (K : PySem.W.Frag) : Prop where
 d : He.SaysD fa fn K
 c : cs.all (fun q => gcB K q) = true
def hookP (n : Nat) (fa : List He.Fa) (fn : List He.DefD) (cs : List (Str × D)) : PySem.W.Hook where
 α := AlP
 obs := fun s => obsP n fa fn cs s.heap.get?
 val := fun _ => (He.valD fn, true)
 says := fun _ h => ∃ K : PySem.W.Frag, K.In h ∧ SaysP fa fn cs K
 of := fun _ _ e => ⟨_, He.frG_in, ⟨congrArg (fun z : AlP => z.1) e, congrArg (fun z : AlP => z.2) e⟩⟩
 keeps := fun _ _ _ ⟨K, hK, c⟩ k => ⟨K, PySem.W.Frag.In.keeps hK k, c⟩
end Pv
set_option exponentiation.threshold 9000
namespace Q02
open PySem PySem.Spec PyProof.Rows L2 Pv
def topS (i : Nat) : Stmt := PySem.Challenge.pw_nonegrowsrich_k02_whole_each_row_one_sha.main.body.getD i (.Pass ⟨0, 0, 0, 0⟩)
section
variable {P : Program} {w : World} {K : PySem.W.Frag} {mg : Str → Option Value} {base : Heap}
abbrev s__law_hand : Stmt := topS 7
abbrev s__law_take : Stmt := topS 8
abbrev s_common : Stmt := topS 2
abbrev s_lowest : Stmt := topS 3
abbrev s_is_whole : Stmt := topS 1
abbrev s_is_shares : Stmt := topS 4
abbrev s__law_rows : Stmt := topS 10
abbrev s_mills : Stmt := topS 5
abbrev s__law_mills_right : Stmt := topS 11
abbrev s__law_right : Stmt := topS 12
abbrev s_law : Stmt := topS 13
end
def fnL : List He.DefD := [⟨("_law_hand", none), "_law_hand", "_law_hand", defArgs s__law_hand, defBody s__law_hand, defScope s__law_hand, [], []⟩,
 ⟨("_law_take", none), "_law_take", "_law_take", defArgs s__law_take, defBody s__law_take, defScope s__law_take, [], []⟩,
 ⟨("common", none), "common", "common", defArgs s_common, defBody s_common, defScope s_common, [], []⟩,
 ⟨("lowest", none), "lowest", "lowest", defArgs s_lowest, defBody s_lowest, defScope s_lowest, [], []⟩,
 ⟨("is_whole", none), "is_whole", "is_whole", defArgs s_is_whole, defBody s_is_whole, defScope s_is_whole, [], []⟩,
 ⟨("is_shares", none), "is_shares", "is_shares", defArgs s_is_shares, defBody s_is_shares, defScope s_is_shares, [], []⟩,
 ⟨("_law_rows", none), "_law_rows", "_law_rows", defArgs s__law_rows, defBody s__law_rows, defScope s__law_rows, [], []⟩,
 ⟨("mills", none), "mills", "mills", defArgs s_mills, defBody s_mills, defScope s_mills, [], []⟩,
 ⟨("_law_mills_right", none), "_law_mills_right", "_law_mills_right", defArgs s__law_mills_right, defBody s__law_mills_right, defScope s__law_mills_right, [], []⟩,
 ⟨("_law_right", none), "_law_right", "_law_right", defArgs s__law_right, defBody s__law_right, defScope s__law_right, [], []⟩,
 ⟨("law", none), "law", "law", defArgs s_law, defBody s_law, defScope s_law, [], []⟩]
def faL : List He.Fa := [.glo "_law_hand", .glo "_law_take", .glo "common", .glo "lowest", .glo "is_whole", .glo "is_shares", .glo "_law_rows", .glo "mills", .glo "_law_mills_right", .glo "_law_right", .glo "law", .free "abs", .free "all", .free "bool", .free "dict", .free "enumerate", .free "int", .free "isinstance", .free "len", .free "max", .free "min", .free "range", .free "sum", .free "tuple"]
def csL : List (Str × D) := []
def loose0 : List Str := ["is_whole", "common", "lowest", "is_shares", "mills", "_law_hand", "_law_take", "_law_of", "_law_rows", "_law_mills_right", "_law_right"]
def looseL : List Str := loose0
abbrev Rw : PySem.W.OpenRow := PySem.W.OpenLaw.row PySem.Challenge.rw_nonegrowsrich_k02_whole_each_row_one_sha
abbrev hkP : PySem.W.Hook := hookP 4 faL fnL csL
def obP (s : PySem.W.SharedT) : AlP := obsP 4 faL fnL csL (HandSHeadRun.getT s)
theorem runP (w : World) : HandSHeadRun.RunEq Rw (PySem.W.view Rw.prog [13]) hkP obP 9000 looseL w := by
 intro os
 kernel_rfl
end Q02
set_option hygiene false
namespace L2
open PySem PySem.Spec PyProof.Rows
def exK (a : Addr) (cls : Value) (d : Option Addr) : HO := .ext fun h => ∃ o vs, h.get? a = some o ∧ Zc cls d o ∧ o.data = .fields vs
section
variable {X : Cx} {pins : List (Addr × Obj)} {σ : St} {H : Hp} {s : Shared} {a : Addr} {cls : Value} {d : Option Addr} {oe : Obj} {vs : Array Value}
theorem exK_at (I : Inv X pins σ H s) (e : H a = some (exK a cls d)) : ∃ o ws, s.heap.get? a = some o ∧ Zc cls d o ∧ o.data = .fields ws := (I.hok a _ e).1
end
end L2
namespace PySem.W
open PySem PySem.Spec PySem.Calls PyProof.Rows
section
variable {prog : Program} {w : World} {A : Around} {E : Value → Shared → Prop} {s : Shared} {K : Frag} {x D : Addr} {ox : Obj} {od : Option Obj}
theorem findObj_dataO {C : Addr} {name : Str} {a g : Value} (hc : (clsIn K C).isSome = true) (ha : findIn K (.ref C) name = some (some a)) (hg : specialIn K a "__get__" = some (some g)) (ht : takesIn K a = some true) : findObj K C od name = some (.bind g a) := by
 obtain ⟨cd, hc⟩ := Option.isSome_iff_exists.mp hc
 unfold findObj
 rw [hc, Option.bind_some, ha, Option.bind_some]
 simp [hg, ht]
theorem kin_classO {Q : Option Value → Shared → Prop} (hga : findIn K (.ref D) "__getattribute__" = some (some (.builtin "BaseException.__getattribute__"))) (hgt : findIn K (.ref D) "__getattr__" = some none) (hsub : subIn K (.ref D) (.type "BaseException") = some true)
  (hdct : hasDictIn K D = true) (ha : findIn K (.ref D) "__class__" = some (some (.builtin "object.__class__")))
  (hn : specialIn K (.builtin "object.__class__") "__get__" = some (some (.builtin "getset_descriptor.__get__"))) (htk : takesIn K (.builtin "object.__class__") = some true) (hm : mroIn K D (.type "object") = some true)
  (X : K.In s.heap) (I : InstAt s.heap x ox D od) (h : Q (some (.ref D)) { s with toks := s.toks + 1 }) : wpAny (model prog w) A (getAttr? (.ref x) "__class__") Q E s := by
 have hf : findObj K D od "__class__" = some (.bind (.builtin "getset_descriptor.__get__") (.builtin "object.__class__")) := findObj_dataO (by obtain ⟨cd, hc, _⟩ := any_some hdct; rw [hc]; rfl) ha hn htk
 obtain ⟨hp, g, d, t, os⟩ := s
 have L0 := I.type (M := model prog w)
 have L1 := looks_findIn (M := model prog w) X hga
 have L2 := looks_findIn (M := model prog w) X hgt
 have L3 := looks_find (M := model prog w) X I hf
 have sub : Looks (model prog w) hp (isInstance (.ref x) (.type "BaseException")) true := L0.andThen (looks_subIn X hsub)
 have hx0 : (false && onTheHeap (Value.builtin "BaseException.__getattribute__")) = false := rfl
 have hx2 : (Value.builtin "BaseException.__getattribute__" == Value.builtin "object.__getattribute__") = false := by decide +kernel
 have hx1 : (onTheHeap (Value.ref D) && Value.builtin "BaseException.__getattribute__" == Value.builtin "object.__getattribute__") = false := by rw [hx2]; rfl
 unfold getAttr? getAttrBy? getAttrBy
 refine wpAny_bind (wpAny_mkText (wpAny_bind (wpAny_attempt (wpAny_holding (wpAny_bind (L0.at (wpAny_bind (L1.at ?_))))))))
 show wpAny _ _ (if (onTheHeap (Value.ref D) && Value.builtin "BaseException.__getattribute__" == Value.builtin "object.__getattribute__") = true then _ else _) _ _ _
 rw [hx1, if_neg Bool.false_ne_true]
 unfold getAttrByItsOwn hookBefore
 refine wpAny_bind ?_
 rw [if_pos (show onTheHeap (Value.ref D) = true from rfl)]
 refine L2.at ?_
 refine wpAny_bind (wpAny_attempt (wpAny_holding ?_))
 unfold callGetattribute
 rw [hx0, if_neg Bool.false_ne_true]
 unfold boundAndCalled
 rw [PySem.F.excAttr_ValueError.ga.bind (.ref x)]
 refine wpAny_bind (wpAny_pure ?_)
 show wpAny _ _ (call (.builtin "BaseException.__getattribute__") [.ref x, .str "__class__" t]) _ _ _
 refine wpAny_call (codeAny_call_builtin PySem.F.excAttr_ValueError.ga.plain PySem.F.entry_bexc_ga ?_)
 refine @check_slot (model prog w) _ _ ⟨hp, g, d, t + 1, os⟩ "BaseException.__getattribute__" "BaseException" "__getattribute__" (.ref x) [.str "__class__" t] [] _ (by decide +kernel) (by decide +kernel) sub (PySem.F.args_bexc_ga (.ref x) (.str "__class__" t)) ?_
 unfold Builtin.«object.__getattribute__»
 refine wpAny_bind (wpAny_of_eq (a := ((Value.ref x : Value), [Value.str "__class__" t])) (by first | rfl | (simp only [slotArgs]; rfl)) ?_)
 refine wpAny_bind (wpAny_pure (wpAny_bind (L0.at (wpAny_bind (L3.at ?_)))))
 show wpAny _ _ (holding [Value.builtin "object.__class__"] (call (.builtin "getset_descriptor.__get__") [.builtin "object.__class__", .ref x, .ref D]) >>= ret) _ _ _
 refine wpAny_bind (wpAny_holding (wpAny_call (class_get (s := ⟨hp, g, d, t + 1, os⟩) (ox := ox) (od := od) X I hm ?_)))
 refine wpAny_pure ?_
 show wpAny _ _ (handedOut (.ref D)) _ _ _
 rw [handedOut_of (v := .ref D) rfl]
 first
  | exact wpAny_pure (wpAny_pure h)
  | exact wpAny_pure h
  | exact wpAny_pure (wpAny_bind (wpAny_pure (wpAny_pure h)))
theorem kitx_excO (hga : findIn K (.ref D) "__getattribute__" = some (some (.builtin "BaseException.__getattribute__"))) (hgt : findIn K (.ref D) "__getattr__" = some none) (hsub : subIn K (.ref D) (.type "BaseException") = some true) (hdct : hasDictIn K D = true) (ha : findIn K (.ref D) "__class__" = some (some (.builtin "object.__class__")))
  (hn : specialIn K (.builtin "object.__class__") "__get__" = some (some (.builtin "getset_descriptor.__get__"))) (htk : takesIn K (.builtin "object.__class__") = some true) (hm : mroIn K D (.type "object") = some true) :
  KitX K (.ref x) (.ref D) (fun h => InstAt h x ox D od) where
 ty := fun _ _ _ I => I.type
 it := fun _ _ X _ => by
  obtain ⟨cdD, hcD, _⟩ := any_some hdct
  unfold clsIn at hcD
  split at hcD
  ·rename_i c' d' cd' sl' ho
   intro A' Q' E' s' k q
   unfold isType loadHead
   exact wpAny_bind (wpAny_loadPart (k _ _ (X _ _ ho)) (wpAny_pure q))
  ·cases hcD
 ne := fun h tp dd its n sl X htp => by
  obtain ⟨cdD, hcD, _⟩ := any_some hdct
  refine Bool.eq_false_iff.mpr fun q => ?_
  have e : D = tp := Value.ref.inj (beq_iff_eq.mp q)
  subst e
  unfold clsIn at hcD
  split at hcD
  ·rename_i c' d' cd' sl' ho
   have z := (X _ _ ho).symm.trans htp
   cases z
  ·cases hcD
 ca := fun X I k => kin_classO hga hgt hsub hdct ha hn htk hm X I k
end
end PySem.W
namespace L2
open PySem PySem.Spec PyProof.Rows
def rIsK (K : PySem.W.Frag) : List V → Hp → VK → Prop := fun xs H Q => ∃ (a D dd : Addr) (fs : List (Str × V)) (c : V) (cv : Value) (b : Bool), xs = [.ref a, c] ∧ H a = some (exK a (.ref D) (some dd)) ∧ H dd = some (.xd fs) ∧ ExcC K D ∧ (∀ u, RelV c u → u = cv) ∧ PySem.W.kitOne K (.ref D) cv = some b ∧ Q (.bl b) H
theorem call_isK {X : Cx} : CallR X (.builtin "isinstance") (rIsK X.K) := by
 intro pins s σ H xs us Q I r h
 obtain ⟨a, D, dd, fs, c, cv, b, rfl, ha, hdd, C, hcv, e, q⟩ := h
 cases r with
 | cons rx rr =>
  cases rr with
  | cons rt rr =>
   cases rr
   cases rx
   have ec := hcv _ rt
   subst ec
   obtain ⟨oe, vs, hget, hz, hv⟩ := exK_at I ha
   have hx : ObjOk X.prog X.w H s.heap dd (.xd fs) := I.hok dd _ hdd
   obtain ⟨mA, hns, hr⟩ := hx
   obtain ⟨od, ho, hl⟩ := lookIn_ns hns
   have J : PySem.W.InstAt s.heap a oe D (some od) := ⟨hget, hz.1, by unfold PySem.W.notCls; rw [hv] <;> rfl, by rw [hz.2]; exact ho⟩
   exact PySem.W.kia_one (PySem.W.kitx_excO C.hg C.hk C.hs C.hd C.ha C.hn C.ht C.hm) I.kIn J e (fun z => nomatch z) fun tk => ⟨.bl b, H, I.kept (t' := tk) fun _ _ z => z, rfl, q⟩
def rIsK0 (K : PySem.W.Frag) : List V → Hp → VK → Prop := fun xs H Q => ∃ (a D : Addr) (c : V) (cv : Value) (b : Bool), xs = [.ref a, c] ∧ H a = some (exK a (.ref D) none) ∧ ExcC K D ∧ (∀ u, RelV c u → u = cv) ∧ PySem.W.kitOne K (.ref D) cv = some b ∧ Q (.bl b) H
theorem call_isK0 {X : Cx} : CallR X (.builtin "isinstance") (rIsK0 X.K) := by
 intro pins s σ H xs us Q I r h
 obtain ⟨a, D, c, cv, b, rfl, ha, C, hcv, e, q⟩ := h
 cases r with
 | cons rx rr =>
  cases rr with
  | cons rt rr =>
   cases rr
   cases rx
   have ec := hcv _ rt
   subst ec
   obtain ⟨oe, vs, hget, hz, hv⟩ := exK_at I ha
   have J : PySem.W.InstAt s.heap a oe D none := ⟨hget, hz.1, by unfold PySem.W.notCls; rw [hv] <;> rfl, by rw [hz.2]; trivial⟩
   exact PySem.W.kia_one (PySem.W.handS_kitx_exc C.hg C.hk C.hs C.hd C.ha C.hn C.ht C.hm) I.kIn J e (fun z => nomatch z) fun tk => ⟨.bl b, H, I.kept (t' := tk) fun _ _ z => z, rfl, q⟩
def exN : Nat → Str
 | 0 => "Crowded"
 | 1 => "NoPlace"
 | 2 => "NotRight"
 | 3 => "NotTold"
 | 4 => "Told"
 | 5 => "NoHouse"
 | 6 => "NoName"
 | 7 => "NoDoubter"
 | 8 => "NoWeight"
 | 9 => "NoSign"
 | 10 => "NoText"
 | 11 => "NoLine"
 | _ => "Nothing"
def xA (K : PySem.W.Frag) (i : Nat) : Addr := He.ga K (exN i)
def insN : Nat → Str
 | 0 => "Words"
 | 1 => "Keeper"
 | _ => "Desk"
def iA (K : PySem.W.Frag) (i : Nat) : Addr := He.ga K (insN i)
def plainT : List String := ["tuple", "int", "bool", "str", "list", "dict"]
structure InsP (K : PySem.W.Frag) (C : Addr) : Prop where
 cl : Cls K C
 ha : PySem.W.findIn K (.ref C) "__class__" = some (some (.builtin "object.__class__"))
 hn : PySem.W.specialIn K (.builtin "object.__class__") "__get__" = some (some (.builtin "getset_descriptor.__get__"))
 htk : PySem.W.takesIn K (.builtin "object.__class__") = some true
 hm : PySem.W.mroIn K C (.type "object") = some true
 t : ∀ T, T ∈ plainT → PySem.W.kitOne K (.ref C) (.type T) = some false
structure ExcP (K : PySem.W.Frag) (C : Addr) : Prop where
 c : ExcC K C
 t : ∀ T, T ∈ plainT → PySem.W.kitOne K (.ref C) (.type T) = some false
end L2
namespace Pv
open PySem PySem.Spec PyProof.Rows L2
inductive Ob where
 | lst (xs : List D)
 | dk (ks : List Key) (xs : List D)
 | dt (ks : List (List Key)) (xs : List D)
 | it (k : Nat) (fs : List Str) (xs : List D)
def Ob.kind : Ob → Nat
 | .lst _ => 0
 | .dk _ _ => 1
 | .dt _ _ => 2
 | .it k _ _ => 3 + k
def Ob.vs : Ob → List D
 | .lst xs => xs
 | .dk _ xs => xs
 | .dt _ xs => xs
 | .it _ _ xs => xs
def Ob.ho : Ob → List V → HO
 | .lst _, us => .lst us
 | .dk ks _, us => .dK (ks.zip us)
 | .dt ks _, us => .dT (ks.zip us)
 | .it _ fs _, us => .ins 0 0 (fs.zip us)
def NT : HO → Prop
 | .tbl _ => False
 | _ => True
def BxH : HO → Prop
 | .lst _ => True
 | .dK _ => True
 | .dT _ => True
 | .ins _ _ _ => True
 | _ => False
abbrev Sto := List Ob
abbrev En := List (Option D)
structure M where
 r : Nat → Addr
 S : Sto
 H : Hp
structure C where
 K : PySem.W.Frag
 Z : List Addr
def Bx (m : M) (a : Addr) : Prop := ∃ i, i < m.S.length ∧ m.r i = a
def KL (K : PySem.W.Frag) (a : Addr) (xs : List V) : Prop :=
 ∃ (o : Obj) (its : Array Value) (n : Nat), K.lookup a = some o ∧ o.cls = .type "list" ∧ o.dict = none ∧ o.data = .seq its n ∧ its.size ≤ sizeLine ∧ Vals xs its.toList
def FzL (c : C) (m : M) (a : Addr) (xs : List V) : Prop := m.H a = some (.lst xs) ∧ ¬ Bx m a ∧ a ∉ c.Z
def RoL (c : C) (m : M) (a : Addr) (xs : List V) : Prop := (∃ o, m.H a = some (.frz o (.lst xs))) ∨ KL c.K a xs
def TagR (K : PySem.W.Frag) (m : M) : Nat → Addr → List V → Prop
 | 0, a, xs => ∃ o, m.H a = some (.frz o (.tup xs)) ∧ o.dict = none
 | n + 1, a, xs => (n = 999 ∧ m.H a = some (.tup xs)) ∨ n % 2 = 0 ∧ L2.ExcP K (L2.xA K (n / 2)) ∧ ((∃ (dd : Addr) (f : Str) (v : V), xs = [.str f, v] ∧ m.H a = some (L2.exK a (.ref (L2.xA K (n / 2))) (some dd)) ∧ m.H dd = some (.xd [(f, v)])) ∨ (xs = [] ∧ m.H a = some (L2.exK a (.ref (L2.xA K (n / 2))) none)))
@[irreducible] def TBL (_ : PySem.W.Frag) : List (Addr × Str) := []
theorem TBL_nil (K : PySem.W.Frag) : TBL K = [] := by
 unfold TBL
 rfl
theorem FzL.sq {c : C} {m : M} {a : Addr} {xs : List V} (h : FzL c m a xs) : SqL c.K m.H a xs := .inl (.inl h.1)
theorem RoL.sq {c : C} {m : M} {a : Addr} {xs : List V} (h : RoL c m a xs) : SqL c.K m.H a xs := by
 rcases h with h | h
 ·exact .inl (.inr h)
 ·exact .inr h
mutual
def Rep (c : C) (m : M) : D → V → Prop
 | .non, v => v = .non
 | .bl b, v => v = .bl b
 | .int i, v => v = .int i
 | .str x, v => v = .str x
 | .tup ds, v => ∃ a xs, v = .ref a ∧ SqT c.K m.H a xs ∧ RepL c m ds xs
 | .lst ds, v => ∃ a xs, v = .ref a ∧ FzL c m a xs ∧ RepL c m ds xs
 | .rol ds, v => ∃ a xs, v = .ref a ∧ RoL c m a xs ∧ RepL c m ds xs
 | .dic ks vs, v => ∃ a kvs, v = .ref a ∧ (m.H a = some (.dK kvs) ∧ ¬ Bx m a ∧ a ∉ c.Z) ∧ kvs.map (·.1) = ks ∧ RepL c m vs (kvs.map (·.2))
 | .ref n, v => (∃ ds, m.S[n]? = some (.lst ds)) ∧ v = .ref (m.r n)
 | .tag k ds, v => ∃ a xs, v = .ref a ∧ TagR c.K m k a xs ∧ RepL c m ds xs
 | .dref n, v => (∃ o, m.S[n]? = some o ∧ (o.kind = 1 ∨ o.kind = 2)) ∧ v = .ref (m.r n)
 | .iref k n, v => (∃ o, m.S[n]? = some o ∧ o.kind = 3 + k ∧ L2.InsP c.K (L2.iA c.K k)) ∧ v = .ref (m.r n)
def RepL (c : C) (m : M) : List D → List V → Prop
 | [], xs => xs = []
 | d :: ds, xs => ∃ x r, xs = x :: r ∧ Rep c m d x ∧ RepL c m ds r
end
def ObR (c : C) (m : M) : Ob → Addr → Prop
 | .it k fs ds, a => ∃ dx xs, m.H a = some (.ins (iA c.K k) dx (fs.zip xs)) ∧ fs.length = ds.length ∧ RepL c m ds xs
 | o, a => ∃ xs, m.H a = some (o.ho xs) ∧ RepL c m o.vs xs
theorem ObR.to {c : C} {m : M} {o : Ob} {a : Addr} (h : ObR c m o a) : ∃ xs u, m.H a = some u ∧ BxH u ∧ RepL c m o.vs xs ∧ ∀ {c' : C} {m' : M} {a' : Addr} {ys : List V}, c'.K = c.K → ys = xs → m'.H a' = some u → RepL c' m' o.vs ys → ObR c' m' o a' := by
 cases o with
 | lst ds =>
  obtain ⟨xs, h1, h2⟩ := h
  exact ⟨xs, _, h1, trivial, h2, fun _ e h3 h4 => ⟨_, by rw [e]; exact h3, h4⟩⟩
 | dk ks ds =>
  obtain ⟨xs, h1, h2⟩ := h
  exact ⟨xs, _, h1, trivial, h2, fun _ e h3 h4 => ⟨_, by rw [e]; exact h3, h4⟩⟩
 | dt ks ds =>
  obtain ⟨xs, h1, h2⟩ := h
  exact ⟨xs, _, h1, trivial, h2, fun _ e h3 h4 => ⟨_, by rw [e]; exact h3, h4⟩⟩
 | it k fs ds =>
  obtain ⟨dx, xs, h1, h0, h2⟩ := h
  exact ⟨xs, _, h1, trivial, h2, fun ek e h3 h4 => ⟨dx, _, by rw [ek, e]; exact h3, h0, h4⟩⟩
structure Sim (c : C) (m : M) : Prop where
 inj : ∀ i j, i < m.S.length → j < m.S.length → m.r i = m.r j → i = j
 obj : ∀ i o, m.S[i]? = some o → ObR c m o (m.r i)
 zs : ∀ z, z ∈ c.Z → (∃ o, m.H z = some o) ∧ ¬ Bx m z
 tabs : ∀ q, q ∈ TBL c.K → LamX.TabS m.H q.1 q.2
structure Ex (m m' : M) : Prop where
 le : m.S.length ≤ m'.S.length
 ag : ∀ i, i < m.S.length → m'.r i = m.r i
 pr : ∀ a o, m.H a = some o → ¬ Bx m a → NT o → m'.H a = some o
 th : ∀ a o, m.H a = some o → ¬ Bx m a → ∃ o', m'.H a = some o'
 nw : ∀ i, m.S.length ≤ i → i < m'.S.length → m.H (m'.r i) = none
 kd : ∀ (i : Nat) (o : Ob), m.S[i]? = some o → ∃ o' : Ob, m'.S[i]? = some o' ∧ o'.kind = o.kind
structure Tr (c : C) (m m' : M) : Prop where
 ex : Ex m m'
 si : Sim c m'
section
variable {c : C} {m m' m'' : M}
theorem Sim.box (s : Sim c m) {i : Nat} (h : i < m.S.length) : ∃ (o : Ob) (u : HO), m.S[i]? = some o ∧ m.H (m.r i) = some u ∧ BxH u := by
 obtain ⟨o, e⟩ : ∃ o, m.S[i]? = some o := ⟨m.S[i], List.getElem?_eq_getElem h⟩
 obtain ⟨xs, u, h1, h2, _⟩ := (s.obj i _ e).to
 exact ⟨o, u, e, h1, h2⟩
theorem Sim.boxL (s : Sim c m) {i : Nat} {ds : List D} (h : m.S[i]? = some (.lst ds)) : ∃ xs, m.H (m.r i) = some (.lst xs) ∧ RepL c m ds xs := s.obj i _ h
theorem Rep.lt {n : Nat} {v : V} (h : Rep c m (.ref n) v) : n < m.S.length ∧ v = .ref (m.r n) := by
 obtain ⟨⟨ds, hd⟩, e⟩ := h
 exact ⟨(List.getElem?_eq_some_iff.mp hd).1, e⟩
theorem Rep.ltD {n : Nat} {v : V} (h : Rep c m (.dref n) v) : n < m.S.length ∧ v = .ref (m.r n) := by
 obtain ⟨⟨o, hd, _⟩, e⟩ := h
 exact ⟨(List.getElem?_eq_some_iff.mp hd).1, e⟩
theorem Rep.ltI {k n : Nat} {v : V} (h : Rep c m (.iref k n) v) : n < m.S.length ∧ v = .ref (m.r n) := by
 obtain ⟨⟨o, hd, _⟩, e⟩ := h
 exact ⟨(List.getElem?_eq_some_iff.mp hd).1, e⟩
def BoxOk (m : M) : Prop := ∀ i, i < m.S.length → ∃ u, m.H (m.r i) = some u ∧ BxH u
theorem Sim.bok (s : Sim c m) : BoxOk m := fun i hi => by
 obtain ⟨o, u, _, e, b⟩ := s.box hi
 exact ⟨u, e, b⟩
theorem BoxOk.no (s : BoxOk m) {a : Addr} {u : HO} (h : m.H a = some u) (n : ¬ BxH u) : ¬ Bx m a := by
 rintro ⟨i, hi, e⟩
 obtain ⟨w, e2, b⟩ := s i hi
 rw [e, h] at e2
 cases e2
 exact n b
theorem BoxOk.notTup (s : BoxOk m) {a : Addr} {xs : List V} (h : Rd m.H a (.tup xs)) : ¬ Bx m a := by
 rcases h with h | ⟨o, h⟩
 ·exact s.no h fun z => z
 ·exact s.no h fun z => z
theorem BoxOk.notFrz (s : BoxOk m) {a : Addr} {o : Obj} {u : HO} (h : m.H a = some (.frz o u)) : ¬ Bx m a := s.no h fun z => z
theorem Ex.rd (x : Ex m m') {a : Addr} {u : HO} (h : Rd m.H a u) (n : ¬ Bx m a) (t : NT u) : Rd m'.H a u := by
 rcases h with h | ⟨o, h⟩
 ·exact .inl (x.pr _ _ h n t)
 ·exact .inr ⟨o, x.pr _ _ h n trivial⟩
theorem Ex.nbx (x : Ex m m') {a : Addr} {o : HO} (h : m.H a = some o) (n : ¬ Bx m a) : ¬ Bx m' a := by
 rintro ⟨i, hi, e⟩
 by_cases hl : i < m.S.length
 ·exact n ⟨i, hl, by rw [← x.ag i hl]; exact e⟩
 ·have := x.nw i (by omega) hi
  rw [e, h] at this
  cases this
theorem TagR.mono {K : PySem.W.Frag} (s : BoxOk m) (x : Ex m m') : ∀ {k : Nat} {a : Addr} {xs : List V}, TagR K m k a xs → TagR K m' k a xs
 | 0, _, _, h => by
  obtain ⟨o, h1, h2⟩ := h
  exact ⟨o, x.pr _ _ h1 (s.notFrz h1) trivial, h2⟩
 | n + 1, _, _, h => by
  rcases h with ⟨h0, h⟩ | h
  ·exact .inl ⟨h0, x.pr _ _ h (s.no h fun z => z) trivial⟩
  obtain ⟨h0, hk, h⟩ := h
  refine .inr ⟨h0, hk, ?_⟩
  rcases h with ⟨dd, f, v, e, h1, h2⟩ | ⟨e, h1⟩
  ·exact .inl ⟨dd, f, v, e, x.pr _ _ h1 (s.no h1 fun z => z) trivial, x.pr _ _ h2 (s.no h2 fun z => z) trivial⟩
  ·exact .inr ⟨e, x.pr _ _ h1 (s.no h1 fun z => z) trivial⟩
mutual
theorem Rep.mono (s : BoxOk m) (x : Ex m m') : ∀ (d : D) (v : V), Rep c m d v → Rep c m' d v
 | .non, v, h => h
 | .bl _, v, h => h
 | .int _, v, h => h
 | .str _, v, h => h
 | .tup ds, v, h => by
  obtain ⟨a, xs, e, h1, h2⟩ := h
  refine ⟨a, xs, e, ?_, RepL.mono s x ds xs h2⟩
  rcases h1 with h1 | h1
  ·exact .inl (x.rd h1 (s.notTup h1) trivial)
  ·exact .inr h1
 | .lst ds, v, h => by
  obtain ⟨a, xs, e, h1, h2⟩ := h
  refine ⟨a, xs, e, ?_, RepL.mono s x ds xs h2⟩
  obtain ⟨h1, h3, h4⟩ := h1
  exact ⟨x.pr _ _ h1 h3 trivial, x.nbx h1 h3, h4⟩
 | .rol ds, v, h => by
  obtain ⟨a, xs, e, h1, h2⟩ := h
  refine ⟨a, xs, e, ?_, RepL.mono s x ds xs h2⟩
  rcases h1 with ⟨o, h1⟩ | h1
  ·exact .inl ⟨o, x.pr _ _ h1 (s.notFrz h1) trivial⟩
  ·exact .inr h1
 | .dic ks vs, v, h => by
  obtain ⟨a, kvs, e, ⟨h1, h3, h4⟩, h5, h2⟩ := h
  exact ⟨a, kvs, e, ⟨x.pr _ _ h1 h3 trivial, x.nbx h1 h3, h4⟩, h5, RepL.mono s x vs _ h2⟩
 | .ref n, v, h => by
  obtain ⟨h1, h2⟩ := h
  obtain ⟨ds, hd⟩ := h1
  refine ⟨?_, by rw [x.ag n (List.getElem?_eq_some_iff.mp hd).1]; exact h2⟩
  obtain ⟨o, e1, e2⟩ := x.kd n _ hd
  cases o with
  | lst es => exact ⟨es, e1⟩
  | dk ks es => cases e2
  | dt ks es => cases e2
  | it k fs es => exact absurd e2 (by show 3 + k ≠ 0; omega)
 | .dref n, v, h => by
  obtain ⟨⟨o, hd, hk⟩, h2⟩ := h
  refine ⟨?_, by rw [x.ag n (List.getElem?_eq_some_iff.mp hd).1]; exact h2⟩
  obtain ⟨o', e1, e2⟩ := x.kd n _ hd
  exact ⟨o', e1, by rw [e2]; exact hk⟩
 | .iref k n, v, h => by
  obtain ⟨⟨o, hd, hk⟩, h2⟩ := h
  refine ⟨?_, by rw [x.ag n (List.getElem?_eq_some_iff.mp hd).1]; exact h2⟩
  obtain ⟨o', e1, e2⟩ := x.kd n _ hd
  exact ⟨o', e1, by rw [e2]; exact hk.1, hk.2⟩
 | .tag k ds, v, h => by
  obtain ⟨a, xs, e, h1, h2⟩ := h
  exact ⟨a, xs, e, TagR.mono s x h1, RepL.mono s x ds xs h2⟩
theorem RepL.mono (s : BoxOk m) (x : Ex m m') : ∀ (ds : List D) (vs : List V), RepL c m ds vs → RepL c m' ds vs
 | [], vs, h => h
 | d :: ds, vs, h => by
  obtain ⟨y, r, e, h1, h2⟩ := h
  exact ⟨y, r, e, Rep.mono s x d y h1, RepL.mono s x ds r h2⟩
end
theorem RepL.len : ∀ {ds : List D} {vs : List V}, RepL c m ds vs → vs.length = ds.length
 | [], vs, h => by rw [show vs = [] from h]; rfl
 | d :: ds, vs, h => by
  obtain ⟨y, r, e, h1, h2⟩ := h
  rw [e, List.length_cons, List.length_cons, RepL.len h2]
theorem RepL.app : ∀ {ds es : List D} {vs ws : List V}, RepL c m ds vs → RepL c m es ws → RepL c m (ds ++ es) (vs ++ ws)
 | [], es, vs, ws, h, k => by rw [show vs = [] from h]; exact k
 | d :: ds, es, vs, ws, h, k => by
  obtain ⟨y, r, e, h1, h2⟩ := h
  subst e
  exact ⟨y, r ++ ws, rfl, h1, RepL.app h2 k⟩
theorem RepL.one {d : D} {v : V} (h : Rep c m d v) : RepL c m [d] [v] := ⟨v, [], rfl, h, rfl⟩
theorem RepL.get : ∀ {ds : List D} {vs : List V} {i : Nat} {d : D}, RepL c m ds vs → ds[i]? = some d → ∃ v, vs[i]? = some v ∧ Rep c m d v
 | [], _, i, d, _, h => by simp at h
 | e :: ds, vs, 0, d, h, k => by
  obtain ⟨y, r, e, h1, h2⟩ := h
  simp at k
  subst k e
  exact ⟨y, rfl, h1⟩
 | e :: ds, vs, i + 1, d, h, k => by
  obtain ⟨y, r, e, h1, h2⟩ := h
  subst e
  obtain ⟨v, a, b⟩ := RepL.get (i := i) h2 (by simpa using k)
  exact ⟨v, by simpa using a, b⟩
theorem RepL.set {e : D} {w : V} (hw : Rep c m e w) : ∀ {ds : List D} {vs : List V} (i : Nat), RepL c m ds vs → RepL c m (ds.set i e) (vs.set i w)
 | [], vs, i, h => by rw [show vs = [] from h]; rfl
 | d :: ds, vs, 0, h => by
  obtain ⟨y, r, e, h1, h2⟩ := h
  subst e
  exact ⟨w, r, rfl, hw, h2⟩
 | d :: ds, vs, i + 1, h => by
  obtain ⟨y, r, e, h1, h2⟩ := h
  subst e
  exact ⟨y, r.set i w, rfl, h1, RepL.set hw i h2⟩
theorem Ex.all (le : m.S.length ≤ m'.S.length) (ag : ∀ i, i < m.S.length → m'.r i = m.r i) (k : ∀ a o, m.H a = some o → m'.H a = some o) (nw : ∀ i, m.S.length ≤ i → i < m'.S.length → m.H (m'.r i) = none) (kd : ∀ (i : Nat) (o : Ob), m.S[i]? = some o → ∃ o' : Ob, m'.S[i]? = some o' ∧ o'.kind = o.kind) : Ex m m' :=
 ⟨le, ag, fun a o h _ _ => k a o h, fun a o h _ => ⟨o, k a o h⟩, nw, kd⟩
theorem Ex.refl : Ex m m := .all (Nat.le_refl _) (fun _ _ => rfl) (fun _ _ h => h) (fun i h1 h2 => by omega) (fun i o h => ⟨o, h, rfl⟩)
theorem Tr.there (s : Sim c m) (t : Tr c m m') {a : Addr} {o : HO} (h : m.H a = some o) : ∃ o', m'.H a = some o' := by
 by_cases hb : Bx m a
 ·obtain ⟨i, hi, e⟩ := hb
  obtain ⟨ds, xs, _, e2, _⟩ := t.si.box (Nat.lt_of_lt_of_le hi t.ex.le)
  rw [t.ex.ag i hi, e] at e2
  exact ⟨_, e2⟩
 ·exact t.ex.th _ _ h hb
theorem Tr.refl (s : Sim c m) : Tr c m m := ⟨.refl, s⟩
theorem Tr.trans (s : Sim c m) (t : Tr c m m') (u : Tr c m' m'') : Tr c m m'' where
 ex := {
  le := Nat.le_trans t.ex.le u.ex.le
  ag := fun i h => by rw [u.ex.ag i (Nat.lt_of_lt_of_le h t.ex.le), t.ex.ag i h]
  pr := fun a o h n z => u.ex.pr _ _ (t.ex.pr _ _ h n z) (t.ex.nbx h n) z
  th := fun a o h n => by
   obtain ⟨o', h'⟩ := t.ex.th a o h n
   exact u.ex.th a o' h' (t.ex.nbx h n)
  kd := fun i o h => by
   obtain ⟨o1, h1, k1⟩ := t.ex.kd i o h
   obtain ⟨o2, h2, k2⟩ := u.ex.kd i o1 h1
   exact ⟨o2, h2, k2.trans k1⟩
  nw := fun i h1 h2 => by
   by_cases hl : i < m'.S.length
   ·rw [u.ex.ag i hl]
    exact t.ex.nw i h1 hl
   ·have e := u.ex.nw i (by omega) h2
    cases q : m.H (m''.r i) with
    | none => rfl
    | some o =>
     obtain ⟨o', e'⟩ := Tr.there s t q
     rw [e] at e'
     cases e' }
 si := u.si
theorem Tr.rep (s : Sim c m) (t : Tr c m m') {d : D} {v : V} (h : Rep c m d v) : Rep c m' d v := Rep.mono s.bok t.ex d v h
theorem Tr.repL (s : Sim c m) (t : Tr c m m') {d : List D} {v : List V} (h : RepL c m d v) : RepL c m' d v := RepL.mono s.bok t.ex d v h
theorem Ex.laid {p : Addr} {o : HO} (hp : m.H p = none) : Ex m ⟨m.r, m.S, upd m.H p o⟩ :=
 .all (Nat.le_refl _) (fun _ _ => rfl) (fun a u h => by show upd m.H p o a = _; rw [upd_ne (ne_of_none h hp)]; exact h) (fun i h1 h2 => by have h2 : i < m.S.length := h2; omega) (fun i o h => ⟨o, h, rfl⟩)
theorem ObR.mono (s : Sim c m) (x : Ex m m') {o : Ob} {a : Addr} (h : ObR c m o a) (k : ∀ u, m.H a = some u → m'.H a = some u) : ObR c m' o a := by
 obtain ⟨xs, u, h1, _, h2, f⟩ := h.to
 exact f rfl rfl (k _ h1) (RepL.mono s.bok x _ xs h2)
theorem Tr.laid (s : Sim c m) {p : Addr} {o : HO} (hp : m.H p = none) : Tr c m ⟨m.r, m.S, upd m.H p o⟩ where
 ex := .laid hp
 si := {
  inj := s.inj
  obj := fun i u h => ObR.mono s (.laid hp) (s.obj i u h) fun w hw => by show upd m.H p o _ = _; rw [upd_ne (ne_of_none hw hp)]; exact hw
  zs := fun z hz => by
   obtain ⟨⟨u, hu⟩, hb⟩ := s.zs z hz
   refine ⟨⟨u, ?_⟩, hb⟩
   show upd m.H p o z = _
   rw [upd_ne (ne_of_none hu hp)]
   exact hu
  tabs := fun q hq => (s.tabs q hq).ext fun b u e => by show upd m.H p o b = _; rw [upd_ne (ne_of_none e hp)]; exact e }
theorem Sim.fresh (s : Sim c m) {p : Addr} (hp : m.H p = none) : ¬ Bx m p ∧ p ∉ c.Z := by
 constructor
 ·rintro ⟨i, hi, e⟩
  obtain ⟨ds, xs, _, e2, _⟩ := s.box hi
  rw [e, hp] at e2
  cases e2
 ·intro hz
  obtain ⟨⟨u, hu⟩, _⟩ := s.zs p hz
  rw [hp] at hu
  cases hu
theorem Rep.newLst (s : Sim c m) {p : Addr} {ds : List D} {xs : List V} (hp : m.H p = none) (h : RepL c m ds xs) : Rep c ⟨m.r, m.S, upd m.H p (.lst xs)⟩ (.lst ds) (.ref p) :=
 ⟨p, xs, rfl, ⟨upd_same, (s.fresh hp).1, (s.fresh hp).2⟩, RepL.mono s.bok (.laid hp) ds xs h⟩
theorem Rep.newTup (s : Sim c m) {p : Addr} {ds : List D} {xs : List V} (hp : m.H p = none) (h : RepL c m ds xs) : Rep c ⟨m.r, m.S, upd m.H p (.tup xs)⟩ (.tup ds) (.ref p) :=
 ⟨p, xs, rfl, .inl (.inl upd_same), RepL.mono s.bok (.laid hp) ds xs h⟩
def M.box (m : M) (p : Addr) (ds : List D) (xs : List V) : M := ⟨fun i => if i = m.S.length then p else m.r i, m.S ++ [.lst ds], upd m.H p (.lst xs)⟩
theorem Ex.box {p : Addr} {ds : List D} {xs : List V} (hp : m.H p = none) : Ex m (m.box p ds xs) := .all
 (by show m.S.length ≤ (m.S ++ [Ob.lst ds]).length; simp)
 (fun i h => by show (if i = m.S.length then p else m.r i) = _; rw [if_neg (by omega)])
 (fun a u h => by show upd m.H p _ a = _; rw [upd_ne (ne_of_none h hp)]; exact h)
 (fun i h1 h2 => by
  have h2 : i < (m.S ++ [Ob.lst ds]).length := h2
  rw [List.length_append, List.length_singleton] at h2
  show m.H (if i = m.S.length then p else m.r i) = none
  rw [if_pos (by omega)]
  exact hp)
 (fun i o h => ⟨o, by
  show (m.S ++ [Ob.lst ds])[i]? = some o
  rw [List.getElem?_append_left (List.getElem?_eq_some_iff.mp h).1]
  exact h, rfl⟩)
theorem Tr.box (s : Sim c m) {p : Addr} {ds : List D} {xs : List V} (hp : m.H p = none) (h : RepL c m ds xs) : Tr c m (m.box p ds xs) where
 ex := .box hp
 si := {
  inj := fun i j hi hj e => by
   have hi : i < (m.S ++ [Ob.lst ds]).length := hi
   have hj : j < (m.S ++ [Ob.lst ds]).length := hj
   rw [List.length_append, List.length_singleton] at hi hj
   have e : (if i = m.S.length then p else m.r i) = (if j = m.S.length then p else m.r j) := e
   by_cases h1 : i = m.S.length <;> by_cases h2 : j = m.S.length
   ·omega
   ·rw [if_pos h1, if_neg h2] at e
    exact ((s.fresh hp).1 ⟨j, by omega, e.symm⟩).elim
   ·rw [if_neg h1, if_pos h2] at e
    exact ((s.fresh hp).1 ⟨i, by omega, e⟩).elim
   ·rw [if_neg h1, if_neg h2] at e
    exact s.inj i j (by omega) (by omega) e
  obj := fun i u e => by
   have e : (m.S ++ [Ob.lst ds])[i]? = some u := e
   by_cases hi : i < m.S.length
   ·rw [List.getElem?_append_left hi] at e
    have q := ObR.mono (m' := m.box p ds xs) s (.box hp) (s.obj i u e) fun w hw => by show upd m.H p _ _ = _; rw [upd_ne (ne_of_none hw hp)]; exact hw
    have z : (m.box p ds xs).r i = m.r i := (Ex.box hp).ag i hi
    rw [z]
    exact q
   ·rw [List.getElem?_append_right (by omega)] at e
    have hz : i - m.S.length = 0 := by
     rcases Nat.eq_zero_or_pos (i - m.S.length) with z | z
     ·exact z
     ·rw [List.getElem?_eq_none (by simp; omega)] at e
      cases e
    rw [hz] at e
    cases e
    have z : (m.box p ds xs).r i = p := by show (if i = m.S.length then p else m.r i) = p; rw [if_pos (by omega)]
    rw [z]
    exact ⟨xs, upd_same, RepL.mono s.bok (.box hp) ds xs h⟩
  zs := fun z hz => by
   obtain ⟨⟨u, hu⟩, hb⟩ := s.zs z hz
   refine ⟨⟨u, ?_⟩, (Ex.box hp).nbx hu hb⟩
   show upd m.H p _ z = _
   rw [upd_ne (ne_of_none hu hp)]
   exact hu
  tabs := fun q hq => (s.tabs q hq).ext fun b u e => by show upd m.H p _ b = _; rw [upd_ne (ne_of_none e hp)]; exact e }
def M.put (m : M) (n : Nat) (ds : List D) (xs : List V) : M := ⟨m.r, m.S.set n (.lst ds), upd m.H (m.r n) (.lst xs)⟩
theorem BoxOk.tab (s : BoxOk m) {H' : Hp} (k : ∀ a o, m.H a = some o → ¬ Bx m a → H' a = some o) {P : Addr} {q : Str} (h : LamX.TabS m.H P q) : LamX.TabS H' P q := by
 obtain ⟨ps, h1, h2, h3⟩ := h
 refine ⟨ps, k _ _ h1 (s.no h1 fun z => z), h2, fun pos cv hc => ?_⟩
 obtain ⟨d, e1, e2⟩ := h3 pos cv hc
 exact ⟨d, e1, k _ _ e2 (s.no e2 fun z => z)⟩
theorem Ex.put (s : BoxOk m) {n : Nat} (hn : n < m.S.length) (hk : ∃ es, m.S[n]? = some (.lst es)) {ds : List D} {xs : List V} : Ex m (m.put n ds xs) := by
 have k : ∀ a o, m.H a = some o → ¬ Bx m a → (m.put n ds xs).H a = some o := fun a u h nb => by
  show upd m.H (m.r n) _ a = _
  rw [upd_ne (fun e => nb ⟨n, hn, e.symm⟩)]
  exact h
 refine ⟨?_, fun _ _ => rfl, fun a o h n _ => k a o h n, fun a o h n => ⟨o, k a o h n⟩, fun i h1 h2 => ?_, fun i o h => ?_⟩
 ·show m.S.length ≤ (m.S.set n _).length
  simp
 ·have h2 : i < (m.S.set n (.lst ds)).length := h2
  rw [List.length_set] at h2
  omega
 ·by_cases e : n = i
  ·subst e
   obtain ⟨es, he⟩ := hk
   rw [he] at h
   cases h
   exact ⟨.lst ds, List.getElem?_set_self hn, rfl⟩
  ·exact ⟨o, by rw [show (m.put n ds xs).S = m.S.set n (.lst ds) from rfl, List.getElem?_set_ne e]; exact h, rfl⟩
theorem Tr.put (s : Sim c m) {n : Nat} (hn : n < m.S.length) (hk : ∃ es, m.S[n]? = some (.lst es)) {ds : List D} {xs : List V} (h : RepL c m ds xs) : Tr c m (m.put n ds xs) where
 ex := .put s.bok hn hk
 si := {
  inj := fun i j hi hj e => by
   have hi : i < (m.S.set n (.lst ds)).length := hi
   have hj : j < (m.S.set n (.lst ds)).length := hj
   rw [List.length_set] at hi hj
   exact s.inj i j hi hj e
  obj := fun i u e => by
   have e : (m.S.set n (.lst ds))[i]? = some u := e
   by_cases hi : n = i
   ·subst hi
    rw [List.getElem?_set_self hn] at e
    cases e
    exact ⟨xs, upd_same, RepL.mono s.bok (.put s.bok hn hk) ds xs h⟩
   ·rw [List.getElem?_set_ne hi] at e
    have hil : i < m.S.length := by
     rcases Nat.lt_or_ge i m.S.length with z | z
     ·exact z
     ·rw [List.getElem?_eq_none z] at e; cases e
    refine ObR.mono (m' := m.put n ds xs) s (.put s.bok hn hk) (s.obj i u e) fun w hw => ?_
    show upd m.H (m.r n) _ (m.r i) = _
    rw [upd_ne (fun z => hi (s.inj i n hil hn z).symm)]
    exact hw
  zs := fun z hz => by
   obtain ⟨⟨u, hu⟩, hb⟩ := s.zs z hz
   refine ⟨⟨u, ?_⟩, ?_⟩
   ·show upd m.H (m.r n) _ z = _
    rw [upd_ne (fun e => hb ⟨n, hn, e.symm⟩)]
    exact hu
   ·rintro ⟨i, hi, e⟩
    have hi : i < (m.S.set n (.lst ds)).length := hi
    rw [List.length_set] at hi
    exact hb ⟨i, hi, e⟩
  tabs := fun q hq => s.bok.tab (fun a u e nb => by
   show upd m.H (m.r n) _ a = _
   rw [upd_ne (fun z => nb ⟨n, hn, z.symm⟩)]
   exact e) (s.tabs q hq) }
mutual
theorem Rep.widen {K : PySem.W.Frag} {Z Z' : List Addr} (hz : ∀ z, z ∈ Z' → z ∈ Z ∨ m.H z = none) : ∀ (d : D) (v : V), Rep ⟨K, Z⟩ m d v → Rep ⟨K, Z'⟩ m d v
 | .non, v, h => h
 | .bl _, v, h => h
 | .int _, v, h => h
 | .str _, v, h => h
 | .tup ds, v, h => by
  obtain ⟨a, xs, e, h1, h2⟩ := h
  exact ⟨a, xs, e, h1, RepL.widen hz ds xs h2⟩
 | .lst ds, v, h => by
  obtain ⟨a, xs, e, ⟨h1, h3, h4⟩, h2⟩ := h
  refine ⟨a, xs, e, ⟨h1, h3, fun z => ?_⟩, RepL.widen hz ds xs h2⟩
  rcases hz a z with q | q
  ·exact h4 q
  ·rw [h1] at q; cases q
 | .rol ds, v, h => by
  obtain ⟨a, xs, e, h1, h2⟩ := h
  exact ⟨a, xs, e, h1, RepL.widen hz ds xs h2⟩
 | .dic ks vs, v, h => by
  obtain ⟨a, kvs, e, ⟨h1, h3, h4⟩, h5, h2⟩ := h
  refine ⟨a, kvs, e, ⟨h1, h3, fun z => ?_⟩, h5, RepL.widen hz vs _ h2⟩
  rcases hz a z with q | q
  ·exact h4 q
  ·rw [h1] at q; cases q
 | .ref n, v, h => h
 | .dref n, v, h => h
 | .iref k n, v, h => h
 | .tag k ds, v, h => by
  obtain ⟨a, xs, e, h1, h2⟩ := h
  exact ⟨a, xs, e, h1, RepL.widen hz ds xs h2⟩
theorem RepL.widen {K : PySem.W.Frag} {Z Z' : List Addr} (hz : ∀ z, z ∈ Z' → z ∈ Z ∨ m.H z = none) : ∀ (ds : List D) (vs : List V), RepL ⟨K, Z⟩ m ds vs → RepL ⟨K, Z'⟩ m ds vs
 | [], vs, h => h
 | d :: ds, vs, h => by
  obtain ⟨y, r, e, h1, h2⟩ := h
  exact ⟨y, r, e, Rep.widen hz d y h1, RepL.widen hz ds r h2⟩
end
def M.hide (m : M) (p : Addr) : M := ⟨m.r, m.S, fun a => if a = p then none else m.H a⟩
theorem M.hide_ne {p a : Addr} (h : a ≠ p) : (m.hide p).H a = m.H a := by show (if a = p then none else m.H a) = _; rw [if_neg h]
theorem M.hide_upd {p : Addr} {o : HO} (h : m.H p = some o) : upd (m.hide p).H p o = m.H := by
 funext a
 by_cases e : a = p
 ·subst e; rw [upd_same, h]
 ·rw [upd_ne e, M.hide_ne e]
theorem M.hide_at {p a : Addr} {u w : HO} (hp : m.H p = some u) (b : BxH u) (h : m.H a = some w) (n : ¬ BxH w) : (m.hide p).H a = some w := by
 rw [M.hide_ne (fun z => by
  subst z
  rw [hp] at h
  cases h
  exact n b)]
 exact h
theorem TagR.hide {K : PySem.W.Frag} {p : Addr} {u : HO} (hp : m.H p = some u) (b : BxH u) : ∀ {k : Nat} {a : Addr} {xs : List V}, TagR K m k a xs → TagR K (m.hide p) k a xs
 | 0, a, _, h => by
  obtain ⟨o, h1, h2⟩ := h
  exact ⟨o, M.hide_at hp b h1 fun z => z, h2⟩
 | n + 1, _, _, h => by
  rcases h with ⟨h0, h⟩ | h
  ·exact .inl ⟨h0, M.hide_at hp b h fun z => z⟩
  obtain ⟨h0, hk, h⟩ := h
  refine .inr ⟨h0, hk, ?_⟩
  rcases h with ⟨dd, f, v, e, h1, h2⟩ | ⟨e, h1⟩
  ·exact .inl ⟨dd, f, v, e, M.hide_at hp b h1 fun z => z, M.hide_at hp b h2 fun z => z⟩
  ·exact .inr ⟨e, M.hide_at hp b h1 fun z => z⟩
mutual
theorem Rep.hide {K : PySem.W.Frag} {Z : List Addr} {p : Addr} {ys : List V} (hp : m.H p = some (.lst ys)) : ∀ (d : D) (v : V), Rep ⟨K, p :: Z⟩ m d v → Rep ⟨K, Z⟩ (m.hide p) d v
 | .non, v, h => h
 | .bl _, v, h => h
 | .int _, v, h => h
 | .str _, v, h => h
 | .tup ds, v, h => by
  obtain ⟨a, xs, e, h1, h2⟩ := h
  refine ⟨a, xs, e, ?_, RepL.hide hp ds xs h2⟩
  rcases h1 with h1 | h1
  ·have hne : a ≠ p := fun z => by
    subst z
    rcases h1 with h1 | ⟨o, h1⟩ <;> (rw [hp] at h1; cases h1)
   refine .inl ?_
   rcases h1 with h1 | ⟨o, h1⟩
   ·exact .inl (by rw [M.hide_ne hne]; exact h1)
   ·exact .inr ⟨o, by rw [M.hide_ne hne]; exact h1⟩
  ·exact .inr h1
 | .lst ds, v, h => by
  obtain ⟨a, xs, e, ⟨h1, h3, h4⟩, h2⟩ := h
  have hne : a ≠ p := fun z => h4 (by subst z; exact List.mem_cons_self ..)
  exact ⟨a, xs, e, ⟨by rw [M.hide_ne hne]; exact h1, h3, fun z => h4 (List.mem_cons_of_mem _ z)⟩, RepL.hide hp ds xs h2⟩
 | .rol ds, v, h => by
  obtain ⟨a, xs, e, h1, h2⟩ := h
  refine ⟨a, xs, e, ?_, RepL.hide hp ds xs h2⟩
  rcases h1 with ⟨o, h1⟩ | h1
  ·have hne : a ≠ p := fun z => by
    subst z
    rw [hp] at h1; cases h1
   exact .inl ⟨o, by rw [M.hide_ne hne]; exact h1⟩
  ·exact .inr h1
 | .dic ks vs, v, h => by
  obtain ⟨a, kvs, e, ⟨h1, h3, h4⟩, h5, h2⟩ := h
  have hne : a ≠ p := fun z => h4 (by subst z; exact List.mem_cons_self ..)
  exact ⟨a, kvs, e, ⟨by rw [M.hide_ne hne]; exact h1, h3, fun z => h4 (List.mem_cons_of_mem _ z)⟩, h5, RepL.hide hp vs _ h2⟩
 | .ref n, v, h => h
 | .dref n, v, h => h
 | .iref k n, v, h => h
 | .tag k ds, v, h => by
  obtain ⟨a, xs, e, h1, h2⟩ := h
  exact ⟨a, xs, e, TagR.hide hp trivial h1, RepL.hide hp ds xs h2⟩
theorem RepL.hide {K : PySem.W.Frag} {Z : List Addr} {p : Addr} {ys : List V} (hp : m.H p = some (.lst ys)) : ∀ (ds : List D) (vs : List V), RepL ⟨K, p :: Z⟩ m ds vs → RepL ⟨K, Z⟩ (m.hide p) ds vs
 | [], vs, h => h
 | d :: ds, vs, h => by
  obtain ⟨y, r, e, h1, h2⟩ := h
  exact ⟨y, r, e, Rep.hide hp d y h1, RepL.hide hp ds r h2⟩
end
theorem tabS_hideI {p : Addr} {u : HO} {P : Addr} {q : Str} (h : LamX.TabS m.H P q) (hp : m.H p = some u) (b : BxH u) : LamX.TabS (m.hide p).H P q := by
 have ne : ∀ (a : Addr) (o : HO), m.H a = some o → ¬ BxH o → a ≠ p := fun a o h n z => by subst z; rw [hp] at h; cases h; exact n b
 obtain ⟨ps, h1, h2, h3⟩ := h
 refine ⟨ps, by rw [M.hide_ne (ne _ _ h1 fun z => z)]; exact h1, h2, fun pos cv hc => ?_⟩
 obtain ⟨d, e1, e2⟩ := h3 pos cv hc
 exact ⟨d, e1, by rw [M.hide_ne (ne _ _ e2 fun z => z)]; exact e2⟩
theorem Sim.hide {K : PySem.W.Frag} {Z : List Addr} {p : Addr} {ys : List V} (s : Sim ⟨K, p :: Z⟩ m) (hp : m.H p = some (.lst ys)) : Sim ⟨K, Z⟩ (m.hide p) ∨ p ∈ Z := by
 by_cases hpz : p ∈ Z
 ·exact .inr hpz
 ·refine .inl ⟨s.inj, fun i o h => ?_, fun z hz => ?_, fun q hq => tabS_hideI (s.tabs q hq) hp trivial⟩
  ·have h : m.S[i]? = some o := h
   have hb := (s.zs p (List.mem_cons_self ..)).2
   have hil : i < m.S.length := by
    rcases Nat.lt_or_ge i m.S.length with z | z
    ·exact z
    ·rw [List.getElem?_eq_none z] at h; cases h
   have q := s.obj i o h
   ·obtain ⟨xs, u, h1, _, h2, f⟩ := q.to
    exact f rfl rfl (by show (m.hide p).H (m.r i) = _; rw [M.hide_ne (fun e => hb ⟨i, hil, e⟩)]; exact h1) (RepL.hide hp _ xs h2)
  ·have hz : z ∈ Z := hz
   obtain ⟨⟨o, ho⟩, hb⟩ := s.zs z (List.mem_cons_of_mem _ hz)
   exact ⟨⟨o, by rw [M.hide_ne (fun e => hpz (by rw [← e]; exact hz))]; exact ho⟩, hb⟩
theorem Ex.hideR {p : Addr} {u : HO} (x : Ex m m') (h0 : m.H p = none) (hp : m'.H p = some u) (b : BxH u) : Ex m (m'.hide p) where
 le := x.le
 ag := x.ag
 pr := fun a o h n t => by rw [M.hide_ne (ne_of_none h h0)]; exact x.pr a o h n t
 th := fun a o h n => by rw [M.hide_ne (ne_of_none h h0)]; exact x.th a o h n
 nw := x.nw
 kd := x.kd
theorem Ex.then {m0 m6 : M} {c : C} (s' : BoxOk m') (x' : Ex m0 m') (t : Tr c m' m6) : Ex m0 m6 := by
 refine ⟨Nat.le_trans x'.le t.ex.le, fun i h => by rw [t.ex.ag i (Nat.lt_of_lt_of_le h x'.le), x'.ag i h], fun a o h n z => t.ex.pr _ _ (x'.pr _ _ h n z) (x'.nbx h n) z, fun a o h n => ?_, fun i h1 h2 => ?_, fun i o h => ?_⟩
 ·obtain ⟨o', h'⟩ := x'.th a o h n
  exact t.ex.th a o' h' (x'.nbx h n)
 rotate_left
 ·obtain ⟨o1, h1, k1⟩ := x'.kd _ _ ‹_›
  obtain ⟨o2, h2, k2⟩ := t.ex.kd _ o1 h1
  exact ⟨o2, h2, k2.trans k1⟩
 ·by_cases hl : i < m'.S.length
  ·rw [t.ex.ag i hl]; exact x'.nw i h1 hl
  ·have e := t.ex.nw i (by omega) h2
   cases z : m0.H (m6.r i) with
   | none => rfl
   | some o =>
    by_cases hb : Bx m0 (m6.r i)
    ·obtain ⟨j, hj, ej⟩ := hb
     obtain ⟨u, ey, _⟩ := s' j (Nat.lt_of_lt_of_le hj x'.le)
     rw [x'.ag j hj, ej, e] at ey
     cases ey
    ·obtain ⟨o', h'⟩ := x'.th _ _ z hb
     rw [h'] at e; cases e
theorem Sim.apart {K : PySem.W.Frag} {Z : List Addr} {p : Addr} {ys : List V} (s : Sim ⟨K, Z⟩ m) (hp : m.H p = none) : Sim ⟨K, p :: Z⟩ ⟨m.r, m.S, upd m.H p (.lst ys)⟩ where
 inj := s.inj
 obj := fun i o h => by
  have q := s.obj i o h
  ·obtain ⟨xs, u, h1, _, h2, f⟩ := q.to
   refine f rfl rfl (by show upd m.H p _ _ = _; rw [upd_ne (ne_of_none h1 hp)]; exact h1) ?_
   refine RepL.mono (m := m) s.bok (.laid hp) _ xs (RepL.widen (fun z hz => ?_) _ xs h2)
   rcases List.mem_cons.mp hz with e | e
   ·exact .inr (e ▸ hp)
   ·exact .inl e
 zs := fun z hz => by
  rcases List.mem_cons.mp hz with e | e
  ·exact ⟨⟨_, by rw [e]; exact upd_same⟩, by rw [e]; exact (s.fresh hp).1⟩
  ·obtain ⟨⟨o, ho⟩, hb⟩ := s.zs z e
   exact ⟨⟨o, by show upd m.H p _ _ = _; rw [upd_ne (ne_of_none ho hp)]; exact ho⟩, hb⟩
 tabs := fun q hq => (s.tabs q hq).ext fun b u e => by show upd m.H p _ b = _; rw [upd_ne (ne_of_none e hp)]; exact e
def M.over (m : M) (p : Addr) (ys : List V) : M := ⟨m.r, m.S, upd m.H p (.lst ys)⟩
theorem M.over_eq {p : Addr} {ys : List V} : (⟨(m.hide p).r, (m.hide p).S, upd (m.hide p).H p (.lst ys)⟩ : M) = m.over p ys := by
 have e : upd (m.hide p).H p (.lst ys) = upd m.H p (.lst ys) := by
  funext a
  by_cases h : a = p
  ·subst h; rw [upd_same, upd_same]
  ·rw [upd_ne h, upd_ne h, M.hide_ne h]
 unfold M.over
 rw [e]
 rfl
theorem Sim.over {K : PySem.W.Frag} {Z : List Addr} {p : Addr} {ys zs : List V} (s : Sim ⟨K, p :: Z⟩ m) (hp : m.H p = some (.lst ys)) (hz : p ∉ Z) : Sim ⟨K, p :: Z⟩ (m.over p zs) := by
 rcases s.hide hp with h | h
 ·rw [← M.over_eq]
  exact Sim.apart h (by show (if p = p then none else m.H p) = none; rw [if_pos rfl])
 ·exact absurd h hz
theorem RepL.over {K : PySem.W.Frag} {Z : List Addr} {p : Addr} {ys zs : List V} (s : Sim ⟨K, p :: Z⟩ m) (hp : m.H p = some (.lst ys)) (hz : p ∉ Z) {ds : List D} {vs : List V} (h : RepL ⟨K, p :: Z⟩ m ds vs) : RepL ⟨K, p :: Z⟩ (m.over p zs) ds vs := by
 rcases s.hide hp with hs | hs
 ·rw [← M.over_eq]
  have hn : (m.hide p).H p = none := by show (if p = p then none else m.H p) = none; rw [if_pos rfl]
  refine RepL.mono (m := m.hide p) hs.bok (.laid hn) ds vs (RepL.widen (fun z hz => ?_) ds vs (RepL.hide hp ds vs h))
  rcases List.mem_cons.mp hz with e | e
  ·exact .inr (by rw [e]; exact hn)
  ·exact .inl e
 ·exact absurd hs hz
end
abbrev EX := En → Sto → Option (D × Sto)
abbrev TX := En → Sto → Option (Bool × Sto)
abbrev AX := En → Sto → Option (List D × Sto)
abbrev GX := D → En → Sto → Option (En × Sto)
abbrev IX := En → Sto → Option (List D × List Nat × Sto)
inductive Out where
 | nx (e : En) (S : Sto)
 | rt (d : D) (S : Sto)
 | bk (e : En) (S : Sto)
 | ct (e : En) (S : Sto)
abbrev SX := En → Sto → Option Out
def ER (c : C) (m : M) (env : En) (σ : L2.St) : Prop := env.length = σ.length ∧ ∀ (i : Nat) (d : D), env[i]? = some (some d) → ∃ x, σ[i]? = some (some x) ∧ Rep c m d x
section
variable {c : C} {m m' : M} {env : En} {σ : L2.St}
theorem ER.tr (s : Sim c m) (t : Tr c m m') (h : ER c m env σ) : ER c m' env σ := ⟨h.1, fun i d e => by
 obtain ⟨x, h1, h2⟩ := h.2 i d e
 exact ⟨x, h1, t.rep s h2⟩⟩
theorem ER.set (h : ER c m env σ) {d : D} {x : V} (r : Rep c m d x) (i : Nat) : ER c m (env.set i (some d)) (σ.set i (some x)) := by
 refine ⟨by rw [List.length_set, List.length_set]; exact h.1, fun j e q => ?_⟩
 by_cases hj : i = j
 ·subst hj
  have hl : i < env.length := by
   rcases Nat.lt_or_ge i env.length with z | z
   ·exact z
   ·rw [List.getElem?_eq_none (by rw [List.length_set]; exact z)] at q; cases q
  rw [List.getElem?_set_self hl] at q
  cases q
  exact ⟨x, by rw [List.getElem?_set_self (by rw [← h.1]; exact hl)], r⟩
 ·rw [List.getElem?_set_ne hj] at q
  obtain ⟨y, h1, h2⟩ := h.2 j e q
  exact ⟨y, by rw [List.getElem?_set_ne hj]; exact h1, h2⟩
end
def tE (K : PySem.W.Frag) (f : EX) : TE := fun σ H Q => ∃ (Z : List Addr) (m : M) (env : En) (v : D) (S' : Sto), m.H = H ∧ Sim ⟨K, Z⟩ m ∧ ER ⟨K, Z⟩ m env σ ∧ f env m.S = some (v, S') ∧
 ∀ m' x, m'.S = S' → Tr ⟨K, Z⟩ m m' → Rep ⟨K, Z⟩ m' v x → Q x m'.H
def tT (K : PySem.W.Frag) (f : TX) : TT := fun σ H Q => ∃ (Z : List Addr) (m : M) (env : En) (b : Bool) (S' : Sto), m.H = H ∧ Sim ⟨K, Z⟩ m ∧ ER ⟨K, Z⟩ m env σ ∧ f env m.S = some (b, S') ∧
 ∀ m', m'.S = S' → Tr ⟨K, Z⟩ m m' → Q b m'.H
def tA (K : PySem.W.Frag) (f : AX) : TA := fun σ H Q => ∃ (Z : List Addr) (m : M) (env : En) (v : List D) (S' : Sto), m.H = H ∧ Sim ⟨K, Z⟩ m ∧ ER ⟨K, Z⟩ m env σ ∧ f env m.S = some (v, S') ∧
 ∀ m' x, m'.S = S' → Tr ⟨K, Z⟩ m m' → RepL ⟨K, Z⟩ m' v x → Q x m'.H
def tG (K : PySem.W.Frag) (vs : List Nat) (g : GX) : TG := fun x σ H Q => ∃ (Z : List Addr) (m : M) (env : En) (d : D) (env' : En) (S' : Sto), m.H = H ∧ Sim ⟨K, Z⟩ m ∧ ER ⟨K, Z⟩ m env σ ∧ Rep ⟨K, Z⟩ m d x ∧ g d env m.S = some (env', S') ∧
 ∀ m' σ', m'.S = S' → Tr ⟨K, Z⟩ m m' → ER ⟨K, Z⟩ m' env' σ' → (σ'.length = σ.length ∧ ∀ i, i ∉ vs → σ'[i]? = σ[i]?) → Q σ' m'.H
structure ItOk (K : PySem.W.Frag) (Z : List Addr) (m : M) (ds : List D) (gs : List Nat) (J : It) : Prop where
 go : ∀ Z' m', (∀ z, z ∈ Z → z ∈ Z') → (∀ z, z ∈ Z' → z ∈ Z ∨ m.H z = none) → Ex m m' → Sim ⟨K, Z'⟩ m' → (∀ n, n ∈ gs → m'.S[n]? = m.S[n]?) → ∀ i, (ds.length ≤ i → J.stop i m'.H) ∧
  ∀ d, ds[i]? = some d → J.go i m'.H ∧ ∀ x H3, J.yld i m'.H x H3 → ∃ m3 : M, m3.H = H3 ∧ m3.S = m'.S ∧ Tr ⟨K, Z'⟩ m' m3 ∧ Rep ⟨K, Z'⟩ m3 d x
def tI (K : PySem.W.Frag) (f : IX) : TI := fun σ H R => ∃ (Z : List Addr) (m : M) (env : En) (ds : List D) (gs : List Nat) (S' : Sto), m.H = H ∧ Sim ⟨K, Z⟩ m ∧ ER ⟨K, Z⟩ m env σ ∧ f env m.S = some (ds, gs, S') ∧
 ∀ m' J, m'.S = S' → Tr ⟨K, Z⟩ m m' → ItOk K Z m' ds gs J → R J m'.H
def Post (c : C) (m : M) (D : Ends) : Out → Prop
 | .nx e S => ∀ m' σ', m'.S = S → Tr c m m' → ER c m' e σ' → D.nx σ' m'.H
 | .rt d S => ∀ m' x, m'.S = S → Tr c m m' → Rep c m' d x → D.rt x m'.H
 | .bk e S => ∀ m' σ', m'.S = S → Tr c m m' → ER c m' e σ' → D.bk σ' m'.H
 | .ct e S => ∀ m' σ', m'.S = S → Tr c m m' → ER c m' e σ' → D.ct σ' m'.H
def tS (K : PySem.W.Frag) (b : SX) : TS := fun D σ H => ∃ (Z : List Addr) (m : M) (env : En) (o : Out), m.H = H ∧ Sim ⟨K, Z⟩ m ∧ ER ⟨K, Z⟩ m env σ ∧ b env m.S = some o ∧ Post ⟨K, Z⟩ m D o
abbrev EJ (X : Cx) (e : Expr) (f : EX) : Prop := PE X e (tE X.K f)
abbrev TJ (X : Cx) (e : Expr) (f : TX) : Prop := PT X e (tT X.K f)
abbrev AJ (X : Cx) (e : List Expr) (f : AX) : Prop := PA X e (tA X.K f)
abbrev GJ (X : Cx) (e : Expr) (vs : List Nat) (f : GX) : Prop := PG X e (tG X.K vs f)
abbrev IJ (X : Cx) (tg e : Expr) (f : IX) : Prop := PI X tg e (tI X.K f)
abbrev SJ (X : Cx) (s : Stmt) (b : SX) : Prop := PS X s (tS X.K b)
abbrev BJ (X : Cx) (s : List Stmt) (b : SX) : Prop := PSs X s (tS X.K b)
section
variable {X : Cx} {K : PySem.W.Frag}
theorem pe_wk {e : Expr} {t t' : TE} (h : PE X e t) (k : ∀ σ H Q, t' σ H Q → t σ H Q) : PE X e t' := ⟨fun pins s σ H Q I w => h.run pins s σ H Q I (k σ H Q w)⟩
theorem pt_wk {e : Expr} {t t' : TT} (h : PT X e t) (k : ∀ σ H Q, t' σ H Q → t σ H Q) : PT X e t' := ⟨fun pins s σ H Q I w => h.run pins s σ H Q I (k σ H Q w)⟩
theorem pw_wk {e : Expr} {t t' : TT} (h : PW X e t) (k : ∀ σ H Q, t' σ H Q → t σ H Q) : PW X e t' := ⟨fun wh pins s σ H Q I w => h.run wh pins s σ H Q I (k σ H Q w)⟩
theorem pa_wk {e : List Expr} {t t' : TA} (h : PA X e t) (k : ∀ σ H Q, t' σ H Q → t σ H Q) : PA X e t' := ⟨fun pos pins s σ H Q I w => h.run pos pins s σ H Q I (k σ H Q w)⟩
theorem pg_wk {e : Expr} {t t' : TG} (h : PG X e t) (k : ∀ v σ H Q, t' v σ H Q → t v σ H Q) : PG X e t' := ⟨fun pins s σ H v u Q I r w => h.run pins s σ H v u Q I r (k v σ H Q w)⟩
theorem pi_wk {tg e : Expr} {t t' : TI} (h : PI X tg e t) (k : ∀ σ H Q, t' σ H Q → t σ H Q) : PI X tg e t' := ⟨fun pins s σ H Q I w => h.run pins s σ H Q I (k σ H Q w)⟩
theorem ps_wk {e : Stmt} {t t' : TS} (h : PS X e t) (k : ∀ D σ H, t' D σ H → t D σ H) : PS X e t' := ⟨fun pins s σ H D I w => h.run pins s σ H D I (k D σ H w)⟩
theorem pss_wk {e : List Stmt} {t t' : TS} (h : PSs X e t) (k : ∀ D σ H, t' D σ H → t D σ H) : PSs X e t' := ⟨fun pins s σ H D I w => h.run pins s σ H D I (k D σ H w)⟩
def eVar (i : Nat) : EX := fun e S => match e[i]? with
 | some (some d) => some (d, S)
 | _ => none
theorem eVar_inv {i : Nat} {e : En} {S : Sto} {d : D} {S' : Sto} (h : eVar i e S = some (d, S')) : e[i]? = some (some d) ∧ S' = S := by
 unfold eVar at h
 split at h
 ·rename_i d' q
  cases h
  exact ⟨q, rfl⟩
 ·cases h
theorem ej_var {i : Nat} {x : Str} {pos : Pos} (hN : X.N[i]? = some x) (hv : Vis X.env.scope x) (hd : (x == ("__debug__" : Str)) = false) (hcd : (x == ("__classdict__" : Str)) = false) : EJ X (.Name x pos) (eVar i) :=
 pe_wk (pe_var hN hv hd hcd) fun σ H Q ⟨Z, m, env, v, S', e, s, er, hf, q⟩ => by
  subst e
  obtain ⟨h1, h2⟩ := eVar_inv hf
  obtain ⟨x, hx, r⟩ := er.2 i v h1
  exact ⟨x, hx, q m x h2.symm (.refl s) r⟩
def eC (d : D) : EX := fun _ S => some (d, S)
theorem ej_c {e : Expr} {v : V} {d : D} (h : PE X e (tC v)) (r : ∀ c m, Rep c m d v) : EJ X e (eC d) :=
 pe_wk h fun σ H Q ⟨Z, m, env, v', S', e, s, er, hf, q⟩ => by
  subst e
  cases hf
  exact q m v rfl (.refl s) (r _ _)
theorem ej_int {i : Int} {j pos} : EJ X (.Constant (.int i) j pos) (eC (.int i)) := ej_c pe_int fun _ _ => rfl
theorem ej_bl {i : Bool} {j pos} : EJ X (.Constant (.bool i) j pos) (eC (.bl i)) := ej_c pe_bl fun _ _ => rfl
theorem ej_non {j pos} : EJ X (.Constant .none j pos) (eC .non) := ej_c pe_non fun _ _ => rfl
abbrev F2 := Sto → D → D → Option D
abbrev F1 := Sto → D → Option D
def e2 (f : F2) (a b : EX) : EX := fun e S => (a e S).bind fun p => (b e p.2).bind fun q => (f q.2 p.1 q.1).map fun d => (d, q.2)
def e1 (f : F1) (a : EX) : EX := fun e S => (a e S).bind fun p => (f p.2 p.1).map fun d => (d, p.2)
theorem e2_inv {f : F2} {a b : EX} {e : En} {S S' : Sto} {v : D} (h : e2 f a b e S = some (v, S')) : ∃ x S1 y, a e S = some (x, S1) ∧ b e S1 = some (y, S') ∧ f S' x y = some v := by
 unfold e2 at h
 obtain ⟨⟨x, S1⟩, h1, h⟩ := Option.bind_eq_some_iff.mp h
 obtain ⟨⟨y, S2⟩, h2, h⟩ := Option.bind_eq_some_iff.mp h
 obtain ⟨d, h3, h⟩ := Option.map_eq_some_iff.mp h
 cases h
 exact ⟨x, S1, y, h1, h2, h3⟩
theorem e1_inv {f : F1} {a : EX} {e : En} {S S' : Sto} {v : D} (h : e1 f a e S = some (v, S')) : ∃ x, a e S = some (x, S') ∧ f S' x = some v := by
 unfold e1 at h
 obtain ⟨⟨x, S1⟩, h1, h⟩ := Option.bind_eq_some_iff.mp h
 obtain ⟨d, h3, h⟩ := Option.map_eq_some_iff.mp h
 cases h
 exact ⟨x, h1, h3⟩
def r2 (K : PySem.W.Frag) (f : F2) : R2 := fun x y H Q => ∃ (Z : List Addr) (m : M) (a b d : D), m.H = H ∧ Sim ⟨K, Z⟩ m ∧ Rep ⟨K, Z⟩ m a x ∧ Rep ⟨K, Z⟩ m b y ∧ f m.S a b = some d ∧
 ∀ m' v, m'.S = m.S → Tr ⟨K, Z⟩ m m' → Rep ⟨K, Z⟩ m' d v → Q v m'.H
def r1 (K : PySem.W.Frag) (f : F1) : V → Hp → VK → Prop := fun x H Q => ∃ (Z : List Addr) (m : M) (a d : D), m.H = H ∧ Sim ⟨K, Z⟩ m ∧ Rep ⟨K, Z⟩ m a x ∧ f m.S a = some d ∧
 ∀ m' v, m'.S = m.S → Tr ⟨K, Z⟩ m m' → Rep ⟨K, Z⟩ m' d v → Q v m'.H
theorem te_op {f : F2} {fa fb : EX} {σ : L2.St} {H : Hp} {Q : VK} (h : tE K (e2 f fa fb) σ H Q) : tOp (r2 K f) (tE K fa) (tE K fb) σ H Q := by
 obtain ⟨Z, m, env, v, S', e, s, er, hf, q⟩ := h
 obtain ⟨x, S1, y, h1, h2, h3⟩ := e2_inv hf
 refine ⟨Z, m, env, x, S1, e, s, er, h1, fun m1 vx e1 t1 rx => ?_⟩
 refine ⟨Z, m1, env, y, S', rfl, t1.si, er.tr s t1, by rw [e1]; exact h2, fun m2 vy e2 t2 ry => ?_⟩
 refine ⟨Z, m2, x, y, v, rfl, t2.si, t2.rep t1.si rx, ry, by rw [e2]; exact h3, fun m3 w e3 t3 rw => ?_⟩
 exact q m3 w (e3.trans e2) ((t1.trans s t2).trans s t3) rw
variable {a b : Expr} {pos : Pos} {fa fb : EX}
theorem ej_op {op : Operator} {f : F2} (ho : OpR X (binaryOp op) (r2 X.K f)) (ha : EJ X a fa) (hb : EJ X b fb) : EJ X (.BinOp a op b pos) (e2 f fa fb) := pe_wk (pe_op ho ha hb) fun _ _ _ h => te_op h
theorem ej_cmp {op : CmpOp} {f : F2} (ho : OpR X (compareOp op) (r2 X.K f)) (ha : EJ X a fa) (hb : EJ X b fb) (hm : behindInMarks op b = false) : EJ X (.Compare a [op] [b] pos) (e2 f fa fb) := pe_wk (pe_cmpR ho ha hb hm) fun _ _ _ h => te_op h
def tOf (f : EX) : TX := fun e S => (f e S).bind fun p => match p.1 with
 | .bl b => some (b, p.2)
 | _ => none
theorem tOf_inv {f : EX} {e : En} {S S' : Sto} {b : Bool} (h : tOf f e S = some (b, S')) : f e S = some (.bl b, S') := by
 unfold tOf at h
 obtain ⟨⟨x, S1⟩, h1, h⟩ := Option.bind_eq_some_iff.mp h
 cases x with
 | bl c => cases h; exact h1
 | _ => cases h
theorem tt_test {f : EX} {σ : L2.St} {H : Hp} {Q : Bool → Hp → Prop} (h : tT K (tOf f) σ H Q) : tTest (tE K f) σ H Q := by
 obtain ⟨Z, m, env, v, S', e, s, er, hf, q⟩ := h
 exact ⟨Z, m, env, .bl v, S', e, s, er, tOf_inv hf, fun m1 vx e1 t1 rx => ⟨v, rx, q m1 e1 t1⟩⟩
theorem tj_cmp {op : CmpOp} {f : F2} (ho : OpR X (compareOp op) (r2 X.K f)) (ha : EJ X a fa) (hb : EJ X b fb) (hm : behindInMarks op b = false) : TJ X (.Compare a [op] [b] pos) (tOf (e2 f fa fb)) := by
 refine pt_wk (pt_cmpR ho ha hb hm) fun σ H Q h => ?_
 obtain ⟨Z, m, env, v, S', e, s, er, hf, q⟩ := h
 exact te_op ⟨Z, m, env, .bl v, S', e, s, er, tOf_inv hf, fun m1 vx e1 t1 rx => ⟨v, rx, q m1 e1 t1⟩⟩
theorem tj_val {e : Expr} {f : EX} (h : EJ X e f) (he : ∀ whole, isTrue e X.env whole = (do let v ← whole; standAt e.pos; holding [v] (truthy v)) := by intro _; rfl) : TJ X e (tOf f) := pt_wk (pt_val h he) fun _ _ _ h => tt_test h
def tAnd' (f g : TX) : TX := fun e S => (f e S).bind fun p => if p.1 = true then g e p.2 else some (false, p.2)
def tOr' (f g : TX) : TX := fun e S => (f e S).bind fun p => if p.1 = true then some (true, p.2) else g e p.2
def tNot' (f : TX) : TX := fun e S => (f e S).map fun p => (!p.1, p.2)
theorem tt_or {f g : TX} {σ : L2.St} {H : Hp} {Q : Bool → Hp → Prop} (h : tT K (tOr' f g) σ H Q) : tOr (tT K f) (tT K g) σ H Q := by
 obtain ⟨Z, m, env, v, S', e, s, er, hf, q⟩ := h
 unfold tOr' at hf
 obtain ⟨⟨x, S1⟩, h1, h⟩ := Option.bind_eq_some_iff.mp hf
 refine ⟨Z, m, env, x, S1, e, s, er, h1, fun m1 e1 t1 => ?_⟩
 cases x with
 | false => exact ⟨Z, m1, env, v, S', rfl, t1.si, er.tr s t1, by rw [e1]; exact h, fun m2 e2 t2 => q m2 e2 (t1.trans s t2)⟩
 | true => cases h; exact q m1 e1 t1
abbrev WJ (X : Cx) (e : Expr) (f : TX) : Prop := PW X e (tT X.K f)
variable {rest : List Expr} {f g : TX}
theorem wj_or1 (h : TJ X a f) : WJ X (.BoolOp .Or [a] pos) f := pw_or1 h
theorem wj_or (h : TJ X a f) (k : WJ X (.BoolOp .Or (b :: rest) pos) g) : WJ X (.BoolOp .Or (a :: b :: rest) pos) (tOr' f g) := pw_wk (pw_or h k) fun _ _ _ h => tt_or h
theorem tj_not (h : TJ X a f) : TJ X (.UnaryOp .Not a pos) (tNot' f) := pt_wk (pt_not h) fun σ H Q ⟨Z, m, env, v, S', e, s, er, hf, q⟩ => by
 unfold tNot' at hf
 obtain ⟨⟨x, S1⟩, h1, h⟩ := Option.map_eq_some_iff.mp hf
 cases h
 exact ⟨Z, m, env, x, _, e, s, er, h1, q⟩
def eAnd (f g : EX) : EX := fun e S => (f e S).bind fun p => match p.1 with
 | .bl true => g e p.2
 | .bl false => some (.bl false, p.2)
 | _ => none
def eOr (f g : EX) : EX := fun e S => (f e S).bind fun p => match p.1 with
 | .bl true => some (.bl true, p.2)
 | .bl false => g e p.2
 | _ => none
def fNot : F1 := fun _ d => match d with
 | .bl b => some (.bl (!b))
 | _ => none
theorem ej_one {op} {f : EX} (h : EJ X a f) : EJ X (.BoolOp op [a] pos) f := pe_one h
theorem ej_and {f g : EX} (h : EJ X a f) (k : EJ X (.BoolOp .And (b :: rest) pos) g) : EJ X (.BoolOp .And (a :: b :: rest) pos) (eAnd f g) := pe_wk (pe_and h k) fun σ H Q ⟨Z, m, env, v, S', e, s, er, hf, q⟩ => by
 unfold eAnd at hf
 obtain ⟨⟨x, S1⟩, h1, h⟩ := Option.bind_eq_some_iff.mp hf
 refine ⟨Z, m, env, x, S1, e, s, er, h1, fun m1 vx e1 t1 rx => ?_⟩
 cases x with
 | bl c =>
  refine ⟨c, rx, ?_⟩
  cases c with
  | true => exact ⟨Z, m1, env, v, S', rfl, t1.si, er.tr s t1, by rw [e1]; exact h, fun m2 x e2 t2 => q m2 x e2 (t1.trans s t2)⟩
  | false => cases h; exact q m1 _ e1 t1 rfl
 | _ => cases h
theorem ej_or {f g : EX} (h : EJ X a f) (k : EJ X (.BoolOp .Or (b :: rest) pos) g) : EJ X (.BoolOp .Or (a :: b :: rest) pos) (eOr f g) := pe_wk (pe_or h k) fun σ H Q ⟨Z, m, env, v, S', e, s, er, hf, q⟩ => by
 unfold eOr at hf
 obtain ⟨⟨x, S1⟩, h1, h⟩ := Option.bind_eq_some_iff.mp hf
 refine ⟨Z, m, env, x, S1, e, s, er, h1, fun m1 vx e1 t1 rx => ?_⟩
 cases x with
 | bl c =>
  refine ⟨c, rx, ?_⟩
  cases c with
  | false => exact ⟨Z, m1, env, v, S', rfl, t1.si, er.tr s t1, by rw [e1]; exact h, fun m2 x e2 t2 => q m2 x e2 (t1.trans s t2)⟩
  | true => cases h; exact q m1 _ e1 t1 rfl
 | _ => cases h
theorem ej_not {f : EX} (h : EJ X a f) : EJ X (.UnaryOp .Not a pos) (e1 fNot f) := pe_wk (pe_not h) fun σ H Q ⟨Z, m, env, v, S', e, s, er, hf, q⟩ => by
 obtain ⟨x, h1, h3⟩ := e1_inv hf
 refine ⟨Z, m, env, x, S', e, s, er, h1, fun m1 vx e1 t1 rx => ?_⟩
 cases x with
 | bl c => cases h3; exact ⟨c, rx, q m1 _ e1 t1 rfl⟩
 | _ => cases h3
def eIf (t : TX) (f g : EX) : EX := fun e S => (t e S).bind fun p => if p.1 = true then f e p.2 else g e p.2
theorem ej_if {c : Expr} {t : TX} {f g : EX} (hc : TJ X c t) (h : EJ X a f) (k : EJ X b g) : EJ X (.IfExp c a b pos) (eIf t f g) := pe_wk (pe_ifExp hc h k) fun σ H Q ⟨Z, m, env, v, S', e, s, er, hf, q⟩ => by
 unfold eIf at hf
 obtain ⟨⟨x, S1⟩, h1, h⟩ := Option.bind_eq_some_iff.mp hf
 refine ⟨Z, m, env, x, S1, e, s, er, h1, fun m1 e1 t1 => ?_⟩
 cases x with
 | true => exact ⟨Z, m1, env, v, S', rfl, t1.si, er.tr s t1, by rw [e1]; exact h, fun m2 x e2 t2 => q m2 x e2 (t1.trans s t2)⟩
 | false => exact ⟨Z, m1, env, v, S', rfl, t1.si, er.tr s t1, by rw [e1]; exact h, fun m2 x e2 t2 => q m2 x e2 (t1.trans s t2)⟩
def aNil : AX := fun _ S => some ([], S)
def aCons (f : EX) (g : AX) : AX := fun e S => (f e S).bind fun p => (g e p.2).map fun q => (p.1 :: q.1, q.2)
theorem aCons_inv {f : EX} {g : AX} {e : En} {S S' : Sto} {v : List D} (h : aCons f g e S = some (v, S')) : ∃ x S1 r, f e S = some (x, S1) ∧ g e S1 = some (r, S') ∧ v = x :: r := by
 unfold aCons at h
 obtain ⟨⟨x, S1⟩, h1, h⟩ := Option.bind_eq_some_iff.mp h
 obtain ⟨⟨r, S2⟩, h2, h⟩ := Option.map_eq_some_iff.mp h
 cases h
 exact ⟨x, S1, r, h1, h2, rfl⟩
variable {es : List Expr} {ga : AX}
theorem aj_nil : AJ X [] aNil := pa_wk pa_nil fun σ H Q ⟨Z, m, env, v, S', e, s, er, hf, q⟩ => by
 subst e
 cases hf
 exact q m [] rfl (.refl s) rfl
theorem aj_cons (h : EJ X a fa) (k : AJ X es ga) (hs : starEach (a :: es) X.env = (false, eval a X.env) :: starEach es X.env := by rfl) : AJ X (a :: es) (aCons fa ga) := pa_wk (pa_cons h k hs) fun σ H Q ⟨Z, m, env, v, S', e, s, er, hf, q⟩ => by
 obtain ⟨x, S1, r, h1, h2, rfl⟩ := aCons_inv hf
 refine ⟨Z, m, env, x, S1, e, s, er, h1, fun m1 vx e1 t1 rx => ?_⟩
 refine ⟨Z, m1, env, r, S', rfl, t1.si, er.tr s t1, by rw [e1]; exact h2, fun m2 vy e2 t2 ry => ?_⟩
 exact q m2 _ e2 (t1.trans s t2) ⟨vx, vy, rfl, t2.rep t1.si rx, ry⟩
def szOk (n : Nat) : Bool := decide (n ≤ 16777216)
theorem szOk_le {n : Nat} (h : szOk n = true) : n ≤ sizeLine := by
 have := of_decide_eq_true h
 rw [sizeLine_eq]
 exact this
def eTup (g : AX) : EX := fun e S => (g e S).bind fun p => if szOk p.1.length = true then some (.tup p.1, p.2) else none
theorem ej_tup {x1} (h : AJ X es ga) : EJ X (.Tuple es x1 pos) (eTup ga) := pe_wk (pe_tup h) fun σ H Q ⟨Z, m, env, v, S', e, s, er, hf, q⟩ => by
 unfold eTup at hf
 obtain ⟨⟨x, S1⟩, h1, h⟩ := Option.bind_eq_some_iff.mp hf
 refine ⟨Z, m, env, x, S1, e, s, er, h1, fun m1 vx e1 t1 rx => ?_⟩
 split at h
 ·rename_i hz
  cases h
  refine ⟨by rw [rx.len]; exact szOk_le hz, fun p hp => ?_⟩
  exact q ⟨m1.r, m1.S, upd m1.H p (.tup vx)⟩ (.ref p) e1 (t1.trans s (Tr.laid t1.si hp)) (Rep.newTup t1.si hp rx)
 ·cases h
abbrev LX := AX
def tL (K : PySem.W.Frag) (f : LX) : TE := fun σ H Q => ∃ (Z : List Addr) (m : M) (env : En) (v : List D) (S' : Sto), m.H = H ∧ Sim ⟨K, Z⟩ m ∧ ER ⟨K, Z⟩ m env σ ∧ f env m.S = some (v, S') ∧
 ∀ m' p x, m'.S = S' → Tr ⟨K, Z⟩ m m' → RepL ⟨K, Z⟩ m' v x → m'.H p = none → Q (.ref p) (upd m'.H p (.lst x))
abbrev LJ (X : Cx) (e : Expr) (f : LX) : Prop := PE X e (tL X.K f)
def eFz (f : LX) : EX := fun e S => (f e S).map fun p => (.lst p.1, p.2)
def eBx (f : LX) : EX := fun e S => (f e S).map fun p => (.ref p.2.length, p.2 ++ [.lst p.1])
theorem tl_fz {f : LX} {σ : L2.St} {H : Hp} {Q : VK} (h : tE K (eFz f) σ H Q) : tL K f σ H Q := by
 obtain ⟨Z, m, env, v, S', e, s, er, hf, q⟩ := h
 unfold eFz at hf
 obtain ⟨⟨x, S1⟩, h1, h⟩ := Option.map_eq_some_iff.mp hf
 cases h
 exact ⟨Z, m, env, x, _, e, s, er, h1, fun m1 p vx e1 t1 rx hp => q ⟨m1.r, m1.S, upd m1.H p (.lst vx)⟩ (.ref p) e1 (t1.trans s (Tr.laid t1.si hp)) (Rep.newLst t1.si hp rx)⟩
theorem tl_bx {f : LX} {σ : L2.St} {H : Hp} {Q : VK} (h : tE K (eBx f) σ H Q) : tL K f σ H Q := by
 obtain ⟨Z, m, env, v, S', e, s, er, hf, q⟩ := h
 unfold eBx at hf
 obtain ⟨⟨x, S1⟩, h1, h⟩ := Option.map_eq_some_iff.mp hf
 cases h
 refine ⟨Z, m, env, x, S1, e, s, er, h1, fun m1 p vx e1 t1 rx hp => q (m1.box p x vx) (.ref p) (by show m1.S ++ _ = _; rw [e1]) (t1.trans s (Tr.box t1.si hp rx)) ⟨?_, ?_⟩⟩
 ·refine ⟨x, ?_⟩
  show (m1.S ++ [Ob.lst x])[S1.length]? = _
  rw [e1]
  simp
 ·show V.ref p = V.ref (if S1.length = m1.S.length then p else m1.r S1.length)
  rw [e1, if_pos rfl]
theorem ej_fz {e : Expr} {f : LX} (h : LJ X e f) : EJ X e (eFz f) := pe_wk h fun _ _ _ h => tl_fz h
theorem ej_bx {e : Expr} {f : LX} (h : LJ X e f) : EJ X e (eBx f) := pe_wk h fun _ _ _ h => tl_bx h
def lDisp (g : AX) : LX := fun e S => (g e S).bind fun p => if szOk p.1.length = true then some p else none
theorem lj_disp (h : AJ X es ga) : LJ X (.List es pos) (lDisp ga) := pe_wk (pe_lst h) fun σ H Q ⟨Z, m, env, v, S', e, s, er, hf, q⟩ => by
 unfold lDisp at hf
 obtain ⟨⟨x, S1⟩, h1, h⟩ := Option.bind_eq_some_iff.mp hf
 split at h
 ·rename_i hz
  cases h
  exact ⟨Z, m, env, _, _, e, s, er, h1, fun m1 vx e1 t1 rx => ⟨by rw [rx.len]; exact szOk_le hz, fun p hp => q m1 p vx e1 t1 rx hp⟩⟩
 ·cases h
abbrev FN := Sto → List D → Option D
def eCB (f : FN) (g : AX) : EX := fun e S => (g e S).bind fun p => (f p.2 p.1).map fun d => (d, p.2)
def rN (K : PySem.W.Frag) (f : FN) : List V → Hp → VK → Prop := fun xs H Q => ∃ (Z : List Addr) (m : M) (as : List D) (d : D), m.H = H ∧ Sim ⟨K, Z⟩ m ∧ RepL ⟨K, Z⟩ m as xs ∧ f m.S as = some d ∧
 ∀ m' v, m'.S = m.S → Tr ⟨K, Z⟩ m m' → Rep ⟨K, Z⟩ m' d v → Q v m'.H
theorem te_cb {f : FN} {g : AX} {σ : L2.St} {H : Hp} {Q : VK} (h : tE K (eCB f g) σ H Q) : tCB (rN K f) (tA K g) σ H Q := by
 obtain ⟨Z, m, env, v, S', e, s, er, hf, q⟩ := h
 unfold eCB at hf
 obtain ⟨⟨x, S1⟩, h1, h⟩ := Option.bind_eq_some_iff.mp hf
 obtain ⟨d, h3, h⟩ := Option.map_eq_some_iff.mp h
 cases h
 refine ⟨Z, m, env, x, _, e, s, er, h1, fun m1 vx e1 t1 rx => ?_⟩
 exact ⟨Z, m1, x, v, rfl, t1.si, rx, by rw [e1]; exact h3, fun m2 w e2 t2 rw => q m2 w (e2.trans e1) (t1.trans s t2) rw⟩
variable {x : Str} {p : Pos} {id T : String}
theorem ej_callB {f : FN} (hc : CallR X (.builtin id) (rN X.K f)) (hg : Gl X x) (hm : X.mg x = none) (hv : bootBuiltins x = some (.builtin id)) (ha : AJ X (a :: es) ga) (hn : x ≠ "__name__" := by decide) (hdb : (x == ("__debug__" : Str)) = false := by decide)
  (hs : starEach (a :: es) X.env = (false, eval a X.env) :: starEach es X.env := by rfl) (hpl : (backTo pos (starEach es X.env)).any (·.1) = false := by rfl) : EJ X (.Call (.Name x p) (a :: es) [] pos) (eCB f ga) :=
 pe_wk (pe_callB hc hg hm hv ha hn hdb hs hpl) fun _ _ _ h => te_cb h
theorem ej_callT {f : FN} (hc : CallR X (.type T) (rN X.K f)) (hg : Gl X x) (hm : X.mg x = none) (hv : bootBuiltins x = some (.type T)) (ha : AJ X (a :: es) ga) (hn : x ≠ "__name__" := by decide) (hdb : (x == ("__debug__" : Str)) = false := by decide)
  (hs : starEach (a :: es) X.env = (false, eval a X.env) :: starEach es X.env := by rfl) (hpl : (backTo pos (starEach es X.env)).any (·.1) = false := by rfl) : EJ X (.Call (.Name x p) (a :: es) [] pos) (eCB f ga) :=
 pe_wk (pe_callTy hc hg hm hv ha hn hdb hs hpl) fun _ _ _ h => te_cb h
abbrev FNL := Sto → List D → Option (List D)
def lCB (f : FNL) (g : AX) : LX := fun e S => (g e S).bind fun p => (f p.2 p.1).map fun d => (d, p.2)
abbrev F2L := Sto → D → D → Option (List D)
def l2 (f : F2L) (a b : EX) : LX := fun e S => (a e S).bind fun p => (b e p.2).bind fun q => (f q.2 p.1 q.1).map fun d => (d, q.2)
theorem ej_ix {f : F2} (hr : IxR X (r2 X.K f)) (ha : EJ X a fa) (hb : EJ X b fb) (hs : PlainIx b) : EJ X (.Subscript a b pos) (e2 f fa fb) := pe_wk (pe_ix hr ha hb hs) fun _ _ _ h => te_op h
abbrev OX := En → Sto → Option (Option Int × Sto)
def oNo : OX := fun _ S => some (none, S)
def oSome (f : EX) : OX := fun e S => (f e S).bind fun p => match p.1 with
 | .int i => some (some i, p.2)
 | _ => none
abbrev FS := Sto → D → Option Int → Option Int → Option D
abbrev FSL := Sto → D → Option Int → Option Int → Option (List D)
def eSl (f : FS) (a : EX) (lo hi : OX) : EX := fun e S => (a e S).bind fun p => (lo e p.2).bind fun q => (hi e q.2).bind fun r => (f r.2 p.1 q.1 r.1).map fun d => (d, r.2)
def lSl (f : FSL) (a : EX) (lo hi : OX) : LX := fun e S => (a e S).bind fun p => (lo e p.2).bind fun q => (hi e q.2).bind fun r => (f r.2 p.1 q.1 r.1).map fun d => (d, r.2)
variable {lo hi : Option Expr} {fl fh : OX} {p2 : Pos}
end
section
variable {X : Cx} {K : PySem.W.Frag} {a b : Expr} {pos : Pos} {fa fb : EX} {c : C} {m m' : M} {env : En} {σ σ' : L2.St}
def gN (i : Nat) : GX := fun d e S => some (e.set i (some d), S)
theorem gj_name {i : Nat} {x : Str} (hN : X.N.Nodup) (hi : X.N[i]? = some x) (hx : Loc X.env.scope x) (hf : X.fn x = true ∨ X.env.scope.names.lookup x = some .local := by first | exact .inl rfl | exact .inr rfl | assumption) : GJ X (.Name x pos) [i] (gN i) :=
 pg_wk (pg_name hN hi hx hf) fun v σ H Q ⟨Z, m, env, d, env', S', e, s, er, r, hg, q⟩ => by
  subst e
  cases hg
  refine q m _ rfl (.refl s) (er.set r i) ⟨by rw [List.length_set], fun j hj => ?_⟩
  rw [List.getElem?_set_ne (fun z => hj (by simp [z]))]
abbrev GXs := List D → En → Sto → Option (En × Sto)
def tGs (K : PySem.W.Frag) (vs : List Nat) (g : GXs) : TGs := fun xs σ H Q => ∃ (Z : List Addr) (m : M) (env : En) (ds : List D) (env' : En) (S' : Sto), m.H = H ∧ Sim ⟨K, Z⟩ m ∧ ER ⟨K, Z⟩ m env σ ∧ RepL ⟨K, Z⟩ m ds xs ∧ g ds env m.S = some (env', S') ∧
 ∀ m' σ', m'.S = S' → Tr ⟨K, Z⟩ m m' → ER ⟨K, Z⟩ m' env' σ' → (σ'.length = σ.length ∧ ∀ i, i ∉ vs → σ'[i]? = σ[i]?) → Q σ' m'.H
abbrev GsJ (X : Cx) (e : List Expr) (vs : List Nat) (f : GXs) : Prop := PGs X e (tGs X.K vs f)
theorem pgs_wk {e : List Expr} {t t' : TGs} (h : PGs X e t) (k : ∀ v σ H Q, t' v σ H Q → t v σ H Q) : PGs X e t' := ⟨fun pins s σ H v u Q I r w => h.run pins s σ H v u Q I r (k v σ H Q w)⟩
def gsNil : GXs := fun ds e S => match ds with
 | [] => some (e, S)
 | _ => none
def gsCons (g : GX) (gs : GXs) : GXs := fun ds e S => match ds with
 | d :: r => (g d e S).bind fun p => gs r p.1 p.2
 | [] => none
theorem gsj_nil : GsJ X [] [] gsNil := pgs_wk pgs_nil fun v σ H Q ⟨Z, m, env, ds, env', S', e, s, er, r, hg, q⟩ => by
 subst e
 cases ds with
 | nil => cases hg; exact ⟨r, q m σ rfl (.refl s) er ⟨rfl, fun _ _ => rfl⟩⟩
 | cons d ds => cases hg
theorem gsj_cons {es : List Expr} {vs ws : List Nat} {g : GX} {gs : GXs} (h : GJ X a vs g) (k : GsJ X es ws gs)
  (hs : (assignEach (a :: es) X.env).map (·.2) = assign a X.env :: (assignEach es X.env).map (·.2) := by rfl) : GsJ X (a :: es) (vs ++ ws) (gsCons g gs) :=
 pgs_wk (pgs_cons h k hs) fun v σ H Q ⟨Z, m, env, ds, env', S', e, s, er, r, hg, q⟩ => by
  cases ds with
  | nil => cases hg
  | cons d ds =>
   obtain ⟨⟨e1, S1⟩, h1, h2⟩ := Option.bind_eq_some_iff.mp (show (g d env m.S).bind (fun p => gs ds p.1 p.2) = some (env', S') from hg)
   obtain ⟨x, xr, rfl, rx, rr⟩ := r
   refine ⟨x, xr, rfl, Z, m, env, d, e1, S1, e, s, er, rx, h1, fun m1 σ1 q1 t1 er1 ag1 => ?_⟩
   refine ⟨Z, m1, e1, ds, env', S', rfl, t1.si, er1, t1.repL s rr, by rw [q1]; exact h2, fun m2 σ2 q2 t2 er2 ag2 => ?_⟩
   refine q m2 σ2 q2 (t1.trans s t2) er2 ⟨ag2.1.trans ag1.1, fun i hi => ?_⟩
   rw [ag2.2 i (fun z => hi (List.mem_append_right _ z)), ag1.2 i (fun z => hi (List.mem_append_left _ z))]
def gT (n : Nat) (gs : GXs) : GX := fun d e S => match d with
 | .tup ds => if ds.length = n then gs ds e S else none
 | _ => none
theorem gj_tup {es : List Expr} {k n : Nat} {vs : List Nat} {gs : GXs} (hc : X.calm = true) (h : GsJ X es vs gs) (hn : (assignEach es X.env).length = n := by rfl) (hst : (assignEach es X.env).findIdx? (·.1) = none := by rfl) : GJ X (.Tuple es k pos) vs (gT n gs) :=
 pg_wk (pg_tup hc h hn hst) fun v σ H Q ⟨Z, m, env, d, env', S', e, s, er, r, hg, q⟩ => by
  cases d with
  | tup ds =>
   obtain ⟨p, xs, rfl, h1, h2⟩ := r
   unfold gT at hg
   simp only at hg
   split at hg
   ·rename_i hl
    subst e
    exact ⟨p, xs, rfl, h1, by rw [h2.len]; exact hl, Z, m, env, ds, env', S', rfl, s, er, h2, hg, q⟩
   ·cases hg
  | _ => cases hg
def boxAt (S : Sto) (n : Nat) : Option (List D) := match S[n]? with
 | some (.lst ds) => some ds
 | _ => none
theorem boxAt_inv {S : Sto} {n : Nat} {ds : List D} (h : boxAt S n = some ds) : S[n]? = some (.lst ds) := by
 unfold boxAt at h
 split at h
 ·rename_i ds' e
  cases h
  exact e
 ·cases h
theorem Sim.at (s : Sim c m) {n : Nat} {ds : List D} (h : boxAt m.S n = some ds) : n < m.S.length ∧ ∃ xs, m.H (m.r n) = some (.lst xs) ∧ RepL c m ds xs := by
 have e := boxAt_inv h
 refine ⟨?_, s.obj n _ e⟩
 rcases Nat.lt_or_ge n m.S.length with z | z
 ·exact z
 ·rw [List.getElem?_eq_none z] at e; cases e
def gS (fo fi : EX) : GX := fun d e S => (fo e S).bind fun p => (fi e p.2).bind fun q => match p.1, q.1 with
 | .ref n, .int k => (boxAt q.2 n).bind fun ds => (ixN ds.length k).map fun j => (e, q.2.set n (.lst (ds.set j d)))
 | _, _ => none
theorem gj_sub (ho : EJ X a fa) (hi : EJ X b fb)
  (ha : ∀ v, assign (.Subscript a b pos) X.env v = (do
   let ov ← holding [v] (eval a X.env)
   let iv ← holding [v, ov] (eval b X.env)
   standAt pos
   holding [v, ov, iv] (setItem ov iv v)
   release [v, ov, iv] []) := by intro _; rfl) : GJ X (.Subscript a b pos) [] (gS fa fb) :=
 pg_wk (pg_sub ho hi set_list ha) fun v σ H Q ⟨Z, m, env, d, env', S', e, s, er, r, hg, q⟩ => by
  unfold gS at hg
  obtain ⟨⟨x, S1⟩, h1, h⟩ := Option.bind_eq_some_iff.mp hg
  obtain ⟨⟨y, S2⟩, h2, h⟩ := Option.bind_eq_some_iff.mp h
  refine ⟨Z, m, env, x, S1, e, s, er, h1, fun m1 vx e1 t1 rx => ?_⟩
  refine ⟨Z, m1, env, y, S2, rfl, t1.si, er.tr s t1, by rw [e1]; exact h2, fun m2 vy e2 t2 ry => ?_⟩
  cases x with
  | ref n =>
   cases y with
   | int k =>
    obtain ⟨ds, h3, h⟩ := Option.bind_eq_some_iff.mp h
    obtain ⟨j, h4, h⟩ := Option.map_eq_some_iff.mp h
    simp only [Prod.mk.injEq] at h
    obtain ⟨rfl, hS⟩ := h
    have t12 := t1.trans s t2
    obtain ⟨hl, xs, hH, rl⟩ := t2.si.at (by rw [e2]; exact h3)
    have rx2 := t2.rep t1.si rx
    refine ⟨m2.r n, xs, k, j, rx2.2, ry, hH, by rw [rl.len]; exact h4, ?_⟩
    have rl' : RepL ⟨X.K, Z⟩ m2 (ds.set j d) (xs.set j v) := RepL.set (t12.rep s r) j rl
    have t3 := Tr.put t2.si hl rx2.1 rl'
    exact q (m2.put n (ds.set j d) (xs.set j v)) σ (by show m2.S.set n _ = S'; rw [← hS, e2]) (t12.trans s t3) (er.tr s (t12.trans s t3)) ⟨rfl, fun _ _ => rfl⟩
   | _ => cases h
  | _ => cases h
def sSeq (f g : SX) : SX := fun e S => (f e S).bind fun o => match o with
 | .nx e' S' => g e' S'
 | .rt d S' => some (.rt d S')
 | .bk e' S' => some (.bk e' S')
 | .ct e' S' => some (.ct e' S')
def sNil : SX := fun e S => some (.nx e S)
theorem Post.tr {D : Ends} {o : Out} (s : Sim c m) (t : Tr c m m') (h : Post c m D o) : Post c m' D o := by
 cases o with
 | nx e S => exact fun m2 σ2 q2 t2 er => h m2 σ2 q2 (t.trans s t2) er
 | bk e S => exact fun m2 σ2 q2 t2 er => h m2 σ2 q2 (t.trans s t2) er
 | ct e S => exact fun m2 σ2 q2 t2 er => h m2 σ2 q2 (t.trans s t2) er
 | rt d S => exact fun m2 σ2 q2 t2 er => h m2 σ2 q2 (t.trans s t2) er
variable {st : Stmt} {rest : List Stmt} {f g : SX}
theorem bj_nil : BJ X [] sNil := pss_wk pss_nil fun D σ H ⟨Z, m, env, o, e, s, er, hf, q⟩ => by
 subst e
 cases hf
 exact q m σ rfl (.refl s) er
theorem bj_cons (h : SJ X st f) (k : BJ X rest g) : BJ X (st :: rest) (sSeq f g) := pss_wk (pss_cons h k) fun D σ H ⟨Z, m, env, o, e, s, er, hf, q⟩ => by
 unfold sSeq at hf
 obtain ⟨o1, h1, h2⟩ := Option.bind_eq_some_iff.mp hf
 refine ⟨Z, m, env, o1, e, s, er, h1, ?_⟩
 cases o1 with
 | nx e' S' => exact fun m1 σ1 q1 t1 er1 => ⟨Z, m1, e', o, rfl, t1.si, er1, by rw [q1]; exact h2, q.tr s t1⟩
 | rt d S' => cases h2; exact q
 | bk d S' => cases h2; exact q
 | ct d S' => cases h2; exact q
theorem bj_one (h : SJ X st f) : BJ X [st] f := pss_one h
def sBreak : SX := fun e S => some (.bk e S)
def sExpr (f : EX) : SX := fun e S => (f e S).map fun p => .nx e p.2
theorem sj_expr (h : EJ X a fa) (hs : swapsWith a none pos.line X.env = pure false := by rfl) : SJ X (.Expr a pos) (sExpr fa) := ps_wk (ps_expr h hs) fun D σ H ⟨Z, m, env, o, e, s, er, hf, q⟩ => by
 obtain ⟨⟨x, S1⟩, h1, h2⟩ := Option.map_eq_some_iff.mp hf
 cases h2
 exact ⟨Z, m, env, x, S1, e, s, er, h1, fun m1 vx e1 t1 rx => q m1 σ e1 t1 (er.tr s t1)⟩
def sRet (f : EX) : SX := fun e S => (f e S).map fun p => .rt p.1 p.2
theorem sj_ret (h : EJ X a fa) : SJ X (.Return (some a) pos) (sRet fa) := ps_wk (ps_ret h) fun D σ H ⟨Z, m, env, o, e, s, er, hf, q⟩ => by
 obtain ⟨⟨x, S1⟩, h1, h2⟩ := Option.map_eq_some_iff.mp hf
 cases h2
 exact ⟨Z, m, env, x, S1, e, s, er, h1, q⟩
def sIf (t : TX) (f g : SX) : SX := fun e S => (t e S).bind fun p => if p.1 = true then f e p.2 else g e p.2
theorem sj_if {t : TX} {l r : List Stmt} (hc : TJ X a t) (h : BJ X l f) (k : BJ X r g) : SJ X (.If a l r pos) (sIf t f g) := ps_wk (ps_if hc h k) fun D σ H ⟨Z, m, env, o, e, s, er, hf, q⟩ => by
 unfold sIf at hf
 obtain ⟨⟨x, S1⟩, h1, h⟩ := Option.bind_eq_some_iff.mp hf
 refine ⟨Z, m, env, x, S1, e, s, er, h1, fun m1 e1 t1 => ?_⟩
 cases x with
 | true => exact ⟨Z, m1, env, o, rfl, t1.si, er.tr s t1, by rw [e1]; exact h, q.tr s t1⟩
 | false => exact ⟨Z, m1, env, o, rfl, t1.si, er.tr s t1, by rw [e1]; exact h, q.tr s t1⟩
def sAsg (f : EX) (g : GX) : SX := fun e S => (f e S).bind fun p => (g p.1 e p.2).map fun q => .nx q.1 q.2
theorem ts_asg {f : EX} {g : GX} {vs : List Nat} {D : Ends} {σ : L2.St} {H : Hp} (h : tS K (sAsg f g) D σ H) : tAsg (tE K f) (tG K vs g) D σ H := by
 obtain ⟨Z, m, env, o, e, s, er, hf, q⟩ := h
 unfold sAsg at hf
 obtain ⟨⟨x, S1⟩, h1, h⟩ := Option.bind_eq_some_iff.mp hf
 obtain ⟨⟨e2, S2⟩, h2, h3⟩ := Option.map_eq_some_iff.mp h
 cases h3
 refine ⟨Z, m, env, x, S1, e, s, er, h1, fun m1 vx e1 t1 rx => ?_⟩
 exact ⟨Z, m1, env, x, e2, S2, rfl, t1.si, er.tr s t1, rx, by rw [e1]; exact h2, fun m2 σ2 q2 t2 er2 _ => q m2 σ2 q2 (t1.trans s t2) er2⟩
theorem sj_asg {vs : List Nat} {g : GX} (he : EJ X b fb) (hg : GJ X a vs g) (hs : swapsWithSole [a] b pos.line X.env = pure false := by rfl) (hw : swappedStores [a] b X.env = pure none := by rfl)
  (h1 : (assignEach [a] X.env).map (·.2) = [assign a X.env] := by rfl) : SJ X (.Assign [a] b pos) (sAsg fb g) := ps_wk (ps_asg he hg hs hw h1) fun _ _ _ h => ts_asg h
theorem sj_set {i : Nat} {x : Str} {pos' : Pos} (hN : X.N.Nodup) (hi : X.N[i]? = some x) (hx : Loc X.env.scope x) (he : EJ X b fb) (hs : swapsWith b (some (.Name x pos')) pos.line X.env = pure false := by rfl) (hf : X.fn x = true ∨ X.env.scope.names.lookup x = some .local := by first | exact .inl rfl | exact .inr rfl | assumption) :
  SJ X (.Assign [.Name x pos'] b pos) (sAsg fb (gN i)) := ps_wk (ps_set hN hi hx he hs hf) fun D σ H ⟨Z, m, env, o, e, s, er, hf, q⟩ => by
 unfold sAsg at hf
 obtain ⟨⟨y, S1⟩, h1, h⟩ := Option.bind_eq_some_iff.mp hf
 cases h
 exact ⟨Z, m, env, y, S1, e, s, er, h1, fun m1 vx e1 t1 rx => q m1 _ e1 t1 ((er.tr s t1).set rx i)⟩
def sPar (i j : Nat) (g : AX) : SX := fun e S => (g e S).bind fun p => match p.1 with
 | [u, v] => some (.nx ((e.set i (some u)).set j (some v)) p.2)
 | _ => none
def sPar3 (i j l : Nat) (g : AX) : SX := fun e S => (g e S).bind fun p => match p.1 with
 | [u, v, w] => some (.nx (((e.set i (some u)).set j (some v)).set l (some w)) p.2)
 | _ => none
theorem sj_par {i j : Nat} {x y : Str} {ga : AX} {px py pt : Pos} {kt k2 pt2} (hc : X.calm = true) (hN : X.N.Nodup) (hi : X.N[i]? = some x) (hj : X.N[j]? = some y) (hij : i ≠ j)
  (hx : X.env.scope.names.lookup x = some .local) (hy : X.env.scope.names.lookup y = some .local) (ha : AJ X [a, b] ga)
  (hw : swappedStores [.Tuple [.Name x px, .Name y py] kt pt] (.Tuple [a, b] k2 pt2) X.env = pure (some [x, y]))
  (hs : swapsWithSole [.Tuple [.Name x px, .Name y py] kt pt] (.Tuple [a, b] k2 pt2) pos.line X.env = pure false := by rfl) :
  SJ X (.Assign [.Tuple [.Name x px, .Name y py] kt pt] (.Tuple [a, b] k2 pt2) pos) (sPar i j ga) := ps_wk (ps_par hc hN hi hj hij hx hy ha hw hs) fun D σ H ⟨Z, m, env, o, e, s, er, hf, q⟩ => by
 unfold sPar at hf
 obtain ⟨⟨y, S1⟩, h1, h⟩ := Option.bind_eq_some_iff.mp hf
 refine ⟨Z, m, env, y, S1, e, s, er, h1, fun m1 vx e1 t1 rx => ?_⟩
 match y, h, rx with
 | [u, v], h, rx =>
  obtain ⟨x1, r1, rfl, a1, a2⟩ := rx
  obtain ⟨x2, r2, rfl, b1, b2⟩ := a2
  cases b2
  cases h
  exact ⟨x1, x2, rfl, q m1 _ e1 t1 (((er.tr s t1).set a1 i).set b1 j)⟩
def sAug (i : Nat) (f : F2) (g : EX) : SX := fun e S => match e[i]? with
 | some (some x) => (g e S).bind fun p => (f p.2 x p.1).map fun d => .nx (e.set i (some d)) p.2
 | _ => none
def whileN (t : TX) (b : SX) : Nat → SX
 | 0 => fun _ _ => none
 | n + 1 => fun e S => (t e S).bind fun p => if p.1 = true then (b e p.2).bind fun o => match o with
   | .nx e' S' => whileN t b n e' S'
   | .ct e' S' => whileN t b n e' S'
   | .bk e' S' => some (.nx e' S')
   | .rt d S' => some (.rt d S') else some (.nx e p.2)
def whileP (t : TX) (b : SX) (e : En) (S : Sto) (o : Out) : Prop := ∃ n, whileN t b n e S = some o
open Classical in
noncomputable def sWhile (t : TX) (b : SX) : SX := fun e S => if h : ∃ o, whileP t b e S o then some (choose h) else none
theorem whileN_le {t : TX} {b : SX} : ∀ {n k : Nat} {e : En} {S : Sto} {o : Out}, whileN t b n e S = some o → n ≤ k → whileN t b k e S = some o
 | 0, _, _, _, _, h, _ => nomatch h
 | n + 1, 0, _, _, _, _, hk => absurd hk (by omega)
 | n + 1, k + 1, e, S, o, h, hk => by
  obtain ⟨⟨c, S1⟩, h1, h2⟩ := Option.bind_eq_some_iff.mp (show ((t e S).bind _) = some o from h)
  show ((t e S).bind _) = some o
  rw [h1]
  show (if c = true then _ else _) = _
  have h2 : (if c = true then _ else _) = some o := h2
  cases c with
  | false => exact h2
  | true =>
   rw [if_pos rfl] at h2 ⊢
   obtain ⟨o1, h3, h4⟩ := Option.bind_eq_some_iff.mp h2
   rw [h3]
   cases o1 with
   | nx e' S' => exact whileN_le (n := n) (k := k) h4 (by omega)
   | ct e' S' => exact whileN_le (n := n) (k := k) h4 (by omega)
   | bk e' S' => exact h4
   | rt d S' => exact h4
theorem sWhile_of {t : TX} {b : SX} {e : En} {S : Sto} {o : Out} {n : Nat} (h : whileN t b n e S = some o) : sWhile t b e S = some o := by
 have hx : ∃ o, whileP t b e S o := ⟨o, n, h⟩
 unfold sWhile
 rw [dif_pos hx]
 obtain ⟨k, hk⟩ := Classical.choose_spec hx
 have h1 := whileN_le h (Nat.le_max_left n k)
 have h2 := whileN_le hk (Nat.le_max_right n k)
 rw [h1] at h2
 exact h2.symm
theorem sWhile_inv {t : TX} {b : SX} {e : En} {S : Sto} {o : Out} (h : sWhile t b e S = some o) : ∃ n, whileN t b n e S = some o := by
 unfold sWhile at h
 split at h
 ·rename_i hx
  obtain ⟨k, hk⟩ := Classical.choose_spec hx
  cases h
  exact ⟨k, hk⟩
 ·cases h
theorem sj_while {t : TX} {body : List Stmt} (hp : PassesOwn (model X.prog X.w) X.A X.env X.xe) (hc : TJ X a t) (hb : BJ X body f) : SJ X (.While a body [] pos) (sWhile t f) := ps_wk (ps_while hp hc hb) fun D σ H ⟨Z, m, env, o, e, s, er, hf, q⟩ => by
 obtain ⟨n, hn⟩ := sWhile_inv hf
 subst e
 refine ⟨fun k σ' H' => ∃ m' env', m'.H = H' ∧ Tr ⟨X.K, Z⟩ m m' ∧ ER ⟨X.K, Z⟩ m' env' σ' ∧ whileN t f k env' m'.S = some o, ⟨n, m, env, rfl, .refl s, er, hn⟩, ?_⟩
 rintro k σ' H' ⟨m', env', rfl, t', er', hk⟩
 cases k with
 | zero => cases hk
 | succ k =>
  obtain ⟨⟨c, S1⟩, h1, h2⟩ := Option.bind_eq_some_iff.mp (show ((t env' m'.S).bind _) = some o from hk)
  refine ⟨Z, m', env', c, S1, rfl, t'.si, er', h1, fun m1 q1 t1 => ?_⟩
  have h2 : (if c = true then _ else _) = some o := h2
  have t01 := t'.trans s t1
  cases c with
  | false =>
   cases h2
   exact q m1 σ' q1 t01 (er'.tr t'.si t1)
  | true =>
   rw [if_pos rfl] at h2
   obtain ⟨o1, h3, h4⟩ := Option.bind_eq_some_iff.mp h2
   refine ⟨fun σ2 H2 => ∃ m2 env2, m2.H = H2 ∧ Tr ⟨X.K, Z⟩ m m2 ∧ ER ⟨X.K, Z⟩ m2 env2 σ2 ∧ whileN t f k env2 m2.S = some o, fun σ2 H2 z => ⟨k, by omega, z⟩, ?_⟩
   refine ⟨Z, m1, env', o1, rfl, t1.si, er'.tr t'.si t1, by rw [q1]; exact h3, ?_⟩
   cases o1 with
   | nx e2 S2 => exact fun m2 σ2 q2 t2 er2 => ⟨m2, e2, rfl, t01.trans s t2, er2, by rw [q2]; exact h4⟩
   | ct e2 S2 => exact fun m2 σ2 q2 t2 er2 => ⟨m2, e2, rfl, t01.trans s t2, er2, by rw [q2]; exact h4⟩
   | bk e2 S2 => cases h4; exact fun m2 σ2 q2 t2 er2 => q m2 σ2 q2 (t01.trans s t2) er2
   | rt d S2 => cases h4; exact fun m2 x q2 t2 r2 => q m2 x q2 (t01.trans s t2) r2
open Classical in
noncomputable def forL (g : GX) (b : SX) (gs : List Nat) (S0 : Sto) : List D → SX
 | [] => fun e S => some (.nx e S)
 | d :: ds => fun e S => (g d e S).bind fun p => (b p.1 p.2).bind fun o => match o with
   | .nx e' S' => if (∀ n, n ∈ gs → S'[n]? = S0[n]?) then forL g b gs S0 ds e' S' else none
   | .ct e' S' => if (∀ n, n ∈ gs → S'[n]? = S0[n]?) then forL g b gs S0 ds e' S' else none
   | .bk e' S' => some (.nx e' S')
   | .rt d S' => some (.rt d S')
noncomputable def sFor (it : IX) (g : GX) (b : SX) : SX := fun e S => (it e S).bind fun p => forL g b p.2.1 p.2.2 p.1 e p.2.2
theorem drop_cons {α : Type} {l : List α} {i : Nat} {d : α} {r : List α} (h : l.drop i = d :: r) : l[i]? = some d ∧ l.drop (i + 1) = r := by
 constructor
 ·have := congrArg (·[0]?) h
  simpa using this
 ·rw [← List.drop_drop, h]; rfl
theorem sj_for {tg iter : Expr} {it : IX} {vs : List Nat} {g : GX} {body : List Stmt} (hp : PassesOwn (model X.prog X.w) X.A X.env X.xe) (hc : X.calm = true) (hi : IJ X tg iter it) (hg : GJ X tg vs g) (hb : BJ X body f)
  (hs : ∀ x, foldedSetIterable iter X.env x = pure x := by intro _; rfl) : SJ X (.For tg iter body [] pos) (sFor it g f) := ps_wk (ps_for hp hc hi hg hb hs) fun D σ H ⟨Z, m, env, o, e, s, er, hf, q⟩ => by
 unfold sFor at hf
 obtain ⟨⟨ds, gs, S0⟩, h1, h2⟩ := Option.bind_eq_some_iff.mp hf
 refine ⟨Z, m, env, ds, gs, S0, e, s, er, h1, fun m0 J q0 t0 ok => ?_⟩
 subst q0
 refine ⟨fun i k σ' H' => ∃ m' env', m'.H = H' ∧ Tr ⟨X.K, Z⟩ m0 m' ∧ ER ⟨X.K, Z⟩ m' env' σ' ∧ (∀ n, n ∈ gs → m'.S[n]? = m0.S[n]?) ∧ k = ds.length - i ∧ forL g f gs m0.S (ds.drop i) env' m'.S = some o,
  ⟨ds.length, m0, env, rfl, .refl t0.si, er.tr s t0, fun _ _ => rfl, rfl, h2⟩, ?_⟩
 rintro i k σ' H' ⟨m', env', rfl, t', er', gd, rfl, hk⟩
 cases hd : ds.drop i with
 | nil =>
  rw [hd] at hk
  cases hk
  have hl : ds.length ≤ i := List.drop_eq_nil_iff.mp hd
  exact .inl ⟨(ok.go Z m' (fun _ h => h) (fun _ h => .inl h) t'.ex t'.si gd i).1 hl, q m' σ' rfl (t0.trans s t') er'⟩
 | cons d r =>
  rw [hd] at hk
  obtain ⟨hd1, hd2⟩ := drop_cons hd
  have hil : i < ds.length := by
   rcases Nat.lt_or_ge i ds.length with z | z
   ·exact z
   ·rw [List.getElem?_eq_none z] at hd1; cases hd1
  obtain ⟨go, yl⟩ := (ok.go Z m' (fun _ h => h) (fun _ h => .inl h) t'.ex t'.si gd i).2 d hd1
  refine .inr ⟨go, fun σ2 H2 => ∃ m2 env2, m2.H = H2 ∧ Tr ⟨X.K, Z⟩ m0 m2 ∧ ER ⟨X.K, Z⟩ m2 env2 σ2 ∧ (∀ n, n ∈ gs → m2.S[n]? = m0.S[n]?) ∧ forL g f gs m0.S r env2 m2.S = some o, fun σ2 H2 ⟨m2, env2, a1, a2, a3, a4, a5⟩ => ⟨ds.length - (i + 1), by omega, m2, env2, a1, a2, a3, a4, rfl, by rw [hd2]; exact a5⟩, ?_⟩
  intro x H3 hy
  obtain ⟨m3, rfl, e3, t3, r3⟩ := yl x H3 hy
  obtain ⟨⟨e4, S4⟩, h4, h5⟩ := Option.bind_eq_some_iff.mp (show ((g d env' m'.S).bind _) = some o from hk)
  obtain ⟨o1, h6, h7⟩ := Option.bind_eq_some_iff.mp h5
  have t03 := t'.trans t0.si t3
  refine ⟨Z, m3, env', d, e4, S4, rfl, t3.si, er'.tr t'.si t3, r3, by rw [e3]; exact h4, fun m4 σ4 q4 t4 er4 _ => ?_⟩
  refine ⟨Z, m4, e4, o1, rfl, t4.si, er4, by rw [q4]; exact h6, ?_⟩
  have t04 := t03.trans t0.si t4
  cases o1 with
  | nx e5 S5 =>
   simp only at h7
   split at h7
   ·rename_i hgs
    exact fun m5 σ5 q5 t5 er5 => ⟨m5, e5, rfl, t04.trans t0.si t5, er5, fun n hn => by rw [q5]; exact hgs n hn, by rw [q5]; exact h7⟩
   ·cases h7
  | ct e5 S5 =>
   simp only at h7
   split at h7
   ·rename_i hgs
    exact fun m5 σ5 q5 t5 er5 => ⟨m5, e5, rfl, t04.trans t0.si t5, er5, fun n hn => by rw [q5]; exact hgs n hn, by rw [q5]; exact h7⟩
   ·cases h7
  | bk e5 S5 => cases h7; exact fun m5 σ5 q5 t5 er5 => q m5 σ5 q5 (t0.trans s (t04.trans t0.si t5)) er5
  | rt d5 S5 => cases h7; exact fun m5 σ5 q5 t5 er5 => q m5 σ5 q5 (t0.trans s (t04.trans t0.si t5)) er5
end
section
variable {X : Cx} {K : PySem.W.Frag} {a b : Expr} {pos : Pos} {fa fb : EX} {c : C} {m m' : M} {env : En} {σ σ' : L2.St}
def wipeE (e : En) : List Nat → En
 | [] => e
 | v :: vs => (wipeE e vs).set v none
theorem ER.setN (h : ER c m env σ) (i : Nat) : ER c m (env.set i none) (σ.set i none) := by
 refine ⟨by rw [List.length_set, List.length_set]; exact h.1, fun j e q => ?_⟩
 by_cases hj : i = j
 ·subst hj
  by_cases hl : i < env.length
  ·rw [List.getElem?_set_self hl] at q; cases q
  ·rw [List.getElem?_eq_none (by rw [List.length_set]; omega)] at q; cases q
 ·rw [List.getElem?_set_ne hj] at q
  obtain ⟨y, h1, h2⟩ := h.2 j e q
  exact ⟨y, by rw [List.getElem?_set_ne hj]; exact h1, h2⟩
theorem ER.wipe (h : ER c m env σ) : ∀ vs : List Nat, ER c m (wipeE env vs) (wipe σ vs)
 | [] => h
 | v :: vs => (ER.wipe h vs).setN v
theorem wipe_in {σ : L2.St} : ∀ {vs : List Nat} {i : Nat}, i ∈ vs → (wipe σ vs)[i]? = if i < σ.length then some none else none
 | v :: vs, i, h => by
  show ((wipe σ vs).set v none)[i]? = _
  by_cases e : v = i
  ·subst e
   by_cases hl : v < σ.length
   ·rw [List.getElem?_set_self (by rw [wipe_length]; exact hl), if_pos hl]
   ·rw [List.getElem?_eq_none (by rw [List.length_set, wipe_length]; omega), if_neg hl]
  ·rw [List.getElem?_set_ne e]
   rcases List.mem_cons.mp h with q | q
   ·exact absurd q.symm e
   ·exact wipe_in q
theorem wipe_same {σ σ2 : L2.St} {vs ws : List Nat} (hl : σ2.length = (wipe σ vs).length) (ag : ∀ i, i ∉ ws → σ2[i]? = (wipe σ vs)[i]?) (sub : ∀ i, i ∈ ws → i ∈ vs) : wipe σ2 vs = wipe σ vs := by
 apply List.ext_getElem?
 intro i
 have hl2 : σ2.length = σ.length := by rw [hl, wipe_length]
 by_cases hi : i ∈ vs
 ·rw [wipe_in hi, wipe_in hi, hl2]
 ·rw [wipe_out hi, ag i (fun z => hi (sub i z))]
theorem ER.widen {Z Z' : List Addr} (h : ER ⟨K, Z⟩ m env σ) (hz : ∀ z, z ∈ Z' → z ∈ Z ∨ m.H z = none) : ER ⟨K, Z'⟩ m env σ := ⟨h.1, fun i d e => by
 obtain ⟨x, h1, h2⟩ := h.2 i d e
 exact ⟨x, h1, Rep.widen hz d x h2⟩⟩
theorem ER.ex (h : ER c m env σ) (b : BoxOk m) (x : Ex m m') : ER c m' env σ := ⟨h.1, fun i d e => by
 obtain ⟨y, h1, h2⟩ := h.2 i d e
 exact ⟨y, h1, Rep.mono b x d y h2⟩⟩
open Classical in
noncomputable def lcL (g : GX) (tt : TX) (te : EX) (gs : List Nat) (S0 : Sto) (e0 : En) : List D → Sto → Option (List D × Sto)
 | [], S => some ([], S)
 | d :: ds, S => (g d e0 S).bind fun p => (tt p.1 p.2).bind fun q => if q.1 = true then (te p.1 q.2).bind fun r => if (∀ n, n ∈ gs → r.2[n]? = S0[n]?) then (lcL g tt te gs S0 e0 ds r.2).map fun z => (r.1 :: z.1, z.2) else none
     else if (∀ n, n ∈ gs → q.2[n]? = S0[n]?) then lcL g tt te gs S0 e0 ds q.2 else none
noncomputable def lLc (it : IX) (g : GX) (tt : TX) (te : EX) (vs : List Nat) : LX := fun e S => (it e S).bind fun p => (lcL g tt te p.2.1 p.2.2 (wipeE e vs) p.1 p.2.2).bind fun q => if szOk q.1.length = true then some q else none
abbrev TsJ (X : Cx) (e : List Expr) (f : TX) : Prop := PTs X e (tT X.K f)
def tYes' : TX := fun _ S => some (true, S)
theorem pts_wk {e : List Expr} {t t' : TT} (h : PTs X e t) (k : ∀ σ H Q, t' σ H Q → t σ H Q) : PTs X e t' := ⟨fun pins s σ H Q I w => h.run pins s σ H Q I (k σ H Q w)⟩
theorem tsj_nil : TsJ X [] tYes' := pts_wk pts_nil fun σ H Q ⟨Z, m, env, v, S', e, s, er, hf, q⟩ => by
 subst e
 cases hf
 exact q m rfl (.refl s)
theorem tsj_one {t : TX} (h : TJ X a t) : TsJ X [a] t := pts_one h
theorem Ex.over {m0 m : M} {p : Addr} {ys zs : List V} (h0 : m0.H p = none) (hx : m.H p = some (.lst zs)) (x : Ex m0 m) : Ex m0 (m.over p ys) where
 le := x.le
 ag := x.ag
 pr := fun a o h n t => by
  show upd m.H p _ a = _
  rw [upd_ne (ne_of_none h h0)]
  exact x.pr a o h n t
 th := fun a o h n => by
  show ∃ o', upd m.H p _ a = _
  rw [upd_ne (ne_of_none h h0)]
  exact x.th a o h n
 nw := x.nw
 kd := x.kd
theorem tl_lc {it : IX} {g : GX} {tt : TX} {te : EX} {vs ws : List Nat} (hsub : ∀ i, i ∈ ws → i ∈ vs) {σ : L2.St} {H : Hp} {Q : VK} (h : tL K (lLc it g tt te vs) σ H Q) : tLc (tI K it) (tG K ws g) (tT K tt) (tE K te) vs σ H Q := by
 obtain ⟨Z, m, env, v, S', e, s, er, hf, q⟩ := h
 unfold lLc at hf
 obtain ⟨⟨ds, gs, S0⟩, h1, h2⟩ := Option.bind_eq_some_iff.mp hf
 obtain ⟨⟨out, S1⟩, h3, h4⟩ := Option.bind_eq_some_iff.mp h2
 have hz : szOk out.length = true ∧ out = v ∧ S1 = S' := by
  simp only at h4
  split at h4
  ·rename_i hz
   cases h4
   exact ⟨hz, rfl, rfl⟩
  ·cases h4
 obtain ⟨hz, rfl, rfl⟩ := hz
 refine ⟨Z, m, env, ds, gs, S0, e, s, er, h1, fun m0 J q0 t0 ok => ?_⟩
 subst q0
 intro P hP
 have hPZ : P ∉ Z := (t0.si.fresh hP).2
 have hwz : ∀ z, z ∈ P :: Z → z ∈ Z ∨ m0.H z = none := fun z hz => by
  rcases List.mem_cons.mp hz with e | e
  ·exact .inr (by rw [e]; exact hP)
  ·exact .inl e
 refine ⟨fun i k H' => ∃ (m' : M) (acc : List D) (xs : List V) (r : List D), m'.H = H' ∧ Ex m0 m' ∧ Sim ⟨K, P :: Z⟩ m' ∧ (∀ n, n ∈ gs → m'.S[n]? = m0.S[n]?) ∧ m'.H P = some (.lst xs) ∧ RepL ⟨K, P :: Z⟩ m' acc xs ∧ k = ds.length - i ∧
   lcL g tt te gs m0.S (wipeE env vs) (ds.drop i) m'.S = some (r, S1) ∧ out = acc ++ r,
  ⟨ds.length, ⟨m0.r, m0.S, upd m0.H P (.lst [])⟩, [], [], out, rfl, .laid hP, Sim.apart t0.si hP, fun _ _ => rfl, upd_same, rfl, rfl, h3, rfl⟩, ?_⟩
 rintro i k H' ⟨m', acc, xs, r, rfl, x', s', gd, hx, ra, rfl, hk, ho⟩
 cases hd : ds.drop i with
 | nil =>
  rw [hd] at hk
  cases hk
  have hl : ds.length ≤ i := List.drop_eq_nil_iff.mp hd
  refine .inl ⟨(ok.go (P :: Z) m' (fun _ h => List.mem_cons_of_mem _ h) hwz x' s' gd i).1 hl, ?_⟩
  have hs : Sim ⟨K, Z⟩ (m'.hide P) := by
   rcases s'.hide hx with z | z
   ·exact z
   ·exact absurd z hPZ
  have hn : (m'.hide P).H P = none := by show (if P = P then none else m'.H P) = none; rw [if_pos rfl]
  have tt' : Tr ⟨K, Z⟩ m0 (m'.hide P) := ⟨x'.hideR hP hx trivial, hs⟩
  have qq := q (m'.hide P) P xs rfl (t0.trans s tt') (by rw [ho, List.append_nil]; exact RepL.hide hx acc xs ra) hn
  rw [M.hide_upd hx] at qq
  exact qq
 | cons d rs =>
  rw [hd] at hk
  obtain ⟨hd1, hd2⟩ := drop_cons hd
  have hil : i < ds.length := by
   rcases Nat.lt_or_ge i ds.length with z | z
   ·exact z
   ·rw [List.getElem?_eq_none z] at hd1; cases hd1
  obtain ⟨go, yl⟩ := (ok.go (P :: Z) m' (fun _ h => List.mem_cons_of_mem _ h) hwz x' s' gd i).2 d hd1
  refine .inr ⟨go, fun H2 => ∃ (m2 : M) (acc : List D) (xs : List V) (r : List D), m2.H = H2 ∧ Ex m0 m2 ∧ Sim ⟨K, P :: Z⟩ m2 ∧ (∀ n, n ∈ gs → m2.S[n]? = m0.S[n]?) ∧ m2.H P = some (.lst xs) ∧ RepL ⟨K, P :: Z⟩ m2 acc xs ∧
   lcL g tt te gs m0.S (wipeE env vs) rs m2.S = some (r, S1) ∧ out = acc ++ r, fun H2 ⟨m2, acc2, xs2, r2, a1, a2, a3, a4, a5, a6, a7, a8⟩ => ⟨ds.length - (i + 1), by omega, m2, acc2, xs2, r2, a1, a2, a3, a4, a5, a6, rfl, by rw [hd2]; exact a7, a8⟩, ?_⟩
  intro x H3 hy
  obtain ⟨m3, rfl, e3, t3, r3⟩ := yl x H3 hy
  have t' : Tr ⟨K, P :: Z⟩ m' m' := .refl s'
  obtain ⟨⟨e4, S4⟩, h4, h5⟩ := Option.bind_eq_some_iff.mp (show ((g d (wipeE env vs) m'.S).bind _) = some (r, S1) from hk)
  obtain ⟨⟨bb, S5⟩, h6, h7⟩ := Option.bind_eq_some_iff.mp h5
  -- what stood before the loop
  have er0 : ER ⟨K, P :: Z⟩ m' (wipeE env vs) (wipe σ vs) := (((er.tr s t0).widen hwz).wipe vs).ex t0.si.bok x'
  refine ⟨P :: Z, m3, wipeE env vs, d, e4, S4, rfl, t3.si, er0.tr s' t3, r3, by rw [e3]; exact h4, fun m4 σ4 q4 t4 er4 ag4 => ⟨wipe_same ag4.1 ag4.2 hsub, ?_⟩⟩
  refine ⟨P :: Z, m4, e4, bb, S5, rfl, t4.si, er4, by rw [q4]; exact h6, fun m5 q5 t5 => ?_⟩
  have t35 := (t3.trans s' (t4.trans t3.si t5))
  have nP : ¬ Bx m' P := (s'.zs P (List.mem_cons_self ..)).2
  have x05 : ∀ {m6 : M}, Tr ⟨K, P :: Z⟩ m' m6 → Ex m0 m6 := fun {m6} t => x'.then s'.bok t
  have h7 : (if bb = true then _ else _) = some (r, S1) := h7
  cases bb with
  | true =>
   rw [if_pos rfl] at h7
   show (if (true : Bool) = true then _ else _)
   rw [if_pos rfl]
   obtain ⟨⟨y, S6⟩, h8, h9⟩ := Option.bind_eq_some_iff.mp h7
   refine ⟨P :: Z, m5, e4, y, S6, rfl, t5.si, er4.tr t4.si t5, by rw [q5]; exact h8, fun m6 vy q6 t6 ry => ?_⟩
   have t36 := t35.trans s' t6
   have hx6 : m6.H P = some (.lst xs) := t36.ex.pr _ _ hx nP trivial
   simp only at h9
   split at h9
   ·rename_i hgs
    obtain ⟨⟨r', S7⟩, h10, h11⟩ := Option.map_eq_some_iff.mp h9
    simp only [Prod.mk.injEq] at h11
    obtain ⟨hr', hS7⟩ := h11
    have ho2 : out = acc ++ [y] ++ r' := by rw [ho, ← hr']; simp
    refine ⟨xs, hx6, ?_, m6.over P (xs ++ [vy]), acc ++ [y], xs ++ [vy], r', rfl, Ex.over hP hx6 (x05 t36), Sim.over t6.si hx6 hPZ, fun n hn => ?_, upd_same, ?_, ?_, ho2⟩
    ·rw [ra.len]
     have := szOk_le hz
     rw [ho2] at this
     simp at this
     omega
    ·show m6.S[n]? = _
     rw [q6]
     exact hgs n hn
    ·exact RepL.over t6.si hx6 hPZ (RepL.app (t36.repL s' ra) (RepL.one ry))
    ·show lcL g tt te gs m0.S (wipeE env vs) rs m6.S = some (r', S1)
     rw [q6, ← hS7]
     exact h10
   ·cases h9
  | false =>
   rw [if_neg Bool.false_ne_true] at h7
   show (if (false : Bool) = true then _ else _)
   rw [if_neg Bool.false_ne_true]
   simp only at h7
   split at h7
   ·rename_i hgs
    refine ⟨m5, acc, xs, r, rfl, x05 t35, t35.si, fun n hn => by rw [q5]; exact hgs n hn, t35.ex.pr _ _ hx nP trivial, t35.repL s' ra, by rw [q5]; exact h7, ho⟩
   ·cases h7
theorem lj_lc {elt tg iter : Expr} {ifs : List Expr} {scope : Scope} {own : List (Str × Nat)} {it : IX} {g : GX} {tt : TX} {te : EX} {ws : List Nat} (hc : X.calm = true) (hN : X.N.Nodup) (hi : IJ X tg iter it) (ok : BlkOk X.N X.env.scope scope own)
  (hg : ∀ (s : Shared) (H : Hp) (C : Addr) (cl : List (Str × Addr)) (fp : List Addr), GJ (X.blk s H scope (compEnvC scope cl C X.env) fp) tg ws g)
  (ht : ∀ (s : Shared) (H : Hp) (C : Addr) (cl : List (Str × Addr)) (fp : List Addr), TsJ (X.blk s H scope (compEnvC scope cl C X.env) fp) ifs tt)
  (he : ∀ (s : Shared) (H : Hp) (C : Addr) (cl : List (Str × Addr)) (fp : List Addr), EJ (X.blk s H scope (compEnvC scope cl C X.env) fp) elt te) (hsub : ∀ i, i ∈ ws → i ∈ own.map (·.2))
  (hs : ∀ x, foldedSetIterable iter X.env x = pure x := by intro _; rfl) : LJ X (.ListComp elt [⟨tg, iter, ifs, 0⟩] scope pos) (lLc it g tt te (own.map (·.2))) :=
 pe_wk (pe_lc hc hN hi ok hg ht he hs) fun _ _ _ h => tl_lc hsub h
def sAsgL (bx : Bool) (f : LX) (i : Nat) : SX := sAsg (if bx = true then eBx f else eFz f) (gN i)
theorem ts_name {f : EX} {i : Nat} {D : Ends} {σ : L2.St} {H : Hp} (h : tS K (sAsg f (gN i)) D σ H) : tAsg (tE K f) (gName i) D σ H := by
 obtain ⟨Z, m, env, o, e, s, er, hf, q⟩ := h
 unfold sAsg at hf
 obtain ⟨⟨y, S1⟩, h1, h⟩ := Option.bind_eq_some_iff.mp hf
 cases h
 exact ⟨Z, m, env, y, S1, e, s, er, h1, fun m1 vx e1 t1 rx => q m1 _ e1 t1 ((er.tr s t1).set rx i)⟩
theorem tl_name {f : LX} {fe : EX} (hfe : ∀ σ H Q, tE K fe σ H Q → tL K f σ H Q) {t : TE} (ht : ∀ σ H Q, tL K f σ H Q → t σ H Q) {i : Nat} {D : Ends} {σ : L2.St} {H : Hp} (h : tS K (sAsg fe (gN i)) D σ H) : tAsg t (gName i) D σ H :=
 ht _ _ _ (hfe _ _ _ (ts_name h))
theorem sj_setLc {i : Nat} {y : Str} {py spos : Pos} {elt tg iter : Expr} {ifs : List Expr} {scope : Scope} {own : List (Str × Nat)} {it : IX} {g : GX} {tt : TX} {te : EX} {ws : List Nat} (bx : Bool) (hc : X.calm = true) (hN : X.N.Nodup) (hy : X.N[i]? = some y) (hyl : X.env.scope.names.lookup y = some .local)
  (hsw : swapsWith (.ListComp elt [⟨tg, iter, ifs, 0⟩] scope pos) (some (.Name y py)) spos.line X.env = pure true) (hi : IJ X tg iter it) (ok : BlkOk X.N X.env.scope scope own)
  (hg : ∀ (s : Shared) (H : Hp) (C : Addr) (cl : List (Str × Addr)) (fp : List Addr), GJ (X.blk s H scope (compEnvC scope cl C X.env) fp) tg ws g)
  (ht : ∀ (s : Shared) (H : Hp) (C : Addr) (cl : List (Str × Addr)) (fp : List Addr), TsJ (X.blk s H scope (compEnvC scope cl C X.env) fp) ifs tt)
  (he : ∀ (s : Shared) (H : Hp) (C : Addr) (cl : List (Str × Addr)) (fp : List Addr), EJ (X.blk s H scope (compEnvC scope cl C X.env) fp) elt te) (hsub : ∀ i, i ∈ ws → i ∈ own.map (·.2))
  (hs : ∀ x, foldedSetIterable iter X.env x = pure x := by intro _; rfl) : SJ X (.Assign [.Name y py] (.ListComp elt [⟨tg, iter, ifs, 0⟩] scope pos) spos) (sAsgL bx (lLc it g tt te (own.map (·.2))) i) := by
 cases bx with
 | true => exact ps_wk (ps_setLc hc hN hy hyl hsw hi ok hg ht he hs) fun _ _ _ h => tl_name (fun _ _ _ h => tl_bx h) (fun _ _ _ h => tl_lc hsub h) h
 | false => exact ps_wk (ps_setLc hc hN hy hyl hsw hi ok hg ht he hs) fun _ _ _ h => tl_name (fun _ _ _ h => tl_fz h) (fun _ _ _ h => tl_lc hsub h) h
end
mutual
def below (k : Nat) : D → Bool
 | .ref n => decide (n < k)
 | .tup xs => belowL k xs
 | .lst xs => belowL k xs
 | .rol xs => belowL k xs
 | .dic _ vs => belowL k vs
 | .tag _ vs => belowL k vs
 | .dref n => decide (n < k)
 | .iref _ n => decide (n < k)
 | _ => true
def belowL (k : Nat) : List D → Bool
 | [] => true
 | d :: ds => below k d && belowL k ds
end
def M.cut (m : M) (k : Nat) : M := ⟨m.r, m.S.take k, m.H⟩
section
variable {K : PySem.W.Frag} {c : C} {m m' : M}
theorem Bx.cut {k : Nat} {a : Addr} (h : ¬ Bx m a) : ¬ Bx (m.cut k) a := by
 rintro ⟨i, hi, e⟩
 have hi : i < (m.S.take k).length := hi
 rw [List.length_take] at hi
 exact h ⟨i, by omega, e⟩
theorem TagR.cut {K : PySem.W.Frag} {j : Nat} : ∀ {k : Nat} {a : Addr} {xs : List V}, TagR K m k a xs → TagR K (m.cut j) k a xs
 | 0, _, _, h => h
 | _ + 1, _, _, h => h
mutual
theorem Rep.cut {k : Nat} : ∀ (d : D) (v : V), Rep c m d v → below k d = true → Rep c (m.cut k) d v
 | .non, v, h, _ => h
 | .bl _, v, h, _ => h
 | .int _, v, h, _ => h
 | .str _, v, h, _ => h
 | .tup ds, v, h, b => by
  obtain ⟨a, xs, e, h1, h2⟩ := h
  exact ⟨a, xs, e, h1, RepL.cut ds xs h2 (by simpa [below] using b)⟩
 | .lst ds, v, h, b => by
  obtain ⟨a, xs, e, ⟨h1, h3, h4⟩, h2⟩ := h
  exact ⟨a, xs, e, ⟨h1, Bx.cut h3, h4⟩, RepL.cut ds xs h2 (by simpa [below] using b)⟩
 | .rol ds, v, h, b => by
  obtain ⟨a, xs, e, h1, h2⟩ := h
  exact ⟨a, xs, e, h1, RepL.cut ds xs h2 (by simpa [below] using b)⟩
 | .dic ks vs, v, h, b => by
  obtain ⟨a, kvs, e, ⟨h1, h3, h4⟩, h5, h2⟩ := h
  exact ⟨a, kvs, e, ⟨h1, Bx.cut h3, h4⟩, h5, RepL.cut vs _ h2 (by simpa [below] using b)⟩
 | .ref n, v, h, b => by
  obtain ⟨⟨ds, h1⟩, h2⟩ := h
  have b : n < k := by simpa [below] using b
  exact ⟨⟨ds, by show (m.S.take k)[n]? = _; rw [List.getElem?_take_of_lt b]; exact h1⟩, h2⟩
 | .dref n, v, h, b => by
  obtain ⟨⟨o, h1, hk⟩, h2⟩ := h
  have b : n < k := by simpa [below] using b
  exact ⟨⟨o, by show (m.S.take k)[n]? = _; rw [List.getElem?_take_of_lt b]; exact h1, hk⟩, h2⟩
 | .iref _ n, v, h, b => by
  obtain ⟨⟨o, h1, hk⟩, h2⟩ := h
  have b : n < k := by simpa [below] using b
  exact ⟨⟨o, by show (m.S.take k)[n]? = _; rw [List.getElem?_take_of_lt b]; exact h1, hk⟩, h2⟩
 | .tag k ds, v, h, b => by
  obtain ⟨a, xs, e, h1, h2⟩ := h
  exact ⟨a, xs, e, TagR.cut h1, RepL.cut ds xs h2 (by simpa [below] using b)⟩
theorem RepL.cut {k : Nat} : ∀ (ds : List D) (vs : List V), RepL c m ds vs → belowL k ds = true → RepL c (m.cut k) ds vs
 | [], vs, h, _ => h
 | d :: ds, vs, h, b => by
  obtain ⟨y, r, e, h1, h2⟩ := h
  have b : below k d = true ∧ belowL k ds = true := by simpa [belowL] using b
  exact ⟨y, r, e, Rep.cut d y h1 b.1, RepL.cut ds r h2 b.2⟩
end
mutual
theorem Rep.below : ∀ (d : D) (v : V), Rep c m d v → below m.S.length d = true
 | .non, v, h => rfl
 | .bl _, v, h => rfl
 | .int _, v, h => rfl
 | .str _, v, h => rfl
 | .tup ds, v, h => by
  obtain ⟨a, xs, e, h1, h2⟩ := h
  simpa [Pv.below] using RepL.below ds xs h2
 | .lst ds, v, h => by
  obtain ⟨a, xs, e, h1, h2⟩ := h
  simpa [Pv.below] using RepL.below ds xs h2
 | .rol ds, v, h => by
  obtain ⟨a, xs, e, h1, h2⟩ := h
  simpa [Pv.below] using RepL.below ds xs h2
 | .dic ks vs, v, h => by
  obtain ⟨a, kvs, e, _, h5, h2⟩ := h
  simpa [Pv.below] using RepL.below vs _ h2
 | .ref n, v, h => by simpa [Pv.below] using h.lt.1
 | .dref n, v, h => by simpa [Pv.below] using h.ltD.1
 | .iref _ n, v, h => by simpa [Pv.below] using h.ltI.1
 | .tag k ds, v, h => by
  obtain ⟨a, xs, e, h1, h2⟩ := h
  simpa [Pv.below] using RepL.below ds xs h2
theorem RepL.below : ∀ (ds : List D) (vs : List V), RepL c m ds vs → belowL m.S.length ds = true
 | [], vs, h => rfl
 | d :: ds, vs, h => by
  obtain ⟨y, r, e, h1, h2⟩ := h
  simp [belowL, Rep.below d y h1, RepL.below ds r h2]
end
def WfS (S : Sto) : Prop := ∀ (i : Nat) (o : Ob), S[i]? = some o → belowL S.length o.vs = true
theorem Sim.wf (s : Sim c m) : WfS m.S := fun i o h => by
 obtain ⟨xs, _, _, _, h2, _⟩ := (s.obj i _ h).to
 exact RepL.below o.vs xs h2
theorem Sim.cut (s : Sim c m) {S' : Sto} {t : Sto} (e : S' ++ t = m.S) (w : WfS S') : Sim c (m.cut S'.length) := by
 have hS : (m.cut S'.length).S = S' := by show m.S.take S'.length = S'; rw [← e]; simp
 have hl : ∀ i, i < S'.length → i < m.S.length := fun i h => by rw [← e, List.length_append]; omega
 refine ⟨fun i j hi hj q => ?_, fun i o h => ?_, fun z hz => ?_, s.tabs⟩
 ·rw [hS] at hi hj
  exact s.inj i j (hl i hi) (hl j hj) q
 ·rw [hS] at h
  have hi : i < S'.length := by
   rcases Nat.lt_or_ge i S'.length with z | z
   ·exact z
   ·rw [List.getElem?_eq_none z] at h; cases h
  have h2 : m.S[i]? = some o := by rw [← e, List.getElem?_append_left hi]; exact h
  obtain ⟨xs, u, h3, _, h4, f⟩ := (s.obj i _ h2).to
  exact f rfl rfl h3 (RepL.cut _ xs h4 (w i o h))
 ·exact ⟨(s.zs z hz).1, Bx.cut (s.zs z hz).2⟩
theorem Tr.cut {m0 : M} (t : Tr c m0 m) {S' : Sto} {t' : Sto} (e : S' ++ t' = m.S) (w : WfS S') (hle : m0.S.length ≤ S'.length) : Tr c m0 (m.cut S'.length) := by
 have hS : (m.cut S'.length).S = S' := by show m.S.take S'.length = S'; rw [← e]; simp
 refine ⟨⟨by rw [hS]; exact hle, t.ex.ag, t.ex.pr, t.ex.th, fun i h1 h2 => t.ex.nw i h1 ?_, fun i o h => ?_⟩, t.si.cut e w⟩
 rotate_left
 ·obtain ⟨o', h1, h2⟩ := t.ex.kd i o h
  refine ⟨o', ?_, h2⟩
  have hi : i < m0.S.length := (List.getElem?_eq_some_iff.mp h).1
  rw [hS]
  rw [← e, List.getElem?_append_left (by omega)] at h1
  exact h1
 rw [hS] at h2
 rw [← e, List.length_append]
 omega
def Fz (S : Sto) (k : Nat) (d v : D) : Prop := (d = v ∧ below k v = true) ∨ (∃ n ds, d = .ref n ∧ k ≤ n ∧ S[n]? = some (.lst ds) ∧ belowL k ds = true ∧ v = .lst ds) ∨ ∃ n ks ds, d = .dref n ∧ k ≤ n ∧ S[n]? = some (.dk ks ds) ∧ belowL k ds = true ∧ ks.length = ds.length ∧ v = .dic ks ds
theorem Rep.fz (s : Sim c m) {d v : D} {x : V} {k : Nat} (h : Rep c m d x) (f : Fz m.S k d v) : Rep c (m.cut k) v x := by
 rcases f with ⟨rfl, b⟩ | ⟨n, ds, rfl, hk, hn, hb, rfl⟩ | ⟨n, ks, ds, rfl, hk, hn, hb, hl, rfl⟩
 ·exact Rep.cut d x h b
 ·obtain ⟨h1, rfl⟩ := h.lt
  obtain ⟨xs, h3, h4⟩ := s.obj n _ hn
  refine ⟨m.r n, xs, rfl, ⟨h3, ?_, fun z => (s.zs _ z).2 ⟨n, h1, rfl⟩⟩, RepL.cut ds xs h4 hb⟩
  rintro ⟨i, hi, e⟩
  have hi : i < (m.S.take k).length := hi
  rw [List.length_take] at hi
  have := s.inj i n (by omega) h1 e
  omega
 ·obtain ⟨h1, rfl⟩ := h.ltD
  obtain ⟨xs, h3, h4⟩ := s.obj n _ hn
  have hx : xs.length = ks.length := by rw [h4.len]; exact hl.symm
  refine ⟨m.r n, ks.zip xs, rfl, ⟨h3, ?_, fun z => (s.zs _ z).2 ⟨n, h1, rfl⟩⟩, List.map_fst_zip (by omega), ?_⟩
  ·rintro ⟨i, hi, e⟩
   have hi : i < (m.S.take k).length := hi
   rw [List.length_take] at hi
   have := s.inj i n (by omega) h1 e
   omega
  ·rw [List.map_snd_zip (by omega)]
   exact RepL.cut ds xs h4 hb
abbrev Con := List D → Sto → Option (D × Sto)
def spD (K : PySem.W.Frag) (f : Con) : Sp := fun vs H Q _ => ∃ (Z : List Addr) (m : M) (ds : List D) (v : D) (S' : Sto), m.H = H ∧ Sim ⟨K, Z⟩ m ∧ RepL ⟨K, Z⟩ m ds vs ∧ f ds m.S = some (v, S') ∧
 ∀ m' x, m'.S = S' → Tr ⟨K, Z⟩ m m' → Rep ⟨K, Z⟩ m' v x → Q x m'.H
def sE (n : Nat) (ds : List D) : En := ds.map some ++ List.replicate (n - ds.length) none
def Fin (o : Out) (v : D) (S' : Sto) : Prop := match o with
 | .rt d S2 => (∃ t, S' ++ t = S2) ∧ Fz S2 S'.length d v
 | .nx _ S2 => (∃ t, S' ++ t = S2) ∧ v = .non
 | _ => False
theorem RepL.start : ∀ {ds : List D} {vs : List V}, RepL c m ds vs → ∀ (i : Nat) (d : D), (ds.map some)[i]? = some (some d) → ∃ x, (vs.map some)[i]? = some (some x) ∧ Rep c m d x
 | ds, vs, h, i, d, e => by
  rw [List.getElem?_map] at e
  cases q : ds[i]? with
  | none => rw [q] at e; cases e
  | some d' =>
   rw [q] at e
   have e' : d' = d := by simpa using e
   subst e'
   obtain ⟨x, h1, h2⟩ := h.get q
   exact ⟨x, by rw [List.getElem?_map, h1]; rfl, h2⟩
theorem ER.start {N : List Str} {ds : List D} {vs : List V} (h : RepL c m ds vs) : ER c m (sE N.length ds) (L2.start N vs) := by
 have hl := h.len
 refine ⟨by simp [sE, L2.start, hl], fun i d e => ?_⟩
 unfold sE at e
 unfold L2.start
 by_cases hi : i < ds.length
 ·rw [List.getElem?_append_left (by rw [List.length_map]; exact hi)] at e
  obtain ⟨x, h1, h2⟩ := h.start i d e
  exact ⟨x, by rw [List.getElem?_append_left (by rw [List.length_map, hl]; exact hi)]; exact h1, h2⟩
 ·rw [List.getElem?_append_right (by rw [List.length_map]; omega), List.getElem?_replicate] at e
  split at e <;> cases e
end
structure RG (k : Nat) (A : Around) : Prop where
 room : Room k A
 gd : A.guards = some []
theorem RG.mono {j k : Nat} {A : Around} (h : RG k A) (hj : j ≤ k) : RG j A := ⟨h.room.mono hj, h.gd⟩
structure FnG (P : Program) (w : World) (K : PySem.W.Frag) (mg : Str → Option Value) (base : Heap) (k : Nat) (f : Addr) (fd : FuncData) (ps : List Str) (con : Con) : Prop where
 len : ∀ ds S r, con ds S = some r → ds.length = ps.length
 run : ∀ (A : Around) (out : List PySem.Env) (s : Shared) (H : Hp) (args : Args) (us : List Value) (vs : List V) (Q : VK) (E : XK), RG k A → Env0 P w K mg base A out s H → BindsTo s fd args (ps.zip us) → Vals vs us →
  spD K con vs H Q E → codeAny (model P w) A (.call (.ref f) args) (CR CX0 out P w H s Q E) s
section
variable {K : PySem.W.Frag} {P : Program} {w : World} {mg : Str → Option Value} {base : Heap} {x qual : Str} {params : Arguments} {body : List Stmt} {scope : Scope} {dvs : List V} {kws : List (Str × V)} {f : Addr} {fd : FuncData} {N ps : List Str} {k : Nat} {con : Con}
theorem sp_len (len : ∀ ds S r, con ds S = some r → ds.length = ps.length) {vs : List V} {H : Hp} {Q : VK} {E : XK} (h : spD K con vs H Q E) : vs.length = ps.length := by
 obtain ⟨Z, m, ds, v, S', _, _, r, e, _⟩ := h
 rw [r.len]
 exact len _ _ _ e
theorem fn_ok {b : SX} (F : FunD K x qual params body scope dvs kws f fd) (S : FnScope N ps scope) (len : ∀ ds S r, con ds S = some r → ds.length = ps.length)
  (hb : ∀ (cdv : Value) (A : Around) (outer : List PySem.Env) (s : Shared) (H : Hp) (E : XK), RG k (A.deeper (envOfC qual scope s.heap.objs.size f cdv)) → BJ (cxOf CX0 P w K mg base N qual scope f cdv A outer s H E).nox body b)
  (real : ∀ ds S v S', WfS S → belowL S.length ds = true → con ds S = some (v, S') → ∃ o, b (sE N.length ds) S = some o ∧ Fin o v S' ∧ WfS S' ∧ S.length ≤ S'.length) : FnG P w K mg base (k + 1) f fd ps con := by
 obtain ⟨oc, od, dV, kV, doc, pm, an, cdv, ct, osl, rfl, lk, hcd, _, _⟩ := F.ex
 refine ⟨len, fun A out s H args us vs Q E hr e0 hbd rv hsp => ?_⟩
 have hlen := sp_len len hsp
 have hK : K.In s.heap := e0.mod.kin.keeps fun b o e => (e0.bs b o e).1
 have hkd : ∀ y ∈ ps.zip us, scope.names.lookup y.1 = some .local ∨ (scope.names.lookup y.1 = some .cell ∧ ((cellsFrom (s.heap.objs.size + 1) scope.names []).lookup y.1).isSome = true) := by
  rintro ⟨n, v⟩ hy
  rcases S.par n (List.of_mem_zip hy).1 with q | q
  ·exact .inl q
  ·exact .inr ⟨q, PySem.W.cellsFrom_some _ _ _ (.inl q)⟩
 refine codeAny_call_function hr.room.depth (hK _ _ lk) rfl S.co S.gen rfl (PySem.W.codeRec_of hK hcd) (hbd _ _ _ _ (wpAny_newFunctionEnv_cells S.kind hkd fun env he s1 ic => ?_))
 subst he
 refine ⟨(e0.mod.nolimit.keeps fun b o e => (e0.bs b o e).1).keeps ic.toInCall.keep, codeAny_func ?_⟩
 have I : Inv (cxOf CX0 P w K mg base N qual scope f cdv A out s H E) [] (L2.start N vs) H s1 := inv_start S hr.room.hd e0 hlen rv ic
 have body' := PSs.nox (hb cdv A out s H E ⟨hr.room.deeper _, hr.gd⟩)
 obtain ⟨Z, m, ds, v, S', e, si, r, ef, q⟩ := hsp
 obtain ⟨o, ho, fi, wf, hle⟩ := real ds m.S v S' si.wf (RepL.below ds vs r) ef
 have want : tS K b { nx := fun _ H' => Q .non H', rt := Q } (L2.start N vs) H := by
  refine ⟨Z, m, sE N.length ds, o, e, si, ER.start r, ho, ?_⟩
  cases o with
  | nx e2 S2 =>
   obtain ⟨⟨t, et⟩, rfl⟩ := fi
   intro m2 σ2 q2 t2 er2
   subst q2
   exact q (m2.cut S'.length) .non (by show m2.S.take S'.length = S'; rw [← et]; simp) (t2.cut et wf hle) rfl
  | rt d S2 =>
   obtain ⟨⟨t, et⟩, fz⟩ := fi
   intro m2 x2 q2 t2 r2
   subst q2
   exact q (m2.cut S'.length) x2 (by show m2.S.take S'.length = S'; rw [← et]; simp) (t2.cut et wf hle) (Rep.fz t2.si r2 fz)
  | bk _ _ => exact fi.elim
  | ct _ _ => exact fi.elim
 refine wpAny_mono (body'.run [] s1 (L2.start N vs) H _ I want) (fun fl s' hs => ?_) fun e s' hs => hs
 cases fl with
 | ret u =>
  obtain ⟨v, σ', H', J, rv, q⟩ := hs
  exact ⟨v, H', J.os, J.bare, J.base, J.hok, rv, q⟩
 | next =>
  obtain ⟨σ', H', J, q⟩ := hs
  exact ⟨.non, H', J.os, J.bare, J.base, J.hok, rfl, q⟩
 | brk =>
  obtain ⟨_, _, _, q⟩ := hs
  exact q.elim
 | cont =>
  obtain ⟨_, _, _, q⟩ := hs
  exact q.elim
end
section
variable {X : Cx} {a : Expr} {es : List Expr} {ga gk : AX} {pos p : Pos} {k : Nat} {f : Addr} {fd : FuncData} {ps : List Str} {con : Con} {x : Str}
def eCall (f : Con) (g : AX) : EX := fun e S => (g e S).bind fun p => f p.1 p.2
theorem run_con {pins : List (Addr × Obj)} {σ : L2.St} {H : Hp} {s : Shared} {Q : VK} {us : List Value} {vs : List V} {args : Args} (F : FnG X.prog X.w X.K X.mg X.base k f fd ps con) (hr : RG k X.A)
  (I : Inv X pins σ H s) (r : Vals vs us) (hb : BindsTo s fd args (ps.zip us)) (h : spD X.K con vs H Q E0) : codeAny (model X.prog X.w) X.A (.call (.ref f) args) (fun r s' => match r with
   | .ok (.ret u) => EP X pins σ Q u s'
   | .ok _ => False
   | .error e => X.xe e s') s := by
 refine codeAny_mono (F.run X.A X.stack s H args us vs Q E0 hr I.env0 hb r h) fun r s' hq => ?_
 cases r with
 | error e => exact False.elim hq
 | ok fl =>
  cases fl with
  | ret u => exact I.after hq
  | next => exact False.elim hq
  | brk => exact False.elim hq
  | cont => exact False.elim hq
theorem sp_of {K : PySem.W.Frag} {E : XK} {Z : List Addr} {m m1 : M} {y : List D} {v : D} {S' : Sto} {vs : List V} {Q : VK} (s : Sim ⟨K, Z⟩ m) (t1 : Tr ⟨K, Z⟩ m m1) (rx : RepL ⟨K, Z⟩ m1 y vs) (h2 : con y m1.S = some (v, S'))
  (q : ∀ m' x, m'.S = S' → Tr ⟨K, Z⟩ m m' → Rep ⟨K, Z⟩ m' v x → Q x m'.H) : spD K con vs m1.H Q E := ⟨Z, m1, y, v, S', rfl, t1.si, rx, h2, fun m2 w e2 t2 rw => q m2 w e2 (t1.trans s t2) rw⟩
theorem ej_call (F : FnG X.prog X.w X.K X.mg X.base k f fd ps con) (hr : RG k X.A) (hg : Gl X x) (hm : X.mg x = some (.ref f)) (hk : PySem.W.keepIn X.K (.ref f) = true) (hb : Binds X.K fd ps [])
  (ha : AJ X (a :: es) ga) (hdb : (x == ("__debug__" : Str)) = false := by decide) (he : starEach (a :: es) X.env = (false, eval a X.env) :: starEach es X.env := by rfl) (hpl : (backTo pos (starEach es X.env)).any (·.1) = false := by rfl) :
  EJ X (.Call (.Name x p) (a :: es) [] pos) (eCall con ga) := ⟨fun pins s σ H Q I ⟨Z, m, env, v, S', e, si, er, hf, q⟩ => by
 obtain ⟨⟨y, S1⟩, h1, h2⟩ := Option.bind_eq_some_iff.mp hf
 have hA : tA X.K ga σ H (fun vs H1 => spD X.K con vs H1 Q E0) := ⟨Z, m, env, y, S1, e, si, er, h1, fun m1 vx e1 t1 rx => sp_of si t1 rx (by rw [e1]; exact h2) q⟩
 refine wpAny_Call_Name_kw (ld_glob I hg hm ?_ hdb)
 refine PySem.W.callWith_K (h₀ := X.base) I.ok.mod.kin hk (thn (ha.run pos pins s σ H _ I hA) fun us s1 ⟨vs, H1, I1, r, q1⟩ => ⟨I1.kIn, ?_⟩) he hpl
 have hl : (us ++ []).length = ps.length := by rw [List.append_nil, ← r.length]; exact sp_len F.len q1
 refine wpAny_call (codeAny_mono (run_con F hr I1 r (by simpa using hb s1 us I1.kIn hl) q1) fun r s' hq => ?_)
 cases r with
 | error e => exact hq
 | ok fl => cases fl <;> exact hq⟩
def eCallK (f : Con) (g : List D → List D) (ga : AX) : EX := fun e S => (ga e S).bind fun p => f (g p.1) p.2
structure KBd (K : PySem.W.Frag) (fd : FuncData) (ps ks : List Str) (g : {α : Type} → List α → List α) : Prop where
 to : ∀ (s : Shared) (ws : List Value), K.In s.heap → ws.length = ks.length → BindsTo s fd ⟨[], ks.zip ws⟩ (ps.zip (g ws))
 rel : ∀ {zs : List V} {ws : List Value}, Vals zs ws → Vals (g zs) (g ws)
 rep : ∀ {c : C} {m : M} {ds : List D} {vs : List V}, RepL c m ds vs → RepL c m (g ds) (g vs)
end
end Pv
namespace L2
open PySem PySem.Spec PyProof.Rows
theorem tuple_mul1 (l : Addr) (items : Array Value) (n : Nat) (dd : Option Addr) (sl : Array (Option Value)) (u : Tok) :
  Meets (Builtin.«tuple.__mul__» ⟨[.ref l, .int 1 u], []⟩) (fun _ R s => s.heap.get? l = some { cls := .type "tuple", dict := dd, data := .seq items n, slots := sl } ∧ R (.ok (.ret (Value.ref l))) s) :=
 .of_wp fun prog w A R s h => by
  obtain ⟨hp, g, d, tk, os⟩ := s
  obtain ⟨hl, h⟩ := h
  have f1 := AutoSeq1.idx_int
  have c1 : (items.isEmpty || (1 : Int) == 1) = true := by simp
  wp_walk using wpAny_loadPart' hl
  repeat (first | (refine wpAny_ite_true (decide_eq_true (by first | rfl | exact c1)) ?_; wp_walk using wpAny_loadPart' hl))
  exact ⟨_, rfl, h⟩
theorem tuple_mul0 (l : Addr) (items : Array Value) (n : Nat) (dd : Option Addr) (sl : Array (Option Value)) (u : Tok) (hne : items.isEmpty = false) :
  Meets (Builtin.«tuple.__mul__» ⟨[.ref l, .int 0 u], []⟩) (fun _ R s => s.heap.get? l = some { cls := .type "tuple", dict := dd, data := .seq items n, slots := sl } ∧
   R (.ok (.ret (Value.ref s.heap.objs.size))) { s with heap := s.heap.push { cls := Value.type "tuple", data := Data.seq #[] }, toks := s.toks }) :=
 .of_wp fun prog w A R s h => by
  obtain ⟨hp, g, d, tk, os⟩ := s
  obtain ⟨hl, h⟩ := h
  have f1 := AutoSeq1.idx_int
  have c1 : (items.isEmpty || (0 : Int) == 1) = false := by simp [hne]
  wp_walk using wpAny_loadPart' hl
  repeat (first | (refine wpAny_ite_false (decide_eq_false (by rw [c1]; exact Bool.false_ne_true)) ?_; wp_walk using wpAny_loadPart' hl))
  exact ⟨_, rfl, h⟩
section
variable {X : Cx}
theorem op_rep1 : OpR X (binaryOp .Mult) (fun x y H Q => ∃ l xs, x = .ref l ∧ y = .int 1 ∧ SqT X.K H l xs ∧ Q (.ref l) H) := by
 intro pins s σ H x y v u Q I rx ry h
 obtain ⟨l, xs, rfl, rfl, hT, q⟩ := h
 cases rx
 obtain ⟨t, rfl⟩ := ry
 obtain ⟨its, r, ⟨⟨cls, dd, data, sl⟩, ho, hc, n, hd⟩, hs⟩ := I.tuple hT
 simp only at hc hd
 subst hc hd
 refine wpAny_binaryOp_repeat_ref (T := "tuple") (U := "int") (by decide) ⟨_, ho, rfl⟩ (fun s' => typeIs_int s' 1 t) noFill_tuple_mul F.fills_int_mul F.slot_int_rmul repeat_tuple F.slot_int_index.lookup
  (call_meets F.slot_int_rmul (typeIs_int s 1 t) F.entry_int_rmul (F.args_int_rmul_2 _ _) (int_rmul_tuple 1 t l its.toArray n dd sl)
   ⟨ho, rfl, ⟨_, ho, rfl⟩, call_meets F.slot_tuple_mul ⟨_, ho, rfl⟩ F.entry_tuple_mul (F.args_tuple_mul_2 _ _) (tuple_mul1 l its.toArray n dd sl t) ⟨ho, ?_⟩⟩)
 exact ⟨.ref l, H, I, rfl, q⟩
theorem op_rep0 : OpR X (binaryOp .Mult) (fun x y H Q => ∃ l xs, x = .ref l ∧ y = .int 0 ∧ SqT X.K H l xs ∧ xs ≠ [] ∧ ∀ p, H p = none → Q (.ref p) (upd H p (.tup []))) := by
 intro pins s σ H x y v u Q I rx ry h
 obtain ⟨l, xs, rfl, rfl, hT, hne, q⟩ := h
 cases rx
 obtain ⟨t, rfl⟩ := ry
 obtain ⟨its, r, ⟨⟨cls, dd, data, sl⟩, ho, hc, n, hd⟩, hs⟩ := I.tuple hT
 simp only at hc hd
 subst hc hd
 have hle : its.length = xs.length := r.length.symm
 have hi : its.toArray.isEmpty = false := by
  cases its with
  | nil => exact absurd (List.eq_nil_of_length_eq_zero hle.symm) hne
  | cons a b => rfl
 refine wpAny_binaryOp_repeat_ref (T := "tuple") (U := "int") (by decide) ⟨_, ho, rfl⟩ (fun s' => typeIs_int s' 0 t) noFill_tuple_mul F.fills_int_mul F.slot_int_rmul repeat_tuple F.slot_int_index.lookup
  (call_meets F.slot_int_rmul (typeIs_int s 0 t) F.entry_int_rmul (F.args_int_rmul_2 _ _) (int_rmul_tuple 0 t l its.toArray n dd sl)
   ⟨ho, rfl, ⟨_, ho, rfl⟩, call_meets F.slot_tuple_mul ⟨_, ho, rfl⟩ F.entry_tuple_mul (F.args_tuple_mul_2 _ _) (tuple_mul0 l its.toArray n dd sl t hi) ⟨ho, ?_⟩⟩)
 refine ⟨.ref s.heap.objs.size, _, I.laid (t' := s.toks) (o := .tup []) (fun b ob q => Heap.get?_push_of_some _ q) (Nat.le_refl _) ?_, rfl, q _ (I.hok.fresh (Nat.le_refl _))⟩
 exact ⟨Nat.zero_le _, [], .nil, IsTup.new _ _⟩
end
end L2
namespace Pv
open PySem PySem.Spec PyProof.Rows L2
section
variable {X : Cx} {K : PySem.W.Frag} {c : C} {m : M}
theorem RepL.nil_iff {ds : List D} {xs : List V} (h : RepL c m ds xs) : xs = [] ↔ ds = [] := by
 cases ds with
 | nil => exact ⟨fun _ => rfl, fun _ => h⟩
 | cons d ds =>
  obtain ⟨y, r, e, _, _⟩ := h
  exact ⟨fun z => (by rw [e] at z; cases z), fun z => (by cases z)⟩
theorem RepL.rep {ds : List D} {xs : List V} (h : RepL c m ds xs) : ∀ k : Nat, RepL c m (List.replicate k ds).flatten (List.replicate k xs).flatten
 | 0 => rfl
 | k + 1 => by
  rw [List.replicate_succ, List.replicate_succ, List.flatten_cons, List.flatten_cons]
  exact h.app (RepL.rep h k)
def mulOk (i j : Int) : Bool := decide (i.natAbs.log2 + j.natAbs.log2 < 1000000)
def divOk (j : Int) : Bool := decide (j ≠ 0) && decide (j.natAbs.log2 < 9000)
def powOk (i j : Int) : Bool := decide (0 ≤ j) && decide (j ≤ 1000000) && decide (i.natAbs < 18446744073709551616)
def fAdd : F2 := fun _ a b => match a, b with
 | .int i, .int j => some (.int (i + j))
 | .str x, .str y => if szOk (x.length + y.length) = true then some (.str (x ++ y)) else none
 | .tup xs, .tup ys => if szOk (xs.length + ys.length) = true then some (.tup (xs ++ ys)) else none
 | _, _ => none
def fSub : F2 := fun _ a b => match a, b with
 | .int i, .int j => some (.int (i - j))
 | _, _ => none
def repOk (n : Nat) (k : Int) : Bool := decide (0 < n) && decide (0 ≤ k) && decide (k ≤ 1000) && decide (n ≤ 1000)
def fMul : F2 := fun _ a b => match a, b with
 | .int i, .int j => if mulOk i j = true then some (.int (i * j)) else none
 | .tup xs, .int k => if repOk xs.length k = true then some (.tup (List.replicate k.toNat xs).flatten) else none
 | _, _ => none
def fDiv : F2 := fun _ a b => match a, b with
 | .int i, .int j => if divOk j = true then some (.int (i.fdiv j)) else none
 | _, _ => none
def fMod : F2 := fun _ a b => match a, b with
 | .int i, .int j => if j ≠ 0 then some (.int (i.fmod j)) else none
 | _, _ => none
def fPow : F2 := fun _ a b => match a, b with
 | .int i, .int j => if powOk i j = true then some (.int (i ^ j.toNat)) else none
 | _, _ => none
def fShl : F2 := fun _ a b => match a, b with
 | .int i, .int j => if powOk i j = true then some (.int (i * 2 ^ j.toNat)) else none
 | _, _ => none
def fNeg : F1 := fun _ a => match a with
 | .int i => some (.int (-i))
 | _ => none
theorem no2 {α : Type} {x : α} {P : Prop} (h : none = some x) : P := nomatch h
theorem mulOk_inv {i j : Int} (h : mulOk i j = true) : CMulW i j := by
 have h' : i.natAbs.log2 + j.natAbs.log2 < 1000000 := of_decide_eq_true h
 exact h'
theorem ite_some {α : Type} {c : Prop} [Decidable c] {x y : α} (h : (if c then some x else none) = some y) : c ∧ x = y := by
 split at h
 ·cases h; exact ⟨by assumption, rfl⟩
 ·cases h
theorem o_add : OpR X (binaryOp .Add) (r2 X.K fAdd) := by
 rintro pins s σ H x y v u Q I rx ry ⟨Z, m, a, b, d, rfl, si, ra, rb, hf, q⟩
 cases a <;> cases b <;> first | exact no2 hf | skip
 ·cases hf
  exact op_add pins s σ m.H x y v u Q I rx ry ⟨_, _, ra, rb, q m _ rfl (.refl si) rfl⟩
 ·obtain ⟨hz, rfl⟩ := ite_some hf
  exact op_add_str pins s σ m.H x y v u Q I rx ry ⟨_, _, ra, rb, szOk_le hz, q m _ rfl (.refl si) rfl⟩
 ·obtain ⟨hz, rfl⟩ := ite_some hf
  obtain ⟨p1, xs, rfl, h1, l1⟩ := ra
  obtain ⟨p2, ys, rfl, h2, l2⟩ := rb
  refine op_catA pins s σ m.H _ _ v u Q I rx ry ⟨p1, p2, xs, ys, rfl, rfl, h1, h2, by rw [l1.len, l2.len]; exact szOk_le hz, fun e => ?_, fun _ e => ?_, fun _ _ p hp => ?_⟩
  ·refine q m _ rfl (.refl si) ⟨p2, ys, rfl, h2, ?_⟩
   rw [l1.nil_iff.mp e]
   exact l2
  ·refine q m _ rfl (.refl si) ⟨p1, xs, rfl, h1, ?_⟩
   rw [l2.nil_iff.mp e, List.append_nil]
   exact l1
  ·exact q ⟨m.r, m.S, upd m.H p (.tup (xs ++ ys))⟩ _ rfl (.laid si hp) (Rep.newTup si hp (l1.app l2))
theorem o_sub : OpR X (binaryOp .Sub) (r2 X.K fSub) := by
 rintro pins s σ H x y v u Q I rx ry ⟨Z, m, a, b, d, rfl, si, ra, rb, hf, q⟩
 cases a <;> cases b <;> first | exact no2 hf | skip
 cases hf
 exact op_sub pins s σ m.H x y v u Q I rx ry ⟨_, _, ra, rb, q m _ rfl (.refl si) rfl⟩
theorem repOk_inv {n : Nat} {k : Int} (h : repOk n k = true) : 0 < n ∧ 0 ≤ k ∧ k ≤ 1000 ∧ n ≤ 1000 := by
 unfold repOk at h
 simp only [Bool.and_eq_true, decide_eq_true_eq] at h
 omega
theorem o_mul : OpR X (binaryOp .Mult) (r2 X.K fMul) := by
 rintro pins s σ H x y v u Q I rx ry ⟨Z, m, a, b, d, rfl, si, ra, rb, hf, q⟩
 cases a <;> cases b <;> first | exact no2 hf | skip
 ·obtain ⟨hz, rfl⟩ := ite_some hf
  exact op_mulW pins s σ m.H x y v u Q I rx ry ⟨_, _, ra, rb, mulOk_inv hz, q m _ rfl (.refl si) rfl⟩
 ·obtain ⟨hz, rfl⟩ := ite_some hf
  obtain ⟨p1, xs, rfl, h1, l1⟩ := ra
  obtain ⟨z1, z2, z3, z4⟩ := repOk_inv hz
  rename_i ds0 k0
  have hn0 : xs ≠ [] := fun e => by
   rw [l1.nil_iff.mp e] at z1
   cases z1
  have hk : k0 = 0 ∨ k0 = 1 ∨ 2 ≤ k0 := by omega
  rcases hk with rfl | rfl | hk
  ·refine op_rep0 pins s σ m.H _ _ v u Q I rx ry ⟨p1, xs, rfl, rb, h1, hn0, fun p hp => ?_⟩
   exact q ⟨m.r, m.S, upd m.H p (.tup _)⟩ _ rfl (.laid si hp) (Rep.newTup (ds := []) si hp rfl)
  ·refine op_rep1 pins s σ m.H _ _ v u Q I rx ry ⟨p1, xs, rfl, rb, h1, ?_⟩
   refine q m _ rfl (.refl si) ?_
   have e1 : (List.replicate (Int.toNat 1) ds0).flatten = ds0 := by
    show ds0 ++ [] = ds0
    rw [List.append_nil]
   rw [e1]
   exact ⟨p1, xs, rfl, h1, l1⟩
  ·refine op_repT pins s σ m.H _ _ v u Q I rx ry ⟨p1, _, xs, rfl, rb, h1, hn0, hk, z3, by rw [l1.len]; exact z4, fun p hp => ?_⟩
   exact q ⟨m.r, m.S, upd m.H p (.tup _)⟩ _ rfl (.laid si hp) (Rep.newTup si hp (l1.rep _))
theorem o_div : OpR X (binaryOp .FloorDiv) (r2 X.K fDiv) := by
 rintro pins s σ H x y v u Q I rx ry ⟨Z, m, a, b, d, rfl, si, ra, rb, hf, q⟩
 cases a <;> cases b <;> first | exact no2 hf | skip
 obtain ⟨hz, rfl⟩ := ite_some hf
 unfold divOk at hz
 simp only [Bool.and_eq_true, decide_eq_true_eq] at hz
 cases ra
 cases rb
 obtain ⟨t, rfl⟩ := rx
 obtain ⟨t', rfl⟩ := ry
 exact floordiv_int hz.1 ⟨.int _, m.H, I.tok _, ⟨_, rfl⟩, q m _ rfl (.refl si) rfl⟩ (.inl (PyProof.noPylong_of_log2 hz.2))
theorem o_mod : OpR X (binaryOp .Mod) (r2 X.K fMod) := by
 rintro pins s σ H x y v u Q I rx ry ⟨Z, m, a, b, d, rfl, si, ra, rb, hf, q⟩
 cases a <;> cases b <;> first | exact no2 hf | skip
 obtain ⟨hz, rfl⟩ := ite_some hf
 exact op_modN pins s σ m.H x y v u Q I rx ry ⟨_, _, ra, rb, hz, q m _ rfl (.refl si) rfl⟩
theorem powOk_inv {i j : Int} (h : powOk i j = true) : CPow i j := by
 unfold powOk at h
 simp only [Bool.and_eq_true, decide_eq_true_eq] at h
 exact ⟨h.1.1, h.1.2, h.2⟩
theorem o_pow : OpR X (binaryOp .Pow) (r2 X.K fPow) := by
 rintro pins s σ H x y v u Q I rx ry ⟨Z, m, a, b, d, rfl, si, ra, rb, hf, q⟩
 cases a <;> cases b <;> first | exact no2 hf | skip
 obtain ⟨hz, rfl⟩ := ite_some hf
 exact op_pow pins s σ m.H x y v u Q I rx ry ⟨_, _, ra, rb, powOk_inv hz, q m _ rfl (.refl si) rfl⟩
def fIAdd : F2 := fun _ a b => match a, b with
 | .int i, .int j => some (.int (i + j))
 | _, _ => none
def fCmp (p : Int → Int → Bool) : F2 := fun _ a b => match a, b with
 | .int i, .int j => some (.bl (p i j))
 | _, _ => none
abbrev fLt : F2 := fCmp fun i j => decide (i < j)
abbrev fLe : F2 := fCmp fun i j => decide (i ≤ j)
abbrev fGt : F2 := fCmp fun i j => decide (j < i)
abbrev fGe : F2 := fCmp fun i j => decide (j ≤ i)
theorem o_cmp {op : CmpOp} {p : Int → Int → Bool} (h : OpR X (compareOp op) (rI0 fun i j => .bl (p i j))) : OpR X (compareOp op) (r2 X.K (fCmp p)) := by
 rintro pins s σ H x y v u Q I rx ry ⟨Z, m, a, b, d, rfl, si, ra, rb, hf, q⟩
 cases a <;> cases b <;> first | exact no2 hf | skip
 cases hf
 exact h pins s σ m.H x y v u Q I rx ry ⟨_, _, ra, rb, q m _ rfl (.refl si) rfl⟩
theorem o_lt : OpR X (compareOp .Lt) (r2 X.K fLt) := o_cmp op_lt
theorem o_le : OpR X (compareOp .LtE) (r2 X.K fLe) := o_cmp op_le
theorem o_gt : OpR X (compareOp .Gt) (r2 X.K fGt) := o_cmp op_gt
theorem o_ge : OpR X (compareOp .GtE) (r2 X.K fGe) := o_cmp op_ge
mutual
def pd : D → PyData
 | .non => .none
 | .bl b => .bool b
 | .int i => .int i
 | .str x => .str x
 | .tup xs => .tuple (pdL xs)
 | .lst xs => .list (pdL xs)
 | .rol xs => .list (pdL xs)
 | .dic ks vs => .dict (pdK ks vs)
 | .ref _ => .none
 | .tag _ _ => .none
 | .dref _ => .none
 | .iref _ _ => .none
def pdL : List D → List PyData
 | [] => []
 | d :: ds => pd d :: pdL ds
def pdK : List Key → List D → List (PyData × PyData)
 | k :: ks, v :: vs => ((match k with | .inl i => .int i | .inr x => .str x), pd v) :: pdK ks vs
 | _, _ => []
end
mutual
def flat : D → Bool
 | .ref _ => false
 | .dic _ _ => false
 | .tag _ _ => false
 | .dref _ => false
 | .iref _ _ => false
 | .tup xs => flatL xs
 | .lst xs => flatL xs
 | .rol xs => flatL xs
 | _ => true
def flatL : List D → Bool
 | [] => true
 | d :: ds => flat d && flatL ds
end
def pdS (S : Sto) (d : D) : Option PyData := match d with
 | .ref n => (boxAt S n).bind fun ds => if flatL ds = true then some (.list (pdL ds)) else none
 | d => if flat d = true then some (pd d) else none
mutual
theorem Rep.dp : ∀ (d : D) (v : V), Rep c m d v → flat d = true → Dp c.K m.H v (pd d)
 | .non, v, h, _ => by rw [show v = .non from h]; exact .non
 | .bl b, v, h, _ => by rw [show v = .bl b from h]; exact .bl b
 | .int b, v, h, _ => by rw [show v = .int b from h]; exact .int b
 | .str b, v, h, _ => by rw [show v = .str b from h]; exact .str b
 | .tup ds, v, h, b => by
  obtain ⟨a, xs, rfl, h1, h2⟩ := h
  exact .tup h1 (RepL.dp ds xs h2 (by simpa [flat] using b))
 | .lst ds, v, h, b => by
  obtain ⟨a, xs, rfl, h1, h2⟩ := h
  exact .lst h1.sq (RepL.dp ds xs h2 (by simpa [flat] using b))
 | .rol ds, v, h, b => by
  obtain ⟨a, xs, rfl, h1, h2⟩ := h
  exact .lst h1.sq (RepL.dp ds xs h2 (by simpa [flat] using b))
 | .dic _ _, v, h, b => by simp [flat] at b
 | .ref _, v, h, b => by simp [flat] at b
 | .tag _ _, v, h, b => by simp [flat] at b
 | .dref _, v, h, b => by simp [flat] at b
 | .iref _ _, v, h, b => by simp [flat] at b
theorem RepL.dp : ∀ (ds : List D) (vs : List V), RepL c m ds vs → flatL ds = true → DpAll c.K m.H vs (pdL ds)
 | [], vs, h, _ => by rw [show vs = [] from h]; exact .nil
 | d :: ds, vs, h, b => by
  obtain ⟨y, r, rfl, h1, h2⟩ := h
  have b : flat d = true ∧ flatL ds = true := by simpa [flatL] using b
  exact .cons (Rep.dp d y h1 b.1) (RepL.dp ds r h2 b.2)
end
theorem pdS_inv {S : Sto} {d : D} {p : PyData} (e : pdS S d = some p) : (∃ n ds, d = .ref n ∧ boxAt S n = some ds ∧ flatL ds = true ∧ p = .list (pdL ds)) ∨ (flat d = true ∧ pd d = p) := by
 unfold pdS at e
 split at e
 ·obtain ⟨ds, h1, h2⟩ := Option.bind_eq_some_iff.mp e
  obtain ⟨hf, rfl⟩ := ite_some h2
  exact .inl ⟨_, ds, rfl, h1, hf, rfl⟩
 ·exact .inr (ite_some e)
theorem Sim.dp (s : Sim c m) {d : D} {v : V} {p : PyData} (h : Rep c m d v) (e : pdS m.S d = some p) : Dp c.K m.H v p := by
 rcases pdS_inv e with ⟨n, ds, rfl, h1, hf, rfl⟩ | ⟨hf, rfl⟩
 ·obtain ⟨hl, xs, hx, rl⟩ := s.at h1
  rw [h.2]
  exact .lst (SqL.of hx) (RepL.dp ds xs rl hf)
 ·exact Rep.dp _ v h hf
def fEq : F2 := fun S a b => match a, b with
 | .int i, .int j => some (.bl (decide (i = j)))
 | .str x, .str y => some (.bl (decide (x = y)))
 | a, b => (pdS S a).bind fun p => (pdS S b).bind fun q => if (SeqAt.shaped p && SeqAt.shaped q) = true then some (.bl (PyData.eqv p q)) else none
def fNe : F2 := fun S a b => (fEq S a b).bind fun d => match d with
 | .bl t => some (.bl (!t))
 | _ => none
theorem fEq_bl {S : Sto} {a b d : D} (h : fEq S a b = some d) : (∃ i j, a = .int i ∧ b = .int j ∧ d = .bl (decide (i = j))) ∨ (∃ i j, a = .str i ∧ b = .str j ∧ d = .bl (decide (i = j))) ∨
  ∃ p q, pdS S a = some p ∧ pdS S b = some q ∧ SeqAt.shaped p = true ∧ SeqAt.shaped q = true ∧ d = .bl (PyData.eqv p q) := by
 have gen : (pdS S a).bind (fun p => (pdS S b).bind fun q => if (SeqAt.shaped p && SeqAt.shaped q) = true then some (D.bl (PyData.eqv p q)) else none) = some d →
   ∃ p q, pdS S a = some p ∧ pdS S b = some q ∧ SeqAt.shaped p = true ∧ SeqAt.shaped q = true ∧ d = .bl (PyData.eqv p q) := fun z => by
  obtain ⟨p, h1, z⟩ := Option.bind_eq_some_iff.mp z
  obtain ⟨q, h2, z⟩ := Option.bind_eq_some_iff.mp z
  obtain ⟨hz, rfl⟩ := ite_some z
  have hz := Bool.and_eq_true_iff.mp hz
  exact ⟨p, q, h1, h2, hz.1, hz.2, rfl⟩
 cases a with
 | int i =>
  cases b with
  | int j => cases h; exact .inl ⟨_, _, rfl, rfl, rfl⟩
  | _ => exact .inr (.inr (gen h))
 | str i =>
  cases b with
  | str j => cases h; exact .inr (.inl ⟨_, _, rfl, rfl, rfl⟩)
  | _ => exact .inr (.inr (gen h))
 | _ => cases b <;> exact .inr (.inr (gen h))
theorem dec_V_int {i j : Int} : decide (V.int i = V.int j) = decide (i = j) := by
 by_cases h : i = j
 ·subst h; simp
 ·rw [decide_eq_false h, decide_eq_false (fun z => h (V.int.inj z))]
theorem dec_V_str {i j : Str} : decide (V.str i = V.str j) = decide (i = j) := by
 by_cases h : i = j
 ·subst h; simp
 ·rw [decide_eq_false h, decide_eq_false (fun z => h (V.str.inj z))]
theorem o_eq (hu : X.A.units + 64 < cLine) : OpR X (compareOp .Eq) (r2 X.K fEq) := by
 rintro pins s σ H x y v u Q I rx ry ⟨Z, m, a, b, d, rfl, si, ra, rb, hf, q⟩
 rcases fEq_bl hf with ⟨i, j, rfl, rfl, rfl⟩ | ⟨i, j, rfl, rfl, rfl⟩ | ⟨p, r, h1, h2, h3, h4, rfl⟩
 ·cases ra; cases rb
  exact op_eq pins s σ m.H _ _ v u Q I rx ry ⟨rfl, by rw [dec_V_int]; exact q m _ rfl (.refl si) rfl⟩
 ·cases ra; cases rb
  exact op_eq pins s σ m.H _ _ v u Q I rx ry ⟨rfl, by rw [dec_V_str]; exact q m _ rfl (.refl si) rfl⟩
 ·exact op_eqD hu pins s σ m.H _ _ v u Q I rx ry ⟨p, r, si.dp ra h1, si.dp rb h2, h3, h4, q m _ rfl (.refl si) rfl⟩
theorem o_ne (hu : X.A.units + 64 < cLine) : OpR X (compareOp .NotEq) (r2 X.K fNe) := by
 rintro pins s σ H x y v u Q I rx ry ⟨Z, m, a, b, d, rfl, si, ra, rb, hf, q⟩
 obtain ⟨d', hf, hd⟩ := Option.bind_eq_some_iff.mp hf
 rcases fEq_bl hf with ⟨i, j, rfl, rfl, rfl⟩ | ⟨i, j, rfl, rfl, rfl⟩ | ⟨p, r, h1, h2, h3, h4, rfl⟩
 ·cases ra; cases rb; cases hd
  exact op_ne pins s σ m.H _ _ v u Q I rx ry ⟨rfl, by rw [dec_V_int]; exact q m _ rfl (.refl si) rfl⟩
 ·cases ra; cases rb; cases hd
  exact op_ne pins s σ m.H _ _ v u Q I rx ry ⟨rfl, by rw [dec_V_str]; exact q m _ rfl (.refl si) rfl⟩
 ·cases hd
  exact op_neD hu pins s σ m.H _ _ v u Q I rx ry ⟨p, r, si.dp ra h1, si.dp rb h2, h3, h4, q m _ rfl (.refl si) rfl⟩
def isNon : D → Bool
 | .non => true
 | _ => false
theorem Rep.non_iff {d : D} {v : V} (h : Rep c m d v) : decide (v = V.non) = isNon d := by
 cases d with
 | non => rw [show v = .non from h]; rfl
 | bl b => rw [show v = .bl b from h]; rfl
 | int b => rw [show v = .int b from h]; rfl
 | str b => rw [show v = .str b from h]; rfl
 | tup ds => obtain ⟨a, xs, rfl, _⟩ := h; rfl
 | lst ds => obtain ⟨a, xs, rfl, _⟩ := h; rfl
 | rol ds => obtain ⟨a, xs, rfl, _⟩ := h; rfl
 | tag k ds => obtain ⟨a, xs, rfl, _⟩ := h; rfl
 | dic ks ds => obtain ⟨a, xs, rfl, _⟩ := h; rfl
 | ref n => rw [h.2]; rfl
 | dref n => rw [h.2]; rfl
 | iref k n => rw [h.2]; rfl
def fIs : F2 := fun _ a b => match b with
 | .non => some (.bl (isNon a))
 | .bl t => match a with
   | .bl u => some (.bl (decide (u = t)))
   | _ => none
 | _ => none
def fIsNot : F2 := fun S a b => (fIs S a b).bind fun d => match d with
 | .bl t => some (.bl (!t))
 | _ => none
theorem o_is : OpR X (compareOp .Is) (r2 X.K fIs) := by
 rintro pins s σ H x y v u Q I rx ry ⟨Z, m, a, b, d, rfl, si, ra, rb, hf, q⟩
 cases b <;> first | exact no2 hf | skip
 ·cases hf
  exact op_isN pins s σ m.H _ _ v u Q I rx ry ⟨rb, by rw [ra.non_iff]; exact q m _ rfl (.refl si) rfl⟩
 ·cases a <;> first | exact no2 hf | skip
  cases hf
  exact op_isBl pins s σ m.H _ _ v u Q I rx ry ⟨_, _, ra, rb, q m _ rfl (.refl si) rfl⟩
def listOf (S : Sto) : D → Option (List D)
 | .lst ds => some ds
 | .rol ds => some ds
 | .ref n => boxAt S n
 | _ => none
def seqOf (S : Sto) : D → Option (List D)
 | .tup ds => some ds
 | d => listOf S d
theorem Sim.list (s : Sim c m) {d : D} {v : V} {ds : List D} (h : Rep c m d v) (e : listOf m.S d = some ds) : ∃ p xs, v = .ref p ∧ SqL c.K m.H p xs ∧ RepL c m ds xs := by
 cases d <;> first | exact no2 e | skip
 ·cases e
  obtain ⟨a, xs, rfl, h1, h2⟩ := h
  exact ⟨a, xs, rfl, h1.sq, h2⟩
 ·cases e
  obtain ⟨a, xs, rfl, h1, h2⟩ := h
  exact ⟨a, xs, rfl, h1.sq, h2⟩
 ·obtain ⟨hl, xs, hx, rl⟩ := s.at (show boxAt m.S _ = some ds from e)
  exact ⟨_, xs, h.2, SqL.of hx, rl⟩
theorem Sim.seq (s : Sim c m) {d : D} {v : V} {ds : List D} (h : Rep c m d v) (e : seqOf m.S d = some ds) : ∃ p xs, v = .ref p ∧ (SqL c.K m.H p xs ∨ SqT c.K m.H p xs) ∧ RepL c m ds xs := by
 cases d with
 | tup es =>
  cases e
  obtain ⟨a, xs, rfl, h1, h2⟩ := h
  exact ⟨a, xs, rfl, .inr h1, h2⟩
 | _ =>
  obtain ⟨p, xs, h1, h2, h3⟩ := s.list h (show listOf m.S _ = some ds from e)
  exact ⟨p, xs, h1, .inl h2, h3⟩
def fIx : F2 := fun S a b => match a, b with
 | .str z, .int i => if szOk z.length = true then (atI z.cps.toList i).map fun c => .str ⟨#[c]⟩ else none
 | a, .int i => (seqOf S a).bind fun ds => atI ds i
 | _, _ => none
theorem RepL.atI {ds : List D} {vs : List V} {i : Int} {d : D} (h : RepL c m ds vs) (e : L2.atI ds i = some d) : ∃ v, L2.atI vs i = some v ∧ Rep c m d v := by
 unfold L2.atI at e ⊢
 obtain ⟨j, h1, h2⟩ := Option.bind_eq_some_iff.mp e
 obtain ⟨v, h3, h4⟩ := h.get h2
 exact ⟨v, by rw [h.len, h1]; exact h3, h4⟩
theorem fIx_inv {S : Sto} {a b d : D} (h : fIx S a b = some d) : (∃ z i c, a = .str z ∧ b = .int i ∧ szOk z.length = true ∧ atI z.cps.toList i = some c ∧ d = .str ⟨#[c]⟩) ∨ ∃ ds i, b = .int i ∧ seqOf S a = some ds ∧ atI ds i = some d := by
 have gen : ∀ i, (seqOf S a).bind (fun ds => atI ds i) = some d → ∃ ds, seqOf S a = some ds ∧ atI ds i = some d := fun i z => by
  obtain ⟨ds, h1, z⟩ := Option.bind_eq_some_iff.mp z
  exact ⟨ds, h1, z⟩
 cases b <;> first | (cases a <;> exact no2 h) | skip
 rename_i i
 cases a with
 | str z =>
  have h : (if szOk z.length = true then _ else _) = some d := h
  split at h
  ·rename_i hz
   obtain ⟨cc, h1, rfl⟩ := Option.map_eq_some_iff.mp h
   exact .inl ⟨z, i, cc, rfl, rfl, hz, h1, rfl⟩
  ·cases h
 | _ =>
  obtain ⟨ds, h1, h2⟩ := gen i h
  exact .inr ⟨ds, i, rfl, h1, h2⟩
theorem o_ix : IxR X (r2 X.K fIx) := by
 rintro e1 e2 pins s σ H x y v u Q I rx ry ⟨Z, m, a, b, d, rfl, si, ra, rb, hf, q⟩ hs0
 rcases fIx_inv hf with ⟨z, i, cc, rfl, rfl, hz, h1, rfl⟩ | ⟨ds, i, rfl, h1, h2⟩
 ·exact ix_str e1 e2 pins s σ m.H x y v u Q I rx ry ⟨z, i, cc, ra, rb, szOk_le hz, h1, q m _ rfl (.refl si) rfl⟩ hs0
 ·obtain ⟨p, xs, rfl, hs, rl⟩ := si.seq ra h1
  obtain ⟨w, hw, rw⟩ := rl.atI h2
  rcases hs with hs | hs
  ·exact ix_list e1 e2 pins s σ m.H _ y v u Q I rx ry ⟨p, xs, i, w, rfl, rb, hs, hw, q m _ rfl (.refl si) rw⟩ hs0
  ·exact ix_tup e1 e2 pins s σ m.H _ y v u Q I rx ry ⟨p, xs, i, w, rfl, rb, hs, hw, q m _ rfl (.refl si) rw⟩ hs0
def cutD (ds : List D) (lo hi : Option Int) : List D := (ds.drop (HT.sIx ds.length 0 lo)).take (HT.sIx ds.length ds.length hi - HT.sIx ds.length 0 lo)
def fSlT : FS := fun _ a lo hi => match a with
 | .tup ds => some (.tup (cutD ds lo hi))
 | _ => none
def fSlL : FSL := fun S a lo hi => (listOf S a).map fun ds => cutD ds lo hi
def ownOf (S : Sto) : D → Option (List D)
 | .lst ds => some ds
 | .ref n => boxAt S n
 | _ => none
theorem Sim.own (s : Sim c m) {d : D} {v : V} {ds : List D} (h : Rep c m d v) (e : ownOf m.S d = some ds) : ∃ p xs, v = .ref p ∧ m.H p = some (.lst xs) ∧ RepL c m ds xs := by
 cases d <;> first | exact no2 e | skip
 ·cases e
  obtain ⟨a, xs, rfl, h1, h2⟩ := h
  exact ⟨a, xs, rfl, h1.1, h2⟩
 ·obtain ⟨hl, xs, hx, rl⟩ := s.at (show boxAt m.S _ = some ds from e)
  exact ⟨_, xs, h.2, hx, rl⟩
def fAddL : F2L := fun S a b => (ownOf S a).bind fun x => (ownOf S b).bind fun y => if szOk (x.length + y.length) = true then some (x ++ y) else none
def fMulL : F2L := fun S a b => (ownOf S a).bind fun x => match b with
 | .int k => if (decide (0 ≤ k) && decide (k ≤ 100000) && szOk (x.length * k.toNat)) = true then some (List.replicate k.toNat x).flatten else none
 | _ => none
end
section
variable {X : Cx} {K : PySem.W.Frag} {c : C} {m : M}
theorem RepL.one_inv {d : D} {xs : List V} (h : RepL c m [d] xs) : ∃ x, xs = [x] ∧ Rep c m d x := by
 obtain ⟨x, r, rfl, h1, h2⟩ := h
 cases h2
 exact ⟨x, rfl, h1⟩
theorem RepL.two_inv {d e : D} {xs : List V} (h : RepL c m [d, e] xs) : ∃ x y, xs = [x, y] ∧ Rep c m d x ∧ Rep c m e y := by
 obtain ⟨x, r, rfl, h1, h2⟩ := h
 obtain ⟨y, rfl, h3⟩ := h2.one_inv
 exact ⟨x, y, rfl, h1, h3⟩
def fn1 (f : F1) : FN := fun S ds => match ds with
 | [d] => f S d
 | _ => none
def fn2 (f : F2) : FN := fun S ds => match ds with
 | [d, e] => f S d e
 | _ => none
def fnl1 (f : Sto → D → Option (List D)) : FNL := fun S ds => match ds with
 | [d] => f S d
 | _ => none
theorem fn1_inv {f : F1} {S : Sto} {ds : List D} {r : D} (h : fn1 f S ds = some r) : ∃ d, ds = [d] ∧ f S d = some r := by
 unfold fn1 at h
 split at h
 ·exact ⟨_, rfl, h⟩
 ·cases h
theorem fn2_inv {f : F2} {S : Sto} {ds : List D} {r : D} (h : fn2 f S ds = some r) : ∃ d e, ds = [d, e] ∧ f S d e = some r := by
 unfold fn2 at h
 split at h
 ·exact ⟨_, _, rfl, h⟩
 ·cases h
def gLen : F1 := fun S d => match d with
 | .str z => if szOk z.length = true then some (.int z.length) else none
 | d => (seqOf S d).map fun ds => .int ds.length
theorem gLen_inv {S : Sto} {d r : D} (h : gLen S d = some r) : (∃ z, d = .str z ∧ szOk z.length = true ∧ r = .int z.length) ∨ ∃ ds, seqOf S d = some ds ∧ r = .int ds.length := by
 unfold gLen at h
 split at h
 ·obtain ⟨hz, rfl⟩ := ite_some h
  exact .inl ⟨_, rfl, hz, rfl⟩
 ·obtain ⟨ds, h1, rfl⟩ := Option.map_eq_some_iff.mp h
  exact .inr ⟨ds, h1, rfl⟩
theorem b_len : CallR X (.builtin "len") (rN X.K (fn1 gLen)) := by
 rintro pins s σ H xs us Q I r ⟨Z, m, as, d, rfl, si, ra, hf, q⟩
 obtain ⟨a, rfl, hf⟩ := fn1_inv hf
 obtain ⟨x, rfl, rx⟩ := ra.one_inv
 rcases gLen_inv hf with ⟨z, rfl, hz, rfl⟩ | ⟨ds, h1, rfl⟩
 ·cases rx
  exact call_len_str pins s σ m.H _ us Q I r ⟨z, rfl, szOk_le hz, q m _ rfl (.refl si) rfl⟩
 ·obtain ⟨p, ys, rfl, hs, rl⟩ := si.seq rx h1
  exact call_len_seq pins s σ m.H _ us Q I r ⟨p, ys, rfl, hs, by rw [rl.len]; exact q m _ rfl (.refl si) rfl⟩
def gAbs : F1 := fun _ d => match d with
 | .int i => some (.int (if i < 0 then -i else i))
 | _ => none
theorem b_abs : CallR X (.builtin "abs") (rN X.K (fn1 gAbs)) := by
 rintro pins s σ H xs us Q I r ⟨Z, m, as, d, rfl, si, ra, hf, q⟩
 obtain ⟨a, rfl, hf⟩ := fn1_inv hf
 obtain ⟨x, rfl, rx⟩ := ra.one_inv
 cases a <;> first | exact no2 hf | skip
 cases hf
 cases rx
 exact call_abs pins s σ m.H _ us Q I r ⟨_, rfl, q m _ rfl (.refl si) rfl⟩
def gMax2 : F2 := fun _ a b => match a, b with
 | .int i, .int j => some (.int (if j > i then j else i))
 | _, _ => none
def gMin2 : F2 := fun _ a b => match a, b with
 | .int i, .int j => some (.int (if j < i then j else i))
 | _, _ => none
theorem b_max2 (hc : X.calm = true) : CallR X (.builtin "max") (rN X.K (fn2 gMax2)) := by
 rintro pins s σ H xs us Q I r ⟨Z, m, as, d, rfl, si, ra, hf, q⟩
 obtain ⟨a, b, rfl, hf⟩ := fn2_inv hf
 obtain ⟨x, y, rfl, rx, ry⟩ := ra.two_inv
 cases a <;> cases b <;> first | exact no2 hf | skip
 cases hf; cases rx; cases ry
 exact call_max2 hc pins s σ m.H _ us Q I r ⟨_, _, rfl, q m _ rfl (.refl si) rfl⟩
theorem b_min2 (hc : X.calm = true) : CallR X (.builtin "min") (rN X.K (fn2 gMin2)) := by
 rintro pins s σ H xs us Q I r ⟨Z, m, as, d, rfl, si, ra, hf, q⟩
 obtain ⟨a, b, rfl, hf⟩ := fn2_inv hf
 obtain ⟨x, y, rfl, rx, ry⟩ := ra.two_inv
 cases a <;> cases b <;> first | exact no2 hf | skip
 cases hf; cases rx; cases ry
 exact call_min2 hc pins s σ m.H _ us Q I r ⟨_, _, rfl, q m _ rfl (.refl si) rfl⟩
def gInt : F1 := fun _ d => match d with
 | .int i => some (.int i)
 | .bl b => some (.int (if b then 1 else 0))
 | _ => none
theorem b_int : CallR X (.type "int") (rN X.K (fn1 gInt)) := by
 rintro pins s σ H xs us Q I r ⟨Z, m, as, d, rfl, si, ra, hf, q⟩
 obtain ⟨a, rfl, hf⟩ := fn1_inv hf
 obtain ⟨x, rfl, rx⟩ := ra.one_inv
 cases a <;> first | exact no2 hf | skip
 ·cases hf; cases rx
  exact call_int1 pins s σ m.H _ us Q I r (.inr ⟨_, rfl, q m _ rfl (.refl si) rfl⟩)
 ·cases hf; cases rx
  exact call_int1 pins s σ m.H _ us Q I r (.inl ⟨_, rfl, q m _ rfl (.refl si) rfl⟩)
def gTuple : F1 := fun S d => (seqOf S d).map .tup
theorem b_tuple : CallR X (.type "tuple") (rN X.K (fn1 gTuple)) := by
 rintro pins s σ H xs us Q I r ⟨Z, m, as, d, rfl, si, ra, hf, q⟩
 obtain ⟨a, rfl, hf⟩ := fn1_inv hf
 obtain ⟨x, rfl, rx⟩ := ra.one_inv
 obtain ⟨ds, h1, rfl⟩ := Option.map_eq_some_iff.mp hf
 obtain ⟨p, ys, rfl, hs, rl⟩ := si.seq rx h1
 refine call_tuple_of pins s σ m.H _ us Q I r ⟨p, ys, rfl, ?_⟩
 rcases hs with hs | hs
 ·exact .inl ⟨hs, fun l hl => q ⟨m.r, m.S, upd m.H l (.tup ys)⟩ _ rfl (.laid si hl) (Rep.newTup si hl rl)⟩
 ·exact .inr ⟨hs, q m _ rfl (.refl si) ⟨p, ys, rfl, hs, rl⟩⟩
def gList : Sto → D → Option (List D) := seqOf
def intsOf : List D → Option (List Int)
 | [] => some []
 | .int i :: ds => (intsOf ds).map (i :: ·)
 | _ => none
def boolsOf : List D → Option (List Bool)
 | [] => some []
 | .bl i :: ds => (boolsOf ds).map (i :: ·)
 | _ => none
theorem intsOf_inv : ∀ {ds : List D} {ns : List Int}, intsOf ds = some ns → ds = ns.map D.int
 | [], ns, h => by cases h; rfl
 | d :: ds, ns, h => by
  cases d <;> first | exact no2 h | skip
  obtain ⟨ms, h1, rfl⟩ := Option.map_eq_some_iff.mp (show (intsOf ds).map _ = some ns from h)
  rw [intsOf_inv h1]
  rfl
theorem boolsOf_inv : ∀ {ds : List D} {ns : List Bool}, boolsOf ds = some ns → ds = ns.map D.bl
 | [], ns, h => by cases h; rfl
 | d :: ds, ns, h => by
  cases d <;> first | exact no2 h | skip
  obtain ⟨ms, h1, rfl⟩ := Option.map_eq_some_iff.mp (show (boolsOf ds).map _ = some ns from h)
  rw [boolsOf_inv h1]
  rfl
theorem intsOf_map : ∀ ns : List Int, intsOf (ns.map D.int) = some ns
 | [] => rfl
 | n :: ns => by show (intsOf (ns.map D.int)).map _ = _; rw [intsOf_map ns]; rfl
theorem boolsOf_map : ∀ ns : List Bool, boolsOf (ns.map D.bl) = some ns
 | [] => rfl
 | n :: ns => by show (boolsOf (ns.map D.bl)).map _ = _; rw [boolsOf_map ns]; rfl
theorem RepL.ints : ∀ {ns : List Int} {xs : List V}, RepL c m (ns.map D.int) xs → xs = ns.map V.int
 | [], xs, h => h
 | n :: ns, xs, h => by
  obtain ⟨x, r, rfl, h1, h2⟩ := h
  rw [show x = .int n from h1, RepL.ints h2]
  rfl
theorem RepL.bools : ∀ {ns : List Bool} {xs : List V}, RepL c m (ns.map D.bl) xs → xs = ns.map V.bl
 | [], xs, h => h
 | n :: ns, xs, h => by
  obtain ⟨x, r, rfl, h1, h2⟩ := h
  rw [show x = .bl n from h1, RepL.bools h2]
  rfl
theorem RepL.ofInts : ∀ (ns : List Int), RepL c m (ns.map D.int) (ns.map V.int)
 | [] => rfl
 | n :: ns => ⟨_, _, rfl, rfl, RepL.ofInts ns⟩
def gSum : F1 := fun S d => (seqOf S d).bind fun ds => (intsOf ds).map fun ns => .int ns.sum
theorem sum_tup {prog : Program} {w : World} {A : Around} {E : Value → Shared → Prop} {s : Shared} {l : Addr} {its : List Value} {ns : List Int} {Q : Value → Shared → Prop} (hh : A.handled = none) (hl : s.heap.IsTuple l its.toArray) (hi : IntsAre its ns)
  (h : ∀ h' tk t', (∀ b o, s.heap.get? b = some o → h'.get? b = some o) → Q (.int ns.sum t') { s with heap := h', toks := tk }) : wpAny (model prog w) A (call (.builtin "sum") [.ref l]) Q E s := by
 obtain ⟨xs, hx⟩ := hi.allInts.items
 have hn : numsOf its.toArray.toList = ns := by rw [show its.toArray.toList = its from rfl, hi.numsOf]
 rw [hx] at hl hn
 rw [nums_intItems] at hn
 refine PySem.W.ktm_sumG hh hl fun h' tk t' hk => ?_
 have z := h h' tk t' hk
 rw [preSum_eq, List.take_of_length_le (by simp), hn]
 exact z
theorem b_sum (hc : X.calm = true) : CallR X (.builtin "sum") (rN X.K (fn1 gSum)) := by
 rintro pins s σ H xs us Q I r ⟨Z, m, as, d, rfl, si, ra, hf, q⟩
 obtain ⟨a, rfl, hf⟩ := fn1_inv hf
 obtain ⟨x, rfl, rx⟩ := ra.one_inv
 obtain ⟨ds, h1, hf⟩ := Option.bind_eq_some_iff.mp hf
 obtain ⟨ns, h2, rfl⟩ := Option.map_eq_some_iff.mp hf
 obtain ⟨p, ys, rfl, hs, rl⟩ := si.seq rx h1
 rw [intsOf_inv h2] at rl
 rcases hs with hs | hs
 ·exact cr_sum hc pins s σ m.H _ us Q I r ⟨p, ns, rfl, by rw [← rl.ints]; exact hs, q m _ rfl (.refl si) rfl⟩
 ·rw [rl.ints] at hs
  obtain ⟨its, rv, ht, hz⟩ := I.tuple hs
  rw [Vals.ref1 r]
  exact sum_tup (I.ok.hd hc) ht rv.ints fun h' tk t' hk => ⟨.int ns.sum, m.H, I.kept hk, ⟨t', rfl⟩, q m _ rfl (.refl si) rfl⟩
def maxL : List Int → Int
 | [] => 0
 | n :: ns => ns.foldl max n
def minL : List Int → Int
 | [] => 0
 | n :: ns => ns.foldl min n
def gMax1 : F1 := fun S d => (listOf S d).bind fun ds => (intsOf ds).bind fun ns => if 0 < ns.length then some (.int (maxL ns)) else none
def gMin1 : F1 := fun S d => (listOf S d).bind fun ds => (intsOf ds).bind fun ns => if 0 < ns.length then some (.int (minL ns)) else none
def gAll : F1 := fun S d => (listOf S d).bind fun ds => (boolsOf ds).map fun bs => .bl (bs.all id)
theorem b_all (hc : X.calm = true) : CallR X (.builtin "all") (rN X.K (fn1 gAll)) := by
 rintro pins s σ H xs us Q I r ⟨Z, m, as, d, rfl, si, ra, hf, q⟩
 obtain ⟨a, rfl, hf⟩ := fn1_inv hf
 obtain ⟨x, rfl, rx⟩ := ra.one_inv
 obtain ⟨ds, h1, hf⟩ := Option.bind_eq_some_iff.mp hf
 obtain ⟨ns, h2, rfl⟩ := Option.map_eq_some_iff.mp hf
 obtain ⟨p, ys, rfl, hs, rl⟩ := si.list rx h1
 rw [boolsOf_inv h2] at rl
 exact cr_all hc pins s σ m.H _ us Q I r ⟨p, ns, rfl, by rw [← rl.bools]; exact hs, q m _ rfl (.refl si) rfl⟩
def tyN : D → String
 | .non => "NoneType"
 | .bl _ => "bool"
 | .int _ => "int"
 | .str _ => "str"
 | .tup _ => "tuple"
 | .lst _ => "list"
 | .rol _ => "list"
 | .dic _ _ => "dict"
 | .tag 0 _ => "tuple"
 | .tag (_ + 1) _ => ""
 | .dref _ => "dict"
 | .iref _ _ => ""
 | .ref _ => "list"
theorem Sim.ty (s : Sim c m) {d : D} {v : V} (h : Rep c m d v) (hx : ∀ k xs, d ≠ .tag (k + 1) xs) (hy : ∀ k n, d ≠ .iref k n) : TyX c.K m.H v (.type (tyN d)) := by
 cases d with
 | non => rw [show v = .non from h]; exact .base .non
 | bl b => rw [show v = .bl b from h]; exact .base (.bl b)
 | int b => rw [show v = .int b from h]; exact .base (.int b)
 | str b => rw [show v = .str b from h]; exact .base (.str b)
 | tup ds =>
  obtain ⟨a, xs, rfl, h1, _⟩ := h
  rcases h1 with (h1 | ⟨o, h1⟩) | ⟨o, its, n, h1, h2, _⟩
  ·exact .base (.tup h1)
  ·exact .fTuple h1
  ·exact .kTuple h1 h2
 | lst ds =>
  obtain ⟨a, xs, rfl, h1, _⟩ := h
  exact .base (.lst h1.1)
 | rol ds =>
  obtain ⟨a, xs, rfl, h1, _⟩ := h
  rcases h1 with ⟨o, h1⟩ | ⟨o, its, n, h1, h2, _⟩
  ·exact .base (.frz h1)
  ·exact .kList h1 h2
 | dic ks ds =>
  obtain ⟨a, xs, rfl, h1, _⟩ := h
  exact .base (.dK h1.1)
 | ref n =>
  rw [h.2]
  obtain ⟨ds, hd⟩ := h.1
  obtain ⟨xs, e, _⟩ := s.boxL hd
  exact .base (.lst e)
 | dref n =>
  obtain ⟨⟨o, hd, hk⟩, rfl⟩ := h
  have so := s.obj n o hd
  cases o with
  | lst ds => exact (by rcases hk with z | z <;> cases z)
  | dk ks ds => obtain ⟨xs, e, _⟩ := so; exact .base (.dK e)
  | dt ks ds => obtain ⟨xs, e, _⟩ := so; exact .base (.dT e)
  | it k fs ds => exact (by rcases hk with z | z <;> (have z : 3 + k = _ := z; omega))
 | iref k n => exact (hy _ _ rfl).elim
 | tag k ds =>
  obtain ⟨a, xs, rfl, h1, _⟩ := h
  cases k with
  | zero =>
   obtain ⟨o, h1, _⟩ := h1
   exact .fTuple h1
  | succ k => exact (hx _ _ rfl).elim
def gIs (T : String) : F1 := fun _ d => match d with
 | .tag (k + 1) _ => if k = 999 then (kitB "tuple" T).map .bl else if L2.plainT.contains T = true then some (.bl false) else none
 | .iref _ _ => if L2.plainT.contains T = true then some (.bl false) else none
 | d => (kitB (tyN d) T).map .bl
def rIsA (K : PySem.W.Frag) : List V → Hp → VK → Prop := fun xs H Q => rIsi K xs H Q ∨ rIsK K xs H Q ∨ rIsK0 K xs H Q
theorem call_isA {X : Cx} : CallR X (.builtin "isinstance") (rIsA X.K) := fun pins s σ H xs us Q I r h => by
 rcases h with h | h | h
 ·exact call_isi pins s σ H xs us Q I r h
 ·exact call_isK pins s σ H xs us Q I r h
 ·exact call_isK0 pins s σ H xs us Q I r h
theorem ej_isi {a : Expr} {f : EX} {T : String} {t : Str} {p p2 pos : Pos} (hg : Gl X "isinstance") (hm : X.mg "isinstance" = none) (hgt : Gl X t) (hmt : X.mg t = none) (hvt : bootBuiltins t = some (.type T)) (ha : EJ X a f)
  (hnt : t ≠ "__name__" := by decide) (hdt : (t == ("__debug__" : Str)) = false := by decide)
  (hs : starEach [a, .Name t p2] X.env = (false, eval a X.env) :: starEach [.Name t p2] X.env := by rfl) (hpl : (backTo pos (starEach [.Name t p2] X.env)).any (·.1) = false := by rfl)
  (hs2 : starEach [.Name t p2] X.env = (false, eval (.Name t p2) X.env) :: starEach [] X.env := by rfl) :
  EJ X (.Call (.Name "isinstance" p) [a, .Name t p2] [] pos) (e1 (gIs T) f) := by
 refine pe_wk (pe_callB call_isA hg hm (by decide +kernel) (pa_cons ha (pa_cons (pe_bltn (v := .ty T) hgt hmt hvt rfl hnt hdt) pa_nil hs2) hs) (by decide) (by decide) hs hpl) fun σ H Q ⟨Z, m, env, v, S', e, s, er, hf, q⟩ => ?_
 obtain ⟨x, h1, h2⟩ := e1_inv hf
 by_cases hx : ∃ k ds, x = .tag (k + 1) ds
 ·obtain ⟨k, ds, rfl⟩ := hx
  have h2 : (if k = 999 then (kitB "tuple" T).map D.bl else if L2.plainT.contains T = true then some (D.bl false) else none) = some v := h2
  by_cases h999 : k = 999
  ·rw [if_pos h999] at h2
   obtain ⟨b, h3, rfl⟩ := Option.map_eq_some_iff.mp h2
   refine ⟨Z, m, env, _, S', e, s, er, h1, fun m1 vx e1 t1 rx => .inl ?_⟩
   obtain ⟨a, us, rfl, ht0, _⟩ := rx
   have hp : m1.H a = some (.tup us) := by
    rcases ht0 with ⟨_, h⟩ | ⟨h0, _⟩
    ·exact h
    ·rw [h999] at h0
     cases h0
   exact ⟨.ref a, .ty T, .type "tuple", .type T, b, rfl, .ty T, .base (.tup hp), kit_ty h3, q m1 _ e1 t1 rfl⟩
  rw [if_neg h999] at h2
  split at h2
  ·rename_i hT
   cases h2
   refine ⟨Z, m, env, _, S', e, s, er, h1, fun m1 vx e1 t1 rx => .inr ?_⟩
   obtain ⟨a, us, rfl, ht0, _⟩ := rx
   obtain ⟨h0, hk, ht⟩ := ht0.resolve_left fun z => h999 z.1
   have ek := hk.t T (List.contains_iff_mem.mp hT)
   have rl : ∀ u, RelV (.ty T) u → u = Value.type T := fun u z => z
   rcases ht with ⟨dd, f, w, _, g1, g2⟩ | ⟨_, g1⟩
   ·exact .inl ⟨a, xA X.K (k / 2), dd, _, .ty T, .type T, false, rfl, g1, g2, hk.c, rl, ek, q m1 _ e1 t1 rfl⟩
   ·exact .inr ⟨a, xA X.K (k / 2), .ty T, .type T, false, rfl, g1, hk.c, rl, ek, q m1 _ e1 t1 rfl⟩
  ·cases h2
 ·have hx : ∀ k ds, x ≠ .tag (k + 1) ds := fun k ds z => hx ⟨k, ds, z⟩
  by_cases hy : ∃ k n, x = .iref k n
  ·obtain ⟨k, n, rfl⟩ := hy
   have h2 : (if L2.plainT.contains T = true then some (D.bl false) else none) = some v := h2
   obtain ⟨hT, rfl⟩ := ite_some h2
   refine ⟨Z, m, env, _, S', e, s, er, h1, fun m1 vx e1 t1 rx => .inl ?_⟩
   obtain ⟨⟨o, ho, hk, ip⟩, rfl⟩ := rx
   have so := t1.si.obj n o ho
   cases o with
   | lst ds => exact absurd hk (by show ¬ 0 = 3 + k; omega)
   | dk ks ds => exact absurd hk (by show ¬ 1 = 3 + k; omega)
   | dt ks ds => exact absurd hk (by show ¬ 2 = 3 + k; omega)
   | it k' fs ds =>
    obtain rfl : k' = k := by have hk : 3 + k' = 3 + k := hk; omega
    obtain ⟨dx, xs, ha, _, _⟩ := so
    exact ⟨_, .ty T, _, .type T, false, rfl, .ty T, .base (.ins ha ip.cl ip.ha ip.hn ip.htk ip.hm), ip.t T (List.contains_iff_mem.mp hT), q m1 _ e1 t1 rfl⟩
  have hy : ∀ k n, x ≠ .iref k n := fun k n z => hy ⟨k, n, z⟩
  have h2 : (kitB (tyN x) T).map D.bl = some v := by
   rw [← h2]
   unfold gIs
   split
   ·exact (hx _ _ rfl).elim
   ·exact (hy _ _ rfl).elim
   ·rfl
  obtain ⟨b, h3, rfl⟩ := Option.map_eq_some_iff.mp h2
  refine ⟨Z, m, env, x, S', e, s, er, h1, fun m1 vx e1 t1 rx => .inl ?_⟩
  exact ⟨vx, .ty T, .type (tyN x), .type T, b, rfl, .ty T, t1.si.ty rx hx hy, kit_ty h3, q m1 _ e1 t1 rfl⟩
def flat1 : D → Bool
 | .non => true
 | .bl _ => true
 | .int _ => true
 | .str _ => true
 | _ => false
def eq1 : D → D → Bool
 | .non, .non => true
 | .bl a, .bl b => a == b
 | .bl a, .int b => (if a then 1 else 0) == b
 | .int a, .bl b => a == (if b then 1 else 0)
 | .int a, .int b => a == b
 | .str a, .str b => a == b
 | _, _ => false
def fIn : F2 := fun S a b => match a, b with
 | .str x, .str y => some (.bl (!(Builtin.Str.occurrences y x 0 y.length 1).isEmpty))
 | a, b => (seqOf S b).bind fun ds => if (flat1 a && ds.all flat1) = true then some (.bl (ds.any fun e => eq1 e a)) else
   (pdS S a).bind fun p => if (SeqAt.shaped p && flatL ds && SeqAt.shaped (.list (pdL ds)) && (listOf S b).isSome) = true then some (.bl ((pdL ds).any fun z => PyData.eqv z p)) else none
def fNotIn : F2 := fun S a b => (fIn S a b).bind fun d => match d with
 | .bl t => some (.bl (!t))
 | _ => none
end
section
variable {X : Cx} {K : PySem.W.Frag} {c : C} {m : M} {tg e : Expr} {f g : EX} {pos p : Pos}
theorem pi_or {w1 w2 : TI} (h1 : PI X tg e w1) (h2 : PI X tg e w2) : PI X tg e (fun σ H R => w1 σ H R ∨ w2 σ H R) := ⟨fun pins s σ H R I h => by
 rcases h with h | h
 ·exact h1.run pins s σ H R I h
 ·exact h2.run pins s σ H R I h⟩
def iSeq (f : EX) : IX := fun e S => (f e S).bind fun p => match p.1 with
 | .tup ds => some (ds, [], p.2)
 | .lst ds => some (ds, [], p.2)
 | .rol ds => some (ds, [], p.2)
 | .ref n => (boxAt p.2 n).map fun ds => (ds, [n], p.2)
 | _ => none
theorem Ex.sqT {m m' : M} (b : BoxOk m) (x : Ex m m') {a : Addr} {xs : List V} (h : SqT K m.H a xs) : SqT K m'.H a xs := by
 rcases h with h | h
 ·exact .inl (x.rd h (b.notTup h) trivial)
 ·exact .inr h
theorem it_tup {Z : List Addr} {a : Addr} {xs : List V} {ds : List D} (s : Sim ⟨K, Z⟩ m) (h : SqT K m.H a xs) (r : RepL ⟨K, Z⟩ m ds xs) : ItOk K Z m ds [] (Itt K a) := ⟨fun Z' m' hz hw x si gd i => by
 have h' : SqT K m'.H a xs := x.sqT s.bok h
 have r' : RepL ⟨K, Z'⟩ m' ds xs := RepL.mono s.bok x ds xs (RepL.widen hw ds xs r)
 refine ⟨fun hi => ⟨xs, h', by rw [r.len]; exact hi⟩, fun d hd => ?_⟩
 obtain ⟨v, hv, rv⟩ := r'.get hd
 refine ⟨⟨xs, v, h', hv⟩, fun y H3 ⟨e, hy⟩ => ?_⟩
 subst e
 have e2 := hy xs h'
 rw [hv] at e2
 cases e2
 exact ⟨m', rfl, rfl, .refl si, rv⟩⟩
theorem it_lst {Z : List Addr} {a : Addr} {ds : List D} {gs : List Nat}
  (h : ∀ Z' m', (∀ z, z ∈ Z → z ∈ Z') → (∀ z, z ∈ Z' → z ∈ Z ∨ m.H z = none) → Ex m m' → Sim ⟨K, Z'⟩ m' → (∀ n, n ∈ gs → m'.S[n]? = m.S[n]?) → ∃ xs, SqL K m'.H a xs ∧ RepL ⟨K, Z'⟩ m' ds xs) : ItOk K Z m ds gs (Itl K a) := ⟨fun Z' m' hz hw x si gd i => by
 obtain ⟨xs, h', r'⟩ := h Z' m' hz hw x si gd
 refine ⟨fun hi => ⟨xs, h', by rw [r'.len]; exact hi⟩, fun d hd => ?_⟩
 obtain ⟨v, hv, rv⟩ := r'.get hd
 refine ⟨⟨xs, v, h', hv⟩, fun y H3 ⟨e, hy⟩ => ?_⟩
 subst e
 have e2 := hy xs h'
 rw [hv] at e2
 cases e2
 exact ⟨m', rfl, rfl, .refl si, rv⟩⟩
def Stays (K : PySem.W.Frag) (Z : List Addr) (m : M) (a : Addr) (ds : List D) (gs : List Nat) : Prop :=
 ∀ Z' m', (∀ z, z ∈ Z → z ∈ Z') → (∀ z, z ∈ Z' → z ∈ Z ∨ m.H z = none) → Ex m m' → Sim ⟨K, Z'⟩ m' → (∀ n, n ∈ gs → m'.S[n]? = m.S[n]?) → ∃ xs, SqL K m'.H a xs ∧ RepL ⟨K, Z'⟩ m' ds xs
def gsOf : D → List Nat
 | .ref n => [n]
 | _ => []
theorem Sim.stays {Z : List Addr} (s : Sim ⟨K, Z⟩ m) {d : D} {v : V} {ds : List D} (h : Rep ⟨K, Z⟩ m d v) (e : listOf m.S d = some ds) : ∃ a, v = .ref a ∧ Stays K Z m a ds (gsOf d) := by
 cases d <;> first | exact no2 e | skip
 ·cases e
  obtain ⟨a, xs, rfl, h1, h2⟩ := h
  exact ⟨a, rfl, fun Z' m' hz hw x si gd => ⟨xs, SqL.of (x.pr _ _ h1.1 h1.2.1 trivial), RepL.mono s.bok x _ xs (RepL.widen hw _ xs h2)⟩⟩
 ·cases e
  obtain ⟨a, xs, rfl, h1, h2⟩ := h
  refine ⟨a, rfl, fun Z' m' hz hw x si gd => ⟨xs, ?_, RepL.mono s.bok x _ xs (RepL.widen hw _ xs h2)⟩⟩
  rcases h1 with ⟨o, h1⟩ | h1
  ·exact .inl (.inr ⟨o, x.pr _ _ h1 (s.bok.notFrz h1) trivial⟩)
  ·exact .inr h1
 ·rename_i n
  obtain ⟨h1, rfl⟩ := h.lt
  refine ⟨_, rfl, fun Z' m' hz hw x si gd => ?_⟩
  have e1 : m'.S[n]? = some (.lst ds) := by rw [gd n (List.mem_singleton.mpr rfl)]; exact boxAt_inv e
  obtain ⟨xs, h3, h4⟩ := si.obj n _ e1
  rw [x.ag n h1] at h3
  exact ⟨xs, SqL.of h3, h4⟩
theorem iSeq_inv {f : EX} {e : En} {S S' : Sto} {ds : List D} {gs : List Nat} (h : iSeq f e S = some (ds, gs, S')) : ∃ d, f e S = some (d, S') ∧ ((d = .tup ds ∧ gs = []) ∨ (listOf S' d = some ds ∧ gs = gsOf d)) := by
 unfold iSeq at h
 obtain ⟨⟨d, S1⟩, h1, h⟩ := Option.bind_eq_some_iff.mp h
 cases d <;> first | exact no2 h | skip
 ·cases h; exact ⟨_, h1, .inl ⟨rfl, rfl⟩⟩
 ·cases h; exact ⟨_, h1, .inr ⟨rfl, rfl⟩⟩
 ·cases h; exact ⟨_, h1, .inr ⟨rfl, rfl⟩⟩
 ·obtain ⟨es, h2, h3⟩ := Option.map_eq_some_iff.mp (show (boxAt S1 _).map _ = _ from h)
  cases h3
  exact ⟨_, h1, .inr ⟨h2, rfl⟩⟩
theorem ij_seq (h : EJ X e f) : IJ X tg e (iSeq f) := pi_wk (pi_or (pi_list h) (pi_tup h)) fun σ H R ⟨Z, m, env, ds, gs, S', eH, s, er, hf, q⟩ => by
 obtain ⟨d, h1, hd⟩ := iSeq_inv hf
 rcases hd with ⟨rfl, rfl⟩ | ⟨h2, rfl⟩
 ·refine .inr ⟨Z, m, env, _, S', eH, s, er, h1, fun m1 vx e1 t1 rx => ?_⟩
  obtain ⟨a, xs, rfl, h3, h4⟩ := rx
  exact ⟨a, rfl, ⟨xs, h3⟩, q m1 _ e1 t1 (it_tup t1.si h3 h4)⟩
 ·refine .inl ⟨Z, m, env, _, S', eH, s, er, h1, fun m1 vx e1 t1 rx => ?_⟩
  obtain ⟨p, xs, rfl, h3, h4⟩ := t1.si.list rx (by rw [e1]; exact h2)
  obtain ⟨a, e2, st⟩ := t1.si.stays rx (by rw [e1]; exact h2)
  cases e2
  exact ⟨p, rfl, ⟨xs, h3⟩, q m1 _ e1 t1 (it_lst st)⟩
def rgD (a b : Int) : List D := (List.range (b - a).toNat).map fun (i : Nat) => D.int (a + (i : Int))
def rgOk (i : Int) : Bool := decide (-4611686018427387904 ≤ i) && decide (i < 4611686018427387904)
theorem rgOk_inv {i : Int} (h : rgOk i = true) : -(2 ^ 62) ≤ i ∧ i < 2 ^ 62 := by
 unfold rgOk at h
 simp only [Bool.and_eq_true, decide_eq_true_eq] at h
 exact ⟨h.1, h.2⟩
theorem it_rg {Z : List Addr} {a b : Int} : ItOk K Z m (rgD a b) [] (Itr a (b - a).toNat) := ⟨fun Z' m' hz hw x si gd i => by
 unfold rgD
 refine ⟨fun hi => (by rw [List.length_map, List.length_range] at hi; exact hi), fun d hd => ?_⟩
 rw [List.getElem?_map] at hd
 by_cases hi : i < (b - a).toNat
 ·rw [List.getElem?_range hi] at hd
  cases hd
  refine ⟨hi, fun y H3 ⟨e1, e2⟩ => ?_⟩
  subst e1 e2
  exact ⟨m', rfl, rfl, .refl si, rfl⟩
 ·rw [List.getElem?_eq_none (by simpa using hi)] at hd
  cases hd⟩
def iRg1 (f : EX) : IX := fun e S => (f e S).bind fun p => match p.1 with
 | .int j => if rgOk j = true then some (rgD 0 j, [], p.2) else none
 | _ => none
def iRg2 (f g : EX) : IX := fun e S => (f e S).bind fun p => (g e p.2).bind fun q => match p.1, q.1 with
 | .int i, .int j => if (rgOk i && rgOk j) = true then some (rgD i j, [], q.2) else none
 | _, _ => none
theorem ij_rg1 (hg : Gl X "range") (hm : X.mg "range" = none) (h : EJ X e f) (hs : starEach [e] X.env = [(false, eval e X.env)] := by rfl) (hs' : starEach [e] X.env = (false, eval e X.env) :: starEach [] X.env := by rfl) : IJ X tg (.Call (.Name "range" p) [e] [] pos) (iRg1 f) :=
 pi_wk (pi_range1 hg hm (aj_cons h aj_nil hs') hs) fun σ H R ⟨Z, m, env, ds, gs, S', eH, s, er, hf, q⟩ => by
  unfold iRg1 at hf
  obtain ⟨⟨d, S1⟩, h1, h⟩ := Option.bind_eq_some_iff.mp hf
  refine ⟨Z, m, env, [d], S1, eH, s, er, by unfold aCons; rw [h1]; rfl, fun m1 vx e1 t1 rx0 => ?_⟩
  obtain ⟨x, rfl, rx⟩ := rx0.one_inv
  cases d <;> first | exact no2 h | skip
  rename_i i
  obtain ⟨hz, hz2⟩ := ite_some h
  simp only [Prod.mk.injEq] at hz2
  obtain ⟨rfl, rfl, rfl⟩ := hz2
  cases rx
  obtain ⟨b1, b2⟩ := rgOk_inv hz
  refine ⟨i, rfl, b1, b2, q m1 _ e1 t1 ?_⟩
  have z := it_rg (K := X.K) (Z := Z) (m := m1) (a := 0) (b := i)
  rw [Int.sub_zero] at z
  exact z
theorem ij_rg2 {e2 : Expr} (hg : Gl X "range") (hm : X.mg "range" = none) (h : EJ X e f) (k : EJ X e2 g) (hs : starEach [e, e2] X.env = [(false, eval e X.env), (false, eval e2 X.env)] := by rfl) (hs2 : starEach [e2] X.env = [(false, eval e2 X.env)] := by rfl)
  (hs' : starEach [e, e2] X.env = (false, eval e X.env) :: starEach [e2] X.env := by rfl) (hs'' : starEach [e2] X.env = (false, eval e2 X.env) :: starEach [] X.env := by rfl) : IJ X tg (.Call (.Name "range" p) [e, e2] [] pos) (iRg2 f g) :=
 pi_wk (pi_range2 hg hm (aj_cons h (aj_cons k aj_nil hs'') hs') hs hs2) fun σ H R ⟨Z, m, env, ds, gs, S', eH, s, er, hf, q⟩ => by
  unfold iRg2 at hf
  obtain ⟨⟨d, S1⟩, h1, h⟩ := Option.bind_eq_some_iff.mp hf
  obtain ⟨⟨d2, S2⟩, h2, h⟩ := Option.bind_eq_some_iff.mp h
  refine ⟨Z, m, env, [d, d2], S2, eH, s, er, by unfold aCons; rw [h1]; show ((aCons g aNil env S1).map _) = _; unfold aCons; rw [h2]; rfl, fun m1 vx e1 t1 rx0 => ?_⟩
  obtain ⟨x, y, rfl, rx, ry⟩ := rx0.two_inv
  cases d <;> cases d2 <;> first | exact no2 h | skip
  obtain ⟨hz, hz2⟩ := ite_some h
  simp only [Prod.mk.injEq] at hz2
  obtain ⟨rfl, rfl, rfl⟩ := hz2
  cases rx
  cases ry
  have hz := Bool.and_eq_true_iff.mp hz
  obtain ⟨b1, b2⟩ := rgOk_inv hz.1
  obtain ⟨b3, b4⟩ := rgOk_inv hz.2
  exact ⟨_, _, rfl, ⟨b1, b2, b3, b4⟩, q m1 _ e1 t1 it_rg⟩
def zipD (xs ys : List D) : List D := List.zipWith (fun x y => D.tup [x, y]) xs ys
def iZip' (f g : EX) : IX := fun e S => (f e S).bind fun p => (g e p.2).bind fun q => match p.1, q.1 with
 | .tup xs, .tup ys => some (zipD xs ys, [], q.2)
 | a, b => (listOf q.2 a).bind fun xs => (listOf q.2 b).map fun ys => (zipD xs ys, gsOf a ++ gsOf b, q.2)
theorem iZip_inv {f g : EX} {e : En} {S S' : Sto} {ds : List D} {gs : List Nat} (h : iZip' f g e S = some (ds, gs, S')) : ∃ a b S1, f e S = some (a, S1) ∧ g e S1 = some (b, S') ∧
  ((∃ xs ys, a = .tup xs ∧ b = .tup ys ∧ ds = zipD xs ys ∧ gs = []) ∨ ∃ xs ys, listOf S' a = some xs ∧ listOf S' b = some ys ∧ ds = zipD xs ys ∧ gs = gsOf a ++ gsOf b) := by
 unfold iZip' at h
 obtain ⟨⟨a, S1⟩, h1, h⟩ := Option.bind_eq_some_iff.mp h
 obtain ⟨⟨b, S2⟩, h2, h⟩ := Option.bind_eq_some_iff.mp h
 have gen : (listOf S2 a).bind (fun xs => (listOf S2 b).map fun ys => (zipD xs ys, gsOf a ++ gsOf b, S2)) = some (ds, gs, S') → ∃ xs ys, listOf S' a = some xs ∧ listOf S' b = some ys ∧ ds = zipD xs ys ∧ gs = gsOf a ++ gsOf b ∧ S2 = S' := fun z => by
  obtain ⟨xs, z1, z⟩ := Option.bind_eq_some_iff.mp z
  obtain ⟨ys, z2, z⟩ := Option.map_eq_some_iff.mp z
  simp only [Prod.mk.injEq] at z
  obtain ⟨rfl, rfl, rfl⟩ := z
  exact ⟨xs, ys, z1, z2, rfl, rfl, rfl⟩
 by_cases ht : ∃ xs ys, a = .tup xs ∧ b = .tup ys
 ·obtain ⟨xs, ys, rfl, rfl⟩ := ht
  cases h
  exact ⟨_, _, S1, h1, h2, .inl ⟨xs, ys, rfl, rfl, rfl, rfl⟩⟩
 ·have h' : (listOf S2 a).bind (fun xs => (listOf S2 b).map fun ys => (zipD xs ys, gsOf a ++ gsOf b, S2)) = some (ds, gs, S') := by
   cases a with
   | tup xs =>
    cases b with
    | tup ys => exact absurd ⟨xs, ys, rfl, rfl⟩ ht
    | _ => exact h
   | _ => cases b <;> exact h
  obtain ⟨xs, ys, z1, z2, z3, z4, rfl⟩ := gen h'
  exact ⟨a, b, S1, h1, h2, .inr ⟨xs, ys, z1, z2, z3, z4⟩⟩
theorem pair_new {Z : List Addr} (si : Sim ⟨K, Z⟩ m) {T : Addr} (hT : m.H T = none) {x y : D} {vx vy : V} (rx : Rep ⟨K, Z⟩ m x vx) (ry : Rep ⟨K, Z⟩ m y vy) :
  ∃ m3 : M, m3.H = upd m.H T (.tup [vx, vy]) ∧ m3.S = m.S ∧ Tr ⟨K, Z⟩ m m3 ∧ Rep ⟨K, Z⟩ m3 (.tup [x, y]) (.ref T) :=
 ⟨⟨m.r, m.S, upd m.H T (.tup [vx, vy])⟩, rfl, rfl, .laid si hT, Rep.newTup si hT ⟨vx, [vy], rfl, rx, vy, [], rfl, ry, rfl⟩⟩
def enumD (xs : List D) : List D := (List.range xs.length).zipWith (fun i x => D.tup [.int (i : Nat), x]) xs
theorem enumD_get {xs : List D} {i : Nat} {d : D} (h : (enumD xs)[i]? = some d) : ∃ x, xs[i]? = some x ∧ d = .tup [.int (i : Nat), x] := by
 unfold enumD at h
 rw [List.getElem?_zipWith] at h
 cases h1 : xs[i]? with
 | none =>
  rw [h1] at h
  cases h2 : (List.range xs.length)[i]? with
  | none => rw [h2] at h; cases h
  | some j => rw [h2] at h; cases h
 | some x =>
  have hi : i < xs.length := by
   rcases Nat.lt_or_ge i xs.length with z | z
   ·exact z
   ·rw [List.getElem?_eq_none z] at h1; cases h1
  rw [h1, List.getElem?_range hi] at h
  cases h
  exact ⟨x, rfl, rfl⟩
theorem enumD_len {xs : List D} : (enumD xs).length = xs.length := by
 unfold enumD
 rw [List.length_zipWith, List.length_range, Nat.min_self]
theorem it_enumL {Z : List Addr} {a : Addr} {xs : List D} {g1 : List Nat} (h1 : Stays K Z m a xs g1) : ItOk K Z m (enumD xs) g1 (Ite K a) := ⟨fun Z' m' hz hw x si gd i => by
 obtain ⟨us, q1, r1⟩ := h1 Z' m' hz hw x si gd
 refine ⟨fun hi => ⟨us, q1, by rw [r1.len, ← enumD_len (xs := xs)]; exact hi⟩, fun d hd => ?_⟩
 obtain ⟨x1, hx, rfl⟩ := enumD_get hd
 obtain ⟨v1, hv1, rv1⟩ := r1.get hx
 refine ⟨⟨us, v1, q1, hv1⟩, fun v H3 ⟨T, u1, eT, hT, eH, f1⟩ => ?_⟩
 subst eT eH
 have e1 := f1 us q1
 rw [hv1] at e1
 cases e1
 exact pair_new si hT (rfl : Rep ⟨K, Z'⟩ m' (.int (i : Nat)) (.int (i : Nat))) rv1⟩
end
section
variable {X : Cx} {K : PySem.W.Frag} {c : C} {m : M} {o e : Expr} {es : List Expr} {f : EX} {ga : AX} {pos apos : Pos}
abbrev FM := Sto → List D → List D → Option (D × List D)
def eMt (h : FM) (fo : EX) (ga : AX) : EX := fun e S => (fo e S).bind fun p => (ga e p.2).bind fun q => match p.1 with
 | .ref n => (boxAt q.2 n).bind fun ds => (h q.2 ds q.1).map fun r => (r.1, q.2.set n (.lst r.2))
 | _ => none
theorem eMt_inv {h : FM} {fo : EX} {ga : AX} {e : En} {S S' : Sto} {v : D} (hh : eMt h fo ga e S = some (v, S')) : ∃ n S1 args S2 ds ds', fo e S = some (.ref n, S1) ∧ ga e S1 = some (args, S2) ∧ boxAt S2 n = some ds ∧ h S2 ds args = some (v, ds') ∧ S' = S2.set n (.lst ds') := by
 unfold eMt at hh
 obtain ⟨⟨a, S1⟩, h1, hh⟩ := Option.bind_eq_some_iff.mp hh
 obtain ⟨⟨args, S2⟩, h2, hh⟩ := Option.bind_eq_some_iff.mp hh
 cases a <;> first | exact no2 hh | skip
 obtain ⟨ds, h3, hh⟩ := Option.bind_eq_some_iff.mp hh
 obtain ⟨⟨r, ds'⟩, h4, hh⟩ := Option.map_eq_some_iff.mp hh
 simp only [Prod.mk.injEq] at hh
 obtain ⟨rfl, rfl⟩ := hh
 exact ⟨_, S1, args, S2, ds, ds', h1, h2, h3, h4, rfl⟩
def rMt (K : PySem.W.Frag) (h : FM) : V → List V → Hp → VK → Prop := fun x xs H Q => ∃ (Z : List Addr) (m : M) (n : Nat) (ds args : List D) (r : D) (ds' : List D), m.H = H ∧ Sim ⟨K, Z⟩ m ∧ x = .ref (m.r n) ∧ n < m.S.length ∧ boxAt m.S n = some ds ∧ RepL ⟨K, Z⟩ m args xs ∧ h m.S ds args = some (r, ds') ∧
 ∀ m' v, m'.S = m.S.set n (.lst ds') → Tr ⟨K, Z⟩ m m' → Rep ⟨K, Z⟩ m' r v → Q v m'.H
theorem te_mt {h : FM} {fo : EX} {ga : AX} {σ : L2.St} {H : Hp} {Q : VK} (hh : tE K (eMt h fo ga) σ H Q) : tBM K "list" (rMt K h) (tE K fo) (tA K ga) σ H Q := by
 obtain ⟨Z, m, env, v, S', e, s, er, hf, q⟩ := hh
 obtain ⟨n, S1, args, S2, ds, ds', h1, h2, h3, h4, rfl⟩ := eMt_inv hf
 refine ⟨Z, m, env, .ref n, S1, e, s, er, h1, fun m1 vx e1 t1 rx => ?_⟩
 have hl := rx.lt.1
 obtain ⟨⟨ds0, hd0⟩, rfl⟩ := rx
 obtain ⟨xs, hx, _⟩ := t1.si.boxL hd0
 refine ⟨.inl ⟨rfl, xs, SqL.of hx⟩, Z, m1, env, args, S2, rfl, t1.si, er.tr s t1, by rw [e1]; exact h2, fun m2 vy e2 t2 ry => ?_⟩
 refine ⟨Z, m2, n, ds, args, v, ds', rfl, t2.si, by rw [t2.ex.ag n hl], Nat.lt_of_lt_of_le hl t2.ex.le, by rw [e2]; exact h3, ry, by rw [e2]; exact h4, fun m3 w e3 t3 rw => ?_⟩
 exact q m3 w (by rw [e3, e2]) ((t1.trans s t2).trans s t3) rw
theorem ej_bm {name : Str} {id : String} {h : FM} (pa : PlainAttrs "list") (slot : Slot "list" name id) (hty : typeOf (.builtin id) = pure (.type "method_descriptor")) (hm : MtR X id (rMt X.K h)) (ho : EJ X o f) (ha : AJ X (e :: es) ga)
  (hbase : attributeBase o name X.env (eval o X.env) = eval o X.env := by rfl)
  (hfew : ((backTo pos (starEach (e :: es) X.env)).all (fun x => !x.1) && (backToKw pos (keywordEach [] X.env)).all (fun x => x.1.isSome)
   && decide ((e :: es).length + ([] : List Keyword).length + (if ([] : List Keyword).isEmpty then 0 else 1) < 30)) = true := by rfl)
  (hline : (apos.endLine == pos.line) = true := by rfl) (hs : starEach (e :: es) X.env = (false, eval e X.env) :: starEach es X.env := by rfl) (hpl : (backTo pos (starEach es X.env)).any (·.1) = false := by rfl) :
  EJ X (.Call (.Attribute o name apos) (e :: es) [] pos) (eMt h f ga) := pe_wk (pe_bm pa slot hty hm ho ha hbase hfew hline hs hpl) fun _ _ _ h => te_mt h
def hAppend : FM := fun _ ds args => match args with
 | [d] => if szOk (ds.length + 1) = true then some (.non, ds ++ [d]) else none
 | _ => none
def hExtend : FM := fun S ds args => match args with
 | [d] => (ownOf S d).bind fun es => if szOk (ds.length + es.length) = true then some (.non, ds ++ es) else none
 | _ => none
theorem m_extend : MtR X "list.extend" (rMt X.K hExtend) := by
 rintro pins s σ H x xs v us Q I rx rxs ⟨Z, m, n, ds, args, r, ds', rfl, si, rfl, hl, hb, ra, hf, q⟩
 match args, hf, ra with
 | [d], hf, ra =>
  obtain ⟨es, h1, h2⟩ := Option.bind_eq_some_iff.mp (show (ownOf m.S d).bind _ = _ from hf)
  obtain ⟨hz, h2⟩ := ite_some h2
  simp only [Prod.mk.injEq] at h2
  obtain ⟨rfl, rfl⟩ := h2
  obtain ⟨y, rfl, ry⟩ := ra.one_inv
  obtain ⟨_, ys, hy, ly⟩ := si.at hb
  obtain ⟨p, zs, rfl, hp, lz⟩ := si.own ry h1
  refine mt_extend pins s σ m.H _ _ v us Q I rx rxs ⟨m.r n, p, ys, zs, rfl, rfl, hy, hp, by rw [ly.len, lz.len]; exact szOk_le hz, ?_⟩
  exact q (m.put n (ds ++ es) (ys ++ zs)) .non rfl (.put si hl ⟨_, boxAt_inv (by assumption)⟩ (ly.app lz)) rfl
end
section
open PySem.W (OpenLaw)
theorem law_run {P : Program} {w : World} {K : PySem.W.Frag} {mg mb : Str → Option Value} {k : Nat} {fa a : Addr} {fd : FuncData} {x : Str} {con : Con} {s₁ : Shared} {vs : List Value} {ns : List Int}
  (KX : K.In s₁.heap) (hns : s₁.heap.Ns mainGlobals mg) (hb : s₁.heap.Ns builtinsNs mb) (hbb : ∀ x : Str, x ≠ "__name__" → mb x = bootBuiltins x) (hlim : s₁.heap.NoLimit) (hg : s₁.gens = #[])
  (ha : s₁.heap.get? a = some { cls := .type "list", data := .seq vs.toArray }) (hi : IntsAre vs ns) (hl : ns.length ≤ sizeLine) (hr : Room k callerA)
  (F : ∀ base : Heap, K.In base → base.Ns mainGlobals mg → FnG P w K mg base k fa fd [x] con) (hbind : ∀ (s : Shared) (u : Value), BindsTo s fd ⟨[u], []⟩ [(x, u)])
  (hcon : con [.rol (ns.map D.int)] [] = some (.bl true, [])) :
  codeAny (model P w) callerA (.call (.ref fa) ⟨[.ref a], []⟩) (fun r s' => r = .ok (.ret (.bool true)) ∧ OldK s₁.heap s'.heap ∧ s'.os = s₁.os ∧ AllBare s'.gens) s₁ := by
 have main : ∀ H : Hp, (∀ b, H b ≠ none → b = a) → (∀ b u, H b = some u → ∃ o xs, u = .frz o (.lst xs)) → RoL ⟨K, []⟩ ⟨fun _ => 0, [], H⟩ a (ns.map V.int) → HOk P w H s₁.heap → (H a ≠ none → K.lookup a = none) →
   codeAny (model P w) callerA (.call (.ref fa) ⟨[.ref a], []⟩) (fun r s' => r = .ok (.ret (.bool true)) ∧ OldK s₁.heap s'.heap ∧ s'.os = s₁.os ∧ AllBare s'.gens) s₁ := by
  intro H onlyA onlyF ro hok noK
  have dictFree : ∀ {b : Addr} {o : Obj} {es : Array DictEntry} {ep : Nat}, s₁.heap.get? b = some o → o.data = .dict es ep → H b = none := fun {b o es ep} e d => by
   cases z : H b with
   | none => rfl
   | some u =>
    have hba : b = a := onlyA b (by rw [z]; exact fun h => nomatch h)
    subst hba
    rw [ha] at e
    cases e
    exact nomatch (show Data.seq vs.toArray _ = Data.dict es ep from d)
  have nsOf : ∀ {b : Addr} {mm : Str → Option Value}, s₁.heap.Ns b mm → (hidT s₁.heap H).Ns b mm := fun ⟨o, es, ep, e, d, r⟩ => ⟨o, es, ep, hidT_get e (dictFree e d), d, r⟩
  have kin : K.In (hidT s₁.heap H) := fun b o e => hidT_get (KX b o e) (by
   cases z : H b with
   | none => rfl
   | some u =>
    have hba : b = a := onlyA b (by rw [z]; exact fun h => nomatch h)
    subst hba
    rw [noK (by rw [z]; exact fun h => nomatch h)] at e
    cases e)
  have hmod : Mod K mg (hidT s₁.heap H) := ⟨kin, nsOf hns, ⟨mb, nsOf hb, hbb⟩, let ⟨mc, h1, h2⟩ := hlim; ⟨mc, nsOf h1, h2⟩⟩
  have e0 : Env0 P w K mg (hidT s₁.heap H) callerA [] s₁ H := ⟨rfl, hmod, fun b o e => of_hidT e, Nat.le_of_eq (hidT_size _ _), trivial, fun b hb => absurd (show b ∈ ([] : List Addr) from hb) (by simp), hok, .of_eq hg⟩
  have sim : Sim ⟨K, []⟩ ⟨fun _ => 0, [], H⟩ := ⟨fun i j h => absurd h (Nat.not_lt_zero _), fun i o h => (by cases h), fun z hz => (by cases hz), fun q hq => (by rw [TBL_nil] at hq; cases hq)⟩
  have prom : spD K con [.ref a] H (fun v _ => v = .bl true) E0 := ⟨[], ⟨fun _ => 0, [], H⟩, [.rol (ns.map D.int)], .bl true, [], rfl, sim, ⟨.ref a, [], rfl, ⟨a, ns.map V.int, rfl, ro, RepL.ofInts ns⟩, rfl⟩, hcon, fun m' y _ _ ry => ry⟩
  refine codeAny_mono ((F _ kin (nsOf hns)).run callerA [] s₁ H ⟨[.ref a], []⟩ [.ref a] [.ref a] _ E0 ⟨hr, rfl⟩ e0 (hbind s₁ (.ref a)) (.cons rfl .nil) prom) fun r s' h => ?_
  cases r with
  | error e => exact h.elim
  | ok fl =>
   cases fl with
   | ret u =>
    obtain ⟨v, H', os, bare, un, hok', r', q⟩ := h
    have q' : v = .bl true := q
    subst q'
    obtain rfl : u = Value.bool true := r'
    refine ⟨rfl, OldK.of_keep fun b o e => ?_, os, bare⟩
    cases z : H b with
    | none => exact un.keep b o e z (by intro y; exact absurd (show b ∈ ([] : List Addr) from y) (by simp)) (by simp)
    | some u =>
     obtain ⟨ob, xs, rfl⟩ := onlyF b u z
     have z2 := un.frzs b ob _ z
     obtain ⟨e1, _⟩ := hok b _ z
     obtain ⟨e2, _⟩ := hok' b _ z2
     rw [e] at e1
     cases e1
     exact e2
   | _ => exact False.elim h
 have rv := vals_ints hi
 have lenV := hi.length
 cases hk : K.lookup a with
 | some o =>
  have e := KX a o hk
  rw [ha] at e
  cases e
  refine main (fun _ => none) (fun b z => absurd rfl z) (fun b u z => nomatch (show (none : Option HO) = some u from z)) (.inr ⟨_, vs.toArray, _, hk, rfl, rfl, rfl, by rw [List.size_toArray, lenV]; exact hl, by simpa using rv⟩) (fun b u z => nomatch (show (none : Option HO) = some u from z)) fun z => absurd rfl z
 | none =>
  refine main (fun b => if b = a then some (.frz { cls := .type "list", data := .seq vs.toArray } (.lst (ns.map V.int))) else none) (fun b z => ?_) (fun b u z => ?_) (.inl ⟨_, if_pos rfl⟩) (fun b u z => ?_) fun _ => hk
  ·by_cases hb : b = a
   ·exact hb
   ·exact absurd (if_neg hb) z
  ·by_cases hb : b = a
   ·have z' := (if_pos hb).symm.trans z
    cases z'
    exact ⟨_, _, rfl⟩
   ·have z' := (if_neg hb).symm.trans z
    cases z'
  ·by_cases hb : b = a
   ·have z' := (if_pos hb).symm.trans z
    cases z'
    subst hb
    exact ⟨ha, by rw [List.length_map]; exact hl, vs, _, rv, ha⟩
   ·have z' := (if_neg hb).symm.trans z
    cases z'
theorem law_end {l : PySem.W.OpenLaw} {n k : Nat} {q : Program} {loose : List Str} {XP : (Str → Option Value) → Heap → Prop} {YP : World → Heap → Prop} {d : DefRec} {x : Str} {con : Con}
  (hn : l.most = some n) (hn2 : n ≤ sizeLine) (hdf : d.params.defaults = []) (hr : Room k callerA)
  (F : ∀ (w : World) (mg : Str → Option Value) (fa : Addr) (h : Heap), YP w h → h.Ns mainGlobals mg → mg d.name = some (.ref fa) →
   ∃ (K : PySem.W.Frag) (fd : FuncData), K.In h ∧ (∀ (s : Shared) (u : Value), BindsTo s fd ⟨[u], []⟩ [(x, u)]) ∧
    ∀ base : Heap, K.In base → base.Ns mainGlobals mg → FnG l.prog w K mg base k fa fd [x] con)
  (hcon : ∀ ns : List Int, ns.length ≤ n → con [.rol (ns.map D.int)] [] = some (.bl true, [])) :
  PySem.W.WalkO q loose XP YP l.row.toRowW d [] (fun f vs => PySem.call f vs) := by
 refine Att.attach_call hn hdf fun w s₀ s₁ mg mb fa o pm cd doc a vs ns G Y ho hd hcd hmg hobj hints hlen hg => ?_
 obtain ⟨K, fd, KX, hb, hF⟩ := F w mg fa _ Y G.T.g hmg
 exact law_run KX G.T.g G.T.b G.T.builtins G.T.nolimit hg hobj hints (Nat.le_trans hlen hn2) hr hF hb (hcon ns hlen)
end
def perm {α : Type} (ix : List Nat) (l : List α) : List α := ix.filterMap fun i => l[i]?
structure Cal (P : Program) (w : World) (K : PySem.W.Frag) (mg : Str → Option Value) (base : Heap) (k : Nat) (x : Str) (ps : List Str) (con : Con) : Prop where
 ex : ∃ (f : Addr) (fd : FuncData), mg x = some (.ref f) ∧ PySem.W.keepIn K (.ref f) = true ∧ Binds K fd ps [] ∧ FnG P w K mg base k f fd ps con
structure CalK (P : Program) (w : World) (K : PySem.W.Frag) (mg : Str → Option Value) (base : Heap) (k : Nat) (x : Str) (ps ks : List Str) (ix : List Nat) (con : Con) : Prop where
 ex : ∃ (f : Addr) (fd : FuncData), mg x = some (.ref f) ∧ PySem.W.keepIn K (.ref f) = true ∧ KBd K fd ps ks (perm ix) ∧ FnG P w K mg base k f fd ps con
section
variable {P : Program} {w : World} {K : PySem.W.Frag} {mg : Str → Option Value} {base : Heap} {k : Nat} {x qual : Str} {ps : List Str} {con : Con} {params : Arguments} {body : List Stmt} {scope : Scope} {f : Addr} {fd : FuncData}
theorem Cal.of (F : FunD K x qual params body scope [] [] f fd) (hm : mg x = some (.ref f)) (G : FnG P w K mg base k f fd ps con)
  (h : ∀ (kV doc pm : Value) (an : Option Addr) (cdv ct : Value) (us : List Value), us.length = ps.length → bindArgs (PySem.W.fnOf x qual params body scope .none kV doc pm an cdv ct) ⟨us, []⟩ = pure (ps.zip us)) : Cal P w K mg base k x ps con :=
 ⟨f, fd, hm, F.kp, F.bindsN h, G⟩
end
section
variable {X : Cx} {a b c : Expr} {es : List Expr} {ga gk : AX} {fa fb fc : EX} {pos p : Pos} {k : Nat} {ps : List Str} {con : Con} {x : Str}
theorem ej_own (C : Cal X.prog X.w X.K X.mg X.base k x ps con) (hr : RG k X.A) (hg : Gl X x) (ha : AJ X (a :: es) ga) (hdb : (x == ("__debug__" : Str)) = false := by decide) (he : starEach (a :: es) X.env = (false, eval a X.env) :: starEach es X.env := by rfl) (hpl : (backTo pos (starEach es X.env)).any (·.1) = false := by rfl) :
  EJ X (.Call (.Name x p) (a :: es) [] pos) (eCall con ga) := by
 obtain ⟨f, fd, h1, h2, h3, h4⟩ := C.ex
 exact ej_call h4 hr hg h1 h2 h3 ha hdb he hpl
theorem ej_v (i : Nat) {x : Str} {pos : Pos} (hN : X.N[i]? = some x := by rfl) (hv : Vis X.env.scope x := by first | exact Or.inl rfl | exact Or.inr (Or.inl rfl) | exact Or.inr (Or.inr rfl)) (hd : (x == ("__debug__" : Str)) = false := by decide)
  (hcd : (x == ("__classdict__" : Str)) = false := by decide) : EJ X (.Name x pos) (eVar i) := ej_var hN hv hd hcd
def eChain (f g : F2) (a b c : EX) : EX := fun e S => (a e S).bind fun p => (b e p.2).bind fun q => (f q.2 p.1 q.1).bind fun t => match t with
 | .bl true => (c e q.2).bind fun r => (g r.2 q.1 r.1).map fun d => (d, r.2)
 | .bl false => some (.bl false, q.2)
 | _ => none
theorem te_chain {K : PySem.W.Frag} {f g : F2} {σ : L2.St} {H : Hp} {Q : VK} (h : tE K (eChain f g fa fb fc) σ H Q) : tChain (r2 K f) (r2 K g) (tE K fa) (tE K fb) (tE K fc) σ H Q := by
 obtain ⟨Z, m, env, v, S', e, s, er, hf, q⟩ := h
 unfold eChain at hf
 obtain ⟨⟨x, S1⟩, h1, h⟩ := Option.bind_eq_some_iff.mp hf
 obtain ⟨⟨y, S2⟩, h2, h⟩ := Option.bind_eq_some_iff.mp h
 obtain ⟨t, h3, h⟩ := Option.bind_eq_some_iff.mp h
 refine ⟨Z, m, env, x, S1, e, s, er, h1, fun m1 vx e1 t1 rx => ?_⟩
 refine ⟨Z, m1, env, y, S2, rfl, t1.si, er.tr s t1, by rw [e1]; exact h2, fun m2 vy e2 t2 ry => ?_⟩
 refine ⟨Z, m2, x, y, t, rfl, t2.si, t2.rep t1.si rx, ry, by rw [e2]; exact h3, fun m3 w e3 t3 rw => ?_⟩
 have t03 := (t1.trans s t2).trans s t3
 cases t <;> first | exact no2 h | skip
 rename_i b
 refine ⟨b, rw, ?_⟩
 cases b with
 | true =>
  obtain ⟨⟨z, S3⟩, h4, h⟩ := Option.bind_eq_some_iff.mp (show (fc env S2).bind _ = _ from h)
  obtain ⟨d, h5, h⟩ := Option.map_eq_some_iff.mp h
  simp only [Prod.mk.injEq] at h
  obtain ⟨rfl, rfl⟩ := h
  refine ⟨Z, m3, env, z, S3, rfl, t3.si, er.tr s t03, by rw [e3, e2]; exact h4, fun m4 vz e4 t4 rz => ?_⟩
  refine ⟨Z, m4, y, z, d, rfl, t4.si, t4.rep t3.si (t3.rep t2.si ry), rz, by rw [e4]; exact h5, fun m5 u e5 t5 ru => ?_⟩
  exact q m5 u (e5.trans e4) ((t03.trans s t4).trans s t5) ru
 | false =>
  cases h
  exact q m3 _ (e3.trans e2) t03 rfl
theorem tj_chain {op op' : CmpOp} {f g : F2} (ho : OpR X (compareOp op) (r2 X.K f)) (ho' : OpR X (compareOp op') (r2 X.K g)) (ha : EJ X a fa) (hb : EJ X b fb) (hc : EJ X c fc) (hm : lastMarks [op, op'] [b, c] = false := by with_unfolding_all rfl) :
  TJ X (.Compare a [op, op'] [b, c] pos) (tOf (eChain f g fa fb fc)) := by
 refine pt_wk (pt_chain ho ho' ha hb hc hm) fun σ H Q ⟨Z, m, env, v, S', e, s, er, hf, q⟩ => ?_
 exact te_chain ⟨Z, m, env, .bl v, S', e, s, er, tOf_inv hf, fun m1 vx e1 t1 rx => ⟨v, rx, q m1 e1 t1⟩⟩
theorem wj_pt {e : Expr} {f : TX} (h : WJ X e f) : TJ X e f := h.pt
theorem RG.u64 {k : Nat} {A : Around} (h : RG k A) : A.units + 64 < cLine := h.room.units
theorem RG.u65 {k : Nat} {A : Around} (h : RG k A) : A.units + 65 < cLine := by have := h.room.un; omega
end
theorem obsP_eq {n : Nat} {fa : List He.Fa} {fn : List He.DefD} {cs : List (Str × D)} {g : Addr → Option Obj} {s : Shared} (h : ∀ a, g a = s.heap.get? a) : obsP n fa fn cs g = (hookP n fa fn cs).obs s := by
 have e : g = s.heap.get? := funext h
 rw [e] <;> rfl
end Pv
namespace PySem
open Sem (wp)
set_option maxHeartbeats 1000000 in
theorem pv_enum_new {v : Value} {o : Obj} {H : Heap → Prop} (B : Begins v o H) :
  Meets (Builtin.«enumerate.__new__» ⟨[.type "enumerate", v], []⟩) (fun _ R s => H s.heap ∧
   R (.ok (.ret (.ref (s.heap.push o).objs.size))) { s with heap := (s.heap.push o).push { cls := .type "enumerate", data := .fields #[.none, .bool false, .ref s.heap.objs.size, rawInt 0, .none, .none] } }) :=
 .of_wp fun prog w A R s h => by
  obtain ⟨hp, g, d, tk, os⟩ := s
  obtain ⟨h1, h⟩ := h
  have hsub := sub_enumerate
  have q1 : ∀ {A' : Around} {E : Value → Shared → Prop} {Q : Value → Shared → Prop}, Q (.ref hp.objs.size) ⟨hp.push o, g, d, tk, os⟩ → wpAny (model prog w) A' (pyIter v) Q E ⟨hp, g, d, tk, os⟩ := fun q => B.iter prog w _ _ ⟨hp, g, d, tk, os⟩ _ h1 q
  wp_walk using q1
  refine wpAny_stack_any fun st => wpAny_pure ?_
  split
  ·rename_i c _ _ _ _ _
   cases (c == Value.type "enumerate") <;> (wp_walk using q1; exact ⟨_, rfl, h⟩)
  ·wp_walk using q1
   exact ⟨_, rfl, h⟩
theorem pv_enum_call {prog : Program} {w : World} {A : Around} {E : Value → Shared → Prop} {s : Shared} {v : Value} {o : Obj} {H : Heap → Prop} {Q : Value → Shared → Prop} (B : Begins v o H) (h1 : H s.heap)
  (h : ∀ h', IsEnum h' (s.heap.objs.size + 1) s.heap.objs.size 0 .none → h'.get? s.heap.objs.size = some o → h'.objs.size = s.heap.objs.size + 2 → (∀ b o, s.heap.get? b = some o → h'.get? b = some o) → Q (.ref (s.heap.objs.size + 1)) { s with heap := h' }) :
  wpAny (model prog w) A (call (.type "enumerate") [v]) Q E s := by
 refine callType_new F.called_enumerate (by decide) (F.typeCall_enumerate_1 _) (F.newCall_enumerate_1 _) (fun obj => F.args_object_init_2 obj _) F.entry_enumerate_new (pv_enum_new B) ⟨h1, ?_⟩
 have hz : (s.heap.push o).objs.size = s.heap.objs.size + 1 := Heap.size_push ..
 show _ ∧ _
 rw [hz]
 have he : IsEnum ((s.heap.push o).push { cls := .type "enumerate", data := .fields #[.none, .bool false, .ref s.heap.objs.size, rawInt 0, .none, .none] }) (s.heap.objs.size + 1) s.heap.objs.size 0 .none := by
  have z := Heap.get?_push_size (s.heap.push o) (o := { cls := .type "enumerate", data := .fields #[.none, .bool false, .ref s.heap.objs.size, rawInt 0, .none, .none] }) rfl
  rw [hz] at z
  exact z
 exact ⟨⟨_, he, rfl⟩, h _ he (Heap.get?_push_of_some _ (Heap.get?_push_size _ B.free)) (by rw [Heap.size_push, hz]) fun b o x => Heap.get?_push_of_some _ (Heap.get?_push_of_some _ x)⟩
end PySem
namespace Pv
open PySem PySem.Spec PyProof.Rows L2
def IteT (K : PySem.W.Frag) (a : Addr) : It :=
 ⟨fun i H => ∃ (xs : List V) (x : V), SqT K H a xs ∧ xs[i]? = some x, fun i H v H' => ∃ T x, v = .ref T ∧ H T = none ∧ H' = upd H T (.tup [.int (i : Nat), x]) ∧ ∀ xs, SqT K H a xs → xs[i]? = some x, fun i H => ∃ xs : List V, SqT K H a xs ∧ xs.length ≤ i⟩
theorem turn_enumT {P : Program} {w : World} {K : PySem.W.Frag} {elts : List Expr} {kk : Nat} {tpos : Pos} (a e it : Addr) :
  Turn P w K (.Tuple elts kk tpos) (IteT K a) [e, it] e (fun i h => (∃ old, IsEnum h e it ((i : Nat) : Int) old) ∧ h.IsTupleIter it a i ∧ e ≠ it) where
 mem := List.mem_cons_self ..
 obj := fun i h st b hb => by
  obtain ⟨⟨old, he⟩, ⟨o, ho, hc, hd⟩, _⟩ := st
  rcases List.mem_cons.mp hb with rfl | hb
  ·exact ⟨_, he, fun v q => nomatch q⟩
  ·rw [List.mem_singleton.mp hb]
   exact ⟨o, ho, fun v q => by rw [hd] at q; cases q⟩
 keep := fun i h h' st k => by
  obtain ⟨⟨old, he⟩, hi, hne⟩ := st
  exact ⟨⟨old, k e (List.mem_cons_self ..) _ he⟩, hi.at fun o q => k it (List.mem_cons_of_mem _ (List.mem_singleton.mpr rfl)) o q, hne⟩
 item := by
  intro X hP hw hK hc i pins s σ H E I hf st hg
  subst hP hw hK
  obtain ⟨⟨old, he⟩, hit, hne⟩ := st
  obtain ⟨xs, x, hq, hx⟩ := hg
  obtain ⟨its, rv, p, hz⟩ := I.tuple hq
  obtain ⟨u, hu, ru⟩ := rv.get hx
  have hel : e < s.heap.objs.size := Heap.lt_size he
  have hil : it < s.heap.objs.size := by obtain ⟨_, q, _⟩ := hit; exact Heap.lt_size q
  have hal : a ≠ it := by
   obtain ⟨o1, q1, c1, _⟩ := p
   obtain ⟨o2, q2, c2, _⟩ := hit
   intro z
   subst z
   rw [q1] at q2
   cases q2
   rw [c1] at c2
   exact absurd c2 (by decide)
  have hae : a ≠ e := by
   obtain ⟨o1, q1, c1, _⟩ := p
   intro z
   subst z
   have he' : s.heap.get? a = some _ := he
   rw [q1] at he'
   cases he'
   exact absurd (show Value.type "enumerate" = Value.type "tuple" from c1) (by decide)
  have D := Draws.tuple (prog := X.prog) (w := X.w) (A := X.A.in1) (I.ok.hd hc) it a hal its.toArray
  have hi : i < its.toArray.size := by
   rw [List.size_toArray]
   rcases Nat.lt_or_ge i its.length with z | z
   ·exact z
   ·rw [List.getElem?_eq_none z] at hu; cases hu
  refine wpAny_pyNext_enum_itemD D he ⟨hit, p⟩ hi hne (fun z => ?_) fun y h' tk hP ho hst hT hsz hk => ?_
  ·rcases List.mem_cons.mp z with z | z
   ·exact hne z
   ·exact hae (List.mem_singleton.mp z).symm
  ·have hy : y = u := by
    have hP : its.toArray[i]? = some y := hP
    rw [List.getElem?_toArray, hu] at hP
    exact (Option.some.inj hP).symm
   subst hy
   refine ⟨_, rfl, wpAny_letOwnedTupleGo_enum (s := { s with heap := h', toks := tk + 1 }) ho fun h'' he' sb => ?_⟩
   have hT2 : h''.get? s.heap.objs.size = some { cls := .type "tuple", data := .seq #[.int i tk, y] } := (sb.2 _ (Nat.ne_of_gt hel)).trans hT
   have new : ObjOk X.prog X.w (upd H s.heap.objs.size (.tup [.int (i : Nat), x])) h'' s.heap.objs.size (.tup [.int (i : Nat), x]) := ⟨by show 2 ≤ sizeLine; decide, [.int i tk, y], .cons ⟨_, rfl⟩ (.cons ru .nil), ⟨_, hT2, rfl, _, rfl⟩⟩
   have I1 : Inv X pins σ (upd H s.heap.objs.size (.tup [.int (i : Nat), x])) { s with heap := h'', toks := tk + 1 } :=
    I.turnedNew (ch := [e, it]) (fun b ob hb q => (sb.2 b (fun z => hb (by simp [z]))).trans (hk b ob (fun z => hb (by simp [z])) (fun z => hb (by simp [z])) q)) hf (Nat.le_refl _) new
   refine ⟨.ref s.heap.objs.size, _, I1, rfl, ⟨_, x, rfl, I.hok.fresh (Nat.le_refl _), rfl, fun ys hy => by rw [I.tuple_inj hy hq]; exact hx⟩, ⟨⟨y, ?_⟩, hst.1.at fun o q => (sb.2 it (Ne.symm hne)).trans q, hne⟩, fun b hb => ?_⟩
   ·have e1 : ((i + 1 : Nat) : Int) = (i : Int) + 1 := by omega
    rw [e1]
    exact he'
   ·have hb' : b < s.heap.objs.size := by
     rcases List.mem_cons.mp hb with rfl | hb
     ·exact hel
     ·rw [List.mem_singleton.mp hb]; exact hil
    rw [upd_ne (Nat.ne_of_lt hb')]
    exact (hf b hb).1
 done := by
  intro X hP hw hK hc i pins s σ H E I hf st hg
  subst hP hw hK
  obtain ⟨⟨old, he⟩, hit, hne⟩ := st
  obtain ⟨xs, hq, hx⟩ := hg
  obtain ⟨its, rv, p, hz⟩ := I.tuple hq
  obtain ⟨f0, f1, f2, f3, f4, f5⟩ := hf it (by simp)
  have hl := rv.length
  have hT : s.TypeIs (.ref e) "enumerate" := ⟨_, he, rfl⟩
  unfold pyNext
  refine wpAny_bind (wpAny_attempt (wpAny_callSpecial?_slot (name := Str.ofString "__next__") hT F.slot_enumerate_next (wpAny_call_entry F.slot_enumerate_next hT F.entry_enumerate_next ?_ (F.args_enumerate_next_1 _))))
  show wpAny _ _ (field (.ref e) 2 >>= _) _ _ _
  refine wpAny_bind (wpAny_field he rfl (x := .ref it) rfl ?_)
  refine wpAny_bind (wpAny_nextOf_tuple_end (I.ok.hd hc) hit p (by rw [List.getElem?_toArray]; exact List.getElem?_eq_none (by omega)) fun h' x he' hx' => ?_)
  obtain ⟨o, ho, hc'⟩ := hx'
  refine wpAny_bind (wpAny_isInstance (T := "StopIteration") (b := true) ⟨o, ho, hc'⟩ isSubtype_stop ?_)
  exact wpAny_pure ⟨rfl, I.turned (t' := s.toks) (fun b o hb q => he' b o hb q) f0 f1 f3 f4 f5⟩
 self := fun A i s Q E st h => by
  obtain ⟨⟨_, he⟩, _⟩ := st
  exact wpAny_pyIter_enum he h
section
variable {X : Cx} {K : PySem.W.Frag} {m : M} {e : Expr} {f : EX} {pos p : Pos}
def iEnumTT (K : PySem.W.Frag) (ta : TA) : TI := fun σ H R => ta σ H fun vs H1 => ∃ a xs, vs = [.ref a] ∧ SqT K H1 a xs ∧ R (IteT K a) H1
theorem pi_enumT {ta : TA} {tpos : Pos} {elts : List Expr} {kk : Nat} (hg : Gl X "enumerate") (hm : X.mg "enumerate" = none) (ha : PA X [e] ta) (hs : starEach [e] X.env = [(false, eval e X.env)] := by rfl) :
  PI X (.Tuple elts kk tpos) (.Call (.Name "enumerate" p) [e] [] pos) (iEnumTT X.K ta) := by
 refine ⟨fun pins s σ H R I h => ?_⟩
 refine Call_ (ld_blt I hg hm boot_enumerate (PyProof.Rows.callWith_type1 (thn (ha.run pos pins s σ H _ I h) fun us s1 ⟨vs, H1, I1, r1, q1⟩ => ?_) hs rfl))
 obtain ⟨a, xs, ex, hq, q⟩ := q1
 subst ex
 rw [Vals.ref1 r1]
 obtain ⟨its, rv, p', hz⟩ := I1.tuple hq
 refine pv_enum_call (begins_tuple a its.toArray) (show s1.heap.IsTuple a its.toArray from p') fun h' he ho hsz hk => wpAny_pyIter_enum he ?_
 have I2 : Inv X pins σ H1 { s1 with heap := h' } := I1.kept (t' := s1.toks) hk
 refine ⟨s1.heap.objs.size + 1, [s1.heap.objs.size + 1, s1.heap.objs.size], _, _, H1, rfl, I2, turn_enumT a (s1.heap.objs.size + 1) s1.heap.objs.size, ⟨⟨.none, he⟩, ⟨_, ho, rfl, rfl⟩, Nat.succ_ne_self _⟩, fun b hb => ?_, q⟩
 have hle : s1.heap.objs.size ≤ b := by
  rcases List.mem_cons.mp hb with rfl | hb
  ·exact Nat.le_succ _
  ·rw [List.mem_singleton.mp hb]; exact Nat.le_refl _
 exact I1.fpOk hle (I1.hok.fresh hle)
def iEnum' (f : EX) : IX := fun e S => (f e S).bind fun p => match p.1 with
 | .tup ds => some (enumD ds, [], p.2)
 | d => (listOf p.2 d).map fun ds => (enumD ds, gsOf d, p.2)
theorem iEnum_inv {f : EX} {e : En} {S S' : Sto} {es : List D} {gs : List Nat} (h : iEnum' f e S = some (es, gs, S')) : ∃ d ds, f e S = some (d, S') ∧ es = enumD ds ∧ ((d = .tup ds ∧ gs = []) ∨ (listOf S' d = some ds ∧ gs = gsOf d)) := by
 unfold iEnum' at h
 obtain ⟨⟨d, S1⟩, h1, h⟩ := Option.bind_eq_some_iff.mp h
 have gen : (listOf S1 d).map (fun ds => (enumD ds, gsOf d, S1)) = some (es, gs, S') → ∃ ds, S1 = S' ∧ es = enumD ds ∧ listOf S' d = some ds ∧ gs = gsOf d := fun z => by
  obtain ⟨ds, z1, z⟩ := Option.map_eq_some_iff.mp z
  simp only [Prod.mk.injEq] at z
  obtain ⟨rfl, rfl, rfl⟩ := z
  exact ⟨ds, rfl, rfl, z1, rfl⟩
 cases d with
 | tup ds => cases h; exact ⟨_, ds, h1, rfl, .inl ⟨rfl, rfl⟩⟩
 | _ =>
  obtain ⟨ds, rfl, h2, h3, h4⟩ := gen h
  exact ⟨_, ds, h1, h2, .inr ⟨h3, h4⟩⟩
theorem it_enumT {Z : List Addr} {a : Addr} {xs : List D} {us : List V} (s : Sim ⟨K, Z⟩ m) (q1 : SqT K m.H a us) (r1 : RepL ⟨K, Z⟩ m xs us) : ItOk K Z m (enumD xs) [] (IteT K a) := ⟨fun Z' m' hz hw x si gd i => by
 have q1 : SqT K m'.H a us := x.sqT s.bok q1
 have r1 : RepL ⟨K, Z'⟩ m' xs us := RepL.mono s.bok x xs us (RepL.widen hw xs us r1)
 refine ⟨fun hi => ⟨us, q1, by rw [r1.len, ← enumD_len (xs := xs)]; exact hi⟩, fun d hd => ?_⟩
 obtain ⟨x1, hx, rfl⟩ := enumD_get hd
 obtain ⟨v1, hv1, rv1⟩ := r1.get hx
 refine ⟨⟨us, v1, q1, hv1⟩, fun v H3 ⟨T, u1, eT, hT, eH, f1⟩ => ?_⟩
 subst eT eH
 have e1 := f1 us q1
 rw [hv1] at e1
 cases e1
 exact pair_new si hT (rfl : Rep ⟨K, Z'⟩ m' (.int (i : Nat)) (.int (i : Nat))) rv1⟩
theorem ij_enum {elts : List Expr} {kk : Nat} {tpos : Pos} (hg : Gl X "enumerate") (hm : X.mg "enumerate" = none) (h : EJ X e f) (hs : starEach [e] X.env = [(false, eval e X.env)] := by rfl) (hs' : starEach [e] X.env = (false, eval e X.env) :: starEach [] X.env := by rfl) :
  IJ X (.Tuple elts kk tpos) (.Call (.Name "enumerate" p) [e] [] pos) (iEnum' f) :=
 pi_wk (pi_or (pi_enum hg hm (aj_cons h aj_nil hs') hs) (pi_enumT hg hm (aj_cons h aj_nil hs') hs)) fun σ H R ⟨Z, m, env, es, gs, S', eH, s, er, hf, q⟩ => by
  obtain ⟨d, ds, h1, rfl, hd⟩ := iEnum_inv hf
  rcases hd with ⟨rfl, rfl⟩ | ⟨h2, rfl⟩
  ·refine .inr ⟨Z, m, env, [.tup ds], S', eH, s, er, by unfold aCons; rw [h1]; rfl, fun m1 vx e1 t1 rx0 => ?_⟩
   obtain ⟨x, rfl, rx⟩ := rx0.one_inv
   obtain ⟨pa, us, rfl, q1, r1⟩ := rx
   exact ⟨pa, us, rfl, q1, q m1 _ e1 t1 (it_enumT t1.si q1 r1)⟩
  ·refine .inl ⟨Z, m, env, [d], S', eH, s, er, by unfold aCons; rw [h1]; rfl, fun m1 vx e1 t1 rx0 => ?_⟩
   obtain ⟨x, rfl, rx⟩ := rx0.one_inv
   obtain ⟨pa, us, rfl, q1, r1⟩ := t1.si.list rx (by rw [e1]; exact h2)
   obtain ⟨_, ea, sa⟩ := t1.si.stays rx (by rw [e1]; exact h2)
   cases ea
   exact ⟨pa, us, rfl, q1, q m1 _ e1 t1 (it_enumL sa)⟩
end
def KeptS (S S2 : Sto) (k : Nat) : Prop := ∀ (i : Nat) (o : Ob), i < k → S2[i]? = some o → S[i]? = some o ∨ belowL k o.vs = true
def handed (S2 : Sto) (k : Nat) (d : D) : Option D := if below k d = true then some d else match d with
 | .ref n => match S2[n]? with
   | some (.lst ds) => if belowL k ds = true ∧ k ≤ n then some (.lst ds) else none
   | _ => none
 | .dref n => match S2[n]? with
   | some (.dk ks ds) => if belowL k ds = true ∧ k ≤ n ∧ ks.length = ds.length then some (.dic ks ds) else none
   | _ => none
 | _ => none
open Classical in
noncomputable def den (n N keep : Nat) (b : SX) : Con := fun ds S => if ds.length = n then (b (sE N ds) S).bind fun o => match o with
 | .rt d S2 => if S.length + keep ≤ S2.length ∧ KeptS S S2 (S.length + keep) then (handed S2 (S.length + keep) d).map fun v => (v, S2.take (S.length + keep)) else none
 | .nx _ S2 => if S.length + keep ≤ S2.length ∧ KeptS S S2 (S.length + keep) then some (.non, S2.take (S.length + keep)) else none
 | _ => none else none
theorem handed_fz {S2 : Sto} {k : Nat} {d v : D} (h : handed S2 k d = some v) : Fz S2 k d v := by
 unfold handed at h
 split at h
 ·rename_i hb
  cases h
  exact .inl ⟨rfl, hb⟩
 ·rename_i hnb
  cases d <;> first | exact no2 h | skip
  rename_i n
  simp only at h
  split at h
  ·rename_i ds hn
   split at h
   ·rename_i hc
    cases h
    exact .inr (.inl ⟨n, ds, rfl, hc.2, hn, hc.1, rfl⟩)
   ·cases h
  ·cases h
  rename_i n
  simp only at h
  split at h
  ·rename_i ks ds hn
   split at h
   ·rename_i hc
    cases h
    exact .inr (.inr ⟨n, ks, ds, rfl, hc.2.1, hn, hc.1, hc.2.2, rfl⟩)
   ·cases h
  ·cases h
theorem kept_wf {S S2 : Sto} {k : Nat} (h : KeptS S S2 k) (hw : WfS S) (hk : S.length ≤ k) (h2 : k ≤ S2.length) : WfS (S2.take k) := fun i ds e => by
 have hl : (S2.take k).length = k := by rw [List.length_take]; omega
 rw [hl]
 have hi : i < k := by
  rcases Nat.lt_or_ge i k with z | z
  ·exact z
  ·rw [List.getElem?_eq_none (by rw [hl]; exact z)] at e; cases e
 rw [List.getElem?_take_of_lt hi] at e
 rcases h i ds hi e with z | z
 ·have q := hw i ds z
  exact belowL_le hk _ q
 ·exact z
where
 belowL_le {j k : Nat} (h : j ≤ k) : ∀ ds : List D, belowL j ds = true → belowL k ds = true
  | [], _ => rfl
  | d :: ds, b => by
   have b : below j d = true ∧ belowL j ds = true := by simpa [belowL] using b
   simp [belowL, below_le h d b.1, belowL_le h ds b.2]
 below_le {j k : Nat} (h : j ≤ k) : ∀ d : D, below j d = true → below k d = true
  | .non, _ => rfl
  | .bl _, _ => rfl
  | .int _, _ => rfl
  | .str _, _ => rfl
  | .tup ds, b => by simpa [below] using belowL_le h ds (by simpa [below] using b)
  | .lst ds, b => by simpa [below] using belowL_le h ds (by simpa [below] using b)
  | .rol ds, b => by simpa [below] using belowL_le h ds (by simpa [below] using b)
  | .dic _ ds, b => by simpa [below] using belowL_le h ds (by simpa [below] using b)
  | .tag _ ds, b => by simpa [below] using belowL_le h ds (by simpa [below] using b)
  | .dref n, b => by
   have b : n < j := by simpa [below] using b
   simp [below]; omega
  | .iref _ n, b => by
   have b : n < j := by simpa [below] using b
   simp [below]; omega
  | .ref n, b => by
   have b : n < j := by simpa [below] using b
   simp [below]; omega
theorem den_len {n N keep : Nat} {b : SX} : ∀ ds S r, den n N keep b ds S = some r → ds.length = n := fun ds S r h => by
 unfold den at h
 split at h
 ·assumption
 ·cases h
theorem den_real {n N keep : Nat} {b : SX} : ∀ ds S v S', WfS S → belowL S.length ds = true → den n N keep b ds S = some (v, S') → ∃ o, b (sE N ds) S = some o ∧ Fin o v S' ∧ WfS S' ∧ S.length ≤ S'.length := fun ds S v S' hw hb h => by
 unfold den at h
 split at h
 ·obtain ⟨o, ho, h⟩ := Option.bind_eq_some_iff.mp h
  refine ⟨o, ho, ?_⟩
  have fin : ∀ {S2 : Sto}, S.length + keep ≤ S2.length ∧ KeptS S S2 (S.length + keep) → (∃ t, S2.take (S.length + keep) ++ t = S2) ∧ WfS (S2.take (S.length + keep)) ∧ S.length ≤ (S2.take (S.length + keep)).length ∧ (S2.take (S.length + keep)).length = S.length + keep := fun {S2} z =>
   ⟨⟨S2.drop (S.length + keep), List.take_append_drop _ _⟩, kept_wf z.2 hw (Nat.le_add_right _ _) z.1, by rw [List.length_take]; omega, by rw [List.length_take]; omega⟩
  cases o with
  | rt d S2 =>
   simp only at h
   split at h
   ·rename_i z
    obtain ⟨v', h1, h2⟩ := Option.map_eq_some_iff.mp h
    simp only [Prod.mk.injEq] at h2
    obtain ⟨rfl, rfl⟩ := h2
    obtain ⟨f1, f2, f3, f4⟩ := fin z
    refine ⟨⟨f1, ?_⟩, f2, f3⟩
    rw [f4]
    exact handed_fz h1
   ·cases h
  | nx e S2 =>
   simp only at h
   split at h
   ·rename_i z
    cases h
    obtain ⟨f1, f2, f3, f4⟩ := fin z
    exact ⟨⟨f1, rfl⟩, f2, f3⟩
   ·cases h
  | bk e S2 => cases h
  | ct e S2 => cases h
 ·cases h
def EV (f : EX) (e : En) (S : Sto) (Q : D → Sto → Prop) : Prop := ∃ v S', f e S = some (v, S') ∧ Q v S'
def TV (f : TX) (e : En) (S : Sto) (Q : Bool → Sto → Prop) : Prop := ∃ v S', f e S = some (v, S') ∧ Q v S'
def AV (f : AX) (e : En) (S : Sto) (Q : List D → Sto → Prop) : Prop := ∃ v S', f e S = some (v, S') ∧ Q v S'
def OV (f : OX) (e : En) (S : Sto) (Q : Option Int → Sto → Prop) : Prop := ∃ v S', f e S = some (v, S') ∧ Q v S'
def GV (g : GX) (d : D) (e : En) (S : Sto) (Q : En → Sto → Prop) : Prop := ∃ e' S', g d e S = some (e', S') ∧ Q e' S'
def GsV (g : GXs) (d : List D) (e : En) (S : Sto) (Q : En → Sto → Prop) : Prop := ∃ e' S', g d e S = some (e', S') ∧ Q e' S'
def IV (f : IX) (e : En) (S : Sto) (Q : List D → List Nat → Sto → Prop) : Prop := ∃ ds gs S', f e S = some (ds, gs, S') ∧ Q ds gs S'
def SV (b : SX) (e : En) (S : Sto) (Q : Out → Prop) : Prop := ∃ o, b e S = some o ∧ Q o
def CV (c : Con) (ds : List D) (S : Sto) (Q : D → Sto → Prop) : Prop := ∃ v S', c ds S = some (v, S') ∧ Q v S'
def BV (x : Option D) (Q : D → Prop) : Prop := ∃ d, x = some d ∧ Q d
def LBV (x : Option (List D)) (Q : List D → Prop) : Prop := ∃ d, x = some d ∧ Q d
section
variable {e : En} {S : Sto} {Q : D → Sto → Prop} {QB : Bool → Sto → Prop} {QL : List D → Sto → Prop} {QO : Out → Prop} {QE : En → Sto → Prop} {QI : List D → List Nat → Sto → Prop}
theorem EV_var {i : Nat} : EV (eVar i) e S Q ↔ ∃ d, e[i]? = some (some d) ∧ Q d S := by
 constructor
 ·rintro ⟨v, S', h, q⟩
  obtain ⟨h1, rfl⟩ := eVar_inv h
  exact ⟨v, h1, q⟩
 ·rintro ⟨d, h, q⟩
  exact ⟨d, S, by unfold eVar; rw [h], q⟩
theorem EV_c {d : D} : EV (eC d) e S Q ↔ Q d S := ⟨fun ⟨v, S', h, q⟩ => by cases h; exact q, fun q => ⟨d, S, rfl, q⟩⟩
theorem EV_e2 {f : F2} {a b : EX} : EV (e2 f a b) e S Q ↔ EV a e S fun x S1 => EV b e S1 fun y S2 => BV (f S2 x y) fun d => Q d S2 := by
 constructor
 ·rintro ⟨v, S', h, q⟩
  obtain ⟨x, S1, y, h1, h2, h3⟩ := e2_inv h
  exact ⟨x, S1, h1, y, S', h2, v, h3, q⟩
 ·rintro ⟨x, S1, h1, y, S2, h2, d, h3, q⟩
  exact ⟨d, S2, by unfold e2; rw [h1]; show (b e S1).bind _ = _; rw [h2]; show (f S2 x y).map _ = _; rw [h3]; rfl, q⟩
theorem EV_e1 {f : F1} {a : EX} : EV (e1 f a) e S Q ↔ EV a e S fun x S1 => BV (f S1 x) fun d => Q d S1 := by
 constructor
 ·rintro ⟨v, S', h, q⟩
  obtain ⟨x, h1, h3⟩ := e1_inv h
  exact ⟨x, S', h1, v, h3, q⟩
 ·rintro ⟨x, S1, h1, d, h3, q⟩
  exact ⟨d, S1, by unfold e1; rw [h1]; show (f S1 x).map _ = _; rw [h3]; rfl, q⟩
theorem TV_of {f : EX} : TV (tOf f) e S QB ↔ EV f e S fun x S1 => ∃ b, x = .bl b ∧ QB b S1 := by
 constructor
 ·rintro ⟨v, S', h, q⟩
  exact ⟨.bl v, S', tOf_inv h, v, rfl, q⟩
 ·rintro ⟨x, S1, h1, b, rfl, q⟩
  exact ⟨b, S1, by unfold tOf; rw [h1]; rfl, q⟩
theorem TV_and {f g : TX} : TV (tAnd' f g) e S QB ↔ TV f e S fun b S1 => if b = true then TV g e S1 QB else QB false S1 := by
 unfold TV tAnd'
 constructor
 ·rintro ⟨v, S', h, q⟩
  obtain ⟨⟨b, S1⟩, h1, h2⟩ := Option.bind_eq_some_iff.mp h
  refine ⟨b, S1, h1, ?_⟩
  cases b with
  | true => exact ⟨v, S', h2, q⟩
  | false => cases h2; exact q
 ·rintro ⟨b, S1, h1, h2⟩
  rw [h1]
  cases b with
  | true => exact h2
  | false => exact ⟨false, S1, rfl, h2⟩
theorem TV_or {f g : TX} : TV (tOr' f g) e S QB ↔ TV f e S fun b S1 => if b = true then QB true S1 else TV g e S1 QB := by
 unfold TV tOr'
 constructor
 ·rintro ⟨v, S', h, q⟩
  obtain ⟨⟨b, S1⟩, h1, h2⟩ := Option.bind_eq_some_iff.mp h
  refine ⟨b, S1, h1, ?_⟩
  cases b with
  | false => exact ⟨v, S', h2, q⟩
  | true => cases h2; exact q
 ·rintro ⟨b, S1, h1, h2⟩
  rw [h1]
  cases b with
  | false => exact h2
  | true => exact ⟨true, S1, rfl, h2⟩
theorem TV_not {f : TX} : TV (tNot' f) e S QB ↔ TV f e S fun b S1 => QB (!b) S1 := by
 unfold TV tNot'
 constructor
 ·rintro ⟨v, S', h, q⟩
  obtain ⟨⟨b, S1⟩, h1, h2⟩ := Option.map_eq_some_iff.mp h
  cases h2
  exact ⟨b, _, h1, q⟩
 ·rintro ⟨b, S1, h1, q⟩
  exact ⟨!b, S1, by rw [h1]; rfl, q⟩
theorem TV_yes : TV tYes' e S QB ↔ QB true S := ⟨fun ⟨v, S', h, q⟩ => by cases h; exact q, fun q => ⟨true, S, rfl, q⟩⟩
theorem EV_and {f g : EX} : EV (eAnd f g) e S Q ↔ EV f e S fun x S1 => ∃ b, x = .bl b ∧ if b = true then EV g e S1 Q else Q (.bl false) S1 := by
 unfold EV eAnd
 constructor
 ·rintro ⟨v, S', h, q⟩
  obtain ⟨⟨x, S1⟩, h1, h2⟩ := Option.bind_eq_some_iff.mp h
  refine ⟨x, S1, h1, ?_⟩
  cases x <;> first | exact no2 h2 | skip
  rename_i b
  refine ⟨b, rfl, ?_⟩
  cases b with
  | true => exact ⟨v, S', h2, q⟩
  | false => cases h2; exact q
 ·rintro ⟨x, S1, h1, b, rfl, h2⟩
  rw [h1]
  cases b with
  | true => exact h2
  | false => exact ⟨_, S1, rfl, h2⟩
theorem EV_or {f g : EX} : EV (eOr f g) e S Q ↔ EV f e S fun x S1 => ∃ b, x = .bl b ∧ if b = true then Q (.bl true) S1 else EV g e S1 Q := by
 unfold EV eOr
 constructor
 ·rintro ⟨v, S', h, q⟩
  obtain ⟨⟨x, S1⟩, h1, h2⟩ := Option.bind_eq_some_iff.mp h
  refine ⟨x, S1, h1, ?_⟩
  cases x <;> first | exact no2 h2 | skip
  rename_i b
  refine ⟨b, rfl, ?_⟩
  cases b with
  | false => exact ⟨v, S', h2, q⟩
  | true => cases h2; exact q
 ·rintro ⟨x, S1, h1, b, rfl, h2⟩
  rw [h1]
  cases b with
  | false => exact h2
  | true => exact ⟨_, S1, rfl, h2⟩
theorem EV_if {t : TX} {f g : EX} : EV (eIf t f g) e S Q ↔ TV t e S fun b S1 => if b = true then EV f e S1 Q else EV g e S1 Q := by
 unfold EV TV eIf
 constructor
 ·rintro ⟨v, S', h, q⟩
  obtain ⟨⟨b, S1⟩, h1, h2⟩ := Option.bind_eq_some_iff.mp h
  refine ⟨b, S1, h1, ?_⟩
  cases b with
  | true => exact ⟨v, S', h2, q⟩
  | false => exact ⟨v, S', h2, q⟩
 ·rintro ⟨b, S1, h1, h2⟩
  rw [h1]
  cases b with
  | true => exact h2
  | false => exact h2
theorem AV_nil : AV aNil e S QL ↔ QL [] S := ⟨fun ⟨v, S', h, q⟩ => by cases h; exact q, fun q => ⟨[], S, rfl, q⟩⟩
theorem AV_cons {f : EX} {g : AX} : AV (aCons f g) e S QL ↔ EV f e S fun x S1 => AV g e S1 fun r S2 => QL (x :: r) S2 := by
 constructor
 ·rintro ⟨v, S', h, q⟩
  obtain ⟨x, S1, r, h1, h2, rfl⟩ := aCons_inv h
  exact ⟨x, S1, h1, r, S', h2, q⟩
 ·rintro ⟨x, S1, h1, r, S2, h2, q⟩
  exact ⟨x :: r, S2, by unfold aCons; rw [h1]; show (g e S1).map _ = _; rw [h2]; rfl, q⟩
theorem EV_tup {g : AX} : EV (eTup g) e S Q ↔ AV g e S fun ds S1 => szOk ds.length = true ∧ Q (.tup ds) S1 := by
 unfold EV AV eTup
 constructor
 ·rintro ⟨v, S', h, q⟩
  obtain ⟨⟨ds, S1⟩, h1, h2⟩ := Option.bind_eq_some_iff.mp h
  obtain ⟨hz, h3⟩ := ite_some h2
  cases h3
  exact ⟨ds, _, h1, hz, q⟩
 ·rintro ⟨ds, S1, h1, hz, q⟩
  exact ⟨.tup ds, S1, by rw [h1]; show (if szOk ds.length = true then _ else _) = _; rw [if_pos hz], q⟩
theorem AV_disp {g : AX} : AV (lDisp g) e S QL ↔ AV g e S fun ds S1 => szOk ds.length = true ∧ QL ds S1 := by
 unfold AV lDisp
 constructor
 ·rintro ⟨v, S', h, q⟩
  obtain ⟨⟨ds, S1⟩, h1, h2⟩ := Option.bind_eq_some_iff.mp h
  obtain ⟨hz, h3⟩ := ite_some h2
  cases h3
  exact ⟨_, _, h1, hz, q⟩
 ·rintro ⟨ds, S1, h1, hz, q⟩
  exact ⟨ds, S1, by rw [h1]; show (if szOk ds.length = true then _ else _) = _; rw [if_pos hz], q⟩
theorem EV_fz {f : LX} : EV (eFz f) e S Q ↔ AV f e S fun ds S1 => Q (.lst ds) S1 := by
 unfold EV AV eFz
 constructor
 ·rintro ⟨v, S', h, q⟩
  obtain ⟨⟨ds, S1⟩, h1, h2⟩ := Option.map_eq_some_iff.mp h
  cases h2
  exact ⟨ds, _, h1, q⟩
 ·rintro ⟨ds, S1, h1, q⟩
  exact ⟨.lst ds, S1, by rw [h1]; rfl, q⟩
theorem EV_bx {f : LX} : EV (eBx f) e S Q ↔ AV f e S fun ds S1 => Q (.ref S1.length) (S1 ++ [.lst ds]) := by
 unfold EV AV eBx
 constructor
 ·rintro ⟨v, S', h, q⟩
  obtain ⟨⟨ds, S1⟩, h1, h2⟩ := Option.map_eq_some_iff.mp h
  cases h2
  exact ⟨ds, _, h1, q⟩
 ·rintro ⟨ds, S1, h1, q⟩
  exact ⟨_, _, by rw [h1]; rfl, q⟩
theorem EV_cb {f : FN} {g : AX} : EV (eCB f g) e S Q ↔ AV g e S fun ds S1 => BV (f S1 ds) fun d => Q d S1 := by
 unfold EV AV eCB BV
 constructor
 ·rintro ⟨v, S', h, q⟩
  obtain ⟨⟨ds, S1⟩, h1, h2⟩ := Option.bind_eq_some_iff.mp h
  obtain ⟨d, h3, h4⟩ := Option.map_eq_some_iff.mp h2
  cases h4
  exact ⟨ds, _, h1, _, h3, q⟩
 ·rintro ⟨ds, S1, h1, d, h3, q⟩
  exact ⟨d, S1, by rw [h1]; show (f S1 ds).map _ = _; rw [h3]; rfl, q⟩
theorem AV_cb {f : FNL} {g : AX} : AV (lCB f g) e S QL ↔ AV g e S fun ds S1 => LBV (f S1 ds) fun d => QL d S1 := by
 unfold AV lCB LBV
 constructor
 ·rintro ⟨v, S', h, q⟩
  obtain ⟨⟨ds, S1⟩, h1, h2⟩ := Option.bind_eq_some_iff.mp h
  obtain ⟨d, h3, h4⟩ := Option.map_eq_some_iff.mp h2
  cases h4
  exact ⟨ds, _, h1, _, h3, q⟩
 ·rintro ⟨ds, S1, h1, d, h3, q⟩
  exact ⟨d, S1, by rw [h1]; show (f S1 ds).map _ = _; rw [h3]; rfl, q⟩
theorem AV_l2 {f : F2L} {a b : EX} : AV (l2 f a b) e S QL ↔ EV a e S fun x S1 => EV b e S1 fun y S2 => LBV (f S2 x y) fun d => QL d S2 := by
 unfold AV EV l2 LBV
 constructor
 ·rintro ⟨v, S', h, q⟩
  obtain ⟨⟨x, S1⟩, h1, h⟩ := Option.bind_eq_some_iff.mp h
  obtain ⟨⟨y, S2⟩, h2, h⟩ := Option.bind_eq_some_iff.mp h
  obtain ⟨d, h3, h⟩ := Option.map_eq_some_iff.mp h
  cases h
  exact ⟨x, S1, h1, y, _, h2, _, h3, q⟩
 ·rintro ⟨x, S1, h1, y, S2, h2, d, h3, q⟩
  exact ⟨d, S2, by rw [h1]; show (b e S1).bind _ = _; rw [h2]; show (f S2 x y).map _ = _; rw [h3]; rfl, q⟩
theorem OV_no {QP : Option Int → Sto → Prop} : OV oNo e S QP ↔ QP none S := ⟨fun ⟨v, S', h, q⟩ => by cases h; exact q, fun q => ⟨none, S, rfl, q⟩⟩
theorem OV_some {f : EX} {QP : Option Int → Sto → Prop} : OV (oSome f) e S QP ↔ EV f e S fun x S1 => ∃ i, x = .int i ∧ QP (some i) S1 := by
 unfold OV EV oSome
 constructor
 ·rintro ⟨v, S', h, q⟩
  obtain ⟨⟨x, S1⟩, h1, h2⟩ := Option.bind_eq_some_iff.mp h
  cases x <;> first | exact no2 h2 | skip
  cases h2
  exact ⟨_, _, h1, _, rfl, q⟩
 ·rintro ⟨x, S1, h1, i, rfl, q⟩
  exact ⟨some i, S1, by rw [h1]; rfl, q⟩
theorem EV_sl {f : FS} {a : EX} {lo hi : OX} : EV (eSl f a lo hi) e S Q ↔ EV a e S fun x S1 => OV lo e S1 fun l S2 => OV hi e S2 fun u S3 => BV (f S3 x l u) fun d => Q d S3 := by
 unfold EV OV eSl BV
 constructor
 ·rintro ⟨v, S', h, q⟩
  obtain ⟨⟨x, S1⟩, h1, h⟩ := Option.bind_eq_some_iff.mp h
  obtain ⟨⟨y, S2⟩, h2, h⟩ := Option.bind_eq_some_iff.mp h
  obtain ⟨⟨z, S3⟩, h3, h⟩ := Option.bind_eq_some_iff.mp h
  obtain ⟨d, h4, h⟩ := Option.map_eq_some_iff.mp h
  cases h
  exact ⟨x, S1, h1, y, S2, h2, z, _, h3, _, h4, q⟩
 ·rintro ⟨x, S1, h1, y, S2, h2, z, S3, h3, d, h4, q⟩
  exact ⟨d, S3, by rw [h1]; show (lo e S1).bind _ = _; rw [h2]; show (hi e S2).bind _ = _; rw [h3]; show (f S3 x y z).map _ = _; rw [h4]; rfl, q⟩
theorem AV_sl {f : FSL} {a : EX} {lo hi : OX} : AV (lSl f a lo hi) e S QL ↔ EV a e S fun x S1 => OV lo e S1 fun l S2 => OV hi e S2 fun u S3 => LBV (f S3 x l u) fun d => QL d S3 := by
 unfold AV EV OV lSl LBV
 constructor
 ·rintro ⟨v, S', h, q⟩
  obtain ⟨⟨x, S1⟩, h1, h⟩ := Option.bind_eq_some_iff.mp h
  obtain ⟨⟨y, S2⟩, h2, h⟩ := Option.bind_eq_some_iff.mp h
  obtain ⟨⟨z, S3⟩, h3, h⟩ := Option.bind_eq_some_iff.mp h
  obtain ⟨d, h4, h⟩ := Option.map_eq_some_iff.mp h
  cases h
  exact ⟨x, S1, h1, y, S2, h2, z, _, h3, _, h4, q⟩
 ·rintro ⟨x, S1, h1, y, S2, h2, z, S3, h3, d, h4, q⟩
  exact ⟨d, S3, by rw [h1]; show (lo e S1).bind _ = _; rw [h2]; show (hi e S2).bind _ = _; rw [h3]; show (f S3 x y z).map _ = _; rw [h4]; rfl, q⟩
theorem EV_call {c : Con} {g : AX} : EV (eCall c g) e S Q ↔ AV g e S fun ds S1 => CV c ds S1 Q := by
 unfold EV AV eCall CV
 constructor
 ·rintro ⟨v, S', h, q⟩
  obtain ⟨⟨ds, S1⟩, h1, h2⟩ := Option.bind_eq_some_iff.mp h
  exact ⟨ds, S1, h1, v, S', h2, q⟩
 ·rintro ⟨ds, S1, h1, v, S', h2, q⟩
  exact ⟨v, S', by rw [h1]; exact h2, q⟩
theorem EV_callK {c : Con} {p : List D → List D} {g : AX} : EV (eCallK c p g) e S Q ↔ AV g e S fun ds S1 => CV c (p ds) S1 Q := by
 unfold EV AV eCallK CV
 constructor
 ·rintro ⟨v, S', h, q⟩
  obtain ⟨⟨ds, S1⟩, h1, h2⟩ := Option.bind_eq_some_iff.mp h
  exact ⟨ds, S1, h1, v, S', h2, q⟩
 ·rintro ⟨ds, S1, h1, v, S', h2, q⟩
  exact ⟨v, S', by rw [h1]; exact h2, q⟩
theorem EV_mt {h : FM} {fo : EX} {ga : AX} : EV (eMt h fo ga) e S Q ↔ EV fo e S fun x S1 => AV ga e S1 fun args S2 => ∃ n ds v ds', x = .ref n ∧ boxAt S2 n = some ds ∧ h S2 ds args = some (v, ds') ∧ Q v (S2.set n (.lst ds')) := by
 constructor
 ·rintro ⟨v, S', hh, q⟩
  obtain ⟨n, S1, args, S2, ds, ds', h1, h2, h3, h4, rfl⟩ := eMt_inv hh
  exact ⟨_, S1, h1, args, S2, h2, n, ds, v, ds', rfl, h3, h4, q⟩
 ·rintro ⟨x, S1, h1, args, S2, h2, n, ds, v, ds', rfl, h3, h4, q⟩
  exact ⟨v, _, by unfold eMt; rw [h1]; show (ga e S1).bind _ = _; rw [h2]; show (boxAt S2 n).bind _ = _; rw [h3]; show (h S2 ds args).map _ = _; rw [h4]; rfl, q⟩
theorem EV_chain {f g : F2} {a b c : EX} : EV (eChain f g a b c) e S Q ↔ EV a e S fun x S1 => EV b e S1 fun y S2 => BV (f S2 x y) fun t => ∃ k, t = .bl k ∧ if k = true then EV c e S2 fun z S3 => BV (g S3 y z) fun d => Q d S3 else Q (.bl false) S2 := by
 unfold EV eChain BV
 constructor
 ·rintro ⟨v, S', h, q⟩
  obtain ⟨⟨x, S1⟩, h1, h⟩ := Option.bind_eq_some_iff.mp h
  obtain ⟨⟨y, S2⟩, h2, h⟩ := Option.bind_eq_some_iff.mp h
  obtain ⟨t, h3, h⟩ := Option.bind_eq_some_iff.mp h
  refine ⟨x, S1, h1, y, S2, h2, t, h3, ?_⟩
  cases t <;> first | exact no2 h | skip
  rename_i k
  refine ⟨k, rfl, ?_⟩
  cases k with
  | true =>
   obtain ⟨⟨z, S3⟩, h4, h⟩ := Option.bind_eq_some_iff.mp (show (c e S2).bind _ = _ from h)
   obtain ⟨d, h5, h⟩ := Option.map_eq_some_iff.mp h
   cases h
   exact ⟨z, _, h4, _, h5, q⟩
  | false => cases h; exact q
 ·rintro ⟨x, S1, h1, y, S2, h2, t, h3, k, rfl, h⟩
  rw [h1]
  show ∃ v S', (b e S1).bind _ = _ ∧ _
  rw [h2]
  show ∃ v S', (f S2 x y).bind _ = _ ∧ _
  rw [h3]
  cases k with
  | true =>
   obtain ⟨z, S3, h4, d, h5, q⟩ := h
   exact ⟨d, S3, by show (c e S2).bind _ = _; rw [h4]; show (g S3 y z).map _ = _; rw [h5]; rfl, q⟩
  | false => exact ⟨_, S2, rfl, h⟩
theorem GV_n {i : Nat} {d : D} : GV (gN i) d e S QE ↔ QE (e.set i (some d)) S := ⟨fun ⟨v, S', h, q⟩ => by cases h; exact q, fun q => ⟨_, S, rfl, q⟩⟩
theorem GV_t {n : Nat} {gs : GXs} {d : D} : GV (gT n gs) d e S QE ↔ ∃ ds, d = .tup ds ∧ ds.length = n ∧ GsV gs ds e S QE := by
 unfold GV GsV gT
 constructor
 ·rintro ⟨v, S', h, q⟩
  cases d <;> first | exact no2 h | skip
  simp only at h
  split at h
  ·exact ⟨_, rfl, by assumption, v, S', h, q⟩
  ·cases h
 ·rintro ⟨ds, rfl, hl, v, S', h, q⟩
  exact ⟨v, S', by simp only; rw [if_pos hl]; exact h, q⟩
theorem GsV_nil {ds : List D} : GsV gsNil ds e S QE ↔ ds = [] ∧ QE e S := by
 unfold GsV gsNil
 constructor
 ·rintro ⟨v, S', h, q⟩
  cases ds with
  | nil => cases h; exact ⟨rfl, q⟩
  | cons d ds => cases h
 ·rintro ⟨rfl, q⟩
  exact ⟨e, S, rfl, q⟩
theorem GsV_cons {g : GX} {gs : GXs} {ds : List D} : GsV (gsCons g gs) ds e S QE ↔ ∃ d r, ds = d :: r ∧ GV g d e S fun e1 S1 => GsV gs r e1 S1 QE := by
 unfold GsV GV gsCons
 constructor
 ·rintro ⟨v, S', h, q⟩
  cases ds with
  | nil => cases h
  | cons d ds =>
   obtain ⟨⟨e1, S1⟩, h1, h2⟩ := Option.bind_eq_some_iff.mp (show (g d e S).bind _ = _ from h)
   exact ⟨d, ds, rfl, e1, S1, h1, v, S', h2, q⟩
 ·rintro ⟨d, r, rfl, e1, S1, h1, v, S', h2, q⟩
  exact ⟨v, S', by show (g d e S).bind _ = _; rw [h1]; exact h2, q⟩
theorem GV_s {fo fi : EX} {d : D} : GV (gS fo fi) d e S QE ↔ EV fo e S fun x S1 => EV fi e S1 fun y S2 => ∃ n k ds j, x = .ref n ∧ y = .int k ∧ boxAt S2 n = some ds ∧ ixN ds.length k = some j ∧ QE e (S2.set n (.lst (ds.set j d))) := by
 unfold GV EV gS
 constructor
 ·rintro ⟨v, S', h, q⟩
  obtain ⟨⟨x, S1⟩, h1, h⟩ := Option.bind_eq_some_iff.mp h
  obtain ⟨⟨y, S2⟩, h2, h⟩ := Option.bind_eq_some_iff.mp h
  refine ⟨x, S1, h1, y, S2, h2, ?_⟩
  cases x <;> cases y <;> first | exact no2 h | skip
  obtain ⟨ds, h3, h⟩ := Option.bind_eq_some_iff.mp (show (boxAt S2 _).bind _ = _ from h)
  obtain ⟨j, h4, h⟩ := Option.map_eq_some_iff.mp h
  cases h
  exact ⟨_, _, ds, j, rfl, rfl, h3, h4, q⟩
 ·rintro ⟨x, S1, h1, y, S2, h2, n, k, ds, j, rfl, rfl, h3, h4, q⟩
  exact ⟨e, _, by rw [h1]; show (fi e S1).bind _ = _; rw [h2]; show (boxAt S2 n).bind _ = _; rw [h3]; show (ixN ds.length k).map _ = _; rw [h4]; rfl, q⟩
def then_ (Q : Out → Prop) (k : En → Sto → Prop) : Out → Prop
 | .nx e S => k e S
 | .rt d S => Q (.rt d S)
 | .bk e S => Q (.bk e S)
 | .ct e S => Q (.ct e S)
theorem SV_seq {f g : SX} : SV (sSeq f g) e S QO ↔ SV f e S (then_ QO fun e1 S1 => SV g e1 S1 QO) := by
 unfold SV sSeq
 constructor
 ·rintro ⟨o, h, q⟩
  obtain ⟨o1, h1, h2⟩ := Option.bind_eq_some_iff.mp h
  refine ⟨o1, h1, ?_⟩
  cases o1 with
  | nx e1 S1 => exact ⟨o, h2, q⟩
  | _ => cases h2; exact q
 ·rintro ⟨o1, h1, h2⟩
  rw [h1]
  cases o1 with
  | nx e1 S1 => exact h2
  | _ => exact ⟨_, rfl, h2⟩
theorem SV_nil : SV sNil e S QO ↔ QO (.nx e S) := ⟨fun ⟨v, h, q⟩ => by cases h; exact q, fun q => ⟨_, rfl, q⟩⟩
theorem SV_break : SV sBreak e S QO ↔ QO (.bk e S) := ⟨fun ⟨v, h, q⟩ => by cases h; exact q, fun q => ⟨_, rfl, q⟩⟩
theorem SV_expr {f : EX} : SV (sExpr f) e S QO ↔ EV f e S fun _ S1 => QO (.nx e S1) := by
 unfold SV EV sExpr
 constructor
 ·rintro ⟨o, h, q⟩
  obtain ⟨⟨x, S1⟩, h1, h2⟩ := Option.map_eq_some_iff.mp h
  cases h2
  exact ⟨x, S1, h1, q⟩
 ·rintro ⟨x, S1, h1, q⟩
  exact ⟨_, by rw [h1]; rfl, q⟩
theorem SV_ret {f : EX} : SV (sRet f) e S QO ↔ EV f e S fun x S1 => QO (.rt x S1) := by
 unfold SV EV sRet
 constructor
 ·rintro ⟨o, h, q⟩
  obtain ⟨⟨x, S1⟩, h1, h2⟩ := Option.map_eq_some_iff.mp h
  cases h2
  exact ⟨x, S1, h1, q⟩
 ·rintro ⟨x, S1, h1, q⟩
  exact ⟨_, by rw [h1]; rfl, q⟩
theorem SV_if {t : TX} {f g : SX} : SV (sIf t f g) e S QO ↔ TV t e S fun b S1 => if b = true then SV f e S1 QO else SV g e S1 QO := by
 unfold SV TV sIf
 constructor
 ·rintro ⟨o, h, q⟩
  obtain ⟨⟨b, S1⟩, h1, h2⟩ := Option.bind_eq_some_iff.mp h
  refine ⟨b, S1, h1, ?_⟩
  cases b <;> exact ⟨o, h2, q⟩
 ·rintro ⟨b, S1, h1, h2⟩
  rw [h1]
  cases b <;> exact h2
theorem SV_asg {f : EX} {g : GX} : SV (sAsg f g) e S QO ↔ EV f e S fun x S1 => GV g x e S1 fun e1 S2 => QO (.nx e1 S2) := by
 unfold SV EV GV sAsg
 constructor
 ·rintro ⟨o, h, q⟩
  obtain ⟨⟨x, S1⟩, h1, h⟩ := Option.bind_eq_some_iff.mp h
  obtain ⟨⟨e1, S2⟩, h2, h⟩ := Option.map_eq_some_iff.mp h
  cases h
  exact ⟨x, S1, h1, e1, S2, h2, q⟩
 ·rintro ⟨x, S1, h1, e1, S2, h2, q⟩
  exact ⟨_, by rw [h1]; show (g x e S1).map _ = _; rw [h2]; rfl, q⟩
theorem SV_par {i j : Nat} {g : AX} : SV (sPar i j g) e S QO ↔ AV g e S fun ds S1 => ∃ u v, ds = [u, v] ∧ QO (.nx ((e.set i (some u)).set j (some v)) S1) := by
 unfold SV AV sPar
 constructor
 ·rintro ⟨o, h, q⟩
  obtain ⟨⟨ds, S1⟩, h1, h⟩ := Option.bind_eq_some_iff.mp h
  match ds, h with
  | [u, v], h => cases h; exact ⟨_, S1, h1, u, v, rfl, q⟩
 ·rintro ⟨ds, S1, h1, u, v, rfl, q⟩
  exact ⟨_, by rw [h1]; rfl, q⟩
theorem SV_par3 {i j l : Nat} {g : AX} : SV (sPar3 i j l g) e S QO ↔ AV g e S fun ds S1 => ∃ u v w, ds = [u, v, w] ∧ QO (.nx (((e.set i (some u)).set j (some v)).set l (some w)) S1) := by
 unfold SV AV sPar3
 constructor
 ·rintro ⟨o, h, q⟩
  obtain ⟨⟨ds, S1⟩, h1, h⟩ := Option.bind_eq_some_iff.mp h
  match ds, h with
  | [u, v, w], h => cases h; exact ⟨_, S1, h1, u, v, w, rfl, q⟩
 ·rintro ⟨ds, S1, h1, u, v, w, rfl, q⟩
  exact ⟨_, by rw [h1]; rfl, q⟩
theorem SV_aug {i : Nat} {f : F2} {g : EX} : SV (sAug i f g) e S QO ↔ ∃ x, e[i]? = some (some x) ∧ EV g e S fun y S1 => BV (f S1 x y) fun d => QO (.nx (e.set i (some d)) S1) := by
 unfold SV EV sAug BV
 constructor
 ·rintro ⟨o, h, q⟩
  split at h
  ·rename_i x hx
   obtain ⟨⟨y, S1⟩, h1, h⟩ := Option.bind_eq_some_iff.mp h
   obtain ⟨d, h2, h⟩ := Option.map_eq_some_iff.mp h
   cases h
   exact ⟨x, hx, y, S1, h1, d, h2, q⟩
  ·cases h
 ·rintro ⟨x, hx, y, S1, h1, d, h2, q⟩
  exact ⟨_, by rw [hx]; show (g e S).bind _ = _; rw [h1]; show (f S1 x y).map _ = _; rw [h2]; rfl, q⟩
theorem SV_asgL {bx : Bool} {f : LX} {i : Nat} : SV (sAsgL bx f i) e S QO ↔ SV (sAsg (if bx = true then eBx f else eFz f) (gN i)) e S QO := Iff.rfl
theorem SV_for {it : IX} {g : GX} {b : SX} : SV (sFor it g b) e S QO ↔ IV it e S fun ds gs S1 => SV (forL g b gs S1 ds) e S1 QO := by
 unfold SV IV sFor
 constructor
 ·rintro ⟨o, h, q⟩
  obtain ⟨⟨ds, gs, S1⟩, h1, h2⟩ := Option.bind_eq_some_iff.mp h
  exact ⟨ds, gs, S1, h1, o, h2, q⟩
 ·rintro ⟨ds, gs, S1, h1, o, h2, q⟩
  exact ⟨o, by rw [h1]; exact h2, q⟩
theorem SV_for_nil {g : GX} {b : SX} {gs : List Nat} {S0 : Sto} : SV (forL g b gs S0 []) e S QO ↔ QO (.nx e S) := ⟨fun ⟨v, h, q⟩ => by cases h; exact q, fun q => ⟨_, rfl, q⟩⟩
def turn_ (Q : Out → Prop) (gs : List Nat) (S0 : Sto) (k : En → Sto → Prop) : Out → Prop
 | .nx e S => (∀ n, n ∈ gs → S[n]? = S0[n]?) ∧ k e S
 | .ct e S => (∀ n, n ∈ gs → S[n]? = S0[n]?) ∧ k e S
 | .bk e S => Q (.nx e S)
 | .rt d S => Q (.rt d S)
open Classical in
theorem SV_for_cons {g : GX} {b : SX} {gs : List Nat} {S0 : Sto} {d : D} {ds : List D} : SV (forL g b gs S0 (d :: ds)) e S QO ↔ GV g d e S fun e1 S1 => SV b e1 S1 (turn_ QO gs S0 fun e2 S2 => SV (forL g b gs S0 ds) e2 S2 QO) := by
 unfold SV GV
 constructor
 ·rintro ⟨o, h, q⟩
  obtain ⟨⟨e1, S1⟩, h1, h⟩ := Option.bind_eq_some_iff.mp (show (g d e S).bind _ = _ from h)
  obtain ⟨o1, h2, h⟩ := Option.bind_eq_some_iff.mp h
  refine ⟨e1, S1, h1, o1, h2, ?_⟩
  cases o1 with
  | nx e2 S2 => simp only at h; split at h; (rename_i hg; exact ⟨hg, o, h, q⟩); cases h
  | ct e2 S2 => simp only at h; split at h; (rename_i hg; exact ⟨hg, o, h, q⟩); cases h
  | bk e2 S2 => cases h; exact q
  | rt d2 S2 => cases h; exact q
 ·rintro ⟨e1, S1, h1, o1, h2, h⟩
  show ∃ o, (g d e S).bind _ = _ ∧ _
  rw [h1]
  show ∃ o, (b e1 S1).bind _ = _ ∧ _
  rw [h2]
  cases o1 with
  | nx e2 S2 =>
   obtain ⟨hg, o, h, q⟩ := h
   exact ⟨o, (if_pos hg).trans h, q⟩
  | ct e2 S2 =>
   obtain ⟨hg, o, h, q⟩ := h
   exact ⟨o, (if_pos hg).trans h, q⟩
  | bk e2 S2 => exact ⟨_, rfl, h⟩
  | rt d2 S2 => exact ⟨_, rfl, h⟩
theorem SV_while {t : TX} {b : SX} (I : Nat → En → Sto → Prop) (n : Nat) (h0 : I n e S)
  (step : ∀ n e S, I n e S → TV t e S fun c S1 => if c = true then SV b e S1 (turn_ QO [] [] fun e2 S2 => ∃ k, k < n ∧ I k e2 S2) else QO (.nx e S1)) : SV (sWhile t b) e S QO := by
 have key : ∀ n e S, I n e S → ∃ o, whileN t b (n + 1) e S = some o ∧ QO o := by
  intro n
  induction n using Nat.strongRecOn with
  | _ n ih =>
   intro e S hI
   obtain ⟨c, S1, h1, h2⟩ := step n e S hI
   show ∃ o, (t e S).bind _ = _ ∧ _
   rw [h1]
   show ∃ o, (if c = true then _ else _) = _ ∧ _
   cases c with
   | false => exact ⟨_, rfl, h2⟩
   | true =>
    rw [if_pos rfl]
    obtain ⟨o1, h3, h4⟩ := (show SV b e S1 _ from h2)
    rw [h3]
    cases o1 with
    | nx e2 S2 =>
     obtain ⟨_, k, hk, hI2⟩ := h4
     obtain ⟨o, h5, q⟩ := ih k hk e2 S2 hI2
     exact ⟨o, whileN_le h5 (by omega), q⟩
    | ct e2 S2 =>
     obtain ⟨_, k, hk, hI2⟩ := h4
     obtain ⟨o, h5, q⟩ := ih k hk e2 S2 hI2
     exact ⟨o, whileN_le h5 (by omega), q⟩
    | bk e2 S2 => exact ⟨_, rfl, h4⟩
    | rt d2 S2 => exact ⟨_, rfl, h4⟩
 obtain ⟨o, h, q⟩ := key n e S h0
 exact ⟨o, sWhile_of h, q⟩
theorem IV_seq {f : EX} : IV (iSeq f) e S QI ↔ EV f e S fun d S1 => ∃ ds, seqOf S1 d = some ds ∧ QI ds (gsOf d) S1 := by
 unfold IV
 constructor
 ·rintro ⟨ds, gs, S', h, q⟩
  obtain ⟨d, h1, hd⟩ := iSeq_inv h
  refine ⟨d, S', h1, ds, ?_⟩
  rcases hd with ⟨rfl, rfl⟩ | ⟨h2, rfl⟩
  ·exact ⟨rfl, q⟩
  ·refine ⟨?_, q⟩
   cases d <;> first | exact no2 h2 | exact h2
 ·rintro ⟨d, S1, h1, ds, h2, q⟩
  refine ⟨ds, gsOf d, S1, ?_, q⟩
  unfold iSeq
  rw [h1]
  cases d <;> first | exact no2 h2 | skip
  ·cases h2; rfl
  ·cases h2; rfl
  ·cases h2; rfl
  ·show (boxAt S1 _).map _ = _
   rw [show boxAt S1 _ = some ds from h2]
   rfl
theorem IV_rg1 {f : EX} : IV (iRg1 f) e S QI ↔ EV f e S fun d S1 => ∃ j, d = .int j ∧ rgOk j = true ∧ QI (rgD 0 j) [] S1 := by
 unfold IV EV iRg1
 constructor
 ·rintro ⟨ds, gs, S', h, q⟩
  obtain ⟨⟨d, S1⟩, h1, h⟩ := Option.bind_eq_some_iff.mp h
  cases d <;> first | exact no2 h | skip
  obtain ⟨hz, h⟩ := ite_some h
  cases h
  exact ⟨_, S1, h1, _, rfl, hz, q⟩
 ·rintro ⟨d, S1, h1, j, rfl, hz, q⟩
  exact ⟨_, _, _, by rw [h1]; show (if rgOk j = true then _ else _) = _; rw [if_pos hz], q⟩
theorem IV_rg2 {f g : EX} : IV (iRg2 f g) e S QI ↔ EV f e S fun d S1 => EV g e S1 fun d2 S2 => ∃ i j, d = .int i ∧ d2 = .int j ∧ (rgOk i && rgOk j) = true ∧ QI (rgD i j) [] S2 := by
 unfold IV EV iRg2
 constructor
 ·rintro ⟨ds, gs, S', h, q⟩
  obtain ⟨⟨d, S1⟩, h1, h⟩ := Option.bind_eq_some_iff.mp h
  obtain ⟨⟨d2, S2⟩, h2, h⟩ := Option.bind_eq_some_iff.mp h
  cases d <;> cases d2 <;> first | exact no2 h | skip
  obtain ⟨hz, h⟩ := ite_some h
  cases h
  exact ⟨_, S1, h1, _, S2, h2, _, _, rfl, rfl, hz, q⟩
 ·rintro ⟨d, S1, h1, d2, S2, h2, i, j, rfl, rfl, hz, q⟩
  exact ⟨_, _, _, by rw [h1]; show (g e S1).bind _ = _; rw [h2]; show (if (rgOk i && rgOk j) = true then _ else _) = _; rw [if_pos hz], q⟩
theorem IV_enum {f : EX} : IV (iEnum' f) e S QI ↔ EV f e S fun d S1 => ∃ ds, seqOf S1 d = some ds ∧ QI (enumD ds) (gsOf d) S1 := by
 unfold IV
 constructor
 ·rintro ⟨es, gs, S', h, q⟩
  obtain ⟨d, ds, h1, rfl, hd⟩ := iEnum_inv h
  refine ⟨d, S', h1, ds, ?_⟩
  rcases hd with ⟨rfl, rfl⟩ | ⟨h2, rfl⟩
  ·exact ⟨rfl, q⟩
  ·refine ⟨?_, q⟩
   cases d <;> first | exact no2 h2 | exact h2
 ·rintro ⟨d, S1, h1, ds, h2, q⟩
  refine ⟨enumD ds, gsOf d, S1, ?_, q⟩
  unfold iEnum'
  rw [h1]
  cases d <;> first | exact no2 h2 | skip
  ·cases h2; rfl
  ·cases h2; rfl
  ·cases h2; rfl
  ·show (boxAt S1 _).map _ = _
   rw [show boxAt S1 _ = some ds from h2]
   rfl
theorem AV_lc {it : IX} {g : GX} {tt : TX} {te : EX} {vs : List Nat} : AV (lLc it g tt te vs) e S QL ↔ IV it e S fun ds gs S1 => ∃ out S2, lcL g tt te gs S1 (wipeE e vs) ds S1 = some (out, S2) ∧ szOk out.length = true ∧ QL out S2 := by
 unfold AV IV lLc
 constructor
 ·rintro ⟨v, S', h, q⟩
  obtain ⟨⟨ds, gs, S1⟩, h1, h⟩ := Option.bind_eq_some_iff.mp h
  obtain ⟨⟨out, S2⟩, h2, h⟩ := Option.bind_eq_some_iff.mp h
  obtain ⟨hz, h⟩ := ite_some h
  cases h
  exact ⟨ds, gs, S1, h1, _, _, h2, hz, q⟩
 ·rintro ⟨ds, gs, S1, h1, out, S2, h2, hz, q⟩
  exact ⟨out, S2, by rw [h1]; show (lcL g tt te gs S1 (wipeE e vs) ds S1).bind _ = _; rw [h2]; show (if szOk out.length = true then _ else _) = _; rw [if_pos hz], q⟩
def LV (g : GX) (tt : TX) (te : EX) (gs : List Nat) (S0 : Sto) (e0 : En) (ds : List D) (S : Sto) (Q : List D → Sto → Prop) : Prop := ∃ out S2, lcL g tt te gs S0 e0 ds S = some (out, S2) ∧ Q out S2
theorem LV_nil {g : GX} {tt : TX} {te : EX} {gs : List Nat} {S0 : Sto} {e0 : En} : LV g tt te gs S0 e0 [] S QL ↔ QL [] S := ⟨fun ⟨v, S', h, q⟩ => by cases h; exact q, fun q => ⟨[], S, rfl, q⟩⟩
open Classical in
theorem LV_cons {g : GX} {tt : TX} {te : EX} {gs : List Nat} {S0 : Sto} {e0 : En} {d : D} {ds : List D} : LV g tt te gs S0 e0 (d :: ds) S QL ↔ GV g d e0 S fun e1 S1 => TV tt e1 S1 fun b S2 => if b = true then EV te e1 S2 fun y S3 => (∀ n, n ∈ gs → S3[n]? = S0[n]?) ∧ LV g tt te gs S0 e0 ds S3 fun r S4 => QL (y :: r) S4
  else (∀ n, n ∈ gs → S2[n]? = S0[n]?) ∧ LV g tt te gs S0 e0 ds S2 QL := by
 unfold LV GV TV EV
 constructor
 ·rintro ⟨out, S', h, q⟩
  obtain ⟨⟨e1, S1⟩, h1, h⟩ := Option.bind_eq_some_iff.mp (show (g d e0 S).bind _ = _ from h)
  obtain ⟨⟨b, S2⟩, h2, h⟩ := Option.bind_eq_some_iff.mp h
  refine ⟨e1, S1, h1, b, S2, h2, ?_⟩
  cases b with
  | true =>
   obtain ⟨⟨y, S3⟩, h3, h⟩ := Option.bind_eq_some_iff.mp (show (te e1 S2).bind _ = _ from h)
   simp only at h
   split at h
   ·rename_i hg
    obtain ⟨⟨r, S4⟩, h4, h⟩ := Option.map_eq_some_iff.mp h
    cases h
    exact ⟨y, S3, h3, hg, r, _, h4, q⟩
   ·cases h
  | false =>
   have h : (if (∀ n, n ∈ gs → S2[n]? = S0[n]?) then _ else _) = some (out, S') := h
   split at h
   ·rename_i hg
    exact ⟨hg, out, S', h, q⟩
   ·cases h
 ·rintro ⟨e1, S1, h1, b, S2, h2, h⟩
  show ∃ out S', (g d e0 S).bind _ = _ ∧ _
  rw [h1]
  show ∃ out S', (tt e1 S1).bind _ = _ ∧ _
  rw [h2]
  cases b with
  | true =>
   obtain ⟨y, S3, h3, hg, r, S4, h4, q⟩ := h
   exact ⟨_, _, by show (te e1 S2).bind _ = _; rw [h3]; show (if _ then _ else _) = _; rw [if_pos hg]; show (lcL g tt te gs S0 e0 ds S3).map _ = _; rw [h4]; rfl, q⟩
  | false =>
   obtain ⟨hg, out, S', h, q⟩ := h
   exact ⟨out, S', by show (if _ then _ else _) = _; rw [if_pos hg]; exact h, q⟩
end
theorem SV.imp {f : SX} {e : En} {S : Sto} {Q R : Out → Prop} (h : SV f e S Q) (k : ∀ o, Q o → R o) : SV f e S R := by obtain ⟨v, h1, q⟩ := h; exact ⟨v, h1, k _ q⟩
theorem LV.imp {g : GX} {tt : TX} {te : EX} {gs : List Nat} {S0 : Sto} {e0 : En} {ds : List D} {S : Sto} {Q R : List D → Sto → Prop} (h : LV g tt te gs S0 e0 ds S Q) (k : ∀ d S1, Q d S1 → R d S1) : LV g tt te gs S0 e0 ds S R := by obtain ⟨v, S', h1, q⟩ := h; exact ⟨v, S', h1, k _ _ q⟩
def Rt (S : Sto) (keep : Nat) (Q : D → Sto → Prop) : Out → Prop
 | .rt d S2 => S.length + keep ≤ S2.length ∧ KeptS S S2 (S.length + keep) ∧ BV (handed S2 (S.length + keep) d) fun v => Q v (S2.take (S.length + keep))
 | .nx _ S2 => S.length + keep ≤ S2.length ∧ KeptS S S2 (S.length + keep) ∧ Q .non (S2.take (S.length + keep))
 | _ => False
open Classical in
theorem CV_den {n N keep : Nat} {b : SX} {ds : List D} {S : Sto} {Q : D → Sto → Prop} (hn : ds.length = n) (h : SV b (sE N ds) S (Rt S keep Q)) : CV (den n N keep b) ds S Q := by
 obtain ⟨o, h1, q⟩ := h
 unfold CV den
 rw [if_pos hn, h1]
 cases o with
 | rt d S2 =>
  obtain ⟨z1, z2, v, z3, z4⟩ := q
  refine ⟨v, _, ?_, z4⟩
  show (if _ then _ else _) = _
  rw [if_pos ⟨z1, z2⟩, z3]
  rfl
 | nx e S2 =>
  obtain ⟨z1, z2, z3⟩ := q
  refine ⟨.non, _, ?_, z3⟩
  show (if _ then _ else _) = _
  rw [if_pos ⟨z1, z2⟩]
 | bk e S2 => exact q.elim
 | ct e S2 => exact q.elim
section
variable {S : Sto} {Q : D → Prop} {R : D → Sto → Prop} {QL : List D → Prop}
theorem BV_some {d : D} : BV (some d) Q ↔ Q d := ⟨fun ⟨_, e, q⟩ => by cases e; exact q, fun q => ⟨d, rfl, q⟩⟩
theorem BV_ite {c : Prop} [Decidable c] {x : Option D} : BV (if c then x else none) Q ↔ c ∧ BV x Q := by
 constructor
 ·rintro ⟨d, e, q⟩
  split at e
  ·exact ⟨by assumption, d, e, q⟩
  ·cases e
 ·rintro ⟨h, d, e, q⟩
  exact ⟨d, by rw [if_pos h]; exact e, q⟩
theorem LBV_some {d : List D} : LBV (some d) QL ↔ QL d := ⟨fun ⟨_, e, q⟩ => by cases e; exact q, fun q => ⟨d, rfl, q⟩⟩
theorem LBV_ite {c : Prop} [Decidable c] {x : Option (List D)} : LBV (if c then x else none) QL ↔ c ∧ LBV x QL := by
 constructor
 ·rintro ⟨d, e, q⟩
  split at e
  ·exact ⟨by assumption, d, e, q⟩
  ·cases e
 ·rintro ⟨h, d, e, q⟩
  exact ⟨d, by rw [if_pos h]; exact e, q⟩
variable {a b : Int} {x y : D} {ds es : List D} {p q : Bool}
theorem r_add : fAdd S (.int a) (.int b) = some (.int (a + b)) := rfl
theorem r_addT : fAdd S (.tup ds) (.tup es) = if szOk (ds.length + es.length) = true then some (.tup (ds ++ es)) else none := rfl
theorem r_iadd : fIAdd S (.int a) (.int b) = some (.int (a + b)) := rfl
theorem r_sub : fSub S (.int a) (.int b) = some (.int (a - b)) := rfl
theorem r_mul : fMul S (.int a) (.int b) = if mulOk a b = true then some (.int (a * b)) else none := rfl
theorem r_div : fDiv S (.int a) (.int b) = if divOk b = true then some (.int (a.fdiv b)) else none := rfl
theorem r_mod : fMod S (.int a) (.int b) = if b ≠ 0 then some (.int (a.fmod b)) else none := rfl
theorem r_pow : fPow S (.int a) (.int b) = if powOk a b = true then some (.int (a ^ b.toNat)) else none := rfl
theorem r_shl : fShl S (.int a) (.int b) = if powOk a b = true then some (.int (a * 2 ^ b.toNat)) else none := rfl
theorem r_neg : fNeg S (.int a) = some (.int (-a)) := rfl
theorem r_lt : fLt S (.int a) (.int b) = some (.bl (decide (a < b))) := rfl
theorem r_le : fLe S (.int a) (.int b) = some (.bl (decide (a ≤ b))) := rfl
theorem r_gt : fGt S (.int a) (.int b) = some (.bl (decide (b < a))) := rfl
theorem r_ge : fGe S (.int a) (.int b) = some (.bl (decide (b ≤ a))) := rfl
theorem r_eq : fEq S (.int a) (.int b) = some (.bl (decide (a = b))) := rfl
theorem r_ne : fNe S (.int a) (.int b) = some (.bl (!decide (a = b))) := rfl
theorem r_eqS {u v : Str} : fEq S (.str u) (.str v) = some (.bl (decide (u = v))) := rfl
theorem r_neS {u v : Str} : fNe S (.str u) (.str v) = some (.bl (!decide (u = v))) := rfl
theorem r_gabs : gAbs S (.int a) = some (.int (if a < 0 then -a else a)) := rfl
theorem r_gmax : gMax2 S (.int a) (.int b) = some (.int (if b > a then b else a)) := rfl
theorem r_gmin : gMin2 S (.int a) (.int b) = some (.int (if b < a then b else a)) := rfl
theorem r_gintI : gInt S (.int a) = some (.int a) := rfl
theorem r_gintB : gInt S (.bl p) = some (.int (if p then 1 else 0)) := rfl
theorem r_not : fNot S (.bl p) = some (.bl (!p)) := rfl
theorem r_fn1 {f : F1} : fn1 f S [x] = f S x := rfl
theorem r_fn2 {f : F2} : fn2 f S [x, y] = f S x y := rfl
theorem r_fnl1 {f : Sto → D → Option (List D)} : fnl1 f S [x] = f S x := rfl
theorem r_lenT : gLen S (.tup ds) = some (.int ds.length) := rfl
theorem r_lenL : gLen S (.lst ds) = some (.int ds.length) := rfl
theorem r_lenR : gLen S (.rol ds) = some (.int ds.length) := rfl
theorem r_lenX {n : Nat} : gLen S (.ref n) = (boxAt S n).map fun ds => .int ds.length := rfl
theorem r_tupT : gTuple S (.tup ds) = some (.tup ds) := rfl
theorem r_tupL : gTuple S (.lst ds) = some (.tup ds) := rfl
theorem r_tupR : gTuple S (.rol ds) = some (.tup ds) := rfl
theorem r_tupX {n : Nat} : gTuple S (.ref n) = (boxAt S n).map .tup := rfl
theorem r_listT : gList S (.tup ds) = some ds := rfl
theorem r_listL : gList S (.lst ds) = some ds := rfl
theorem r_listR : gList S (.rol ds) = some ds := rfl
theorem r_listX {n : Nat} : gList S (.ref n) = boxAt S n := rfl
theorem r_ixT : fIx S (.tup ds) (.int a) = atI ds a := rfl
theorem r_ixL : fIx S (.lst ds) (.int a) = atI ds a := rfl
theorem r_ixR : fIx S (.rol ds) (.int a) = atI ds a := rfl
theorem r_ixX {n : Nat} : fIx S (.ref n) (.int a) = (boxAt S n).bind fun ds => atI ds a := rfl
theorem r_seqT : seqOf S (.tup ds) = some ds := rfl
theorem r_seqL : seqOf S (.lst ds) = some ds := rfl
theorem r_seqR : seqOf S (.rol ds) = some ds := rfl
theorem r_seqX {n : Nat} : seqOf S (.ref n) = boxAt S n := rfl
theorem r_addLL : fAddL S (.lst ds) (.lst es) = if szOk (ds.length + es.length) = true then some (ds ++ es) else none := rfl
theorem r_mulLL : fMulL S (.lst ds) (.int b) = if (decide (0 ≤ b) && decide (b ≤ 100000) && szOk (ds.length * b.toNat)) = true then some (List.replicate b.toNat ds).flatten else none := rfl
theorem r_isTt : gIs "tuple" S (.tup ds) = some (.bl true) := by
 show (kitB "tuple" "tuple").map D.bl = _
 rw [show kitB "tuple" "tuple" = some true by decide +kernel]
 rfl
theorem r_isTi : gIs "tuple" S (.int a) = some (.bl false) := by
 show (kitB "int" "tuple").map D.bl = _
 rw [show kitB "int" "tuple" = some false by decide +kernel]
 rfl
theorem r_isTs {u : Str} : gIs "tuple" S (.str u) = some (.bl false) := by
 show (kitB "str" "tuple").map D.bl = _
 rw [show kitB "str" "tuple" = some false by decide +kernel]
 rfl
theorem r_gsT : gsOf (.tup ds) = [] := rfl
theorem r_gsL : gsOf (.lst ds) = [] := rfl
theorem r_gsR : gsOf (.rol ds) = [] := rfl
theorem r_gsX {n : Nat} : gsOf (.ref n) = [n] := rfl
theorem r_isN : fIs S x .non = some (.bl (isNon x)) := rfl
theorem r_isNN : fIsNot S x .non = some (.bl (!isNon x)) := rfl
theorem r_isB : fIs S (.bl p) (.bl q) = some (.bl (decide (p = q))) := rfl
theorem r_slT {lo hi : Option Int} : fSlT S (.tup ds) lo hi = some (.tup (cutD ds lo hi)) := rfl
theorem r_slL {lo hi : Option Int} : fSlL S (.lst ds) lo hi = some (cutD ds lo hi) := rfl
theorem r_slR {lo hi : Option Int} : fSlL S (.rol ds) lo hi = some (cutD ds lo hi) := rfl
theorem r_sumT {ns : List Int} : gSum S (.tup (ns.map D.int)) = some (.int ns.sum) := by show (intsOf _).map _ = _; rw [intsOf_map]; rfl
theorem r_sumL {ns : List Int} : gSum S (.lst (ns.map D.int)) = some (.int ns.sum) := by show (intsOf _).map _ = _; rw [intsOf_map]; rfl
theorem r_allL {ns : List Bool} : gAll S (.lst (ns.map D.bl)) = some (.bl (ns.all id)) := by show (boolsOf _).map _ = _; rw [boolsOf_map]; rfl
theorem at_0 {α : Type} {u : α} {l : List α} : atI (u :: l) 0 = some u := by
 unfold atI ixN
 rw [if_pos (by omega), if_pos (by simp only [List.length_cons]; omega)]; rfl
theorem at_1 {α : Type} {u v : α} {l : List α} : atI (u :: v :: l) 1 = some v := by
 unfold atI ixN
 rw [if_pos (by omega), if_pos (by simp only [List.length_cons]; omega)]; rfl
theorem at_2 {α : Type} {u v w : α} {l : List α} : atI (u :: v :: w :: l) 2 = some w := by
 unfold atI ixN
 rw [if_pos (by omega), if_pos (by simp only [List.length_cons]; omega)]; rfl
theorem at_3 {α : Type} {u v w z : α} {l : List α} : atI (u :: v :: w :: z :: l) 3 = some z := by
 unfold atI ixN
 rw [if_pos (by omega), if_pos (by simp only [List.length_cons]; omega)]; rfl
theorem ixN_in {n : Nat} {i : Int} (h0 : 0 ≤ i) (h1 : i < n) : ixN n i = some i.toNat := by unfold ixN; rw [if_pos h0, if_pos h1]
theorem at_in {α : Type} {l : List α} {i : Int} (h0 : 0 ≤ i) (h1 : i < l.length) : ∃ u, atI l i = some u ∧ u ∈ l ∧ l[i.toNat]? = some u := by
 have h2 : i.toNat < l.length := by omega
 refine ⟨l[i.toNat], ?_, List.getElem_mem h2, List.getElem?_eq_getElem h2⟩
 unfold atI
 rw [ixN_in h0 h1]
 exact List.getElem?_eq_getElem h2
theorem at_nat {α : Type} {l : List α} {i : Nat} : atI l (i : Int) = l[i]? := by
 unfold atI ixN
 rw [if_pos (by omega)]
 by_cases h : i < l.length
 ·rw [if_pos (by omega)]; rfl
 ·rw [if_neg (by omega)]; exact (List.getElem?_eq_none (by omega)).symm
theorem box_of {n : Nat} (h : S[n]? = some (.lst ds)) : boxAt S n = some ds := by unfold boxAt; rw [h]
end
theorem log2_lt {n k : Nat} (h : n < 2 ^ k) (hk : 0 < k) : n.log2 < k := by
 by_cases h0 : n = 0
 ·subst h0; simpa using hk
 ·exact (Nat.log2_lt h0).mpr h
def sm (a : Int) : Prop := a.natAbs < 2 ^ 9000
theorem sm_mul {a b : Int} (h : sm a) (h2 : sm b) : mulOk a b = true := by
 have := log2_lt h (by decide)
 have := log2_lt h2 (by decide)
 unfold mulOk
 exact decide_eq_true (by omega)
theorem sm_div {a : Int} (h : sm a) (h2 : a ≠ 0) : divOk a = true := by
 have := log2_lt h (by decide)
 unfold divOk
 exact Bool.and_eq_true_iff.mpr ⟨decide_eq_true h2, decide_eq_true (by omega)⟩
theorem sm_le {a : Int} (k : Nat) (h : a.natAbs ≤ k) (hk : k < 2 ^ 9000 := by decide +kernel) : sm a := Nat.lt_of_le_of_lt h hk
def hdO (a b c : Int) : Ob := .lst [.int a, .int b, .int c]
def HdOk (n : Nat) (o : Ob) : Prop := ∃ a b c : Int, o = hdO a b c ∧ 0 ≤ a ∧ a < 10 ^ 120 ∧ 0 ≤ b ∧ b < 10 ^ 30 ∧ 0 ≤ c ∧ c ≤ n
def HD (n : Nat) (S : Sto) (h : Nat) : Prop := ∃ o, S[h]? = some o ∧ HdOk n o
theorem HD.mono {n k : Nat} {S : Sto} {h : Nat} (H : HD n S h) (hk : n ≤ k) : HD k S h := by
 obtain ⟨o, h1, a, b, c, h2, h3, h4, h5, h6, h7, h8⟩ := H
 exact ⟨o, h1, a, b, c, h2, h3, h4, h5, h6, h7, by omega⟩
theorem HD.lt {n : Nat} {S : Sto} {h : Nat} (H : HD n S h) : h < S.length := by
 obtain ⟨o, h1, _⟩ := H
 exact (List.getElem?_eq_some_iff.mp h1).1
structure Up (h : Nat) (S S2 : Sto) : Prop where
 len : S.length ≤ S2.length
 at_ : ∀ i, i < S.length → i ≠ h → S2[i]? = S[i]?
theorem Up.trans {h : Nat} {S S2 S3 : Sto} (a : Up h S S2) (b : Up h S2 S3) : Up h S S3 := ⟨Nat.le_trans a.len b.len, fun i hi hn => (b.at_ i (Nat.lt_of_lt_of_le hi a.len) hn).trans (a.at_ i hi hn)⟩
theorem Up.set {h : Nat} {S : Sto} {o : Ob} : Up h S (S.set h o) := ⟨by rw [List.length_set]; exact Nat.le_refl _, fun i _ hn => List.getElem?_set_ne (Ne.symm hn)⟩
theorem Up.app {h : Nat} {S T : Sto} : Up h S (S ++ T) := ⟨by rw [List.length_append]; omega, fun i hi _ => List.getElem?_append_left hi⟩
theorem Up.setNew {h k : Nat} {S S2 : Sto} {o : Ob} (a : Up h S S2) (hk : S.length ≤ k) : Up h S (S2.set k o) := ⟨by rw [List.length_set]; exact a.len, fun i hi hn => (List.getElem?_set_ne (by omega)).trans (a.at_ i hi hn)⟩
theorem HD.setNe {n h k : Nat} {S : Sto} {o : Ob} (H : HD n S h) (hk : k ≠ h) : HD n (S.set k o) h := by
 obtain ⟨u, h1, h2⟩ := H
 exact ⟨u, (List.getElem?_set_ne hk).trans h1, h2⟩
theorem HD.app {n h : Nat} {S T : Sto} (H : HD n S h) : HD n (S ++ T) h := by
 have hl := H.lt
 obtain ⟨u, h1, h2⟩ := H
 exact ⟨u, (List.getElem?_append_left hl).trans h1, h2⟩
structure St (h n : Nat) (S S2 : Sto) : Prop where
 up : Up h S S2
 eq : S2.length = S.length
 hd : HD n S2 h
theorem Up.kept {h n : Nat} {S S2 : Sto} (a : Up h S S2) (H : HD n S2 h) : KeptS S S2 (S.length + 0) := fun i ds hi e => by
 by_cases hn : i = h
 ·subst hn
  obtain ⟨o, h1, x, y, z, h2, _⟩ := H
  rw [h1, h2] at e
  cases e
  exact .inr rfl
 ·exact .inl ((a.at_ i hi hn).symm.trans e)
theorem Up.cut {h n : Nat} {S S2 : Sto} (a : Up h S S2) (H : HD n S2 h) (hs : h < S.length) : St h n S (S2.take (S.length + 0)) := by
 have hl : (S2.take (S.length + 0)).length = S.length := by rw [List.length_take]; have := a.len; omega
 refine ⟨⟨by omega, fun i hi hn => ?_⟩, hl, ?_⟩
 ·rw [List.getElem?_take_of_lt (by omega)]; exact a.at_ i hi hn
 ·obtain ⟨o, h1, h2⟩ := H
  exact ⟨o, by rw [List.getElem?_take_of_lt (by omega)]; exact h1, h2⟩
mutual
def bare : D → Bool
 | .ref _ => false
 | .tup xs => bareL xs
 | .lst xs => bareL xs
 | .rol xs => bareL xs
 | .dic _ xs => bareL xs
 | .tag _ _ => false
 | .dref _ => false
 | .iref _ _ => false
 | _ => true
def bareL : List D → Bool
 | [] => true
 | d :: ds => bare d && bareL ds
end
mutual
theorem bare_below {k : Nat} : ∀ d : D, bare d = true → below k d = true
 | .non, _ => rfl
 | .bl _, _ => rfl
 | .int _, _ => rfl
 | .str _, _ => rfl
 | .tup ds, b => by simpa [below] using bareL_below ds (by simpa [bare] using b)
 | .lst ds, b => by simpa [below] using bareL_below ds (by simpa [bare] using b)
 | .rol ds, b => by simpa [below] using bareL_below ds (by simpa [bare] using b)
 | .dic _ ds, b => by simpa [below] using bareL_below ds (by simpa [bare] using b)
 | .ref n, b => by simp [bare] at b
 | .tag _ _, b => by simp [bare] at b
 | .dref _, b => by simp [bare] at b
 | .iref _ _, b => by simp [bare] at b
theorem bareL_below {k : Nat} : ∀ ds : List D, bareL ds = true → belowL k ds = true
 | [], _ => rfl
 | d :: ds, b => by
  have b : bare d = true ∧ bareL ds = true := by simpa [bareL] using b
  simp [belowL, bare_below d b.1, bareL_below ds b.2]
end
theorem bareL_iff : ∀ {ds : List D}, bareL ds = true ↔ ∀ d, d ∈ ds → bare d = true
 | [] => ⟨(fun _ d h => nomatch h), (fun _ => rfl)⟩
 | d :: ds => by simp [bareL, bareL_iff (ds := ds)]
theorem bareL_ints (ns : List Int) : bareL (ns.map D.int) = true := bareL_iff.mpr fun d h => by
 obtain ⟨n, _, rfl⟩ := List.mem_map.mp h
 rfl
theorem handed_bare {S2 : Sto} {k : Nat} {d : D} (h : bare d = true) : handed S2 k d = some d := by
 unfold handed
 rw [if_pos (bare_below d h)]
theorem handed_box {S2 : Sto} {k n : Nat} {ds : List D} (hn : k ≤ n) (hb : S2[n]? = some (.lst ds)) (h : bareL ds = true) : handed S2 k (.ref n) = some (.lst ds) := by
 unfold handed
 rw [if_neg (by simp [below]; omega)]
 simp only
 rw [hb]
 simp only
 rw [if_pos ⟨bareL_below ds h, hn⟩]
def RtH (h n : Nat) (S : Sto) (Q : D → Sto → Prop) : Out → Prop
 | .rt d S2 => HD n S2 h ∧ Up h S S2 ∧ ((bare d = true ∧ ∀ S', St h n S S' → Q d S') ∨ ∃ m ds, d = .ref m ∧ S.length ≤ m ∧ S2[m]? = some (.lst ds) ∧ bareL ds = true ∧ ∀ S', St h n S S' → Q (.lst ds) S')
 | _ => False
theorem CV_hand {k N h n : Nat} {b : SX} {ds : List D} {S : Sto} {Q : D → Sto → Prop} (hs : h < S.length) (hn : ds.length = k) (H : SV b (sE N ds) S (RtH h n S Q)) : CV (den k N 0 b) ds S Q := by
 refine CV_den hn (H.imp fun o q => ?_)
 cases o with
 | rt d S2 =>
  obtain ⟨q1, q2, q3⟩ := q
  refine ⟨q2.len, q2.kept q1, ?_⟩
  rcases q3 with ⟨q3, q4⟩ | ⟨m, es, rfl, q3, q4, q5, q6⟩
  ·exact ⟨d, handed_bare q3, q4 _ (q2.cut q1 hs)⟩
  ·exact ⟨.lst es, handed_box q3 q4 q5, q6 _ (q2.cut q1 hs)⟩
 | nx e S2 => exact q.elim
 | bk e S2 => exact q.elim
 | ct e S2 => exact q.elim
def RtP (S : Sto) (Q : D → Prop) : Out → Prop
 | .rt d S2 => (∃ T, S2 = S ++ T) ∧ ((bare d = true ∧ Q d) ∨ ∃ m ds, d = .ref m ∧ S.length ≤ m ∧ S2[m]? = some (.lst ds) ∧ bareL ds = true ∧ Q (.lst ds))
 | _ => False
theorem CV_plain {k N : Nat} {b : SX} {ds : List D} {S : Sto} {Q : D → Sto → Prop} (hn : ds.length = k) (H : SV b (sE N ds) S (RtP S fun d => Q d S)) : CV (den k N 0 b) ds S Q := by
 refine CV_den hn (H.imp fun o q => ?_)
 cases o with
 | rt d S2 =>
  obtain ⟨⟨T, rfl⟩, q3⟩ := q
  have e : (S ++ T).take (S.length + 0) = S := by simp
  refine ⟨by simp, fun i es hi z => .inl ?_, ?_⟩
  ·rw [List.getElem?_append_left (by omega)] at z; exact z
  ·rcases q3 with ⟨q3, q4⟩ | ⟨m, es, rfl, q3, q4, q5, q6⟩
   ·exact ⟨d, handed_bare q3, by rw [e]; exact q4⟩
   ·exact ⟨.lst es, handed_box q3 q4 q5, by rw [e]; exact q6⟩
 | nx e S2 => exact q.elim
 | bk e S2 => exact q.elim
 | ct e S2 => exact q.elim
theorem RtP_same {S : Sto} {Q : D → Prop} {d : D} (hb : bare d = true) (q : Q d) : RtP S Q (.rt d S) := ⟨⟨[], (List.append_nil S).symm⟩, .inl ⟨hb, q⟩⟩
noncomputable def b_take : SX := sSeq (sIf (tOf (e2 fGt (e2 fIx (eVar 0) (eC (.int 0))) (eC (.int 0)))) (sSeq (sAsg (e2 fMod (e2 fIx (eVar 0) (eC (.int 0))) (eVar 1)) (gN 5)) (sSeq (sAsg (e2 fDiv (e2 fIx (eVar 0) (eC (.int 0))) (eVar 1)) (gS (eVar 0) (eC (.int 0)))) (sRet (eVar 5)))) (sNil)) (sSeq (sAsg (e2 fAdd (e2 fIx (eVar 0) (eC (.int 2))) (eC (.int 1))) (gS (eVar 0) (eC (.int 2)))) (sSeq (sAsg (eFz (lDisp (aCons (eC (.int 2147483647)) (aCons (eC (.int 2147483629)) (aCons (eC (.int 2147483587)) (aCons (eC (.int 2147483579)) (aCons (eC (.int 2147483563)) (aCons (eC (.int 2147483549)) (aCons (eC (.int 2147483543)) (aCons (eC (.int 2147483497)) (aNil))))))))))) (gN 2)) (sSeq (sAsg (e2 fIx (eVar 2) (e2 fMod (e2 fIx (eVar 0) (eC (.int 2))) (eC (.int 8)))) (gN 3)) (sSeq (sAsg (e2 fAdd (e2 fMod (e2 fMod (e2 fAdd (e2 fIx (eVar 0) (eC (.int 1))) (e2 fMul (e2 fMul (eC (.int 69621)) (e2 fIx (eVar 0) (eC (.int 2)))) (e2 fIx (eVar 0) (eC (.int 2))))) (e2 fPow (eVar 3) (eC (.int 2)))) (eVar 3)) (eC (.int 1))) (gN 4)) (sRet (e2 fMod (e2 fDiv (e2 fMod (e2 fMul (eVar 4) (e2 fAdd (e2 fMod (eVar 4) (eC (.int 1009))) (e2 fIx (eVar 0) (eC (.int 2))))) (eVar 3)) (eC (.int 7))) (eVar 1)))))))
noncomputable def c_take : Con := den 2 6 0 b_take
theorem CV_take {S : Sto} {h n : Nat} {k : Int} {Q : D → Sto → Prop} (H : HD n S h) (hn : n ≤ 1000000) (hk : 0 < k) (hk2 : k < 10 ^ 100) (q : ∀ r S', 0 ≤ r → r < k → St h (n + 1) S S' → Q (.int r) S') : CV c_take [.ref h, .int k] S Q := by
 refine CV_hand (h := h) (n := n + 1) H.lt rfl ?_
 obtain ⟨o, h1, a, b, c, rfl, ha, ha2, hb, hb2, hc, hc2⟩ := H
 have hx := box_of h1
 have hl : h < S.length := (List.getElem?_eq_some_iff.mp h1).1
 have hy : ∀ ds, boxAt (S.set h (.lst ds)) h = some ds := fun ds => box_of (List.getElem?_set_self hl)
 have i0 : ixN 3 0 = some 0 := rfl
 have i2 : ixN 3 2 = some 2 := rfl
 unfold b_take
 (simp_arith [hx, hy, i0, i2])
 have ok : ∀ {a' c' : Int}, 0 ≤ a' → a' < 10 ^ 120 → 0 ≤ c' → c' ≤ n + 1 → HD (n + 1) (S.set h (.lst [.int a', .int b, .int c'])) h := fun {a' c'} h3 h4 h5 h6 => ⟨_, List.getElem?_set_self hl, a', b, c', rfl, h3, h4, hb, hb2, h5, by omega⟩
 split
 ·have e1 : a.fmod k = a % k := Int.fmod_eq_emod_of_nonneg _ (by omega)
  have e2 : a.fdiv k = a / k := Int.fdiv_eq_ediv_of_nonneg _ (by omega)
  have l1 : 0 ≤ a / k := Int.ediv_nonneg ha (by omega)
  have l2 : a / k ≤ a := Int.ediv_le_self _ ha
  have l3 : 0 ≤ a % k := Int.emod_nonneg _ (by omega)
  have l4 : a % k < k := Int.emod_lt_of_pos _ hk
  rw [e1, e2]
  exact ⟨by omega, sm_div (sm_le (10 ^ 100) (by omega)) (by omega), ok l1 (by omega) hc (by omega), .set, .inl ⟨rfl, fun S' hS => q _ S' l3 l4 hS⟩⟩
 ·have e1 : (c + 1).fmod 8 = (c + 1) % 8 := Int.fmod_eq_emod_of_nonneg _ (by omega)
  have l3 : 0 ≤ (c + 1) % 8 := Int.emod_nonneg _ (by omega)
  have l4 : (c + 1) % 8 < 8 := Int.emod_lt_of_pos _ (by omega)
  refine ⟨rfl, by omega, ?_⟩
  rw [e1]
  obtain ⟨d, hd, hm, _⟩ := at_in (l := [D.int 2147483647, D.int 2147483629, D.int 2147483587, D.int 2147483579, D.int 2147483563, D.int 2147483549, D.int 2147483543, D.int 2147483497]) l3 (by simpa using l4)
  have hp : ∃ p : Int, d = .int p ∧ 2147483497 ≤ p ∧ p ≤ 2147483647 := by
   simp only [List.mem_cons, List.not_mem_nil, or_false] at hm
   rcases hm with rfl | rfl | rfl | rfl | rfl | rfl | rfl | rfl <;> exact ⟨_, rfl, by omega, by omega⟩
  obtain ⟨p, rfl, p1, p2⟩ := hp
  (simp_arith [hd])
  have p3 : (2 : Int).toNat = 2 := rfl
  have pp : 0 < p ^ 2 := by rw [show (2:Nat) = 1 + 1 from rfl, Int.pow_succ, Int.pow_succ]; simp; exact Int.mul_pos (by omega) (by omega)
  rw [p3]
  generalize hz : ((b + 69621 * (c + 1) * (c + 1)).fmod (p ^ 2)).fmod p + 1 = z
  have z1 : 0 < z ∧ z ≤ p := by
   rw [← hz, Int.fmod_eq_emod_of_nonneg _ (by omega : 0 ≤ p)]
   have := Int.emod_nonneg ((b + 69621 * (c + 1) * (c + 1)).fmod (p ^ 2)) (by omega : p ≠ 0)
   have := Int.emod_lt_of_pos ((b + 69621 * (c + 1) * (c + 1)).fmod (p ^ 2)) (by omega : 0 < p)
   omega
  have z2 : z.fmod 1009 = z % 1009 := Int.fmod_eq_emod_of_nonneg _ (by omega)
  generalize hw : ((z * (z.fmod 1009 + (c + 1))).fmod p).fdiv 7 = w
  have w1 : w.fmod k = w % k := Int.fmod_eq_emod_of_nonneg _ (by omega)
  have w3 : 0 ≤ w % k := Int.emod_nonneg _ (by omega)
  have w4 : w % k < k := Int.emod_lt_of_pos _ hk
  rw [w1, z2]
  refine ⟨sm_mul (sm_le (10 ^ 100) (by omega)) (sm_le (10 ^ 100) (by omega)), sm_mul (sm_le (10 ^ 100) (by omega)) (sm_le (10 ^ 100) (by omega)), ?_, by omega, by omega, by omega, sm_mul (sm_le (10 ^ 100) (by omega)) (sm_le (10 ^ 100) (by omega)), by omega, sm_div (sm_le (10 ^ 100) (by omega)) (by omega), by omega, ?_⟩
  ·unfold powOk
   rw [decide_eq_true (by omega : (0:Int) ≤ 2), decide_eq_true (by omega : (2:Int) ≤ 1000000), decide_eq_true (by omega : p.natAbs < 18446744073709551616)]
   rfl
  ·exact ⟨ok ha ha2 (by omega) (by omega), .set, .inl ⟨rfl, fun S' hS => q _ S' w3 w4 hS⟩⟩
noncomputable def b_hand2 : SX := sSeq (sAsg (e2 fMul (e2 fMod (eCB (fn1 gAbs) (aCons (eVar 2) (aNil))) (e2 fMul (e2 fPow (eC (.int 10)) (eC (.int 60))) (e2 fPow (eC (.int 10)) (eC (.int 60))))) (eCB (fn1 gInt) (aCons (e2 fGe (eCB (fn1 gAbs) (aCons (eVar 2) (aNil))) (e2 fPow (eC (.int 10)) (eC (.int 18)))) (aNil)))) (gN 3)) (sRet (eBx (lDisp (aCons (eVar 3) (aCons (e2 fAdd (e2 fAdd (e2 fMod (eVar 2) (eC (.int 2305843009213693951))) (e2 fMul (eC (.int 104729)) (eVar 1))) (eC (.int 7))) (aCons (eC (.int 0)) (aNil)))))))
noncomputable def b_hand : SX := sSeq (sAsg (eIf (tOf (e2 fLt (eVar 1) (eCB (fn1 gLen) (aCons (eVar 0) (aNil))))) (e2 fIx (eVar 0) (eVar 1)) (eC (.int 0))) (gN 2)) b_hand2
noncomputable def c_hand : Con := den 2 4 1 b_hand
theorem CV_newhand {S : Sto} {ns : List Int} {k : Int} {Q : D → Sto → Prop} (hk : 0 ≤ k) (hk2 : k ≤ 1000000) (q : ∀ o, HdOk 0 o → Q (.ref S.length) (S ++ [o])) : CV c_hand [.rol (ns.map D.int), .int k] S Q := by
 refine CV_den rfl ?_
 have tail : ∀ z : Int, SV b_hand2 [some (.rol (ns.map D.int)), some (.int k), some (.int z), none] S (Rt S 1 Q) := by
  intro z
  unfold b_hand2
  (simp_arith [])
  have e1 : ((if z < 0 then -z else z) : Int).fmod (10 ^ Int.toNat 60 * 10 ^ Int.toNat 60) = ((if z < 0 then -z else z) : Int) % 10 ^ 120 := Int.fmod_eq_emod_of_nonneg _ (by decide +kernel)
  have e2 : z.fmod 2305843009213693951 = z % 2305843009213693951 := Int.fmod_eq_emod_of_nonneg _ (by omega)
  rw [e1, e2]
  generalize ((if z < 0 then -z else z) : Int) = y
  have l1 : 0 ≤ y % 10 ^ 120 := Int.emod_nonneg _ (by omega)
  have l2 : y % 10 ^ 120 < 10 ^ 120 := Int.emod_lt_of_pos _ (by omega)
  have l3 : 0 ≤ z % 2305843009213693951 := Int.emod_nonneg _ (by omega)
  have l4 : z % 2305843009213693951 < 2305843009213693951 := Int.emod_lt_of_pos _ (by omega)
  generalize y % 10 ^ 120 = g at *
  generalize z % 2305843009213693951 = v at *
  generalize hj : (if (10:Int) ^ Int.toNat 18 ≤ y then (1:Int) else 0) = j
  have hj1 : j = 0 ∨ j = 1 := by rw [← hj]; split <;> simp
  have o1 : HdOk 0 (hdO (g * j) (v + 104729 * k + 7) 0) := by
   refine ⟨_, _, _, rfl, ?_, ?_, by omega, by omega, by omega, by omega⟩ <;> rcases hj1 with rfl | rfl <;> omega
  refine ⟨rfl, rfl, by decide +kernel, by decide +kernel, rfl, sm_mul (sm_le (10 ^ 130) (by omega)) (sm_le 1 (by omega)), by omega, sm_mul (sm_le (10 ^ 100) (by omega)) (sm_le (10 ^ 100) (by omega)), rfl, ?_⟩
  have hq := q _ o1
  refine ⟨by simp, fun i ds hi e => ?_, .ref S.length, ?_, ?_⟩
  ·rcases Nat.lt_or_ge i S.length with hi2 | hi2
   ·rw [List.getElem?_append_left hi2] at e; exact .inl e
   ·have : i = S.length := by omega
    subst this
    rw [List.getElem?_append_right (Nat.le_refl _), Nat.sub_self] at e
    cases e
    exact .inr rfl
  ·unfold handed; rw [if_pos (by simp [below])]
  ·rw [List.take_of_length_le (by simp)]; exact hq
 unfold b_hand
 (simp_arith [])
 split
 ·rename_i hl
  obtain ⟨u, u1, u2, _⟩ := at_in hk hl
  obtain ⟨z, _, rfl⟩ := List.mem_map.mp u2
  rw [u1, BV_some]
  exact tail z
 ·exact tail 0
theorem SV_forI {g : GX} {b : SX} {gs : List Nat} {S0 : Sto} {QO : Out → Prop} (I : List D → En → Sto → Prop) : ∀ {ds : List D} {e : En} {S : Sto}, I ds e S →
  (∀ d r e S (K : En → Sto → Prop), I (d :: r) e S → (∀ e2 S2, I r e2 S2 → K e2 S2) → GV g d e S fun e1 S1 => SV b e1 S1 (turn_ QO gs S0 K)) → (∀ e S, I [] e S → QO (.nx e S)) → SV (forL g b gs S0 ds) e S QO
 | [], e, S, h, _, fin => SV_for_nil.mpr (fin e S h)
 | d :: ds, e, S, h, step, fin => by
  refine SV_for_cons.mpr ?_
  obtain ⟨e1, S1, h1, o, h2, h3⟩ := step d ds e S (I ds) h fun _ _ z => z
  refine ⟨e1, S1, h1, o, h2, ?_⟩
  cases o with
  | nx e2 S2 => exact ⟨h3.1, SV_forI I h3.2 step fin⟩
  | ct e2 S2 => exact ⟨h3.1, SV_forI I h3.2 step fin⟩
  | bk e2 S2 => exact h3
  | rt d2 S2 => exact h3
theorem LV_map {g : GX} {tt : TX} {te : EX} {gs : List Nat} {S0 S : Sto} {e0 : En} (f : D → D) (hg : ∀ n, n ∈ gs → S[n]? = S0[n]?) : ∀ {ds : List D},
  (∀ d (K : D → Sto → Prop), d ∈ ds → K (f d) S → GV g d e0 S fun e1 S1 => TV tt e1 S1 fun b S2 => b = true ∧ EV te e1 S2 K) →
  LV g tt te gs S0 e0 ds S fun out S' => out = ds.map f ∧ S' = S
 | [], _ => LV_nil.mpr ⟨rfl, rfl⟩
 | d :: ds, step => by
  refine LV_cons.mpr ?_
  obtain ⟨e1, S1, h1, b, S2, h2, hb, y, S3, h3, hp, hi⟩ := step d (fun y T => y = f d ∧ T = S) (List.mem_cons_self ..) ⟨rfl, rfl⟩
  subst hb hi hp
  refine ⟨e1, S1, h1, true, S2, h2, ?_⟩
  show (if true = true then _ else _)
  rw [if_pos rfl]
  refine ⟨_, _, h3, hg, (LV_map f hg fun d K hd => step d K (List.mem_cons_of_mem _ hd)).imp fun out S' q => ⟨by rw [q.1]; rfl, q.2⟩⟩
theorem mem_rgD {a b : Int} {d : D} (h : d ∈ rgD a b) : ∃ i : Int, d = .int i ∧ a ≤ i ∧ i < b := by
 obtain ⟨i, h1, rfl⟩ := List.mem_map.mp h
 have := List.mem_range.mp h1
 exact ⟨_, rfl, by omega, by omega⟩
theorem LV.lc {g : GX} {tt : TX} {te : EX} {gs : List Nat} {S0 : Sto} {e0 : En} {ds : List D} {S : Sto} {Q : List D → Sto → Prop} (h : LV g tt te gs S0 e0 ds S Q) {R : List D → Sto → Prop} (k : ∀ out S', Q out S' → szOk out.length = true ∧ R out S') :
  ∃ out S2, lcL g tt te gs S0 e0 ds S = some (out, S2) ∧ szOk out.length = true ∧ R out S2 := by
 obtain ⟨out, S2, h1, q⟩ := h
 exact ⟨out, S2, h1, k out S2 q⟩
theorem sz_le {n : Nat} (h : n ≤ 16777216) : szOk n = true := decide_eq_true h
theorem rg_ok {i : Int} (h : -4611686018427387904 ≤ i) (h2 : i < 4611686018427387904) : rgOk i = true := by unfold rgOk; rw [decide_eq_true h, decide_eq_true h2]; rfl
theorem CV.eq {c : Con} {ds : List D} {S S' : Sto} {v : D} (h : CV c ds S fun d T => d = v ∧ T = S') : c ds S = some (v, S') := by
 obtain ⟨d, T, h1, rfl, rfl⟩ := h
 exact h1
mutual
def shortB (k : Nat) : D → Bool
 | .non => true
 | .bl _ => true
 | .int i => decide (i.natAbs < 10 ^ k)
 | .str x => PyData.strOk x && (x.cps.toList.all fun c => decide (c < 16 ^ 8)) && decide (x.cps.size ≤ 4 * k)
 | .tup xs => shortL k xs
 | .lst xs => shortL k xs
 | .rol xs => shortL k xs
 | .dic _ _ => false
 | .tag _ _ => false
 | .dref _ => false
 | .iref _ _ => false
 | .ref _ => false
def shortL (k : Nat) : List D → Bool
 | [] => true
 | d :: ds => shortB k d && shortL k ds
end
mutual
def dep : D → Nat
 | .tup xs => depL xs + 1
 | .lst xs => depL xs + 1
 | .rol xs => depL xs + 1
 | _ => 0
def depL : List D → Nat
 | [] => 0
 | d :: ds => max (dep d) (depL ds)
end
mutual
def cnt : D → Nat
 | .tup xs => cntL xs
 | .lst xs => cntL xs
 | .rol xs => cntL xs
 | _ => 1
def cntL : List D → Nat
 | [] => 0
 | d :: ds => cnt d + 1 + cntL ds
end
mutual
theorem short_pd {k : Nat} (hk : 0 < k) : ∀ d : D, shortB k d = true → flat d = true ∧ (pd d).depth = dep d ∧ (pd d).canLay0 = true ∧ (k ≤ 470 → (pd d).showable = true ∧ (pd d).leavesShort 600 = true) ∧ (pd d).hasDict = false ∧ (pd d).weight ≤ cnt d * (4 * k)
 | .non, _ => ⟨rfl, rfl, rfl, fun _ => ⟨rfl, rfl⟩, rfl, Nat.zero_le _⟩
 | .bl b, _ => ⟨rfl, rfl, rfl, fun _ => ⟨rfl, rfl⟩, rfl, Nat.zero_le _⟩
 | .int i, h => by
  have h : i.natAbs < 10 ^ k := of_decide_eq_true h
  have hl : i.natAbs < 2 ^ (4 * k) := Nat.lt_of_lt_of_le h (by rw [Nat.pow_mul]; exact Nat.pow_le_pow_left (by decide) k)
  have hl2 := log2_lt hl (by omega)
  refine ⟨rfl, rfl, rfl, fun hk2 => ⟨?_, ?_⟩, rfl, ?_⟩
  ·exact decide_eq_true (by omega)
  ·have e := int_text_length_le10 hk h
   refine decide_eq_true ?_
   show (Str.ofString (toString i)).length ≤ 600
   rw [PySem.ofString_length]; omega
  ·show (if i == 0 then 0 else i.natAbs.log2 + 1) ≤ 1 * (4 * k)
   split <;> omega
 | .str x, h => by
  obtain ⟨h, h3⟩ := Bool.and_eq_true_iff.mp h
  obtain ⟨h1, h2⟩ := Bool.and_eq_true_iff.mp h
  have h3 := of_decide_eq_true h3
  exact ⟨rfl, rfl, h1, fun _ => ⟨rfl, h2⟩, rfl, by show x.cps.size ≤ 1 * (4 * k); omega⟩
 | .tup xs, h => by
  obtain ⟨a, b, c, e, f, g⟩ := shortL_pd hk xs h
  exact ⟨a, congrArg (· + 1) b, c, e, f, g⟩
 | .lst xs, h => by
  obtain ⟨a, b, c, e, f, g⟩ := shortL_pd hk xs h
  exact ⟨a, congrArg (· + 1) b, c, e, f, g⟩
 | .rol xs, h => by
  obtain ⟨a, b, c, e, f, g⟩ := shortL_pd hk xs h
  exact ⟨a, congrArg (· + 1) b, c, e, f, g⟩
 | .dic _ _, h => nomatch h
 | .tag _ _, h => nomatch h
 | .dref _, h => nomatch h
 | .iref _ _, h => nomatch h
 | .ref _, h => nomatch h
theorem shortL_pd {k : Nat} (hk : 0 < k) : ∀ ds : List D, shortL k ds = true → flatL ds = true ∧ PyData.depthAll (pdL ds) = depL ds ∧ PyData.canLayAll0 (pdL ds) = true ∧ (k ≤ 470 → PyData.showableAll (pdL ds) = true ∧ PyData.leavesShortAll 600 (pdL ds) = true) ∧ PyData.hasDictAll (pdL ds) = false ∧ PyData.weightAll (pdL ds) ≤ cntL ds * (4 * k)
 | [], _ => ⟨rfl, rfl, rfl, fun _ => ⟨rfl, rfl⟩, rfl, Nat.zero_le _⟩
 | d :: ds, h => by
  obtain ⟨h1, h2⟩ := Bool.and_eq_true_iff.mp h
  obtain ⟨a, b, c, e, f, g⟩ := short_pd hk d h1
  obtain ⟨a', b', c', e', f', g'⟩ := shortL_pd hk ds h2
  refine ⟨?_, ?_, ?_, fun z => ⟨?_, ?_⟩, ?_, ?_⟩
  ·show (flat d && flatL ds) = true; rw [a, a']; rfl
  ·show max (pd d).depth (PyData.depthAll (pdL ds)) = max (dep d) (depL ds); rw [b, b']
  ·show ((pd d).canLay0 && PyData.canLayAll0 (pdL ds)) = true; rw [c, c']; rfl
  ·show ((pd d).showable && PyData.showableAll (pdL ds)) = true; rw [(e z).1, (e' z).1]; rfl
  ·show ((pd d).leavesShort 600 && PyData.leavesShortAll 600 (pdL ds)) = true; rw [(e z).2, (e' z).2]; rfl
  ·show ((pd d).hasDict || PyData.hasDictAll (pdL ds)) = false; rw [f, f']; rfl
  ·show (pd d).weight + 1 + PyData.weightAll (pdL ds) ≤ (cnt d + 1 + cntL ds) * (4 * k)
   rw [Nat.add_mul, Nat.add_mul]; omega
end
theorem pdS_short {S : Sto} {k : Nat} {d : D} (hk : 0 < k) (h : shortB k d = true) : pdS S d = some (pd d) := by
 have hf := (short_pd hk d h).1
 unfold pdS
 split
 ·exact nomatch h
 ·rw [if_pos hf]
theorem shaped_short {k : Nat} {d : D} (hk : 0 < k) (h : shortB k d = true) (h1 : dep d ≤ 64) : SeqAt.shaped (pd d) = true := by
 obtain ⟨a, b, c, e, f, g⟩ := short_pd hk d h
 unfold SeqAt.shaped
 rw [c, b, decide_eq_true h1]
 rfl
theorem r_eq_self {S : Sto} {d : D} (k : Nat) (h : shortB k d = true) (h1 : dep d ≤ 64) (hk : 0 < k := by decide) : fEq S d d = some (.bl true) := by
 have h2 := pdS_short (S := S) hk h
 have h3 := shaped_short hk h h1
 have h4 := SeqAt.eqv_refl (pd d) (short_pd hk d h).2.2.1
 have gen : ((pdS S d).bind fun p => (pdS S d).bind fun q => if (SeqAt.shaped p && SeqAt.shaped q) = true then some (D.bl (PyData.eqv p q)) else none) = some (.bl true) := by
  rw [h2]
  show (if (SeqAt.shaped (pd d) && SeqAt.shaped (pd d)) = true then some (D.bl (PyData.eqv (pd d) (pd d))) else none) = _
  rw [h3, h4]
  rfl
 cases d with
 | int i => show some (D.bl (decide (i = i))) = _; simp
 | str i => show some (D.bl (decide (i = i))) = _; simp
 | _ => exact gen
theorem r_ne_self {S : Sto} {d : D} (k : Nat) (h : shortB k d = true) (h1 : dep d ≤ 64) (hk : 0 < k := by decide) : fNe S d d = some (.bl false) := by
 unfold fNe
 rw [r_eq_self k h h1 hk]
 rfl
theorem set_self {e : En} {i : Nat} {x : Option D} (h : e[i]? = some x) : e.set i x = e := by
 obtain ⟨hl, rfl⟩ := List.getElem?_eq_some_iff.mp h
 exact List.set_getElem_self hl
theorem gcd_step {x y : Int} (hx : 0 ≤ x) (hy : 0 ≤ y) (h0 : y ≠ 0) : Int.gcd y (x % y) = Int.gcd x y := by
 rw [Int.gcd_eq_natAbs_gcd_natAbs, Int.gcd_eq_natAbs_gcd_natAbs, Int.natAbs_emod_of_nonneg hx, Nat.gcd_comm x.natAbs y.natAbs, Nat.gcd_rec y.natAbs x.natAbs, Nat.gcd_comm]
section
variable {e : En} {S : Sto} {QO : Out → Prop}
theorem SV_gcdP {i j : Nat} {x y : Int} (hij : i ≠ j) (hx : e[i]? = some (some (.int x))) (hy : e[j]? = some (some (.int y))) (hx0 : 0 ≤ x) (hy0 : 0 ≤ y) (q : QO (.nx ((e.set i (some (.int (Int.gcd x y)))).set j (some (.int 0))) S)) :
  SV (sWhile (tOf (e2 fNe (eVar j) (eC (.int 0)))) (sPar i j (aCons (eVar j) (aCons (e2 fMod (eVar i) (eVar j)) aNil)))) e S QO := by
 have hi : i < e.length := (List.getElem?_eq_some_iff.mp hx).1
 have hj : j < e.length := (List.getElem?_eq_some_iff.mp hy).1
 refine SV_while (fun n e' S' => ∃ u v : Int, n = v.toNat ∧ 0 ≤ u ∧ 0 ≤ v ∧ Int.gcd u v = Int.gcd x y ∧ e' = (e.set i (some (.int u))).set j (some (.int v)) ∧ S' = S) y.toNat ⟨x, y, rfl, hx0, hy0, rfl, by rw [set_self hx, set_self hy], rfl⟩ ?_
 rintro n e' S' ⟨u, v, rfl, hu, hv, hg, rfl, rfl⟩
 have l1 : ((e.set i (some (D.int u))).set j (some (D.int v)))[j]? = some (some (.int v)) := List.getElem?_set_self (by simpa using hj)
 have l2 : ((e.set i (some (D.int u))).set j (some (D.int v)))[i]? = some (some (.int u)) := (List.getElem?_set_ne (Ne.symm hij)).trans (List.getElem?_set_self hi)
 (simp_arith [l1, l2])
 by_cases h0 : v = 0
 ·subst h0
  rw [if_neg (by simp)]
  have : (Int.gcd x y : Int) = u := by rw [← hg]; simp; omega
  rw [this] at q
  exact q
 ·rw [if_pos h0]
  have e1 : u.fmod v = u % v := Int.fmod_eq_emod_of_nonneg _ hv
  have b1 : 0 ≤ u % v := Int.emod_nonneg _ h0
  have b2 : u % v < v := Int.emod_lt_of_pos _ (by omega)
  refine ⟨h0, (fun n hn => nomatch hn), (u % v).toNat, by omega, v, u % v, rfl, hv, b1, (gcd_step hu hv h0).trans hg, ?_, rfl⟩
  rw [e1, List.set_comm _ _ (Ne.symm hij), List.set_set, List.set_set]
theorem SV_gcdT {i j : Nat} {x y : Int} (hij : i ≠ j) (hx : e[i]? = some (some (.int x))) (hy : e[j]? = some (some (.int y))) (hx0 : 0 ≤ x) (hy0 : 0 ≤ y) (q : QO (.nx ((e.set i (some (.int (Int.gcd x y)))).set j (some (.int 0))) S)) :
  SV (sWhile (tOf (e2 fNe (eVar j) (eC (.int 0)))) (sAsg (eTup (aCons (eVar j) (aCons (e2 fMod (eVar i) (eVar j)) aNil))) (gT 2 (gsCons (gN i) (gsCons (gN j) gsNil))))) e S QO := by
 have hi : i < e.length := (List.getElem?_eq_some_iff.mp hx).1
 have hj : j < e.length := (List.getElem?_eq_some_iff.mp hy).1
 refine SV_while (fun n e' S' => ∃ u v : Int, n = v.toNat ∧ 0 ≤ u ∧ 0 ≤ v ∧ Int.gcd u v = Int.gcd x y ∧ e' = (e.set i (some (.int u))).set j (some (.int v)) ∧ S' = S) y.toNat ⟨x, y, rfl, hx0, hy0, rfl, by rw [set_self hx, set_self hy], rfl⟩ ?_
 rintro n e' S' ⟨u, v, rfl, hu, hv, hg, rfl, rfl⟩
 have l1 : ((e.set i (some (D.int u))).set j (some (D.int v)))[j]? = some (some (.int v)) := List.getElem?_set_self (by simpa using hj)
 have l2 : ((e.set i (some (D.int u))).set j (some (D.int v)))[i]? = some (some (.int u)) := (List.getElem?_set_ne (Ne.symm hij)).trans (List.getElem?_set_self hi)
 (simp_arith [l1, l2])
 by_cases h0 : v = 0
 ·subst h0
  rw [if_neg (by simp)]
  have : (Int.gcd x y : Int) = u := by rw [← hg]; simp; omega
  rw [this] at q
  exact q
 ·rw [if_pos h0]
  have e1 : u.fmod v = u % v := Int.fmod_eq_emod_of_nonneg _ hv
  have b1 : 0 ≤ u % v := Int.emod_nonneg _ h0
  have b2 : u % v < v := Int.emod_lt_of_pos _ (by omega)
  refine ⟨h0, rfl, (fun n hn => nomatch hn), (u % v).toNat, by omega, v, u % v, rfl, hv, b1, (gcd_step hu hv h0).trans hg, ?_, rfl⟩
  rw [e1, List.set_comm _ _ (Ne.symm hij), List.set_set, List.set_set]
end
def R (r : Rat) : D := .tup [.int r.num, .int r.den]
theorem mk_num {p : Int} {d : Nat} (h : d ≠ 0) : (mkRat p d).num = p / (p.natAbs.gcd d : Nat) := by rw [← Rat.normalize_eq_mkRat h, Rat.normalize_eq]
theorem mk_den {p : Int} {d : Nat} (h : d ≠ 0) : (mkRat p d).den = d / p.natAbs.gcd d := by rw [← Rat.normalize_eq_mkRat h, Rat.normalize_eq]
theorem R_of {p q : Int} (hq : 0 < q) : D.tup [.int (p.fdiv (Int.gcd p q)), .int (q.fdiv (Int.gcd p q))] = R (mkRat p q.toNat) := by
 have hd : q.toNat ≠ 0 := by omega
 have eg : Int.gcd p q = p.natAbs.gcd q.toNat := by rw [Int.gcd_eq_natAbs_gcd_natAbs]; congr 1; omega
 unfold R
 rw [mk_num hd, mk_den hd, Int.fdiv_eq_ediv_of_nonneg _ (by omega), Int.fdiv_eq_ediv_of_nonneg _ (by omega), eg]
 congr 3
 congr 1
 rw [Int.natCast_ediv]
 congr 1
 omega
theorem R_add {r : Rat} {u d : Int} (hd : 0 < d) : mkRat (r.num * d + u * r.den) ((r.den : Int) * d).toNat = r + mkRat u d.toNat := by
 have e : ((r.den : Int) * d).toNat = r.den * d.toNat := by
  rw [show d = ((d.toNat : Nat) : Int) by omega, ← Int.natCast_mul, Int.toNat_natCast, Int.toNat_natCast]
 have e2 := Rat.mkRat_add_mkRat r.num u (d₁ := r.den) (d₂ := d.toNat) r.den_nz (by omega)
 rw [Rat.mkRat_self] at e2
 rw [e2, e]
 congr 3
 omega
def gcdF : Int → List Int → Int
 | g, [] => g
 | g, n :: ns => gcdF (Int.gcd g n) ns
theorem gcdF_dvd : ∀ (ns : List Int) (g : Int), gcdF g ns ∣ g ∧ ∀ n, n ∈ ns → gcdF g ns ∣ n
 | [], g => ⟨Int.dvd_refl g, fun n h => nomatch h⟩
 | m :: ns, g => by
  obtain ⟨h1, h2⟩ := gcdF_dvd ns (Int.gcd g m)
  have d1 : (Int.gcd g m : Int) ∣ g := Int.gcd_dvd_left ..
  have d2 : (Int.gcd g m : Int) ∣ m := Int.gcd_dvd_right ..
  refine ⟨Int.dvd_trans h1 d1, fun n hn => ?_⟩
  rcases List.mem_cons.mp hn with rfl | hn
  ·exact Int.dvd_trans h1 d2
  ·exact h2 n hn
theorem gcdF_nonneg : ∀ (ns : List Int) (g : Int), 0 ≤ g → 0 ≤ gcdF g ns
 | [], g, h => h
 | m :: ns, g, h => gcdF_nonneg ns _ (by omega)
theorem gcdF_pos {ns : List Int} {g n : Int} (h : 0 ≤ g) (hn : n ∈ ns) (h0 : n ≠ 0) : 0 < gcdF g ns := by
 have h1 := gcdF_nonneg ns g h
 have h2 := (gcdF_dvd ns g).2 n hn
 rcases Int.lt_or_eq_of_le h1 with z | z
 ·exact z
 ·rw [← z] at h2
  exact absurd (Int.zero_dvd.mp h2) h0
theorem gcdF_pair {p q : Int} : gcdF 0 [p, q] = Int.gcd p q := by
 show ((Int.gcd ((Int.gcd 0 p : Nat) : Int) q : Nat) : Int) = _
 rw [Int.gcd_eq_natAbs_gcd_natAbs, Int.gcd_eq_natAbs_gcd_natAbs, Int.gcd_eq_natAbs_gcd_natAbs]
 simp
noncomputable def b_common : SX := sSeq (sAsg (eC (.int 0)) (gN 1)) (sSeq (sFor (iSeq (eVar 0)) (gN 2) (sWhile (tOf (e2 fNe (eVar 2) (eC (.int 0)))) (sPar 1 2 (aCons (eVar 2) (aCons (e2 fMod (eVar 1) (eVar 2)) (aNil)))))) (sRet (eVar 1)))
noncomputable def c_common : Con := den 1 3 0 b_common
theorem CV_common {S : Sto} {x : D} {ns : List Int} {Q : D → Sto → Prop} (hx : seqOf S x = some (ns.map D.int)) (h0 : ∀ n, n ∈ ns → 0 ≤ n) (q : Q (.int (gcdF 0 ns)) S) : CV c_common [x] S Q := by
 refine CV_plain rfl ?_
 unfold b_common
 (simp_arith [hx])
 refine SV_forI (fun r e S' => ∃ g ms u, r = ms.map D.int ∧ (∀ n, n ∈ ms → 0 ≤ n) ∧ 0 ≤ g ∧ e = [some x, some (.int g), u] ∧ gcdF g ms = gcdF 0 ns ∧ S' = S) ⟨0, ns, none, rfl, h0, by omega, rfl, rfl, rfl⟩ ?_ ?_
 ·rintro d r e S' K ⟨g, ms, u, h1, h2, h3, rfl, h4, rfl⟩ hK
  cases ms with
  | nil => cases h1
  | cons m ms =>
   cases h1
   (simp_arith [])
   refine SV_gcdP (x := g) (y := m) (by decide) rfl rfl h3 (h2 m (List.mem_cons_self ..)) ?_
   exact ⟨fun n _ => rfl, hK _ _ ⟨_, ms, _, rfl, fun n hn => h2 n (List.mem_cons_of_mem _ hn), by omega, rfl, h4, rfl⟩⟩
 ·rintro e S' ⟨g, ms, u, h1, h2, h3, rfl, h4, rfl⟩
  cases ms with
  | cons m ms => cases h1
  | nil =>
   (simp_arith [])
   rw [← h4] at q
   exact RtP_same rfl q
theorem sm_ints {ns : List Int} {k : Nat} (h0 : ∀ n, n ∈ ns → 0 ≤ n ∧ n ≤ k) {g n : Int} (hg : 0 ≤ g) (hn : n ∈ ns) (hz : n ≠ 0) (hd : g ∣ n) (hk : k < 2 ^ 9000 := by decide +kernel) : sm g := by
 have h1 := h0 n hn
 have h2 := Int.le_of_dvd (by omega) hd
 exact sm_le k (by omega) hk
theorem gcd_pos {p q : Int} (hq : 0 < q) : 0 < Int.gcd p q := Int.gcd_pos_of_ne_zero_right _ (by omega)
theorem gcd_le {p q : Int} (hq : 0 < q) : (Int.gcd p q : Int) ≤ q := Int.le_of_dvd hq (Int.gcd_dvd_right ..)
def Told (many : Int) (ns : List Int) : Prop := (ns.length : Int) = many ∧ (∀ n, n ∈ ns → 0 ≤ n ∧ n ≤ 1000) ∧ ns.sum = 1000
theorem ex_append {S : Sto} {ds : List D} {d : D} {P : D → List D → Prop} : (∃ v ds', hAppend S ds [d] = some (v, ds') ∧ P v ds') ↔ szOk (ds.length + 1) = true ∧ P .non (ds ++ [d]) := by
 constructor
 ·rintro ⟨v, ds', h, p⟩
  obtain ⟨hz, h⟩ := ite_some (show (if szOk (ds.length + 1) = true then some (D.non, ds ++ [d]) else none) = _ from h)
  cases h
  exact ⟨hz, p⟩
 ·rintro ⟨hz, p⟩
  exact ⟨_, _, (if_pos hz : (if szOk (ds.length + 1) = true then some (D.non, ds ++ [d]) else none) = _), p⟩
theorem St.box {h n m : Nat} {S S2 : Sto} {o : Ob} (t : St h n S S2) (hm : m ≠ h) (e : S[m]? = some o) : S2[m]? = some o :=
 (t.up.at_ m (List.getElem?_eq_some_iff.mp e).1 hm).trans e
theorem RepL.rev {c : C} {m : M} : ∀ {ds : List D} {vs : List V}, RepL c m ds vs → RepL c m ds.reverse vs.reverse
 | [], vs, h => by rw [show vs = [] from h]; exact rfl
 | d :: ds, vs, h => by
  obtain ⟨y, r, rfl, h1, h2⟩ := h
  rw [List.reverse_cons, List.reverse_cons]
  exact (RepL.rev h2).app (RepL.one h1)
def lRev (f : EX) : LX := fun e S => (f e S).bind fun p => (listOf p.2 p.1).map fun ds => (ds.reverse, p.2)
section
variable {X : Cx}
theorem lj_rev {a : Expr} {fa : EX} {k : Nat} {p1 p2 p3 pos : Pos} (he : EJ X a fa) : LJ X (.Subscript a (.Slice none none (some (.UnaryOp .USub (.Constant (.int 1) k p1) p2)) p3) pos) (lRev fa) := pe_wk (pe_revL he) fun σ H Q ⟨Z, m, env, v, S', e, s, er, hf, q⟩ => by
 unfold lRev at hf
 obtain ⟨⟨x, S1⟩, h1, h⟩ := Option.bind_eq_some_iff.mp hf
 obtain ⟨ds, h2, h⟩ := Option.map_eq_some_iff.mp h
 cases h
 refine ⟨Z, m, env, x, _, e, s, er, h1, fun m1 vx e1 t1 rx => ?_⟩
 obtain ⟨p, xs, rfl, hs, rl⟩ := t1.si.list rx (by rw [e1]; exact h2)
 exact ⟨p, xs, rfl, hs, fun l hl => q m1 l _ e1 t1 rl.rev hl⟩
end
theorem AV_rev {f : EX} {e : En} {S : Sto} {QL : List D → Sto → Prop} : AV (lRev f) e S QL ↔ EV f e S fun x S1 => ∃ ds, listOf S1 x = some ds ∧ QL ds.reverse S1 := by
 unfold AV EV lRev
 constructor
 ·rintro ⟨v, S', h, q⟩
  obtain ⟨⟨x, S1⟩, h1, h⟩ := Option.bind_eq_some_iff.mp h
  obtain ⟨ds, h2, h⟩ := Option.map_eq_some_iff.mp h
  cases h
  exact ⟨x, _, h1, ds, h2, q⟩
 ·rintro ⟨x, S1, h1, ds, h2, q⟩
  exact ⟨_, _, by rw [h1]; show (listOf S1 x).map _ = _; rw [h2]; rfl, q⟩
theorem FnG.none_ {P : Program} {w : World} {K : PySem.W.Frag} {mg : Str → Option Value} {base : Heap} {k : Nat} {f : Addr} {fd : FuncData} {ps : List Str} : FnG P w K mg base k f fd ps (fun _ _ => none) :=
 ⟨(fun _ _ _ h => nomatch h), fun _ _ _ _ _ _ _ _ _ _ _ _ _ ⟨_, _, _, _, _, _, _, _, h, _⟩ => nomatch h⟩
theorem Wd : (("fig" : Str) = ("reg" : Str)) = False ∧ (("fig" : Str) = ("share" : Str)) = False ∧ (("fig" : Str) = ("times" : Str)) = False ∧ (("fig" : Str) = ("by" : Str)) = False ∧ (("fig" : Str) = ("when" : Str)) = False ∧ (("fig" : Str) = ("where" : Str)) = False ∧ (("fig" : Str) = ("sum" : Str)) = False ∧ (("fig" : Str) = ("less" : Str)) = False ∧ (("fig" : Str) = ("least" : Str)) = False ∧ (("fig" : Str) = ("most" : Str)) = False ∧ (("fig" : Str) = ("leaf" : Str)) = False ∧ (("reg" : Str) = ("fig" : Str)) = False ∧ (("reg" : Str) = ("share" : Str)) = False ∧ (("reg" : Str) = ("times" : Str)) = False ∧ (("reg" : Str) = ("by" : Str)) = False ∧ (("reg" : Str) = ("when" : Str)) = False ∧ (("reg" : Str) = ("where" : Str)) = False ∧ (("reg" : Str) = ("sum" : Str)) = False ∧ (("reg" : Str) = ("less" : Str)) = False ∧ (("reg" : Str) = ("least" : Str)) = False ∧ (("reg" : Str) = ("most" : Str)) = False ∧ (("reg" : Str) = ("leaf" : Str)) = False ∧ (("share" : Str) = ("fig" : Str)) = False ∧ (("share" : Str) = ("reg" : Str)) = False ∧ (("share" : Str) = ("times" : Str)) = False ∧ (("share" : Str) = ("by" : Str)) = False ∧ (("share" : Str) = ("when" : Str)) = False ∧ (("share" : Str) = ("where" : Str)) = False ∧ (("share" : Str) = ("sum" : Str)) = False ∧ (("share" : Str) = ("less" : Str)) = False ∧ (("share" : Str) = ("least" : Str)) = False ∧ (("share" : Str) = ("most" : Str)) = False ∧ (("share" : Str) = ("leaf" : Str)) = False ∧ (("times" : Str) = ("fig" : Str)) = False ∧ (("times" : Str) = ("reg" : Str)) = False ∧ (("times" : Str) = ("share" : Str)) = False ∧ (("times" : Str) = ("by" : Str)) = False ∧ (("times" : Str) = ("when" : Str)) = False ∧ (("times" : Str) = ("where" : Str)) = False ∧ (("times" : Str) = ("sum" : Str)) = False ∧ (("times" : Str) = ("less" : Str)) = False ∧ (("times" : Str) = ("least" : Str)) = False ∧ (("times" : Str) = ("most" : Str)) = False ∧ (("times" : Str) = ("leaf" : Str)) = False ∧ (("by" : Str) = ("fig" : Str)) = False ∧ (("by" : Str) = ("reg" : Str)) = False ∧ (("by" : Str) = ("share" : Str)) = False ∧ (("by" : Str) = ("times" : Str)) = False ∧ (("by" : Str) = ("when" : Str)) = False ∧ (("by" : Str) = ("where" : Str)) = False ∧ (("by" : Str) = ("sum" : Str)) = False ∧ (("by" : Str) = ("less" : Str)) = False ∧ (("by" : Str) = ("least" : Str)) = False ∧ (("by" : Str) = ("most" : Str)) = False ∧ (("by" : Str) = ("leaf" : Str)) = False ∧ (("when" : Str) = ("fig" : Str)) = False ∧ (("when" : Str) = ("reg" : Str)) = False ∧ (("when" : Str) = ("share" : Str)) = False ∧ (("when" : Str) = ("times" : Str)) = False ∧ (("when" : Str) = ("by" : Str)) = False ∧ (("when" : Str) = ("where" : Str)) = False ∧ (("when" : Str) = ("sum" : Str)) = False ∧ (("when" : Str) = ("less" : Str)) = False ∧ (("when" : Str) = ("least" : Str)) = False ∧ (("when" : Str) = ("most" : Str)) = False ∧ (("when" : Str) = ("leaf" : Str)) = False ∧ (("where" : Str) = ("fig" : Str)) = False ∧ (("where" : Str) = ("reg" : Str)) = False ∧ (("where" : Str) = ("share" : Str)) = False ∧ (("where" : Str) = ("times" : Str)) = False ∧ (("where" : Str) = ("by" : Str)) = False ∧ (("where" : Str) = ("when" : Str)) = False ∧ (("where" : Str) = ("sum" : Str)) = False ∧ (("where" : Str) = ("less" : Str)) = False ∧ (("where" : Str) = ("least" : Str)) = False ∧ (("where" : Str) = ("most" : Str)) = False ∧ (("where" : Str) = ("leaf" : Str)) = False ∧ (("sum" : Str) = ("fig" : Str)) = False ∧ (("sum" : Str) = ("reg" : Str)) = False ∧ (("sum" : Str) = ("share" : Str)) = False ∧ (("sum" : Str) = ("times" : Str)) = False ∧ (("sum" : Str) = ("by" : Str)) = False ∧ (("sum" : Str) = ("when" : Str)) = False ∧ (("sum" : Str) = ("where" : Str)) = False ∧ (("sum" : Str) = ("less" : Str)) = False ∧ (("sum" : Str) = ("least" : Str)) = False ∧ (("sum" : Str) = ("most" : Str)) = False ∧ (("sum" : Str) = ("leaf" : Str)) = False ∧ (("less" : Str) = ("fig" : Str)) = False ∧ (("less" : Str) = ("reg" : Str)) = False ∧ (("less" : Str) = ("share" : Str)) = False ∧ (("less" : Str) = ("times" : Str)) = False ∧ (("less" : Str) = ("by" : Str)) = False ∧ (("less" : Str) = ("when" : Str)) = False ∧ (("less" : Str) = ("where" : Str)) = False ∧ (("less" : Str) = ("sum" : Str)) = False ∧ (("less" : Str) = ("least" : Str)) = False ∧ (("less" : Str) = ("most" : Str)) = False ∧ (("less" : Str) = ("leaf" : Str)) = False ∧ (("least" : Str) = ("fig" : Str)) = False ∧ (("least" : Str) = ("reg" : Str)) = False ∧ (("least" : Str) = ("share" : Str)) = False ∧ (("least" : Str) = ("times" : Str)) = False ∧ (("least" : Str) = ("by" : Str)) = False ∧ (("least" : Str) = ("when" : Str)) = False ∧ (("least" : Str) = ("where" : Str)) = False ∧ (("least" : Str) = ("sum" : Str)) = False ∧ (("least" : Str) = ("less" : Str)) = False ∧ (("least" : Str) = ("most" : Str)) = False ∧ (("least" : Str) = ("leaf" : Str)) = False ∧ (("most" : Str) = ("fig" : Str)) = False ∧ (("most" : Str) = ("reg" : Str)) = False ∧ (("most" : Str) = ("share" : Str)) = False ∧ (("most" : Str) = ("times" : Str)) = False ∧ (("most" : Str) = ("by" : Str)) = False ∧ (("most" : Str) = ("when" : Str)) = False ∧ (("most" : Str) = ("where" : Str)) = False ∧ (("most" : Str) = ("sum" : Str)) = False ∧ (("most" : Str) = ("less" : Str)) = False ∧ (("most" : Str) = ("least" : Str)) = False ∧ (("most" : Str) = ("leaf" : Str)) = False ∧ (("leaf" : Str) = ("fig" : Str)) = False ∧ (("leaf" : Str) = ("reg" : Str)) = False ∧ (("leaf" : Str) = ("share" : Str)) = False ∧ (("leaf" : Str) = ("times" : Str)) = False ∧ (("leaf" : Str) = ("by" : Str)) = False ∧ (("leaf" : Str) = ("when" : Str)) = False ∧ (("leaf" : Str) = ("where" : Str)) = False ∧ (("leaf" : Str) = ("sum" : Str)) = False ∧ (("leaf" : Str) = ("less" : Str)) = False ∧ (("leaf" : Str) = ("least" : Str)) = False ∧ (("leaf" : Str) = ("most" : Str)) = False := by
 refine ⟨?_, ?_, ?_, ?_, ?_, ?_, ?_, ?_, ?_, ?_, ?_, ?_, ?_, ?_, ?_, ?_, ?_, ?_, ?_, ?_, ?_, ?_, ?_, ?_, ?_, ?_, ?_, ?_, ?_, ?_, ?_, ?_, ?_, ?_, ?_, ?_, ?_, ?_, ?_, ?_, ?_, ?_, ?_, ?_, ?_, ?_, ?_, ?_, ?_, ?_, ?_, ?_, ?_, ?_, ?_, ?_, ?_, ?_, ?_, ?_, ?_, ?_, ?_, ?_, ?_, ?_, ?_, ?_, ?_, ?_, ?_, ?_, ?_, ?_, ?_, ?_, ?_, ?_, ?_, ?_, ?_, ?_, ?_, ?_, ?_, ?_, ?_, ?_, ?_, ?_, ?_, ?_, ?_, ?_, ?_, ?_, ?_, ?_, ?_, ?_, ?_, ?_, ?_, ?_, ?_, ?_, ?_, ?_, ?_, ?_, ?_, ?_, ?_, ?_, ?_, ?_, ?_, ?_, ?_, ?_, ?_, ?_, ?_, ?_, ?_, ?_, ?_, ?_, ?_, ?_, ?_, ?_⟩ <;> exact eq_false (by decide)
inductive Xp where
 | fig (n : Int)
 | reg (i : Nat)
 | shr (i : Nat)
 | tim (n : Int) (a : Xp)
 | byr (i : Nat) (a : Xp)
 | whn (i : Nat) (f : Int) (a b : Xp)
 | whr (i : Nat) (f : Int) (a b : Xp)
 | sum (a b : Xp)
 | les (a b : Xp)
 | lst (a b : Xp)
 | mst (a b : Xp)
def exD : Xp → D
 | .fig n => .tup [.str "fig", .int n]
 | .reg i => .tup [.str "reg", .int i]
 | .shr i => .tup [.str "share", .int i]
 | .tim n a => .tup [.str "times", .int n, exD a]
 | .byr i a => .tup [.str "by", .int i, exD a]
 | .whn i f a b => .tup [.str "when", .int i, .int f, exD a, exD b]
 | .whr i f a b => .tup [.str "where", .int i, .int f, exD a, exD b]
 | .sum a b => .tup [.str "sum", exD a, exD b]
 | .les a b => .tup [.str "less", exD a, exD b]
 | .lst a b => .tup [.str "least", exD a, exD b]
 | .mst a b => .tup [.str "most", exD a, exD b]
def exOk (many : Nat) : Xp → Prop
 | .fig n => -1000 ≤ n ∧ n ≤ 1000
 | .reg i => i < 4
 | .shr i => i < many
 | .tim n a => -9 ≤ n ∧ n ≤ 9 ∧ exOk many a
 | .byr i a => i < 4 ∧ exOk many a
 | .whn i f a b => i < 4 ∧ -1000 ≤ f ∧ f ≤ 1000 ∧ exOk many a ∧ exOk many b
 | .whr i f a b => i < many ∧ 1 ≤ f ∧ f ≤ 1000 ∧ exOk many a ∧ exOk many b
 | .sum a b => exOk many a ∧ exOk many b
 | .les a b => exOk many a ∧ exOk many b
 | .lst a b => exOk many a ∧ exOk many b
 | .mst a b => exOk many a ∧ exOk many b
def lev : Xp → Nat
 | .fig _ => 0
 | .reg _ => 0
 | .shr _ => 0
 | .tim _ a => lev a + 1
 | .byr _ a => lev a + 1
 | .whn _ _ a b => max (lev a) (lev b) + 1
 | .whr _ _ a b => max (lev a) (lev b) + 1
 | .sum a b => max (lev a) (lev b) + 1
 | .les a b => max (lev a) (lev b) + 1
 | .lst a b => max (lev a) (lev b) + 1
 | .mst a b => max (lev a) (lev b) + 1
theorem getD_at {ns : List Int} {i : Nat} (hi : i < ns.length) : atI (ns.map D.int) (i : Int) = some (.int (ns.getD i 0)) := by
 rw [at_nat, List.getElem?_map, List.getD_eq_getElem?_getD, List.getElem?_eq_getElem hi]
 rfl
theorem getD_mem {ns : List Int} {i : Nat} (hi : i < ns.length) : ns.getD i 0 ∈ ns := by
 rw [List.getD_eq_getElem?_getD, List.getElem?_eq_getElem hi]
 exact List.getElem_mem hi
theorem sum_pos_mem : ∀ ns : List Int, (∀ n, n ∈ ns → 0 ≤ n) → 0 ≤ ns.sum ∧ ∀ n, n ∈ ns → n ≤ ns.sum
 | [], _ => ⟨by simp, fun n h => nomatch h⟩
 | m :: ns, h => by
  obtain ⟨h1, h2⟩ := sum_pos_mem ns fun n hn => h n (List.mem_cons_of_mem _ hn)
  have h3 := h m (List.mem_cons_self ..)
  rw [List.sum_cons]
  refine ⟨by omega, fun n hn => ?_⟩
  rcases List.mem_cons.mp hn with rfl | hn
  ·omega
  ·have := h2 n hn
   omega
def wv (rs sh : List Int) : Xp → Int
 | .fig n => n * sh.sum
 | .reg i => rs.getD i 0 * sh.sum
 | .shr i => 1000 * sh.getD i 0
 | .tim n a => n * wv rs sh a
 | .byr i a => rs.getD i 0 * wv rs sh a
 | .whn i f a b => if rs.getD i 0 < f then wv rs sh a else wv rs sh b
 | .whr i f a b => if 1000 * sh.getD i 0 < f * sh.sum then wv rs sh a else wv rs sh b
 | .sum a b => wv rs sh a + wv rs sh b
 | .les a b => wv rs sh a - wv rs sh b
 | .lst a b => if wv rs sh b < wv rs sh a then wv rs sh b else wv rs sh a
 | .mst a b => if wv rs sh b > wv rs sh a then wv rs sh b else wv rs sh a
structure Ctx (many : Nat) (rs sh : List Int) : Prop where
 rl : rs.length = 4
 rb : ∀ r, r ∈ rs → -1000 ≤ r ∧ r ≤ 1000
 sl : sh.length = many
 sp : ∀ s, s ∈ sh → 0 ≤ s
 st : sh.sum ≤ 10 ^ 20
section
variable {many : Nat} {rs sh : List Int}
theorem Ctx.s (c : Ctx many rs sh) {i : Nat} (hi : i < many) : 0 ≤ sh.getD i 0 ∧ sh.getD i 0 ≤ sh.sum := by
 have h := getD_mem (ns := sh) (i := i) (by rw [c.sl]; exact hi)
 exact ⟨c.sp _ h, (sum_pos_mem sh c.sp).2 _ h⟩
theorem Ctx.tot (c : Ctx many rs sh) : 0 ≤ sh.sum ∧ sh.sum ≤ 10 ^ 20 := ⟨(sum_pos_mem sh c.sp).1, c.st⟩
theorem sm_k {a : Int} (h : a.natAbs ≤ 10 ^ 30) : sm a := sm_le (10 ^ 30) h
end
def isTup : D → Bool
 | .tup _ => true
 | _ => false
def tc (ds : List D) : Nat := (ds.filter isTup).length
theorem ex_extend {S : Sto} {ds es : List D} {P : D → List D → Prop} : (∃ v ds', hExtend S ds [.lst es] = some (v, ds') ∧ P v ds') ↔ szOk (ds.length + es.length) = true ∧ P .non (ds ++ es) := by
 constructor
 ·rintro ⟨v, ds', h, p⟩
  obtain ⟨hz, h⟩ := ite_some (show (if szOk (ds.length + es.length) = true then some (D.non, ds ++ es) else none) = _ from h)
  cases h
  exact ⟨hz, p⟩
 ·rintro ⟨hz, p⟩
  exact ⟨_, _, (if_pos hz : (if szOk (ds.length + es.length) = true then some (D.non, ds ++ es) else none) = _), p⟩
theorem set_last {S : Sto} {a b : Ob} : (S ++ [a]).set S.length b = S ++ [b] := by
 rw [List.set_append_right _ _ (Nat.le_refl _), Nat.sub_self]
 rfl
theorem box_last {S : Sto} {ds : List D} : boxAt (S ++ [.lst ds]) S.length = some ds := box_of (by simp)
noncomputable def b_is_whole : SX := sRet (eAnd (e1 (gIs "int") (eVar 0)) (eAnd (e1 fNot (e1 (gIs "bool") (eVar 0))) (eAnd (e2 fLe (eVar 1) (eVar 0)) (eOr (e2 fIs (eVar 2) (eC .non)) (e2 fLe (eVar 0) (eVar 2))))))
noncomputable def c_is_whole : Con := den 3 3 0 b_is_whole
inductive Yp where
 | fig (n : Int)
 | reg (n : Int)
 | shr (n : Int)
 | tim (n : Int) (a : Yp)
 | byr (n : Int) (a : Yp)
 | whn (i f : Int) (a b : Yp)
 | whr (i f : Int) (a b : Yp)
 | sum (a b : Yp)
 | les (a b : Yp)
 | lst (a b : Yp)
 | mst (a b : Yp)
def yD : Yp → D
 | .fig n => .tup [.str "fig", .int n]
 | .reg i => .tup [.str "reg", .int i]
 | .shr i => .tup [.str "share", .int i]
 | .tim n a => .tup [.str "times", .int n, yD a]
 | .byr i a => .tup [.str "by", .int i, yD a]
 | .whn i f a b => .tup [.str "when", .int i, .int f, yD a, yD b]
 | .whr i f a b => .tup [.str "where", .int i, .int f, yD a, yD b]
 | .sum a b => .tup [.str "sum", yD a, yD b]
 | .les a b => .tup [.str "less", yD a, yD b]
 | .lst a b => .tup [.str "least", yD a, yD b]
 | .mst a b => .tup [.str "most", yD a, yD b]
def iw (z lo hi : Int) : Bool := decide (lo ≤ z) && decide (z ≤ hi)
def siz : Yp → Nat
 | .fig _ => 1
 | .reg _ => 1
 | .shr _ => 1
 | .tim _ a => 1 + siz a
 | .byr _ a => 1 + siz a
 | .whn _ _ a b => 1 + (siz a + siz b)
 | .whr _ _ a b => 1 + (siz a + siz b)
 | .sum a b => 1 + (siz a + siz b)
 | .les a b => 1 + (siz a + siz b)
 | .lst a b => 1 + (siz a + siz b)
 | .mst a b => 1 + (siz a + siz b)
def deep : Yp → Nat
 | .fig _ => 1
 | .reg _ => 1
 | .shr _ => 1
 | .tim _ a => 1 + deep a
 | .byr _ a => 1 + deep a
 | .whn _ _ a b => 1 + max (deep a) (deep b)
 | .whr _ _ a b => 1 + max (deep a) (deep b)
 | .sum a b => 1 + max (deep a) (deep b)
 | .les a b => 1 + max (deep a) (deep b)
 | .lst a b => 1 + max (deep a) (deep b)
 | .mst a b => 1 + max (deep a) (deep b)
theorem r_isIi {S : Sto} {z : Int} : gIs "int" S (.int z) = some (.bl true) := by
 show (kitB "int" "int").map D.bl = _
 rw [show kitB "int" "int" = some true by decide +kernel]
 rfl
theorem r_isBi {S : Sto} {z : Int} : gIs "bool" S (.int z) = some (.bl false) := by
 show (kitB "int" "bool").map D.bl = _
 rw [show kitB "int" "bool" = some false by decide +kernel]
 rfl
theorem beqS {u v : Str} : (u == v) = decide (u = v) := by
 by_cases h : u = v
 ·subst h; simp
 ·rw [decide_eq_false h]; exact beq_eq_false_iff_ne.mpr h
abbrev Wt := Yp × Nat
structure Fit (p : Wt) : Prop where
 sh : shortB 13 (yD p.1) = true
 dp : dep (yD p.1) ≤ 50
 lv : p.2 ≤ 1000
section
variable {X : Cx} {a b c d : Expr} {ta tb tc td : TE} {pos : Pos}
end
def eChain3 (f g h : F2) (a b c d : EX) : EX := fun e S => (a e S).bind fun p => (b e p.2).bind fun q => (f q.2 p.1 q.1).bind fun t => match t with
 | .bl true => (c e q.2).bind fun r => (g r.2 q.1 r.1).bind fun t2 => match t2 with
   | .bl true => (d e r.2).bind fun u => (h u.2 r.1 u.1).map fun v => (v, u.2)
   | .bl false => some (.bl false, r.2)
   | _ => none
 | .bl false => some (.bl false, q.2)
 | _ => none
section
variable {fa fb fc fd : EX}
variable {X : Cx} {a b c d : Expr} {pos : Pos}
end
theorem EV_chain3 {e : En} {S : Sto} {Q : D → Sto → Prop} {f g h : F2} {a b c d : EX} : EV (eChain3 f g h a b c d) e S Q ↔ EV a e S fun x S1 => EV b e S1 fun y S2 => BV (f S2 x y) fun t => ∃ k, t = .bl k ∧
  if k = true then EV c e S2 fun z S3 => BV (g S3 y z) fun t2 => ∃ k2, t2 = .bl k2 ∧ if k2 = true then EV d e S3 fun u S4 => BV (h S4 z u) fun v => Q v S4 else Q (.bl false) S3 else Q (.bl false) S2 := by
 unfold EV eChain3 BV
 constructor
 ·rintro ⟨v, S', hh, q⟩
  obtain ⟨⟨x, S1⟩, h1, hh⟩ := Option.bind_eq_some_iff.mp hh
  obtain ⟨⟨y, S2⟩, h2, hh⟩ := Option.bind_eq_some_iff.mp hh
  obtain ⟨t, h3, hh⟩ := Option.bind_eq_some_iff.mp hh
  refine ⟨x, S1, h1, y, S2, h2, t, h3, ?_⟩
  cases t <;> first | exact no2 hh | skip
  rename_i k
  refine ⟨k, rfl, ?_⟩
  cases k with
  | true =>
   obtain ⟨⟨z, S3⟩, h4, hh⟩ := Option.bind_eq_some_iff.mp (show (c e S2).bind _ = _ from hh)
   obtain ⟨t2, h5, hh⟩ := Option.bind_eq_some_iff.mp hh
   refine ⟨z, _, h4, t2, h5, ?_⟩
   cases t2 <;> first | exact no2 hh | skip
   rename_i k2
   refine ⟨k2, rfl, ?_⟩
   cases k2 with
   | true =>
    obtain ⟨⟨u, S4⟩, h6, hh⟩ := Option.bind_eq_some_iff.mp (show (d e S3).bind _ = _ from hh)
    obtain ⟨w, h7, hh⟩ := Option.map_eq_some_iff.mp hh
    cases hh
    exact ⟨u, _, h6, _, h7, q⟩
   | false => cases hh; exact q
  | false => cases hh; exact q
 ·rintro ⟨x, S1, h1, y, S2, h2, t, h3, k, rfl, hh⟩
  rw [h1]
  show ∃ v S', (b e S1).bind _ = _ ∧ _
  rw [h2]
  show ∃ v S', (f S2 x y).bind _ = _ ∧ _
  rw [h3]
  cases k with
  | true =>
   obtain ⟨z, S3, h4, t2, h5, k2, rfl, hh⟩ := hh
   show ∃ v S', (c e S2).bind _ = _ ∧ _
   rw [h4]
   show ∃ v S', (g S3 y z).bind _ = _ ∧ _
   rw [h5]
   cases k2 with
   | true =>
    obtain ⟨u, S4, h6, w, h7, q⟩ := hh
    show ∃ v S', (d e S3).bind _ = _ ∧ _
    rw [h6]
    show ∃ v S', (h S4 z u).map _ = _ ∧ _
    rw [h7]
    exact ⟨_, _, rfl, q⟩
   | false => exact ⟨_, _, rfl, hh⟩
  | false => exact ⟨_, _, rfl, hh⟩
def rgC (i c : Int) (n : Nat) : List D := (List.range n).map fun (k : Nat) => D.int (i + (k : Int) * c)
def rg3Ok (i j c : Int) : Bool := decide (c ≠ 0) && decide (c.natAbs < 1073741824) && Builtin.Range.small i j c && decide (0 ≤ Builtin.Range.rangeSize i j c)
def iRg3 (f g h : EX) : IX := fun e S => (f e S).bind fun p => (g e p.2).bind fun q => (h e q.2).bind fun r => match p.1, q.1, r.1 with
 | .int i, .int j, .int c => if rg3Ok i j c = true then some (rgC i c (Builtin.Range.rangeSize i j c).toNat, [], r.2) else none
 | _, _, _ => none
section
variable {X : Cx} {tg e e2 e3 : Expr} {f g h : EX} {p pos : Pos}
end
theorem IV_rg3 {e : En} {S : Sto} {QI : List D → List Nat → Sto → Prop} {f g h : EX} : IV (iRg3 f g h) e S QI ↔ EV f e S fun d S1 => EV g e S1 fun d2 S2 => EV h e S2 fun d3 S3 => ∃ i j c, d = .int i ∧ d2 = .int j ∧ d3 = .int c ∧ rg3Ok i j c = true ∧ QI (rgC i c (Builtin.Range.rangeSize i j c).toNat) [] S3 := by
 unfold IV EV iRg3
 constructor
 ·rintro ⟨ds, gs, S', hh, q⟩
  obtain ⟨⟨d, S1⟩, h1, hh⟩ := Option.bind_eq_some_iff.mp hh
  obtain ⟨⟨d2, S2⟩, h2, hh⟩ := Option.bind_eq_some_iff.mp hh
  obtain ⟨⟨d3, S3⟩, h3, hh⟩ := Option.bind_eq_some_iff.mp hh
  cases d <;> first | exact no2 hh | skip
  cases d2 <;> first | exact no2 hh | skip
  cases d3 <;> first | exact no2 hh | skip
  obtain ⟨hz, hh⟩ := ite_some hh
  cases hh
  exact ⟨_, S1, h1, _, S2, h2, _, S3, h3, _, _, _, rfl, rfl, rfl, hz, q⟩
 ·rintro ⟨d, S1, h1, d2, S2, h2, d3, S3, h3, i, j, c, rfl, rfl, rfl, hz, q⟩
  exact ⟨_, _, _, by rw [h1]; show (g e S1).bind _ = _; rw [h2]; show (h e S2).bind _ = _; rw [h3]; show (if rg3Ok i j c = true then _ else _) = _; rw [if_pos hz], q⟩
def lRg1 (f : EX) : LX := fun e S => (f e S).bind fun p => match p.1 with
 | .int j => if (decide (j ≤ 16777216) && rgOk j) = true then some (rgD 0 j, p.2) else none
 | _ => none
section
variable {X : Cx} {e : Expr} {f : EX} {p p2 pos pos2 : Pos}
end
theorem AV_rg1 {f : EX} {e : En} {S : Sto} {QL : List D → Sto → Prop} : AV (lRg1 f) e S QL ↔ EV f e S fun x S1 => ∃ j, x = .int j ∧ (decide (j ≤ 16777216) && rgOk j) = true ∧ QL (rgD 0 j) S1 := by
 unfold AV EV lRg1
 constructor
 ·rintro ⟨v, S', h, q⟩
  obtain ⟨⟨x, S1⟩, h1, h⟩ := Option.bind_eq_some_iff.mp h
  cases x <;> first | exact no2 h | skip
  obtain ⟨hz, h⟩ := ite_some h
  cases h
  exact ⟨_, _, h1, _, rfl, hz, q⟩
 ·rintro ⟨x, S1, h1, j, rfl, hz, q⟩
  exact ⟨_, _, by rw [h1]; show (if _ then _ else _) = _; rw [if_pos hz], q⟩
def eDct (ks : List Key) (ga : AX) : EX := fun e S => (ga e S).bind fun p => if p.1.length = ks.length ∧ ks.length ≤ 15 ∧ ks.Nodup then some (.dic ks p.1, p.2) else none
structure PJ (X : Cx) (pos : Pos) (keys : List (Option Expr)) (values : List Expr) (ks : List Key) (ga : AX) : Prop where
 ex : ∃ trs, PPs X pos keys values trs ∧ ∀ σ H Q, tA X.K ga σ H (fun vs H' => Q ((ks.map kV).zip vs) H') → tPairs trs σ H Q
 len : keys.length = ks.length
 len2 : keys.length = values.length
 all : keys.all (·.isSome) = true
section
variable {X : Cx} {k v : Expr} {keys : List (Option Expr)} {values : List Expr} {ks : List Key} {ga : AX} {f : EX} {pos : Pos}
end
section
variable {X : Cx} {keys : List (Option Expr)} {values : List Expr} {ks : List Key} {ga : AX} {pos : Pos}
end
theorem EV_dct {e : En} {S : Sto} {Q : D → Sto → Prop} {ks : List Key} {ga : AX} : EV (eDct ks ga) e S Q ↔ AV ga e S fun ds S1 => (ds.length = ks.length ∧ ks.length ≤ 15 ∧ ks.Nodup) ∧ Q (.dic ks ds) S1 := by
 unfold EV AV eDct
 constructor
 ·rintro ⟨v, S', h, q⟩
  obtain ⟨⟨r, S1⟩, q1, h⟩ := Option.bind_eq_some_iff.mp h
  obtain ⟨hz, h⟩ := ite_some h
  cases h
  exact ⟨r, _, q1, hz, q⟩
 ·rintro ⟨r, S1, q1, hz, q⟩
  exact ⟨_, _, by rw [q1]; show (if _ then _ else _) = _; rw [if_pos hz], q⟩
def keyOf : D → Option Key
 | .int i => some (.inl i)
 | .str x => some (.inr x)
 | _ => none
section
variable {X : Cx} {a b : Expr} {fa fb : EX} {pos : Pos}
end
theorem LV_fold {g : GX} {tt : TX} {te : EX} {gs : List Nat} {S0 : Sto} {e0 : En} {ds : List D} {S : Sto} {P : List D → Sto → Prop} : (∃ out S2, lcL g tt te gs S0 e0 ds S = some (out, S2) ∧ P out S2) ↔ LV g tt te gs S0 e0 ds S P := Iff.rfl
theorem stay_nil {P : Nat → Prop} : (∀ n, n ∈ ([] : List Nat) → P n) = True := by simp
theorem sz_0 : szOk 0 = true := rfl
theorem sz_1 : szOk 1 = true := rfl
theorem sz_2 : szOk 2 = true := rfl
theorem sz_3 : szOk 3 = true := rfl
theorem sz_4 : szOk 4 = true := rfl
theorem sz_5 : szOk 5 = true := rfl
theorem sz_6 : szOk 6 = true := rfl
theorem m2_2 {a b : D} : atI [a, b] (-2) = some a := rfl
theorem m1_2 {a b : D} : atI [a, b] (-1) = some b := rfl
theorem m2_3 {a b c : D} : atI [a, b, c] (-2) = some b := rfl
theorem m1_3 {a b c : D} : atI [a, b, c] (-1) = some c := rfl
theorem m2_5 {a b c d e : D} : atI [a, b, c, d, e] (-2) = some d := rfl
theorem m1_5 {a b c d e : D} : atI [a, b, c, d, e] (-1) = some e := rfl
theorem r_in3 {S : Sto} {u a b c : Str} : fIn S (.str u) (.tup [.str a, .str b, .str c]) = some (.bl (a == u || (b == u || (c == u || false)))) := rfl
theorem r_in2 {S : Sto} {u a b : Str} : fIn S (.str u) (.tup [.str a, .str b]) = some (.bl (a == u || (b == u || false))) := rfl
theorem r_min2L {S : Sto} {a b : Int} : gMin1 S (.lst [.int a, .int b]) = some (.int (if b < a then b else a)) := by
 show some (D.int (min a b)) = _
 congr 2
 split <;> omega
theorem r_max2L {S : Sto} {a b : Int} : gMax1 S (.lst [.int a, .int b]) = some (.int (if b > a then b else a)) := by
 show some (D.int (max a b)) = _
 congr 2
 split <;> omega
def sp : Xp → Int × Int
 | .fig n => (n, n)
 | .reg _ => (-1000, 1000)
 | .shr _ => (0, 1000)
 | .tim n a => (if n * (sp a).2 < n * (sp a).1 then n * (sp a).2 else n * (sp a).1, if n * (sp a).2 > n * (sp a).1 then n * (sp a).2 else n * (sp a).1)
 | .byr _ a => (-1000 * (if (if (sp a).2 < 0 then -(sp a).2 else (sp a).2) > (if (sp a).1 < 0 then -(sp a).1 else (sp a).1) then (if (sp a).2 < 0 then -(sp a).2 else (sp a).2) else (if (sp a).1 < 0 then -(sp a).1 else (sp a).1)),
   1000 * (if (if (sp a).2 < 0 then -(sp a).2 else (sp a).2) > (if (sp a).1 < 0 then -(sp a).1 else (sp a).1) then (if (sp a).2 < 0 then -(sp a).2 else (sp a).2) else (if (sp a).1 < 0 then -(sp a).1 else (sp a).1)))
 | .whn _ _ a b => (if (sp b).1 < (sp a).1 then (sp b).1 else (sp a).1, if (sp b).2 > (sp a).2 then (sp b).2 else (sp a).2)
 | .whr _ _ a b => (if (sp b).1 < (sp a).1 then (sp b).1 else (sp a).1, if (sp b).2 > (sp a).2 then (sp b).2 else (sp a).2)
 | .sum a b => ((sp a).1 + (sp b).1, (sp a).2 + (sp b).2)
 | .les a b => ((sp a).1 - (sp b).2, (sp a).2 - (sp b).1)
 | .lst a b => (if (sp b).1 < (sp a).1 then (sp b).1 else (sp a).1, if (sp b).2 < (sp a).2 then (sp b).2 else (sp a).2)
 | .mst a b => (if (sp b).1 > (sp a).1 then (sp b).1 else (sp a).1, if (sp b).2 > (sp a).2 then (sp b).2 else (sp a).2)
theorem ifs {p : Prop} [Decidable p] {x y : Int} (h1 : sm x) (h2 : sm y) : sm (if p then x else y) := by split; exact h1; exact h2
def ct : Xp → Int × Int
 | .fig _ => (1, 0)
 | .reg _ => (1, 0)
 | .shr _ => (1, 0)
 | .tim _ a => ct a
 | .byr _ a => ct a
 | .whn _ _ a b => (if (ct b).1 > (ct a).1 then (ct b).1 else (ct a).1, if (ct b).2 > (ct a).2 then (ct b).2 else (ct a).2)
 | .whr _ _ a b => ((ct a).1 + (ct b).1, (ct a).2 + (ct b).2 + 1)
 | .sum a b => ((ct a).1 * (ct b).1, (ct a).2 + (ct b).2)
 | .les a b => ((ct a).1 * (ct b).1, (ct a).2 + (ct b).2)
 | .lst a b => ((ct a).1 + (ct b).1, (ct a).2 + (ct b).2 + (ct a).1 * (ct b).1)
 | .mst a b => ((ct a).1 + (ct b).1, (ct a).2 + (ct b).2 + (ct a).1 * (ct b).1)
theorem get_last {S : Sto} {o : Ob} : (S ++ [o])[S.length]? = some o := by simp
def Odds (many : Nat) (sh : List Int) : Prop := sh.length = many ∧ (∀ k, k ∈ sh → 0 ≤ k ∧ k ≤ 10 ^ 12 + 8) ∧ ∃ k, k ∈ sh ∧ k ≠ 0
noncomputable def b_mills : SX := sRet (e2 fDiv (e2 fMul (eC (.int 1000)) (e2 fIx (eVar 0) (eVar 1))) (eCB (fn1 gSum) (aCons (eVar 0) (aNil))))
noncomputable def c_mills : Con := den 2 2 0 b_mills
theorem CV_mills {S : Sto} {many i : Nat} {rs sh : List Int} {Q : D → Sto → Prop} (c : Ctx many rs sh) (hi : i < many) (hp : 0 < sh.sum) (q : Q (.int (1000 * sh.getD i 0 / sh.sum)) S) : CV c_mills [.tup (sh.map D.int), .int i] S Q := by
 refine CV_plain rfl ?_
 unfold b_mills
 have g : atI (sh.map D.int) (i : Int) = some (.int (sh.getD i 0)) := getD_at (by rw [c.sl]; exact hi)
 have s := c.s hi
 have t := c.tot
 (simp_arith [g])
 refine ⟨sm_mul (sm_k (by omega)) (sm_k (by omega)), sm_div (sm_k (by omega)) (by omega), RtP_same rfl ?_⟩
 rw [Int.fdiv_eq_ediv_of_nonneg _ (by omega)]
 exact q
def In (p : Int × Int) (t x : Int) : Prop := p.1 * t ≤ x ∧ x ≤ p.2 * t
mutual
def okD : D → Bool
 | .str x => PyData.strOk (PyData.shown (.str x))
 | .tup xs => okL xs
 | .lst xs => okL xs
 | .rol xs => okL xs
 | .dic _ _ => false
 | .tag _ _ => false
 | .dref _ => false
 | .iref _ _ => false
 | _ => true
def okL : List D → Bool
 | [] => true
 | d :: ds => okD d && okL ds
end
section
variable {X : Cx} {e e2 : Expr} {p pos tp : Pos} {elts : List Expr} {kk : Nat}
end
section
variable {X : Cx} {e e2 : Expr} {p pos tp : Pos} {elts : List Expr} {kk : Nat} {f g : EX}
end
structure Up2 (h p : Nat) (S S2 : Sto) : Prop where
 len : S.length ≤ S2.length
 at_ : ∀ i, i < S.length → i ≠ h → i ≠ p → S2[i]? = S[i]?
structure St2 (h p n : Nat) (ds : List D) (S S2 : Sto) : Prop where
 up : Up2 h p S S2
 eq : S2.length = S.length
 hd : HD n S2 h
 bx : S2[p]? = some (.lst ds)
def fm (ns : List Int) : List Int := firstMet (fun i => ns.getD i 0) ns.length
section
variable {X : Cx} {a : Expr} {ta : TE} {p p2 q pos : Pos} {f : EX}
end
def zipV (S : Sto) (d d2 : D) : Option (List D × List Nat) := match d, d2 with
 | .tup xs, .tup ys => some (zipD xs ys, [])
 | a, b => (listOf S a).bind fun xs => (listOf S b).map fun ys => (zipD xs ys, gsOf a ++ gsOf b)
theorem zip_eq {f g : EX} {e : En} {S S1 S2 : Sto} {d d2 : D} (h1 : f e S = some (d, S1)) (h2 : g e S1 = some (d2, S2)) : iZip' f g e S = (zipV S2 d d2).map fun r => (r.1, r.2, S2) := by
 have gen : ∀ a b : D, ((listOf S2 a).bind fun xs => (listOf S2 b).map fun ys => (zipD xs ys, gsOf a ++ gsOf b, S2)) = ((listOf S2 a).bind fun xs => (listOf S2 b).map fun ys => (zipD xs ys, gsOf a ++ gsOf b)).map fun r => (r.1, r.2, S2) := fun a b => by
  cases listOf S2 a with
  | none => rfl
  | some xs => cases listOf S2 b <;> rfl
 by_cases ht : ∃ xs ys, d = .tup xs ∧ d2 = .tup ys
 ·obtain ⟨xs, ys, rfl, rfl⟩ := ht
  unfold iZip'
  rw [h1]
  show (g e S1).bind _ = _
  rw [h2]
  rfl
 ·have k1 : zipV S2 d d2 = ((listOf S2 d).bind fun xs => (listOf S2 d2).map fun ys => (zipD xs ys, gsOf d ++ gsOf d2)) := by
   unfold zipV
   split
   ·exact absurd ⟨_, _, rfl, rfl⟩ ht
   ·rfl
  have k2 : iZip' f g e S = ((listOf S2 d).bind fun xs => (listOf S2 d2).map fun ys => (zipD xs ys, gsOf d ++ gsOf d2, S2)) := by
   unfold iZip'
   rw [h1]
   show (g e S1).bind _ = _
   rw [h2, Option.bind_some]
   split
   ·rename_i a b
    exact absurd ⟨_, _, by assumption, by assumption⟩ ht
   ·rfl
  rw [k1, k2]
  exact gen _ _
theorem IV_zip {e : En} {S : Sto} {QI : List D → List Nat → Sto → Prop} {f g : EX} : IV (iZip' f g) e S QI ↔ EV f e S fun d S1 => EV g e S1 fun d2 S2 => ∃ r, zipV S2 d d2 = some r ∧ QI r.1 r.2 S2 := by
 constructor
 ·rintro ⟨ds, gs, S', h, q⟩
  obtain ⟨a, b, S1, h1, h2, _⟩ := iZip_inv h
  rw [zip_eq h1 h2] at h
  obtain ⟨r, h3, h⟩ := Option.map_eq_some_iff.mp h
  cases h
  exact ⟨a, S1, h1, b, S', h2, r, h3, q⟩
 ·rintro ⟨a, S1, h1, b, S2, h2, r, h3, q⟩
  exact ⟨r.1, r.2, S2, by rw [zip_eq h1 h2, h3]; rfl, q⟩
inductive De where
 | put (i : Nat) (f : Int)
 | add (i : Nat) (f : Int)
 | cpy (i j : Nat)
 | pls (i j : Nat)
 | tld (i s : Nat)
 | whn (i : Nat) (f : Int) (a b : List De)
mutual
def deD : De → D
 | .put i f => .tup [.str "put", .int i, .int f]
 | .add i f => .tup [.str "add", .int i, .int f]
 | .cpy i j => .tup [.str "copy", .int i, .int j]
 | .pls i j => .tup [.str "plus", .int i, .int j]
 | .tld i s => .tup [.str "told", .int i, .int s]
 | .whn i f a b => .tup [.str "when", .int i, .int f, .tup (deL a), .tup (deL b)]
def deL : List De → List D
 | [] => []
 | d :: ds => deD d :: deL ds
end
mutual
def deOk (many : Nat) : De → Prop
 | .put i f => i < 4 ∧ -1000 ≤ f ∧ f ≤ 1000
 | .add i f => i < 4 ∧ -1000 ≤ f ∧ f ≤ 1000
 | .cpy i j => i < 4 ∧ j < 4
 | .pls i j => i < 4 ∧ j < 4
 | .tld i s => i < 4 ∧ s < many
 | .whn i f a b => i < 4 ∧ -1000 ≤ f ∧ f ≤ 1000 ∧ deOkL many a ∧ deOkL many b
def deOkL (many : Nat) : List De → Prop
 | [] => True
 | d :: ds => deOk many d ∧ deOkL many ds
end
structure Dat (dp c : Nat) (d : D) : Prop where
 br : bare d = true
 sh : shortB 13 d = true
 dp : dep d ≤ dp
 ct : cnt d ≤ c
 ok : okD d = true
structure DatL (dp c : Nat) (ds : List D) : Prop where
 br : bareL ds = true
 sh : shortL 13 ds = true
 dp : depL ds ≤ dp
 ct : cntL ds ≤ c
 ok : okL ds = true
structure Dbt where
 name : Str
 scale : Nat
 rs : List Int
 stakes : List Xp
 deeds : List (List De)
def dsD (ds : List De) : D := .tup (deL ds)
def dbD (d : Dbt) : D := .tup [.str d.name, .int d.scale, .tup (d.rs.map D.int), .tup (d.stakes.map exD), .tup (d.deeds.map dsD)]
structure DbOk (many l : Nat) (d : Dbt) : Prop where
 nm : d.name = "a" ∨ d.name = "doubter" ∨ d.name = "sceptics" ∨ d.name = "zz"
 sc : d.scale < 5
 rl : d.rs.length = 4
 rb : ∀ r, r ∈ d.rs → -1000 ≤ r ∧ r ≤ 1000
 sl : d.stakes.length = many
 st : ∀ e, e ∈ d.stakes → exOk many e ∧ lev e ≤ l + 2 ∧ -500 ≤ (sp e).1 ∧ (sp e).2 ≤ 500
 dl : d.deeds.length = many
 de : ∀ x, x ∈ d.deeds → deOkL many x ∧ x.length ≤ 4 ∧ DatL 3 90 (deL x)
structure One where
 rs : List Int
 weight : Int
 purse : Int
 owed : Int
 days : Int
 got : Int
def onD (d : D) (o : One) : D := .tup [.str "one", d, .tup (o.rs.map D.int), .int o.weight, .int o.purse, .int o.owed, .int o.days, .int o.got]
structure OnOk (o : One) : Prop where
 rl : o.rs.length = 4
 rb : ∀ r, r ∈ o.rs → -1000 ≤ r ∧ r ≤ 1000
 we : 1 ≤ o.weight ∧ o.weight ≤ 10 ^ 12
 pu : 0 ≤ o.purse ∧ o.purse ≤ 3 * 10 ^ 12
 ow : 0 ≤ o.owed ∧ o.owed ≤ 98
 da : 0 ≤ o.days ∧ o.days < 40
 go : -5000000000 ≤ o.got ∧ o.got ≤ 10 ^ 10
section
variable {K : PySem.W.Frag} {m m' : M} {Z : List Addr} {P : Addr}
end
section
variable {X : Cx} {K : PySem.W.Frag}
end
section
variable {X : Cx} {K : PySem.W.Frag} {m : M} {tg e : Expr} {f : EX}
end
def xy : Xp → Yp
 | .fig n => .fig n
 | .reg i => .reg i
 | .shr i => .shr i
 | .tim n a => .tim n (xy a)
 | .byr i a => .byr i (xy a)
 | .whn i f a b => .whn i f (xy a) (xy b)
 | .whr i f a b => .whr i f (xy a) (xy b)
 | .sum a b => .sum (xy a) (xy b)
 | .les a b => .les (xy a) (xy b)
 | .lst a b => .lst (xy a) (xy b)
 | .mst a b => .mst (xy a) (xy b)
def szX (e : Xp) : Nat := siz (xy e)
theorem r_all_true {S : Sto} {α : Type} (ds : List α) : gAll S (.lst (ds.map fun _ => D.bl true)) = some (.bl true) := by
 have e : (ds.map fun _ => D.bl true) = (ds.map fun _ => true).map D.bl := by rw [List.map_map]; rfl
 rw [e, r_allL]
 congr 2
 simp
def nameOk (x : Str) : Bool := decide (1 ≤ x.length) && decide (x.length ≤ 8) && (x.cps.toList.all fun c => !(Builtin.Str.occurrences ("abcdefghijklmnopqrstuvwxyz" : Str) ⟨#[c]⟩ 0 ("abcdefghijklmnopqrstuvwxyz" : Str).length 1).isEmpty)
mutual
def dcnt : De → Nat
 | .whn _ _ a b => 1 + (dcntL a + dcntL b)
 | _ => 1
def dcntL : List De → Nat
 | [] => 0
 | d :: ds => dcnt d + dcntL ds
end
mutual
def dnst : De → Nat
 | .whn _ _ a b => 1 + max (dnstL a) (dnstL b)
 | _ => 1
def dnstL : List De → Nat
 | [] => 0
 | d :: ds => max (dnst d) (dnstL ds)
end
theorem LV_mapG {α : Type} {g : GX} {tt : TX} {te : EX} {gs : List Nat} {S0 S : Sto} {e0 : En} (g0 f : α → D) (hg : ∀ n, n ∈ gs → S[n]? = S0[n]?) : ∀ {xs : List α},
  (∀ a (K : D → Sto → Prop), a ∈ xs → K (f a) S → GV g (g0 a) e0 S fun e1 S1 => TV tt e1 S1 fun b S2 => b = true ∧ EV te e1 S2 K) →
  LV g tt te gs S0 e0 (xs.map g0) S fun out S' => out = xs.map f ∧ S' = S
 | [], _ => LV_nil.mpr ⟨rfl, rfl⟩
 | d :: ds, step => by
  refine LV_cons.mpr ?_
  obtain ⟨e1, S1, h1, b, S2, h2, hb, y, S3, h3, hp, hi⟩ := step d (fun y T => y = f d ∧ T = S) (List.mem_cons_self ..) ⟨rfl, rfl⟩
  subst hb hi hp
  refine ⟨e1, S1, h1, true, S2, h2, ?_⟩
  show (if true = true then _ else _)
  rw [if_pos rfl]
  refine ⟨_, _, h3, hg, (LV_mapG g0 f hg fun d K hd => step d K (List.mem_cons_of_mem _ hd)).imp fun out S' q => ⟨by rw [q.1]; rfl, q.2⟩⟩
structure DbG (many : Nat) (d : Dbt) : Prop where
 nm : nameOk d.name = true
 sc : d.scale < 5
 rl : d.rs.length = 4
 rb : ∀ r, r ∈ d.rs → -1000 ≤ r ∧ r ≤ 1000
 sl : d.stakes.length = many
 st : ∀ e, e ∈ d.stakes → exOk many e ∧ lev e ≤ 7 ∧ szX e ≤ 40 ∧ -(500 * 2 ^ d.scale) ≤ (sp e).1 ∧ (sp e).2 ≤ 500 * 2 ^ d.scale
 dl : d.deeds.length = many
 de : ∀ x, x ∈ d.deeds → deOkL many x ∧ dnstL x ≤ 4 ∧ dcntL x ≤ 20
def Rg (rs : List Int) : Prop := rs.length = 4 ∧ ∀ r, r ∈ rs → -1000 ≤ r ∧ r ≤ 1000
def absI (z : Int) : Int := if z < 0 then -z else z
def ends (d : Dbt) : List Int := (d.stakes.map fun e => [absI (sp e).1, absI (sp e).2]).flatten
def bnd (d : Dbt) : Int := if -((-(maxL (ends d))).fdiv (2 ^ d.scale)) > 1 then -((-(maxL (ends d))).fdiv (2 ^ d.scale)) else 1
abbrev Wm := Xp × Bool
theorem rg_nat {n : Nat} : rgD 0 (n : Int) = (List.range n).map fun i : Nat => D.int (i : Int) := by
 unfold rgD
 rw [show ((n : Int) - 0).toNat = n by omega]
 apply List.map_congr_left
 intro i _
 rw [Int.zero_add]
def byS (many : Nat) : List Xp := (List.range many).map fun i => .les (.reg i) (.shr i)
def bt (k : Nat) (z : Int) : Prop := z.natAbs < 2 ^ k
structure OneG (many : Nat) (d : Dbt) : Prop where
 sc : d.scale < 5
 l0 : 0 < d.stakes.length
 l1 : d.stakes.length ≤ 1000
 st : ∀ e, e ∈ d.stakes → exOk many e ∧ lev e ≤ 8
 fa : ∀ e, e ∈ d.stakes → -(500 * 2 ^ d.scale) ≤ (sp e).1 ∧ (sp e).2 ≤ 500 * 2 ^ d.scale
noncomputable def b_more (k_common : Con) : SX := sSeq (sAsg (eTup (aCons (e2 fAdd (e2 fMul (e2 fIx (eVar 0) (eC (.int 0))) (eVar 2)) (e2 fMul (eVar 1) (e2 fIx (eVar 0) (eC (.int 1))))) (aCons (e2 fMul (e2 fIx (eVar 0) (eC (.int 1))) (eVar 2)) (aNil)))) (gN 3)) (sSeq (sAsg (eCall k_common (aCons (eVar 3) (aNil))) (gN 4)) (sRet (eTup (aCons (e2 fDiv (e2 fIx (eVar 3) (eC (.int 0))) (eCB (fn1 gAbs) (aCons (eVar 4) (aNil)))) (aCons (e2 fDiv (e2 fIx (eVar 3) (eC (.int 1))) (eCB (fn1 gAbs) (aCons (eVar 4) (aNil)))) (aNil))))))
noncomputable def c_more : Con := den 3 5 0 (b_more c_common)
namespace Ms
theorem sm4 {a : Int} (h : a.natAbs < 2 ^ 4000) : sm a := Nat.lt_trans h (by decide +kernel)
theorem mul4 {a b : Int} (ha : a.natAbs < 2 ^ 4000) (hb : b.natAbs < 2 ^ 4000) : (a * b).natAbs < 2 ^ 8000 := by
 rw [Int.natAbs_mul]
 exact Nat.lt_of_lt_of_eq (Nat.mul_lt_mul'' ha hb) (by rw [← Nat.pow_add])
theorem sm8 {a : Int} (h : a.natAbs < 2 ^ 8000) : sm a := Nat.lt_trans h (by decide +kernel)
theorem CV_more {S : Sto} {r : Rat} {u d : Int} {Q : D → Sto → Prop} (h0 : 0 ≤ r.num) (hu : 0 ≤ u) (hd : 0 < d) (h1 : r.num.natAbs < 2 ^ 4000) (h2 : r.den < 2 ^ 4000) (h3 : u.natAbs < 2 ^ 4000) (h4 : d.natAbs < 2 ^ 4000) (q : Q (R (r + mkRat u d.toNat)) S) : CV c_more [R r, .int u, .int d] S Q := by
 refine CV_plain rfl ?_
 unfold b_more R
 (simp_arith [])
 have hr := r.den_pos
 have k2 : (r.den : Int).natAbs < 2 ^ 4000 := by omega
 have a3 := mul4 k2 h4
 have p0 : 0 ≤ r.num * d + u * r.den := Int.add_nonneg (Int.mul_nonneg h0 (by omega)) (Int.mul_nonneg hu (by omega))
 have q0 : 0 < (r.den : Int) * d := Int.mul_pos (by omega) hd
 refine ⟨sm_mul (sm4 h1) (sm4 h4), sm_mul (sm4 h3) (sm4 k2), sm_mul (sm4 k2) (sm4 h4), rfl, ?_⟩
 rw [← R_add hd] at q
 generalize r.num * d + u * r.den = p at *
 generalize (r.den : Int) * d = w at *
 refine CV_common (ns := [p, w]) rfl (fun n hn => ?_) ?_
 ·simp only [List.mem_cons, List.not_mem_nil, or_false] at hn
  rcases hn with rfl | rfl <;> omega
 ·rw [gcdF_pair]
  (simp_arith [])
  have g2 := gcd_pos (p := p) q0
  have g3 := gcd_le (p := p) q0
  have s2 : sm (Int.gcd p w : Int) := Nat.lt_of_le_of_lt (by omega : _ ≤ w.natAbs) (sm8 a3)
  rw [if_neg (by omega)]
  refine ⟨sm_div s2 (by omega), sm_div s2 (by omega), rfl, ?_⟩
  rw [R_of q0]
  exact RtP_same rfl q
def sq (ns : List Int) : Int := (ns.map fun n => n * n).sum
def upOf (full : Int) (ns : List Int) (i : Nat) : Int := full * full - 2 * full * ns.getD i 0 + sq ns
def lsum (full : Int) (i : Nat) : Nat → List Int → Int
 | _, [] => 0
 | j, n :: ns => (full * (if j = i then 1 else 0) - n) * (full * (if j = i then 1 else 0) - n) + lsum full i (j + 1) ns
theorem lsum_gt {full : Int} {i : Nat} : ∀ (ns : List Int) (j : Nat), i < j → lsum full i j ns = sq ns
 | [], j, _ => rfl
 | n :: ns, j, h => by
  show _ + lsum full i (j + 1) ns = _
  rw [lsum_gt ns (j + 1) (by omega), if_neg (by omega)]
  show _ = n * n + sq ns
  grind
theorem lsum_eq {full : Int} {i : Nat} : ∀ (ns : List Int) (j : Nat), j ≤ i → i < j + ns.length → lsum full i j ns = upOf full ns (i - j)
 | [], j, h, h2 => by simp at h2; omega
 | n :: ns, j, h, h2 => by
  show _ + lsum full i (j + 1) ns = _
  by_cases e : j = i
  ·subst e
   rw [lsum_gt ns (j + 1) (by omega), if_pos rfl, Nat.sub_self]
   show _ = full * full - 2 * full * n + (n * n + sq ns)
   grind
  ·rw [lsum_eq ns (j + 1) (by omega) (by simp at h2; omega), if_neg e, show i - j = (i - (j + 1)) + 1 by omega]
   show _ + (full * full - 2 * full * ns.getD (i - (j + 1)) 0 + sq ns) = full * full - 2 * full * ns.getD (i - (j + 1)) 0 + (n * n + sq ns)
   grind
theorem lsum_nonneg {full : Int} {i : Nat} : ∀ (ns : List Int) (j : Nat), 0 ≤ lsum full i j ns
 | [], j => Int.le_refl _
 | n :: ns, j => by
  have := lsum_nonneg (full := full) (i := i) ns (j + 1)
  show 0 ≤ _ * _ + lsum full i (j + 1) ns
  generalize full * (if j = i then 1 else 0) - n = z
  have h2 : 0 ≤ z * z := by rcases Int.le_total 0 z with h | h; exact Int.mul_nonneg h h; exact Int.mul_nonneg_of_nonpos_of_nonpos h h
  omega
theorem sum_nonneg' : ∀ ns : List Int, (∀ n, n ∈ ns → 0 ≤ n) → 0 ≤ ns.sum
 | [], _ => by simp
 | n :: ns, h => by
  have := sum_nonneg' ns fun m hm => h m (List.mem_cons_of_mem _ hm)
  have := h n (List.mem_cons_self ..)
  rw [List.sum_cons]; omega
theorem sq_le : ∀ ns : List Int, (∀ n, n ∈ ns → 0 ≤ n) → sq ns ≤ ns.sum * ns.sum
 | [], _ => by decide
 | n :: ns, h => by
  have h1 := sq_le ns fun m hm => h m (List.mem_cons_of_mem _ hm)
  have h2 := h n (List.mem_cons_self ..)
  have h3 := sum_nonneg' ns fun m hm => h m (List.mem_cons_of_mem _ hm)
  have h4 := Int.mul_nonneg h2 h3
  show n * n + sq ns ≤ (n :: ns).sum * (n :: ns).sum
  rw [List.sum_cons]
  have : (n + ns.sum) * (n + ns.sum) = n * n + 2 * (n * ns.sum) + ns.sum * ns.sum := by grind
  omega
structure Row (full : Int) (ns : List Int) : Prop where
 pos : ∀ n, n ∈ ns → 0 ≤ n
 sum : ns.sum = full
 full0 : 0 < full
 full1 : full ≤ 3 * (10 ^ 12 + 8)
structure Rw1 (many : Int) (p : List Int × Nat) : Prop where
 len : (p.1.length : Int) = many
 pos : ∀ n, n ∈ p.1 → 0 ≤ n ∧ n ≤ 10 ^ 12 + 8
 some_ : ∃ n, n ∈ p.1 ∧ n ≠ 0
 sign : (p.2 : Int) < many
structure Rb (k : Nat) (r : Rat) : Prop where
 num0 : 0 ≤ r.num
 num1 : r.num ≤ 2 * (k : Int) * r.den
 den : r.den ≤ 10 ^ (25 * k)
end Ms
structure Sh (many : Nat) (d : Dbt) : Prop where
 nm : nameOk d.name = true ∧ shortB 13 (.str d.name) = true ∧ okD (.str d.name) = true
 sc : d.scale = 4
 rg : Rg d.rs
 st : d.stakes = byS many
 dl : d.deeds.length = many
 de : ∀ x, x ∈ d.deeds → deOkL many x ∧ dnstL x ≤ 1 ∧ dcntL x ≤ 20 ∧ DatL 3 90 (deL x)
structure Bh (many : Nat) (d : Dbt) (lags : Bool) : Prop where
 no : lags = false → ∀ x, x ∈ d.deeds → x = []
 ye : lags = true → ∀ x, x ∈ d.deeds → x = (List.range many).map fun i => De.tld i i
section
variable {X : Cx} {e e2 : Expr} {p pos tp : Pos} {elts : List Expr} {kk : Nat}
end
section
variable {X : Cx} {e e2 : Expr} {p pos tp : Pos} {elts : List Expr} {kk : Nat} {f g : EX}
end
def dot (as bs : List Int) : Int := ((List.zip as bs).map fun p => p.1 * p.2).sum
def zOf (sh W : List Int) (s : Nat) : Int := sh.sum * W.getD s 0 - dot sh W
def fullOf (d : Dbt) (sh : List Int) : Int := 1000 * 2 ^ d.scale * sh.sum * sh.sum
def alike (W : List Int) : Bool := decide ((fm W).length ≤ 1)
theorem SV_cut {f g : SX} {e : En} {S : Sto} {Q : Out → Prop} (h : ∀ G : SX, (∀ e' S', SV g e' S' Q → SV G e' S' Q) → SV f e S (then_ Q fun e1 S1 => SV G e1 S1 Q)) : SV (sSeq f g) e S Q := SV_seq.mpr (h g fun _ _ z => z)
structure DayD (many : Nat) (d : Dbt) : Prop where
 sc : d.scale < 5
 sl : d.stakes.length = many
 st : ∀ e, e ∈ d.stakes → exOk many e ∧ lev e ≤ 8
 dl : d.deeds.length = many
 de : ∀ x, x ∈ d.deeds → deOkL many x ∧ dnstL x ≤ 4
 br : bare (dbD d) = true
section
variable {X : Cx}
def gTL (n : Nat) (gs : GXs) : GX := fun d e S => (listOf S d).bind fun ds => if ds.length = n then gs ds e S else none
end
theorem GV_tl {n : Nat} {gs : GXs} {d : D} {e : En} {S : Sto} {QE : En → Sto → Prop} : GV (gTL n gs) d e S QE ↔ ∃ ds, listOf S d = some ds ∧ ds.length = n ∧ GsV gs ds e S QE := by
 unfold GV GsV gTL
 constructor
 ·rintro ⟨v, S', h, q⟩
  obtain ⟨ds, h1, h2⟩ := Option.bind_eq_some_iff.mp h
  split at h2
  ·rename_i hl
   exact ⟨ds, h1, hl, v, S', h2, q⟩
  ·cases h2
 ·rintro ⟨ds, h1, hl, v, S', h, q⟩
  exact ⟨v, S', by rw [h1, Option.bind_some, if_pos hl]; exact h, q⟩
def noW : Xp → Prop
 | .fig _ => True
 | .reg _ => True
 | .shr _ => True
 | .tim _ a => noW a
 | .byr _ a => noW a
 | .whn _ _ a b => noW a ∧ noW b
 | .whr _ _ _ _ => False
 | .sum a b => noW a ∧ noW b
 | .les a b => noW a ∧ noW b
 | .lst a b => noW a ∧ noW b
 | .mst a b => noW a ∧ noW b
structure Dr (many l j : Nat) (e : Xp) : Prop where
 ok : exOk many e
 lv : lev e ≤ l
 sz : szX e + 1 ≤ 2 ^ (l + 1)
 nw : j = 0 → noW e
section
variable {many l j : Nat} {a b : Xp}
end
structure Sk (many l j : Nat) (e : Xp) : Prop where
 ok : exOk many e
 lv : lev e ≤ l + 2
 sz : szX e ≤ 2 ^ (l + 1) + 3
 lo : -500 ≤ (sp e).1
 hi : (sp e).2 ≤ 500
 nw : j = 0 → noW e
 sh : (∃ z : Int, e = .fig z) ∨ ∃ (f : Int) (x : Xp), 1 ≤ f ∧ e = .lst (.fig f) (.mst (.fig (-f)) x)
structure DbJ (many l j : Nat) (d : Dbt) : Prop where
 ok : DbOk many l d
 st : ∀ e, e ∈ d.stakes → Sk many l j e
structure DbH (many : Nat) (d : Dbt) : Prop where
 nm : nameOk d.name = true
 sc : d.scale < 5
 rl : d.rs.length = 4
 rb : ∀ r, r ∈ d.rs → -1000 ≤ r ∧ r ≤ 1000
 sl : d.stakes.length = many
 st : ∀ e, e ∈ d.stakes → exOk many e ∧ lev e ≤ 7 ∧ szX e ≤ 40
 dl : d.deeds.length = many
 de : ∀ x, x ∈ d.deeds → deOkL many x ∧ dnstL x ≤ 4 ∧ dcntL x ≤ 20
structure Row (B w : Int) (n : Nat) (got H : Int) : Prop where
 H0 : 0 ≤ H
 lo : -(1000000000 * B * n) ≤ 500 * got
 ex : ∃ (C : Nat) (a : Int), 0 < C ∧ -((C * n : Nat) : Int) ≤ a ∧ a ≤ ((C * n : Nat) : Int) ∧ 500 * got * C ≤ 1000000000 * B * a ∧ (500 + B) ^ (((C * n : Nat) : Int) + a).toNat * (500 - B) ^ (((C * n : Nat) : Int) - a).toNat * w ^ (2 * C) ≤ 500 ^ (2 * (C * n)) * H ^ (2 * C)
section
variable {X : Cx}
end
inductive Mb where
 | one (d : Dbt) (o : One)
 | home (x : Str) (ms : List Mb)
mutual
def mbD : Mb → D
 | .one d o => onD (dbD d) o
 | .home x ms => .tup [.str "house", .str x, .tup (mbL ms)]
def mbL : List Mb → List D
 | [] => []
 | m :: ms => mbD m :: mbL ms
end
mutual
def mbT : Mb → Nat
 | .one _ _ => 0
 | .home _ ms => mbTL ms + 1
def mbTL : List Mb → Nat
 | [] => 0
 | m :: ms => max (mbT m) (mbTL ms)
end
mutual
def mbN : Mb → Nat
 | .one _ _ => 1
 | .home _ ms => mbNL ms + 1
def mbNL : List Mb → Nat
 | [] => 0
 | m :: ms => mbN m + mbNL ms
end
mutual
def mbOk : Mb → Prop
 | .one d _ => bare (dbD d) = true
 | .home x ms => (shortB 13 (.str x) = true ∧ okD (.str x) = true) ∧ mbOkL ms
def mbOkL : List Mb → Prop
 | [] => True
 | m :: ms => mbOk m ∧ mbOkL ms
end
theorem onD_bare {d : D} {o : One} (h : bare d = true) : bare (onD d o) = true := by
 show (true && (bare d && (bareL (o.rs.map D.int) && true))) = true
 rw [h, bareL_ints]
 rfl
theorem LV_filtG {α : Type} {g : GX} {tt : TX} {te : EX} {gs : List Nat} {S0 S : Sto} {e0 : En} (g0 f : α → D) (c : α → Bool) (hg : ∀ n, n ∈ gs → S[n]? = S0[n]?) : ∀ {xs : List α},
  (∀ a (K : D → Sto → Prop), a ∈ xs → (c a = true → K (f a) S) → GV g (g0 a) e0 S fun e1 S1 => TV tt e1 S1 fun b S2 => b = c a ∧ S2 = S ∧ (c a = true → EV te e1 S2 K)) →
  LV g tt te gs S0 e0 (xs.map g0) S fun out S' => out = (xs.filter c).map f ∧ S' = S
 | [], _ => LV_nil.mpr ⟨rfl, rfl⟩
 | d :: ds, step => by
  refine LV_cons.mpr ?_
  have ih := LV_filtG (g := g) (tt := tt) (te := te) (gs := gs) (S0 := S0) (e0 := e0) g0 f c hg fun d K hd => step d K (List.mem_cons_of_mem _ hd)
  obtain ⟨e1, S1, h1, b, S2, h2, hb, hs, he⟩ := step d (fun y T => y = f d ∧ T = S) (List.mem_cons_self ..) (fun _ => ⟨rfl, rfl⟩)
  subst hs
  refine ⟨e1, S1, h1, b, S2, h2, ?_⟩
  cases hc : c d with
  | true =>
   rw [hc] at hb
   subst hb
   obtain ⟨y, S3, h3, hp, hi⟩ := he hc
   subst hi hp
   show (if true = true then _ else _)
   rw [if_pos rfl]
   exact ⟨_, _, h3, hg, ih.imp fun out S' q => ⟨by rw [List.filter_cons_of_pos hc, q.1]; rfl, q.2⟩⟩
  | false =>
   rw [hc] at hb
   subst hb
   show (if false = true then _ else _)
   rw [if_neg Bool.false_ne_true]
   exact ⟨hg, ih.imp fun out S' q => ⟨by rw [List.filter_cons_of_neg (by rw [hc]; exact Bool.false_ne_true), q.1], q.2⟩⟩
def hsD (many : Nat) (ms : List Mb) : D := .tup [.int many, .tup (mbL ms)]
mutual
def fl : Mb → List (Dbt × One)
 | .one d o => [(d, o)]
 | .home _ ms => flL ms
def flL : List Mb → List (Dbt × One)
 | [] => []
 | m :: ms => fl m ++ flL ms
end
def oneM (q : Dbt × One) : Mb := .one q.1 q.2
mutual
theorem fl_len : ∀ m : Mb, (fl m).length ≤ mbN m
 | .one _ _ => Nat.le_refl _
 | .home x ms => Nat.le_trans (flL_len ms) (Nat.le_succ _)
theorem flL_len : ∀ ms : List Mb, (flL ms).length ≤ mbNL ms
 | [] => Nat.le_refl _
 | m :: ms => by
  show (fl m ++ flL ms).length ≤ mbN m + mbNL ms
  rw [List.length_append]
  have := fl_len m
  have := flL_len ms
  omega
end
mutual
theorem fl_ok : ∀ m : Mb, mbOk m → ∀ q, q ∈ fl m → bare (dbD q.1) = true
 | .one d o, h, q, hq => by rw [List.mem_singleton.mp hq]; exact h
 | .home x ms, h, q, hq => flL_ok ms h.2 q hq
theorem flL_ok : ∀ ms : List Mb, mbOkL ms → ∀ q, q ∈ flL ms → bare (dbD q.1) = true
 | [], _, q, hq => by cases hq
 | m :: ms, h, q, hq => by
  rcases List.mem_append.mp hq with hq | hq
  ·exact fl_ok m h.1 q hq
  ·exact flL_ok ms h.2 q hq
end
structure OkO (many : Nat) (q : Dbt × One) : Prop where
 sc : q.1.scale < 5
 sl : q.1.stakes.length = many
 st : ∀ e, e ∈ q.1.stakes → exOk many e ∧ lev e < 9 ∧ lev e ≤ 20
 rg : Rg q.2.rs
 pu : sm (q.2.purse * 16)
def facO (q : Dbt × One) : Int := q.2.purse * 2 ^ (4 - q.1.scale)
def plS (sh : List Int) (acc : List Int) (q : Dbt × One) : List Int := (List.zip acc (q.1.stakes.map (wv q.2.rs sh))).map fun p => p.1 + facO q * p.2
def plL (many : Nat) (ms : List Mb) (sh : List Int) : List Int := (flL ms).foldl (plS sh) (List.replicate many 0)
noncomputable def b_lones (k_all : Con) : SX := sSeq (sAsg (eBx (lDisp (aNil))) (gN 1)) (sSeq (sFor (iSeq (eVar 0)) (gN 2) (sExpr (eMt hExtend (eVar 1) (aCons (eIf (tOf (e2 fEq (e2 fIx (eVar 2) (eC (.int 0))) (eC (.str "one")))) (eFz (lDisp (aCons (eVar 2) (aNil)))) (eCall k_all (aCons (e2 fIx (eVar 2) (eC (.int 2))) (aNil)))) (aNil))))) (sRet (eVar 1)))
noncomputable def cc_lones : Nat → Con
 | 0 => fun _ _ => none
 | n + 1 => den 1 3 0 (b_lones (cc_lones n))
def oqD (q : Dbt × One) : D := onD (dbD q.1) q.2
theorem oq_bare {qs : List (Dbt × One)} (h : ∀ q, q ∈ qs → bare (dbD q.1) = true) : bareL (qs.map oqD) = true := bareL_iff.mpr fun d hd => by
 obtain ⟨q, hq, rfl⟩ := List.mem_map.mp hd
 exact onD_bare (h q hq)
theorem CV_lones : ∀ (fuel : Nat) (ms : List Mb) {S : Sto} {Q : D → Sto → Prop}, mbOkL ms → mbTL ms < fuel → mbNL ms ≤ 100000 → Q (.lst ((flL ms).map oqD)) S → CV (cc_lones fuel) [.tup (mbL ms)] S Q := by
 intro fuel
 induction fuel with
 | zero => intro ms S Q _ h; omega
 | succ fuel ih =>
  intro ms S Q ok ht hn q
  refine CV_plain rfl ?_
  unfold b_lones
  refine SV_cut fun G hG => ?_
  (simp_arith! [])
  refine hG _ _ ?_
  clear hG G
  refine SV_cut fun G hG => ?_
  (simp_arith! [])
  refine SV_forI (fun r e' S' => ∃ (us : List Mb) (qs : List (Dbt × One)) (x2 : Option D), r = mbL us ∧ qs ++ flL us = flL ms ∧ mbOkL us ∧ mbTL us ≤ mbTL ms ∧ mbNL us ≤ mbNL ms ∧ S' = S ++ [.lst (qs.map oqD)] ∧ e' = [some (.tup (mbL ms)), some (.ref S.length), x2]) ⟨ms, [], none, rfl, rfl, ok, Nat.le_refl _, Nat.le_refl _, rfl, rfl⟩ ?_ ?_
  ·rintro x r e' S' K ⟨us, qs, x2, hr, hq, hok, hmt, hmn, rfl, rfl⟩ hK
   cases us with
   | nil => cases hr
   | cons u us =>
    obtain ⟨rfl, rfl⟩ := List.cons.inj (show _ = mbD u :: mbL us from hr)
    have hmt : max (mbT u) (mbTL us) ≤ mbTL ms := hmt
    have hmn : mbN u + mbNL us ≤ mbNL ms := hmn
    have hql : qs.length + (fl u).length ≤ 100000 := by
     have e1 := congrArg List.length hq
     have e2 := flL_len ms
     have e3 : (flL (u :: us)).length = (fl u).length + (flL us).length := by show (fl u ++ flL us).length = _; rw [List.length_append]
     rw [List.length_append, e3] at e1
     omega
    cases u with
    | one d o =>
     have f0 : ∀ T : Sto, fIx T (mbD (.one d o)) (.int 0) = some (.str "one") := fun _ => rfl
     (simp_arith! [f0])
     refine ⟨_, box_last, ex_extend.mpr ⟨sz_le (by rw [List.length_map]; exact Nat.le_trans hql (by decide)), ?_⟩⟩
     rw [set_last]
     refine ⟨(fun n hn => nomatch hn), hK _ _ ⟨us, qs ++ [(d, o)], _, rfl, ?_, hok.2, by omega, by omega, ?_, rfl⟩⟩
     ·rw [← hq, List.append_assoc]; rfl
     ·rw [List.map_append]; rfl
    | home x inner =>
     have f0 : ∀ T : Sto, fIx T (mbD (.home x inner)) (.int 0) = some (.str "house") := fun _ => rfl
     have f2 : ∀ T : Sto, fIx T (mbD (.home x inner)) (.int 2) = some (.tup (mbL inner)) := fun _ => rfl
     have e1 : mbT (.home x inner) = mbTL inner + 1 := rfl
     have e2 : mbN (.home x inner) = mbNL inner + 1 := rfl
     have w1 : (("house" : Str) = ("one" : Str)) = False := eq_false (by decide +kernel)
     (simp_arith! [f0, f2, w1])
     refine ih inner hok.1.2 (by omega) (by omega) ?_
     refine ⟨_, box_last, ex_extend.mpr ⟨sz_le (by rw [List.length_map, List.length_map]; exact Nat.le_trans hql (by decide)), ?_⟩⟩
     rw [set_last]
     refine ⟨(fun n hn => nomatch hn), hK _ _ ⟨us, qs ++ flL inner, _, rfl, ?_, hok.2, by omega, by omega, ?_, rfl⟩⟩
     ·rw [← hq, List.append_assoc]; rfl
     ·rw [List.map_append]
  ·rintro e' S' ⟨us, qs, x2, hr, hq, hok, hmt, hmn, rfl, rfl⟩
   have : us = [] := by cases us with | nil => rfl | cons _ _ => cases hr
   subst this
   rw [show flL [] = [] from rfl, List.append_nil] at hq
   subst hq
   refine hG _ _ ?_
   clear hG G
   (simp_arith! [])
   exact ⟨⟨_, rfl⟩, .inr ⟨_, _, rfl, Nat.le_refl _, get_last, oq_bare (flL_ok ms ok), q⟩⟩
def col (sh : List Int) (s : Nat) (q : Dbt × One) : Int := facO q * (q.1.stakes.map (wv q.2.rs sh)).getD s 0
theorem range_getD {acc : List Int} {n : Nat} (h : acc.length = n) : acc = (List.range n).map fun s => acc.getD s 0 := by
 refine List.ext_getElem (by simp [h]) fun i h1 h2 => ?_
 rw [List.getElem_map, List.getElem_range, List.getD_eq_getElem?_getD, List.getElem?_eq_getElem h1]
 rfl
structure Hs (many l j : Nat) (ms : List Mb) : Prop where
 tl : mbTL ms ≤ 3
 nl : mbNL ms ≤ 4 * 24
 on : ∀ q, q ∈ flL ms → DbJ many l j q.1 ∧ OnOk q.2
structure Rh (many : Nat) (ms : List Mb) : Prop where
 tl : mbTL ms ≤ 3
 nl : mbNL ms ≤ 100
 ok : mbOkL ms
 on : ∀ q, q ∈ flL ms → DbG many q.1 ∧ OnOk q.2 ∧ Dat 8 852 (dbD q.1)
 fn : (flL ms).length ≤ 4
section
variable {X : Cx}
end
def dtp (as bs : List Int) : Int := ((List.zip as bs).map fun p => p.1 * p.2).sum
def isR (sh pl : List Int) : Bool := (List.zip sh pl).all fun p => decide (p.1 = 0) || decide (p.2 = maxL pl)
theorem dtp_cons (a b : Int) (as bs : List Int) : dtp (a :: as) (b :: bs) = a * b + dtp as bs := by
 unfold dtp
 rw [List.zip_cons_cons, List.map_cons, List.sum_cons]
structure Hm (many : Nat) (ms : List Mb) : Prop where
 tl : mbTL ms ≤ 3
 nl : mbNL ms ≤ 100
 ok : mbOkL ms
 on : ∀ q, q ∈ flL ms → OkO many q ∧ (0 ≤ q.2.purse ∧ q.2.purse ≤ 4 * 10 ^ 12) ∧ ∀ sh, Ctx many q.2.rs sh → ∀ e, e ∈ q.1.stakes → (wv q.2.rs sh e).natAbs ≤ 8000 * sh.sum.toNat
 fn : (flL ms).length ≤ 4
 dat : Dat 21 4800 (hsD many ms)
end Pv
namespace L2
open PySem PySem.Spec PyProof.Rows
section
variable {X : Cx}
end
end L2
namespace Pv
open PySem PySem.Spec PyProof.Rows L2
section
variable {X : Cx}
end
def goP : List Mb → List Nat → Option (List Mb)
 | ms, [] => some ms
 | ms, i :: is => match ms[i]? with
   | some (.home _ ks) => goP ks is
   | _ => none
def row1 (qs : List (Dbt × One)) : List Mb := qs.map oneM
structure Hom (qs : List (Dbt × One)) (k : Nat) (m : Mb) : Prop where
 ok : mbOk m
 fm : ∀ q, q ∈ fl m → q ∈ qs
 fn : (fl m).length ≤ qs.length + k
 tm : mbT m ≤ 1 + k
 nm : mbN m ≤ qs.length + 1 + 2 * k
structure Pth (p : List Int) (i t n : Nat) (q : List Int × Mb) : Prop where
 len : q.1.length ≤ p.length + t + 1
 num : ∀ z, z ∈ q.1 → z ∈ p ∨ (0 ≤ z ∧ z ≤ ((i + n : Nat) : Int))
 t2 : mbT q.2 ≤ t
 n2 : mbN q.2 ≤ n
section
variable {X : Cx}
end
structure DayQ (many : Nat) (q : Dbt × One) : Prop where
 d : DayD many q.1
 rg : Rg q.2.rs
 pu : bt 5000 q.2.purse
 ow : bt 5000 q.2.owed
theorem sum_mulL {α : Type} (c : Int) (f : α → Int) : ∀ xs : List α, (xs.map fun x => c * f x).sum = c * (xs.map f).sum
 | [] => by simp
 | x :: xs => by rw [List.map_cons, List.sum_cons, sum_mulL c f xs, List.map_cons, List.sum_cons, Int.mul_add]
theorem sum_subL {α : Type} (f g : α → Int) : ∀ xs : List α, (xs.map fun x => f x - g x).sum = (xs.map f).sum - (xs.map g).sum
 | [] => by simp
 | x :: xs => by rw [List.map_cons, List.sum_cons, sum_subL f g xs, List.map_cons, List.sum_cons, List.map_cons, List.sum_cons]; omega
structure Dq (many : Nat) (q : Dbt × One) : Prop where
 g : DbG many q.1
 o : OnOk q.2
 dt : Dat 8 852 (dbD q.1)
structure Gq (many : Nat) (q : Dbt × One) : Prop where
 ok : OkO many q
 dd : DayD many q.1
 wb : ∀ sh, Ctx many q.2.rs sh → ∀ e, e ∈ q.1.stakes → (wv q.2.rs sh e).natAbs ≤ 8000 * sh.sum.toNat
 pu : 0 ≤ q.2.purse ∧ q.2.purse ≤ 4 * 10 ^ 12
 ow : 0 ≤ q.2.owed ∧ q.2.owed ≤ 98
 br : bare (dbD q.1) = true
structure An (many : Nat) (d : Dbt) : Prop where
 g : DbG many d
 br : bare (dbD d) = true
section
variable {X : Cx}
end
noncomputable def b_lowest (k_common : Con) : SX := sSeq (sAsg (eCall k_common (aCons (eVar 0) (aNil))) (gN 1)) (sRet (eCB (fn1 gTuple) (aCons (eFz (lLc (iSeq (eVar 0)) (gN 2) (tYes') (e2 fDiv (eVar 2) (eVar 1)) [2])) (aNil))))
noncomputable def c_lowest : Con := den 1 3 0 (b_lowest c_common)
abbrev Vc := List Int
def vcD (v : Vc) : D := .tup (v.map D.int)
def Bv (k : Nat) (v : Vc) : Prop := ∀ x, x ∈ v → bt k x
def val (f p : Vc) : Int := dtp f p
def ngv (f : Vc) : Vc := f.map fun x => -x
def sbv (f g : Vc) : Vc := (f.zip g).map fun p => p.1 - p.2
def adv (f g : Vc) : Vc := (f.zip g).map fun p => p.1 + p.2
def lowV (r : Vc) : Vc := r.map (· / gcdF 0 r)
def mlv (c : Int) (f : Vc) : Vc := f.map fun x => c * x
def bdr (i : Nat) (k : Int) (many : Nat) : Vc := (List.range many).map fun j => 1000 * (if i = j then 1 else 0) - k
def unitV (many i : Nat) : Vc := (List.range many).map fun j => if i = j then 1 else 0
def unitsV (many : Nat) : List Vc := (List.range many).map (unitV many)
structure Pt (m : Nat) (p : Vc) : Prop where
 len : p.length = m
 pos : ∀ x, x ∈ p → 0 ≤ x
 nz : ∃ x, x ∈ p ∧ x ≠ 0
 bd : Bv 900 p
structure Fm (m : Nat) (f : Vc) : Prop where
 len : f.length = m
 bd : Bv 300 f
def absZ (z : Int) : Int := if z < 0 then -z else z
def crs (f a b : Vc) : Vc := lowV ((a.zip b).map fun p => p.1 * absZ (val f b) + p.2 * absZ (val f a))
def prv (cs : List Vc) (i : Nat) : Vc := cs.getD (if i = 0 then cs.length - 1 else i - 1) []
def kpC (f : Vc) (acc : List Vc) (a b : Vc) : List Vc := if val f a * val f b < 0 then (if crs f a b ∈ acc then acc else acc ++ [crs f a b]) else acc
def kpS (f : Vc) (acc : List Vc) (a b : Vc) : List Vc := if 0 ≤ val f b ∧ b ∉ kpC f acc a b then kpC f acc a b ++ [b] else kpC f acc a b
def kpA (cs : List Vc) (f : Vc) : Nat → List Vc
 | 0 => []
 | i + 1 => kpS f (kpA cs f i) (prv cs i) (cs.getD i [])
def kp (cs : List Vc) (f : Vc) : List Vc := kpA cs f cs.length
theorem SV_cutG {f g : SX} {e : En} {S : Sto} {Q : Out → Prop} (h : ∀ G : En → Sto → Prop, (∀ e' S', SV g e' S' Q → G e' S') → SV f e S (then_ Q G)) : SV (sSeq f g) e S Q := SV_seq.mpr (h _ fun _ _ z => z)
def bareC (cs ss : List Vc) : Bool := cs.isEmpty || ss.any fun f => cs.all fun c => decide (val f c ≤ 0)
abbrev Cl := List Vc × List Vc
def hvL (c : Cl) (f : Vc) (j : Bool) : Cl := (kp c.1 (ngv f), c.2 ++ (if j = true then [ngv f] else []))
def hvH (c : Cl) (f : Vc) : Cl := (kp c.1 f, c.2)
def unB (c : Cl) : Option Cl := if bareC c.1 c.2 = true then none else some c
def hvC (c : Cl) (f : Vc) (j : Bool) : Option Cl × Option Cl :=
 if j = false ∧ (c.1.all fun p => decide (0 ≤ val f p)) = true then (none, some c)
 else if j = false ∧ (c.1.all fun p => decide (val f p ≤ 0)) = true then (some c, none)
 else (unB (hvL c f j), unB (hvH c f))
structure CeB (m : Nat) (c : Cl) : Prop where
 pt : ∀ p, p ∈ c.1 → Pt m p
 st : ∀ f, f ∈ c.2 → Fm m f
 l1 : c.1.length ≤ 400000
 l2 : c.2.length ≤ 400000
def RtB (p : Nat) (S : Sto) (Q : D → Sto → Prop) : Out → Prop
 | .rt d S2 => ∃ es T, S2 = S.set p (.lst es) ++ T ∧ bareL es = true ∧ ((bare d = true ∧ Q d (S.set p (.lst es))) ∨ ∃ m ds, d = .ref m ∧ S.length ≤ m ∧ S2[m]? = some (.lst ds) ∧ bareL ds = true ∧ Q (.lst ds) (S.set p (.lst es)))
 | _ => False
def cutOf (c : Cl) (f : Vc) (j : Bool) : List Vc := if (hvC c f j).1.isSome = true ∧ (hvC c f j).2.isSome = true then [f] else []
inductive Pw where
 | sum | les | lst | mst
def halfP (o : Option Cl) (f : Vc) : List (Cl × Vc) := match o with
 | none => []
 | some c => [(c, f)]
def chsP (w : Pw) (c : Cl) (a b : Vc) : List (Cl × Vc) := match w with
 | .sum => [(c, adv a b)]
 | .les => [(c, sbv a b)]
 | .lst => halfP (hvC c (sbv a b) false).1 a ++ halfP (hvC c (sbv a b) false).2 b
 | .mst => halfP (hvC c (sbv a b) false).1 b ++ halfP (hvC c (sbv a b) false).2 a
def chsC (w : Pw) (c : Cl) (a b : Vc) : List Vc := match w with
 | .sum => []
 | .les => []
 | .lst => cutOf c (sbv a b) false
 | .mst => cutOf c (sbv a b) false
def shrV (m i : Nat) : Vc := (List.range m).map fun s => 1000 * (if s = i then 1 else 0)
def prsP (w : Pw) (g : Cl → List (Cl × Vc)) (qs : List (Cl × Vc)) : List (Cl × Vc) := qs.flatMap fun q => (g q.1).flatMap fun r => chsP w r.1 q.2 r.2
def prsC (w : Pw) (g : Cl → List (Cl × Vc)) (h : Cl → List Vc) (qs : List (Cl × Vc)) : List Vc := qs.flatMap fun q => h q.1 ++ (g q.1).flatMap fun r => chsC w r.1 q.2 r.2
def onO {α : Type} (g : Cl → List α) : Option Cl → List α
 | none => []
 | some c => g c
def pcsP (rs : List Int) (m : Nat) : Xp → Cl → List (Cl × Vc)
 | .fig n, c => [(c, List.replicate m n)]
 | .reg i, c => [(c, List.replicate m (rs.getD i 0))]
 | .shr i, c => [(c, shrV m i)]
 | .tim n a, c => (pcsP rs m a c).map fun q => (q.1, mlv n q.2)
 | .byr i a, c => (pcsP rs m a c).map fun q => (q.1, mlv (rs.getD i 0) q.2)
 | .whn i f a b, c => if rs.getD i 0 < f then pcsP rs m a c else pcsP rs m b c
 | .whr i k a b, c => onO (pcsP rs m a) (hvC c (bdr i k m) true).1 ++ onO (pcsP rs m b) (hvC c (bdr i k m) true).2
 | .sum a b, c => prsP .sum (pcsP rs m b) (pcsP rs m a c)
 | .les a b, c => prsP .les (pcsP rs m b) (pcsP rs m a c)
 | .lst a b, c => prsP .lst (pcsP rs m b) (pcsP rs m a c)
 | .mst a b, c => prsP .mst (pcsP rs m b) (pcsP rs m a c)
def pcsC (rs : List Int) (m : Nat) : Xp → Cl → List Vc
 | .fig _, _ => []
 | .reg _, _ => []
 | .shr _, _ => []
 | .tim _ a, c => pcsC rs m a c
 | .byr _ a, c => pcsC rs m a c
 | .whn i f a b, c => if rs.getD i 0 < f then pcsC rs m a c else pcsC rs m b c
 | .whr i k a b, c => cutOf c (bdr i k m) true ++ (onO (pcsC rs m a) (hvC c (bdr i k m) true).1 ++ onO (pcsC rs m b) (hvC c (bdr i k m) true).2)
 | .sum a b, c => pcsC rs m a c ++ prsC .sum (pcsP rs m b) (pcsC rs m b) (pcsP rs m a c)
 | .les a b, c => pcsC rs m a c ++ prsC .les (pcsP rs m b) (pcsC rs m b) (pcsP rs m a c)
 | .lst a b, c => pcsC rs m a c ++ prsC .lst (pcsP rs m b) (pcsC rs m b) (pcsP rs m a c)
 | .mst a b, c => pcsC rs m a c ++ prsC .mst (pcsP rs m b) (pcsC rs m b) (pcsP rs m a c)
def ncX : Xp → Nat
 | .fig _ => 0
 | .reg _ => 0
 | .shr _ => 0
 | .tim _ a => ncX a
 | .byr _ a => ncX a
 | .whn _ _ a b => ncX a + ncX b
 | .whr _ _ a b => 1 + (ncX a + ncX b)
 | .sum a b => ncX a + ncX b + 1
 | .les a b => ncX a + ncX b + 1
 | .lst a b => ncX a + ncX b + 1
 | .mst a b => ncX a + ncX b + 1
def npX : Xp → Nat
 | .fig _ => 1
 | .reg _ => 1
 | .shr _ => 1
 | .tim _ a => npX a
 | .byr _ a => npX a
 | .whn _ _ a b => max (npX a) (npX b)
 | .whr _ _ a b => npX a + npX b
 | .sum a b => npX a * npX b
 | .les a b => npX a * npX b
 | .lst a b => 2 * (npX a * npX b)
 | .mst a b => 2 * (npX a * npX b)
structure Geo (m : Nat) (PG : Nat → List Vc → Prop) : Prop where
 hm : m = 2 ∨ m = 3
 pt : ∀ {k : Nat} {cs : List Vc}, PG k cs → (∀ p, p ∈ cs → Pt m p) ∧ cs.length ≤ k
 kp : ∀ {k : Nat} {cs : List Vc} {f : Vc}, PG k cs → Fm m f → PG (k + 1) (kp cs f)
 mo : ∀ {k j : Nat} {cs : List Vc}, PG k cs → k ≤ j → PG j cs
 un : PG 3 (unitsV m)
structure Ce (m : Nat) (PG : Nat → List Vc → Prop) (k : Nat) (c : Cl) : Prop where
 pg : PG k c.1
 st : ∀ f, f ∈ c.2 → Fm m f
 sl : c.2.length ≤ k
 ne : c.1 ≠ []
section
variable {m : Nat} {PG : Nat → List Vc → Prop}
end
section
variable {m : Nat} {PG : Nat → List Vc → Prop}
structure Pf (m l : Nat) (f : Vc) : Prop where
 len : f.length = m
 bd : Bv (10 * (l + 1)) f
end
section
variable {m : Nat} {PG : Nat → List Vc → Prop}
end
section
variable {m : Nat} {PG : Nat → List Vc → Prop}
end
abbrev Fd := Cl × List Vc
structure Tk where
 rs : List Int
 e : Xp
 fac : Int
 s : Nat
def wsQ (m : Nat) (t : Tk) (q : Fd) : List Fd := (pcsP t.rs m t.e q.1).map fun r => (r.1, q.2.set t.s (adv (q.2.getD t.s []) (mlv t.fac r.2)))
def wsP (m : Nat) (t : Tk) (fs : List Fd) : List Fd := fs.flatMap (wsQ m t)
def wsC (m : Nat) (t : Tk) (fs : List Fd) : List Vc := fs.flatMap fun q => pcsC t.rs m t.e q.1
section
variable {m : Nat} {PG : Nat → List Vc → Prop}
structure Fo (m : Nat) (PG : Nat → List Vc → Prop) (k j : Nat) (q : Fd) : Prop where
 ce : Ce m PG k q.1
 pl : q.2.length = m
 pf : ∀ f, f ∈ q.2 → f.length = m ∧ Bv (190 + j) f
structure TkOk (m : Nat) (t : Tk) : Prop where
 rg : Rg t.rs
 ok : exOk m t.e
 lv : lev t.e ≤ 11
 fc : bt 70 t.fac
 sg : t.s < m
end
def tkO (q : Dbt × One) (s : Nat) : Tk := ⟨q.2.rs, q.1.stakes.getD s (.fig 0), facO q, s⟩
def tksQ (m : Nat) (q : Dbt × One) : List Tk := if q.2.purse > 0 then (List.range m).map (tkO q) else []
def tksL (m : Nat) (qs : List (Dbt × One)) : List Tk := qs.flatMap (tksQ m)
def prP (m : Nat) (ts : List Tk) (fs : List Fd) : List Fd := ts.foldl (fun fs t => wsP m t fs) fs
def prC (m : Nat) : List Tk → List Fd → List Vc
 | [], _ => []
 | t :: ts, fs => wsC m t fs ++ prC m ts (wsP m t fs)
def Fits (m : Nat) : List Tk → List Fd → Nat → Prop
 | [], _, _ => True
 | t :: ts, fs, n => (wsP m t fs).length ≤ 11000000 ∧ n + (wsC m t fs).length + npX t.e ≤ 16000000 ∧ Fits m ts (wsP m t fs) (n + (wsC m t fs).length)
def ncT (ts : List Tk) : Nat := (ts.map fun t => ncX t.e).sum
section
variable {m : Nat} {PG : Nat → List Vc → Prop}
def zerosF (m : Nat) : List Vc := List.replicate m (List.replicate m 0)
end
def sups (m : Nat) : List (List Nat) := if m = 2 then [[0], [1], [0, 1]] else [[0], [1], [2], [0, 1], [0, 2], [1, 2], [0, 1, 2]]
def sumV (m : Nat) (ps : List Vc) : Vc := (List.range m).map fun s => (ps.map fun p => p.getD s 0).sum
def togV (m : Nat) (ps : List Vc) : Vc := lowV (sumV m ps)
def lesF (pulls : List Vc) (t : List Nat) (s : Nat) : Vc := sbv (pulls.getD (t.getD 0 0) []) (pulls.getD s [])
def negU (m s : Nat) : Vc := (List.range m).map fun p => -(if s = p then 1 else 0)
def othF (m : Nat) (pulls : List Vc) (t : List Nat) (s : Nat) : Vc := if s ∈ t then ngv (lesF pulls t s) else negU m s
def riT (m : Nat) (pulls : List Vc) (t : List Nat) (left : List Vc) (s : Nat) : List Vc := kp (kp left (lesF pulls t s)) (othF m pulls t s)
def riL (m : Nat) (cs : List Vc) (pulls : List Vc) (t : List Nat) : List Vc := (List.range m).foldl (riT m pulls t) cs
def riS (m : Nat) (c : Cl) (pulls : List Vc) (t : List Nat) : Option Vc := if riL m c.1 pulls t ≠ [] ∧ bareC (riL m c.1 pulls t) c.2 = false then some (togV m (riL m c.1 pulls t)) else none
def riA (m : Nat) (q : Fd) : Option Vc := (sups m).findSome? (riS m q.1 q.2)
section
variable {m : Nat} {PG : Nat → List Vc → Prop}
def fdA (m : Nat) (ms : List Mb) : Option Vc := (prP m (tksL m (flL ms)) [((unitsV m, []), zerosF m)]).findSome? (riA m)
end
theorem val_cons (a b : Int) (f p : Vc) : val (a :: f) (b :: p) = a * b + val f p := dtp_cons ..
theorem val_ml (c : Int) (f p : Vc) : val (mlv c f) p = c * val f p := by
 induction f generalizing p with
 | nil => show (0 : Int) = c * 0; rw [Int.mul_zero]
 | cons a f ih =>
  cases p with
  | nil => show (0 : Int) = c * 0; rw [Int.mul_zero]
  | cons b p =>
   show val (c * a :: mlv c f) (b :: p) = _
   rw [val_cons, val_cons, ih, Int.mul_add, Int.mul_assoc]
theorem val_ad : ∀ (f g p : Vc), f.length = g.length → val (adv f g) p = val f p + val g p
 | [], [], p, _ => rfl
 | [], _ :: _, _, h => by cases h
 | _ :: _, [], _, h => by cases h
 | a :: f, b :: g, [], _ => rfl
 | a :: f, b :: g, c :: p, h => by
  show val ((a + b) :: adv f g) (c :: p) = _
  rw [val_cons, val_cons, val_cons, val_ad f g p (by simpa using h), Int.add_mul]; omega
theorem val_rep (n : Int) : ∀ (m : Nat) (p : Vc), p.length = m → val (List.replicate m n) p = n * p.sum
 | 0, [], _ => by show (0 : Int) = n * 0; rw [Int.mul_zero]
 | 0, _ :: _, h => by cases h
 | m + 1, [], h => by cases h
 | m + 1, b :: p, h => by
  rw [List.replicate_succ, val_cons, val_rep n m p (by simpa using h), List.sum_cons, Int.mul_add]
theorem sum_get : ∀ (m : Nat) (p : Vc), p.length = m → ((List.range m).map fun j => p.getD j 0).sum = p.sum := fun m p h => by
 rw [← range_getD h]
structure Px (m : Nat) (x : Vc) : Prop where
 len : x.length = m
 pos : ∀ z, z ∈ x → 0 ≤ z
 nz : ∃ z, z ∈ x ∧ z ≠ 0
theorem Px.sum {m : Nat} {x : Vc} (h : Px m x) : 0 < x.sum := by
 obtain ⟨z, hz, h0⟩ := h.nz
 have := (sum_pos_mem x h.pos).2 z hz
 have := h.pos z hz
 omega
def Inn (m : Nat) (cs : List Vc) (x : Vc) : Prop := ∀ g : Vc, g.length = m → (∀ c, c ∈ cs → 0 ≤ val g c) → 0 ≤ val g x
def InC (m : Nat) (c : Cl) (x : Vc) : Prop := Inn m c.1 x ∧ ∀ f, f ∈ c.2 → 0 < val f x
section
variable {m : Nat} {PG : Nat → List Vc → Prop}
def SN (c : Cl) : Prop := ∀ f, f ∈ c.2 → ∀ p, p ∈ c.1 → 0 ≤ val f p
end
section
variable {m : Nat} {PG : Nat → List Vc → Prop}
end
section
variable {m : Nat} {PG : Nat → List Vc → Prop}
end
def Cov (m : Nat) (PG : Nat → List Vc → Prop) : Prop := ∀ {k : Nat} {cs : List Vc} {f x : Vc}, PG k cs → Fm m f → Inn m cs x → 0 ≤ val f x → Inn m (kp cs f) x
section
variable {m : Nat} {PG : Nat → List Vc → Prop}
theorem val_comm : ∀ f g : Vc, val f g = val g f
 | [], [] => rfl
 | [], _ :: _ => rfl
 | _ :: _, [] => rfl
 | a :: f, b :: g => by rw [val_cons, val_cons, val_comm f g, Int.mul_comm]
end
def dt (a b : Vc) : Int := a.getD 0 0 * b.getD 1 0 - a.getD 1 0 * b.getD 0 0
def SI (p : Vc) (c : List Vc) : Prop := ∃ a, a ∈ c ∧ ∃ b, b ∈ c ∧ 0 < dt a p ∧ 0 < dt p b
def ND (c : List Vc) : Prop := ∃ a, a ∈ c ∧ ∃ b, b ∈ c ∧ 0 < dt a b
open Classical in
noncomputable def pot (p : Vc) (c : Cl) : Nat := if Px 2 p ∧ ND c.1 then (if SI p c.1 then 3 else if InC 2 c p then 1 else 0) else 0
def zr (d : Vc) : Vc := if d.getD 0 0 < 0 then [d.getD 1 0, -d.getD 0 0] else [-d.getD 1 0, d.getD 0 0]
def lvs (rs : List Int) (m : Nat) : Xp → List Vc
 | .fig n => [List.replicate m n]
 | .reg i => [List.replicate m (rs.getD i 0)]
 | .shr i => [shrV m i]
 | .tim n a => (lvs rs m a).map (mlv n)
 | .byr i a => (lvs rs m a).map (mlv (rs.getD i 0))
 | .whn i f a b => if rs.getD i 0 < f then lvs rs m a else lvs rs m b
 | .whr _ _ a b => lvs rs m a ++ lvs rs m b
 | .sum a b => (lvs rs m a).flatMap fun x => (lvs rs m b).map (adv x)
 | .les a b => (lvs rs m a).flatMap fun x => (lvs rs m b).map (sbv x)
 | .lst a b => lvs rs m a ++ lvs rs m b
 | .mst a b => lvs rs m a ++ lvs rs m b
def brs (rs : List Int) (m : Nat) : Xp → List Vc
 | .fig _ => []
 | .reg _ => []
 | .shr _ => []
 | .tim _ a => brs rs m a
 | .byr _ a => brs rs m a
 | .whn i f a b => if rs.getD i 0 < f then brs rs m a else brs rs m b
 | .whr i k a b => bdr i k m :: (brs rs m a ++ brs rs m b)
 | .sum a b => brs rs m a ++ brs rs m b ++ []
 | .les a b => brs rs m a ++ brs rs m b ++ []
 | .lst a b => brs rs m a ++ brs rs m b ++ (lvs rs m a).flatMap fun x => (lvs rs m b).map (sbv x)
 | .mst a b => brs rs m a ++ brs rs m b ++ (lvs rs m a).flatMap fun x => (lvs rs m b).map (sbv x)
noncomputable def potB (fs : List Vc) (c : Cl) : Nat := (fs.map fun f => pot (zr f) c).sum
structure Cnt (rs : List Int) (e : Xp) (c : Cl) : Prop where
 fo : ∀ q, q ∈ pcsP rs 2 e c → q.2 ∈ lvs rs 2 e
 po : ∀ p, ((pcsP rs 2 e c).map fun q => pot p q.1).sum ≤ pot p c
 ln : (pcsP rs 2 e c).length ≤ 1 + potB (brs rs 2 e) c
 cu : (pcsC rs 2 e c).length ≤ potB (brs rs 2 e) c
namespace B
structure Ctx (many : Nat) (rs sh : List Int) : Prop where
 rl : rs.length = 4
 rb : ∀ r, r ∈ rs → -1000 ≤ r ∧ r ≤ 1000
 sl : sh.length = many
 sp : ∀ s, s ∈ sh → 0 ≤ s
 st : sh.sum ≤ 10 ^ 300
section
variable {many : Nat} {rs sh : List Int}
end
end B
namespace B
end B
def nlX : Xp → Nat
 | .fig _ => 1
 | .reg _ => 1
 | .shr _ => 1
 | .tim _ a => nlX a
 | .byr _ a => nlX a
 | .whn _ _ a b => nlX a + nlX b
 | .whr _ _ a b => nlX a + nlX b
 | .sum a b => nlX a + nlX b
 | .les a b => nlX a + nlX b
 | .lst a b => nlX a + nlX b
 | .mst a b => nlX a + nlX b
theorem sq_le {x y : Nat} (hx : 2 ≤ x) (hy : 2 ≤ y) : 4 * (x * x) ≤ x * y * (x * y) ∧ 4 * (y * y) ≤ x * y * (x * y) ∧ 4 * (x * y) ≤ x * y * (x * y) ∧ x + y ≤ x * y := by
 have h1 : 2 * 2 ≤ x * y := Nat.mul_le_mul hx hy
 have h2 : 2 * 2 ≤ x * x := Nat.mul_le_mul hx hx
 have h3 : 2 * 2 ≤ y * y := Nat.mul_le_mul hy hy
 have e : x * y * (x * y) = x * x * (y * y) := by grind
 refine ⟨?_, ?_, Nat.mul_le_mul_right _ h1, ?_⟩
 ·rw [e, Nat.mul_comm 4]; exact Nat.mul_le_mul_left _ h3
 ·rw [e]; exact Nat.mul_le_mul_right _ h2
 ·obtain ⟨a, rfl⟩ : ∃ a, x = a + 2 := ⟨x - 2, by omega⟩
  obtain ⟨b, rfl⟩ : ∃ b, y = b + 2 := ⟨y - 2, by omega⟩
  have : (a + 2) * (b + 2) = a * b + 2 * a + 2 * b + 4 := by grind
  omega
structure Fine (m z : Nat) (q : Dbt × One) : Prop where
 oko : OkO m q
 pu : 0 ≤ q.2.purse
 fc : bt 70 (facO q)
 st : ∀ e, e ∈ q.1.stakes → lev e ≤ 6 ∧ szX e ≤ z
def kdEs : List (Int × Int) → List DictEntry → Bool
 | [], es => es.isEmpty
 | q :: r, es => match es with
   | [] => false
   | e :: es => (match e.key with
    | .int j _ => decide (j = q.1)
    | _ => false) && (decide (e.hash = hashInt q.1) && ((match e.val with
    | .int j _ => decide (j = q.2)
    | _ => false) && kdEs r es))
structure KDm (K : PySem.W.Frag) (mg : Str → Option Value) (x : Str) (kvs : List (Int × Int)) : Prop where
 ex : ∃ (a : Addr) (es : Array DictEntry) (n : Nat), mg x = some (.ref a) ∧ K.lookup a = some ⟨.type "dict", none, .dict es n, #[]⟩ ∧ kdEs kvs es.toList = true
def kdB (K : PySem.W.Frag) (q : Str × List (Int × Int)) : Bool := match PySem.W.nsIn K mainGlobals q.1 with
 | some (some (.ref a)) => match K.lookup a with
   | some ⟨.type c, none, .dict es _, sl⟩ => decide (c = "dict") && (sl.isEmpty && kdEs q.2 es.toList)
   | _ => false
 | _ => false
section
variable {X : Cx} {b : Expr} {fb : EX} {pos p : Pos} {x : Str} {kvs : List (Int × Int)}
end
structure SaysQ (fa : List He.Fa) (fn : List He.DefD) (cs : List (Str × D)) (kd : List (Str × List (Int × Int))) (K : PySem.W.Frag) : Prop where
 d : He.SaysD fa fn K
 c : ((cs.all fun q => gcB K q) && kd.all fun q => kdB K q) = true
def linesL (ms : List Mb) : Int := (((flL ms).map fun q => q.1.stakes.map fun e => (ct e).2).flatten).sum
def natP (is : List Nat) : List Int := is.map fun i : Nat => (i : Int)
def pthD (is : List Nat) : D := .tup ((natP is).map D.int)
theorem CV_wholeN {S : Sto} {z lo : Int} {Q : D → Sto → Prop} (q : Q (.bl (decide (lo ≤ z))) S) : CV c_is_whole [.int z, .int lo, .non] S Q := by
 refine CV_plain rfl ?_
 unfold b_is_whole
 (simp_arith [r_isIi, r_isBi, Bool.not_false, isNon])
 split
 ·rename_i h
  rw [decide_eq_true h] at q
  exact RtP_same rfl q
 ·rename_i h
  rw [decide_eq_false h] at q
  exact RtP_same rfl q
namespace B
end B
theorem three {v : Vc} (h : v.length = 3) : ∃ a b c, v = [a, b, c] := by
 match v, h with
 | [a, b, c], _ => exact ⟨a, b, c, rfl⟩
theorem val3 (a b c x y z : Int) : val [a, b, c] [x, y, z] = a * x + b * y + c * z := by
 unfold val dtp
 simp
 omega
def Par (p q : Vc) : Prop := p.getD 0 0 * q.getD 1 0 = p.getD 1 0 * q.getD 0 0 ∧ p.getD 0 0 * q.getD 2 0 = p.getD 2 0 * q.getD 0 0 ∧ p.getD 1 0 * q.getD 2 0 = p.getD 2 0 * q.getD 1 0
def Nz (f : Vc) : Prop := ∃ x, x ∈ f ∧ x ≠ 0
theorem cancel0 {a b : Int} (h : a * b = 0) (hb : b ≠ 0) : a = 0 := (Int.mul_eq_zero.mp h).resolve_right hb
theorem cross_par {f0 f1 f2 a0 a1 a2 d0 d1 d2 : Int} (h1 : f0 * d0 + f1 * d1 + f2 * d2 = 0) (h2 : a0 * d0 + a1 * d1 + a2 * d2 = 0) :
  d0 * (f2 * a0 - f0 * a2) = d1 * (f1 * a2 - f2 * a1) ∧ d0 * (f0 * a1 - f1 * a0) = d2 * (f1 * a2 - f2 * a1) ∧ d1 * (f0 * a1 - f1 * a0) = d2 * (f2 * a0 - f0 * a2) := by
 refine ⟨?_, ?_, ?_⟩ <;> grind
theorem along2 {w0 w1 w2 d0 d1 d2 z0 z1 z2 : Int} (n : w0 ≠ 0 ∨ w1 ≠ 0 ∨ w2 ≠ 0) (h : d0 * w1 = d1 * w0 ∧ d0 * w2 = d2 * w0 ∧ d1 * w2 = d2 * w1) (g : z0 * w1 = z1 * w0 ∧ z0 * w2 = z2 * w0 ∧ z1 * w2 = z2 * w1) : d0 * z1 = d1 * z0 ∧ d0 * z2 = d2 * z0 ∧ d1 * z2 = d2 * z1 := by
 obtain ⟨h1, h2, h3⟩ := h
 obtain ⟨g1, g2, g3⟩ := g
 rcases n with n | n | n
 ·have k : ∀ a b : Int, a * (w0 * w0) = b * (w0 * w0) → a = b := fun a b g => Int.eq_of_mul_eq_mul_right (Int.mul_ne_zero n n) g
  exact ⟨k _ _ (by grind), k _ _ (by grind), k _ _ (by grind)⟩
 ·have k : ∀ a b : Int, a * (w1 * w1) = b * (w1 * w1) → a = b := fun a b g => Int.eq_of_mul_eq_mul_right (Int.mul_ne_zero n n) g
  exact ⟨k _ _ (by grind), k _ _ (by grind), k _ _ (by grind)⟩
 ·have k : ∀ a b : Int, a * (w2 * w2) = b * (w2 * w2) → a = b := fun a b g => Int.eq_of_mul_eq_mul_right (Int.mul_ne_zero n n) g
  exact ⟨k _ _ (by grind), k _ _ (by grind), k _ _ (by grind)⟩
theorem along_zero {d0 d1 d2 z0 z1 z2 b0 b1 b2 : Int} (h : d0 * z1 = d1 * z0 ∧ d0 * z2 = d2 * z0 ∧ d1 * z2 = d2 * z1) (hd : b0 * d0 + b1 * d1 + b2 * d2 = 0) (hz : b0 * z0 + b1 * z1 + b2 * z2 ≠ 0) : d0 = 0 ∧ d1 = 0 ∧ d2 = 0 := by
 obtain ⟨h1, h2, h3⟩ := h
 have k0 : d0 * (b0 * z0 + b1 * z1 + b2 * z2) = 0 := by grind
 have k1 : d1 * (b0 * z0 + b1 * z1 + b2 * z2) = 0 := by grind
 have k2 : d2 * (b0 * z0 + b1 * z1 + b2 * z2) = 0 := by grind
 exact ⟨cancel0 k0 hz, cancel0 k1 hz, cancel0 k2 hz⟩
theorem comb3 {f0 f1 f2 p0 p1 p2 y0 y1 y2 z0 z1 z2 K L M P Y Z : Int} (hp : f0 * p0 + f1 * p1 + f2 * p2 = P) (hy : f0 * y0 + f1 * y1 + f2 * y2 = Y) (hz : f0 * z0 + f1 * z1 + f2 * z2 = Z) :
  f0 * (p0 * K - (L * y0 + M * z0)) + f1 * (p1 * K - (L * y1 + M * z1)) + f2 * (p2 * K - (L * y2 + M * z2)) = P * K - (L * Y + M * Z) := by
 subst hp hy hz
 grind
theorem nz_or {w0 w1 w2 : Int} (h : ¬ (w0 = 0 ∧ w1 = 0 ∧ w2 = 0)) : w0 ≠ 0 ∨ w1 ≠ 0 ∨ w2 ≠ 0 := by
 by_cases h0 : w0 = 0
 ·by_cases h1 : w1 = 0
  ·exact .inr (.inr fun h2 => h ⟨h0, h1, h2⟩)
  ·exact .inr (.inl h1)
 ·exact .inl h0
theorem nz3 {a b c : Int} (h : Nz [a, b, c]) : ¬ (a = 0 ∧ b = 0 ∧ c = 0) := by
 rintro ⟨rfl, rfl, rfl⟩
 obtain ⟨t, ht, hn⟩ := h
 simp at ht
 exact hn ht
theorem between {f e e' z z' p g : Vc} (lf : f.length = 3) (le : e.length = 3) (le' : e'.length = 3) (lz : z.length = 3) (lz' : z'.length = 3) (lp : p.length = 3) (lg : g.length = 3)
  (fz : val f z = 0) (fz' : val f z' = 0) (fp : val f p = 0) (ez : val e z = 0) (ez' : 0 < val e z') (ep : 0 ≤ val e p) (ez1 : val e' z' = 0) (ez2 : 0 < val e' z) (ep' : 0 ≤ val e' p) (gz : 0 ≤ val g z) (gz' : 0 ≤ val g z') (nf : Nz f) : 0 ≤ val g p := by
 obtain ⟨f0, f1, f2, rfl⟩ := three lf
 obtain ⟨a0, a1, a2, rfl⟩ := three le
 obtain ⟨b0, b1, b2, rfl⟩ := three le'
 obtain ⟨z0, z1, z2, rfl⟩ := three lz
 obtain ⟨y0, y1, y2, rfl⟩ := three lz'
 obtain ⟨p0, p1, p2, rfl⟩ := three lp
 obtain ⟨g0, g1, g2, rfl⟩ := three lg
 simp only [val3] at *
 generalize hA : a0 * y0 + a1 * y1 + a2 * y2 = A at *
 generalize hB : b0 * z0 + b1 * z1 + b2 * z2 = B at *
 generalize hC : a0 * p0 + a1 * p1 + a2 * p2 = C at *
 generalize hD : b0 * p0 + b1 * p1 + b2 * p2 = D at *
 have fd := comb3 (K := A * B) (L := C * B) (M := D * A) fp fz' fz
 have ed := comb3 (K := A * B) (L := C * B) (M := D * A) hC hA ez
 have ed' := comb3 (K := A * B) (L := C * B) (M := D * A) hD ez1 hB
 have gd := comb3 (f0 := g0) (f1 := g1) (f2 := g2) (p0 := p0) (p1 := p1) (p2 := p2) (y0 := y0) (y1 := y1) (y2 := y2) (z0 := z0) (z1 := z1) (z2 := z2) (K := A * B) (L := C * B) (M := D * A) rfl rfl rfl
 have c1 : C * (A * B) - (C * B * A + D * A * 0) = 0 := by rw [Int.mul_zero, Int.add_zero, Int.mul_assoc C B A, Int.mul_comm B A]; omega
 have c2 : D * (A * B) - (C * B * 0 + D * A * B) = 0 := by rw [Int.mul_zero, Int.zero_add, Int.mul_assoc D A B]; omega
 rw [c1] at ed
 rw [c2] at ed'
 rw [show (0 : Int) * (A * B) - (C * B * 0 + D * A * 0) = 0 by simp] at fd
 have U := cross_par fd ed
 have V := cross_par fz ez
 have nu := nz_or (w0 := f1 * a2 - f2 * a1) (w1 := f2 * a0 - f0 * a2) (w2 := f0 * a1 - f1 * a0) fun ⟨h0, h1, h2⟩ => by
  have q : f0 * a1 = f1 * a0 ∧ f0 * a2 = f2 * a0 ∧ f1 * a2 = f2 * a1 := ⟨by omega, by omega, by omega⟩
  exact nz3 nf (along_zero q (b0 := y0) (b1 := y1) (b2 := y2) (by rw [Int.mul_comm y0, Int.mul_comm y1, Int.mul_comm y2]; exact fz') (by rw [Int.mul_comm y0, Int.mul_comm y1, Int.mul_comm y2, hA]; omega))
 have P := along2 nu U V
 obtain ⟨w0, w1, w2⟩ := along_zero P ed' (by rw [hB]; omega)
 rw [w0, w1, w2] at gd
 have fin : (g0 * p0 + g1 * p1 + g2 * p2) * (A * B) = C * B * (g0 * y0 + g1 * y1 + g2 * y2) + D * A * (g0 * z0 + g1 * z1 + g2 * z2) := by simp only [Int.mul_zero, Int.add_zero] at gd; omega
 have m1 := Int.mul_nonneg (Int.mul_nonneg ep (Int.le_of_lt ez2)) gz'
 have m2 := Int.mul_nonneg (Int.mul_nonneg ep' (Int.le_of_lt ez')) gz
 exact Int.nonneg_of_mul_nonneg_left (by rw [fin]; omega) (Int.mul_pos ez' ez2)
theorem dvd_row : ∀ (ns : List Int) (g d t : Int), d ∣ t * g → (∀ n, n ∈ ns → d ∣ t * n) → d ∣ t * gcdF g ns
 | [], g, d, t, h, _ => h
 | n :: ns, g, d, t, h, hn => dvd_row ns _ d t (by
     have h1 : d ∣ (Int.gcd (t * g) (t * n) : Int) := Int.dvd_coe_gcd h (hn n (List.mem_cons_self ..))
     rw [Int.gcd_mul_left, Int.natCast_mul] at h1
     rcases Int.natAbs_eq t with e | e
     ·rw [← e] at h1; exact h1
     ·have e2 : (t.natAbs : Int) = -t := by omega
      rw [e2, Int.neg_mul] at h1
      exact Int.dvd_neg.mp h1) fun k hk => hn k (List.mem_cons_of_mem _ hk)
def Xp2 (p : Vc) : Prop := ∃ g h, Fm 3 g ∧ Fm 3 h ∧ val g p = 0 ∧ val h p = 0 ∧ ¬ Par g h
end Pv
namespace Pv
open PySem
end Pv
namespace Pv
open PySem PySem.Spec PyProof.Rows L2
section
variable {X : Cx}
end
structure Dy (d : Dbt) (wt : Int) (o : One) (j : Nat) : Prop where
 rg : Rg o.rs
 we : o.weight = wt
 pu : 0 ≤ o.purse ∧ o.purse ≤ 2 ^ (60 + j)
 ow : 0 ≤ o.owed ∧ o.owed + 1 ≤ 2 ^ (60 + j)
 da : ∃ n : Nat, o.days = n ∧ n ≤ j ∧ Row (bnd d) wt n o.got (o.purse + o.owed)
theorem mem_at {cs : List Vc} {z : Vc} (h : z ∈ cs) : ∃ i, i < cs.length ∧ cs.getD i [] = z := by
 obtain ⟨i, hi, e⟩ := List.mem_iff_getElem.mp h
 exact ⟨i, hi, by rw [List.getD_eq_getElem?_getD, List.getElem?_eq_getElem hi, ← e]; rfl⟩
def pd1 (n i : Nat) : Nat := if i = 0 then n - 1 else i - 1
theorem prv_eq (cs : List Vc) (i : Nat) : prv cs i = cs.getD (pd1 cs.length i) [] := rfl
def Sup (cs : List Vc) (x y : Vc) : Prop := ∃ e, Fm 3 e ∧ Nz e ∧ val e x = 0 ∧ val e y = 0 ∧ ∀ z, z ∈ cs → 0 ≤ val e z ∧ (val e z = 0 → z = x ∨ z = y)
structure Cvx (cs : List Vc) : Prop where
 nd : cs.Nodup
 pt : ∀ p, p ∈ cs → Px 3 p ∧ gcdF 0 p = 1 ∧ Xp2 p
 sup : ∀ i, i < cs.length → Sup cs (prv cs i) (cs.getD i [])
section
variable {cs : List Vc} {f : Vc}
def On (cs : List Vc) (f : Vc) (j : Nat) (x : Vc) : Prop := x = prv cs j ∨ x = cs.getD j [] ∨ (x = crs f (prv cs j) (cs.getD j []) ∧ val f (prv cs j) * val f (cs.getD j []) < 0)
end
section
variable {cs : List Vc} {f : Vc}
def AP (cs : List Vc) (f x y : Vc) : Prop := (∃ j, j < cs.length ∧ On cs f j x ∧ On cs f j y) ∨ (val f x = 0 ∧ val f y = 0 ∧ ∃ w, w ∈ cs ∧ val f w < 0)
def lastV (A : List Vc) : Vc := A.getD (A.length - 1) []
def Lk (R : Vc → Vc → Prop) (A : List Vc) : Prop := ∀ i, i + 1 < A.length → R (A.getD i []) (A.getD (i + 1) [])
def FC (cs : List Vc) (f h : Vc) : Prop := (0 ≤ val f (prv cs 0) ∧ On cs f 0 h) ∨ (val f h = 0 ∧ (val f (prv cs 0) < 0 ∨ (val f (prv cs 0) = 0 ∧ val f (cs.getD 0 []) < 0)))
structure Scan (cs : List Vc) (f : Vc) (i : Nat) (A : List Vc) : Prop where
 lk : Lk (AP cs f) A
 la : 0 < i → 0 ≤ val f (cs.getD (i - 1) []) → A ≠ [] ∧ lastV A = cs.getD (i - 1) []
 lb : 0 < i → val f (cs.getD (i - 1) []) < 0 → A ≠ [] → val f (lastV A) = 0
 fc : A ≠ [] → FC cs f (A.getD 0 [])
 ne : A = [] → 0 < i → val f (cs.getD 0 []) < 0 ∧ val f (prv cs 0) ≤ 0
end
section
variable {cs : List Vc} {f : Vc}
end
section
variable {cs : List Vc} {f : Vc}
theorem round {P : Vc → Prop} {i : Nat} (hi : i < cs.length) (h0 : P (cs.getD i [])) (hs : ∀ k, k < cs.length → P (prv cs k) → P (cs.getD k [])) : ∀ j, j < cs.length → P (cs.getD j []) := by
 have go : ∀ m, m < cs.length → i + m < cs.length → P (cs.getD (i + m) []) := by
  intro m
  induction m with
  | zero => intro _ _; exact h0
  | succ m ih =>
   intro h1 h2
   refine hs _ h2 ?_
   rw [prv_eq]
   have e : pd1 cs.length (i + (m + 1)) = i + m := by unfold pd1; rw [if_neg (by omega)]; omega
   rw [e]
   exact ih (by omega) (by omega)
 have zero : P (cs.getD 0 []) := by
  refine hs 0 (by omega) ?_
  rw [prv_eq]
  have e : pd1 cs.length 0 = i + (cs.length - 1 - i) := by unfold pd1; rw [if_pos rfl]; omega
  rw [e]
  exact go _ (by omega) (by omega)
 intro j
 induction j with
 | zero => intro _; exact zero
 | succ j ih =>
  intro h
  refine hs _ h ?_
  rw [prv_eq]
  have e : pd1 cs.length (j + 1) = j := by unfold pd1; rw [if_neg (by omega)]; omega
  rw [e]
  exact ih (by omega)
theorem leave (C : Cvx cs) {a b : Vc} (ha : a ∈ cs) (hb : b ∈ cs) (fa : 0 < val f a) (fb : val f b < 0) : ∃ k, k < cs.length ∧ val f (prv cs k) < 0 ∧ 0 ≤ val f (cs.getD k []) := by
 refine Classical.byContradiction fun h => ?_
 obtain ⟨i, hi, rfl⟩ := mem_at ha
 obtain ⟨j, hj, rfl⟩ := mem_at hb
 have := round (P := fun v => val f v < 0) hj fb (fun k hk hp => Int.not_le.mp fun g => h ⟨k, hk, hp, g⟩) i hi
 omega
end
structure FineN (m N : Nat) (q : Dbt × One) : Prop where
 oko : OkO m q
 pu : 0 ≤ q.2.purse
 fc : bt 70 (facO q)
 st : ∀ e, e ∈ q.1.stakes → lev e ≤ 8 ∧ szX e ≤ 100 ∧ npX e ≤ N
section
variable {m N : Nat} {PG : Nat → List Vc → Prop}
end
structure Rivq (m : Nat) (q : Dbt × One) : Prop where
 sc : q.1.scale = 4
 st : q.1.stakes = byS m
theorem rg_get {m s : Nat} {f : Nat → Int} (hs : s < m) : ((List.range m).map f).getD s 0 = f s := by
 rw [List.getD_eq_getElem?_getD, List.getElem?_map, List.getElem?_range hs]
 rfl
structure Off (m : Nat) (x : Vc) (far : Int) (s o : Nat) (r : Vc) : Prop where
 len : r.length = m
 hs : s < m
 ho : o < m
 ne : s ≠ o
 at' : ∀ t, t < m → r.getD t 0 = far * x.getD t 0 + (if t = s then 1 else 0) - (if t = o then 1 else 0)
structure Rw (m : Nat) (M : Int) (R : Vc) (pl : Vc → Vc) : Prop where
 rl : R.length = m
 rp : ∀ z, z ∈ R → 0 ≤ z
 rs : R.sum = 1000 * M
 pe : ∀ x : Vc, x.length = m → pl x = (List.range m).map fun s => R.getD s 0 * x.sum - 1000 * M * x.getD s 0
section
variable {m : Nat} {M : Int} {R : Vc} {pl : Vc → Vc} (w : Rw m M R pl)
include w
end
def rvD (m : Nat) : Dbt := ⟨"rival", 4, [0, 0, 0, 0], byS m, List.replicate m []⟩
structure RV (m : Nat) (q : Dbt × One) : Prop where
 db : q.1 = rvD m
 rl : q.2.rs.length = 4
 rb : ∀ r, r ∈ q.2.rs → 0 ≤ r ∧ r ≤ 1000
 r1 : ((List.range m).map fun s => q.2.rs.getD s 0).sum = 1000
 pu : 0 ≤ q.2.purse ∧ q.2.purse ≤ 10 ^ 12
section
variable {m N : Nat} {PG : Nat → List Vc → Prop}
end
structure Lone (x pl : Vc) (s : Nat) (c : Int) : Prop where
 xl : x.length = 3
 pl' : pl.length = 3
 hs : s < 3
 at' : ∀ j, j < 3 → j ≠ s → pl.getD j 0 = c
section
variable {prog : Program} {w : World} {A : Around} {E : Value → Shared → Prop} {s : Shared}
end
section
variable {X : Cx}
end
structure OneV (o : One) : Prop where
 rg : Rg o.rs
 we : 1 ≤ o.weight ∧ o.weight ≤ 1000000000000
 pu : 0 ≤ o.purse
 ow : 0 ≤ o.owed
 da : 0 ≤ o.days
mutual
def mbV (many : Nat) : Mb → Prop
 | .one d o => DbG many d ∧ OneV o
 | .home x ms => nameOk x = true ∧ ms.length ≤ 24 ∧ mbVL many ms
def mbVL (many : Nat) : List Mb → Prop
 | [] => True
 | m :: ms => mbV many m ∧ mbVL many ms
end
structure Dn (m : Nat) (ms : List Mb) : Prop where
 hm : m = 2 ∨ m = 3
 ok : mbOkL ms
 tl : mbTL ms ≤ 5
 nl : mbNL ms ≤ 500
 on : ∀ q, q ∈ flL ms → DbJ m 1 1 q.1 ∧ OnOk q.2
 ln : (flL ms).length ≤ 12 ∧ (m = 3 → (flL ms).length ≤ 2)
section
variable {m : Nat} {E A B : List Mb} {x : Vc} (f : flL E = flL A ++ flL B) (ha : ∀ q, q ∈ flL A → OkO m q) (hb : ∀ q, q ∈ flL B → OkO m q)
include f ha hb
end
namespace B
end B
structure RiC (m : Nat) (q : Dbt × One) (pw : Int) (rs : Vc) (cc : Vc → Int) : Prop where
 co : ∀ (x : Vc) (s : Nat), x.length = m → s < m → col x s q = pw * (rs.getD s 0 * x.sum - 1000 * x.getD s 0) + cc x
 rl : rs.length = m
 rp : ∀ r, r ∈ rs → 0 ≤ r
 r1 : rs.sum = 1000
 pp : 0 ≤ pw
theorem rw_of {m : Nat} : ∀ {qs : List (Dbt × One)}, (∀ q, q ∈ qs → ∃ pw rs cc, RiC m q pw rs cc) → ∃ (M : Int) (R : Vc) (c : Vc → Int), 0 ≤ M ∧ R.length = m ∧ (∀ z, z ∈ R → 0 ≤ z) ∧ R.sum = 1000 * M ∧ ∀ (x : Vc) (s : Nat), x.length = m → s < m → ((qs.map (col x s)).sum = R.getD s 0 * x.sum - 1000 * M * x.getD s 0 + c x)
 | [], _ => ⟨0, List.replicate m 0, fun _ => 0, Int.le_refl _, List.length_replicate, fun z hz => by rw [List.eq_of_mem_replicate hz]; decide, by
   have : ∀ n : Nat, (List.replicate n (0 : Int)).sum = 0 := fun n => by
    induction n with
    | zero => rfl
    | succ n ih => rw [List.replicate_succ, List.sum_cons, ih]; rfl
   rw [this]; rfl, fun x s hx hs => by
   rw [List.getD_eq_getElem?_getD (l := List.replicate m 0), List.getElem?_replicate, if_pos hs]
   simp⟩
 | q :: qs, h => by
  obtain ⟨M, R, c, h0, h1, h2, h3, h4⟩ := rw_of fun p hp => h p (List.mem_cons_of_mem _ hp)
  obtain ⟨pw, rs, cc, k⟩ := h q (List.mem_cons_self ..)
  refine ⟨pw + M, (List.range m).map fun s => pw * rs.getD s 0 + R.getD s 0, fun x => cc x + c x, by have := k.pp; omega, by rw [List.length_map, List.length_range], fun z hz => ?_, ?_, fun x s hx hs => ?_⟩
  ·obtain ⟨s, hs, rfl⟩ := List.mem_map.mp hz
   have hs := List.mem_range.mp hs
   have a := Int.mul_nonneg k.pp (k.rp _ (Pv.getD_mem (ns := rs) (i := s) (by rw [k.rl]; exact hs)))
   have b := h2 _ (Pv.getD_mem (ns := R) (i := s) (by omega))
   omega
  ·have e : ((List.range m).map fun s => pw * rs.getD s 0 + R.getD s 0) = (List.range m).map fun s => R.getD s 0 - (-pw) * rs.getD s 0 := List.map_congr_left fun s _ => by
    rw [Int.neg_mul]
    omega
   rw [e, sum_subL, sum_mulL, sum_get m R h1, sum_get m rs k.rl, h3, k.r1]
   rw [Int.neg_mul]
   omega
  ·rw [List.map_cons, List.sum_cons, h4 x s hx hs, k.co x s hx hs, rg_get hs]
   generalize rs.getD s 0 = a
   generalize R.getD s 0 = b
   generalize x.sum = T
   generalize x.getD s 0 = y
   grind
def r9D (m : Nat) : Dbt := ⟨"rival", 4, [0, 0, 0, 0], byS m, [.tld 3 0] :: List.replicate (m - 1) []⟩
def idD (m : Nat) : Dbt := ⟨"idle", 0, [0, 0, 0, 0], List.replicate m (.fig 9), List.replicate m []⟩
structure R9 (m : Nat) (q : Dbt × One) : Prop where
 db : q.1 = r9D m ∨ q.1 = idD m
 rl : q.2.rs.length = 4
 rb : ∀ r, r ∈ q.2.rs → 0 ≤ r ∧ r ≤ 1000
 r1 : q.1 = r9D m → ((List.range m).map fun s => q.2.rs.getD s 0).sum = 1000
 pu : 0 ≤ q.2.purse ∧ q.2.purse ≤ 10 ^ 10
 we : q.2.weight = 1
 ow : q.2.owed = 0
 da : q.2.days = 0
 go : q.2.got = 0
structure H9 (m : Nat) (ms : List Mb) : Prop where
 hm : m = 2 ∨ m = 3
 ok : mbOkL ms
 tl : mbTL ms ≤ 1
 nl : mbNL ms ≤ 24
 on : ∀ q, q ∈ flL ms → R9 m q
 ln : (flL ms).length ≤ 12
section
variable {m : Nat} {ms : List Mb}
end
section
variable {l : Nat → Nat → Nat} {N : Nat}
end
theorem ml_len (c : Int) (f : Vc) : (mlv c f).length = f.length := by unfold mlv; rw [List.length_map]
theorem ad_len {f g : Vc} (h : f.length = g.length) : (adv f g).length = f.length := by unfold adv; rw [List.length_map, List.length_zip, h, Nat.min_self]
section
variable {m : Nat} {PG : Nat → List Vc → Prop}
end
section
variable {X : Cx}
end
inductive Tre where
 | sg (s : Nat)
 | ct (f : Vc) (lo hi : Tre)
def trD : Tre → D
 | .sg s => .tup [.str "sign", .int (s : Nat)]
 | .ct f a b => .tup [.str "cut", vcD f, trD a, trD b]
def ansT : Tre → Vc → Nat
 | .sg s, _ => s
 | .ct f a b, x => if val f x < 0 then ansT a x else ansT b x
def depT : Tre → Nat
 | .sg _ => 0
 | .ct _ a b => max (depT a) (depT b) + 1
def TreOk (m : Nat) : Tre → Prop
 | .sg s => s < m
 | .ct f a b => Fm m f ∧ TreOk m a ∧ TreOk m b
def gsS (cs ps : List Vc) (s : Nat) : Bool := (ps.map fun o => cs.map fun c => val (sbv (ps.getD s []) o) c).flatten.all fun z => decide (0 ≤ z)
def gsI (cs ps : List Vc) : List Nat := (List.range ps.length).filter (gsS cs ps)
structure CeP (m : Nat) (c : Cl) (ps : List Vc) : Prop where
 pt : ∀ p, p ∈ c.1 → Pt m p
 fm : ∀ a b, a ∈ ps → b ∈ ps → Fm m (sbv a b)
 ln : ∀ a, a ∈ ps → a.length = m
 pl : ps.length = m
 sz : c.1.length ≤ 1000000
def cbP (cs : List Vc) (f : Vc) : Bool := decide (minL (cs.map (val f)) < 0) && decide (0 < maxL (cs.map (val f)))
def cbF (cs ps : List Vc) : Option Vc := (ps.flatMap fun a => ps.map (sbv a)).find? (cbP cs)
theorem px_of_sum {m : Nat} {l : Vc} (h : l.length = m) (p : ∀ n, n ∈ l → 0 ≤ n) (s : 0 < l.sum) : Px m l := ⟨h, p, Classical.byContradiction fun k => by
 have z : ∀ l : Vc, (∀ n, n ∈ l → n = 0) → l.sum = 0 := fun l => by
  induction l with
  | nil => intro _; rfl
  | cons a l ih =>
   intro h
   rw [List.sum_cons, h a (List.mem_cons_self ..), ih fun n hn => h n (List.mem_cons_of_mem _ hn)]
   rfl
 have := z l fun n hn => Classical.byContradiction fun q => k ⟨n, hn, q⟩
 omega⟩
section
variable {m : Nat} {PG : Nat → List Vc → Prop}
theorem val_adr {f x y : Vc} (h : x.length = y.length) : val f (adv x y) = val f x + val f y := by
 rw [val_comm f, val_ad _ _ _ h, val_comm x, val_comm y]
theorem val_mlr {f x : Vc} {n : Int} : val f (mlv n x) = n * val f x := by
 rw [val_comm f, val_ml, val_comm x]
theorem px_add {x y : Vc} {n : Int} (hn : 0 ≤ n) (hx : Px m x) (hy : Px m y) : Px m (adv x (mlv n y)) := by
 have hl : x.length = (mlv n y).length := by rw [ml_len, hx.len, hy.len]
 refine px_of_sum (by rw [ad_len hl, hx.len]) (fun z hz => ?_) ?_
 ·unfold adv at hz
  obtain ⟨⟨a, b⟩, hab, rfl⟩ := List.mem_map.mp hz
  have h1 := hx.pos _ (List.of_mem_zip hab).1
  obtain ⟨c, hc, e⟩ := List.mem_map.mp (List.of_mem_zip hab).2
  have h2 := Int.mul_nonneg hn (hy.pos c hc)
  show 0 ≤ a + b
  omega
 ·have e : ∀ z : Vc, z.length = m → z.sum = val (List.replicate m 1) z := fun z hz => by rw [val_rep 1 m z hz, Int.one_mul]
  rw [e _ (by rw [ad_len hl, hx.len]), val_adr hl, val_mlr, ← e x hx.len, ← e y hy.len]
  have := hx.sum
  have := Int.mul_nonneg hn (Int.le_of_lt hy.sum)
  omega
theorem inc_add {c : Cl} {x v : Vc} {n : Int} (hn : 0 ≤ n) (sn : SN c) (hx : Px m x) (hv : Px m v) (h : InC m c x) (hm : v ∈ c.1) : InC m c (adv x (mlv n v)) := by
 have hl : x.length = (mlv n v).length := by rw [ml_len, hx.len, hv.len]
 refine ⟨fun g hg hc => ?_, fun f hf => ?_⟩
 ·rw [val_adr hl, val_mlr]
  have a := h.1 g hg hc
  have b := Int.mul_nonneg hn (hc v hm)
  omega
 ·rw [val_adr hl, val_mlr]
  have a := h.2 f hf
  have b := Int.mul_nonneg hn (sn f hf v hm)
  omega
theorem push {c : Cl} {x v f : Vc} (sn : SN c) (hx : Px m x) (hv : Px m v) (h : InC m c x) (hm : v ∈ c.1) : ∃ y, Px m y ∧ InC m c y ∧ (0 < val f v → 0 < val f y) ∧ (val f v < 0 → val f y < 0) := by
 have hn : (0 : Int) ≤ (val f x).natAbs + 1 := by omega
 have hl : x.length = (mlv ((val f x).natAbs + 1 : Int) v).length := by rw [ml_len, hx.len, hv.len]
 refine ⟨_, px_add hn hx hv, inc_add hn sn hx hv h hm, fun k => ?_, fun k => ?_⟩
 ·rw [val_adr hl, val_mlr]
  have := Int.mul_le_mul_of_nonneg_left (show 1 ≤ val f v by omega) hn
  omega
 ·rw [val_adr hl, val_mlr]
  have := Int.mul_le_mul_of_nonneg_left (show val f v ≤ -1 by omega) hn
  omega
def CutB (m : Nat) (c : Cl) (f : Vc) : Prop := (∃ x, Px m x ∧ InC m c x ∧ val f x < 0) ∧ ∃ x, Px m x ∧ InC m c x ∧ 0 ≤ val f x
def brT (m : Nat) (ts : List Tk) : List Vc := ts.flatMap fun t => brs t.rs m t.e
end
inductive Stp where
 | leaf (s : Nat)
 | cut (f : Vc)
def frP (m : Nat) (ts : List Tk) (c : Cl) : List Vc := match prP m ts [(c, zerosF m)] with
 | [] => []
 | q :: _ => q.2
def stp (m : Nat) (ts : List Tk) (c : Cl) : Stp := match prC m ts [(c, zerosF m)] with
 | f :: _ => .cut f
 | [] => match gsI c.1 (frP m ts c) with
   | s :: _ => .leaf s
   | [] => match cbF c.1 (frP m ts c) with
    | some f => .cut f
    | none => .leaf 0
def gr (m : Nat) (ts : List Tk) : Nat → Option Cl → Tre
 | 0, _ => .sg 0
 | _ + 1, none => .sg 0
 | n + 1, some c => match stp m ts c with
   | .leaf s => .sg s
   | .cut f => .ct f (gr m ts n (hvC c f true).1) (gr m ts n (hvC c f true).2)
structure Hc (m : Nat) (PG : Nat → List Vc → Prop) (kk n0 : Nat) (ms : List Mb) : Prop where
 G : Geo m PG
 C : Cov m PG
 ok : mbOkL ms
 t1 : mbTL ms < kk
 t2 : mbTL ms ≤ 1000
 nl : mbNL ms ≤ 100000
 oko : ∀ q, q ∈ flL ms → OkO m q ∧ 0 ≤ q.2.purse
 tk : ∀ t, t ∈ tksL m (flL ms) → TkOk m t ∧ lev t.e < n0
 nc : ncT (tksL m (flL ms)) ≤ 200000
 tn : (tksL m (flL ms)).length ≤ 60
 fit : ∀ (c : Cl) (k : Nat), Ce m PG k c → k ≤ 1000 → Fits m (tksL m (flL ms)) [(c, zerosF m)] 0
section
variable {m : Nat} {PG : Nat → List Vc → Prop} {kk n0 : Nat} {ms : List Mb}
def PairB (m : Nat) (ms : List Mb) (c : Cl) (p : Nat × Nat) : Prop := (∃ x, Px m x ∧ InC m c x ∧ (plL m ms x).getD p.1 0 < (plL m ms x).getD p.2 0) ∧ ∃ x, Px m x ∧ InC m c x ∧ (plL m ms x).getD p.2 0 < (plL m ms x).getD p.1 0
def prsN (m : Nat) : List (Nat × Nat) := (List.range m).flatMap fun i => ((List.range m).filter fun j => decide (i < j)).map fun j => (i, j)
open Classical in
noncomputable def mu (m : Nat) (ms : List Mb) (c : Cl) : Nat := ((brT m (tksL m (flL ms))).filter fun f => decide (CutB m c f)).length + ((prsN m).filter fun p => decide (PairB m ms c p)).length
structure Cx1 (m : Nat) (PG : Nat → List Vc → Prop) (k : Nat) (c : Cl) : Prop where
 ce : Ce m PG k c
 sn : SN c
 ex : ∃ x, Px m x ∧ InC m c x
structure StC (m : Nat) (ms : List Mb) (c : Cl) (f : Vc) : Prop where
 fm : Fm m f
 pos : 0 < mu m ms c
 lo : ∀ d, (hvC c f true).1 = some d → mu m ms d < mu m ms c
 hi : ∀ d, (hvC c f true).2 = some d → mu m ms d < mu m ms c
end
section
variable {X : Cx}
end
end Pv
namespace L2
open PySem PySem.Spec PyProof.Rows
section
variable {X : Cx}
end
end L2
namespace Pv
open PySem PySem.Spec PyProof.Rows L2
section
variable {X : Cx}
end
section
variable {m : Nat} {PG : Nat → List Vc → Prop} {kk n0 : Nat} {ms : List Mb}
end
section
variable {m : Nat} {PG : Nat → List Vc → Prop} {kk n0 : Nat} {ms : List Mb}
end
abbrev Tc2 := Tre × Cl
section
variable {m : Nat} {PG : Nat → List Vc → Prop} {kk n0 : Nat} {ms : List Mb}
structure Tk2 (m : Nat) (PG : Nat → List Vc → Prop) (D : Nat) (p : Tc2) : Prop where
 ok : TreOk m p.1
 ce : Ce m PG (3 + (D - depT p.1)) p.2
end
def lfT (n : Nat) : Nat := [0, 1, 2, 3, 4, 6, 9, 12].getD n 0
def bdT (n : Nat) : Nat := [0, 0, 1, 3, 6, 10, 16, 25].getD n 0
theorem tab (a : Nat) (ha : a < 8) (b : Nat) (hb : b < 8) (pa : 1 ≤ a) (pb : 1 ≤ b) (h : a + b ≤ 7) : lfT a * lfT b ≤ lfT (a + b) ∧ lfT a + lfT b ≤ lfT (a + b) ∧ bdT a + bdT b + lfT a * lfT b ≤ bdT (a + b) ∧ bdT a + bdT b + 1 ≤ bdT (a + b) ∧ lfT a ≤ lfT (a + b) ∧ lfT b ≤ lfT (a + b) ∧ bdT a ≤ bdT (a + b) ∧ bdT b ≤ bdT (a + b) := by
 have k : ((List.range 8).all fun a => (List.range 8).all fun b => a == 0 || b == 0 || decide (7 < a + b) || (decide (lfT a * lfT b ≤ lfT (a + b)) && decide (lfT a + lfT b ≤ lfT (a + b)) && decide (bdT a + bdT b + lfT a * lfT b ≤ bdT (a + b)) && decide (bdT a + bdT b + 1 ≤ bdT (a + b)) && decide (lfT a ≤ lfT (a + b)) && decide (lfT b ≤ lfT (a + b)) && decide (bdT a ≤ bdT (a + b)) && decide (bdT b ≤ bdT (a + b)))) = true := by decide +kernel
 have k := List.all_eq_true.mp (List.all_eq_true.mp k a (List.mem_range.mpr ha)) b (List.mem_range.mpr hb)
 have e1 : (a == 0) = false := by simp; omega
 have e2 : (b == 0) = false := by simp; omega
 rw [e1, e2, decide_eq_false (by omega : ¬ 7 < a + b)] at k
 simp only [Bool.false_or, Bool.and_eq_true, decide_eq_true_eq] at k
 obtain ⟨⟨⟨⟨⟨⟨⟨k1, k2⟩, k3⟩, k4⟩, k5⟩, k6⟩, k7⟩, k8⟩ := k
 exact ⟨k1, k2, k3, k4, k5, k6, k7, k8⟩
structure Fh (m : Nat) (ms : List Mb) : Prop where
 hm : m = 2 ∨ m = 3
 ok : mbOkL ms
 tl : mbTL ms ≤ 5
 nl : mbNL ms ≤ 500
 fine : ∀ q, q ∈ flL ms → Fine m 13 q
 ln : (flL ms).length ≤ 12
 f3 : m = 3 → ∃ N, 1 ≤ N ∧ N ≤ 4000000 ∧ (∀ q, q ∈ flL ms → FineN 3 N q) ∧ N ^ (3 * (flL ms).length) ≤ 4000000
section
variable {P : Program} {w : World} {K : PySem.W.Frag} {mg : Str → Option Value} {base : Heap} {k : Nat} {x y qual : Str} {ps : List Str} {con : Con} {params : Arguments} {body : List Stmt} {scope : Scope} {f : Addr} {fd : FuncData}
end
def npE : List Xp → Nat
 | [] => 1
 | e :: es => npX e * npE es
def npP (ts : List Tk) : Nat := npE (ts.map fun t => t.e)
section
variable {m N : Nat} {PG : Nat → List Vc → Prop}
end
structure Fp (m : Nat) (ms : List Mb) : Prop where
 hm : m = 2 ∨ m = 3
 ok : mbOkL ms
 tl : mbTL ms ≤ 5
 nl : mbNL ms ≤ 500
 fine : ∀ q, q ∈ flL ms → Fine m 13 q
 ln : (flL ms).length ≤ 12
 f3 : m = 3 → ∃ N, N ≤ 4000000 ∧ (∀ q, q ∈ flL ms → FineN 3 N q) ∧ npP (tksL 3 (flL ms)) ≤ 8000000
def lvT : Tre → Nat
 | .sg _ => 1
 | .ct _ a b => lvT a + lvT b
section
variable {m : Nat} {PG : Nat → List Vc → Prop} {kk n0 : Nat} {ms : List Mb}
end
section
variable {c : C} {m m0 : M}
end
section
variable {K : PySem.W.Frag} {P : Program} {w : World} {mg : Str → Option Value} {base : Heap} {x qual : Str} {params : Arguments} {body : List Stmt} {scope : Scope} {dvs : List V} {kws : List (Str × V)} {f : Addr} {fd : FuncData} {N ps : List Str} {k : Nat} {con : Con}
end
section
variable {m : Nat} {PG : Nat → List Vc → Prop}
structure WOk (m : Nat) (i : Nat) (k : Int) (a b : Xp) : Prop where
 hi : i < m
 h1 : 1 ≤ k
 h2 : k ≤ 1000
 oa : exOk m a
 ob : exOk m b
 la : lev a ≤ 18
 lb : lev b ≤ 18
end
structure WmJ (m F : Nat) (p : Wm) : Prop where
 is : ∃ i k a b, p.1 = .whr i k a b ∧ WOk m i k a b ∧ ncX a + ncX b ≤ 300000 ∧ npX a ≤ 1000000 ∧ npX b ≤ 1000000 ∧ lev a < F ∧ lev b < F
noncomputable def b_is_shares (k_is_whole k_common : Con) : SX := sSeq (sIf (tOr' (tNot' (tOf (e1 (gIs "tuple") (eVar 0)))) (tOr' (tOf (e2 fNe (eCB (fn1 gLen) (aCons (eVar 0) (aNil))) (eVar 1))) (tNot' (tOf (eCB (fn1 gAll) (aCons (eFz (lLc (iSeq (eVar 0)) (gN 2) (tYes') (eCall k_is_whole (aCons (eVar 2) (aCons (eC (.int 0)) (aCons (eC .non) (aNil))))) [2])) (aNil))))))) (sRet (eC (.bl false))) (sNil)) (sRet (e2 fEq (eCall k_common (aCons (eVar 0) (aNil))) (eC (.int 1))))
noncomputable def c_isshares : Con := den 2 3 0 (b_is_shares c_is_whole c_common)
section
variable {m : Nat} {PG : Nat → List Vc → Prop}
theorem CV_isshares {S : Sto} {x : Vc} {Q : D → Sto → Prop} (hx : Px m x) (hl : m ≤ 1000) (q : Q (.bl (decide (gcdF 0 x = 1))) S) : CV c_isshares [vcD x, .int m] S Q := by
 refine CV_plain rfl ?_
 unfold b_is_shares
 have xl := hx.len
 have ln : ∀ T : Sto, gLen T (vcD x) = some (.int m) := fun T => by
  show some (D.int ((x.map D.int).length : Int)) = _
  rw [List.length_map, hx.len]
 have it : ∀ T : Sto, gIs "tuple" T (vcD x) = some (.bl true) := fun _ => rfl
 have sq : ∀ T : Sto, seqOf T (vcD x) = some (x.map D.int) := fun _ => rfl
 (simp_arith! [ln, it, sq])
 rw [if_neg (show ¬ (true = false) from Bool.noConfusion), if_neg (show ¬ (true = false) from Bool.noConfusion)]
 refine (LV_mapG D.int (fun _ => .bl true) (fun n _ => rfl) fun z K hz hK => ?_).imp fun out S2 q2 => ?_
 ·have z0 : decide (0 ≤ z) = true := decide_eq_true (hx.pos z hz)
  (simp_arith! [])
  refine CV_wholeN ?_
  rw [z0]
  exact hK
 obtain ⟨rfl, rfl⟩ := q2
 refine ⟨sz_le (by rw [List.length_map]; omega), ?_⟩
 rw [r_all_true]
 refine ⟨_, rfl, true, rfl, ?_⟩
 rw [if_neg (show ¬ (true = false) from Bool.noConfusion)]
 refine CV_common rfl hx.pos ?_
 (simp_arith! [])
 exact RtP_same rfl q
end
namespace B
end B
inductive Od : Nat → List Nat → Prop
 | a : Od 2 [0, 1]
 | b : Od 2 [1, 0]
 | c : Od 3 [0, 1, 2]
 | d : Od 3 [0, 2, 1]
 | e : Od 3 [1, 0, 2]
 | f : Od 3 [1, 2, 0]
 | g : Od 3 [2, 0, 1]
 | h : Od 3 [2, 1, 0]
def mv {α : Type} : List Nat → List α → List α
 | [1, 0], [a, b] => [b, a]
 | [0, 2, 1], [a, b, c] => [a, c, b]
 | [1, 0, 2], [a, b, c] => [b, a, c]
 | [1, 2, 0], [a, b, c] => [c, a, b]
 | [2, 0, 1], [a, b, c] => [b, c, a]
 | [2, 1, 0], [a, b, c] => [c, b, a]
 | _, r => r
theorem len2 {α : Type} {r : List α} (h : r.length = 2) : ∃ a b, r = [a, b] := by
 match r, h with
 | [a, b], _ => exact ⟨a, b, rfl⟩
section
variable {m : Nat} {o : List Nat} (od : Od m o)
include od
end
section
variable {X : Cx}
end
structure HV (many : Nat) (ms : List Mb) : Prop where
 v : mbVL many ms
 ln : linesL ms ≤ (if many = 2 then 400 else 60)
 ho : (mbNL ms : Int) ≤ (flL ms).length + 12
 ml : ms.length ≤ 24
structure HW (many : Nat) (ms : List Mb) (room homes : Int) (k : Nat) : Prop where
 v : mbVL many ms
 r0 : 0 ≤ room
 ln : linesL ms + room = (if many = 2 then 400 else 60)
 ho : (mbNL ms : Int) + homes = (flL ms).length + 11
 ml : ms.length + k ≤ 12
section
variable {X : Cx} {e e2 : Expr} {f g : EX} {p p2 pos pos2 : Pos}
end
section
variable {c : C} {m : M} {k : Nat}
end
section
variable {K : PySem.W.Frag} {P : Program} {w : World} {mg : Str → Option Value} {base : Heap} {x qual : Str} {params : Arguments} {body : List Stmt} {scope : Scope} {dvs : List V} {kws : List (Str × V)} {f : Addr} {fd : FuncData} {N ps : List Str} {k : Nat} {con : Con}
end
structure DbF (many : Nat) (d : Dbt) : Prop where
 nm : nameOk d.name = true
 nb : shortB 13 (.str d.name) = true ∧ okD (.str d.name) = true
 sc : d.scale < 5
 rl : d.rs.length = 4
 rb : ∀ r, r ∈ d.rs → -1000 ≤ r ∧ r ≤ 1000
 sl : d.stakes.length = many
 st : ∀ e, e ∈ d.stakes → exOk many e ∧ lev e ≤ 4 ∧ szX e ≤ 13 ∧ -(500 * 2 ^ d.scale) ≤ (sp e).1 ∧ (sp e).2 ≤ 500 * 2 ^ d.scale ∧ (many = 3 → npX e ≤ 8)
 dl : d.deeds.length = many
 de : ∀ x, x ∈ d.deeds → deOkL many x ∧ dnstL x ≤ 4 ∧ dcntL x ≤ 20 ∧ DatL 3 90 (deL x)
structure Rf (many : Nat) (ms : List Mb) : Prop where
 tl : mbTL ms ≤ 3
 nl : mbNL ms ≤ 100
 ok : mbOkL ms
 on : ∀ q, q ∈ flL ms → DbF many q.1 ∧ OnOk q.2
 fn : (flL ms).length ≤ 4
 f1 : 1 ≤ (flL ms).length
def Sh6 (e : Xp) : Prop := szX e ≤ 3 ∨ ∃ (f g : Int) (x : Xp), szX x ≤ 3 ∧ e = .lst (.fig f) (.mst (.fig g) x)
def Sh7 (e : Xp) : Prop := Sh6 e ∨ ∃ (n : Int) (a : Xp), Sh6 a ∧ e = .tim n a
section
variable {m : Nat} {PG : Nat → List Vc → Prop}
end
structure F6 (m : Nat) (ms : List Mb) : Prop where
 hm : m = 2 ∨ m = 3
 ok : mbOkL ms
 tl : mbTL ms ≤ 5
 nl : mbNL ms ≤ 500
 fine : ∀ q, q ∈ flL ms → Fine m 13 q
 ln : (flL ms).length ≤ 12
 f3 : m = 3 → (∀ q, q ∈ flL ms → FineN 3 8 q ∧ ∀ e, e ∈ q.1.stakes → Sh7 e) ∧ (flL ms).length ≤ 3
section
variable {X : Cx}
end
section
variable {X : Cx} {a b c : Expr} {fa fb fc : EX} {apos cpos : Pos}
end
section
variable {m N : Nat} {PG : Nat → List Vc → Prop}
end
section
variable {prog : Program} {w : World} {h₀ : Heap}
variable {a : Addr} {d : PyData} {as : List Addr} {A : Around} {E : Value → Shared → Prop} {s : Shared} {Q : Value → Shared → Prop}
end
section
variable {X : Cx} {pins : List (Addr × Obj)} {σ : L2.St} {c : C} {m : M} {s : Shared}
end
section
variable {X : Cx} {pos : Pos}
end
mutual
def shortE (k : Nat) : D → Bool
 | .non => true
 | .bl _ => true
 | .int i => decide (i.natAbs < 10 ^ k)
 | .str x => (x.cps.toList.all fun c => decide (c < 16 ^ 8)) && decide (x.cps.size ≤ 4 * k)
 | .tup xs => shortEL k xs
 | .lst xs => shortEL k xs
 | .rol xs => shortEL k xs
 | .dic ks vs => ks.isEmpty && vs.isEmpty
 | .tag _ _ => false
 | .dref _ => false
 | .iref _ _ => false
 | .ref _ => false
def shortEL (k : Nat) : List D → Bool
 | [] => true
 | d :: ds => shortE k d && shortEL k ds
end
def tupB : D → Bool
 | .tup _ => true
 | .tag 0 _ => true
 | .tag (k + 1) _ => decide (k = 999)
 | _ => false
def natI (d : D) : Bool := match d with
 | .int i => decide (0 ≤ i)
 | _ => false
section
variable {prog : Program} {w : World} {A : Around} {E : Value → Shared → Prop} {s : Shared} {p : Bool} {i : Int} {t : Tok} {Q : Value → Shared → Prop}
end
section
variable {X : Cx}
end
theorem adjust_rev (n : Nat) : Builtin.Slice.sliceAdjust none none (-1) (n : Int) = ((n : Int) - 1, -1) := by
 unfold Builtin.Slice.sliceAdjust
 have h1 : (-1 : Int) < 0 := by decide
 simp only [h1, if_true]
theorem places_rev (n : Nat) : Builtin.Slice.slicePlaces ((n : Int) - 1) (-1) (-1) = n := by
 unfold Builtin.Slice.slicePlaces
 have h1 : ¬ ((-1 : Int) > 0) := by decide
 simp only [h1, if_false]
 split
 ·rw [show (- -1 : Int) = 1 by decide, Int.ediv_one]
  omega
 ·omega
theorem pick_rev (xs : Array Value) : ((List.range xs.size).filterMap fun (m : Nat) => xs[(((xs.size : Int) - 1) + (m : Int) * (-1)).toNat]?).toArray = xs.toList.reverse.toArray := by
 have e : ((List.range xs.size).filterMap fun (m : Nat) => xs[(((xs.size : Int) - 1) + (m : Int) * (-1)).toNat]?) = ((List.range xs.size).map fun k => xs.size - 1 - k).filterMap (xs[·]?) := by
  rw [List.filterMap_map]
  have key : ∀ l : List Nat, (∀ k, k ∈ l → k < xs.size) → l.filterMap (fun (m : Nat) => xs[(((xs.size : Int) - 1) + (m : Int) * (-1)).toNat]?) = l.filterMap ((xs[·]?) ∘ fun k => xs.size - 1 - k) := by
   intro l
   induction l with
   | nil => intro _; rfl
   | cons k l ih =>
    intro hl
    have hk := hl k (List.mem_cons_self ..)
    have e2 : (((xs.size : Int) - 1) + (k : Int) * (-1)).toNat = xs.size - 1 - k := by omega
    rw [List.filterMap_cons, List.filterMap_cons, ih fun j hj => hl j (List.mem_cons_of_mem _ hj), e2]
    rfl
  exact key _ fun k hk => List.mem_range.mp hk
 rw [e, PySem.W.krv_range, List.filterMap_reverse, PySem.W.krv_all]
section
variable {prog : Program} {w : World} {A : Around} {E : Value → Shared → Prop} {s : Shared}
theorem applied_rev {sl : Addr} {vl vu vs : Value} {n : Nat} {Q : Int × Int × Nat → Shared → Prop} (hs : s.heap.IsSliceOf sl vl vu vs) (pl : IsPart vl none) (pu : IsPart vu none) (ps : IsPart vs (some (-1)))
  (h : Q ((n : Int) - 1, -1, n) s) : wpAny (model prog w) A (Builtin.Slice.sliceApplied (.ref sl) (pure (n : Int))) Q E s := by
 obtain ⟨os, hos, hcs, hds⟩ := id hs
 unfold Builtin.Slice.sliceApplied Builtin.Slice.sliceFields
 refine wpAny_bind (wpAny_bind (wpAny_field hos hds (x := vl) rfl (wpAny_bind (wpAny_field hos hds (x := vu) rfl (wpAny_bind (wpAny_field hos hds (x := vs) rfl (wpAny_pure ?_)))))))
 refine wpAny_bind (HT.slicePart_ ps ?_)
 show wpAny _ _ (if ((-1 : Int) == 0) = true then _ else _) _ _ s
 rw [if_neg (by decide)]
 refine wpAny_bind (HT.slicePart_ pl (wpAny_bind (HT.slicePart_ pu (wpAny_bind (wpAny_pure ?_)))))
 show wpAny _ _ (match Builtin.Slice.sliceAdjust none none (-1) (n : Int) with | (lo, hi) => pure (lo, (-1 : Int), Builtin.Slice.slicePlaces lo hi (-1))) _ _ s
 rw [adjust_rev n]
 show wpAny _ _ (pure ((n : Int) - 1, (-1 : Int), Builtin.Slice.slicePlaces ((n : Int) - 1) (-1) (-1))) _ _ s
 rw [places_rev]
 exact wpAny_pure h
theorem tuple_rev {t sl : Addr} {items : Array Value} {vl vu vs : Value} {Q : Value → Shared → Prop} (ht : IsTup s.heap t items) (hs : s.heap.IsSliceOf sl vl vu vs) (pl : IsPart vl none) (pu : IsPart vu none) (ps : IsPart vs (some (-1)))
  (h : Q (.ref s.heap.objs.size) { s with heap := s.heap.push { cls := .type "tuple", data := .seq items.toList.reverse.toArray } })
  (hsz : items.size ≤ sizeLine) : wpAny (model prog w) A (getItem (.ref t) (.ref sl)) Q E s := by
 have htake : sizeOk (.seq items.toList.reverse.toArray) := by
  show items.toList.reverse.toArray.size ≤ sizeLine
  rw [List.size_toArray, List.length_reverse, Array.length_toList]
  exact hsz
 obtain ⟨os, hos, hcs, hds⟩ := id hs
 have hTs : s.TypeIs (.ref sl) "slice" := ⟨os, hos, hcs⟩
 unfold getItem
 try with_reducible refine wpAny_holding ?_
 first | refine wpAny_bind (wpAny_pure ?_) | skip
 refine wpAny_bind (wpAny_sequenceKey ht.typeIs (by decide) ?_)
 refine wpAny_bind (wpAny_callSpecial?_slot (name := Str.ofString "__getitem__") ht.typeIs PyProof.Rows.slot_tuple_getitem
  (wpAny_call_entry PyProof.Rows.slot_tuple_getitem ht.typeIs entry_tuple_getitem ?_ (args_tuple_getitem _ _)))
 show wpAny _ _ (Builtin.Tuple.tupleItemsOf (.ref t) >>= _) _ _ s
 refine wpAny_bind (tupleItemsOf_ ht ?_)
 refine wpAny_bind (wpAny_typeOf hTs ?_)
 rw [if_pos (by decide)]
 refine wpAny_bind (applied_rev hs pl pu ps ?_)
 have hno : ¬ ((((items.size : Int) - 1) == 0 && (-1 : Int) == 1 && items.size == items.size) = true) := by
  intro q
  rw [Bool.and_eq_true, Bool.and_eq_true] at q
  exact absurd q.1.2 (by decide)
 show wpAny _ _ (if (((items.size : Int) - 1) == 0 && (-1 : Int) == 1 && items.size == items.size) = true then _ else _) _ _ s
 rw [if_neg hno, pick_rev]
 first
  | exact wpAny_bind (m := Builtin.Tuple.tupleExact _) (wpAny_newObj_type (wpAny_pure ⟨_, rfl, wpAny_pure h⟩) htake)
  | exact wpAny_bind (m := Builtin.Tuple.tupleExact _) (wpAny_newObj_type (wpAny_bind (wpAny_pure (wpAny_pure ⟨_, rfl, wpAny_pure h⟩))) htake)
  | exact wpAny_bind (wpAny_bind (m := Builtin.Tuple.tupleExact _) (wpAny_newObj_type (wpAny_pure (wpAny_pure ⟨_, rfl, wpAny_pure h⟩)) htake))
  | exact wpAny_bind (wpAny_bind (m := Builtin.Tuple.tupleExact _) (wpAny_newObj_type (wpAny_pure ⟨_, rfl, wpAny_pure h⟩) htake))
end
def tRevT (K : PySem.W.Frag) (te : TE) : TE := fun σ H Q => te σ H fun x H1 => ∃ a xs, x = .ref a ∧ SqT K H1 a xs ∧ ∀ p, H1 p = none → Q (.ref p) (upd H1 p (.tup xs.reverse))
section
variable {X : Cx}
theorem pe_revT {e : Expr} {te : TE} {k : Nat} {p1 p2 p3 pos : Pos} (he : PE X e te) : PE X (.Subscript e (.Slice none none (some (.UnaryOp .USub (.Constant (.int 1) k p1) p2)) p3) pos) (tRevT X.K te) := by
 refine ⟨fun pins s σ H Q I h => ?_⟩
 refine Subscript_ (thn (he.run pins s σ H _ I h) fun v s1 ⟨x, H1, I1, r1, q1⟩ => ?_)
 obtain ⟨a, xs, ex, hx, q⟩ := q1
 subst ex
 cases r1
 have hst : PO X (some (.UnaryOp .USub (.Constant (.int 1) k p1) p2)) (tPart (tUn (rU fun i => .int (-i)) (tC (.int 1)))) := po_some (pe_un un_neg pe_int)
 refine wpAny_Slice (thn (po_none.run pins s1 σ H1 (fun o H2 => o = none ∧ H2 = H1) I1 ⟨rfl, rfl⟩) fun vl s2 ⟨l, H2, I2, pl, el, e2⟩ => ?_)
 subst el e2
 refine thn (po_none.run pins s2 σ H2 (fun o H3 => o = none ∧ H3 = H2) I2 ⟨rfl, rfl⟩) fun vu s3 ⟨u, H3, I3, pu, eu, e3⟩ => ?_
 subst eu e3
 refine thn (hst.run pins s3 σ H3 (fun o H4 => o = some (-1) ∧ H4 = H3) I3 ⟨1, rfl, -1, rfl, rfl, rfl⟩) fun vs s4 ⟨o, H4, I4, ps, eo, e4⟩ => ?_
 subst eo e4
 have I5 : L2.Inv X pins σ H4 { s4 with heap := s4.heap.push { cls := .type "slice", data := .fields #[vl, vu, vs] } } := I4.kept (t' := s4.toks) fun b ob q => Heap.get?_push_of_some _ q
 obtain ⟨its, r, ht, hz⟩ := I5.tuple hx
 have hlen := r.length
 have hz2 : its.toArray.size ≤ sizeLine := by rw [List.size_toArray]; omega
 show wpAny (model X.prog X.w) X.A (subscriptTail e (.Slice none none (some (.UnaryOp .USub (.Constant (.int 1) k p1) p2)) p3) (.ref a) (.ref s4.heap.objs.size)) (EP X pins σ Q) X.xe { s4 with heap := s4.heap.push { cls := .type "slice", data := .fields #[vl, vu, vs] } }
 refine tail_any (ops := [.ref a, .ref s4.heap.objs.size]) ht.typeIs (PyProof.Rows.slot_tuple_getitem.lookup) ?_ (by with_unfolding_all rfl)
 refine tuple_rev ht (Heap.IsSliceOf.new _ vl vu vs) pl pu ps ?_ hz2
 refine ⟨.ref _, _, I5.laid (t' := s4.toks) (o := .tup xs.reverse) (fun b ob q => Heap.get?_push_of_some _ q) (Nat.le_refl _) ?_, rfl, q _ (I5.hok.fresh (Nat.le_refl _))⟩
 exact ⟨by rw [List.length_reverse]; omega, its.reverse, r.reverse, IsTup.new _ _⟩
def gRevT : F1 := fun _ d => match d with
 | .tup ds => some (.tup ds.reverse)
 | _ => none
theorem ej_revT {a : Expr} {fa : EX} {k : Nat} {p1 p2 p3 pos : Pos} (he : EJ X a fa) : EJ X (.Subscript a (.Slice none none (some (.UnaryOp .USub (.Constant (.int 1) k p1) p2)) p3) pos) (e1 gRevT fa) := pe_wk (pe_revT he) fun σ H Q ⟨Z, m, env, v, S', e, s, er, hf, q⟩ => by
 obtain ⟨x, h1, h2⟩ := e1_inv hf
 refine ⟨Z, m, env, x, _, e, s, er, h1, fun m1 vx e1 t1 rx => ?_⟩
 cases x <;> first | exact no2 h2 | skip
 rename_i ds
 cases h2
 obtain ⟨p, xs, rfl, hs, rl⟩ := rx
 exact ⟨p, xs, rfl, hs, fun l hl => q ⟨m1.r, m1.S, upd m1.H l (.tup xs.reverse)⟩ (.ref l) e1 (t1.trans s (.laid t1.si hl)) (Rep.newTup t1.si hl rl.rev)⟩
end
section
variable {X : Cx}
end
end Pv
namespace RZ
open PySem
section
open PySem.Sem (wp)
section
variable {prog : Program} {w : World} {A : Around} {E : Value → Shared → Prop} {s : Shared}
structure ZSt (z TI TO i1 i2 l1 l2 B : Addr) (xs ys : Array Value) (k : Nat) (h : Heap) : Prop where
 t1 : h.IsTupleIter i1 l1 k
 t2 : h.IsTupleIter i2 l2 k
 ti : IsPair h TI (.ref i1) (.ref i2)
 l1 : h.IsTuple l1 xs
 l2 : h.IsTuple l2 ys
 zz : (IsZip h z TI TO .none ∧ ∃ a b, IsPair h TO a b) ∨ ∃ T f o, IsZipHeld h z TI TO T f ∧ h.get? T = some o ∧ B < T
end
structure MadeZ (xs ys : Array Value) (lo : Addr) (h : Heap) (as : List Addr) : Prop where
 rise : as.Pairwise (· < ·)
 above : ∀ a ∈ as, lo < a
 pairs : ∀ (j : Nat) (a : Addr), as[j]? = some a → ∃ x y, xs[j]? = some x ∧ ys[j]? = some y ∧ IsPair h a x y
section
variable {prog : Program} {w : World} {A : Around} {s : Shared} {R : Result → Shared → Prop} {z TI TO i1 i2 l1 l2 : Addr} {xs ys : Array Value}
end
section
variable {prog : Program} {w : World} {A : Around} {s : Shared} {R : Result → Shared → Prop} {z TI TO i1 i2 l1 l2 : Addr} {xs ys : Array Value}
end
section
variable {prog : Program} {w : World} {A : Around} {E : Value → Shared → Prop} {s : Shared} {z TI TO i1 i2 l1 l2 : Addr} {xs ys : Array Value}
end
end
end RZ
namespace Pv
open PySem PySem.Spec PyProof.Rows L2
section
variable {c : C} {m : M}
end
section
variable {X : Cx} {e e2 : Expr} {f g : EX} {p p2 pos pos2 : Pos}
end
section
open PySem.W (EachIs alike alikeAll AllAlike Sortable dataLe dataLt)
section
variable {X : Cx} {K : PySem.W.Frag} {Z : List Addr} {m : M} {pins : List (Addr × Obj)} {σ : L2.St} {s : Shared}
end
end
section
open PySem.W (dataLe dataLt keyToks sortLe sortLe_total toks_eqv lex_pre)
end
section
open PySem.SeqAt AutoSeq1 MeetsSeq
end
def neS (w : Str) : D → Bool
 | .str v => !(v == w)
 | _ => true
def isW (lo hi : Int) : D → Bool
 | .int i => iw i lo hi
 | _ => false
def leafA (m : Int) (w : Str) (x : D) : Bool := if w = "fig" then isW (-1000) 1000 x else if w = "reg" then isW 0 3 x else decide (w = "share") && isW 0 (m - 1) x
def pairW (w : Str) : Bool := decide (w = "sum") || (decide (w = "less") || (decide (w = "least") || decide (w = "most")))
def partsA (m : Int) : List D → Option (List D)
 | [.str w, x] => if leafA m w x = true then some [] else none
 | [.str w, x, y] => if pairW w = true then some [x, y] else if (decide (w = "times") && isW (-9) 9 x || decide (w = "by") && isW 0 3 x) = true then some [y] else none
 | [.str w, a, b, c, d] => if (decide (w = "when") && (isW 0 3 a && isW (-1000) 1000 b) || decide (w = "where") && (isW 0 (m - 1) a && isW 1 1000 b)) = true then some [c, d] else none
 | _ => none
def szA (m : Int) : Nat → D → Nat
 | 0, _ => 99
 | k + 1, .tup ds => match partsA m ds with
   | some ps => 1 + (ps.map (szA m k)).sum
   | none => 99
 | _ + 1, _ => 99
def nmB : D → Bool
 | .str x => nameOk x
 | _ => false
def rgB : D → Bool
 | .tup ds => decide (ds.length = 4) && ds.all (isW (-1000) 1000)
 | _ => false
def pdA (m : Int) : List D → Bool
 | [.str w, a, b] => isW 0 3 a && (if w = "put" ∨ w = "add" then isW (-1000) 1000 b else if w = "copy" ∨ w = "plus" then isW 0 3 b else decide (w = "told") && isW 0 (m - 1) b)
 | _ => false
def dfB (m : Int) (g : D → Nat) : D → Nat
 | .tup [a, b, c] => if pdA m [a, b, c] = true then 1 else 99
 | .tup [w, i, f, a, b] => if (!neS "when" w && (isW 0 3 i && isW (-1000) 1000 f)) = true then 1 + (g a + g b) else 99
 | _ => 99
def dcA (m : Int) : Nat → D → Nat
 | 0, .tup [] => 0
 | r + 1, .tup ds => (ds.map (dfB m (dcA m r))).sum
 | _, _ => 99
open Classical in
noncomputable def unX (d : D) : Xp := if h : ∃ e, exD e = d then h.choose else .fig 0
noncomputable def stkB (m s : Nat) (d : D) : Bool := decide (szA m 8 d ≤ 40) && (decide (-(500 * 2 ^ s) ≤ (sp (unX d)).1) && decide ((sp (unX d)).2 ≤ 500 * 2 ^ s))
structure GdA (m : Nat) (n : D) (s : Nat) (b : D) (st bh : List D) : Prop where
 nm : nmB n = true
 sc : s ≤ 4
 rg : rgB b = true
 sl : st.length = m
 bl : bh.length = m
 sa : ∀ x, x ∈ st → stkB m s x = true
 ba : ∀ x, x ∈ bh → dcA m 4 x ≤ 20
end Pv
namespace L2
open PySem PySem.Spec PyProof.Rows
section
variable {X : Cx} {pins : List (Addr × Obj)} {σ : St} {H : Hp} {s : Shared} {a b : Addr} {kvs more : List (Key × V)} {A : Around} {E : Value → Shared → Prop}
end
section
variable {X : Cx} {o e : Expr} {apos cpos : Pos} {td ty : TE}
end
end L2
namespace Pv
open PySem PySem.Spec PyProof.Rows L2
section
variable {c : C} {m m' : M}
def M.boxO (m : M) (p : Addr) (o : Ob) (xs : List V) : M := ⟨fun i => if i = m.S.length then p else m.r i, m.S ++ [o], upd m.H p (o.ho xs)⟩
theorem Ex.boxO {p : Addr} {o : Ob} {xs : List V} (hp : m.H p = none) : Ex m (m.boxO p o xs) := .all
 (by show m.S.length ≤ (m.S ++ [o]).length; simp)
 (fun i h => by show (if i = m.S.length then p else m.r i) = _; rw [if_neg (by omega)])
 (fun a u h => by show upd m.H p _ a = _; rw [upd_ne (ne_of_none h hp)]; exact h)
 (fun i h1 h2 => by
  have h2 : i < (m.S ++ [o]).length := h2
  rw [List.length_append, List.length_singleton] at h2
  show m.H (if i = m.S.length then p else m.r i) = none
  rw [if_pos (by omega)]
  exact hp)
 (fun i u h => ⟨u, by
  show (m.S ++ [o])[i]? = some u
  rw [List.getElem?_append_left (List.getElem?_eq_some_iff.mp h).1]
  exact h, rfl⟩)
theorem ObR.plain {c : C} {m : M} {o : Ob} {a : Addr} {xs : List V} (h3 : o.kind < 3) (h1 : m.H a = some (o.ho xs)) (h2 : RepL c m o.vs xs) : ObR c m o a := by
 cases o with
 | lst ds => exact ⟨xs, h1, h2⟩
 | dk ks ds => exact ⟨xs, h1, h2⟩
 | dt ks ds => exact ⟨xs, h1, h2⟩
 | it k fs ds => exact absurd h3 (by show ¬ 3 + k < 3; omega)
theorem Tr.boxO (s : Sim c m) {p : Addr} {o : Ob} {xs : List V} (hp : m.H p = none) (h : RepL c m o.vs xs) (h3 : o.kind < 3 := by exact Nat.lt_of_succ_le (Nat.le_of_ble_eq_true rfl)) : Tr c m (m.boxO p o xs) where
 ex := .boxO hp
 si := {
  inj := fun i j hi hj e => by
   have hi : i < (m.S ++ [o]).length := hi
   have hj : j < (m.S ++ [o]).length := hj
   rw [List.length_append, List.length_singleton] at hi hj
   have e : (if i = m.S.length then p else m.r i) = (if j = m.S.length then p else m.r j) := e
   by_cases h1 : i = m.S.length <;> by_cases h2 : j = m.S.length
   ·omega
   ·rw [if_pos h1, if_neg h2] at e
    exact ((s.fresh hp).1 ⟨j, by omega, e.symm⟩).elim
   ·rw [if_neg h1, if_pos h2] at e
    exact ((s.fresh hp).1 ⟨i, by omega, e⟩).elim
   ·rw [if_neg h1, if_neg h2] at e
    exact s.inj i j (by omega) (by omega) e
  obj := fun i u e => by
   have e : (m.S ++ [o])[i]? = some u := e
   by_cases hi : i < m.S.length
   ·rw [List.getElem?_append_left hi] at e
    have q := ObR.mono (m' := m.boxO p o xs) s (.boxO hp) (s.obj i u e) fun w hw => by show upd m.H p _ _ = _; rw [upd_ne (ne_of_none hw hp)]; exact hw
    have z : (m.boxO p o xs).r i = m.r i := (Ex.boxO hp).ag i hi
    rw [z]
    exact q
   ·rw [List.getElem?_append_right (by omega)] at e
    have hz : i - m.S.length = 0 := by
     rcases Nat.eq_zero_or_pos (i - m.S.length) with z | z
     ·exact z
     ·rw [List.getElem?_eq_none (by simp; omega)] at e
      cases e
    rw [hz] at e
    cases e
    have z : (m.boxO p o xs).r i = p := by show (if i = m.S.length then p else m.r i) = p; rw [if_pos (by omega)]
    rw [z]
    exact ObR.plain h3 upd_same (RepL.mono s.bok (.boxO hp) o.vs xs h)
  zs := fun z hz => by
   obtain ⟨⟨u, hu⟩, hb⟩ := s.zs z hz
   refine ⟨⟨u, ?_⟩, (Ex.boxO hp).nbx hu hb⟩
   show upd m.H p _ z = _
   rw [upd_ne (ne_of_none hu hp)]
   exact hu
  tabs := fun q hq => (s.tabs q hq).ext fun b u e => by show upd m.H p _ b = _; rw [upd_ne (ne_of_none e hp)]; exact e }
def M.putO (m : M) (n : Nat) (o : Ob) (xs : List V) : M := ⟨m.r, m.S.set n o, upd m.H (m.r n) (o.ho xs)⟩
theorem Ex.putO (s : BoxOk m) {n : Nat} {o o0 : Ob} (hk : m.S[n]? = some o0) (hd : o.kind = o0.kind) {xs : List V} : Ex m (m.putO n o xs) := by
 have hn : n < m.S.length := (List.getElem?_eq_some_iff.mp hk).1
 have k : ∀ a u, m.H a = some u → ¬ Bx m a → (m.putO n o xs).H a = some u := fun a u h nb => by
  show upd m.H (m.r n) _ a = _
  rw [upd_ne (fun e => nb ⟨n, hn, e.symm⟩)]
  exact h
 refine ⟨?_, fun _ _ => rfl, fun a u h n _ => k a u h n, fun a u h n => ⟨u, k a u h n⟩, fun i h1 h2 => ?_, fun i u h => ?_⟩
 ·show m.S.length ≤ (m.S.set n _).length
  simp
 ·have h2 : i < (m.S.set n o).length := h2
  rw [List.length_set] at h2
  omega
 ·by_cases e : n = i
  ·subst e
   rw [hk] at h
   cases h
   exact ⟨o, List.getElem?_set_self hn, hd⟩
  ·exact ⟨u, by rw [show (m.putO n o xs).S = m.S.set n o from rfl, List.getElem?_set_ne e]; exact h, rfl⟩
theorem Tr.putO (s : Sim c m) {n : Nat} {o o0 : Ob} (hk : m.S[n]? = some o0) (hd : o.kind = o0.kind) {xs : List V} (h : RepL c m o.vs xs) (h3 : o.kind < 3 := by exact Nat.lt_of_succ_le (Nat.le_of_ble_eq_true rfl)) : Tr c m (m.putO n o xs) where
 ex := .putO s.bok hk hd
 si := {
  inj := fun i j hi hj e => by
   have hi : i < (m.S.set n o).length := hi
   have hj : j < (m.S.set n o).length := hj
   rw [List.length_set] at hi hj
   exact s.inj i j hi hj e
  obj := fun i u e => by
   have hn : n < m.S.length := (List.getElem?_eq_some_iff.mp hk).1
   have e : (m.S.set n o)[i]? = some u := e
   by_cases hi : n = i
   ·subst hi
    rw [List.getElem?_set_self hn] at e
    cases e
    exact ObR.plain h3 upd_same (RepL.mono s.bok (.putO s.bok hk hd) o.vs xs h)
   ·rw [List.getElem?_set_ne hi] at e
    have hil : i < m.S.length := (List.getElem?_eq_some_iff.mp e).1
    refine ObR.mono (m' := m.putO n o xs) s (.putO s.bok hk hd) (s.obj i u e) fun w hw => ?_
    show upd m.H (m.r n) _ (m.r i) = _
    rw [upd_ne (fun z => hi (s.inj i n hil hn z).symm)]
    exact hw
  zs := fun z hz => by
   have hn : n < m.S.length := (List.getElem?_eq_some_iff.mp hk).1
   obtain ⟨⟨u, hu⟩, hb⟩ := s.zs z hz
   refine ⟨⟨u, ?_⟩, ?_⟩
   ·show upd m.H (m.r n) _ z = _
    rw [upd_ne (fun e => hb ⟨n, hn, e.symm⟩)]
    exact hu
   ·rintro ⟨i, hi, e⟩
    have hi : i < (m.S.set n o).length := hi
    rw [List.length_set] at hi
    exact hb ⟨i, hi, e⟩
  tabs := fun q hq => s.bok.tab (fun a u e nb => by
   show upd m.H (m.r n) _ a = _
   rw [upd_ne (fun z => nb ⟨n, (List.getElem?_eq_some_iff.mp hk).1, z.symm⟩)]
   exact e) (s.tabs q hq) }
end
def dkAt (S : Sto) : D → Option (List Key × List D)
 | .dref n => match S[n]? with
   | some (.dk ks vs) => if ks.length = vs.length then some (ks, vs) else none
   | _ => none
 | _ => none
theorem dkAt_inv {S : Sto} {d : D} {p : List Key × List D} (h : dkAt S d = some p) : ∃ n, d = .dref n ∧ S[n]? = some (.dk p.1 p.2) ∧ p.1.length = p.2.length := by
 unfold dkAt at h
 split at h
 ·split at h
  ·obtain ⟨hl, rfl⟩ := ite_some h
   exact ⟨_, rfl, by assumption, hl⟩
  ·cases h
 ·cases h
theorem Sim.dkAt {c : C} {m : M} (s : Sim c m) {d : D} {v : V} {p : List Key × List D} (r : Rep c m d v) (h : dkAt m.S d = some p) :
  ∃ n us, d = .dref n ∧ v = .ref (m.r n) ∧ n < m.S.length ∧ m.S[n]? = some (.dk p.1 p.2) ∧ m.H (m.r n) = some (.dK (p.1.zip us)) ∧ us.length = p.1.length ∧ RepL c m p.2 us := by
 obtain ⟨n, rfl, h1, h2⟩ := dkAt_inv h
 obtain ⟨us, h3, h4⟩ := s.obj n _ h1
 exact ⟨n, us, rfl, r.ltD.2, r.ltD.1, h1, h3, by rw [h4.len]; exact h2.symm, h4⟩
section
variable {X : Cx} {keys : List (Option Expr)} {values : List Expr} {ks : List Key} {ga : AX} {pos : Pos}
end
theorem kV_key {c : C} {m : M} {y : D} {v : V} {k : Key} (h : keyOf y = some k) (r : Rep c m y v) : v = kV k := by
 cases y <;> first | exact no2 h | skip
 all_goals (cases h; exact r)
section
variable {X : Cx} {a b : Expr} {fa fb fc : EX} {pos : Pos}
end
def hasK (ks : List Key) (k : Key) : Bool := ks.any fun j => decide (j = k)
def stK (ks : List Key) (k : Key) : List Key := if hasK ks k = true then ks else ks ++ [k]
def stV {α : Type} (ks : List Key) (vs : List α) (k : Key) (v : α) : List α := if hasK ks k = true then (ks.zip vs).map (fun z => if z.1 = k then v else z.2) else vs ++ [v]
theorem zip_any {α : Type} {k : Key} : ∀ {ks : List Key} {us : List α}, us.length = ks.length → ((ks.zip us).any fun kv => decide (kv.1 = k)) = hasK ks k
 | [], [], _ => rfl
 | [], _ :: _, h => by simp at h
 | _ :: _, [], h => by simp at h
 | j :: ks, u :: us, h => by
  have := zip_any (k := k) (ks := ks) (us := us) (by simpa using h)
  rw [List.zip_cons_cons, List.any_cons, this]
  rfl
theorem zip_put {u : V} {k : Key} : ∀ {ks : List Key} {us : List V}, us.length = ks.length → (ks.zip us).map (fun kv => if kv.1 = k then (kv.1, u) else kv) = ks.zip ((ks.zip us).map fun z => if z.1 = k then u else z.2)
 | [], [], _ => rfl
 | [], _ :: _, h => by simp at h
 | _ :: _, [], h => by simp at h
 | j :: ks, w :: us, h => by
  have := zip_put (u := u) (k := k) (ks := ks) (us := us) (by simpa using h)
  by_cases e : j = k
  ·simp [this, e]
  ·simp [this, e]
theorem st_zip {ks : List Key} {us : List V} {k : Key} {u : V} (h : us.length = ks.length) : putK (ks.zip us) k u = (stK ks k).zip (stV ks us k u) := by
 unfold putK stK stV
 rw [zip_any h]
 by_cases hk : hasK ks k = true
 ·rw [if_pos hk, if_pos hk, if_pos hk]
  exact zip_put h
 ·rw [if_neg hk, if_neg hk, if_neg hk, List.zip_append (by omega)]
  rfl
theorem RepL.zipP {c : C} {m : M} {d : D} {u : V} {k : Key} (r : Rep c m d u) : ∀ {ks : List Key} {vs : List D} {us : List V}, RepL c m vs us → vs.length = ks.length →
  RepL c m ((ks.zip vs).map fun z => if z.1 = k then d else z.2) ((ks.zip us).map fun z => if z.1 = k then u else z.2)
 | ks, [], us, h, _ => by
  cases (show us = [] from h)
  cases ks <;> exact rfl
 | [], _ :: _, _, _, h => by simp at h
 | j :: ks, v :: vs, us, h, hl => by
  obtain ⟨y, w, rfl, h1, h2⟩ := h
  have ih := RepL.zipP (k := k) r (ks := ks) h2 (by simpa using hl)
  refine ⟨_, _, rfl, ?_, ih⟩
  show Rep c m (if j = k then d else v) (if j = k then u else y)
  by_cases e : j = k
  ·rw [if_pos e, if_pos e]; exact r
  ·rw [if_neg e, if_neg e]; exact h1
theorem RepL.st {c : C} {m : M} {d : D} {u : V} {k : Key} {ks : List Key} {vs : List D} {us : List V} (r : Rep c m d u) (h : RepL c m vs us) (hl : vs.length = ks.length) : RepL c m (stV ks vs k d) (stV ks us k u) := by
 unfold stV
 by_cases hk : hasK ks k = true
 ·rw [if_pos hk, if_pos hk]; exact RepL.zipP r h hl
 ·rw [if_neg hk, if_neg hk]; exact h.app (RepL.one r)
def sDP (fv fo fi : EX) : SX := fun e S => (fv e S).bind fun p => (fo e p.2).bind fun q => (fi e q.2).bind fun r => match q.1 with
 | .dref n => (dkAt r.2 (.dref n)).bind fun kv => (keyOf r.1).bind fun k => if szOk (kv.1.length + 1) = true then some (.nx e (r.2.set n (.dk (stK kv.1 k) (stV kv.1 kv.2 k p.1)))) else none
 | _ => none
section
variable {X : Cx} {o i value : Expr} {fv fo fi : EX} {pos pos' : Pos}
theorem sj_dput (hu : X.A.units + 64 < cLine) (hv : EJ X value fv) (ho : EJ X o fo) (hi : EJ X i fi) (hs : swapsWith value (some (.Subscript o i pos')) pos.line X.env = pure false := by rfl) :
  SJ X (.Assign [.Subscript o i pos'] value pos) (sDP fv fo fi) :=
 ps_wk (ps_dput (by omega) ho hi hv hs) fun Dn σ H ⟨Z, m, env, ou, e, s, er, hf, q⟩ => by
  unfold sDP at hf
  obtain ⟨⟨d, S1⟩, h1, hf1⟩ := Option.bind_eq_some_iff.mp hf
  obtain ⟨⟨x, S2⟩, h2, hf2⟩ := Option.bind_eq_some_iff.mp hf1
  obtain ⟨⟨y, S3⟩, h3, hf3⟩ := Option.bind_eq_some_iff.mp hf2
  cases x <;> first | exact no2 hf3 | skip
  rename_i n
  obtain ⟨kv, h4, hf4⟩ := Option.bind_eq_some_iff.mp (show (dkAt S3 (.dref n)).bind _ = _ from hf3)
  obtain ⟨k, h5, hf5⟩ := Option.bind_eq_some_iff.mp hf4
  obtain ⟨hz, hf6⟩ := ite_some hf5
  cases hf6
  refine ⟨Z, m, env, d, S1, e, s, er, h1, fun m1 vd e1 t1 rd => ?_⟩
  refine ⟨Z, m1, env, .dref n, S2, rfl, t1.si, er.tr s t1, by rw [e1]; exact h2, fun m2 vx e2 t2 rx => ?_⟩
  refine ⟨Z, m2, env, y, S3, rfl, t2.si, (er.tr s t1).tr t1.si t2, by rw [e2]; exact h3, fun m3 vy e3 t3 ry => ?_⟩
  have rx3 := t3.rep t2.si rx
  have rd3 := t3.rep t2.si (t2.rep t1.si rd)
  obtain ⟨n', us, en, rfl, hl, hk, hH, hlen, rl⟩ := t3.si.dkAt rx3 (by rw [e3]; exact h4)
  cases en
  obtain rfl := kV_key h5 ry
  have hsz := szOk_le hz
  have hvl : kv.2.length = kv.1.length := by rw [← rl.len]; exact hlen
  refine ⟨m3.r n, upd m3.H (m3.r n) (.dK (putK (kv.1.zip us) k vd)), rfl, .inl ⟨_, k, hH, rfl, ?_, rfl⟩, ?_⟩
  ·rw [List.length_zip, hlen]
   omega
  ·rw [st_zip hlen]
   have t4 : Tr ⟨X.K, Z⟩ m3 (m3.putO n (.dk (stK kv.1 k) (stV kv.1 kv.2 k d)) (stV kv.1 us k vd)) := Tr.putO (o := .dk (stK kv.1 k) (stV kv.1 kv.2 k d)) t3.si hk rfl (RepL.st rd3 rl hvl)
   have tt := (t1.trans s (t2.trans t1.si t3)).trans s t4
   exact q (m3.putO n _ _) σ (by show m3.S.set n _ = _; rw [e3]) tt (er.tr s tt)
end
theorem SV_dput {fv fo fi : EX} {e : En} {S : Sto} {QO : Out → Prop} : SV (sDP fv fo fi) e S QO ↔ EV fv e S fun v S1 => EV fo e S1 fun x S2 => EV fi e S2 fun y S3 =>
  ∃ n kv k, x = .dref n ∧ dkAt S3 (.dref n) = some kv ∧ keyOf y = some k ∧ szOk (kv.1.length + 1) = true ∧ QO (.nx e (S3.set n (.dk (stK kv.1 k) (stV kv.1 kv.2 k v)))) := by
 unfold SV EV sDP
 constructor
 ·rintro ⟨ou, h, q⟩
  obtain ⟨⟨d, S1⟩, h1, h⟩ := Option.bind_eq_some_iff.mp h
  obtain ⟨⟨x, S2⟩, h2, h⟩ := Option.bind_eq_some_iff.mp h
  obtain ⟨⟨y, S3⟩, h3, h⟩ := Option.bind_eq_some_iff.mp h
  cases x <;> first | exact no2 h | skip
  obtain ⟨kv, h4, h⟩ := Option.bind_eq_some_iff.mp (show (dkAt S3 (.dref _)).bind _ = _ from h)
  obtain ⟨k, h5, h⟩ := Option.bind_eq_some_iff.mp h
  obtain ⟨hz, h⟩ := ite_some h
  cases h
  exact ⟨d, S1, h1, _, S2, h2, y, S3, h3, _, kv, k, rfl, h4, h5, hz, q⟩
 ·rintro ⟨v, S1, h1, x, S2, h2, y, S3, h3, n, kv, k, rfl, h4, h5, hz, q⟩
  exact ⟨_, by rw [h1]; show (fo e S1).bind _ = _; rw [h2]; show (fi e S2).bind _ = _; rw [h3]; show (dkAt S3 (.dref n)).bind _ = _; rw [h4]; show (keyOf y).bind _ = _; rw [h5]; show (if _ then _ else _) = _; rw [if_pos hz], q⟩
theorem Rep.isD {c : C} {m : M} (s : Sim c m) {n : Nat} {v : V} (r : Rep c m (.dref n) v) : IsD m.H (m.r n) := by
 obtain ⟨⟨o, h1, h2⟩, _⟩ := r
 have so := s.obj n o h1
 cases o with
 | lst ds => exact (by rcases h2 with z | z <;> cases z)
 | dk ks ds => obtain ⟨us, h3, _⟩ := so; exact .inl ⟨_, .inl h3⟩
 | dt ks ds => obtain ⟨us, h3, _⟩ := so; exact .inr ⟨_, .inl h3⟩
 | it k fs ds => exact (by rcases h2 with z | z <;> (have z : 3 + k = _ := z; omega))
section
variable {X : Cx} {a b c : Expr} {fa fb fc : EX} {apos cpos : Pos}
end
section
variable {X : Cx}
end
section
variable {X : Cx} {e e2 : Expr} {p pos tp : Pos} {elts : List Expr} {kk : Nat}
end
section
variable {X : Cx} {e e2 : Expr} {p pos tp : Pos} {elts : List Expr} {kk : Nat} {f g : EX}
end
structure Gd (k : Nat) (d o : D) : Prop where
 sh : shortE (k + 1) o = true
 ct : cnt o ≤ 3 * cnt d + 12
 dp : dep o ≤ dep d + 2
section
variable {X : Cx} {a b : Expr} {fa fb : EX} {apos pos : Pos}
end
end Pv
namespace L2
open PySem PySem.Spec PyProof.Rows
section
variable {X : Cx}
variable {o e : Expr} {apos cpos : Pos} {to te : TE}
end
end L2
namespace Pv
open PySem PySem.Spec PyProof.Rows L2
section
variable {X : Cx} {a b : Expr} {fa fb : EX} {apos pos : Pos}
end
def Sm2 (K : Nat) (cs : List Vc) : Prop := ∀ p, p ∈ cs → Px 2 p ∧ Bv K p
structure TkS (F : Nat) (t : Tk) : Prop where
 ok : TkOk 2 t
 lv : lev t.e ≤ 7
 fc : bt F t.fac
structure Fs (K P j : Nat) (q : Fd) : Prop where
 sm : Sm2 K q.1.1
 pl : ∀ f, f ∈ q.2 → Bv (P + j) f
structure Rx (B w : Int) (n : Nat) (Z : Rat) (H : Int) : Prop where
 H0 : 0 ≤ H
 ex : ∃ (C : Nat) (a : Int), 0 < C ∧ -((C * n : Nat) : Int) ≤ a ∧ a ≤ ((C * n : Nat) : Int) ∧ 500 * Z * ((C : Int) : Rat) = (B : Rat) * (a : Rat) ∧ (500 + B) ^ (((C * n : Nat) : Int) + a).toNat * (500 - B) ^ (((C * n : Nat) : Int) - a).toNat * w ^ (2 * C) ≤ 500 ^ (2 * (C * n)) * H ^ (2 * C)
structure Eg (m : Nat) (d : Dbt) : Prop where
 g : DbG m d
 br : bare (dbD d) = true
 fi : ∀ e, e ∈ d.stakes → exOk m e ∧ lev e ≤ 6 ∧ szX e ≤ 15 ∧ noW e
structure Vg (m j : Nat) (q : Dbt × One) : Prop where
 ev : Eg m q.1
 we : 1 ≤ q.2.weight ∧ q.2.weight ≤ 10 ^ 12
 dy : Dy q.1 q.2.weight q.2 j
structure Hg (m : Nat) (qs : List (Dbt × One)) : Prop where
 hm : m = 2 ∨ m = 3
 fi : ∀ q, q ∈ qs → Fine m 15 q ∧ ∀ e, e ∈ q.1.stakes → noW e
 br : ∀ q, q ∈ qs → bare (dbD q.1) = true
 ln : qs.length ≤ 12
 p3 : m = 3 → npP (tksL 3 qs) ≤ 8000000
structure Fdg (m : Nat) (qs : List (Dbt × One)) (v : Vc) : Prop where
 eq : fdA m (row1 qs) = some v
 px : Px m v
 g1 : gcdF 0 v = 1
 bv : Bv 930 v
 rt : isR v (plL m (row1 qs) v) = true
end Pv
namespace L2
open PySem PySem.Spec PyProof.Rows
end L2
namespace Pv
open PySem PySem.Spec PyProof.Rows L2
end Pv
namespace L2
open PySem PySem.Spec PyProof.Rows
end L2
namespace Pv
open PySem PySem.Spec PyProof.Rows L2
namespace Ms2
open Ms (upOf lsum_eq lsum_nonneg sq_le sum_nonneg' CV_more sq)
structure Row (full : Int) (ns : List Int) : Prop where
 pos : ∀ n, n ∈ ns → 0 ≤ n
 sum : ns.sum = full
 full0 : 0 < full
 full1 : full ≤ 10 ^ 18
structure Rw1 (many : Int) (p : List Int × Nat) : Prop where
 len : (p.1.length : Int) = many
 pos : ∀ n, n ∈ p.1 → 0 ≤ n ∧ n ≤ 10 ^ 16
 some_ : ∃ n, n ∈ p.1 ∧ n ≠ 0
 sign : (p.2 : Int) < many
structure Rb (k : Nat) (r : Rat) : Prop where
 num0 : 0 ≤ r.num
 num1 : r.num ≤ 2 * (k : Int) * r.den
 den : r.den ≤ 10 ^ (36 * k)
end Ms2
structure RVg (m : Nat) (q : Dbt × One) : Prop where
 oko : OkO m q
 rv : Rivq m q
 rb : ∀ r, r ∈ q.2.rs → 0 ≤ r ∧ r ≤ 1000
 r1 : ((List.range m).map fun s => q.2.rs.getD s 0).sum = 1000
 pu : 0 ≤ q.2.purse
end Pv
namespace L2
open PySem PySem.Spec PyProof.Rows
end L2
namespace Pv
open PySem PySem.Spec PyProof.Rows L2
section
variable {X : Cx} {a b : Expr} {fa fb : EX} {pos : Pos}
end
structure St3 (h k n : Nat) (S S2 : Sto) (o : Ob) : Prop where
 up : ∀ i, i < S.length → i ≠ h → i ≠ k → S2[i]? = S[i]?
 eq : S2.length = S.length
 hd : HD n S2 h
 at_ : S2[k]? = some o
structure Up3 (h k n : Nat) (S S2 : Sto) (o : Ob) : Prop where
 hd : HD n S2 h
 len : S.length ≤ S2.length
 up : ∀ i, i < S.length → i ≠ h → i ≠ k → S2[i]? = S[i]?
 at_ : S2[k]? = some o
end Pv
namespace L2
open PySem PySem.Spec PyProof.Rows
section
variable {X : Cx} {pins : List (Addr × Obj)} {σ : St} {H : Hp} {s : Shared} {a : Addr} {cls : Value} {d : Option Addr} {oe : Obj} {vs : Array Value}
end
end L2
namespace PySem.HandSPX
open PySem PySem.Spec PyProof.Rows
end PySem.HandSPX
namespace L2
open PySem PySem.Spec PyProof.Rows
section
variable {X : Cx} {x1 x2 x3 n : Str} {c1 c2 c3 : Value} {i : Nat} {body suite : List Stmt} {b₀ : Stmt} {q1 q2 q3 np pos pos' : Pos} {tb : WX → TS} {ts : Addr → Value → Option Addr → TS}
end
end L2
namespace PySem
namespace OEG
open PySem.W PySem.Calls PyProof.Rows PySem.HandSPX
section
open Builtin Builtin.ObjectAttr
variable {prog : Program} {w : World} {A : Around} {E : Value → Shared → Prop} {R : Result → Shared → Prop} {hp : Heap} {g : Array GenState} {d : Drawn} {t : Nat} {os : OsState}
end
end OEG
end PySem
namespace L2
open PySem PySem.Spec PyProof.Rows
structure OexG (K : PySem.W.Frag) (C : Addr) (B newId initId : String) (bmB : List Value) : Prop where
 cls : ∃ nm q N bs bm sn sub ab col dd k0 k1 k2 k3 k5, K.lookup C = some (excClassObj nm q C N bs bm true sn sub ab col dd k0 k1 k2 k3 k5 newId) ∧ PySem.W.excTail bmB bm = true
 sa : PySem.W.findIn K (.ref C) "__setattr__" = some (some (.builtin "object.__setattr__"))
 exC : PySem.W.subIn K (.ref C) (.type "BaseException") = some true
 tyC : PySem.W.typeIn K (.ref C) = some (.type "type")
 kC : PySem.W.keepIn K (.ref C) = true
section
variable {X : Cx} {pins : List (Addr × Obj)} {σ : St} {H : Hp} {s : Shared} {a C dx : Addr} {f : Str} {y : V} {u : Value} {fs : List (Str × V)} {Q : Unit → Shared → Prop} {E : Value → Shared → Prop} {A : Around} {B newId initId : String} {bmB : List Value}
end
section
variable {X : Cx} {o e : Expr} {es : List Expr} {to te : TE} {ta : TA} {f : Str} {p p' p1 p2 pos : Pos} {C P : Addr} {B newId initId : String} {bmB : List Value} {x : Str}
end
def spI (K : PySem.W.Frag) (C : Addr) (B newId initId : String) (bmB : List Value) (f : Str) : Sp := fun vs H Q _ => ∃ (a : Addr) (v : V), vs = [.ref a, v] ∧ OexG K C B newId initId bmB ∧ PySem.W.findIn K (.ref C) f = some none ∧ H a = some (exo a C none) ∧
 ∀ dx, H dx = none → dx ≠ a → Q .non (upd (upd H dx (exd dx [(f, v)])) a (exo a C (some dx)))
end L2
namespace Pv
open PySem PySem.Spec PyProof.Rows L2
def rzOf : D → Option (Nat × List D)
 | .tag (n + 1) ds => if n % 2 = 1 ∧ n ≠ 999 then some (n / 2, ds) else none
 | _ => none
def Fld (m : M) (dd : Option Addr) (xs : List V) : Prop := (∃ (a : Addr) (f : Str) (v : V), dd = some a ∧ xs = [.str f, v] ∧ m.H a = some (.xd [(f, v)])) ∨ (dd = none ∧ xs = [])
def RzP (c : C) (m : M) (S : Sto) (i : Nat) (ds : List D) (W : XK) : Prop :=
 ∀ m' xs dd, m'.S = S → Tr c m m' → RepL c m' ds xs → Fld m' dd xs → W (.ref (xA c.K i)) dd m'.H
section
variable {X : Cx} {W : WX} {st : Stmt} {rest : List Stmt} {f g : SX} {a : Expr} {pos : Pos}
structure ExcI (P : Program) (w : World) (K : PySem.W.Frag) (mg : Str → Option Value) (base : Heap) (i : Nat) (f : Str) : Prop where
 ex : ∃ (B newId initId : String) (bmB : List Value) (fI : Addr) (fd : FuncData) (y : Str), OexG K (xA K i) B newId initId bmB ∧ ExcBaseFacts B newId initId bmB ∧ PySem.W.findIn K (.ref (xA K i)) "__init__" = some (some (.ref fI)) ∧ PySem.W.typeIn K (.ref fI) = some (.type "function") ∧
  FnOk P w K mg base CX0 1 fI fd ["self", y] (spI K (xA K i) B newId initId bmB f) ∧ Binds K fd ["self", y] []
 no : PySem.W.findIn K (.ref (xA K i)) f = some none
 at_ : mg (exN i) = some (.ref (xA K i))
 p : ExcP K (xA K i)
end
def spX (K : PySem.W.Frag) (con : Con) : Sp := fun vs H Q E => ∃ (Z : List Addr) (m : M) (ds : List D) (v : D) (S' : Sto), m.H = H ∧ Sim ⟨K, Z⟩ m ∧ RepL ⟨K, Z⟩ m ds vs ∧ con ds m.S = some (v, S') ∧
 (∀ p, rzOf v = some p → RzP ⟨K, Z⟩ m S' p.1 p.2 E) ∧ ∀ m' x, m'.S = S' → Tr ⟨K, Z⟩ m m' → Rep ⟨K, Z⟩ m' v x → Q x m'.H
structure FnX (P : Program) (w : World) (K : PySem.W.Frag) (mg : Str → Option Value) (base : Heap) (k : Nat) (f : Addr) (fd : FuncData) (ps : List Str) (con : Con) : Prop where
 len : ∀ ds S r, con ds S = some r → ds.length = ps.length
 run : ∀ (A : Around) (out : List PySem.Env) (s : Shared) (H : Hp) (args : Args) (us : List Value) (vs : List V) (Q : VK) (E : XK), RG k A → Env0 P w K mg base A out s H → BindsTo s fd args (ps.zip us) → Vals vs us →
  spX K con vs H Q E → codeAny (model P w) A (.call (.ref f) args) (CR (L2.CX P w) out P w H s Q E) s
section
variable {K : PySem.W.Frag} {P : Program} {w : World} {mg : Str → Option Value} {base : Heap} {x qual : Str} {params : Arguments} {body : List Stmt} {scope : Scope} {dvs : List V} {kws : List (Str × V)} {f : Addr} {fd : FuncData} {N ps : List Str} {k : Nat} {con : Con}
end
def tER (K : PySem.W.Frag) (W : WX) (f : EX) : TE := fun σ H Q => ∃ (Z : List Addr) (m : M) (env : En) (v : D) (S' : Sto), m.H = H ∧ Sim ⟨K, Z⟩ m ∧ ER ⟨K, Z⟩ m env σ ∧ f env m.S = some (v, S') ∧
 (∀ p, rzOf v = some p → RzP ⟨K, Z⟩ m S' p.1 p.2 fun cls dd H => W cls dd σ H) ∧ ∀ m' x, m'.S = S' → Tr ⟨K, Z⟩ m m' → Rep ⟨K, Z⟩ m' v x → Q x m'.H
abbrev EJR (X : Cx) (W : WX) (e : Expr) (f : EX) : Prop := PE X e (tER X.K W f)
structure CalX (P : Program) (w : World) (K : PySem.W.Frag) (mg : Str → Option Value) (base : Heap) (k : Nat) (x : Str) (ps : List Str) (con : Con) : Prop where
 ex : ∃ (f : Addr) (fd : FuncData), mg x = some (.ref f) ∧ PySem.W.keepIn K (.ref f) = true ∧ Binds K fd ps [] ∧ FnX P w K mg base k f fd ps con
structure CalXK (P : Program) (w : World) (K : PySem.W.Frag) (mg : Str → Option Value) (base : Heap) (k : Nat) (x : Str) (ps ks : List Str) (ix : List Nat) (con : Con) : Prop where
 ex : ∃ (f : Addr) (fd : FuncData), mg x = some (.ref f) ∧ PySem.W.keepIn K (.ref f) = true ∧ KBd K fd ps ks (perm ix) ∧ FnX P w K mg base k f fd ps con
section
variable {P : Program} {w : World} {K : PySem.W.Frag} {mg : Str → Option Value} {base : Heap} {k : Nat} {x qual : Str} {ps : List Str} {con : Con} {params : Arguments} {body : List Stmt} {scope : Scope} {f : Addr} {fd : FuncData}
end
section
variable {X : Cx} {W : WX} {a : Expr} {es : List Expr} {ga gk : AX} {pos p : Pos} {k : Nat} {ps : List Str} {con : Con} {x : Str}
end
section
variable {X : Cx} {a : Expr} {f : EX} {t : Str} {p p2 pos : Pos}
end
section
variable {X : Cx} {e : Expr} {f : EX} {x1 x2 x3 n y : Str} {c1 c2 c3 : Value} {i j : Nat} {q1 q2 q3 np pos pos' pe p1 p2 p3 : Pos}
end
end Pv
namespace LamX
open PySem PySem.Spec PyProof.Rows L2
section
variable {X : Cx} {pins : List (Addr × Obj)} {σ : L2.St} {H HZ : Hp} {s s1 : Shared}
end
end LamX
namespace Pv
open PySem PySem.Spec PyProof.Rows L2
def eLam (c : (Sto → Option (D × Sto)) → Con) (fb : EX) (gs : AX) : EX := fun e S => (gs e S).bind fun p => c (fun S => fb e S) p.1 p.2
section
variable {X : Cx}
end
section
variable {K : PySem.W.Frag} {P : Program} {w : World} {mg : Str → Option Value} {base : Heap} {x qual : Str} {params : Arguments} {body : List Stmt} {scope : Scope} {dvs : List V} {kws : List (Str × V)} {f : Addr} {fd : FuncData} {N ps : List Str} {k : Nat} {con : Con}
end
end Pv
namespace LamX
open PySem PySem.Spec PyProof.Rows L2 Pv
end LamX
namespace Pv
open PySem PySem.Spec PyProof.Rows L2
section
open PySem.W (OpenLaw)
end
structure XD where
 i : Nat
 f : Str
 par : Str
 B : String
 newId : String
 initId : String
 bmB : List Value
inductive XF where
 | cls (d : XD)
 | isO (i : Nat) (R : Str) (b : Bool)
 | isB (i : Nat) (T : String) (b : Bool)
 | exm (i : Nat) (cs : List Str)
 | insI (i : Nat)
 | isIO (i : Nat) (R : Str) (b : Bool)
 | tne (p q : He.Defn)
def insIB (K : PySem.W.Frag) (C : Addr) : Bool := decide (PySem.W.findIn K (.ref C) "__class__" = some (some (.builtin "object.__class__"))) && (decide (PySem.W.specialIn K (.builtin "object.__class__") "__get__" = some (some (.builtin "getset_descriptor.__get__"))) && (decide (PySem.W.takesIn K (.builtin "object.__class__") = some true) &&
 (decide (PySem.W.mroIn K C (.type "object") = some true) && plainT.all fun T => decide (PySem.W.kitOne K (.ref C) (.type T) = some false))))
def clsV (K : PySem.W.Frag) (x : Str) : Value := .ref (He.ga K x)
def oexB (K : PySem.W.Frag) (C : Addr) (bmB : List Value) (newId : String) : Bool := match K.lookup C with
 | some ⟨.type "type", _, .cls cd, sl⟩ => (match cd.mro, sl.toList with
   | .ref C' :: bm, [_, _, _, _, some (.builtin n), _] => C' == C && n == newId && !cd.hasDel && cd.hasDict && PySem.W.excTail bmB bm
   | _, _ => false)
 | _ => false
def excPB (K : PySem.W.Frag) (C : Addr) : Bool := decide (PySem.W.findIn K (.ref C) "__getattribute__" = some (some (.builtin "BaseException.__getattribute__"))) && (decide (PySem.W.findIn K (.ref C) "__getattr__" = some none) && (decide (PySem.W.subIn K (.ref C) (.type "BaseException") = some true) && (PySem.W.hasDictIn K C &&
 (decide (PySem.W.findIn K (.ref C) "__class__" = some (some (.builtin "object.__class__"))) && (decide (PySem.W.specialIn K (.builtin "object.__class__") "__get__" = some (some (.builtin "getset_descriptor.__get__"))) && (decide (PySem.W.takesIn K (.builtin "object.__class__") = some true) &&
 (decide (PySem.W.mroIn K C (.type "object") = some true) && plainT.all fun T => decide (PySem.W.kitOne K (.ref C) (.type T) = some false))))))))
def fcB (K : PySem.W.Frag) (Pa : Addr) (n : String) : Bool := match PySem.W.findCls K (.ref Pa) (.type "type") "__init__" with
 | some (.val (.builtin m)) => decide (m = n)
 | _ => false
def XF.ok (K : PySem.W.Frag) : XF → Bool
 | .cls d => oexB K (xA K d.i) d.bmB d.newId && (excPB K (xA K d.i) && (decide (PySem.W.findIn K (.ref (xA K d.i)) "__setattr__" = some (some (.builtin "object.__setattr__"))) && (decide (PySem.W.typeIn K (.ref (xA K d.i)) = some (.type "type")) && (PySem.W.keepIn K (.ref (xA K d.i)) &&
   (decide (PySem.W.findIn K (.ref (xA K d.i)) "__init__" = some (some (.ref (He.ma K (xA K d.i) "__init__")))) && (decide (PySem.W.typeIn K (.ref (He.ma K (xA K d.i) "__init__")) = some (.type "function")) && (decide (PySem.W.findIn K (.ref (xA K d.i)) d.f = some none) &&
   (xfB K (xA K d.i) && (PySem.W.readsIn K (He.ga K d.par) (.type "type") && (decide (PySem.W.specialIn K (.ref (He.ga K d.par)) "__getattribute__" = some (some (.builtin "type.__getattribute__"))) &&
   fcB K (He.ga K d.par) d.initId))))))))))
 | .isO i R b => decide (PySem.W.kitOne K (.ref (xA K i)) (clsV K R) = some b)
 | .isB i T b => decide (PySem.W.kitOne K (.ref (xA K i)) (.type T) = some b)
 | .exm i cs => decide (PySem.W.exmAny K (.ref (xA K i)) (cs.map (clsV K)) = some true)
 | .insI i => insIB K (iA K i)
 | .isIO i R b => decide (PySem.W.kitOne K (.ref (iA K i)) (clsV K R) = some b)
 | .tne p q => decide ((He.cT K p).2 ≠ (He.cT K q).2)
section
variable {K : PySem.W.Frag} {d : XD}
structure XCls (K : PySem.W.Frag) (d : XD) : Prop where
 o : OexG K (xA K d.i) d.B d.newId d.initId d.bmB
 p : ExcP K (xA K d.i)
 ini : PySem.W.findIn K (.ref (xA K d.i)) "__init__" = some (some (.ref (He.ma K (xA K d.i) "__init__")))
 tI : PySem.W.typeIn K (.ref (He.ma K (xA K d.i) "__init__")) = some (.type "function")
 no : PySem.W.findIn K (.ref (xA K d.i)) d.f = some none
 xf : XfC K (xA K d.i)
 rd : PySem.W.readsIn K (He.ga K d.par) (.type "type") = true
 rg : PySem.W.specialIn K (.ref (He.ga K d.par)) "__getattribute__" = some (some (.builtin "type.__getattribute__"))
 vV : PySem.W.findCls K (.ref (He.ga K d.par)) (.type "type") "__init__" = some (.val (.builtin d.initId))
end
structure SaysY (fa : List He.Fa) (fn : List He.DefD) (cs : List (Str × D)) (kd : List (Str × List (Int × Int))) (xf : List XF) (tf : List He.Defn) (h : Heap) (K : PySem.W.Frag) : Prop where
 q : SaysQ fa fn cs kd K
 x : xf.all (fun q => q.ok K) = true
 hd : ∀ p ∈ tf, PySem.W.codeHdIn K (He.cT K p).1 (He.cT K p).2 = true
 out : ∀ p ∈ tf, K.lookup (He.cT K p).2 = none
 empty : ∀ p ∈ tf, h.get? (He.cT K p).2 = some { cls := .none, data := .fields #[] }
end Pv
namespace L2
open PySem PySem.Spec PyProof.Rows
section
variable {X : Cx} {x1 n : Str} {c1 : Value} {i : Nat} {body suite : List Stmt} {b₀ : Stmt} {q1 pos pos' : Pos} {tb : WX → TS} {ts : Addr → Value → Option Addr → TS}
end
end L2
namespace Pv
open PySem PySem.Spec PyProof.Rows L2
section
variable {X : Cx} {e : Expr} {f : EX} {x1 n y : Str} {c1 : Value} {i j : Nat} {q1 pos pos' pe p1 p2 p3 : Pos}
end
section
variable {X : Cx} {a b : Expr} {fa fb : EX} {apos pos : Pos}
end
structure LamT (K : PySem.W.Frag) (mg : Str → Option Value) (base : Heap) (fd : FuncData) (q : Str) : Prop where
 ex : ∃ c P, fd.code = .ref c ∧ LamX.TabB base mg c P ∧ (P, q) ∈ TBL K ∧ ∀ p ∈ TBL K, p.1 = P → p.2 = q
structure LamCal (P : Program) (w : World) (K : PySem.W.Frag) (mg : Str → Option Value) (base : Heap) (k : Nat) (x : Str) (con : (Sto → Option (D × Sto)) → Con) : Prop where
 run : ∀ (X : Cx) (params : Arguments) (body : Expr) (scope : Scope) (fb : EX) (es : List Expr) (gs : AX) (p lpos pos : Pos) (fd0 : FuncData), X.prog = P → X.w = w → X.K = K → X.mg = mg → X.base = base → ∀ (hg : Gl X x) (T : LamT X.K X.mg X.base fd0 (X.env.qual ++ "<lambda>")) (hcd : X.env.code = fd0.code) (hr : RG (k + 2) X.A) (L : LamX.LamS X.env.scope scope)
  (hdef : defaultsOf params X.env = ([], [])) (hbind : ∀ (q : Str) (cl : List (Str × Addr)) (pm cv ctv : Value), bindArgs (PySem.W.kla_fn "<lambda>" q params body scope cl pm cv ctv) ⟨[], []⟩ = pure [])
  (hbody : ∀ (A : Around) (outer : List PySem.Env) (s : Shared) (H : Hp) (E : XK) (f c' : Addr), RG k (A.deeper (LamX.lamEnv X scope s.heap.objs.size f c')) → Takes (LamX.lamCx X A outer s H E scope f c') (fun cls d _ H => E cls d H) → EJR (LamX.lamCx X A outer s H E scope f c') (fun cls d _ H => E cls d H) body fb)
  (ha : AJ X es gs)
  (he : starEach (.Lambda params body scope lpos :: es) X.env = (false, eval (.Lambda params body scope lpos) X.env) :: starEach es X.env) (hpl : (backTo pos (starEach es X.env)).any (·.1) = false),
  EJ X (.Call (.Name x p) (.Lambda params body scope lpos :: es) [] pos) (eLam con fb gs)
structure Zq (m : Nat) (q : Dbt × One) : Prop where
 oko : OkO m q
 dd : DayD m q.1
 on : OnOk q.2
 zb : ∀ {sh : Vc}, B.Ctx m q.2.rs sh → 0 < sh.sum → ∀ s, s < m → -(fullOf q.1 sh) ≤ zOf sh (q.1.stakes.map (wv q.2.rs sh)) s ∧ zOf sh (q.1.stakes.map (wv q.2.rs sh)) s ≤ fullOf q.1 sh
 dt : Dat 9 880 (dbD q.1)
structure Hz (m : Nat) (ms : List Mb) : Prop where
 hm : m = 2 ∨ m = 3
 ok : mbOkL ms
 tl : mbTL ms ≤ 5
 nl : mbNL ms ≤ 98
 ln : (flL ms).length ≤ 4
 on : ∀ q, q ∈ flL ms → Zq m q
structure Hf (m : Nat) (ms : List Mb) : Prop where
 hz : Hz m ms
 fn : ∀ q, q ∈ flL ms → Fine m 13 q
 f3 : m = 3 → (flL ms).length ≤ 2 ∧ ∀ q, q ∈ flL ms → FineN 3 8 q
structure Dw (dp c : Nat) (d : D) : Prop where
 sh : shortE 24 d = true
 dp : dep d ≤ dp
 ct : cnt d ≤ c
structure DwL (dp c : Nat) (ds : List D) : Prop where
 sh : shortEL 24 ds = true
 dp : depL ds ≤ dp
 ct : cntL ds ≤ c
structure Zt (m t : Nat) (q : Dbt × One) : Prop where
 sc : q.1.scale < 5
 sl : q.1.stakes.length = m
 st : ∀ e, e ∈ q.1.stakes → exOk m e ∧ lev e < 9 ∧ lev e ≤ 20
 dd : DayD m q.1
 rg : Rg q.2.rs
 we : 1 ≤ q.2.weight ∧ q.2.weight ≤ 10 ^ 12
 pu : 0 ≤ q.2.purse ∧ q.2.purse ≤ 3 * 10 ^ 12 * 2 ^ t
 ow : 0 ≤ q.2.owed ∧ q.2.owed + 1 ≤ 99 * 2 ^ t
 da : 0 ≤ q.2.days ∧ q.2.days < 40 + t
 go : -(5000000000 + 1000000000 * t) ≤ q.2.got ∧ q.2.got ≤ 10 ^ 10 + 1000000000 * t
 zb : ∀ {rs : List Int} {sh : Vc}, B.Ctx m rs sh → 0 < sh.sum → ∀ s, s < m → -(fullOf q.1 sh) ≤ zOf sh (q.1.stakes.map (wv rs sh)) s ∧ zOf sh (q.1.stakes.map (wv rs sh)) s ≤ fullOf q.1 sh
 dt : Dat 9 880 (dbD q.1)
structure Ht (m t : Nat) (ms : List Mb) : Prop where
 hm : m = 2 ∨ m = 3
 ok : mbOkL ms
 tl : mbTL ms ≤ 5
 nl : mbNL ms ≤ 98
 ln : (flL ms).length ≤ 4
 on : ∀ q, q ∈ flL ms → Zt m t q
structure Sx (m : Nat) (x : List Int) : Prop where
 od : Odds m x
 c : ∀ rs, Rg rs → Ctx m rs x
 sp : 0 < x.sum
 ln : x.length = m
def pthB : D → Bool
 | .tup xs => xs.all natI
 | _ => false
def plD (m : Nat) : Dbt := ⟨"plain", 0, [0, 0, 0, 0], List.replicate m (.fig 0), List.replicate m []⟩
structure Mhh (m : Nat) (b : Mb) : Prop where
 ok : mbOk b
 t : mbT b ≤ 2
 n : mbN b ≤ 5
 l : (fl b).length ≤ 2
 h : mbN b ≤ (fl b).length + 3
 on : ∀ q, q ∈ fl b → q.1 = plD m ∧ OnOk q.2
structure Hmm (m : Nat) (ms : List Mb) : Prop where
 ok : mbOkL ms
 tl : mbTL ms ≤ 2
 nl : mbNL ms ≤ 15
 ho : mbNL ms ≤ (flL ms).length + 9
 ln : (flL ms).length ≤ 6
 on : ∀ q, q ∈ flL ms → q.1 = plD m ∧ OnOk q.2
structure Npp (ms : List Mb) (d : D) : Prop where
 br : bare d = true
 sh : shortE 40 d = true
 dp : dep d ≤ 40
 ct : cnt d ≤ 100
 ln : ∀ xs, d = .tup xs → xs.length ≤ 100
 no : pthB d = true → ∃ is, d = pthD is ∧ goP ms is = none
structure Hms (m : Nat) (ms : List Mb) : Prop where
 hm : m = 2 ∨ m = 3
 ok : mbOkL ms
 tl : mbTL ms ≤ 2
 nl : mbNL ms ≤ 15
 ln : (flL ms).length ≤ 6
 on : ∀ q, q ∈ flL ms → q.1 = plD m ∧ OnOk q.2
def ltL : List Int → List Int → Bool
 | [], [] => false
 | [], _ :: _ => true
 | _ :: _, [] => false
 | x :: xs, y :: ys => decide (x < y) || (decide (x = y) && ltL xs ys)
section
variable {prog : Program} {w : World} {A : Around} {E : Value → Shared → Prop} {s : Shared}
end
def insZ (k : List Int) : List (List Int) → List (List Int)
 | [] => [k]
 | j :: r => if ltL k j = true then k :: j :: r else if k = j then j :: r else j :: insZ k r
def setZ : List (List Int) → List (List Int)
 | [] => []
 | k :: r => insZ k (setZ r)
theorem mem_insZ {k x : List Int} : ∀ {l : List (List Int)}, x ∈ insZ k l ↔ x = k ∨ x ∈ l
 | [] => by simp [insZ]
 | j :: r => by
  unfold insZ
  split
  ·simp
  ·split
   ·rename_i h; subst h; simp
   ·simp [mem_insZ (l := r)]; constructor <;> (rintro (h | h | h) <;> simp [h])
theorem mem_setZ {x : List Int} : ∀ {l : List (List Int)}, x ∈ setZ l ↔ x ∈ l
 | [] => Iff.rfl
 | k :: r => by rw [setZ, mem_insZ, mem_setZ (l := r), List.mem_cons]
section
variable {X : Cx}
end
section
variable {X : Cx} {e e2 e3 : Expr} {p pos tp : Pos} {elts : List Expr} {kk : Nat}
end
section
variable {X : Cx} {e e2 e3 : Expr} {p pos tp : Pos} {elts : List Expr} {kk : Nat} {f g k : EX}
end
def cmbV (op : Vc → Vc → Vc) (xs ys : List Vc) : List Vc := xs.flatMap fun x => ys.map fun y => op x y
def fmX (rs : List Int) (m : Nat) : Xp → List Vc
 | .fig n => [List.replicate m n]
 | .reg i => [List.replicate m (rs.getD i 0)]
 | .shr i => [shrV m i]
 | .tim n a => (fmX rs m a).map (mlv n)
 | .byr i a => (fmX rs m a).map (mlv (rs.getD i 0))
 | .whn i f a b => if rs.getD i 0 < f then fmX rs m a else fmX rs m b
 | .whr _ _ a b => setZ (fmX rs m a ++ fmX rs m b)
 | .sum a b => setZ (cmbV adv (fmX rs m a) (fmX rs m b))
 | .les a b => setZ (cmbV sbv (fmX rs m a) (fmX rs m b))
 | .lst a b => setZ (fmX rs m a ++ fmX rs m b)
 | .mst a b => setZ (fmX rs m a ++ fmX rs m b)
theorem mem_cmb {op : Vc → Vc → Vc} {xs ys : List Vc} {z : Vc} : z ∈ cmbV op xs ys ↔ ∃ x ∈ xs, ∃ y ∈ ys, op x y = z := by
 unfold cmbV
 simp only [List.mem_flatMap, List.mem_map]
def nfX : Xp → Nat
 | .fig _ => 1
 | .reg _ => 1
 | .shr _ => 1
 | .tim _ a => nfX a
 | .byr _ a => nfX a
 | .whn _ _ a b => max (nfX a) (nfX b)
 | .whr _ _ a b => nfX a + nfX b
 | .sum a b => nfX a * nfX b
 | .les a b => nfX a * nfX b
 | .lst a b => nfX a + nfX b
 | .mst a b => nfX a + nfX b
theorem cmb_len (op : Vc → Vc → Vc) (xs ys : List Vc) : (cmbV op xs ys).length = xs.length * ys.length := by
 unfold cmbV
 induction xs with
 | nil => simp
 | cons x xs ih => rw [List.flatMap_cons, List.length_append, ih, List.length_map, List.length_cons, Nat.succ_mul]; omega
theorem adv_len {f g : Vc} (h : f.length = g.length) : (adv f g).length = f.length := by unfold adv; rw [List.length_map, List.length_zip, h, Nat.min_self]
theorem sbv_len {f g : Vc} (h : f.length = g.length) : (sbv f g).length = f.length := by unfold sbv; rw [List.length_map, List.length_zip, h, Nat.min_self]
theorem fm_len (rs : List Int) (m : Nat) : ∀ (e : Xp) (f : Vc), f ∈ fmX rs m e → f.length = m := by
 intro e
 induction e with
 | fig n => intro f h; rw [List.mem_singleton.mp h, List.length_replicate]
 | reg n => intro f h; rw [List.mem_singleton.mp h, List.length_replicate]
 | shr n => intro f h; rw [List.mem_singleton.mp h]; unfold shrV; rw [List.length_map, List.length_range]
 | tim n a ih => intro f h; obtain ⟨g, hg, rfl⟩ := List.mem_map.mp h; unfold mlv; rw [List.length_map]; exact ih g hg
 | byr n a ih => intro f h; obtain ⟨g, hg, rfl⟩ := List.mem_map.mp h; unfold mlv; rw [List.length_map]; exact ih g hg
 | whn i f a b ha hb =>
  intro g h
  have h : g ∈ (if rs.getD i 0 < f then fmX rs m a else fmX rs m b) := h
  split at h
  ·exact ha g h
  ·exact hb g h
 | whr i f a b ha hb => intro g h; rcases List.mem_append.mp (mem_setZ.mp h) with h | h; exact ha g h; exact hb g h
 | lst a b ha hb => intro g h; rcases List.mem_append.mp (mem_setZ.mp h) with h | h; exact ha g h; exact hb g h
 | mst a b ha hb => intro g h; rcases List.mem_append.mp (mem_setZ.mp h) with h | h; exact ha g h; exact hb g h
 | sum a b ha hb => intro g h; obtain ⟨x, hx, y, hy, rfl⟩ := mem_cmb.mp (mem_setZ.mp h); rw [adv_len (by rw [ha x hx, hb y hy]), ha x hx]
 | les a b ha hb => intro g h; obtain ⟨x, hx, y, hy, rfl⟩ := mem_cmb.mp (mem_setZ.mp h); rw [sbv_len (by rw [ha x hx, hb y hy]), ha x hx]
def RtLt (p q : Int × Int) : Prop := p.1 * q.2 < q.1 * p.2
def ptL (i : Nat) (g u d : Int) : Vc := [(1000 - g) * u, (1000 - g) * (d - u)].take i ++ [g * d] ++ [(1000 - g) * u, (1000 - g) * (d - u)].drop i
def oth (i : Nat) : Nat := if i = 0 then 1 else 0
theorem val3e (a b c x y z : Int) : val [a, b, c] [x, y, z] = a * x + b * y + c * z := by
 rw [val_cons, val_cons, val_cons, show val [] [] = 0 from rfl]
 omega
theorem pt_val {i : Nat} (hi : i < 3) {f : Vc} (hf : f.length = 3) (g u d : Int) : val f (ptL i g u d) = u * val f (ptL i g 1 1) + (d - u) * val f (ptL i g 0 1) := by
 match f, hf with
 | [a, b, c], _ =>
  have : i = 0 ∨ i = 1 ∨ i = 2 := by omega
  rcases this with rfl | rfl | rfl
  ·show val [a, b, c] [_, _, _] = u * val [a, b, c] [_, _, _] + (d - u) * val [a, b, c] [_, _, _]
   rw [val3e, val3e, val3e]; grind
  ·show val [a, b, c] [_, _, _] = u * val [a, b, c] [_, _, _] + (d - u) * val [a, b, c] [_, _, _]
   rw [val3e, val3e, val3e]; grind
  ·show val [a, b, c] [_, _, _] = u * val [a, b, c] [_, _, _] + (d - u) * val [a, b, c] [_, _, _]
   rw [val3e, val3e, val3e]; grind
def UnL (rs : List Int) (i : Nat) (g : Int) (a b : Xp) (p : Int × Int) : Prop := wv rs (ptL i g p.1 p.2) a ≠ wv rs (ptL i g p.1 p.2) b
def z0e (i : Nat) (g : Int) (f h : Vc) : Int := val f (ptL i g 0 1) - val h (ptL i g 0 1)
def z1e (i : Nat) (g : Int) (f h : Vc) : Int := val f (ptL i g 1 1) - val h (ptL i g 1 1)
structure SrtF (F : List (Int × Int)) : Prop where
 srt : F.Pairwise RtLt
 pos : ∀ p, p ∈ F → 0 ≤ p.1 ∧ p.1 ≤ p.2 ∧ 0 < p.2
def At (F : List (Int × Int)) (p : Int × Int) : Prop := ∃ q, q ∈ F ∧ p.1 * q.2 = q.1 * p.2
structure Brk (i : Nat) (g : Int) (fm : List Vc) (ws : List (Nat × Int)) (F : List (Int × Int)) : Prop where
 s : SrtF F
 a0 : At F (0, 1)
 a1 : At F (1, 1)
 zer : ∀ f, f ∈ fm → ∀ h, h ∈ fm → z0e i g f h * z1e i g f h < 0 → ∃ p, p ∈ F ∧ p.1 * z1e i g f h + (p.2 - p.1) * z0e i g f h = 0
 lin : ∀ w, w ∈ ws → w.1 ≠ i → w.2 < 1000 - g → ∃ p, p ∈ F ∧ p.1 * (1000 - g) = (if w.1 = oth i then w.2 else 1000 - g - w.2) * p.2
theorem nf_pos : ∀ e : Xp, 1 ≤ nfX e := by
 intro e
 induction e with
 | fig n => exact Nat.le_refl _
 | reg n => exact Nat.le_refl _
 | shr n => exact Nat.le_refl _
 | tim n a ih => exact ih
 | byr n a ih => exact ih
 | whn i f a b ha hb => show 1 ≤ max (nfX a) (nfX b); omega
 | whr i f a b ha hb => show 1 ≤ nfX a + nfX b; omega
 | lst a b ha hb => show 1 ≤ nfX a + nfX b; omega
 | mst a b ha hb => show 1 ≤ nfX a + nfX b; omega
 | sum a b ha hb => exact Nat.mul_pos ha hb
 | les a b ha hb => exact Nat.mul_pos ha hb
def Fb (l : Nat) : Int := 1000 * 2000 ^ l
theorem Fb_succ (l : Nat) : Fb (l + 1) = 2000 * Fb l := by unfold Fb; rw [Int.pow_succ]; grind
theorem Fb_pos (l : Nat) : 1000 ≤ Fb l := by
 induction l with
 | zero => decide
 | succ l ih => rw [Fb_succ]; omega
theorem Fb_mono {l k : Nat} (h : l ≤ k) : Fb l ≤ Fb k := by
 induction h with
 | refl => exact Int.le_refl _
 | step h ih => have := Fb_pos ‹_›; rw [Fb_succ]; omega
theorem fm_bd {rs : List Int} (rg : Rg rs) {m : Nat} : ∀ (e : Xp), exOk m e → ∀ f, f ∈ fmX rs m e → ∀ z, z ∈ f → -Fb (lev e) ≤ z ∧ z ≤ Fb (lev e) := by
 have rr : ∀ i : Nat, i < 4 → -1000 ≤ rs.getD i 0 ∧ rs.getD i 0 ≤ 1000 := fun i h => by
  have hl : i < rs.length := by rw [rg.1]; exact h
  rw [List.getD_eq_getElem?_getD, List.getElem?_eq_getElem hl]
  exact rg.2 _ (List.getElem_mem hl)
 have ap : ∀ {xs ys : List Vc} {l1 l2 : Nat}, (∀ f, f ∈ xs → ∀ z, z ∈ f → -Fb l1 ≤ z ∧ z ≤ Fb l1) → (∀ f, f ∈ ys → ∀ z, z ∈ f → -Fb l2 ≤ z ∧ z ≤ Fb l2) → ∀ f, f ∈ setZ (xs ++ ys) → ∀ z, z ∈ f → -Fb (max l1 l2 + 1) ≤ z ∧ z ≤ Fb (max l1 l2 + 1) := fun {xs ys l1 l2} hx hy f hf z hz => by
  have m1 := Fb_mono (show l1 ≤ max l1 l2 + 1 by omega)
  have m2 := Fb_mono (show l2 ≤ max l1 l2 + 1 by omega)
  rcases List.mem_append.mp (mem_setZ.mp hf) with h | h
  ·have := hx f h z hz; omega
  ·have := hy f h z hz; omega
 have mul : ∀ {n z l : Int}, -1000 ≤ n → n ≤ 1000 → -l ≤ z → z ≤ l → -(2000 * l) ≤ n * z ∧ n * z ≤ 2000 * l := fun {n z l} a1 a2 b1 b2 => by
  have hl : 0 ≤ l := by omega
  have c1 := Int.mul_le_mul_of_nonneg_right (show 0 ≤ 1000 - n by omega) (show 0 ≤ l - z by omega)
  have k1 := Int.mul_nonneg (show 0 ≤ 1000 - n by omega) (show 0 ≤ l - z by omega)
  have k2 := Int.mul_nonneg (show 0 ≤ 1000 - n by omega) (show 0 ≤ l + z by omega)
  have k3 := Int.mul_nonneg (show 0 ≤ 1000 + n by omega) (show 0 ≤ l - z by omega)
  have k4 := Int.mul_nonneg (show 0 ≤ 1000 + n by omega) (show 0 ≤ l + z by omega)
  have e1 : (1000 - n) * (l - z) = 1000 * l - 1000 * z - n * l + n * z := by grind
  have e2 : (1000 - n) * (l + z) = 1000 * l + 1000 * z - n * l - n * z := by grind
  have e3 : (1000 + n) * (l - z) = 1000 * l - 1000 * z + n * l - n * z := by grind
  have e4 : (1000 + n) * (l + z) = 1000 * l + 1000 * z + n * l + n * z := by grind
  omega
 intro e
 induction e with
 | fig n =>
  intro ok f hf z hz
  rw [List.mem_singleton.mp hf] at hz
  have := List.eq_of_mem_replicate hz
  subst this
  have := ok
  show -Fb 0 ≤ z ∧ z ≤ Fb 0
  exact ok
 | reg i =>
  intro ok f hf z hz
  rw [List.mem_singleton.mp hf] at hz
  rw [List.eq_of_mem_replicate hz]
  exact rr i ok
 | shr i =>
  intro ok f hf z hz
  rw [List.mem_singleton.mp hf] at hz
  obtain ⟨s, _, rfl⟩ := List.mem_map.mp hz
  show -1000 ≤ 1000 * (if s = i then 1 else 0) ∧ 1000 * (if s = i then 1 else 0) ≤ 1000
  split <;> decide
 | tim n a ih =>
  intro ok f hf z hz
  obtain ⟨g, hg, rfl⟩ := List.mem_map.mp hf
  obtain ⟨y, hy, rfl⟩ := List.mem_map.mp hz
  have := ih ok.2.2 g hg y hy
  show -Fb (lev a + 1) ≤ n * y ∧ n * y ≤ Fb (lev a + 1)
  rw [Fb_succ]
  exact mul (by have := ok.1; omega) (by have := ok.2.1; omega) this.1 this.2
 | byr i a ih =>
  intro ok f hf z hz
  obtain ⟨g, hg, rfl⟩ := List.mem_map.mp hf
  obtain ⟨y, hy, rfl⟩ := List.mem_map.mp hz
  have := ih ok.2 g hg y hy
  show -Fb (lev a + 1) ≤ rs.getD i 0 * y ∧ rs.getD i 0 * y ≤ Fb (lev a + 1)
  rw [Fb_succ]
  exact mul (rr i ok.1).1 (rr i ok.1).2 this.1 this.2
 | whn i f a b ha hb =>
  intro ok g hg z hz
  have hg : g ∈ (if rs.getD i 0 < f then fmX rs m a else fmX rs m b) := hg
  have m1 := Fb_mono (show lev a ≤ max (lev a) (lev b) + 1 by omega)
  have m2 := Fb_mono (show lev b ≤ max (lev a) (lev b) + 1 by omega)
  show -Fb (max (lev a) (lev b) + 1) ≤ z ∧ z ≤ Fb (max (lev a) (lev b) + 1)
  split at hg
  ·have := ha ok.2.2.2.1 g hg z hz; omega
  ·have := hb ok.2.2.2.2 g hg z hz; omega
 | whr i f a b ha hb => intro ok; exact ap (ha ok.2.2.2.1) (hb ok.2.2.2.2)
 | lst a b ha hb => intro ok; exact ap (ha ok.1) (hb ok.2)
 | mst a b ha hb => intro ok; exact ap (ha ok.1) (hb ok.2)
 | sum a b ha hb =>
  intro ok g hg z hz
  obtain ⟨x, hx, y, hy, rfl⟩ := mem_cmb.mp (mem_setZ.mp hg)
  obtain ⟨p, hp, rfl⟩ := List.mem_map.mp hz
  obtain ⟨q1, q2⟩ := List.of_mem_zip (show (p.1, p.2) ∈ x.zip y from hp)
  have := ha ok.1 x hx p.1 q1
  have := hb ok.2 y hy p.2 q2
  have m1 := Fb_mono (show lev a ≤ max (lev a) (lev b) by omega)
  have m2 := Fb_mono (show lev b ≤ max (lev a) (lev b) by omega)
  show -Fb (max (lev a) (lev b) + 1) ≤ _ ∧ _ ≤ Fb (max (lev a) (lev b) + 1)
  rw [Fb_succ]
  omega
 | les a b ha hb =>
  intro ok g hg z hz
  obtain ⟨x, hx, y, hy, rfl⟩ := mem_cmb.mp (mem_setZ.mp hg)
  obtain ⟨p, hp, rfl⟩ := List.mem_map.mp hz
  obtain ⟨q1, q2⟩ := List.of_mem_zip (show (p.1, p.2) ∈ x.zip y from hp)
  have := ha ok.1 x hx p.1 q1
  have := hb ok.2 y hy p.2 q2
  have m1 := Fb_mono (show lev a ≤ max (lev a) (lev b) by omega)
  have m2 := Fb_mono (show lev b ≤ max (lev a) (lev b) by omega)
  show -Fb (max (lev a) (lev b) + 1) ≤ _ ∧ _ ≤ Fb (max (lev a) (lev b) + 1)
  rw [Fb_succ]
  omega
theorem fm_sm {rs : List Int} (rg : Rg rs) {m : Nat} {e : Xp} (ok : exOk m e) (hl : lev e ≤ 20) {f : Vc} (hf : f ∈ fmX rs m e) {z : Int} (hz : z ∈ f) : sm z := by
 have h := fm_bd rg e ok f hf z hz
 have h2 := Fb_mono hl
 have h3 : Fb 20 ≤ ((10 ^ 80 : Nat) : Int) := by decide +kernel
 have : z.natAbs ≤ 10 ^ 80 := by omega
 exact Nat.lt_of_le_of_lt this (by decide +kernel)
theorem ex_isF (a : Xp) (T : Sto) : gIs "tuple" T (exD a) = some (.bl true) := by cases a <;> exact r_isTt
theorem fsD_bare (fs : List Vc) : bareL (fs.map vcD) = true := bareL_iff.mpr fun d hd => by
 obtain ⟨v, _, rfl⟩ := List.mem_map.mp hd
 exact bareL_ints v
theorem zipD_ints (x y : Vc) : zipD (x.map D.int) (y.map D.int) = (x.zip y).map fun p => D.tup [.int p.1, .int p.2] := by
 unfold zipD
 rw [List.zipWith_map, List.zip, List.map_zipWith]
theorem cmb_app (op : Vc → Vc → Vc) (xs : List Vc) (x : Vc) (ys : List Vc) : cmbV op (xs ++ [x]) ys = cmbV op xs ys ++ ys.map (op x) := by
 unfold cmbV
 rw [List.flatMap_append]
 simp
def Gn : Nat → Nat
 | 0 => 1
 | l + 1 => max (2 * Gn l) (Gn l * Gn l)
structure Md (m : Nat) (e e' : Xp) : Prop where
 ok : exOk m e'
 lv : lev e' ≤ 2 * lev e + 2
 nl : nlX e' + 2 ≤ 3 * 2 ^ lev e
 nf : nfX e' ≤ Gn (lev e)
 sz : szX e' + 6 ≤ 7 * 2 ^ lev e
end Pv
namespace RZL
open PySem
section
open PySem.Sem (wp)
section
variable {prog : Program} {w : World} {A : Around} {E : Value → Shared → Prop} {s : Shared}
structure ZSt (z TI TO i1 i2 l1 l2 B : Addr) (xs ys : Array Value) (k : Nat) (h : Heap) : Prop where
 t1 : h.IsListIter i1 l1 k
 t2 : h.IsListIter i2 l2 k
 ti : IsPair h TI (.ref i1) (.ref i2)
 l1 : h.IsList l1 xs
 l2 : h.IsList l2 ys
 zz : (IsZip h z TI TO .none ∧ ∃ a b, IsPair h TO a b) ∨ ∃ T f o, IsZipHeld h z TI TO T f ∧ h.get? T = some o ∧ B < T
end
structure MadeZ (xs ys : Array Value) (lo : Addr) (h : Heap) (as : List Addr) : Prop where
 rise : as.Pairwise (· < ·)
 above : ∀ a ∈ as, lo < a
 pairs : ∀ (j : Nat) (a : Addr), as[j]? = some a → ∃ x y, xs[j]? = some x ∧ ys[j]? = some y ∧ IsPair h a x y
section
variable {prog : Program} {w : World} {A : Around} {s : Shared} {R : Result → Shared → Prop} {z TI TO i1 i2 l1 l2 : Addr} {xs ys : Array Value}
end
section
variable {prog : Program} {w : World} {A : Around} {s : Shared} {R : Result → Shared → Prop} {z TI TO i1 i2 l1 l2 : Addr} {xs ys : Array Value}
end
section
variable {prog : Program} {w : World} {A : Around} {E : Value → Shared → Prop} {s : Shared} {z TI TO i1 i2 l1 l2 : Addr} {xs ys : Array Value}
end
end
end RZL
namespace Pv
open PySem PySem.Spec PyProof.Rows L2
section
variable {X : Cx} {e e2 : Expr} {f g : EX} {p p2 pos pos2 : Pos}
end
structure GoodF (fs : List (Int × Int)) (n : Nat) : Prop where
 s : SrtF fs
 a0 : At fs (0, 1)
 a1 : At fs (1, 1)
 bd : ∀ p, p ∈ fs → p.2 ≤ ((10 ^ 40 : Nat) : Int)
 len : fs.length ≤ n
structure GoodG (fs : List (Int × Int)) (n : Nat) : Prop where
 s : SrtF fs
 bd : ∀ p, p ∈ fs → p.2 ≤ ((10 ^ 90 : Nat) : Int)
 len : fs.length ≤ n
structure Brks (rs : List Int) (i : Nat) (k : Int) (a b : Xp) (F : List (Int × Int)) : Prop where
 pos : ∀ p, p ∈ F → 0 ≤ p.1 ∧ p.1 ≤ p.2 ∧ 0 < p.2 ∧ p.2 ≤ ((10 ^ 90 : Nat) : Int)
 all : ∀ u d : Int, 0 ≤ u → u ≤ d → 0 < d → UnL rs i k a b (u, d) → ∃ p, p ∈ F ∧ UnL rs i k a b p
 len : F.length ≤ 100000
section
variable {X : Cx} {a b : Expr} {fa fb : EX} {apos pos : Pos}
end
section
variable {c : C} {m m' : M}
end
section
variable {X : Cx} {a b value : Expr} {fa fb fv : EX} {pos pos' : Pos}
end
section
variable {X : Cx} {o value : Expr} {fo fv : EX} {pos pos' : Pos}
end
section
variable {X : Cx} {o value : Expr} {fo fv : EX} {pos tpos : Pos}
end
end Pv
namespace L2
open PySem PySem.Spec PyProof.Rows
end L2
namespace Pv
open PySem PySem.Spec PyProof.Rows L2
def unP : D → D
 | .tag k xs => if k = 1000 then .tup xs else .tag k xs
 | d => d
theorem Rep.unP {c : C} {m : M} {d : D} {v : V} (h : Rep c m d v) : Rep c m (unP d) v := by
 cases d <;> first | exact h | skip
 rename_i k xs
 show Rep c m (if k = 1000 then .tup xs else .tag k xs) v
 by_cases e : k = 1000
 ·subst e
  rw [if_pos rfl]
  obtain ⟨a, us, e, h1, r⟩ := h
  refine ⟨a, us, e, ?_, r⟩
  rcases h1 with ⟨_, h1⟩ | ⟨h1, _⟩
  ·exact .inl (.inl h1)
  ·exact absurd h1 (by decide)
 ·rw [if_neg e]
  exact h
def eUnP (f : EX) : EX := fun e S => (f e S).map fun p => (unP p.1, p.2)
section
variable {X : Cx} {a b : Expr} {es : List Expr} {fa fb : EX} {ga : AX} {apos pos : Pos}
theorem ej_unP (ha : EJ X a fa) : EJ X a (eUnP fa) := pe_wk ha fun σ H Q ⟨Z, m, env, v, S', e, s, er, hf, q⟩ => by
 obtain ⟨⟨d, S1⟩, h1, h2⟩ := Option.map_eq_some_iff.mp (show (fa env m.S).map _ = _ from hf)
 cases h2
 exact ⟨Z, m, env, d, S1, e, s, er, h1, fun m1 vx e1 t1 rx => q m1 vx e1 t1 rx.unP⟩
theorem Rep.newP {c : C} {m : M} (s : Sim c m) {p : Addr} {ds : List D} {xs : List V} (hp : m.H p = none) (h : RepL c m ds xs) : Rep c ⟨m.r, m.S, upd m.H p (.tup xs)⟩ (.tag 1000 ds) (.ref p) :=
 ⟨p, xs, rfl, .inl ⟨rfl, upd_same⟩, RepL.mono s.bok (.laid hp) ds xs h⟩
def eTupP (g : AX) : EX := fun e S => (g e S).bind fun p => if szOk p.1.length = true then some (.tag 1000 p.1, p.2) else none
theorem ej_tupP {x1} (h : AJ X es ga) : EJ X (.Tuple es x1 pos) (eTupP ga) := pe_wk (pe_tup h) fun σ H Q ⟨Z, m, env, v, S', e, s, er, hf, q⟩ => by
 unfold eTupP at hf
 obtain ⟨⟨x, S1⟩, h1, h⟩ := Option.bind_eq_some_iff.mp hf
 refine ⟨Z, m, env, x, S1, e, s, er, h1, fun m1 vx e1 t1 rx => ?_⟩
 split at h
 ·rename_i hz
  cases h
  refine ⟨by rw [rx.len]; exact szOk_le hz, fun p hp => ?_⟩
  exact q ⟨m1.r, m1.S, upd m1.H p (.tup vx)⟩ (.ref p) e1 (t1.trans s (Tr.laid t1.si hp)) (Rep.newP t1.si hp rx)
 ·cases h
end
def gTupP : F1 := fun S d => (listOf S d).map (.tag 1000)
theorem b_tupP {X : Cx} : CallR X (.type "tuple") (rN X.K (fn1 gTupP)) := by
 rintro pins s σ H xs us Q I r ⟨Z, m, as, d, rfl, si, ra, hf, q⟩
 obtain ⟨a, rfl, hf⟩ := fn1_inv hf
 obtain ⟨x, rfl, rx⟩ := ra.one_inv
 obtain ⟨ds, h1, rfl⟩ := Option.map_eq_some_iff.mp hf
 obtain ⟨p, ys, rfl, hs, rl⟩ := si.list rx h1
 exact call_tuple_of pins s σ m.H _ us Q I r ⟨p, ys, rfl, .inl ⟨hs, fun l hl => q ⟨m.r, m.S, upd m.H l (.tup ys)⟩ _ rfl (.laid si hl) (Rep.newP si hl rl)⟩⟩
theorem EV_unP {f : EX} {e : En} {S : Sto} {Q : D → Sto → Prop} : EV (eUnP f) e S Q ↔ EV f e S fun d S1 => Q (unP d) S1 := by
 unfold EV eUnP
 constructor
 ·rintro ⟨v, S', h, q⟩
  obtain ⟨⟨d, S1⟩, h1, h2⟩ := Option.map_eq_some_iff.mp h
  cases h2
  exact ⟨d, _, h1, q⟩
 ·rintro ⟨d, S1, h1, q⟩
  exact ⟨_, _, by rw [h1]; rfl, q⟩
theorem EV_tupP {g : AX} {e : En} {S : Sto} {Q : D → Sto → Prop} : EV (eTupP g) e S Q ↔ AV g e S fun ds S1 => szOk ds.length = true ∧ Q (.tag 1000 ds) S1 := by
 unfold EV AV eTupP
 constructor
 ·rintro ⟨v, S', h, q⟩
  obtain ⟨⟨d, S1⟩, h1, h2⟩ := Option.bind_eq_some_iff.mp h
  obtain ⟨h3, h4⟩ := ite_some h2
  cases h4
  exact ⟨_, _, h1, h3, q⟩
 ·rintro ⟨d, S1, h, hz, q⟩
  exact ⟨_, _, by rw [h, Option.bind_some, if_pos hz], q⟩
def keysOf : List D → Option (List Key)
 | [] => some []
 | d :: r => (keyOf d).bind fun k => (keysOf r).map fun ks => k :: ks
theorem keysOf_rep {c : C} {m : M} : ∀ {xs : List D} {ks : List Key} {us : List V}, keysOf xs = some ks → RepL c m xs us → us = ks.map kV
 | [], _, us, h, r => by
  cases h
  exact r
 | d :: xs, _, us, h, r => by
  obtain ⟨k, h1, h2⟩ := Option.bind_eq_some_iff.mp (show (keyOf d).bind _ = _ from h)
  obtain ⟨ks, h3, rfl⟩ := Option.map_eq_some_iff.mp h2
  obtain ⟨y, w, rfl, r1, r2⟩ := r
  rw [kV_key h1 r1, keysOf_rep h3 r2]
  rfl
def keyT : D → Option (List Key)
 | .tag k xs => if k = 1000 then keysOf xs else none
 | _ => none
theorem keyT_rep {c : C} {m : M} {y : D} {v : V} {k : List Key} (h : keyT y = some k) (r : Rep c m y v) : ∃ b, v = .ref b ∧ m.H b = some (.tup (k.map kV)) := by
 cases y <;> first | exact no2 h | skip
 rename_i j xs
 have h0 : (if j = 1000 then keysOf xs else none) = some k := h
 have hj : j = 1000 := Decidable.byContradiction fun hj => by
  rw [if_neg hj] at h0
  cases h0
 rw [if_pos hj] at h0
 have h1 := h0
 subst hj
 obtain ⟨a, us, e, h2, r⟩ := r
 refine ⟨a, e, ?_⟩
 rw [← keysOf_rep h1 r]
 rcases h2 with ⟨_, h2⟩ | ⟨h2, _⟩
 ·exact h2
 ·exact absurd h2 (by decide)
def prs {α : Type} : List α → List (α × α)
 | a :: b :: r => (a, b) :: prs r
 | _ => []
def splitT : List D → Option (List (List Key) × List D)
 | [] => some ([], [])
 | y :: v :: r => (keyT y).bind fun k => (splitT r).map fun q => (k :: q.1, v :: q.2)
 | _ => none
structure PJT (X : Cx) (pos : Pos) (keys : List (Option Expr)) (values : List Expr) (ga : AX) : Prop where
 ex : ∃ trs, PPs X pos keys values trs ∧ ∀ σ H Q, tA X.K ga σ H (fun vs H' => Q (prs vs) H') → tPairs trs σ H Q
 len2 : keys.length = values.length
 all : keys.all (·.isSome) = true
noncomputable def eDBt (ga : AX) : EX := fun e S => (ga e S).bind fun p => (splitT p.1).bind fun q => if q.1.length ≤ 15 ∧ q.1.Nodup then some (.dref p.2.length, p.2 ++ [.dt q.1 q.2]) else none
section
variable {X : Cx} {k v : Expr} {keys : List (Option Expr)} {values : List Expr} {ga : AX} {f g : EX} {pos : Pos}
theorem zip_map_pair {α β γ : Type} (f : α → β) (g : α → γ) : ∀ l : List α, (l.map f).zip (l.map g) = l.map fun x => (f x, g x)
 | [] => rfl
 | x :: l => by rw [List.map_cons, List.map_cons, List.zip_cons_cons, zip_map_pair f g l]; rfl
end
theorem EV_dbt {e : En} {S : Sto} {Q : D → Sto → Prop} {ga : AX} : EV (eDBt ga) e S Q ↔ AV ga e S fun ds S1 => ∃ q, splitT ds = some q ∧ (q.1.length ≤ 15 ∧ q.1.Nodup) ∧ Q (.dref S1.length) (S1 ++ [.dt q.1 q.2]) := by
 unfold EV AV eDBt
 constructor
 ·rintro ⟨v, S', h, q⟩
  obtain ⟨⟨r, S1⟩, q1, h⟩ := Option.bind_eq_some_iff.mp h
  obtain ⟨x, h2, h⟩ := Option.bind_eq_some_iff.mp h
  obtain ⟨hz, h⟩ := ite_some h
  cases h
  exact ⟨r, _, q1, x, h2, hz, q⟩
 ·rintro ⟨r, S1, q1, x, h2, hz, q⟩
  exact ⟨_, _, by rw [q1]; show (splitT r).bind _ = _; rw [h2]; show (if _ then _ else _) = _; rw [if_pos hz], q⟩
def dtAt (S : Sto) : D → Option (List (List Key) × List D)
 | .dref n => match S[n]? with
   | some (.dt ks vs) => if ks.length = vs.length then some (ks, vs) else none
   | _ => none
 | _ => none
theorem dtAt_inv {S : Sto} {d : D} {p : List (List Key) × List D} (h : dtAt S d = some p) : ∃ n, d = .dref n ∧ S[n]? = some (.dt p.1 p.2) ∧ p.1.length = p.2.length := by
 unfold dtAt at h
 split at h
 ·split at h
  ·obtain ⟨hl, rfl⟩ := ite_some h
   exact ⟨_, rfl, by assumption, hl⟩
  ·cases h
 ·cases h
theorem Sim.dtAt {c : C} {m : M} (s : Sim c m) {d : D} {v : V} {p : List (List Key) × List D} (r : Rep c m d v) (h : dtAt m.S d = some p) :
  ∃ n us, d = .dref n ∧ v = .ref (m.r n) ∧ n < m.S.length ∧ m.S[n]? = some (.dt p.1 p.2) ∧ m.H (m.r n) = some (.dT (p.1.zip us)) ∧ us.length = p.1.length ∧ RepL c m p.2 us := by
 obtain ⟨n, rfl, h1, h2⟩ := dtAt_inv h
 obtain ⟨us, h3, h4⟩ := s.obj n _ h1
 exact ⟨n, us, rfl, r.ltD.2, r.ltD.1, h1, h3, by rw [h4.len]; exact h2.symm, h4⟩
section
variable {κ : Type} [DecidableEq κ]
def hasG (ks : List κ) (k : κ) : Bool := ks.any fun j => decide (j = k)
def stG (ks : List κ) (k : κ) : List κ := if hasG ks k = true then ks else ks ++ [k]
def stW {α : Type} (ks : List κ) (vs : List α) (k : κ) (v : α) : List α := if hasG ks k = true then (ks.zip vs).map (fun z => if z.1 = k then v else z.2) else vs ++ [v]
theorem zip_anyG {α : Type} {k : κ} : ∀ {ks : List κ} {us : List α}, us.length = ks.length → ((ks.zip us).any fun kv => decide (kv.1 = k)) = hasG ks k
 | [], [], _ => rfl
 | [], _ :: _, h => by simp at h
 | _ :: _, [], h => by simp at h
 | j :: ks, u :: us, h => by
  have := zip_anyG (k := k) (ks := ks) (us := us) (by simpa using h)
  rw [List.zip_cons_cons, List.any_cons, this]
  rfl
theorem zip_putG {u : V} {k : κ} : ∀ {ks : List κ} {us : List V}, us.length = ks.length → (ks.zip us).map (fun kv => if kv.1 = k then (kv.1, u) else kv) = ks.zip ((ks.zip us).map fun z => if z.1 = k then u else z.2)
 | [], [], _ => rfl
 | [], _ :: _, h => by simp at h
 | _ :: _, [], h => by simp at h
 | j :: ks, w :: us, h => by
  have := zip_putG (u := u) (k := k) (ks := ks) (us := us) (by simpa using h)
  by_cases e : j = k
  ·simp [this, e]
  ·simp [this, e]
theorem st_zipG {ks : List κ} {us : List V} {k : κ} {u : V} (h : us.length = ks.length) : putK (ks.zip us) k u = (stG ks k).zip (stW ks us k u) := by
 unfold putK stG stW
 rw [zip_anyG h]
 by_cases hk : hasG ks k = true
 ·rw [if_pos hk, if_pos hk, if_pos hk]
  exact zip_putG h
 ·rw [if_neg hk, if_neg hk, if_neg hk, List.zip_append (by omega)]
  rfl
theorem st_lenG {α : Type} {ks : List κ} {us : List α} {k : κ} {u : α} (h : us.length = ks.length) : (stW ks us k u).length = (stG ks k).length := by
 unfold stG stW
 by_cases hk : hasG ks k = true
 ·rw [if_pos hk, if_pos hk, List.length_map, List.length_zip]; omega
 ·rw [if_neg hk, if_neg hk, List.length_append, List.length_append, h]; rfl
theorem RepL.zipG {c : C} {m : M} {d : D} {u : V} {k : κ} (r : Rep c m d u) : ∀ {ks : List κ} {vs : List D} {us : List V}, RepL c m vs us → vs.length = ks.length →
  RepL c m ((ks.zip vs).map fun z => if z.1 = k then d else z.2) ((ks.zip us).map fun z => if z.1 = k then u else z.2)
 | ks, [], us, h, _ => by
  cases (show us = [] from h)
  cases ks <;> exact rfl
 | [], _ :: _, _, _, h => by simp at h
 | j :: ks, v :: vs, us, h, hl => by
  obtain ⟨y, w, rfl, h1, h2⟩ := h
  have ih := RepL.zipG (k := k) r (ks := ks) h2 (by simpa using hl)
  refine ⟨_, _, rfl, ?_, ih⟩
  show Rep c m (if j = k then d else v) (if j = k then u else y)
  by_cases e : j = k
  ·rw [if_pos e, if_pos e]; exact r
  ·rw [if_neg e, if_neg e]; exact h1
theorem RepL.stG {c : C} {m : M} {d : D} {u : V} {k : κ} {ks : List κ} {vs : List D} {us : List V} (r : Rep c m d u) (h : RepL c m vs us) (hl : vs.length = ks.length) : RepL c m (stW ks vs k d) (stW ks us k u) := by
 unfold stW
 by_cases hk : hasG ks k = true
 ·rw [if_pos hk, if_pos hk]; exact RepL.zipG r h hl
 ·rw [if_neg hk, if_neg hk]; exact h.app (RepL.one r)
end
def sDPt (fv fo fi : EX) : SX := fun e S => (fv e S).bind fun p => (fo e p.2).bind fun q => (fi e q.2).bind fun r => match q.1 with
 | .dref n => (dtAt r.2 (.dref n)).bind fun kv => (keyT r.1).bind fun k => if szOk (kv.1.length + 1) = true then some (.nx e (r.2.set n (.dt (stG kv.1 k) (stW kv.1 kv.2 k p.1)))) else none
 | _ => none
section
variable {X : Cx} {o i value : Expr} {fv fo fi : EX} {pos pos' : Pos}
theorem sj_dputT (hu : X.A.units + 64 < cLine) (hv : EJ X value fv) (ho : EJ X o fo) (hi : EJ X i fi) (hs : swapsWith value (some (.Subscript o i pos')) pos.line X.env = pure false := by rfl) :
  SJ X (.Assign [.Subscript o i pos'] value pos) (sDPt fv fo fi) :=
 ps_wk (ps_dput (by omega) ho hi hv hs) fun Dn σ H ⟨Z, m, env, ou, e, s, er, hf, q⟩ => by
  unfold sDPt at hf
  obtain ⟨⟨d, S1⟩, h1, hf1⟩ := Option.bind_eq_some_iff.mp hf
  obtain ⟨⟨x, S2⟩, h2, hf2⟩ := Option.bind_eq_some_iff.mp hf1
  obtain ⟨⟨y, S3⟩, h3, hf3⟩ := Option.bind_eq_some_iff.mp hf2
  cases x <;> first | exact no2 hf3 | skip
  rename_i n
  obtain ⟨kv, h4, hf4⟩ := Option.bind_eq_some_iff.mp (show (dtAt S3 (.dref n)).bind _ = _ from hf3)
  obtain ⟨k, h5, hf5⟩ := Option.bind_eq_some_iff.mp hf4
  obtain ⟨hz, hf6⟩ := ite_some hf5
  cases hf6
  refine ⟨Z, m, env, d, S1, e, s, er, h1, fun m1 vd e1 t1 rd => ?_⟩
  refine ⟨Z, m1, env, .dref n, S2, rfl, t1.si, er.tr s t1, by rw [e1]; exact h2, fun m2 vx e2 t2 rx => ?_⟩
  refine ⟨Z, m2, env, y, S3, rfl, t2.si, (er.tr s t1).tr t1.si t2, by rw [e2]; exact h3, fun m3 vy e3 t3 ry => ?_⟩
  have rx3 := t3.rep t2.si rx
  have rd3 := t3.rep t2.si (t2.rep t1.si rd)
  obtain ⟨n', us, en, rfl, hl, hk, hH, hlen, rl⟩ := t3.si.dtAt rx3 (by rw [e3]; exact h4)
  cases en
  obtain ⟨b, rfl, hb⟩ := keyT_rep h5 ry
  have hsz := szOk_le hz
  have hvl : kv.2.length = kv.1.length := by rw [← rl.len]; exact hlen
  refine ⟨m3.r n, upd m3.H (m3.r n) (.dT (putK (kv.1.zip us) k vd)), rfl, DPut.t hH hb ?_, ?_⟩
  ·rw [List.length_zip, hlen]
   omega
  ·rw [st_zipG hlen]
   have t4 : Tr ⟨X.K, Z⟩ m3 (m3.putO n (.dt (stG kv.1 k) (stW kv.1 kv.2 k d)) (stW kv.1 us k vd)) := Tr.putO (o := .dt (stG kv.1 k) (stW kv.1 kv.2 k d)) t3.si hk rfl (RepL.stG rd3 rl hvl)
   have tt := (t1.trans s (t2.trans t1.si t3)).trans s t4
   exact q (m3.putO n _ _) σ (by show m3.S.set n _ = _; rw [e3]) tt (er.tr s tt)
end
theorem SV_dputT {fv fo fi : EX} {e : En} {S : Sto} {QO : Out → Prop} : SV (sDPt fv fo fi) e S QO ↔ EV fv e S fun v S1 => EV fo e S1 fun x S2 => EV fi e S2 fun y S3 =>
  ∃ n kv k, x = .dref n ∧ dtAt S3 (.dref n) = some kv ∧ keyT y = some k ∧ szOk (kv.1.length + 1) = true ∧ QO (.nx e (S3.set n (.dt (stG kv.1 k) (stW kv.1 kv.2 k v)))) := by
 unfold SV EV sDPt
 constructor
 ·rintro ⟨ou, h, q⟩
  obtain ⟨⟨d, S1⟩, h1, h⟩ := Option.bind_eq_some_iff.mp h
  obtain ⟨⟨x, S2⟩, h2, h⟩ := Option.bind_eq_some_iff.mp h
  obtain ⟨⟨y, S3⟩, h3, h⟩ := Option.bind_eq_some_iff.mp h
  cases x <;> first | exact no2 h | skip
  obtain ⟨kv, h4, h⟩ := Option.bind_eq_some_iff.mp (show (dtAt S3 (.dref _)).bind _ = _ from h)
  obtain ⟨k, h5, h⟩ := Option.bind_eq_some_iff.mp h
  obtain ⟨hz, h⟩ := ite_some h
  cases h
  exact ⟨d, S1, h1, _, S2, h2, y, S3, h3, _, kv, k, rfl, h4, h5, hz, q⟩
 ·rintro ⟨v, S1, h1, x, S2, h2, y, S3, h3, n, kv, k, rfl, h4, h5, hz, q⟩
  exact ⟨_, by rw [h1]; show (fo e S1).bind _ = _; rw [h2]; show (fi e S2).bind _ = _; rw [h3]; show (dtAt S3 (.dref n)).bind _ = _; rw [h4]; show (keyT y).bind _ = _; rw [h5]; show (if _ then _ else _) = _; rw [if_pos hz], q⟩
end Pv
namespace PyProof.Rows
open PySem PySem.Spec
structure Kp (h₁ : Heap) (fs : List Addr) (h : Heap) : Prop where
 keep : ∀ b o, h₁.get? b = some o → b ∉ fs → h.get? b = some o
 slot : ∀ b o, h₁.get? b = some o → b ∈ fs → ∃ sl, h.get? b = some { o with slots := sl }
section
variable {h₁ h h' : Heap} {fs : List Addr} {a : Addr} {own : List (Addr × Obj)}
end
section
variable {prog : Program} {w : World} {A : Around} {E : Value → Shared → Prop} {s : Shared} {h₁ : Heap} {fs : List Addr} {os₁ : OsState} {a kS : Addr} {b : Bool} {vs : List Value} {kz : List Int} {keys : Array Value} {e e1 : Nat} {P : PySem.Fin → Shared → Prop}
end
section
variable {prog : Program} {w : World} {A : Around} {E : Value → Shared → Prop} {s : Shared} {fs : List Addr} {b : Bool} {Q : Value → Shared → Prop} {T : String} {r d : Addr} {n : Nat} {PI : Nat → Value → Prop} {OK : Heap → Prop}
end
end PyProof.Rows
namespace LamX
open PySem PySem.Spec PyProof.Rows L2
end LamX
namespace Pv
open PySem PySem.Spec PyProof.Rows L2
def okPt (q : Int × Int) : Bool := decide (0 ≤ q.1) && decide (0 ≤ q.2) && decide (1 ≤ q.1 + q.2) && decide (q.1 ≤ (10 ^ 300 : Nat)) && decide (q.2 ≤ (10 ^ 300 : Nat))
def key60 (q : Int × Int) : Int := (1000000000000000000000000000000000000000000000000000000000000 * q.2) / (q.1 + q.2)
section
variable {X : Cx}
end
def sortP (ps : List (Int × Int)) : List (Int × Int) := ps.mergeSort fun p q => decide (key60 p ≤ key60 q)
theorem sortP_perm (ps : List (Int × Int)) : (sortP ps).Perm ps := List.mergeSort_perm _ _
theorem sortP_pair (ps : List (Int × Int)) : (sortP ps).Pairwise fun p q => key60 p ≤ key60 q := by
 have h := List.pairwise_mergeSort (le := fun p q : Int × Int => decide (key60 p ≤ key60 q)) (fun a b c h1 h2 => by
  simp only [decide_eq_true_eq] at h1 h2 ⊢
  omega) (fun a b => by
  simp only [Bool.or_eq_true, decide_eq_true_eq]
  omega) ps
 exact h.imp fun h => by simpa using h
def ptOf : List Key → Option (Int × Int)
 | [.inl a, .inl b] => if okPt (a, b) = true then some (a, b) else none
 | _ => none
def kPt (q : Int × Int) : List Key := [.inl q.1, .inl q.2]
def ptsOf : List (List Key) → Option (List (Int × Int))
 | [] => some []
 | k :: r => (ptOf k).bind fun q => (ptsOf r).map fun qs => q :: qs
theorem ptsOf_map : ∀ {qs : List (Int × Int)}, (∀ q, q ∈ qs → okPt q = true) → ptsOf (qs.map kPt) = some qs
 | [], _ => rfl
 | q :: qs, h => by
  show (if okPt (q.1, q.2) = true then some (q.1, q.2) else none).bind _ = _
  rw [if_pos (h q (List.mem_cons_self ..))]
  show (ptsOf (qs.map kPt)).map _ = _
  rw [ptsOf_map fun z hz => h z (List.mem_cons_of_mem _ hz)]
  rfl
def dPt (q : Int × Int) : D := .tup [.int q.1, .int q.2]
def lSortT (f : EX) : LX := fun e S => (f e S).bind fun p => (dtAt p.2 p.1).bind fun kv => (ptsOf kv.1).bind fun qs => if (qs.map key60).Nodup ∧ szOk qs.length = true then some ((sortP qs).map dPt, p.2) else none
theorem AV_sortT {f : EX} {e : En} {S : Sto} {QL : List D → Sto → Prop} : AV (lSortT f) e S QL ↔ EV f e S fun x S1 => ∃ kv qs, dtAt S1 x = some kv ∧ ptsOf kv.1 = some qs ∧ ((qs.map key60).Nodup ∧ szOk qs.length = true) ∧ QL ((sortP qs).map dPt) S1 := by
 unfold AV EV lSortT
 constructor
 ·rintro ⟨v, S', h, q⟩
  obtain ⟨⟨r, S1⟩, q1, h⟩ := Option.bind_eq_some_iff.mp h
  obtain ⟨kv, h2, h⟩ := Option.bind_eq_some_iff.mp h
  obtain ⟨qs, h3, h⟩ := Option.bind_eq_some_iff.mp h
  obtain ⟨hz, h⟩ := ite_some h
  cases h
  exact ⟨r, _, q1, kv, qs, h2, h3, hz, q⟩
 ·rintro ⟨r, S1, q1, kv, qs, h2, h3, hz, q⟩
  exact ⟨_, _, by rw [q1]; show (dtAt S1 r).bind _ = _; rw [h2]; show (ptsOf kv.1).bind _ = _; rw [h3]; show (if _ then _ else _) = _; rw [if_pos hz], q⟩
section
variable {X : Cx}
end
section
variable {X : Cx} {a : Expr} {fa : EX} {params : Arguments} {body : Expr} {scope : Scope} {x : Str} {c P : Addr} {k : Nat} {p lpos kpos pos : Pos}
end
section
variable {X : Cx} {a : Expr} {fa : EX} {params : Arguments} {body : Expr} {scope : Scope} {x : Str} {p lpos kpos pos : Pos} {fd0 : FuncData}
end
def fmW (rs : List Int) (m : Nat) : Xp → List Vc
 | .fig n => [List.replicate m n]
 | .reg i => [List.replicate m (rs.getD i 0)]
 | .shr i => [shrV m i]
 | .tim n a => (fmW rs m a).map (mlv n)
 | .byr i a => (fmW rs m a).map (mlv (rs.getD i 0))
 | .whn i f a b => if rs.getD i 0 < f then fmW rs m a else fmW rs m b
 | .whr _ _ a b => fmW rs m a ++ fmW rs m b
 | .sum a b => cmbV adv (fmW rs m a) (fmW rs m b)
 | .les a b => cmbV sbv (fmW rs m a) (fmW rs m b)
 | .lst a b => fmW rs m a ++ fmW rs m b
 | .mst a b => fmW rs m a ++ fmW rs m b
def whV (m i : Nat) (f : Int) : Vc := (shrV m i).map fun x => x - f
def crW (rs : List Int) (m : Nat) : Xp → List Vc
 | .fig _ => []
 | .reg _ => []
 | .shr _ => []
 | .tim _ a => crW rs m a
 | .byr _ a => crW rs m a
 | .whn i f a b => if rs.getD i 0 < f then crW rs m a else crW rs m b
 | .whr i f a b => crW rs m a ++ crW rs m b ++ [whV m i f]
 | .sum a b => crW rs m a ++ crW rs m b
 | .les a b => crW rs m a ++ crW rs m b
 | .lst a b => crW rs m a ++ crW rs m b ++ cmbV sbv (fmW rs m a) (fmW rs m b)
 | .mst a b => crW rs m a ++ crW rs m b ++ cmbV sbv (fmW rs m a) (fmW rs m b)
theorem mem_fmW {rs : List Int} {m : Nat} : ∀ {e : Xp} {f : Vc}, f ∈ fmW rs m e ↔ f ∈ fmX rs m e := by
 intro e
 induction e with
 | fig n => intro f; exact Iff.rfl
 | reg n => intro f; exact Iff.rfl
 | shr n => intro f; exact Iff.rfl
 | tim n a ih => intro f; simp only [fmW, fmX, List.mem_map, ih]
 | byr i a ih => intro f; simp only [fmW, fmX, List.mem_map, ih]
 | whn i g a b ha hb =>
  intro f
  show f ∈ (if rs.getD i 0 < g then _ else _) ↔ f ∈ (if rs.getD i 0 < g then _ else _)
  split
  ·exact ha
  ·exact hb
 | whr i g a b ha hb => intro f; simp only [fmW, fmX, mem_setZ, List.mem_append, ha, hb]
 | lst a b ha hb => intro f; simp only [fmW, fmX, mem_setZ, List.mem_append, ha, hb]
 | mst a b ha hb => intro f; simp only [fmW, fmX, mem_setZ, List.mem_append, ha, hb]
 | sum a b ha hb => intro f; simp only [fmW, fmX, mem_setZ, mem_cmb, ha, hb]
 | les a b ha hb => intro f; simp only [fmW, fmX, mem_setZ, mem_cmb, ha, hb]
theorem fmW_len {rs : List Int} {m : Nat} {e : Xp} {f : Vc} (h : f ∈ fmW rs m e) : f.length = m := fm_len rs m e f (mem_fmW.mp h)
theorem fmW_cnt (rs : List Int) (m : Nat) : ∀ e : Xp, (fmW rs m e).length ≤ nfX e := by
 intro e
 induction e with
 | fig n => exact Nat.le_refl _
 | reg n => exact Nat.le_refl _
 | shr n => exact Nat.le_refl _
 | tim n a ih => show ((fmW rs m a).map _).length ≤ nfX a; rw [List.length_map]; exact ih
 | byr i a ih => show ((fmW rs m a).map _).length ≤ nfX a; rw [List.length_map]; exact ih
 | whn i g a b ha hb =>
  show (if rs.getD i 0 < g then fmW rs m a else fmW rs m b).length ≤ max (nfX a) (nfX b)
  split <;> omega
 | whr i g a b ha hb => show (fmW rs m a ++ fmW rs m b).length ≤ nfX a + nfX b; rw [List.length_append]; omega
 | lst a b ha hb => show (fmW rs m a ++ fmW rs m b).length ≤ nfX a + nfX b; rw [List.length_append]; omega
 | mst a b ha hb => show (fmW rs m a ++ fmW rs m b).length ≤ nfX a + nfX b; rw [List.length_append]; omega
 | sum a b ha hb => show (cmbV adv (fmW rs m a) (fmW rs m b)).length ≤ nfX a * nfX b; rw [cmb_len]; exact Nat.mul_le_mul ha hb
 | les a b ha hb => show (cmbV sbv (fmW rs m a) (fmW rs m b)).length ≤ nfX a * nfX b; rw [cmb_len]; exact Nat.mul_le_mul ha hb
def ncrX : Xp → Nat
 | .fig _ => 0
 | .reg _ => 0
 | .shr _ => 0
 | .tim _ a => ncrX a
 | .byr _ a => ncrX a
 | .whn _ _ a b => max (ncrX a) (ncrX b)
 | .whr _ _ a b => ncrX a + ncrX b + 1
 | .sum a b => ncrX a + ncrX b
 | .les a b => ncrX a + ncrX b
 | .lst a b => ncrX a + ncrX b + nfX a * nfX b
 | .mst a b => ncrX a + ncrX b + nfX a * nfX b
theorem crW_cnt (rs : List Int) (m : Nat) : ∀ e : Xp, (crW rs m e).length ≤ ncrX e := by
 have two : ∀ a b : Xp, (crW rs m a).length ≤ ncrX a → (crW rs m b).length ≤ ncrX b → (crW rs m a ++ crW rs m b ++ cmbV sbv (fmW rs m a) (fmW rs m b)).length ≤ ncrX a + ncrX b + nfX a * nfX b := fun a b ha hb => by
  rw [List.length_append, List.length_append, cmb_len]
  have := Nat.mul_le_mul (fmW_cnt rs m a) (fmW_cnt rs m b)
  omega
 intro e
 induction e with
 | fig n => exact Nat.le_refl _
 | reg n => exact Nat.le_refl _
 | shr n => exact Nat.le_refl _
 | tim n a ih => exact ih
 | byr i a ih => exact ih
 | whn i g a b ha hb =>
  show (if rs.getD i 0 < g then crW rs m a else crW rs m b).length ≤ max (ncrX a) (ncrX b)
  split <;> omega
 | whr i g a b ha hb => show (crW rs m a ++ crW rs m b ++ [whV m i g]).length ≤ ncrX a + ncrX b + 1; rw [List.length_append, List.length_append, List.length_singleton]; omega
 | lst a b ha hb => exact two a b ha hb
 | mst a b ha hb => exact two a b ha hb
 | sum a b ha hb => show (crW rs m a ++ crW rs m b).length ≤ ncrX a + ncrX b; rw [List.length_append]; omega
 | les a b ha hb => show (crW rs m a ++ crW rs m b).length ≤ ncrX a + ncrX b; rw [List.length_append]; omega
theorem shrV_len (m i : Nat) : (shrV m i).length = m := by unfold shrV; simp
theorem whV_len (m i : Nat) (f : Int) : (whV m i f).length = m := by unfold whV; rw [List.length_map, shrV_len]
theorem crW_len {rs : List Int} {m : Nat} : ∀ {e : Xp} {c : Vc}, c ∈ crW rs m e → c.length = m := by
 have two : ∀ {a b : Xp} {c : Vc}, c ∈ cmbV sbv (fmW rs m a) (fmW rs m b) → c.length = m := fun {a b c} h => by
  obtain ⟨x, hx, y, hy, rfl⟩ := mem_cmb.mp h
  rw [sbv_len (by rw [fmW_len hx, fmW_len hy]), fmW_len hx]
 intro e
 induction e with
 | fig n => intro c h; exact (nomatch h)
 | reg n => intro c h; exact (nomatch h)
 | shr n => intro c h; exact (nomatch h)
 | tim n a ih => exact ih
 | byr i a ih => exact ih
 | whn i g a b ha hb =>
  intro c h
  have h : c ∈ (if rs.getD i 0 < g then crW rs m a else crW rs m b) := h
  split at h
  ·exact ha h
  ·exact hb h
 | whr i g a b ha hb =>
  intro c h
  have h : c ∈ crW rs m a ++ crW rs m b ++ [whV m i g] := h
  simp only [List.mem_append, List.mem_singleton] at h
  rcases h with (h | h) | rfl
  ·exact ha h
  ·exact hb h
  ·exact whV_len _ _ _
 | lst a b ha hb =>
  intro c h
  have h : c ∈ crW rs m a ++ crW rs m b ++ cmbV sbv (fmW rs m a) (fmW rs m b) := h
  rcases List.mem_append.mp h with h | h
  ·rcases List.mem_append.mp h with h | h
   ·exact ha h
   ·exact hb h
  ·exact two h
 | mst a b ha hb =>
  intro c h
  have h : c ∈ crW rs m a ++ crW rs m b ++ cmbV sbv (fmW rs m a) (fmW rs m b) := h
  rcases List.mem_append.mp h with h | h
  ·rcases List.mem_append.mp h with h | h
   ·exact ha h
   ·exact hb h
  ·exact two h
 | sum a b ha hb =>
  intro c h
  have h : c ∈ crW rs m a ++ crW rs m b := h
  rcases List.mem_append.mp h with h | h
  ·exact ha h
  ·exact hb h
 | les a b ha hb =>
  intro c h
  have h : c ∈ crW rs m a ++ crW rs m b := h
  rcases List.mem_append.mp h with h | h
  ·exact ha h
  ·exact hb h
noncomputable def b_formsW (k_forms : Con) : SX := sSeq (sAsg (e2 fIx (eVar 0) (eC (.int 0))) (gN 3)) (sSeq (sIf (tOf (e2 fIn (eVar 3) (eTup (aCons (eC (.str "fig")) (aCons (eC (.str "reg")) (aNil)))))) (sRet (eFz (lDisp (aCons (e2 fMul (eTup (aCons (eIf (tOf (e2 fEq (eVar 3) (eC (.str "fig")))) (e2 fIx (eVar 0) (eC (.int 1))) (e2 fIx (eVar 1) (e2 fIx (eVar 0) (eC (.int 1))))) (aNil))) (eVar 2)) (aNil))))) (sNil)) (sSeq (sIf (tOf (e2 fEq (eVar 3) (eC (.str "share")))) (sRet (eFz (lDisp (aCons (eCB (fn1 gTuple) (aCons (eFz (lLc (iRg1 (eVar 2)) (gN 15) (tYes') (e2 fMul (eC (.int 1000)) (eCB (fn1 gInt) (aCons (e2 fEq (eVar 15) (e2 fIx (eVar 0) (eC (.int 1)))) (aNil)))) [15])) (aNil))) (aNil))))) (sNil)) (sSeq (sIf (tOf (e2 fIn (eVar 3) (eTup (aCons (eC (.str "times")) (aCons (eC (.str "by")) (aNil)))))) (sSeq (sAsg (eIf (tOf (e2 fEq (eVar 3) (eC (.str "times")))) (e2 fIx (eVar 0) (eC (.int 1))) (e2 fIx (eVar 1) (e2 fIx (eVar 0) (eC (.int 1))))) (gN 7)) (sSeq (sAsg (eCall k_forms (aCons (e2 fIx (eVar 0) (eC (.int 2))) (aCons (eVar 1) (aCons (eVar 2) (aNil))))) (gN 8)) (sRet (eFz (lLc (iSeq (eVar 8)) (gN 14) (tYes') (eCB (fn1 gTuple) (aCons (eFz (lLc (iSeq (eVar 14)) (gN 13) (tYes') (e2 fMul (eVar 7) (eVar 13)) [13])) (aNil))) [14]))))) (sNil)) (sSeq (sIf (tOf (e2 fEq (eVar 3) (eC (.str "when")))) (sSeq (sAsg (e2 fAdd (eC (.int 3)) (eCB (fn1 gInt) (aCons (e2 fGe (e2 fIx (eVar 1) (e2 fIx (eVar 0) (eC (.int 1)))) (e2 fIx (eVar 0) (eC (.int 2)))) (aNil)))) (gN 9)) (sRet (eCall k_forms (aCons (e2 fIx (eVar 0) (eVar 9)) (aCons (eVar 1) (aCons (eVar 2) (aNil))))))) (sNil)) (sSeq (sAsg (eFz (lLc (iSeq (eSl fSlT (eVar 0) (oSome (e1 fNeg (eC (.int 2)))) (oNo))) (gN 13) (tYes') (eCall k_forms (aCons (eVar 13) (aCons (eVar 1) (aCons (eVar 2) (aNil))))) [13])) (gTL 2 (gsCons (gN 5) (gsCons (gN 10) (gsNil))))) (sSeq (sIf (tOf (e2 fNotIn (eVar 3) (eTup (aCons (eC (.str "sum")) (aCons (eC (.str "less")) (aNil)))))) (sRet (eFz (l2 fAddL (eVar 5) (eVar 10)))) (sNil)) (sSeq (sAsg (eTup (aCons (eBx (lDisp (aNil))) (aCons (eIf (tOf (e2 fEq (eVar 3) (eC (.str "sum")))) (eC (.int 1)) (e1 fNeg (eC (.int 1)))) (aNil)))) (gT 2 (gsCons (gN 6) (gsCons (gN 11) (gsNil))))) (sSeq (sFor (iSeq (eVar 5)) (gN 4) (sFor (iSeq (eVar 10)) (gN 12) (sExpr (eMt hAppend (eVar 6) (aCons (eCB (fn1 gTuple) (aCons (eFz (lLc (iZip' (eVar 4) (eVar 12)) (gT 2 (gsCons (gN 16) (gsCons (gN 17) (gsNil)))) (tYes') (e2 fAdd (eVar 16) (e2 fMul (eVar 11) (eVar 17))) [16, 17])) (aNil))) (aNil)))))) (sRet (eVar 6))))))))))
noncomputable def cc_formsW : Nat → Con
 | 0 => fun _ _ => none
 | n + 1 => den 3 18 0 (b_formsW (cc_formsW n))
noncomputable def b_crossW (k_cross k_forms : Con) : SX := sSeq (sAsg (e2 fIx (eVar 0) (eC (.int 0))) (gN 3)) (sSeq (sIf (tOf (e2 fIn (eVar 3) (eTup (aCons (eC (.str "fig")) (aCons (eC (.str "reg")) (aCons (eC (.str "share")) (aNil))))))) (sRet (eFz (lDisp (aNil)))) (sNil)) (sSeq (sIf (tOf (e2 fEq (eVar 3) (eC (.str "when")))) (sSeq (sAsg (e2 fAdd (eC (.int 3)) (eCB (fn1 gInt) (aCons (e2 fGe (e2 fIx (eVar 1) (e2 fIx (eVar 0) (eC (.int 1)))) (e2 fIx (eVar 0) (eC (.int 2)))) (aNil)))) (gN 6)) (sRet (eCall k_cross (aCons (e2 fIx (eVar 0) (eVar 6)) (aCons (eVar 1) (aCons (eVar 2) (aNil))))))) (sNil)) (sSeq (sAsg (eBx (lDisp (aNil))) (gN 4)) (sSeq (sFor (iSeq (eFz (lLc (iSeq (eVar 0)) (gN 5) (tOf (e1 (gIs "tuple") (eVar 5))) (eVar 5) [5]))) (gN 5) (sExpr (eMt hExtend (eVar 4) (aCons (eCall k_cross (aCons (eVar 5) (aCons (eVar 1) (aCons (eVar 2) (aNil))))) (aNil))))) (sSeq (sIf (tOf (e2 fEq (eVar 3) (eC (.str "where")))) (sExpr (eMt hAppend (eVar 4) (aCons (eCB (fn1 gTuple) (aCons (eFz (lLc (iRg1 (eVar 2)) (gN 11) (tYes') (e2 fSub (e2 fMul (eC (.int 1000)) (eCB (fn1 gInt) (aCons (e2 fEq (eVar 11) (e2 fIx (eVar 0) (eC (.int 1)))) (aNil)))) (e2 fIx (eVar 0) (eC (.int 2)))) [11])) (aNil))) (aNil)))) (sNil)) (sSeq (sIf (tOf (e2 fIn (eVar 3) (eTup (aCons (eC (.str "least")) (aCons (eC (.str "most")) (aNil)))))) (sSeq (sAsg (eFz (lLc (iSeq (eSl fSlT (eVar 0) (oSome (eC (.int 1))) (oNo))) (gN 5) (tYes') (eCall k_forms (aCons (eVar 5) (aCons (eVar 1) (aCons (eVar 2) (aNil))))) [5])) (gTL 2 (gsCons (gN 8) (gsCons (gN 9) (gsNil))))) (sFor (iSeq (eVar 8)) (gN 7) (sFor (iSeq (eVar 9)) (gN 10) (sExpr (eMt hAppend (eVar 4) (aCons (eCB (fn1 gTuple) (aCons (eFz (lLc (iZip' (eVar 7) (eVar 10)) (gT 2 (gsCons (gN 12) (gsCons (gN 13) (gsNil)))) (tYes') (e2 fSub (eVar 12) (eVar 13)) [12, 13])) (aNil))) (aNil))))))) (sNil)) (sRet (eVar 4))))))))
noncomputable def cc_crossW (k : Nat) : Nat → Con
 | 0 => fun _ _ => none
 | n + 1 => den 3 14 0 (b_crossW (cc_crossW k n) (cc_formsW k))
theorem formsW_loop {m : Nat} (hm : m ≤ 3) {xs ys pre : List Vc} {t : Int} {op : Vc → Vc → Vc} (hop : ∀ x y : Vc, ((x.zip y).map fun p => p.1 + t * p.2) = op x y) (st : sm t) (hx : ∀ x, x ∈ xs → x.length = m) (hy : ∀ y, y ∈ ys → y.length = m ∧ ∀ z, z ∈ y → sm z) (hl : pre.length + xs.length * ys.length ≤ 100000)
  {T : Sto} {P : Out → Prop} {v0 v1 v2 v3 v4 v7 v8 v9 v12 v13 v14 v15 v16 v17 : Option D} (q : ∀ w1 w2, P (.nx [v0, v1, v2, v3, w1, some (.lst (xs.map vcD)), some (.ref T.length), v7, v8, v9, some (.lst (ys.map vcD)), some (.int t), w2, v13, v14, v15, v16, v17] (T ++ [.lst ((pre ++ cmbV op xs ys).map vcD)]))) :
  SV (forL (gN 4) (sFor (iSeq (eVar 10)) (gN 12) (sExpr (eMt hAppend (eVar 6) (aCons (eCB (fn1 gTuple) (aCons (eFz (lLc (iZip' (eVar 4) (eVar 12)) (gT 2 (gsCons (gN 16) (gsCons (gN 17) gsNil))) tYes' (e2 fAdd (eVar 16) (e2 fMul (eVar 11) (eVar 17))) [16, 17])) aNil)) aNil)))) [] (T ++ [.lst (pre.map vcD)]) (xs.map vcD))
   [v0, v1, v2, v3, v4, some (.lst (xs.map vcD)), some (.ref T.length), v7, v8, v9, some (.lst (ys.map vcD)), some (.int t), v12, v13, v14, v15, v16, v17] (T ++ [.lst (pre.map vcD)]) P := by
 refine SV_forI (fun ds e' S' => ∃ (w1 w2 : Option D) (done rest : List Vc), xs = done ++ rest ∧ ds = rest.map vcD ∧ e' = [v0, v1, v2, v3, w1, some (.lst (xs.map vcD)), some (.ref T.length), v7, v8, v9, some (.lst (ys.map vcD)), some (.int t), w2, v13, v14, v15, v16, v17] ∧ S' = T ++ [.lst ((pre ++ cmbV op done ys).map vcD)])
  ⟨v4, v12, [], xs, rfl, rfl, rfl, by rw [show cmbV op [] ys = [] from rfl, List.append_nil]⟩ ?_ ?_
 ·rintro d r e S' K ⟨w1, w2, done, rest, e1, e2, rfl, rfl⟩ hK
  obtain ⟨x, rest, rfl, rfl, rfl⟩ : ∃ x rest', rest = x :: rest' ∧ d = vcD x ∧ r = rest'.map vcD := by
   cases rest with
   | nil => cases e2
   | cons x rest => cases e2; exact ⟨x, rest, rfl, rfl, rfl⟩
  have xl := hx x (by rw [e1]; simp)
  (simp_arith! [])
  refine SV_forI (fun ds e' S' => ∃ (w2 : Option D) (don2 res2 : List Vc), ys = don2 ++ res2 ∧ ds = res2.map vcD ∧ e' = [v0, v1, v2, v3, some (vcD x), some (.lst (xs.map vcD)), some (.ref T.length), v7, v8, v9, some (.lst (ys.map vcD)), some (.int t), w2, v13, v14, v15, v16, v17] ∧ S' = T ++ [.lst ((pre ++ cmbV op done ys ++ don2.map (op x)).map vcD)])
   ⟨w2, [], ys, rfl, rfl, rfl, by rw [List.map_nil, List.append_nil]⟩ ?_ ?_
  ·rintro d r e S' K2 ⟨w2, don2, res2, f1, f2, rfl, rfl⟩ hK2
   obtain ⟨y, res2, rfl, rfl, rfl⟩ : ∃ x rest', res2 = x :: rest' ∧ d = vcD x ∧ r = rest'.map vcD := by
    cases res2 with
    | nil => cases f2
    | cons x rest => cases f2; exact ⟨x, rest, rfl, rfl, rfl⟩
   obtain ⟨yl, ysm⟩ := hy y (by rw [f1]; simp)
   have zv : ∀ U : Sto, zipV U (vcD x) (vcD y) = some ((x.zip y).map (fun p => D.tup [.int p.1, .int p.2]), []) := fun U => by
    show some (zipD (x.map D.int) (y.map D.int), ([] : List Nat)) = _
    rw [zipD_ints]
   (simp_arith! [IV_zip, zv])
   have cl : (pre ++ cmbV op done ys ++ don2.map (op x)).length + 1 ≤ 200000 := by
    rw [List.length_append, List.length_append, cmb_len, List.length_map]
    have d1 : don2.length + 1 ≤ ys.length := by rw [f1]; simp
    have d2 : done.length + 1 ≤ xs.length := by rw [e1]; simp
    have := Nat.mul_le_mul_right ys.length d2
    rw [Nat.succ_mul] at this
    omega
   refine (LV_mapG (fun p : Int × Int => D.tup [.int p.1, .int p.2]) (fun p => D.int (p.1 + t * p.2)) (by intro n h; cases h) fun p K3 hp hK3 => ?_).imp fun out S2 q2 => ?_
   ·(simp_arith! [])
    exact ⟨sm_mul st (ysm p.2 (List.of_mem_zip (show (p.1, p.2) ∈ x.zip y from hp)).2), hK3⟩
   ·obtain ⟨rfl, rfl⟩ := q2
    have lz : (x.zip y).length ≤ 3 := by rw [List.length_zip]; omega
    refine ⟨sz_le (by rw [List.length_map]; omega), _, box_last, ex_append.mpr ⟨sz_le (by rw [List.length_map]; omega), ?_⟩⟩
    refine ⟨(by intro n h; cases h), hK2 _ _ ⟨_, don2 ++ [y], res2, by rw [f1]; simp, rfl, rfl, ?_⟩⟩
    have : D.tup ((x.zip y).map fun p => D.int (p.1 + t * p.2)) = vcD (op x y) := by
     rw [← hop x y]
     show _ = D.tup (List.map D.int _)
     rw [List.map_map]
     rfl
    rw [set_last, this]
    simp only [List.map_append, List.map_cons, List.map_nil, List.append_assoc]
  ·rintro e S' ⟨w2, don2, res2, f1, f2, rfl, rfl⟩
   have : res2 = [] := by cases res2 with
    | nil => rfl
    | cons z r => cases f2
   subst this
   rw [List.append_nil] at f1
   refine ⟨(by intro n h; cases h), hK _ _ ⟨_, _, done ++ [x], rest, by rw [e1]; simp, rfl, rfl, ?_⟩⟩
   rw [cmb_app, ← f1, List.append_assoc]
 ·rintro e S' ⟨w1, w2, done, rest, f1, f2, rfl, rfl⟩
  have : rest = [] := by cases rest with
   | nil => rfl
   | cons z r => cases f2
  subst this
  rw [List.append_nil] at f1
  subst f1
  exact q _ _
theorem crossW_loop {m : Nat} (hm : m ≤ 3) {xs ys pre : List Vc} {op : Vc → Vc → Vc} (hop : ∀ x y : Vc, ((x.zip y).map fun p => p.1 - p.2) = op x y) (hx : ∀ x, x ∈ xs → x.length = m) (hy : ∀ y, y ∈ ys → y.length = m ∧ ∀ z, z ∈ y → sm z) (hl : pre.length + xs.length * ys.length ≤ 100000)
  {T : Sto} {P : Out → Prop} {v0 v1 v2 v3 v5 v6 v7 v10 v11 v12 v13 : Option D} (q : ∀ w1 w2, P (.nx [v0, v1, v2, v3, some (.ref T.length), v5, v6, w1, some (.lst (xs.map vcD)), some (.lst (ys.map vcD)), w2, v11, v12, v13] (T ++ [.lst ((pre ++ cmbV op xs ys).map vcD)]))) :
  SV (forL (gN 7) (sFor (iSeq (eVar 9)) (gN 10) (sExpr (eMt hAppend (eVar 4) (aCons (eCB (fn1 gTuple) (aCons (eFz (lLc (iZip' (eVar 7) (eVar 10)) (gT 2 (gsCons (gN 12) (gsCons (gN 13) gsNil))) tYes' (e2 fSub (eVar 12) (eVar 13)) [12, 13])) aNil)) aNil)))) [] (T ++ [.lst (pre.map vcD)]) (xs.map vcD))
   [v0, v1, v2, v3, some (.ref T.length), v5, v6, v7, some (.lst (xs.map vcD)), some (.lst (ys.map vcD)), v10, v11, v12, v13] (T ++ [.lst (pre.map vcD)]) P := by
 refine SV_forI (fun ds e' S' => ∃ (w1 w2 : Option D) (done rest : List Vc), xs = done ++ rest ∧ ds = rest.map vcD ∧ e' = [v0, v1, v2, v3, some (.ref T.length), v5, v6, w1, some (.lst (xs.map vcD)), some (.lst (ys.map vcD)), w2, v11, v12, v13] ∧ S' = T ++ [.lst ((pre ++ cmbV op done ys).map vcD)])
  ⟨v7, v10, [], xs, rfl, rfl, rfl, by rw [show cmbV op [] ys = [] from rfl, List.append_nil]⟩ ?_ ?_
 ·rintro d r e S' K ⟨w1, w2, done, rest, e1, e2, rfl, rfl⟩ hK
  obtain ⟨x, rest, rfl, rfl, rfl⟩ : ∃ x rest', rest = x :: rest' ∧ d = vcD x ∧ r = rest'.map vcD := by
   cases rest with
   | nil => cases e2
   | cons x rest => cases e2; exact ⟨x, rest, rfl, rfl, rfl⟩
  have xl := hx x (by rw [e1]; simp)
  (simp_arith! [])
  refine SV_forI (fun ds e' S' => ∃ (w2 : Option D) (don2 res2 : List Vc), ys = don2 ++ res2 ∧ ds = res2.map vcD ∧ e' = [v0, v1, v2, v3, some (.ref T.length), v5, v6, some (vcD x), some (.lst (xs.map vcD)), some (.lst (ys.map vcD)), w2, v11, v12, v13] ∧ S' = T ++ [.lst ((pre ++ cmbV op done ys ++ don2.map (op x)).map vcD)])
   ⟨w2, [], ys, rfl, rfl, rfl, by rw [List.map_nil, List.append_nil]⟩ ?_ ?_
  ·rintro d r e S' K2 ⟨w2, don2, res2, f1, f2, rfl, rfl⟩ hK2
   obtain ⟨y, res2, rfl, rfl, rfl⟩ : ∃ x rest', res2 = x :: rest' ∧ d = vcD x ∧ r = rest'.map vcD := by
    cases res2 with
    | nil => cases f2
    | cons x rest => cases f2; exact ⟨x, rest, rfl, rfl, rfl⟩
   obtain ⟨yl, ysm⟩ := hy y (by rw [f1]; simp)
   have zv : ∀ U : Sto, zipV U (vcD x) (vcD y) = some ((x.zip y).map (fun p => D.tup [.int p.1, .int p.2]), []) := fun U => by
    show some (zipD (x.map D.int) (y.map D.int), ([] : List Nat)) = _
    rw [zipD_ints]
   (simp_arith! [IV_zip, zv])
   have cl : (pre ++ cmbV op done ys ++ don2.map (op x)).length + 1 ≤ 200000 := by
    rw [List.length_append, List.length_append, cmb_len, List.length_map]
    have d1 : don2.length + 1 ≤ ys.length := by rw [f1]; simp
    have d2 : done.length + 1 ≤ xs.length := by rw [e1]; simp
    have := Nat.mul_le_mul_right ys.length d2
    rw [Nat.succ_mul] at this
    omega
   refine (LV_mapG (fun p : Int × Int => D.tup [.int p.1, .int p.2]) (fun p => D.int (p.1 - p.2)) (by intro n h; cases h) fun p K3 hp hK3 => ?_).imp fun out S2 q2 => ?_
   ·(simp_arith! [])
    exact hK3
   ·obtain ⟨rfl, rfl⟩ := q2
    have lz : (x.zip y).length ≤ 3 := by rw [List.length_zip]; omega
    refine ⟨sz_le (by rw [List.length_map]; omega), _, box_last, ex_append.mpr ⟨sz_le (by rw [List.length_map]; omega), ?_⟩⟩
    refine ⟨(by intro n h; cases h), hK2 _ _ ⟨_, don2 ++ [y], res2, by rw [f1]; simp, rfl, rfl, ?_⟩⟩
    have : D.tup ((x.zip y).map fun p => D.int (p.1 - p.2)) = vcD (op x y) := by
     rw [← hop x y]
     show _ = D.tup (List.map D.int _)
     rw [List.map_map]
     rfl
    rw [set_last, this]
    simp only [List.map_append, List.map_cons, List.map_nil, List.append_assoc]
  ·rintro e S' ⟨w2, don2, res2, f1, f2, rfl, rfl⟩
   have : res2 = [] := by cases res2 with
    | nil => rfl
    | cons z r => cases f2
   subst this
   rw [List.append_nil] at f1
   refine ⟨(by intro n h; cases h), hK _ _ ⟨_, _, done ++ [x], rest, by rw [e1]; simp, rfl, rfl, ?_⟩⟩
   rw [cmb_app, ← f1, List.append_assoc]
 ·rintro e S' ⟨w1, w2, done, rest, f1, f2, rfl, rfl⟩
  have : rest = [] := by cases rest with
   | nil => rfl
   | cons z r => cases f2
  subst this
  rw [List.append_nil] at f1
  subst f1
  exact q _ _
theorem cut_last2 (w a b : D) : cutD [w, a, b] (some (-2)) none = [a, b] := rfl
theorem cut_from1 (w a b : D) : cutD [w, a, b] (some 1) none = [a, b] := rfl
theorem cut_last5 (w i f a b : D) : cutD [w, i, f, a, b] (some (-2)) none = [a, b] := rfl
theorem CV_formsW {rs : List Int} (rg : Rg rs) : ∀ (n : Nat) (e : Xp) {S : Sto} {Q : D → Sto → Prop}, exOk 2 e → lev e < n → lev e ≤ 8 → nfX e ≤ 300 → Q (.lst ((fmW rs 2 e).map vcD)) S → CV (cc_formsW n) [exD e, .tup (rs.map D.int), .int 2] S Q := by
 have gr : ∀ {i : Nat}, i < 4 → atI (rs.map D.int) (i : Int) = some (.int (rs.getD i 0)) := fun {i} h => getD_at (by rw [rg.1]; exact h)
 intro n
 induction n with
 | zero => intro e S Q ok h; omega
 | succ n ih =>
  intro e S Q ok h h8 hn q
  have ei := ex_isF
  have lo : ∀ (T : Sto) (ds : List D), listOf T (.lst ds) = some ds := fun _ _ => rfl
  have n1 : ∀ T : Sto, fNotIn T (.str "where") (.tup [.str "sum", .str "less"]) = some (.bl true) := fun _ => rfl
  have n2 : ∀ T : Sto, fNotIn T (.str "least") (.tup [.str "sum", .str "less"]) = some (.bl true) := fun _ => rfl
  have n3 : ∀ T : Sto, fNotIn T (.str "most") (.tup [.str "sum", .str "less"]) = some (.bl true) := fun _ => rfl
  have n4 : ∀ T : Sto, fNotIn T (.str "sum") (.tup [.str "sum", .str "less"]) = some (.bl false) := fun _ => rfl
  have n5 : ∀ T : Sto, fNotIn T (.str "less") (.tup [.str "sum", .str "less"]) = some (.bl false) := fun _ => rfl
  have fin : ∀ (T : Sto) (ds : List D), (∃ U, T = S ++ U) → ds = (fmW rs 2 e).map vcD → RtP S (fun d => Q d S) (.rt (.lst ds) T) := fun T ds hT he => by
   subst he
   exact ⟨hT, .inl ⟨fsD_bare _, q⟩⟩
  refine CV_plain rfl ?_
  show SV (b_formsW (cc_formsW n)) _ _ _
  unfold b_formsW
  have up : ∃ U, S = S ++ U := ⟨[], (List.append_nil S).symm⟩
  cases e with
  | fig z =>
   have ee : exD (.fig z) = .tup [.str "fig", .int z] := rfl
   rw [ee]
   (simp_arith! [gr])
   exact ⟨_, rfl, fin _ _ up rfl⟩
  | reg i =>
   have ee : exD (.reg i) = .tup [.str "reg", .int (i : Nat)] := rfl
   rw [ee]
   have g1 := gr (i := i) ok
   (simp_arith! [g1])
   exact ⟨_, rfl, fin _ _ up rfl⟩
  | shr i =>
   have ee : exD (.shr i) = .tup [.str "share", .int (i : Nat)] := rfl
   rw [ee]
   have ki : i < 2 := ok
   have r2 : rgD 0 2 = [.int 0, .int 1] := rfl
   (simp_arith! [gr, r2, LV_cons, LV_nil])
   refine ⟨rfl, sm_mul (sm_k (by decide)) (sm_k (by split <;> decide)), sm_mul (sm_k (by decide)) (sm_k (by split <;> decide)), ?_⟩
   refine fin _ _ up ?_
   have : i = 0 ∨ i = 1 := by omega
   rcases this with rfl | rfl <;> rfl
  | tim z a =>
   have ee : exD (.tim z a) = .tup [.str "times", .int z, exD a] := rfl
   have hla : lev a + 1 < n + 1 := h
   have hl8 : lev a + 1 ≤ 8 := h8
   have ln := fmW_cnt rs 2 a
   have hnn : nfX a ≤ 300 := hn
   rw [ee]
   (simp_arith! [gr, ei, LV_cons, LV_nil])
   refine ih a ok.2.2 (by omega) (by omega) hn ?_
   (simp_arith! [gr, ei, LV_cons, LV_nil])
   refine (LV_mapG vcD (fun v => vcD (mlv z v)) (by intro n h; cases h) fun v K hv hK => ?_).imp fun out S2 q => ?_
   ·have vl := fmW_len hv
    (simp_arith! [vcD])
    refine (LV_mapG D.int (fun x => D.int (z * x)) (by intro n h; cases h) fun x K2 hx hK2 => ?_).imp fun out S2 q => ?_
    ·(simp_arith! [])
     exact ⟨sm_mul (sm_k (by have := ok.1; have := ok.2.1; omega)) (fm_sm rg ok.2.2 (by omega) (mem_fmW.mp hv) hx), hK2⟩
    ·obtain ⟨rfl, rfl⟩ := q
     have e1 : v.map (fun x => D.int (z * x)) = (mlv z v).map D.int := by unfold mlv; rw [List.map_map]; rfl
     (simp_arith! [e1])
     exact ⟨sz_le (by simp only [mlv, List.length_map]; omega), hK⟩
   ·obtain ⟨rfl, rfl⟩ := q
    refine ⟨sz_le (by rw [List.length_map]; omega), fin _ _ up ?_⟩
    show _ = ((fmW rs 2 a).map (mlv z)).map vcD
    rw [List.map_map]
    rfl
  | byr i a =>
   have ee : exD (.byr i a) = .tup [.str "by", .int (i : Nat), exD a] := rfl
   have hla : lev a + 1 < n + 1 := h
   have hl8 : lev a + 1 ≤ 8 := h8
   have ln := fmW_cnt rs 2 a
   have hnn : nfX a ≤ 300 := hn
   have g1 := gr (i := i) ok.1
   rw [ee]
   (simp_arith! [g1, ei, LV_cons, LV_nil])
   refine ih a ok.2 (by omega) (by omega) hn ?_
   (simp_arith! [g1, ei, LV_cons, LV_nil])
   refine (LV_mapG vcD (fun v => vcD (mlv (rs.getD i 0) v)) (by intro n h; cases h) fun v K hv hK => ?_).imp fun out S2 q => ?_
   ·have vl := fmW_len hv
    (simp_arith! [vcD])
    refine (LV_mapG D.int (fun x => D.int (rs.getD i 0 * x)) (by intro n h; cases h) fun x K2 hx hK2 => ?_).imp fun out S2 q => ?_
    ·(simp_arith! [])
     exact ⟨sm_mul (sm_k (by have hl : i < rs.length := (by rw [rg.1]; exact ok.1); rw [List.getD_eq_getElem?_getD, List.getElem?_eq_getElem hl]; have := rg.2 _ (List.getElem_mem hl); show (rs[i]).natAbs ≤ 10 ^ 30; omega)) (fm_sm rg ok.2 (by omega) (mem_fmW.mp hv) hx), hK2⟩
    ·obtain ⟨rfl, rfl⟩ := q
     have e1 : v.map (fun x => D.int (rs.getD i 0 * x)) = (mlv (rs.getD i 0) v).map D.int := by unfold mlv; rw [List.map_map]; rfl
     (simp_arith! [e1])
     exact ⟨sz_le (by simp only [mlv, List.length_map]; omega), hK⟩
   ·obtain ⟨rfl, rfl⟩ := q
    refine ⟨sz_le (by rw [List.length_map]; omega), fin _ _ up ?_⟩
    show _ = ((fmW rs 2 a).map (mlv (rs.getD i 0))).map vcD
    rw [List.map_map]
    rfl
  | whn i f a b =>
   have ee : exD (.whn i f a b) = .tup [.str "when", .int (i : Nat), .int f, exD a, exD b] := rfl
   have hla : max (lev a) (lev b) + 1 < n + 1 := h
   have hl8 : max (lev a) (lev b) + 1 ≤ 8 := h8
   have hnn : max (nfX a) (nfX b) ≤ 300 := hn
   have g1 := gr (i := i) ok.1
   have a3 : atI [D.str "when", .int (i : Nat), .int f, exD a, exD b] 3 = some (exD a) := rfl
   have a4 : atI [D.str "when", .int (i : Nat), .int f, exD a, exD b] 4 = some (exD b) := rfl
   rw [ee]
   by_cases c : f ≤ rs.getD i 0
   ·have c' : (if f ≤ rs.getD i 0 then (1 : Int) else 0) = 1 := if_pos c
    (simp_arith! [g1, ei, LV_cons, LV_nil, c', a3, a4, show (3 : Int) + 1 = 4 from rfl])
    refine ih b ok.2.2.2.2 (by omega) (by omega) (by omega) ?_
    refine fin _ _ up ?_
    show _ = (if rs.getD i 0 < f then fmW rs 2 a else fmW rs 2 b).map vcD
    rw [if_neg (by omega)]
   ·have c' : (if f ≤ rs.getD i 0 then (1 : Int) else 0) = 0 := if_neg c
    (simp_arith! [g1, ei, LV_cons, LV_nil, c', a3, a4, show (3 : Int) + 0 = 3 from rfl])
    refine ih a ok.2.2.2.1 (by omega) (by omega) (by omega) ?_
    refine fin _ _ up ?_
    show _ = (if rs.getD i 0 < f then fmW rs 2 a else fmW rs 2 b).map vcD
    rw [if_pos (by omega)]
  | whr i f a b =>
   have ee : exD (.whr i f a b) = .tup [.str "where", .int (i : Nat), .int f, exD a, exD b] := rfl
   have hla : max (lev a) (lev b) + 1 < n + 1 := h
   have hl8 : max (lev a) (lev b) + 1 ≤ 8 := h8
   have hnn : nfX a + nfX b ≤ 300 := hn
   have c1 := fmW_cnt rs 2 a
   have c2 := fmW_cnt rs 2 b
   rw [ee]
   (simp_arith! [gr, ei, LV_cons, LV_nil, cut_last5])
   refine ih a ok.2.2.2.1 (by omega) (by omega) (by omega) ?_
   (simp_arith! [gr, ei, LV_cons, LV_nil])
   refine ih b ok.2.2.2.2 (by omega) (by omega) (by omega) ?_
   (simp_arith! [gr, ei, LV_cons, LV_nil, GV_tl, lo, n1, n2, n3, n4, n5])
   refine ⟨sz_le (by rw [List.length_map, List.length_map]; omega), fin _ _ up ?_⟩
   rw [← List.map_append]
   rfl
  | lst a b =>
   have ee : exD (.lst a b) = .tup [.str "least", exD a, exD b] := rfl
   have hla : max (lev a) (lev b) + 1 < n + 1 := h
   have hl8 : max (lev a) (lev b) + 1 ≤ 8 := h8
   have hnn : nfX a + nfX b ≤ 300 := hn
   have c1 := fmW_cnt rs 2 a
   have c2 := fmW_cnt rs 2 b
   rw [ee]
   (simp_arith! [gr, ei, LV_cons, LV_nil, cut_last2])
   refine ih a ok.1 (by omega) (by omega) (by omega) ?_
   (simp_arith! [gr, ei, LV_cons, LV_nil])
   refine ih b ok.2 (by omega) (by omega) (by omega) ?_
   (simp_arith! [gr, ei, LV_cons, LV_nil, GV_tl, lo, n1, n2, n3, n4, n5])
   refine ⟨sz_le (by rw [List.length_map, List.length_map]; omega), fin _ _ up ?_⟩
   rw [← List.map_append]
   rfl
  | mst a b =>
   have ee : exD (.mst a b) = .tup [.str "most", exD a, exD b] := rfl
   have hla : max (lev a) (lev b) + 1 < n + 1 := h
   have hl8 : max (lev a) (lev b) + 1 ≤ 8 := h8
   have hnn : nfX a + nfX b ≤ 300 := hn
   have c1 := fmW_cnt rs 2 a
   have c2 := fmW_cnt rs 2 b
   rw [ee]
   (simp_arith! [gr, ei, LV_cons, LV_nil, cut_last2])
   refine ih a ok.1 (by omega) (by omega) (by omega) ?_
   (simp_arith! [gr, ei, LV_cons, LV_nil])
   refine ih b ok.2 (by omega) (by omega) (by omega) ?_
   (simp_arith! [gr, ei, LV_cons, LV_nil, GV_tl, lo, n1, n2, n3, n4, n5])
   refine ⟨sz_le (by rw [List.length_map, List.length_map]; omega), fin _ _ up ?_⟩
   rw [← List.map_append]
   rfl
  | sum a b =>
   have ee : exD (.sum a b) = .tup [.str "sum", exD a, exD b] := rfl
   have hla : max (lev a) (lev b) + 1 < n + 1 := h
   have hl8 : max (lev a) (lev b) + 1 ≤ 8 := h8
   have hnn : nfX a * nfX b ≤ 300 := hn
   have pa := nf_pos a
   have pb := nf_pos b
   have na : nfX a ≤ 300 := Nat.le_trans (Nat.le_mul_of_pos_right _ pb) hnn
   have nb : nfX b ≤ 300 := Nat.le_trans (Nat.le_mul_of_pos_left _ pa) hnn
   have c1 := fmW_cnt rs 2 a
   have c2 := fmW_cnt rs 2 b
   rw [ee]
   (simp_arith! [gr, ei, LV_cons, LV_nil, cut_last2])
   refine ih a ok.1 (by omega) (by omega) (by omega) ?_
   (simp_arith! [gr, ei, LV_cons, LV_nil])
   refine ih b ok.2 (by omega) (by omega) (by omega) ?_
   (simp_arith! [gr, ei, LV_cons, LV_nil, GV_tl, lo, n1, n2, n3, n4, n5])
   refine formsW_loop (m := 2) (pre := []) (op := adv) (by omega) (fun x y => ?_) (sm_k (by decide)) (fun x hx => fmW_len hx) (fun y hy => ⟨fmW_len hy, fun z hz => fm_sm rg ok.2 (by omega) (mem_fmW.mp hy) hz⟩) (by have := Nat.mul_le_mul c1 c2; simp only [List.length_nil]; omega) fun w1 w2 => ?_
   ·unfold adv
    refine List.map_congr_left fun p _ => ?_
    omega
   rw [List.nil_append]
   (simp_arith! [])
   exact ⟨⟨_, rfl⟩, .inr ⟨_, _, rfl, Nat.le_refl _, List.getElem?_concat_length .., fsD_bare _, q⟩⟩
  | les a b =>
   have ee : exD (.les a b) = .tup [.str "less", exD a, exD b] := rfl
   have hla : max (lev a) (lev b) + 1 < n + 1 := h
   have hl8 : max (lev a) (lev b) + 1 ≤ 8 := h8
   have hnn : nfX a * nfX b ≤ 300 := hn
   have pa := nf_pos a
   have pb := nf_pos b
   have na : nfX a ≤ 300 := Nat.le_trans (Nat.le_mul_of_pos_right _ pb) hnn
   have nb : nfX b ≤ 300 := Nat.le_trans (Nat.le_mul_of_pos_left _ pa) hnn
   have c1 := fmW_cnt rs 2 a
   have c2 := fmW_cnt rs 2 b
   rw [ee]
   (simp_arith! [gr, ei, LV_cons, LV_nil, cut_last2])
   refine ih a ok.1 (by omega) (by omega) (by omega) ?_
   (simp_arith! [gr, ei, LV_cons, LV_nil])
   refine ih b ok.2 (by omega) (by omega) (by omega) ?_
   (simp_arith! [gr, ei, LV_cons, LV_nil, GV_tl, lo, n1, n2, n3, n4, n5])
   refine formsW_loop (m := 2) (pre := []) (op := sbv) (by omega) (fun x y => ?_) (sm_k (by decide)) (fun x hx => fmW_len hx) (fun y hy => ⟨fmW_len hy, fun z hz => fm_sm rg ok.2 (by omega) (mem_fmW.mp hy) hz⟩) (by have := Nat.mul_le_mul c1 c2; simp only [List.length_nil]; omega) fun w1 w2 => ?_
   ·unfold sbv
    refine List.map_congr_left fun p _ => ?_
    omega
   rw [List.nil_append]
   (simp_arith! [])
   exact ⟨⟨_, rfl⟩, .inr ⟨_, _, rfl, Nat.le_refl _, List.getElem?_concat_length .., fsD_bare _, q⟩⟩
theorem crossW_parts {rs : List Int} {K : Con} {rsD : D} {ts : List Xp} (hK : ∀ a, a ∈ ts → ∀ {S : Sto} {Q : D → Sto → Prop}, Q (.lst ((crW rs 2 a).map vcD)) S → CV K [exD a, rsD, .int 2] S Q) (hl : (ts.flatMap (crW rs 2)).length ≤ 1000000)
  {T : Sto} {P : Out → Prop} {v0 v3 v5 v6 v7 v8 v9 v10 v11 v12 v13 : Option D} (q : ∀ w5, P (.nx [v0, some rsD, some (.int 2), v3, some (.ref T.length), w5, v6, v7, v8, v9, v10, v11, v12, v13] (T ++ [.lst ((ts.flatMap (crW rs 2)).map vcD)]))) :
  SV (forL (gN 5) (sExpr (eMt hExtend (eVar 4) (aCons (eCall K (aCons (eVar 5) (aCons (eVar 1) (aCons (eVar 2) aNil)))) aNil))) [] (T ++ [.lst []]) (ts.map exD))
   [v0, some rsD, some (.int 2), v3, some (.ref T.length), v5, v6, v7, v8, v9, v10, v11, v12, v13] (T ++ [.lst []]) P := by
 refine SV_forI (fun ds e' S' => ∃ (w5 : Option D) (done rest : List Xp), ts = done ++ rest ∧ ds = rest.map exD ∧ e' = [v0, some rsD, some (.int 2), v3, some (.ref T.length), w5, v6, v7, v8, v9, v10, v11, v12, v13] ∧ S' = T ++ [.lst ((done.flatMap (crW rs 2)).map vcD)])
  ⟨v5, [], ts, rfl, rfl, rfl, rfl⟩ ?_ ?_
 ·rintro d r e S' K2 ⟨w5, done, rest, e1, e2, rfl, rfl⟩ hK2
  obtain ⟨a, rest, rfl, rfl, rfl⟩ : ∃ x rest', rest = x :: rest' ∧ d = exD x ∧ r = rest'.map exD := by
   cases rest with
   | nil => cases e2
   | cons x rest => cases e2; exact ⟨x, rest, rfl, rfl, rfl⟩
  have ll : (done.flatMap (crW rs 2)).length + (crW rs 2 a).length ≤ 1000000 := by
   have : (ts.flatMap (crW rs 2)).length = (done.flatMap (crW rs 2)).length + ((crW rs 2 a).length + (rest.flatMap (crW rs 2)).length) := by
    rw [e1, List.flatMap_append, List.length_append, List.flatMap_cons, List.length_append]
   omega
  (simp_arith! [])
  refine hK a (by rw [e1]; simp) ?_
  (simp_arith! [])
  refine ⟨_, box_last, ?_⟩
  refine ex_extend.mpr ⟨sz_le (by rw [List.length_map, List.length_map]; omega), ?_⟩
  refine ⟨(by intro n h; cases h), hK2 _ _ ⟨_, done ++ [a], rest, by rw [e1]; simp, rfl, rfl, ?_⟩⟩
  rw [set_last, ← List.map_append, List.flatMap_append]
  simp
 ·rintro e S' ⟨w5, done, rest, f1, f2, rfl, rfl⟩
  have : rest = [] := by cases rest with
   | nil => rfl
   | cons z r => cases f2
  subst this
  rw [List.append_nil] at f1
  subst f1
  exact q _
theorem CV_crossW {rs : List Int} (rg : Rg rs) {k : Nat} : ∀ (n : Nat) (e : Xp) {S : Sto} {Q : D → Sto → Prop}, exOk 2 e → lev e < n → lev e < k → lev e ≤ 8 → nfX e ≤ 300 → ncrX e ≤ 90000 → Q (.lst ((crW rs 2 e).map vcD)) S → CV (cc_crossW k n) [exD e, .tup (rs.map D.int), .int 2] S Q := by
 have gr : ∀ {i : Nat}, i < 4 → atI (rs.map D.int) (i : Int) = some (.int (rs.getD i 0)) := fun {i} h => getD_at (by rw [rg.1]; exact h)
 intro n
 induction n with
 | zero => intro e S Q ok h; omega
 | succ n ih =>
  intro e S Q ok h hk h8 hn hc q
  have ei := ex_isF
  have lo : ∀ (T : Sto) (ds : List D), listOf T (.lst ds) = some ds := fun _ _ => rfl
  have it : ∀ (T : Sto) (x : Str), gIs "tuple" T (.str x) = some (.bl false) := fun _ _ => rfl
  have ii : ∀ (T : Sto) (x : Int), gIs "tuple" T (.int x) = some (.bl false) := fun _ _ => rfl
  have fin : ∀ (T : Sto) (ds : List D), (∃ U, T = S ++ U) → ds = (crW rs 2 e).map vcD → RtP S (fun d => Q d S) (.rt (.lst ds) T) := fun T ds hT he => by
   subst he
   exact ⟨hT, .inl ⟨fsD_bare _, q⟩⟩
  have finR : ∀ (ds : List D), ds = (crW rs 2 e).map vcD → RtP S (fun d => Q d S) (.rt (.ref S.length) (S ++ [.lst ds])) := fun ds he => by
   subst he
   exact ⟨⟨_, rfl⟩, .inr ⟨_, _, rfl, Nat.le_refl _, by simp, fsD_bare _, q⟩⟩
  refine CV_plain rfl ?_
  show SV (b_crossW (cc_crossW k n) (cc_formsW k)) _ _ _
  unfold b_crossW
  have up : ∃ U, S = S ++ U := ⟨[], (List.append_nil S).symm⟩
  cases e with
  | fig z =>
   have ee : exD (.fig z) = .tup [.str "fig", .int z] := rfl
   rw [ee]
   (simp_arith! [gr])
   exact fin _ _ up rfl
  | reg i =>
   have ee : exD (.reg i) = .tup [.str "reg", .int (i : Nat)] := rfl
   rw [ee]
   (simp_arith! [gr])
   exact fin _ _ up rfl
  | shr i =>
   have ee : exD (.shr i) = .tup [.str "share", .int (i : Nat)] := rfl
   rw [ee]
   (simp_arith! [gr])
   exact fin _ _ up rfl
  | whn i f a b =>
   have ee : exD (.whn i f a b) = .tup [.str "when", .int (i : Nat), .int f, exD a, exD b] := rfl
   have hla : max (lev a) (lev b) + 1 < n + 1 := h
   have hlk : max (lev a) (lev b) + 1 < k := hk
   have hl8 : max (lev a) (lev b) + 1 ≤ 8 := h8
   have hnn : max (nfX a) (nfX b) ≤ 300 := hn
   have hcc : max (ncrX a) (ncrX b) ≤ 90000 := hc
   have g1 := gr (i := i) ok.1
   have a3 : atI [D.str "when", .int (i : Nat), .int f, exD a, exD b] 3 = some (exD a) := rfl
   have a4 : atI [D.str "when", .int (i : Nat), .int f, exD a, exD b] 4 = some (exD b) := rfl
   rw [ee]
   by_cases c : f ≤ rs.getD i 0
   ·have c' : (if f ≤ rs.getD i 0 then (1 : Int) else 0) = 1 := if_pos c
    (simp_arith! [g1, ei, LV_cons, LV_nil, c', a3, a4, show (3 : Int) + 1 = 4 from rfl])
    refine ih b ok.2.2.2.2 (by omega) (by omega) (by omega) (by omega) (by omega) ?_
    refine fin _ _ up ?_
    show _ = (if rs.getD i 0 < f then crW rs 2 a else crW rs 2 b).map vcD
    rw [if_neg (by omega)]
   ·have c' : (if f ≤ rs.getD i 0 then (1 : Int) else 0) = 0 := if_neg c
    (simp_arith! [g1, ei, LV_cons, LV_nil, c', a3, a4, show (3 : Int) + 0 = 3 from rfl])
    refine ih a ok.2.2.2.1 (by omega) (by omega) (by omega) (by omega) (by omega) ?_
    refine fin _ _ up ?_
    show _ = (if rs.getD i 0 < f then crW rs 2 a else crW rs 2 b).map vcD
    rw [if_pos (by omega)]
  | tim z a =>
   have ee : exD (.tim z a) = .tup [.str "times", .int z, exD a] := rfl
   have hla : lev a + 1 < n + 1 := h
   have hlk : lev a + 1 < k := hk
   have hl8 : lev a + 1 ≤ 8 := h8
   have hcc : ncrX a ≤ 90000 := hc
   rw [ee]
   (simp_arith! [gr, ei, it, ii, LV_cons, LV_nil])
   refine crossW_parts (ts := [a]) (fun x hx => ?_) (by rw [show [a].flatMap (crW rs 2) = crW rs 2 a by simp]; have := crW_cnt rs 2 a; omega) fun w5 => ?_
   ·rw [List.mem_singleton.mp hx]
    intro S Q q
    exact ih a ok.2.2 (by omega) (by omega) (by omega) hn hc q
   (simp_arith! [])
   exact finR _ (by simp only [List.flatMap_cons, List.flatMap_nil, List.append_nil]; rfl)
  | byr i a =>
   have ee : exD (.byr i a) = .tup [.str "by", .int (i : Nat), exD a] := rfl
   have hla : lev a + 1 < n + 1 := h
   have hlk : lev a + 1 < k := hk
   have hl8 : lev a + 1 ≤ 8 := h8
   have hcc : ncrX a ≤ 90000 := hc
   rw [ee]
   (simp_arith! [gr, ei, it, ii, LV_cons, LV_nil])
   refine crossW_parts (ts := [a]) (fun x hx => ?_) (by rw [show [a].flatMap (crW rs 2) = crW rs 2 a by simp]; have := crW_cnt rs 2 a; omega) fun w5 => ?_
   ·rw [List.mem_singleton.mp hx]
    intro S Q q
    exact ih a ok.2 (by omega) (by omega) (by omega) hn hc q
   (simp_arith! [])
   exact finR _ (by simp only [List.flatMap_cons, List.flatMap_nil, List.append_nil]; rfl)
  | whr i f a b =>
   have ee : exD (.whr i f a b) = .tup [.str "where", .int (i : Nat), .int f, exD a, exD b] := rfl
   have hla : max (lev a) (lev b) + 1 < n + 1 := h
   have hlk : max (lev a) (lev b) + 1 < k := hk
   have hl8 : max (lev a) (lev b) + 1 ≤ 8 := h8
   have hnn : nfX a + nfX b ≤ 300 := hn
   have hcc : ncrX a + ncrX b + 1 ≤ 90000 := hc
   have ki : i < 2 := ok.1
   have r2 : rgD 0 2 = [.int 0, .int 1] := rfl
   rw [ee]
   (simp_arith! [gr, ei, it, ii, LV_cons, LV_nil])
   have ca := crW_cnt rs 2 a
   have cb := crW_cnt rs 2 b
   have ef : [a, b].flatMap (crW rs 2) = crW rs 2 a ++ crW rs 2 b := by simp only [List.flatMap_cons, List.flatMap_nil, List.append_nil]
   refine crossW_parts (ts := [a, b]) (fun x hx => ?_) (by rw [ef, List.length_append]; omega) fun w5 => ?_
   ·have hx : x = a ∨ x = b := by simpa using hx
    rcases hx with rfl | rfl
    ·intro S Q q
     exact ih _ ok.2.2.2.1 (by omega) (by omega) (by omega) (by omega) (by omega) q
    ·intro S Q q
     exact ih _ ok.2.2.2.2 (by omega) (by omega) (by omega) (by omega) (by omega) q
   rw [ef]
   (simp_arith! [r2, LV_cons, LV_nil])
   refine ⟨rfl, sm_mul (sm_k (by decide)) (sm_k (by split <;> decide)), sm_mul (sm_k (by decide)) (sm_k (by split <;> decide)), _, box_last, ex_append.mpr ⟨sz_le (by rw [List.length_map, List.length_append]; omega), ?_⟩⟩
   rw [set_last]
   refine finR _ ?_
   show _ = (crW rs 2 a ++ crW rs 2 b ++ [whV 2 i f]).map vcD
   rw [List.map_append (l₁ := crW rs 2 a ++ crW rs 2 b)]
   have : i = 0 ∨ i = 1 := by omega
   rcases this with rfl | rfl <;> rfl
  | lst a b =>
   have ee : exD (.lst a b) = .tup [.str "least", exD a, exD b] := rfl
   have hla : max (lev a) (lev b) + 1 < n + 1 := h
   have hlk : max (lev a) (lev b) + 1 < k := hk
   have hl8 : max (lev a) (lev b) + 1 ≤ 8 := h8
   have hnn : nfX a + nfX b ≤ 300 := hn
   have hcc : ncrX a + ncrX b + nfX a * nfX b ≤ 90000 := hc
   have c1 := fmW_cnt rs 2 a
   have c2 := fmW_cnt rs 2 b
   rw [ee]
   (simp_arith! [gr, ei, it, ii, LV_cons, LV_nil])
   have ca := crW_cnt rs 2 a
   have cb := crW_cnt rs 2 b
   have ef : [a, b].flatMap (crW rs 2) = crW rs 2 a ++ crW rs 2 b := by simp only [List.flatMap_cons, List.flatMap_nil, List.append_nil]
   refine crossW_parts (ts := [a, b]) (fun x hx => ?_) (by rw [ef, List.length_append]; omega) fun w5 => ?_
   ·have hx : x = a ∨ x = b := by simpa using hx
    rcases hx with rfl | rfl
    ·intro S Q q
     exact ih _ ok.1 (by omega) (by omega) (by omega) (by omega) (by omega) q
    ·intro S Q q
     exact ih _ ok.2 (by omega) (by omega) (by omega) (by omega) (by omega) q
   rw [ef]
   (simp_arith! [gr, ei, LV_cons, LV_nil, cut_from1])
   refine CV_formsW rg k a ok.1 (by omega) (by omega) (by omega) ?_
   (simp_arith! [gr, ei, LV_cons, LV_nil])
   refine CV_formsW rg k b ok.2 (by omega) (by omega) (by omega) ?_
   (simp_arith! [gr, ei, LV_cons, LV_nil, GV_tl, lo])
   refine crossW_loop (m := 2) (op := sbv) (by omega) (fun x y => rfl) (fun x hx => fmW_len hx) (fun y hy => ⟨fmW_len hy, fun z hz => fm_sm rg ok.2 (by omega) (mem_fmW.mp hy) hz⟩) (by have := Nat.mul_le_mul c1 c2; rw [List.length_append]; omega) fun w1 w2 => ?_
   (simp_arith! [])
   exact finR _ rfl
  | mst a b =>
   have ee : exD (.mst a b) = .tup [.str "most", exD a, exD b] := rfl
   have hla : max (lev a) (lev b) + 1 < n + 1 := h
   have hlk : max (lev a) (lev b) + 1 < k := hk
   have hl8 : max (lev a) (lev b) + 1 ≤ 8 := h8
   have hnn : nfX a + nfX b ≤ 300 := hn
   have hcc : ncrX a + ncrX b + nfX a * nfX b ≤ 90000 := hc
   have c1 := fmW_cnt rs 2 a
   have c2 := fmW_cnt rs 2 b
   rw [ee]
   (simp_arith! [gr, ei, it, ii, LV_cons, LV_nil])
   have ca := crW_cnt rs 2 a
   have cb := crW_cnt rs 2 b
   have ef : [a, b].flatMap (crW rs 2) = crW rs 2 a ++ crW rs 2 b := by simp only [List.flatMap_cons, List.flatMap_nil, List.append_nil]
   refine crossW_parts (ts := [a, b]) (fun x hx => ?_) (by rw [ef, List.length_append]; omega) fun w5 => ?_
   ·have hx : x = a ∨ x = b := by simpa using hx
    rcases hx with rfl | rfl
    ·intro S Q q
     exact ih _ ok.1 (by omega) (by omega) (by omega) (by omega) (by omega) q
    ·intro S Q q
     exact ih _ ok.2 (by omega) (by omega) (by omega) (by omega) (by omega) q
   rw [ef]
   (simp_arith! [gr, ei, LV_cons, LV_nil, cut_from1])
   refine CV_formsW rg k a ok.1 (by omega) (by omega) (by omega) ?_
   (simp_arith! [gr, ei, LV_cons, LV_nil])
   refine CV_formsW rg k b ok.2 (by omega) (by omega) (by omega) ?_
   (simp_arith! [gr, ei, LV_cons, LV_nil, GV_tl, lo])
   refine crossW_loop (m := 2) (op := sbv) (by omega) (fun x y => rfl) (fun x hx => fmW_len hx) (fun y hy => ⟨fmW_len hy, fun z hz => fm_sm rg ok.2 (by omega) (mem_fmW.mp hy) hz⟩) (by have := Nat.mul_le_mul c1 c2; rw [List.length_append]; omega) fun w1 w2 => ?_
   (simp_arith! [])
   exact finR _ rfl
  | sum a b =>
   have ee : exD (.sum a b) = .tup [.str "sum", exD a, exD b] := rfl
   have hla : max (lev a) (lev b) + 1 < n + 1 := h
   have hlk : max (lev a) (lev b) + 1 < k := hk
   have hl8 : max (lev a) (lev b) + 1 ≤ 8 := h8
   have hnn : nfX a * nfX b ≤ 300 := hn
   have hcc : ncrX a + ncrX b ≤ 90000 := hc
   have pa := nf_pos a
   have pb := nf_pos b
   have na : nfX a ≤ 300 := Nat.le_trans (Nat.le_mul_of_pos_right _ pb) hnn
   have nb : nfX b ≤ 300 := Nat.le_trans (Nat.le_mul_of_pos_left _ pa) hnn
   rw [ee]
   (simp_arith! [gr, ei, it, ii, LV_cons, LV_nil])
   have ca := crW_cnt rs 2 a
   have cb := crW_cnt rs 2 b
   have ef : [a, b].flatMap (crW rs 2) = crW rs 2 a ++ crW rs 2 b := by simp only [List.flatMap_cons, List.flatMap_nil, List.append_nil]
   refine crossW_parts (ts := [a, b]) (fun x hx => ?_) (by rw [ef, List.length_append]; omega) fun w5 => ?_
   ·have hx : x = a ∨ x = b := by simpa using hx
    rcases hx with rfl | rfl
    ·intro S Q q
     exact ih _ ok.1 (by omega) (by omega) (by omega) (by omega) (by omega) q
    ·intro S Q q
     exact ih _ ok.2 (by omega) (by omega) (by omega) (by omega) (by omega) q
   rw [ef]
   (simp_arith! [])
   exact finR _ rfl
  | les a b =>
   have ee : exD (.les a b) = .tup [.str "less", exD a, exD b] := rfl
   have hla : max (lev a) (lev b) + 1 < n + 1 := h
   have hlk : max (lev a) (lev b) + 1 < k := hk
   have hl8 : max (lev a) (lev b) + 1 ≤ 8 := h8
   have hnn : nfX a * nfX b ≤ 300 := hn
   have hcc : ncrX a + ncrX b ≤ 90000 := hc
   have pa := nf_pos a
   have pb := nf_pos b
   have na : nfX a ≤ 300 := Nat.le_trans (Nat.le_mul_of_pos_right _ pb) hnn
   have nb : nfX b ≤ 300 := Nat.le_trans (Nat.le_mul_of_pos_left _ pa) hnn
   rw [ee]
   (simp_arith! [gr, ei, it, ii, LV_cons, LV_nil])
   have ca := crW_cnt rs 2 a
   have cb := crW_cnt rs 2 b
   have ef : [a, b].flatMap (crW rs 2) = crW rs 2 a ++ crW rs 2 b := by simp only [List.flatMap_cons, List.flatMap_nil, List.append_nil]
   refine crossW_parts (ts := [a, b]) (fun x hx => ?_) (by rw [ef, List.length_append]; omega) fun w5 => ?_
   ·have hx : x = a ∨ x = b := by simpa using hx
    rcases hx with rfl | rfl
    ·intro S Q q
     exact ih _ ok.1 (by omega) (by omega) (by omega) (by omega) (by omega) q
    ·intro S Q q
     exact ih _ ok.2 (by omega) (by omega) (by omega) (by omega) (by omega) q
   rw [ef]
   (simp_arith! [])
   exact finR _ rfl
structure Pq (q : Int × Int) : Prop where
 a0 : 0 ≤ q.1
 b0 : 0 ≤ q.2
 s1 : 1 ≤ q.1 + q.2
 g1 : Int.gcd q.1 q.2 = 1
 am : q.1 ≤ 100000000000000000000000000000
 bm : q.2 ≤ 100000000000000000000000000000
theorem Pq.ok {q : Int × Int} (h : Pq q) : okPt q = true := by
 have e : (100000000000000000000000000000 : Int) ≤ ((10 ^ 300 : Nat) : Int) := by decide +kernel
 have h1 := h.a0
 have h2 := h.b0
 have h3 := h.s1
 have h4 := Int.le_trans h.am e
 have h5 := Int.le_trans h.bm e
 unfold okPt
 simp only [Bool.and_eq_true, decide_eq_true_eq]
 exact ⟨⟨⟨⟨h1, h2⟩, h3⟩, h4⟩, h5⟩
theorem cop_dvd {a b t d : Int} (g : Int.gcd a b = 1) (h1 : d ∣ t * a) (h2 : d ∣ t * b) : d ∣ t := by
 have h := dvd_row [a, b] 0 d t (by rw [Int.mul_zero]; exact Int.dvd_zero d) (fun n hn => by
  simp only [List.mem_cons, List.not_mem_nil, or_false] at hn
  rcases hn with rfl | rfl
  ·exact h1
  ·exact h2)
 rw [gcdF_pair, g] at h
 simpa using h
theorem ray_eq {p q : Int × Int} (hp : Pq p) (hq : Pq q) (h : p.1 * q.2 = p.2 * q.1) : p = q := by
 have d1 : p.1 ∣ q.1 := cop_dvd hp.g1 ⟨q.1, by rw [Int.mul_comm]⟩ ⟨q.2, by rw [h, Int.mul_comm]⟩
 have d2 : q.1 ∣ p.1 := cop_dvd hq.g1 ⟨p.1, by rw [Int.mul_comm]⟩ ⟨p.2, by rw [h, Int.mul_comm]⟩
 have e1 : p.1 = q.1 := Int.dvd_antisymm hp.a0 hq.a0 d1 d2
 have d3 : p.2 ∣ q.2 := cop_dvd hp.g1 ⟨q.1, by rw [Int.mul_comm, h]⟩ ⟨q.2, by rw [Int.mul_comm]⟩
 have d4 : q.2 ∣ p.2 := cop_dvd hq.g1 ⟨p.1, by rw [← h, Int.mul_comm]⟩ ⟨p.2, by rw [Int.mul_comm]⟩
 have e2 : p.2 = q.2 := Int.dvd_antisymm hp.b0 hq.b0 d3 d4
 exact Prod.ext e1 e2
def BfP (p q : Int × Int) : Prop := p.2 * q.1 < q.2 * p.1
theorem key_lt {p q : Int × Int} (hp : Pq p) (hq : Pq q) (h : BfP p q) : key60 p < key60 q := by
 obtain ⟨p1, p2⟩ := p
 obtain ⟨q1, q2⟩ := q
 have a1 := hp.a0
 have a2 := hp.b0
 have a3 := hp.s1
 have a4 := hp.am
 have a5 := hp.bm
 have b1 := hq.a0
 have b2 := hq.b0
 have b3 := hq.s1
 have b4 := hq.am
 have b5 := hq.bm
 have h : p2 * q1 < q2 * p1 := h
 simp only at a1 a2 a3 a4 a5 b1 b2 b3 b4 b5
 show (1000000000000000000000000000000000000000000000000000000000000 * p2) / (p1 + p2) < (1000000000000000000000000000000000000000000000000000000000000 * q2) / (q1 + q2)
 obtain ⟨sp, hsp⟩ : ∃ s, p1 + p2 = s := ⟨_, rfl⟩
 obtain ⟨sq, hsq⟩ : ∃ s, q1 + q2 = s := ⟨_, rfl⟩
 rw [hsp, hsq]
 rw [hsp] at a3
 rw [hsq] at b3
 have m1 : sp ≤ 200000000000000000000000000000 := by omega
 have m2 : sq ≤ 200000000000000000000000000000 := by omega
 have h2 : p2 * sq + 1 ≤ q2 * sp := by
  have e1 : p2 * sq = p2 * q1 + p2 * q2 := by rw [← hsq, Int.mul_add]
  have e2 : q2 * sp = q2 * p1 + q2 * p2 := by rw [← hsp, Int.mul_add]
  have e3 : p2 * q2 = q2 * p2 := Int.mul_comm _ _
  omega
 have h3 : sp * sq ≤ 1000000000000000000000000000000000000000000000000000000000000 := by
  have h4 : sp * sq ≤ 200000000000000000000000000000 * 200000000000000000000000000000 := Int.mul_le_mul m1 m2 (by omega) (by decide)
  exact Int.le_trans h4 (by decide)
 clear m1 m2 a4 a5 b4 b5 h hsp hsq
 generalize (1000000000000000000000000000000000000000000000000000000000000 : Int) = N at *
 obtain ⟨k, hk⟩ : ∃ k, N * p2 / sp = k := ⟨_, rfl⟩
 rw [hk]
 have k1 : k * sp ≤ N * p2 := by
  rw [← hk]
  exact Int.ediv_mul_le _ (by omega)
 have n0 : 0 ≤ N := Int.le_trans (Int.mul_nonneg (by omega) (by omega)) h3
 have key : (k + 1) * sq ≤ N * q2 := by
  have e1 : k * sp * sq ≤ N * p2 * sq := Int.mul_le_mul_of_nonneg_right k1 (by omega)
  have e2 : N * (p2 * sq + 1) ≤ N * (q2 * sp) := Int.mul_le_mul_of_nonneg_left h2 n0
  have e3 : ((k + 1) * sq) * sp ≤ (N * q2) * sp := by
   have e4 : ((k + 1) * sq) * sp = k * sp * sq + sp * sq := by grind
   have e5 : N * (p2 * sq + 1) = N * p2 * sq + N := by grind
   have e6 : N * (q2 * sp) = (N * q2) * sp := by grind
   omega
  exact Int.le_of_mul_le_mul_right e3 (by omega)
 have : k + 1 ≤ N * q2 / sq := (Int.le_ediv_iff_mul_le (by omega)).mpr key
 omega
theorem key_inj {p q : Int × Int} (hp : Pq p) (hq : Pq q) (h : key60 p = key60 q) : p = q := by
 by_cases h1 : BfP p q
 ·have := key_lt hp hq h1; omega
 by_cases h2 : BfP q p
 ·have := key_lt hq hp h2; omega
 unfold BfP at h1 h2
 refine ray_eq hp hq ?_
 have e1 : p.1 * q.2 = q.2 * p.1 := Int.mul_comm _ _
 have e2 : q.1 * p.2 = p.2 * q.1 := Int.mul_comm _ _
 omega
theorem key_rt {p q : Int × Int} (hp : Pq p) (hq : Pq q) (h : key60 p < key60 q) : BfP p q := by
 refine Classical.byContradiction fun h1 => ?_
 by_cases h2 : BfP q p
 ·have := key_lt hq hp h2; omega
 unfold BfP at h1 h2
 have : p = q := by
  refine ray_eq hp hq ?_
  have e1 : p.1 * q.2 = q.2 * p.1 := Int.mul_comm _ _
  omega
 rw [this] at h
 omega
structure Row2 (L : List (Int × Int)) : Prop where
 pq : ∀ q, q ∈ L → Pq q
 st : L.Pairwise BfP
 e0 : (1, 0) ∈ L
 e1 : (0, 1) ∈ L
theorem row_of {ps : List (Int × Int)} (hp : ∀ q, q ∈ ps → Pq q) (hn : ps.Nodup) (h0 : (1, 0) ∈ ps) (h1 : (0, 1) ∈ ps) : Row2 (sortP ps) ∧ (ps.map key60).Nodup := by
 have pm := sortP_perm ps
 have hm : ∀ {q}, q ∈ sortP ps ↔ q ∈ ps := fun {q} => pm.mem_iff
 refine ⟨⟨fun q hq => hp q (hm.mp hq), ?_, hm.mpr h0, hm.mpr h1⟩, ?_⟩
 ·have n2 : (sortP ps).Nodup := pm.nodup_iff.mpr hn
  have := (sortP_pair ps).and n2
  refine this.imp_of_mem fun {p q} hp1 hq1 h => ?_
  obtain ⟨h2, h3⟩ := h
  have z1 := hp p (hm.mp hp1)
  have z2 := hp q (hm.mp hq1)
  refine key_rt z1 z2 ?_
  have : key60 p ≠ key60 q := fun e => h3 (key_inj z1 z2 e)
  omega
 ·rw [List.Nodup, List.pairwise_map]
  exact hn.imp_of_mem fun {p q} h1 h2 h3 e => h3 (key_inj (hp p h1) (hp q h2) e)
def Has (L : List (Int × Int)) (c0 c1 : Int) : Prop := c0 * c1 < 0 → ∃ r, r ∈ L ∧ 0 < r.1 ∧ 0 < r.2 ∧ c0 * r.1 + c1 * r.2 = 0
def lowP (u v : Int) : Int × Int := (u / (Int.gcd u v : Int), v / (Int.gcd u v : Int))
theorem lowP_facts {u v : Int} (hu : 0 < u) (hv : 0 < v) : 0 < (Int.gcd u v : Int) ∧ u = Int.gcd u v * (lowP u v).1 ∧ v = Int.gcd u v * (lowP u v).2 ∧ 0 < (lowP u v).1 ∧ 0 < (lowP u v).2 ∧ Int.gcd (lowP u v).1 (lowP u v).2 = 1 ∧ (lowP u v).1 ≤ u ∧ (lowP u v).2 ≤ v := by
 have g0 : 0 < Int.gcd u v := Int.gcd_pos_of_ne_zero_left _ (by omega)
 have g0' : 0 < (Int.gcd u v : Int) := by omega
 have e1 : u = Int.gcd u v * (lowP u v).1 := (Int.mul_ediv_cancel' (Int.gcd_dvd_left ..)).symm
 have e2 : v = Int.gcd u v * (lowP u v).2 := (Int.mul_ediv_cancel' (Int.gcd_dvd_right ..)).symm
 have p1 : 0 < (lowP u v).1 := Int.pos_of_mul_pos_right (by rw [← e1]; exact hu) g0'
 have p2 : 0 < (lowP u v).2 := Int.pos_of_mul_pos_right (by rw [← e2]; exact hv) g0'
 refine ⟨g0', e1, e2, p1, p2, ?_, Int.ediv_le_self _ (by omega), Int.ediv_le_self _ (by omega)⟩
 have h : Int.gcd (u / Int.gcd u v) (v / Int.gcd u v) = 1 := Int.gcd_ediv_gcd_ediv_gcd g0
 exact h
def ptA (ps : List (Int × Int)) (c : Vc) : List (Int × Int) := if c.getD 0 0 * c.getD 1 0 < 0 then stG ps (lowP (c.getD 1 0).natAbs (c.getD 0 0).natAbs) else ps
def ptF (F : List Vc) : List (Int × Int) := F.foldl ptA [(1, 0), (0, 1)]
def Fm2 (c : Vc) : Prop := c.length = 2 ∧ ∀ z, z ∈ c → -100000000000000000000000000000 ≤ z ∧ z ≤ 100000000000000000000000000000
theorem mem_stG {κ : Type} [DecidableEq κ] {ks : List κ} {k j : κ} : j ∈ stG ks k ↔ j ∈ ks ∨ j = k := by
 unfold stG
 split
 ·rename_i h
  unfold hasG at h
  rw [List.any_eq_true] at h
  obtain ⟨x, hx, e⟩ := h
  have e := of_decide_eq_true e
  subst e
  exact ⟨.inl, fun h => h.elim id fun e => by rw [e]; exact hx⟩
 ·simp
theorem nodup_stG {κ : Type} [DecidableEq κ] {ks : List κ} {k : κ} (h : ks.Nodup) : (stG ks k).Nodup := by
 unfold stG
 split
 ·exact h
 ·rename_i hk
  rw [List.nodup_append]
  refine ⟨h, by simp, fun a ha b hb e => hk ?_⟩
  rw [List.mem_singleton.mp hb] at e
  subst e
  unfold hasG
  rw [List.any_eq_true]
  exact ⟨a, ha, decide_eq_true rfl⟩
theorem map_stG {κ μ : Type} [DecidableEq κ] [DecidableEq μ] {f : κ → μ} (hf : ∀ a b, f a = f b → a = b) {ks : List κ} {k : κ} : stG (ks.map f) (f k) = (stG ks k).map f := by
 have e : hasG (ks.map f) (f k) = hasG ks k := by
  unfold hasG
  rw [List.any_map]
  refine congrArg (fun g => ks.any g) (funext fun j => ?_)
  show decide (f j = f k) = decide (j = k)
  exact decide_eq_decide.mpr ⟨hf j k, fun e => by rw [e]⟩
 unfold stG
 rw [e]
 split
 ·rfl
 ·rw [List.map_append]; rfl
theorem kPt_inj (a b : Int × Int) (h : kPt a = kPt b) : a = b := by
 simp only [kPt, List.cons.injEq, Sum.inl.injEq, and_true] at h
 exact Prod.ext h.1 h.2
theorem two_of {c : Vc} (h : Fm2 c) : ∃ a b, c = [a, b] ∧ a.natAbs ≤ 100000000000000000000000000000 ∧ b.natAbs ≤ 100000000000000000000000000000 := by
 obtain ⟨hl, hb⟩ := h
 match c, hl with
 | [a, b], _ =>
  have h1 := hb a (by simp)
  have h2 := hb b (by simp)
  exact ⟨a, b, rfl, by omega, by omega⟩
theorem nabs_pos {a b : Int} (h : a * b < 0) : 0 < (a.natAbs : Int) ∧ 0 < (b.natAbs : Int) := by
 have h1 : a ≠ 0 := fun e => by rw [e, Int.zero_mul] at h; omega
 have h2 : b ≠ 0 := fun e => by rw [e, Int.mul_zero] at h; omega
 omega
theorem cross0 {a b : Int} (h : a * b < 0) : a * (b.natAbs : Int) + b * (a.natAbs : Int) = 0 := by
 rcases Int.lt_or_le a 0 with ha | ha
 ·have hb : 0 ≤ b := Classical.byContradiction fun z => by
   have := Int.mul_pos_of_neg_of_neg ha (show b < 0 by omega); omega
  have e1 : (a.natAbs : Int) = -a := by omega
  have e2 : (b.natAbs : Int) = b := by omega
  rw [e1, e2]; grind
 ·have hb : b ≤ 0 := Classical.byContradiction fun z => by
   have := Int.mul_nonneg ha (show 0 ≤ b by omega); omega
  have e1 : (a.natAbs : Int) = a := by omega
  have e2 : (b.natAbs : Int) = -b := by omega
  rw [e1, e2]; grind
structure PtI (ps : List (Int × Int)) : Prop where
 pq : ∀ q, q ∈ ps → Pq q
 nd : ps.Nodup
 e0 : (1, 0) ∈ ps
 e1 : (0, 1) ∈ ps
theorem ptI_0 : PtI [(1, 0), (0, 1)] := ⟨fun q hq => by
 simp only [List.mem_cons, List.not_mem_nil, or_false] at hq
 rcases hq with rfl | rfl
 ·exact ⟨by decide, by decide, by decide, by decide, by decide, by decide⟩
 ·exact ⟨by decide, by decide, by decide, by decide, by decide, by decide⟩, by decide, by decide, by decide⟩
theorem ptA_ok {ps : List (Int × Int)} {c : Vc} (h : PtI ps) (hc : Fm2 c) : PtI (ptA ps c) ∧ (∀ q, q ∈ ps → q ∈ ptA ps c) ∧ (c.getD 0 0 * c.getD 1 0 < 0 → ∃ r, r ∈ ptA ps c ∧ 0 < r.1 ∧ 0 < r.2 ∧ c.getD 0 0 * r.1 + c.getD 1 0 * r.2 = 0) := by
 obtain ⟨a, b, rfl, ha, hb⟩ := two_of hc
 have e0 : ([a, b] : Vc).getD 0 0 = a := rfl
 have e1 : ([a, b] : Vc).getD 1 0 = b := rfl
 unfold ptA
 rw [e0, e1]
 by_cases hn : a * b < 0
 ·rw [if_pos hn]
  obtain ⟨p1, p2⟩ := nabs_pos hn
  obtain ⟨g0, f1, f2, q1, q2, hg, l1, l2⟩ := lowP_facts p2 p1
  refine ⟨⟨fun q hq => ?_, nodup_stG h.nd, mem_stG.mpr (.inl h.e0), mem_stG.mpr (.inl h.e1)⟩, fun q hq => mem_stG.mpr (.inl hq), fun _ => ⟨_, mem_stG.mpr (.inr rfl), q1, q2, ?_⟩⟩
  ·rcases mem_stG.mp hq with hq | rfl
   ·exact h.pq q hq
   ·exact ⟨by omega, by omega, by omega, hg, by omega, by omega⟩
  ·have h0 := cross0 hn
   generalize lowP (b.natAbs : Int) (a.natAbs : Int) = r at *
   generalize (Int.gcd (b.natAbs : Int) (a.natAbs : Int) : Int) = g at *
   rw [f1, f2] at h0
   have h3 : g * (a * r.1 + b * r.2) = 0 := by rw [← h0]; grind
   rcases Int.mul_eq_zero.mp h3 with z | z
   ·omega
   ·exact z
 ·rw [if_neg hn]
  exact ⟨h, fun q hq => hq, fun z => absurd z hn⟩
theorem ptF_go : ∀ (F : List Vc) {ps : List (Int × Int)}, PtI ps → (∀ c, c ∈ F → Fm2 c) → PtI (F.foldl ptA ps) ∧ (∀ q, q ∈ ps → q ∈ F.foldl ptA ps) ∧ ∀ c, c ∈ F → c.getD 0 0 * c.getD 1 0 < 0 → ∃ r, r ∈ F.foldl ptA ps ∧ 0 < r.1 ∧ 0 < r.2 ∧ c.getD 0 0 * r.1 + c.getD 1 0 * r.2 = 0
 | [], ps, h, _ => ⟨h, fun _ hq => hq, fun c hc => nomatch hc⟩
 | c :: F, ps, h, hF => by
  obtain ⟨h1, h2, h3⟩ := ptA_ok h (hF c (List.mem_cons_self ..))
  obtain ⟨k1, k2, k3⟩ := ptF_go F h1 fun z hz => hF z (List.mem_cons_of_mem _ hz)
  refine ⟨k1, fun q hq => k2 q (h2 q hq), fun z hz hn => ?_⟩
  rcases List.mem_cons.mp hz with rfl | hz
  ·obtain ⟨r, hr, hr2⟩ := h3 hn
   exact ⟨r, k2 r hr, hr2⟩
  ·exact k3 z hz hn
structure Row3 (F : List Vc) (L : List (Int × Int)) : Prop where
 row : Row2 L
 has : ∀ c, c ∈ F → c.length = 2 ∧ Has L (c.getD 0 0) (c.getD 1 0)
theorem ptF_row {F : List Vc} (hF : ∀ c, c ∈ F → Fm2 c) : Row3 F (sortP (ptF F)) ∧ ((ptF F).map key60).Nodup ∧ ∀ q, q ∈ ptF F → Pq q := by
 obtain ⟨k1, k2, k3⟩ := ptF_go F ptI_0 hF
 obtain ⟨r1, r2⟩ := row_of k1.pq k1.nd k1.e0 k1.e1
 refine ⟨⟨r1, fun c hc => ⟨(hF c hc).1, fun hn => ?_⟩⟩, r2, k1.pq⟩
 obtain ⟨r, hr, hr2⟩ := k3 c hc hn
 exact ⟨r, (sortP_perm _).mem_iff.mpr hr, hr2⟩
structure HsW (F : List Vc) (ms : List Mb) : Prop where
 oko : ∀ o, o ∈ flL ms → OkO 2 o
 cr : ∀ o, o ∈ flL ms → ∀ e, e ∈ o.1.stakes → ∀ c, c ∈ crW o.2.rs 2 e → c ∈ F
def nrV (p q : Int × Int) : Vc := [2 * p.1 + q.1, 2 * p.2 + q.2]
def frV (p q : Int × Int) : Vc := [p.1 + 2 * q.1, p.2 + 2 * q.2]
noncomputable def b_llowestP : SX := sSeq (sAsg (eC (.int 0)) (gN 1)) (sSeq (sFor (iSeq (eVar 0)) (gN 2) (sWhile (tOf (e2 fNe (eVar 2) (eC (.int 0)))) (sAsg (eTup (aCons (eVar 2) (aCons (e2 fMod (eVar 1) (eVar 2)) (aNil)))) (gT 2 (gsCons (gN 1) (gsCons (gN 2) (gsNil))))))) (sRet (eCB (fn1 gTupP) (aCons (eFz (lLc (iSeq (eVar 0)) (gN 2) (tYes') (e2 fDiv (eVar 2) (eVar 1)) [2])) (aNil)))))
noncomputable def c_llowestP : Con := den 1 3 0 b_llowestP
noncomputable def b_pointsW (k_all k_cross k_low : Con) : SX := sSeq (sAsg (eBx (lCB (fnl1 gList) (aCons (eVar 1) (aNil)))) (gN 2)) (sSeq (sFor (iSeq (eCall k_all (aCons (e2 fIx (eVar 0) (eC (.int 1))) (aNil)))) (gN 3) (sFor (iSeq (e2 fIx (e2 fIx (eVar 3) (eC (.int 1))) (eC (.int 3)))) (gN 5) (sExpr (eMt hExtend (eVar 2) (aCons (eCall k_cross (aCons (eVar 5) (aCons (e2 fIx (eVar 3) (eC (.int 2))) (aCons (eC (.int 2)) (aNil))))) (aNil)))))) (sSeq (sAsg (eDBt (aCons (eTupP (aCons (eC (.int 1)) (aCons (eC (.int 0)) (aNil)))) (aCons (eC (.bl true)) (aCons (eTupP (aCons (eC (.int 0)) (aCons (eC (.int 1)) (aNil)))) (aCons (eC (.bl true)) (aNil)))))) (gN 4)) (sSeq (sFor (iSeq (eVar 2)) (gT 2 (gsCons (gN 6) (gsCons (gN 7) (gsNil)))) (sIf (tOf (e2 fLt (e2 fMul (eVar 6) (eVar 7)) (eC (.int 0)))) (sDPt (eC (.bl true)) (eVar 4) (eCall k_low (aCons (eTup (aCons (eCB (fn1 gAbs) (aCons (eVar 7) (aNil))) (aCons (eCB (fn1 gAbs) (aCons (eVar 6) (aNil))) (aNil)))) (aNil)))) (sNil))) (sRet (eFz (lSortT (eVar 4)))))))
noncomputable def c_pointsW : Con := den 2 8 0 (b_pointsW (cc_lones 6) (cc_crossW 9 9) c_llowestP)
noncomputable def b_betweenW : SX := sRet (eFz (lDisp (aCons (eCB (fn1 gTuple) (aCons (eFz (lLc (iZip' (eVar 0) (eVar 1)) (gT 2 (gsCons (gN 3) (gsCons (gN 2) (gsNil)))) (tYes') (e2 fAdd (e2 fMul (eC (.int 2)) (eVar 3)) (eVar 2)) [3, 2])) (aNil))) (aCons (eCB (fn1 gTuple) (aCons (eFz (lLc (iZip' (eVar 0) (eVar 1)) (gT 2 (gsCons (gN 3) (gsCons (gN 2) (gsNil)))) (tYes') (e2 fAdd (eVar 3) (e2 fMul (eC (.int 2)) (eVar 2))) [3, 2])) (aNil))) (aNil)))))
noncomputable def c_betweenW : Con := den 2 4 0 b_betweenW
def RtPP (S : Sto) (Q : D → Prop) : Out → Prop
 | .rt d S2 => S2 = S ∧ (∃ ns : List Int, d = .tag 1000 (ns.map D.int)) ∧ Q d
 | _ => False
theorem handed_tagP {S2 : Sto} {k : Nat} {ns : List Int} : handed S2 k (.tag 1000 (ns.map D.int)) = some (.tag 1000 (ns.map D.int)) := by
 unfold handed
 rw [if_pos]
 show below k (.tag 1000 (ns.map D.int)) = true
 have e : below k (.tag 1000 (ns.map D.int)) = belowL k (ns.map D.int) := by simp [below]
 rw [e]
 exact bareL_below _ (bareL_ints ns)
theorem CV_plainP {k N : Nat} {b : SX} {ds : List D} {S : Sto} {Q : D → Sto → Prop} (hn : ds.length = k) (H : SV b (sE N ds) S (RtPP S fun d => Q d S)) : CV (den k N 0 b) ds S Q := by
 refine CV_den hn (H.imp fun o q => ?_)
 cases o with
 | rt d S2 =>
  obtain ⟨rfl, ⟨ns, rfl⟩, q3⟩ := q
  have e : S2.take (S2.length + 0) = S2 := by simp
  exact ⟨by simp, fun i es hi z => .inl z, _, handed_tagP, by rw [e]; exact q3⟩
 | nx e S2 => exact q.elim
 | bk e S2 => exact q.elim
 | ct e S2 => exact q.elim
theorem r_tupP {S : Sto} {ds : List D} : gTupP S (.lst ds) = some (.tag 1000 ds) := rfl
theorem CV_llowestP {S : Sto} {x : D} {ns : List Int} {Q : D → Sto → Prop} (hx : seqOf S x = some (ns.map D.int)) (h0 : ∀ n, n ∈ ns → 0 ≤ n ∧ n ≤ (10 ^ 400 : Nat)) (hp : ∃ n, n ∈ ns ∧ n ≠ 0) (hl : ns.length ≤ 1000) (q : Q (.tag 1000 ((ns.map (· / gcdF 0 ns)).map D.int)) S) : CV c_llowestP [x] S Q := by
 refine CV_plainP rfl ?_
 unfold b_llowestP
 (simp_arith [hx, r_tupP])
 refine SV_forI (fun r e S' => ∃ g ms u, r = ms.map D.int ∧ (∀ n, n ∈ ms → 0 ≤ n) ∧ 0 ≤ g ∧ e = [some x, some (.int g), u] ∧ gcdF g ms = gcdF 0 ns ∧ S' = S) ⟨0, ns, none, rfl, fun n hn => (h0 n hn).1, by omega, rfl, rfl, rfl⟩ ?_ ?_
 ·rintro d r e S' K ⟨g, ms, u, h1, h2, h3, rfl, h4, rfl⟩ hK
  cases ms with
  | nil => cases h1
  | cons m ms =>
   cases h1
   (simp_arith [])
   refine SV_gcdT (x := g) (y := m) (by decide) rfl rfl h3 (h2 m (List.mem_cons_self ..)) ?_
   exact ⟨fun n _ => rfl, hK _ _ ⟨_, ms, _, rfl, fun n hn => h2 n (List.mem_cons_of_mem _ hn), by omega, rfl, h4, rfl⟩⟩
 ·rintro e S' ⟨g, ms, u, h1, h2, h3, rfl, h4, rfl⟩
  cases ms with
  | cons m ms => cases h1
  | nil =>
   have h4 : g = gcdF 0 ns := h4
   obtain ⟨n, hn, hz⟩ := hp
   have g0 : 0 < g := by rw [h4]; exact gcdF_pos (by omega) hn hz
   have gs : sm g := sm_ints h0 h3 hn hz (by rw [h4]; exact (gcdF_dvd ns 0).2 n hn)
   (simp_arith [hx, r_tupP])
   refine (LV_map (fun d => match d with | .int n => .int (n / g) | d => d) (fun n _ => rfl) fun d K hd hK => ?_).lc fun out S2 q2 => ?_
   ·obtain ⟨m, hm, rfl⟩ := List.mem_map.mp hd
    (simp_arith [])
    exact ⟨sm_div gs (by omega), by rw [Int.fdiv_eq_ediv_of_nonneg _ h3]; exact hK⟩
   ·obtain ⟨rfl, rfl⟩ := q2
    refine ⟨sz_le (by simp; omega), ?_⟩
    (simp_arith [])
    rw [← h4] at q
    rw [List.map_map]
    rw [List.map_map] at q
    exact ⟨rfl, ⟨ns.map (· / g), by rw [List.map_map]; rfl⟩, q⟩
theorem crW_bd {rs : List Int} (rg : Rg rs) : ∀ e : Xp, exOk 2 e → ∀ c, c ∈ crW rs 2 e → ∀ z, z ∈ c → -(2 * Fb (lev e)) ≤ z ∧ z ≤ 2 * Fb (lev e) := by
 have up : ∀ {k l : Nat} {z : Int}, k ≤ l → -(2 * Fb k) ≤ z ∧ z ≤ 2 * Fb k → -(2 * Fb l) ≤ z ∧ z ≤ 2 * Fb l := fun {k l z} h hz => by
  have := Fb_mono h
  omega
 have two : ∀ {a b : Xp} {l : Nat}, exOk 2 a → exOk 2 b → lev a ≤ l → lev b ≤ l → ∀ c, c ∈ cmbV sbv (fmW rs 2 a) (fmW rs 2 b) → ∀ z, z ∈ c → -(2 * Fb l) ≤ z ∧ z ≤ 2 * Fb l := fun {a b l} oa ob la lb c hc z hz => by
  obtain ⟨x, hx, y, hy, rfl⟩ := mem_cmb.mp hc
  unfold sbv at hz
  obtain ⟨p, hp, rfl⟩ := List.mem_map.mp hz
  have hp := List.of_mem_zip (show (p.1, p.2) ∈ x.zip y from hp)
  have z1 := fm_bd rg a oa x (mem_fmW.mp hx) _ hp.1
  have z2 := fm_bd rg b ob y (mem_fmW.mp hy) _ hp.2
  have m1 := Fb_mono la
  have m2 := Fb_mono lb
  omega
 intro e
 induction e with
 | fig n => intro _ c hc; exact (nomatch hc)
 | reg n => intro _ c hc; exact (nomatch hc)
 | shr n => intro _ c hc; exact (nomatch hc)
 | tim n a ih => intro ok c hc z hz; exact up (Nat.le_succ _) (ih ok.2.2 c hc z hz)
 | byr i a ih => intro ok c hc z hz; exact up (Nat.le_succ _) (ih ok.2 c hc z hz)
 | whn i g a b ha hb =>
  intro ok c hc z hz
  have hc : c ∈ (if rs.getD i 0 < g then crW rs 2 a else crW rs 2 b) := hc
  have l1 : lev a ≤ max (lev a) (lev b) + 1 := by omega
  have l2 : lev b ≤ max (lev a) (lev b) + 1 := by omega
  split at hc
  ·exact up l1 (ha ok.2.2.2.1 c hc z hz)
  ·exact up l2 (hb ok.2.2.2.2 c hc z hz)
 | whr i g a b ha hb =>
  intro ok c hc z hz
  have hc : c ∈ crW rs 2 a ++ crW rs 2 b ++ [whV 2 i g] := hc
  have l1 : lev a ≤ max (lev a) (lev b) + 1 := by omega
  have l2 : lev b ≤ max (lev a) (lev b) + 1 := by omega
  simp only [List.mem_append, List.mem_singleton] at hc
  rcases hc with (hc | hc) | rfl
  ·exact up l1 (ha ok.2.2.2.1 c hc z hz)
  ·exact up l2 (hb ok.2.2.2.2 c hc z hz)
  ·have fb := Fb_pos (max (lev a) (lev b) + 1)
   have g1 := ok.2.1
   have g2 := ok.2.2.1
   have ki : i < 2 := ok.1
   show -(2 * Fb (max (lev a) (lev b) + 1)) ≤ z ∧ z ≤ 2 * Fb (max (lev a) (lev b) + 1)
   have : i = 0 ∨ i = 1 := by omega
   rcases this with rfl | rfl
   ·have hz : z ∈ [1000 - g, 0 - g] := hz
    simp only [List.mem_cons, List.not_mem_nil, or_false] at hz
    omega
   ·have hz : z ∈ [0 - g, 1000 - g] := hz
    simp only [List.mem_cons, List.not_mem_nil, or_false] at hz
    omega
 | sum a b ha hb =>
  intro ok c hc z hz
  have hc : c ∈ crW rs 2 a ++ crW rs 2 b := hc
  have l1 : lev a ≤ max (lev a) (lev b) + 1 := by omega
  have l2 : lev b ≤ max (lev a) (lev b) + 1 := by omega
  rcases List.mem_append.mp hc with hc | hc
  ·exact up l1 (ha ok.1 c hc z hz)
  ·exact up l2 (hb ok.2 c hc z hz)
 | les a b ha hb =>
  intro ok c hc z hz
  have hc : c ∈ crW rs 2 a ++ crW rs 2 b := hc
  have l1 : lev a ≤ max (lev a) (lev b) + 1 := by omega
  have l2 : lev b ≤ max (lev a) (lev b) + 1 := by omega
  rcases List.mem_append.mp hc with hc | hc
  ·exact up l1 (ha ok.1 c hc z hz)
  ·exact up l2 (hb ok.2 c hc z hz)
 | lst a b ha hb =>
  intro ok c hc z hz
  have hc : c ∈ crW rs 2 a ++ crW rs 2 b ++ cmbV sbv (fmW rs 2 a) (fmW rs 2 b) := hc
  have l1 : lev a ≤ max (lev a) (lev b) + 1 := by omega
  have l2 : lev b ≤ max (lev a) (lev b) + 1 := by omega
  rcases List.mem_append.mp hc with hc | hc
  ·rcases List.mem_append.mp hc with hc | hc
   ·exact up l1 (ha ok.1 c hc z hz)
   ·exact up l2 (hb ok.2 c hc z hz)
  ·exact two ok.1 ok.2 l1 l2 c hc z hz
 | mst a b ha hb =>
  intro ok c hc z hz
  have hc : c ∈ crW rs 2 a ++ crW rs 2 b ++ cmbV sbv (fmW rs 2 a) (fmW rs 2 b) := hc
  have l1 : lev a ≤ max (lev a) (lev b) + 1 := by omega
  have l2 : lev b ≤ max (lev a) (lev b) + 1 := by omega
  rcases List.mem_append.mp hc with hc | hc
  ·rcases List.mem_append.mp hc with hc | hc
   ·exact up l1 (ha ok.1 c hc z hz)
   ·exact up l2 (hb ok.2 c hc z hz)
  ·exact two ok.1 ok.2 l1 l2 c hc z hz
theorem crW_fm {rs : List Int} (rg : Rg rs) {e : Xp} (ok : exOk 2 e) (hl : lev e ≤ 6) {c : Vc} (hc : c ∈ crW rs 2 e) : Fm2 c := by
 refine ⟨crW_len hc, fun z hz => ?_⟩
 have h1 := crW_bd rg e ok c hc z hz
 have h2 := Fb_mono hl
 have h3 : 2 * Fb 6 ≤ 100000000000000000000000000000 := by decide +kernel
 omega
structure HsP (ms : List Mb) : Prop where
 ok : mbOkL ms
 tl : mbTL ms < 6
 nl : mbNL ms ≤ 100000
 on : ∀ o, o ∈ flL ms → OkO 2 o ∧ ∀ e, e ∈ o.1.stakes → lev e ≤ 6 ∧ nfX e ≤ 300 ∧ ncrX e ≤ 2000
 ln : (flL ms).length ≤ 20
 fc : ∀ o, o ∈ flL ms → bt 70 (facO o)
def stF (o : Dbt × One) : List Vc := o.1.stakes.flatMap (crW o.2.rs 2)
def fmF (ms : List Mb) : List Vc := (flL ms).flatMap stF
theorem flat_le {α β : Type} {f : α → List β} {k : Nat} : ∀ {xs : List α}, (∀ x, x ∈ xs → (f x).length ≤ k) → (xs.flatMap f).length ≤ k * xs.length
 | [], _ => Nat.zero_le _
 | x :: xs, h => by
  rw [List.flatMap_cons, List.length_append, List.length_cons, Nat.mul_add, Nat.mul_one]
  have h1 := h x (List.mem_cons_self ..)
  have h2 := flat_le (xs := xs) fun z hz => h z (List.mem_cons_of_mem _ hz)
  omega
theorem HsP.st (H : HsP ms) {o : Dbt × One} (ho : o ∈ flL ms) : (stF o).length ≤ 4000 := by
 obtain ⟨h1, h2⟩ := H.on o ho
 have := flat_le (f := crW o.2.rs 2) (k := 2000) (xs := o.1.stakes) fun e he => Nat.le_trans (crW_cnt _ _ e) (h2 e he).2.2
 rw [h1.sl] at this
 exact this
theorem HsP.len {ms : List Mb} (H : HsP ms) : (fmF ms).length ≤ 80000 := by
 have h := flat_le (f := stF) (k := 4000) (xs := flL ms) fun o ho => H.st ho
 have := H.ln
 unfold fmF
 omega
theorem HsP.fm {ms : List Mb} (H : HsP ms) : ∀ c, c ∈ fmF ms → Fm2 c := fun c hc => by
 obtain ⟨o, ho, hc⟩ := List.mem_flatMap.mp hc
 obtain ⟨e, he, hc⟩ := List.mem_flatMap.mp hc
 obtain ⟨h1, h2⟩ := H.on o ho
 exact crW_fm h1.rg (h1.st e he).1 (h2 e he).1 hc
theorem mem_flat_app {α β : Type} {f : α → List β} (xs : List α) (x : α) : (xs ++ [x]).flatMap f = xs.flatMap f ++ f x := by
 rw [List.flatMap_append]
 simp
theorem dtAt_last {T : Sto} {ks : List (List Key)} {vs : List D} (h : ks.length = vs.length) : dtAt (T ++ [.dt ks vs]) (.dref T.length) = some (ks, vs) := by
 unfold dtAt
 have e : (T ++ [Ob.dt ks vs])[T.length]? = some (.dt ks vs) := by simp
 simp only [e]
 rw [if_pos h]
theorem dPt_bare (qs : List (Int × Int)) : bareL (qs.map dPt) = true := bareL_iff.mpr fun d hd => by
 obtain ⟨q, _, rfl⟩ := List.mem_map.mp hd
 rfl
theorem CV_pointsW {ms : List Mb} (H : HsP ms) {X : List Vc} (hX : X.length ≤ 100000) (hF : ∀ c, c ∈ X → Fm2 c) {S : Sto} {Q : D → Sto → Prop} (q : Q (.lst ((sortP (ptF (X ++ fmF ms))).map dPt)) S) : CV c_pointsW [hsD 2 ms, .lst (X.map vcD)] S Q := by
 have hfl := H.len
 have hfm := H.fm
 refine CV_plain rfl ?_
 unfold b_pointsW hsD
 refine SV_cut fun G hG => ?_
 (simp_arith! [])
 refine hG _ _ ?_
 clear hG G
 refine SV_cut fun G hG => ?_
 (simp_arith! [])
 refine CV_lones 6 ms H.ok H.tl H.nl ?_
 (simp_arith! [])
 refine SV_forI (fun ds e' S' => ∃ (w3 w5 : Option D) (done rest : List (Dbt × One)), flL ms = done ++ rest ∧ ds = rest.map oqD ∧ e' = [some (.tup [.int 2, .tup (mbL ms)]), some (.lst (X.map vcD)), some (.ref S.length), w3, none, w5, none, none] ∧ S' = S ++ [.lst ((X ++ done.flatMap stF).map vcD)])
  ⟨none, none, [], flL ms, rfl, rfl, rfl, by rw [List.flatMap_nil, List.append_nil]⟩ ?_ ?_
 ·rintro d r e S' K ⟨w3, w5, done, rest, e1, e2, rfl, rfl⟩ hK
  obtain ⟨o, rest, rfl, rfl, rfl⟩ : ∃ x rest', rest = x :: rest' ∧ d = oqD x ∧ r = rest'.map oqD := by
   cases rest with
   | nil => cases e2
   | cons x rest => cases e2; exact ⟨x, rest, rfl, rfl, rfl⟩
  have ho : o ∈ flL ms := by rw [e1]; simp
  obtain ⟨oo, os⟩ := H.on o ho
  have bo := H.st ho
  have ll : (done.flatMap stF).length + (stF o).length ≤ 80000 := by
   have : (fmF ms).length = (done.flatMap stF).length + ((stF o).length + (rest.flatMap stF).length) := by
    unfold fmF
    rw [e1, List.flatMap_append, List.length_append, List.flatMap_cons, List.length_append]
   omega
  have x1 : ∀ T : Sto, fIx T (oqD o) (.int 1) = some (dbD o.1) := fun _ => rfl
  have x2 : ∀ T : Sto, fIx T (dbD o.1) (.int 3) = some (.tup (o.1.stakes.map exD)) := fun _ => rfl
  have x3 : ∀ T : Sto, fIx T (oqD o) (.int 2) = some (.tup (o.2.rs.map D.int)) := fun _ => rfl
  (simp_arith! [x1, x2])
  refine SV_forI (fun ds e' S' => ∃ (w5 : Option D) (don2 res2 : List Xp), o.1.stakes = don2 ++ res2 ∧ ds = res2.map exD ∧ e' = [some (.tup [.int 2, .tup (mbL ms)]), some (.lst (X.map vcD)), some (.ref S.length), some (oqD o), none, w5, none, none] ∧ S' = S ++ [.lst ((X ++ done.flatMap stF ++ don2.flatMap (crW o.2.rs 2)).map vcD)])
   ⟨w5, [], o.1.stakes, rfl, rfl, rfl, by rw [List.flatMap_nil, List.append_nil]⟩ ?_ ?_
  ·rintro d r e S' K2 ⟨w5, don2, res2, f1, f2, rfl, rfl⟩ hK2
   obtain ⟨x, res2, rfl, rfl, rfl⟩ : ∃ x rest', res2 = x :: rest' ∧ d = exD x ∧ r = rest'.map exD := by
    cases res2 with
    | nil => cases f2
    | cons x rest => cases f2; exact ⟨x, rest, rfl, rfl, rfl⟩
   have hx : x ∈ o.1.stakes := by rw [f1]; simp
   obtain ⟨l1, l2, l3⟩ := os x hx
   have sl : (don2.flatMap (crW o.2.rs 2)).length + (crW o.2.rs 2 x).length ≤ (stF o).length := by
    unfold stF
    rw [f1, List.flatMap_append, List.length_append, List.flatMap_cons, List.length_append]
    omega
   (simp_arith! [x3])
   refine CV_crossW oo.rg 9 x (oo.st x hx).1 (by omega) (by omega) (by omega) (by omega) (by omega) ?_
   (simp_arith! [])
   refine ⟨_, box_last, ex_extend.mpr ⟨sz_le (by rw [List.length_map, List.length_map, List.length_append, List.length_append]; omega), ?_⟩⟩
   refine ⟨(by intro n h; cases h), hK2 _ _ ⟨_, don2 ++ [x], res2, by rw [f1]; simp, rfl, rfl, ?_⟩⟩
   rw [set_last, ← List.map_append, mem_flat_app, List.append_assoc _ _ (crW o.2.rs 2 x)]
  ·rintro e S' ⟨w5, don2, res2, f1, f2, rfl, rfl⟩
   have : res2 = [] := by cases res2 with
    | nil => rfl
    | cons z r => cases f2
   subst this
   rw [List.append_nil] at f1
   refine ⟨(by intro n h; cases h), hK _ _ ⟨_, _, done ++ [o], rest, by rw [e1]; simp, rfl, rfl, ?_⟩⟩
   rw [mem_flat_app, ← f1, List.append_assoc]
   rfl
 rintro e S' ⟨w3, w5, done, rest, f1, f2, rfl, rfl⟩
 have : rest = [] := by cases rest with
  | nil => rfl
  | cons z r => cases f2
 subst this
 rw [List.append_nil] at f1
 rw [← f1]
 (simp_arith! [])
 refine hG _ _ ?_
 clear hG G
 refine SV_cut fun G hG => ?_
 (simp_arith! [EV_dbt, EV_tupP])
 refine ⟨([kPt (1, 0), kPt (0, 1)], [.bl true, .bl true]), rfl, by decide, by decide, ?_⟩
 refine hG _ _ ?_
 clear hG G
 generalize hT : S ++ [Ob.lst (List.map vcD (X ++ List.flatMap stF (flL ms)))] = T
 have bx : boxAt T S.length = some (List.map vcD (X ++ List.flatMap stF (flL ms))) := by rw [← hT]; exact box_last
 have bT : ∀ o : Ob, boxAt (T ++ [o]) S.length = some (List.map vcD (X ++ List.flatMap stF (flL ms))) := fun o => by
  rw [← bx]
  unfold boxAt
  rw [List.getElem?_append_left (by rw [← hT]; simp)]
 have tl : T.length = S.length + 1 := by rw [← hT]; simp
 have ff : ∀ c, c ∈ X ++ fmF ms → Fm2 c := fun c hc => by
  rcases List.mem_append.mp hc with hc | hc
  ·exact hF c hc
  ·exact hfm c hc
 refine SV_cut fun G hG => ?_
 (simp_arith! [IV_seq, bT])
 refine SV_forI (fun ds e' S' => ∃ (w6 w7 : Option D) (ps : List (Int × Int)) (vs : List D) (done rest : List Vc), X ++ fmF ms = done ++ rest ∧ ds = rest.map vcD ∧ ps = done.foldl ptA [(1, 0), (0, 1)] ∧ vs.length = ps.length ∧ ps.length ≤ done.length + 2 ∧ e' = [some (.tup [.int 2, .tup (mbL ms)]), some (.lst (X.map vcD)), some (.ref S.length), w3, some (.dref T.length), w5, w6, w7] ∧ S' = T ++ [.dt (ps.map kPt) vs])
  ⟨none, none, [(1, 0), (0, 1)], [.bl true, .bl true], [], X ++ fmF ms, rfl, rfl, rfl, rfl, Nat.le_refl _, rfl, rfl⟩ ?_ ?_
 ·rintro d r e S' K ⟨w6, w7, ps, vs, done, rest, e1, e2, ep, hv, hl, rfl, rfl⟩ hK
  obtain ⟨c, rest, rfl, rfl, rfl⟩ : ∃ x rest', rest = x :: rest' ∧ d = vcD x ∧ r = rest'.map vcD := by
   cases rest with
   | nil => cases e2
   | cons x rest => cases e2; exact ⟨x, rest, rfl, rfl, rfl⟩
  have hc := ff c (by rw [e1]; simp)
  have dl : done.length ≤ 180000 := by
   have := congrArg List.length e1
   rw [List.length_append, List.length_append, List.length_cons] at this
   omega
  obtain ⟨a, b, rfl, ha, hb⟩ := two_of hc
  have sa : sm a := sm_k (by omega)
  have sb : sm b := sm_k (by omega)
  have stp : ∀ ps', ps' = ptA ps [a, b] → ps' = (done ++ [[a, b]]).foldl ptA [(1, 0), (0, 1)] := fun ps' h => by
   rw [h, List.foldl_append, ← ep]
   rfl
  have e0 : ptA ps [a, b] = if a * b < 0 then stG ps (lowP b.natAbs a.natAbs) else ps := rfl
  have vc2 : vcD [a, b] = .tup [.int a, .int b] := rfl
  (simp_arith! [vc2])
  refine ⟨sm_mul sa sb, ?_⟩
  by_cases hn : a * b < 0
  ·rw [if_pos hn]
   (simp_arith! [SV_dputT])
   obtain ⟨p1, p2⟩ := nabs_pos hn
   have ab : (if b < 0 then -b else b) = (b.natAbs : Int) := by split <;> omega
   have aa : (if a < 0 then -a else a) = (a.natAbs : Int) := by split <;> omega
   rw [ab, aa]
   have hb400 : ∀ z : Nat, z ≤ 100000000000000000000000000000 → (z : Int) ≤ ((10 ^ 400 : Nat) : Int) := fun z hz => by
    have e : (100000000000000000000000000000 : Nat) ≤ 10 ^ 400 := by decide +kernel
    exact Int.ofNat_le.mpr (Nat.le_trans hz e)
   refine CV_llowestP (ns := [(b.natAbs : Int), (a.natAbs : Int)]) rfl (fun z hz => ?_) ⟨_, List.mem_cons_self .., by omega⟩ (by simp) ?_
   ·simp only [List.mem_cons, List.not_mem_nil, or_false] at hz
    rcases hz with rfl | rfl
    ·exact ⟨by omega, hb400 _ hb⟩
    ·exact ⟨by omega, hb400 _ ha⟩
   have hkey : keyT (.tag 1000 (([(b.natAbs : Int), (a.natAbs : Int)].map (· / gcdF 0 [(b.natAbs : Int), (a.natAbs : Int)])).map D.int)) = some (kPt (lowP b.natAbs a.natAbs)) := by
    rw [gcdF_pair]
    rfl
   refine ⟨_, rfl, (ps.map kPt, vs), dtAt_last (by rw [List.length_map, hv]), _, hkey, sz_le (by rw [List.length_map]; omega), ?_⟩
   have e3 : ptA ps [a, b] = stG ps (lowP b.natAbs a.natAbs) := by rw [e0, if_pos hn]
   refine ⟨fun n hn => ?_, hK _ _ ⟨_, _, ptA ps [a, b], stW (ps.map kPt) vs (kPt (lowP b.natAbs a.natAbs)) (.bl true), done ++ [[a, b]], rest, by rw [e1]; simp, rfl, stp _ rfl, ?_, ?_, rfl, ?_⟩⟩
   ·rw [List.mem_singleton.mp hn, set_last, List.getElem?_append_left (by omega), List.getElem?_append_left (by omega)]
   ·rw [st_lenG (by rw [List.length_map, hv]), map_stG kPt_inj, List.length_map, e3]
   ·rw [e3]
    have : (stG ps (lowP b.natAbs a.natAbs)).length ≤ ps.length + 1 := by
     unfold stG
     split
     ·omega
     ·simp
    rw [List.length_append, List.length_singleton]
    omega
   ·rw [set_last, map_stG kPt_inj, e3]
  ·rw [if_neg hn]
   (simp_arith! [])
   have e3 : ptA ps [a, b] = ps := by rw [e0, if_neg hn]
   refine ⟨fun n hn => ?_, hK _ _ ⟨_, _, ps, vs, done ++ [[a, b]], rest, by rw [e1]; simp, rfl, stp _ e3.symm, hv, by rw [List.length_append, List.length_singleton]; omega, rfl, rfl⟩⟩
   rw [List.mem_singleton.mp hn, List.getElem?_append_left (by omega), List.getElem?_append_left (by omega)]
 ·rintro e S' ⟨w6, w7, ps, vs, done, rest, f1, f2, ep, hv, hl, rfl, rfl⟩
  have : rest = [] := by cases rest with
   | nil => rfl
   | cons z r => cases f2
  subst this
  rw [List.append_nil] at f1
  rw [← f1] at ep hl
  have ep : ps = ptF (X ++ fmF ms) := ep
  subst ep
  obtain ⟨R, nd, pq⟩ := ptF_row ff
  show SV G _ _ _
  refine hG _ _ ?_
  clear hG G
  (simp_arith! [AV_sortT])
  refine ⟨((ptF (X ++ fmF ms)).map kPt, vs), dtAt_last (by rw [List.length_map, hv]), ptF (X ++ fmF ms), ptsOf_map fun z hz => (pq z hz).ok, nd, sz_le ?_, ?_⟩
  ·rw [List.length_append] at hl
   omega
  ·rw [← hT, List.append_assoc]
   exact ⟨⟨_, rfl⟩, .inl ⟨dPt_bare _, q⟩⟩
theorem CV_betweenW {p q : Int × Int} (hp : Pq p) (hq : Pq q) {S : Sto} {Q : D → Sto → Prop} (k : Q (.lst [vcD (nrV p q), vcD (frV p q)]) S) : CV c_betweenW [dPt p, dPt q] S Q := by
 have h1 := hp.a0
 have h2 := hp.b0
 have h3 := hp.am
 have h4 := hp.bm
 have k1 := hq.a0
 have k2 := hq.b0
 have k3 := hq.am
 have k4 := hq.bm
 refine CV_plain rfl ?_
 unfold b_betweenW
 have zv : ∀ U : Sto, zipV U (dPt p) (dPt q) = some ([D.tup [.int p.1, .int q.1], D.tup [.int p.2, .int q.2]], []) := fun U => rfl
 have s2 : sm 2 := sm_k (by decide)
 have m1 : sm p.1 := sm_k (by omega)
 have m2 : sm p.2 := sm_k (by omega)
 have m3 : sm q.1 := sm_k (by omega)
 have m4 : sm q.2 := sm_k (by omega)
 (simp_arith! [IV_zip, zv, LV_cons, LV_nil])
 exact ⟨sm_mul s2 m1, sm_mul s2 m2, sm_mul s2 m3, sm_mul s2 m4, RtP_same rfl k⟩
def flT : Tre → List Vc
 | .sg _ => []
 | .ct f a b => f :: (flT a ++ flT b)
section
variable {PG : Nat → List Vc → Prop} {kk n0 : Nat} {ms : List Mb}
end
def cB : Xp → Int
 | .fig _ => 1000
 | .reg _ => 1000
 | .shr _ => 1000
 | .tim _ a => 1000 * cB a
 | .byr _ a => 1000 * cB a
 | .whn _ _ a b => max (cB a) (cB b)
 | .whr _ _ a b => max (cB a) (cB b)
 | .sum a b => cB a + cB b
 | .les a b => cB a + cB b
 | .lst a b => max (cB a) (cB b)
 | .mst a b => max (cB a) (cB b)
section
variable {PG : Nat → List Vc → Prop} {kk n0 : Nat} {ms : List Mb}
end
structure Hw (ms : List Mb) : Prop where
 ok : mbOkL ms
 tl : mbTL ms ≤ 5
 nl : mbNL ms ≤ 100
 fi : ∀ q, q ∈ flL ms → Fine 2 13 q
 st : ∀ q, q ∈ flL ms → ∀ e, e ∈ q.1.stakes → szX e ≤ 7 ∧ cB e ≤ 2000000
 ln : (flL ms).length ≤ 3
structure TrW (ms : List Mb) (t : Tre) : Prop where
 ok : TreOk 2 t
 dp : depT t ≤ 40
 lv : lvT t ≤ 144
 fm : ∀ f, f ∈ flT t → Fm2 f
 an : ∀ x, Px 2 x → (plL 2 ms x).getD (ansT t x) 0 = maxL (plL 2 ms x)
inductive BadN : D → Prop
 | nt {d : D} (h : tupB d = false) (b : bare d = true) : BadN d
 | len {ds : List D} (h : ds.length ≠ 2) (h4 : ds.length ≠ 4) (b : bareL ds = true) : BadN (.tup ds)
 | wd {w : Str} {y : D} (h : w ≠ "sign") (b : bare y = true) : BadN (.tup [.str w, y])
 | sg {v : D} (h : isW 0 1 v = false) (b : bare v = true) : BadN (.tup [.str "sign", v])
 | fl {ds : List D} {u v : D} (b : bareL ds = true) (bu : bare u = true) (bv : bare v = true) : BadN (.tup [.str "cut", .lst ds, u, v])
 | f3 {zs : List Int} {u v : D} (h : zs.length ≠ 2) (bu : bare u = true) (bv : bare v = true) : BadN (.tup [.str "cut", .tup (zs.map D.int), u, v])
 | fb {b : Bool} {c : Int} {u v : D} (bu : bare u = true) (bv : bare v = true) : BadN (.tup [.str "cut", .tup [.bl b, .int c], u, v])
inductive SpT : D → Prop
 | here {d : D} (h : BadN d) : SpT d
 | lo {f : Vc} {d : D} {t : Tre} (hf : Fm 2 f) (h : SpT d) (ht : TreOk 2 t) : SpT (.tup [.str "cut", vcD f, d, trD t])
 | hi {f : Vc} {d : D} {t : Tre} (hf : Fm 2 f) (h : SpT d) (ht : TreOk 2 t) : SpT (.tup [.str "cut", vcD f, trD t, d])
end Pv
namespace L2
open PySem PySem.Spec PyProof.Rows
theorem pairsT_of {X : Cx} {pins : List (Addr × Obj)} {σ : St} {H : Hp} {s : Shared} (I : Inv X pins σ H s) : ∀ {ps : List Addr} {kas : List (List Key × Addr × V)}, Paired (fun p x => SqT X.K H p [.ref x.2.1, x.2.2]) ps kas →
  (∀ x ∈ kas, H x.2.1 = some (.tup (x.1.map kV))) → ∃ rs : List (List Key × Addr × Value), KT H (kas.map fun x => (x.1, x.2.2)) rs ∧ rs.map (·.1) = kas.map (·.1) ∧ rs.length = ps.length ∧
   (∀ (j : Nat) r, rs[j]? = some r → ∃ b, ps[j]? = some b ∧ IsTup s.heap b #[.ref r.2.1, r.2.2]) ∧ ∀ x ∈ rs, (tupleKind (mixKind X.prog X.w)).is s.heap x.1 x.2.1
 | _, _, .nil, _ => ⟨[], .nil, rfl, rfl, fun j r e => by simp at e, fun x hx => nomatch hx⟩
 | _, _, .cons (a := p) (b := x) h t, hk => by
  obtain ⟨rs, r, e, hl, hp, hi⟩ := pairsT_of I t fun y hy => hk y (List.mem_cons_of_mem _ hy)
  have hx := hk x (List.mem_cons_self ..)
  obtain ⟨its, rv, ht, _⟩ := I.tuple h
  obtain ⟨u, y, ei, ru, ry⟩ := vals2 rv
  subst ei
  have ru : u = .ref x.2.1 := ru
  subst ru
  refine ⟨(x.1, x.2.1, y) :: rs, .cons ⟨rfl, hx, ry⟩ r, by rw [List.map_cons, List.map_cons, e], by rw [List.length_cons, List.length_cons, hl], fun j q e => ?_, fun z hz => ?_⟩
  ·cases j with
   | zero =>
    have e' : (x.1, x.2.1, y) = q := Option.some.inj e
    subst e'
    exact ⟨p, rfl, ht⟩
   | succ j =>
    obtain ⟨b, e1, e2⟩ := hp j q (by simpa using e)
    exact ⟨b, by simpa using e1, e2⟩
  ·rcases List.mem_cons.mp hz with rfl | hz
   ·exact key_of I.hok hx
   ·exact hi z hz
theorem call_dictPT {X : Cx} (hcalm : X.calm = true) (hu : X.A.units + 8 < cLine) : CallR X (.type "dict") (fun xs H Q => ∃ (a : Addr) (ps : List Addr) (kas : List (List Key × Addr × V)), xs = [.ref a] ∧ SqL X.K H a (ps.map V.ref) ∧
  Paired (fun p x => SqT X.K H p [.ref x.2.1, x.2.2]) ps kas ∧ (∀ x ∈ kas, H x.2.1 = some (.tup (x.1.map kV))) ∧ (kas.map (·.1)).Nodup ∧ ∀ p, H p = none → Q (.ref p) (upd H p (.dT (kas.map fun x => (x.1, x.2.2))))) := by
 intro pins s σ H xs us Q I r q
 obtain ⟨a, ps, kas, ex, hq, hp, hk, hnd, q⟩ := q
 subst ex
 obtain ⟨u, eu, rx⟩ := vals1 r
 subst eu
 cases rx
 obtain ⟨its, rv, pl, hz⟩ := I.list hq
 have ei := refs_at rv
 subst ei
 rw [List.length_map] at hz
 obtain ⟨rs, rel, ek, hl, hpr, hi⟩ := pairsT_of I hp hk
 obtain ⟨o, n, ho, hc, hd, hdat⟩ := pl
 have st : (tupleKind (mixKind X.prog X.w)).Stays := tupleKind_stays
 refine call_dict_pairsH (knd := tupleKind (mixKind X.prog X.w)) (ps := rs) (PairArg.list a (ps.map Value.ref).toArray (fun j => ps.getD j 0) (rs.map fun r => (Value.ref r.2.1, r.2.2))) (I.ok.hd hcalm) ?_ ⟨⟨o, n, ho, hc, hd, hdat⟩, by simp [hl], fun j k v e => ?_⟩ ⟨by simp, fun i key v e => ?_⟩ (fun h' hk' x hx => ?_) (by rw [List.length_map, hl]; exact hz) fun h' tk hd' k => ?_
 ·show X.A.units + 1 + 1 < cLine
  omega
 ·obtain ⟨r0, e1, e2⟩ : ∃ r0, rs[j]? = some r0 ∧ (Value.ref r0.2.1, r0.2.2) = (k, v) := by simpa [List.getElem?_map] using e
  cases e2
  obtain ⟨b, e3, e4⟩ := hpr j r0 e1
  have eb : ps.getD j 0 = b := by rw [List.getD_eq_getElem?_getD, e3]; rfl
  show (ps.map Value.ref).toArray[j]? = some (.ref (ps.getD j 0)) ∧ PairAt s.heap (ps.getD j 0) _ _
  rw [eb]
  exact ⟨by simp [e3], .inl e4⟩
 ·obtain ⟨r0, e1, e2⟩ : ∃ r0, rs[i]? = some r0 ∧ (Value.ref r0.2.1, r0.2.2) = (key, v) := by simpa [PairRel, List.getElem?_map] using e
  cases e2
  exact ⟨r0.1, r0.2.1, e1, rfl⟩
 ·exact st.stays (fun b o _ _ e _ => hk' b o (Nat.ne_of_lt (Heap.lt_size e)) (fun z => nomatch z) e) (hi x hx)
 ·rw [storedAllH_nil_of_nodup _ (by rw [ek]; exact hnd)] at hd'
  have hm : (s.heap.objs.size == sysModules) = false := beq_eq_false_iff_ne.mpr (Nat.ne_of_gt I.big)
  have fr : H s.heap.objs.size = none := I.hok.fresh (Nat.le_refl _)
  obtain ⟨o2, es, ep, h1, h2, h3, h4, _, h5⟩ := hd'
  refine ⟨.ref s.heap.objs.size, upd H s.heap.objs.size (.dT (kas.map fun x => (x.1, x.2.2))), I.laid (t' := tk) (fun b o e => k b o (fun z => nomatch z) e) (Nat.le_refl _) (show ObjOk X.prog X.w _ _ _ (.dT (kas.map fun x => (x.1, x.2.2))) from ⟨?_, hm, rs, rel.keeps fun c ys ec => ?_, o2, es, ep, h1, h2, h3, h4, h5⟩), rfl, q _ fr⟩
  ·have : (kas.map fun x => (x.1, x.2.2)).length = ps.length := by rw [rel.length, hl]
   rw [this]
   exact hz
  ·rw [upd_ne (fun z => by rw [z, fr] at ec; cases ec)]
   exact ec
end L2
namespace Pv
open PySem PySem.Spec PyProof.Rows L2
def prKV : List D → Option (List (List Key) × List D)
 | [] => some ([], [])
 | .tup [y, v] :: r => (keyT y).bind fun k => (prKV r).map fun q => (k :: q.1, v :: q.2)
 | _ => none
theorem prKV_rep {c : C} {m : M} : ∀ {ds : List D} {q : List (List Key) × List D} {ys : List V}, prKV ds = some q → RepL c m ds ys →
  ∃ (ps : List Addr) (kas : List (List Key × Addr × V)), ys = ps.map V.ref ∧ Paired (fun p x => SqT c.K m.H p [.ref x.2.1, x.2.2]) ps kas ∧ kas.map (·.1) = q.1 ∧ RepL c m q.2 (kas.map fun x : List Key × Addr × V => x.2.2) ∧ ∀ x ∈ kas, m.H x.2.1 = some (.tup (x.1.map kV))
 | [], _, ys, h, r => by
  cases h
  cases (show ys = [] from r)
  exact ⟨[], [], rfl, .nil, rfl, rfl, fun x hx => (nomatch hx)⟩
 | d :: ds, _, ys, h, r => by
  obtain ⟨y0, v0, rfl⟩ : ∃ y v, d = .tup [y, v] := by
   cases d <;> first | cases h | skip
   rename_i l
   match l, h with
   | [a, b], _ => exact ⟨a, b, rfl⟩
  obtain ⟨k, h1, h2⟩ := Option.bind_eq_some_iff.mp (show (keyT y0).bind _ = _ from h)
  obtain ⟨q, h3, rfl⟩ := Option.map_eq_some_iff.mp h2
  obtain ⟨u, w, rfl, r1, r2⟩ := r
  obtain ⟨a, xs, rfl, hq, r3⟩ := r1
  obtain ⟨uy, w1, rfl, r4, r5⟩ := r3
  obtain ⟨uv, w2, rfl, r6, r7⟩ := r5
  cases (show w2 = [] from r7)
  obtain ⟨ps, kas, rfl, e1, e2, e3, e4⟩ := prKV_rep h3 r2
  obtain ⟨b, rfl, hb⟩ := keyT_rep h1 r4
  refine ⟨a :: ps, (k, b, uv) :: kas, rfl, .cons hq e1, by rw [List.map_cons, e2], ⟨uv, _, rfl, r6, e3⟩, fun x hx => ?_⟩
  rcases List.mem_cons.mp hx with rfl | hx
  ·exact hb
  ·exact e4 x hx
noncomputable def eDPr (f : EX) : EX := fun e S => (f e S).bind fun p => (listOf p.2 p.1).bind fun ds => (prKV ds).bind fun q => if q.1.Nodup then some (.dref p.2.length, p.2 ++ [.dt q.1 q.2]) else none
section
variable {X : Cx} {a : Expr} {fa : EX} {p pos : Pos}
theorem boot_dict : bootBuiltins "dict" = some (.type "dict") := by decide +kernel
theorem ej_dpr (hu : X.A.units + 64 < cLine) (hg : Gl X "dict") (hm : X.mg "dict" = none) (ha : EJ X a fa) (hc : X.calm = true := by rfl)
  (na : starEach [a] X.env = (false, eval a X.env) :: starEach [] X.env := by rfl) :
  EJ X (.Call (.Name "dict" p) [a] [] pos) (eDPr fa) :=
 pe_wk (pe_callTy (call_dictPT hc (by omega)) hg hm boot_dict (pa_cons ha pa_nil na) (he := na)) fun σ H Q ⟨Z, m, env, v, S', e, s, er, hf, q⟩ => by
  unfold eDPr at hf
  obtain ⟨⟨x, S1⟩, h1, h⟩ := Option.bind_eq_some_iff.mp hf
  obtain ⟨ds, h2, h⟩ := Option.bind_eq_some_iff.mp h
  obtain ⟨q0, h3, h⟩ := Option.bind_eq_some_iff.mp h
  obtain ⟨hnd, h⟩ := ite_some h
  cases h
  refine ⟨Z, m, env, x, _, e, s, er, h1, fun m1 vx e1 t1 rx => ?_⟩
  obtain ⟨l, ys, rfl, hs, rl⟩ := t1.si.list rx (by rw [e1]; exact h2)
  obtain ⟨ps, kas, rfl, k1, k2, k3, k4⟩ := prKV_rep h3 rl
  refine ⟨l, ps, kas, rfl, hs, k1, k4, by rw [k2]; exact hnd, fun p2 hp2 => ?_⟩
  have tb : Tr ⟨X.K, Z⟩ m1 (m1.boxO p2 (.dt q0.1 q0.2) (kas.map fun x : List Key × Addr × V => x.2.2)) := Tr.boxO (o := .dt q0.1 q0.2) (xs := kas.map fun x : List Key × Addr × V => x.2.2) t1.si hp2 k3
  have qq := q (m1.boxO p2 (.dt q0.1 q0.2) (kas.map fun x : List Key × Addr × V => x.2.2)) (.ref p2) (by show m1.S ++ _ = _; rw [e1]) (t1.trans s tb) ⟨⟨.dt q0.1 q0.2, by
   show (m1.S ++ [Ob.dt q0.1 q0.2])[S1.length]? = _
   rw [e1]
   simp, .inr rfl⟩, by
   show V.ref p2 = V.ref (if S1.length = m1.S.length then p2 else m1.r S1.length)
   rw [e1, if_pos rfl]⟩
  have e : (m1.boxO p2 (.dt q0.1 q0.2) (kas.map fun x : List Key × Addr × V => x.2.2)).H = upd m1.H p2 (.dT (kas.map fun x => (x.1, x.2.2))) := by
   show upd m1.H p2 (.dT (q0.1.zip (kas.map fun x : List Key × Addr × V => x.2.2))) = _
   rw [← k2, zip_map_pair]
  rw [e] at qq
  exact qq
end
theorem EV_dpr {f : EX} {e : En} {S : Sto} {Q : D → Sto → Prop} : EV (eDPr f) e S Q ↔ EV f e S fun x S1 => ∃ ds q, listOf S1 x = some ds ∧ prKV ds = some q ∧ q.1.Nodup ∧ Q (.dref S1.length) (S1 ++ [.dt q.1 q.2]) := by
 unfold EV eDPr
 constructor
 ·rintro ⟨v, S', h, q⟩
  obtain ⟨⟨x, S1⟩, q1, h⟩ := Option.bind_eq_some_iff.mp h
  obtain ⟨ds, h2, h⟩ := Option.bind_eq_some_iff.mp h
  obtain ⟨q0, h3, h⟩ := Option.bind_eq_some_iff.mp h
  obtain ⟨hz, h⟩ := ite_some h
  cases h
  exact ⟨x, _, q1, ds, q0, h2, h3, hz, q⟩
 ·rintro ⟨x, S1, q1, ds, q0, h2, h3, hz, q⟩
  exact ⟨_, _, by rw [q1]; show (listOf S1 x).bind _ = _; rw [h2]; show (prKV ds).bind _ = _; rw [h3]; show (if _ then _ else _) = _; rw [if_pos hz], q⟩
end Pv
namespace L2
open PySem PySem.Spec PyProof.Rows
def unitK : List (List (List Key)) := [[[.inl 0, .inl 1], [.inl 1, .inl 0]], [[.inl 0, .inl 0, .inl 1], [.inl 0, .inl 1, .inl 0], [.inl 1, .inl 0, .inl 0]]]
theorem unit_hash {P : Program} {w : World} {ks : List (List Key)} (h : ks ∈ unitK) : (ks.map fun k => (tupleKind (mixKind P w)).hash k).Nodup := by
 unfold unitK at h
 simp only [List.mem_cons, List.not_mem_nil, or_false] at h
 rcases h with rfl | rfl
 ·have e : ([[.inl 0, .inl 1], [.inl 1, .inl 0]] : List (List Key)).map (fun k => (tupleKind (mixKind P w)).hash k) = [reduceHash (Builtin.Tuple.tupleHashOf [hashInt 0, hashInt 1]), reduceHash (Builtin.Tuple.tupleHashOf [hashInt 1, hashInt 0])] := by
   simp only [List.map, tupleKind, tupleKeyHash, mixKind, keyH]
  rw [e]
  decide +kernel
 ·have e : ([[.inl 0, .inl 0, .inl 1], [.inl 0, .inl 1, .inl 0], [.inl 1, .inl 0, .inl 0]] : List (List Key)).map (fun k => (tupleKind (mixKind P w)).hash k) = [reduceHash (Builtin.Tuple.tupleHashOf [hashInt 0, hashInt 0, hashInt 1]), reduceHash (Builtin.Tuple.tupleHashOf [hashInt 0, hashInt 1, hashInt 0]), reduceHash (Builtin.Tuple.tupleHashOf [hashInt 1, hashInt 0, hashInt 0])] := by
   simp only [List.map, tupleKind, tupleKeyHash, mixKind, keyH]
  rw [e]
  decide +kernel
section
variable {X : Cx} {pins : List (Addr × Obj)} {σ : St} {H : Hp} {s : Shared} {a b : Addr} {kvs more : List (List Key × V)} {A : Around} {E : Value → Shared → Prop}
theorem KT.fst {H : Hp} : ∀ {kvs : List (List Key × V)} {xs : List (List Key × Addr × Value)}, KT H kvs xs → xs.map (·.1) = kvs.map (·.1)
 | _, _, .nil => rfl
 | _, _, .cons h t => by rw [List.map_cons, List.map_cons, KT.fst t, h.1]
theorem KT.app {H : Hp} : ∀ {kvs more : List (List Key × V)} {xs ys : List (List Key × Addr × Value)}, KT H kvs xs → KT H more ys → KT H (kvs ++ more) (xs ++ ys)
 | _, _, _, _, .nil, g => g
 | _, _, _, _, .cons h t, g => .cons h (KT.app t g)
theorem d_updateT {Q : Value → Shared → Prop} (hu : A.units + 8 < cLine) (I : Inv X pins σ H s) (e : H a = some (.dT kvs)) (e2 : H b = some (.dT more)) (hab : a ≠ b) (hz : kvs.length + more.length ≤ sizeLine) (hn : (kvs.map (·.1) ++ more.map (·.1)).Nodup)
  (hap : kvs ≠ [] ∨ more.map (·.1) ∈ unitK)
  (h : ∀ s', Inv X pins σ (upd H a (.dT (kvs ++ more))) s' → Q .none s') : wpAny (model X.prog X.w) A (call (.builtin "dict.update") [.ref a, .ref b]) Q E s := by
 obtain ⟨z, hd, xs, rel, dd⟩ := dt_of I.hok e
 obtain ⟨z2, hd2, ys, rel2, dd2⟩ := dt_of I.hok e2
 have st : (tupleKind (mixKind X.prog X.w)).Stays := tupleKind_stays
 have ex := KT.fst rel
 have ey := KT.fst rel2
 refine call_update_dictH (knd := tupleKind (mixKind X.prog X.w)) (by show A.units + 1 < cLine; omega) hab hd2 dd dd2 ?_ (by rw [← rel.length, ← rel2.length]; exact hz) fun h' m1 _ hs => h _ ?_
 ·rcases hap with q | q
  ·left
   rintro rfl
   cases rel
   exact q rfl
  ·right
   refine ⟨keyed_apart st dd2, ?_⟩
   have := unit_hash (P := X.prog) (w := X.w) q
   rw [← ey, List.map_map] at this
   exact this
 ·rw [storedAllH_append_of_fresh _ _ (by rw [List.map_append, ex, ey]; exact hn)] at m1
  have he : ∃ q, h'.get? a = some q := let ⟨q, _, _, hq, _⟩ := m1; ⟨q, hq⟩
  obtain ⟨q, es, ep, hq, h2, h3, h4, _, h5⟩ := m1
  refine d_write I (by rw [e]; exact True.intro) hs he ⟨by rw [List.length_append]; exact hz, hd, xs ++ ys, (KT.app rel rel2).keeps fun c us ec => ?_, q, es, ep, hq, h2, h3, h4, h5⟩
  rw [upd_ne (ne_of ec e (fun z => nomatch z))]
  exact ec
end
end L2
namespace Pv
open PySem PySem.Spec PyProof.Rows L2
def hapB (ks more : List (List Key)) : Prop := ks ≠ [] ∨ more ∈ unitK
noncomputable def eDUpT (fa fb : EX) : EX := fun e S => (fa e S).bind fun p => (fb e p.2).bind fun q => match p.1, q.1 with
 | .dref n, .dref k => (dtAt q.2 (.dref n)).bind fun kv => (dtAt q.2 (.dref k)).bind fun more => @ite _ (n ≠ k ∧ (kv.1 ++ more.1).Nodup ∧ hapB kv.1 more.1 ∧ szOk (kv.1.length + more.1.length) = true) (Classical.propDecidable _) (some (.non, q.2.set n (.dt (kv.1 ++ more.1) (kv.2 ++ more.2)))) none
 | _, _ => none
section
variable {X : Cx} {a b : Expr} {fa fb : EX} {apos cpos : Pos}
theorem ej_dupt (hu : X.A.units + 64 < cLine) (ha : EJ X a fa) (hb : EJ X b fb) (hm : M1 X a "update" apos b cpos) : EJ X (.Call (.Attribute a "update" apos) [b] [] cpos) (eDUpT fa fb) := ⟨fun pins s σ H Q I ⟨Z, m, env, v, S', e, si, er, hf, q⟩ => by
 unfold eDUpT at hf
 obtain ⟨⟨x, S1⟩, h1, hf1⟩ := Option.bind_eq_some_iff.mp hf
 obtain ⟨⟨y, S2⟩, h2, hf2⟩ := Option.bind_eq_some_iff.mp hf1
 cases x <;> cases y <;> first | exact no2 hf2 | skip
 rename_i n k
 obtain ⟨kv, h4, hf4⟩ := Option.bind_eq_some_iff.mp (show (dtAt S2 (.dref n)).bind _ = _ from hf2)
 obtain ⟨more, h5, hf5⟩ := Option.bind_eq_some_iff.mp (show (dtAt S2 (.dref k)).bind _ = _ from hf4)
 have hc : n ≠ k ∧ (kv.1 ++ more.1).Nodup ∧ hapB kv.1 more.1 ∧ szOk (kv.1.length + more.1.length) = true := Classical.byContradiction fun z => by
  rw [@if_neg _ (Classical.propDecidable _) z] at hf5
  cases hf5
 rw [@if_pos _ (Classical.propDecidable _) hc] at hf5
 obtain ⟨hnk, hnd, hap, hz⟩ := hc
 cases hf5
 have hA : tE X.K fa σ H (fun x H1 => ∃ a0, x = .ref a0 ∧ IsD H1 a0 ∧ tE X.K fb σ H1 (fun y H2 => ∃ b0 kvs mo, y = .ref b0 ∧ H2 a0 = some (.dT kvs) ∧ H2 b0 = some (.dT mo) ∧ a0 ≠ b0 ∧ kvs.length + mo.length ≤ sizeLine ∧ (kvs.map (·.1) ++ mo.map (·.1)).Nodup ∧ (kvs ≠ [] ∨ mo.map (·.1) ∈ unitK) ∧ Q .non (upd H2 a0 (.dT (kvs ++ mo))))) := by
  refine ⟨Z, m, env, .dref n, S1, e, si, er, h1, fun m1 vx e1 t1 rx => ?_⟩
  have rx0 := rx
  obtain ⟨_, rfl⟩ := rx
  refine ⟨m1.r n, rfl, rx0.isD t1.si, Z, m1, env, .dref k, S2, rfl, t1.si, er.tr si t1, by rw [e1]; exact h2, fun m2 vy e2 t2 ry => ?_⟩
  obtain ⟨n', us, en, ev, hln, hkn, hH, hlen, rl⟩ := t2.si.dtAt (t2.rep t1.si rx0) (by rw [e2]; exact h4)
  cases en
  obtain ⟨k', ws, ek, ev2, hlk, hkk, hH2, hlen2, rl2⟩ := t2.si.dtAt ry (by rw [e2]; exact h5)
  cases ek
  have er1 : m1.r n = m2.r n := V.ref.inj ev
  have z1 : (kv.1.zip us).map (·.1) = kv.1 := List.map_fst_zip (by omega)
  have z2 : (more.1.zip ws).map (·.1) = more.1 := List.map_fst_zip (by omega)
  have hsz := szOk_le hz
  refine ⟨m2.r k, kv.1.zip us, more.1.zip ws, ev2, by rw [er1]; exact hH, hH2, fun z => hnk (t2.si.inj n k hln hlk (by rw [← er1]; exact z)), ?_, by rw [z1, z2]; exact hnd, ?_, ?_⟩
  ·rw [List.length_zip, List.length_zip, hlen, hlen2]
   omega
  ·rcases hap with z | z
   ·refine .inl fun w => z ?_
    rw [← z1, w]
    rfl
   ·exact .inr (by rw [z2]; exact z)
  ·have t4 : Tr ⟨X.K, Z⟩ m2 (m2.putO n (.dt (kv.1 ++ more.1) (kv.2 ++ more.2)) (us ++ ws)) :=
    Tr.putO (o := .dt (kv.1 ++ more.1) (kv.2 ++ more.2)) t2.si hkn rfl (RepL.app rl rl2)
   have tt := (t1.trans si t2).trans si t4
   have qq := q _ .non (by show m2.S.set n _ = _; rw [e2]) tt rfl
   have eH : (m2.putO n (.dt (kv.1 ++ more.1) (kv.2 ++ more.2)) (us ++ ws)).H = upd m2.H (m1.r n) (.dT (kv.1.zip us ++ more.1.zip ws)) := by
    show upd m2.H (m2.r n) (.dT ((kv.1 ++ more.1).zip (us ++ ws))) = _
    rw [er1, List.zip_append (by omega)]
   rw [eH] at qq
   exact qq
 refine wpAny_Call_method hm.base hm.few hm.line PySem.F.plainAttrs_dict PySem.F.slot_dict_update PySem.F.type_dict_update (thn (ha.run pins s σ H _ I hA) fun u s1 ⟨x, H1, I1, rx, a0, ex, d, q1⟩ => ?_)
 subst ex
 obtain rfl : u = Value.ref a0 := rx
 obtain ⟨t1, t2, _⟩ := isD_at I1 d
 refine ⟨t1, t2, ?_⟩
 rw [hm.trees]
 refine Calls.callWith_builtin rfl (Calls.evalArgs_plain (Calls.spliced_cons (thn (hb.run pins s1 σ H1 _ I1 q1) fun iv s2 ⟨y, H2, I2, ry, b0, kvs, mo, ey, e1, e2, hab, hz, hn, hp, q2⟩ => Calls.spliced_nil ?_)))
 subst ey
 obtain rfl : iv = Value.ref b0 := ry
 exact d_updateT (by omega) I2 e1 e2 hab hz hn hp fun s3 I3 => ⟨.non, _, I3, rfl, q2⟩⟩
end
theorem EV_dupt {fa fb : EX} {e : En} {S : Sto} {Q : D → Sto → Prop} : EV (eDUpT fa fb) e S Q ↔ EV fa e S fun x S1 => EV fb e S1 fun y S2 => ∃ n k kv more, x = .dref n ∧ y = .dref k ∧ dtAt S2 (.dref n) = some kv ∧ dtAt S2 (.dref k) = some more ∧ (n ≠ k ∧ (kv.1 ++ more.1).Nodup ∧ hapB kv.1 more.1 ∧ szOk (kv.1.length + more.1.length) = true) ∧ Q .non (S2.set n (.dt (kv.1 ++ more.1) (kv.2 ++ more.2))) := by
 unfold EV eDUpT
 constructor
 ·rintro ⟨v, S', h, q⟩
  obtain ⟨⟨x, S1⟩, q1, h⟩ := Option.bind_eq_some_iff.mp h
  obtain ⟨⟨y, S2⟩, q2, h⟩ := Option.bind_eq_some_iff.mp h
  cases x <;> cases y <;> first | exact no2 h | skip
  rename_i n _ k
  obtain ⟨kv, h4, h⟩ := Option.bind_eq_some_iff.mp (show (dtAt S2 (.dref n)).bind _ = _ from h)
  obtain ⟨more, h5, h⟩ := Option.bind_eq_some_iff.mp (show (dtAt S2 (.dref k)).bind _ = _ from h)
  have hc : n ≠ k ∧ (kv.1 ++ more.1).Nodup ∧ hapB kv.1 more.1 ∧ szOk (kv.1.length + more.1.length) = true := Classical.byContradiction fun z => by
   rw [@if_neg _ (Classical.propDecidable _) z] at h
   cases h
  rw [@if_pos _ (Classical.propDecidable _) hc] at h
  cases h
  exact ⟨_, _, q1, _, _, q2, n, k, kv, more, rfl, rfl, h4, h5, hc, q⟩
 ·rintro ⟨x, S1, q1, y, S2, q2, n, k, kv, more, rfl, rfl, h4, h5, hc, q⟩
  refine ⟨_, _, by rw [q1]; show (fb e S1).bind _ = _; rw [q2]; show (dtAt S2 (.dref n)).bind _ = _; rw [h4]; show (dtAt S2 (.dref k)).bind _ = _; rw [h5]; exact @if_pos _ (Classical.propDecidable _) hc _ _ _, q⟩
noncomputable def lVals (i j : Nat) : LX := fun e S => match e[i]? with
 | some (some (.dref n)) => (dkAt S (.dref n)).bind fun kv => if j < e.length ∧ kv.1.Nodup ∧ szOk kv.1.length = true then some (kv.2, S) else none
 | _ => none
theorem nodup_val {ks : List Key} : ∀ {us : List V} {t : Nat} {k : Key} {v : V}, ks.Nodup → us.length = ks.length → (ks.zip us)[t]? = some (k, v) → valV (ks.zip us) k = some v := fun {us t k v} hn hl h => by
 unfold valV
 induction ks generalizing us t with
 | nil => simp at h
 | cons a ks ih =>
  match us, hl with
  | u :: us, hl =>
   rw [List.zip_cons_cons] at h ⊢
   cases t with
   | zero =>
    cases (Option.some.inj h : (a, u) = (k, v))
    simp
   | succ t =>
    have h : (ks.zip us)[t]? = some (k, v) := by simpa using h
    have hk : k ∈ ks := (List.of_mem_zip (List.mem_of_getElem? h)).1
    have ne : a ≠ k := fun e => (List.nodup_cons.mp hn).1 (by rw [e]; exact hk)
    rw [List.find?_cons, decide_eq_false ne]
    exact ih (List.nodup_cons.mp hn).2 (by simpa using hl) h
section
variable {X : Cx} {x y : Str} {p1 p2 p3 p4 p5 pos : Pos} {scope : Scope} {own : List (Str × Nat)} {i j : Nat}
theorem lj_vals (hc : X.calm = true) (hN : X.N.Nodup) (hu : X.A.units + 64 < cLine) (ok : BlkOk X.N X.env.scope scope own) (hd : PE X (.Name x p5) (tVar i))
  (hg : ∀ (s : Shared) (H : Hp) (C : Addr) (cl : List (Str × Addr)) (fp : List Addr), PG (X.blk s H scope (compEnvC scope cl C X.env) fp) (.Name y p4) (gName j))
  (he1 : ∀ (s : Shared) (H : Hp) (C : Addr) (cl : List (Str × Addr)) (fp : List Addr), PE (X.blk s H scope (compEnvC scope cl C X.env) fp) (.Name x p1) (tVar i))
  (he2 : ∀ (s : Shared) (H : Hp) (C : Addr) (cl : List (Str × Addr)) (fp : List Addr), PE (X.blk s H scope (compEnvC scope cl C X.env) fp) (.Name y p2) (tVar j))
  (hj : j ∈ own.map (·.2)) (hi : i ∉ own.map (·.2)) (hij : i ≠ j)
  (hs : ∀ z, foldedSetIterable (.Name x p5) X.env z = pure z := by intro _; rfl) :
  LJ X (.ListComp (.Subscript (.Name x p1) (.Name y p2) p3) [⟨.Name y p4, .Name x p5, [], 0⟩] scope pos) (lVals i j) :=
 pe_wk (pe_lock (pe_lc hc hN (pi_keys hd) ok hg (fun _ _ _ _ _ => pts_nil) (fun s H C cl fp => pe_dget (by show X.A.units + 1 < cLine; omega) (he1 s H C cl fp) (he2 s H C cl fp) (fun _ _ => rfl)) hs)) fun σ H Q ⟨Z, m, env, v, S', e, s, er, hf, q⟩ => by
  subst e
  unfold lVals at hf
  split at hf
  ·rename_i n hn
   obtain ⟨kv, h1, hf⟩ := Option.bind_eq_some_iff.mp hf
   obtain ⟨⟨hjl, hnd, hz⟩, hf⟩ := ite_some hf
   cases hf
   obtain ⟨u, hu1, hu2⟩ := er.2 i _ hn
   obtain ⟨n', us, en, rfl, hl, hk, hH, hlen, rl⟩ := s.dkAt hu2 h1
   cases en
   have hsz := szOk_le hz
   have lz : (kv.1.zip us).length = us.length := by rw [List.length_zip, hlen, Nat.min_self]
   refine ⟨m.r n, .dK (kv.1.zip us), hH, trivial, fun od => ?_⟩
   generalize hH1 : upd m.H (m.r n) (.frz od (.dK (kv.1.zip us))) = H1
   have hd1 : H1 (m.r n) = some (.frz od (.dK (kv.1.zip us))) := by rw [← hH1]; exact upd_same
   refine ⟨.ref (m.r n), hu1, m.r n, od, rfl, .inl ⟨kv.1.zip us, hd1, fun D hD => ?_⟩⟩
   have hDn : D ≠ m.r n := fun z => by rw [z, hd1] at hD; cases hD
   have hDm : m.H D = none := by
    rw [← hH1, upd_ne hDn] at hD
    exact hD
   refine ⟨fun t k H2 => H2 = upd H1 D (.lst (us.take t)) ∧ k = us.length - t, ⟨us.length, by rw [List.take_zero], rfl⟩, ?_⟩
   rintro t k H2 ⟨rfl, rfl⟩
   have hd2 : ∀ ho, upd H1 D ho (m.r n) = some (.frz od (.dK (kv.1.zip us))) := fun ho => by rw [upd_ne hDn.symm]; exact hd1
   by_cases ht : us.length ≤ t
   ·refine .inl ⟨⟨hd2 _, by rw [lz]; exact ht⟩, hd2 _, ?_⟩
    rw [List.take_of_length_le ht]
    have e1 : upd (upd H1 D (.lst us)) (m.r n) (.dK (kv.1.zip us)) = upd m.H D (.lst us) := by
     funext a
     by_cases h : a = m.r n
     ·subst h
      rw [upd_same, upd_ne hDn.symm]
      exact hH.symm
     ·rw [upd_ne h]
      by_cases h2 : a = D
      ·subst h2
       rw [upd_same, upd_same]
      ·rw [upd_ne h2, upd_ne h2, ← hH1, upd_ne h]
    rw [e1]
    exact q m D us rfl (.refl s) rl hDm
   ·have ht : t < us.length := by omega
    refine .inr ⟨⟨hd2 _, by rw [lz]; exact ht⟩, fun H3 => H3 = upd H1 D (.lst (us.take (t + 1))), fun H3 h => ⟨us.length - (t + 1), by omega, h, rfl⟩, ?_⟩
    rintro x H3 ⟨rfl, k, v, hkv, rfl⟩
    have hjs : j < σ.length := by rw [← er.1]; exact hjl
    refine ⟨wipe_same (ws := [j]) (by rw [List.length_set]) (fun i' hi' => by rw [List.getElem?_set_ne (fun e => hi' (by rw [e]; exact List.mem_cons_self ..))]) (fun i' hi' => by rw [List.mem_singleton.mp hi']; exact hj), ?_⟩
    unfold tYes
    simp only [if_true]
    refine ⟨.ref (m.r n), by rw [List.getElem?_set_ne hij.symm, wipe_out hi]; exact hu1, kV k, by rw [List.getElem?_set_self (by rw [wipe_length]; exact hjs)], m.r n, v, rfl, .inl ⟨_, k, .inr ⟨od, hd2 _⟩, rfl, (nodup_val hnd hlen hkv).symm⟩, us.take t, upd_same, by rw [List.length_take]; omega, ?_⟩
    have ev : us[t]? = some v := by
     have := List.getElem?_zip_eq_some.mp hkv
     exact this.2
    rw [List.take_add_one, ev]
    funext a
    by_cases h : a = D
    ·subst h
     rw [upd_same, upd_same]
     rfl
    ·rw [upd_ne h, upd_ne h, upd_ne h]
  ·cases hf
end
def eDE0 : EX := fun _ S => some (.dref S.length, S ++ [.dt [] []])
def dtIx (ks : List (List Key)) (vs : List D) (k : List Key) : Option D := ((ks.zip vs).find? fun p => decide (p.1 = k)).map (·.2)
theorem dtIx_rep {c : C} {m : M} {k : List Key} : ∀ {ks : List (List Key)} {vs : List D} {us : List V}, us.length = ks.length → RepL c m vs us →
  (∀ d, dtIx ks vs k = some d → ∃ w, valV (ks.zip us) k = some w ∧ Rep c m d w) ∧ (dtIx ks vs k = none → valV (ks.zip us) k = none)
 | [], vs, us, _, _ => ⟨fun d h => by simp [dtIx] at h, fun _ => by simp [valV]⟩
 | a :: ks, [], us, hl, r => by
  cases (show us = [] from r)
  simp at hl
 | a :: ks, d :: vs, us, hl, r => by
  obtain ⟨u, ur, rfl, r1, r2⟩ := r
  have ih := dtIx_rep (k := k) (ks := ks) (vs := vs) (us := ur) (by simpa using hl) r2
  by_cases e : a = k
  ·have e1 : dtIx (a :: ks) (d :: vs) k = some d := by simp [dtIx, e]
   have e2 : valV ((a :: ks).zip (u :: ur)) k = some u := by simp [valV, e]
   rw [e1, e2]
   exact ⟨fun d' h => by cases h; exact ⟨u, rfl, r1⟩, fun h => nomatch h⟩
  ·have e1 : dtIx (a :: ks) (d :: vs) k = dtIx ks vs k := by simp [dtIx, e]
   have e2 : valV ((a :: ks).zip (u :: ur)) k = valV (ks.zip ur) k := by simp [valV, e]
   rw [e1, e2]
   exact ih
def fDTIx : F2 := fun S a b => (dtAt S a).bind fun p => (keyT b).bind fun k => dtIx p.1 p.2 k
def fDTIn : F2 := fun S b a => (dtAt S a).bind fun p => (keyT b).map fun k => .bl (dtIx p.1 p.2 k).isSome
def fDTNotIn : F2 := fun S b a => (dtAt S a).bind fun p => (keyT b).map fun k => .bl (!(dtIx p.1 p.2 k).isSome)
def gLenDT : F1 := fun S a => (dtAt S a).map fun p => .int (p.1.length : Nat)
def fAddP : F2 := fun _ a b => match unP a, unP b with
 | .tup xs, .tup ys => if (!xs.isEmpty && !ys.isEmpty && szOk (xs.length + ys.length)) = true then some (.tag 1000 (xs ++ ys)) else none
 | _, _ => none
section
variable {X : Cx} {a b : Expr} {fa fb : EX} {pos : Pos}
theorem ej_de0 : EJ X (.Dict [] [] pos) eDE0 := pe_wk pe_dnewT fun σ H Q ⟨Z, m, env, v, S', e, s, er, hf, q⟩ => by
 subst e
 cases hf
 intro p hp
 have tb : Tr ⟨X.K, Z⟩ m (m.boxO p (.dt [] []) []) := Tr.boxO (o := .dt [] []) (xs := []) s hp rfl
 exact q (m.boxO p (.dt [] []) []) (.ref p) rfl tb ⟨⟨.dt [] [], by
  show (m.S ++ [Ob.dt [] []])[m.S.length]? = _
  simp, .inr rfl⟩, by
  show V.ref p = V.ref (if m.S.length = m.S.length then p else m.r m.S.length)
  rw [if_pos rfl]⟩
theorem ej_dtix (hu : X.A.units + 64 < cLine) (ha : EJ X a fa) (hb : EJ X b fb) (hs : NoSl b) : EJ X (.Subscript a b pos) (e2 fDTIx fa fb) :=
 pe_wk (pe_dget (by omega) ha hb hs) fun σ H Q ⟨Z, m, env, v, S', e, s, er, hf, q⟩ => by
  unfold e2 at hf
  obtain ⟨⟨x, S1⟩, h1, h⟩ := Option.bind_eq_some_iff.mp hf
  obtain ⟨⟨y, S2⟩, h2, h⟩ := Option.bind_eq_some_iff.mp h
  obtain ⟨d, h3, h⟩ := Option.map_eq_some_iff.mp h
  cases h
  refine ⟨Z, m, env, x, S1, e, s, er, h1, fun m1 vx e1 t1 rx => ?_⟩
  refine ⟨Z, m1, env, y, S2, rfl, t1.si, er.tr s t1, by rw [e1]; exact h2, fun m2 vy e2 t2 ry => ?_⟩
  obtain ⟨p, h4, h5⟩ := Option.bind_eq_some_iff.mp (show (dtAt S2 x).bind _ = _ from h3)
  obtain ⟨k, h6, h7⟩ := Option.bind_eq_some_iff.mp h5
  obtain ⟨n, us, _, rfl, _, _, r1, r2, r3⟩ := t2.si.dtAt (t2.rep t1.si rx) (by rw [e2]; exact h4)
  obtain ⟨w, q1, q2⟩ := (dtIx_rep r2 r3).1 _ h7
  obtain ⟨b0, rfl, hb0⟩ := keyT_rep h6 ry
  refine ⟨m2.r n, w, rfl, ?_, q m2 w e2 (t1.trans s t2) q2⟩
  rw [← q1]
  exact DGet.t r1 hb0
theorem o_dtin (hu : X.A.units + 65 < cLine) : OpR X (compareOp .In) (r2 X.K fDTIn) := by
 rintro pins s σ H x y v u Q I rx ry ⟨Z, m, a, b, d, rfl, si, ra, rb, hf, q⟩
 obtain ⟨p, h4, h5⟩ := Option.bind_eq_some_iff.mp (show (dtAt m.S b).bind _ = _ from hf)
 obtain ⟨k, h6, rfl⟩ := Option.map_eq_some_iff.mp h5
 obtain ⟨n, us, _, rfl, _, _, r1, r2, r3⟩ := si.dtAt rb h4
 obtain ⟨b0, rfl, hb0⟩ := keyT_rep h6 ra
 cases ry
 have e : (valV (p.1.zip us) k).isSome = (dtIx p.1 p.2 k).isSome := by
  obtain ⟨z1, z2⟩ := dtIx_rep (k := k) r2 r3
  cases hx : dtIx p.1 p.2 k with
  | none => rw [z2 hx]; rfl
  | some d => obtain ⟨w, q1, _⟩ := z1 d hx; rw [q1]; rfl
 refine d_in (by omega) I (DGet.t r1 hb0) rx fun s' I' => ⟨.bl _, m.H, I', rfl, ?_⟩
 rw [e]
 exact q m _ rfl (.refl si) rfl
theorem o_dtnotin (hu : X.A.units + 65 < cLine) : OpR X (compareOp .NotIn) (r2 X.K fDTNotIn) := by
 rintro pins s σ H x y v u Q I rx ry ⟨Z, m, a, b, d, rfl, si, ra, rb, hf, q⟩
 obtain ⟨p, h4, h5⟩ := Option.bind_eq_some_iff.mp (show (dtAt m.S b).bind _ = _ from hf)
 obtain ⟨k, h6, rfl⟩ := Option.map_eq_some_iff.mp h5
 obtain ⟨n, us, _, rfl, _, _, r1, r2, r3⟩ := si.dtAt rb h4
 obtain ⟨b0, rfl, hb0⟩ := keyT_rep h6 ra
 cases ry
 have e : (valV (p.1.zip us) k).isSome = (dtIx p.1 p.2 k).isSome := by
  obtain ⟨z1, z2⟩ := dtIx_rep (k := k) r2 r3
  cases hx : dtIx p.1 p.2 k with
  | none => rw [z2 hx]; rfl
  | some d => obtain ⟨w, q1, _⟩ := z1 d hx; rw [q1]; rfl
 refine d_notIn (by omega) I (DGet.t r1 hb0) rx fun s' I' => ⟨.bl _, m.H, I', rfl, ?_⟩
 rw [e]
 exact q m _ rfl (.refl si) rfl
theorem b_lenDT : CallR X (.builtin "len") (rN X.K (fn1 gLenDT)) := by
 rintro pins s σ H xs us Q I r ⟨Z, m, as, d, rfl, si, ra, hf, q⟩
 obtain ⟨a, rfl, hf⟩ := fn1_inv hf
 obtain ⟨x, rfl, rx⟩ := ra.one_inv
 obtain ⟨p, h1, rfl⟩ := Option.map_eq_some_iff.mp hf
 obtain ⟨n, us', _, rfl, _, _, r1, r2, r3⟩ := si.dtAt rx h1
 refine call_len_dT pins s σ m.H _ us Q I r ⟨m.r n, _, rfl, r1, ?_⟩
 rw [show (p.1.zip us').length = p.1.length by rw [List.length_zip]; omega]
 exact q m _ rfl (.refl si) rfl
theorem o_addP : OpR X (binaryOp .Add) (r2 X.K fAddP) := by
 rintro pins s σ H x y v u Q I rx ry ⟨Z, m, a, b, d, rfl, si, ra, rb, hf, q⟩
 have ra := ra.unP
 have rb := rb.unP
 unfold fAddP at hf
 generalize unP a = a at *
 generalize unP b = b at *
 cases a <;> cases b <;> first | exact no2 hf | skip
 rename_i xs ys
 obtain ⟨hz, rfl⟩ := ite_some (show (if _ then _ else _) = _ from hf)
 simp only [Bool.and_eq_true, Bool.not_eq_true', List.isEmpty_eq_false_iff] at hz
 obtain ⟨⟨z1, z2⟩, z3⟩ := hz
 obtain ⟨p1, us, rfl, h1, l1⟩ := ra
 obtain ⟨p2, ws, rfl, h2, l2⟩ := rb
 refine op_catA pins s σ m.H _ _ v u Q I rx ry ⟨p1, p2, us, ws, rfl, rfl, h1, h2, by rw [l1.len, l2.len]; exact szOk_le z3, fun e => ?_, fun _ e => ?_, fun _ _ p hp => ?_⟩
 ·exact absurd (l1.nil_iff.mp e) z1
 ·exact absurd (l2.nil_iff.mp e) z2
 ·exact q ⟨m.r, m.S, upd m.H p (.tup (us ++ ws))⟩ _ rfl (.laid si hp) (Rep.newP si hp (l1.app l2))
end
theorem EV_de0 {e : En} {S : Sto} {Q : D → Sto → Prop} : EV eDE0 e S Q ↔ Q (.dref S.length) (S ++ [.dt [] []]) := by
 unfold EV eDE0
 constructor
 ·rintro ⟨v, S', h, q⟩
  cases h
  exact q
 ·exact fun q => ⟨_, _, rfl, q⟩
theorem AV_vals {i j : Nat} {e : En} {S : Sto} {QL : List D → Sto → Prop} : AV (lVals i j) e S QL ↔ ∃ n kv, e[i]? = some (some (.dref n)) ∧ dkAt S (.dref n) = some kv ∧ (j < e.length ∧ kv.1.Nodup ∧ szOk kv.1.length = true) ∧ QL kv.2 S := by
 unfold AV lVals
 constructor
 ·rintro ⟨v, S', h, q⟩
  split at h
  ·rename_i n hn
   obtain ⟨kv, h1, h⟩ := Option.bind_eq_some_iff.mp h
   obtain ⟨hz, h⟩ := ite_some h
   cases h
   exact ⟨n, kv, hn, h1, hz, q⟩
  ·cases h
 ·rintro ⟨n, kv, hn, h1, hz, q⟩
  refine ⟨kv.2, S, ?_, q⟩
  rw [hn]
  show (dkAt S (.dref n)).bind _ = _
  rw [h1]
  exact if_pos hz
def eDK0 : EX := fun _ S => some (.dref S.length, S ++ [.dk [] []])
theorem ej_dk0 {X : Cx} {pos : Pos} : EJ X (.Dict [] [] pos) eDK0 := pe_wk pe_dnewK fun σ H Q ⟨Z, m, env, v, S', e, s, er, hf, q⟩ => by
 subst e
 cases hf
 intro p hp
 have tb : Tr ⟨X.K, Z⟩ m (m.boxO p (.dk [] []) []) := Tr.boxO (o := .dk [] []) (xs := []) s hp rfl
 exact q (m.boxO p (.dk [] []) []) (.ref p) rfl tb ⟨⟨.dk [] [], by
  show (m.S ++ [Ob.dk [] []])[m.S.length]? = _
  simp, .inl rfl⟩, by
  show V.ref p = V.ref (if m.S.length = m.S.length then p else m.r m.S.length)
  rw [if_pos rfl]⟩
theorem EV_dk0 {e : En} {S : Sto} {Q : D → Sto → Prop} : EV eDK0 e S Q ↔ Q (.dref S.length) (S ++ [.dk [] []]) := by
 unfold EV eDK0
 constructor
 ·rintro ⟨v, S', h, q⟩
  cases h
  exact q
 ·exact fun q => ⟨_, _, rfl, q⟩
end Pv
namespace Q02
open PySem PySem.Spec PyProof.Rows L2 Pv
noncomputable def b__law_hand : SX := sSeq (sAsg (eIf (tOf (e2 fLt (eVar 1) (eCB (fn1 gLen) (aCons (eVar 0) (aNil))))) (e2 fIx (eVar 0) (eVar 1)) (eC (.int 0))) (gN 2)) (sSeq (sAsg (e2 fMul (e2 fMod (eCB (fn1 gAbs) (aCons (eVar 2) (aNil))) (e2 fMul (e2 fPow (eC (.int 10)) (eC (.int 60))) (e2 fPow (eC (.int 10)) (eC (.int 60))))) (eCB (fn1 gInt) (aCons (e2 fGe (eCB (fn1 gAbs) (aCons (eVar 2) (aNil))) (e2 fPow (eC (.int 10)) (eC (.int 18)))) (aNil)))) (gN 3)) (sRet (eBx (lDisp (aCons (eVar 3) (aCons (e2 fAdd (e2 fAdd (e2 fMod (eVar 2) (eC (.int 2305843009213693951))) (e2 fMul (eC (.int 104729)) (eVar 1))) (eC (.int 7))) (aCons (eC (.int 0)) (aNil))))))))
noncomputable def b__law_take : SX := sSeq (sIf (tOf (e2 fGt (e2 fIx (eVar 0) (eC (.int 0))) (eC (.int 0)))) (sSeq (sAsg (e2 fMod (e2 fIx (eVar 0) (eC (.int 0))) (eVar 1)) (gN 5)) (sSeq (sAsg (e2 fDiv (e2 fIx (eVar 0) (eC (.int 0))) (eVar 1)) (gS (eVar 0) (eC (.int 0)))) (sRet (eVar 5)))) (sNil)) (sSeq (sAsg (e2 fAdd (e2 fIx (eVar 0) (eC (.int 2))) (eC (.int 1))) (gS (eVar 0) (eC (.int 2)))) (sSeq (sAsg (eFz (lDisp (aCons (eC (.int 2147483647)) (aCons (eC (.int 2147483629)) (aCons (eC (.int 2147483587)) (aCons (eC (.int 2147483579)) (aCons (eC (.int 2147483563)) (aCons (eC (.int 2147483549)) (aCons (eC (.int 2147483543)) (aCons (eC (.int 2147483497)) (aNil))))))))))) (gN 2)) (sSeq (sAsg (e2 fIx (eVar 2) (e2 fMod (e2 fIx (eVar 0) (eC (.int 2))) (eC (.int 8)))) (gN 3)) (sSeq (sAsg (e2 fAdd (e2 fMod (e2 fMod (e2 fAdd (e2 fIx (eVar 0) (eC (.int 1))) (e2 fMul (e2 fMul (eC (.int 69621)) (e2 fIx (eVar 0) (eC (.int 2)))) (e2 fIx (eVar 0) (eC (.int 2))))) (e2 fPow (eVar 3) (eC (.int 2)))) (eVar 3)) (eC (.int 1))) (gN 4)) (sRet (e2 fMod (e2 fDiv (e2 fMod (e2 fMul (eVar 4) (e2 fAdd (e2 fMod (eVar 4) (eC (.int 1009))) (e2 fIx (eVar 0) (eC (.int 2))))) (eVar 3)) (eC (.int 7))) (eVar 1)))))))
noncomputable def b_common : SX := sSeq (sAsg (eC (.int 0)) (gN 1)) (sSeq (sFor (iSeq (eVar 0)) (gN 2) (sWhile (tOf (e2 fNe (eVar 2) (eC (.int 0)))) (sPar 1 2 (aCons (eVar 2) (aCons (e2 fMod (eVar 1) (eVar 2)) (aNil)))))) (sRet (eVar 1)))
noncomputable def b_lowest (k_common : Con) : SX := sSeq (sAsg (eCall k_common (aCons (eVar 0) (aNil))) (gN 1)) (sRet (eCB (fn1 gTupP) (aCons (eFz (lLc (iSeq (eVar 0)) (gN 2) (tYes') (e2 fDiv (eVar 2) (eVar 1)) [2])) (aNil))))
noncomputable def b_is_whole : SX := sRet (eAnd (e1 (gIs "int") (eVar 0)) (eAnd (e1 fNot (e1 (gIs "bool") (eVar 0))) (eAnd (e2 fLe (eVar 1) (eVar 0)) (eOr (e2 fIs (eVar 2) (eC .non)) (e2 fLe (eVar 0) (eVar 2))))))
noncomputable def b_is_shares (k_is_whole k_common : Con) : SX := sSeq (sIf (tOr' (tNot' (tOf (e1 (gIs "tuple") (eVar 0)))) (tOr' (tOf (e2 fNe (eCB (fn1 gLen) (aCons (eVar 0) (aNil))) (eVar 1))) (tNot' (tOf (eCB (fn1 gAll) (aCons (eFz (lLc (iSeq (eVar 0)) (gN 2) (tYes') (eCall k_is_whole (aCons (eVar 2) (aCons (eC (.int 0)) (aCons (eC .non) (aNil))))) [2])) (aNil))))))) (sRet (eC (.bl false))) (sNil)) (sRet (e2 fEq (eCall k_common (aCons (eVar 0) (aNil))) (eC (.int 1))))
noncomputable def b__law_rows (k__law_rows : Con) : SX := sSeq (sIf (tOf (e2 fEq (eVar 0) (eC (.int 1)))) (sRet (eFz (lDisp (aCons (eTupP (aCons (eVar 1) (aNil))) (aNil))))) (sNil)) (sSeq (sAsg (eBx (lDisp (aNil))) (gN 2)) (sSeq (sFor (iRg1 (e2 fAdd (eVar 1) (eC (.int 1)))) (gN 3) (sExpr (eMt hExtend (eVar 2) (aCons (eFz (lLc (iSeq (eCall k__law_rows (aCons (e2 fSub (eVar 0) (eC (.int 1))) (aCons (e2 fSub (eVar 1) (eVar 3)) (aNil))))) (gN 4) (tYes') (e2 fAddP (eTupP (aCons (eVar 3) (aNil))) (eUnP (eVar 4))) [4])) (aNil))))) (sRet (eVar 2))))
noncomputable def b_mills : SX := sRet (e2 fDiv (e2 fMul (eC (.int 1000)) (e2 fIx (eVar 0) (eVar 1))) (eCB (fn1 gSum) (aCons (eVar 0) (aNil))))
noncomputable def b__law_mills_right (k_mills : Con) : SX := sSeq (sAsgL false (lLc (iRg1 (eCB (fn1 gLen) (aCons (eVar 0) (aNil)))) (gN 4) (tYes') (eCall k_mills (aCons (eVar 0) (aCons (eVar 4) (aNil)))) [4]) 1) (sSeq (sAsgL false (lLc (iEnum' (eVar 0)) (gT 2 (gsCons (gN 4) (gsCons (gN 5) (gsNil)))) (tOf (e2 fEq (e2 fMod (e2 fMul (eC (.int 1000)) (eVar 5)) (eCB (fn1 gSum) (aCons (eVar 0) (aNil)))) (eC (.int 0)))) (eVar 4) [4, 5]) 2) (sSeq (sIf (tOr' (tNot' (tOf (eChain fLt fLe (e2 fSub (eC (.int 1000)) (eCB (fn1 gLen) (aCons (eVar 0) (aNil)))) (eCB (fn1 gSum) (aCons (eVar 1) (aNil))) (eC (.int 1000))))) (tOf (e2 fNe (e2 fEq (eCB (fn1 gSum) (aCons (eVar 1) (aNil))) (eC (.int 1000))) (e2 fEq (eCB (fn1 gLen) (aCons (eVar 2) (aNil))) (eCB (fn1 gLen) (aCons (eVar 0) (aNil))))))) (sRet (eC (.bl false))) (sNil)) (sSeq (sAsg (e1 gRevT (eVar 0)) (gN 3)) (sRet (e2 fEq (eFz (lLc (iRg1 (eCB (fn1 gLen) (aCons (eVar 0) (aNil)))) (gN 4) (tYes') (eCall k_mills (aCons (eVar 3) (aCons (eVar 4) (aNil)))) [4])) (eFz (lRev (eVar 1))))))))
noncomputable def b__law_right (k__law_take k__law_rows k_is_shares k_lowest k__law_mills_right : Con) : SX := sSeq (sAsg (eTup (aCons (eDK0) (aCons (eDE0) (aCons (e2 fAdd (eC (.int 1)) (eCall k__law_take (aCons (eVar 0) (aCons (eC (.int 99)) (aNil))))) (aNil))))) (gT 3 (gsCons (gN 7) (gsCons (gN 8) (gsCons (gN 9) (gsNil)))))) (sSeq (sFor (iSeq (eFz (lLc (iRg2 (eC (.int 1)) (e2 fAdd (eVar 2) (eC (.int 1)))) (gN 3) (tOf (e2 fEq (e2 fMod (eVar 2) (eVar 3)) (eC (.int 0)))) (eVar 3) [3]))) (gN 3) (sSeq (sAsgL false (lLc (iSeq (eCall k__law_rows (aCons (eVar 1) (aCons (eVar 3) (aNil))))) (gN 6) (tOf (eCall k_is_shares (aCons (eUnP (eVar 6)) (aCons (eVar 1) (aNil))))) (eVar 6) [6]) 10) (sSeq (sDP (eCB (fn1 gLen) (aCons (eVar 10) (aNil))) (eVar 7) (eVar 3)) (sExpr (eDUpT (eVar 8) (eDPr (eFz (lLc (iSeq (eVar 10)) (gN 6) (tYes') (eTup (aCons (eVar 6) (aCons (eVar 3) (aNil)))) [6])))))))) (sSeq (sAsg (eCall k__law_rows (aCons (eVar 1) (aCons (eVar 2) (aNil)))) (gN 4)) (sSeq (sIf (tOf (e2 fNe (eCB (fn1 gSum) (aCons (eFz (lVals 7 3)) (aNil))) (eCB (fn1 gLen) (aCons (eVar 4) (aNil))))) (sRet (eC (.bl false))) (sNil)) (sSeq (sAsg (eDE0) (gN 5)) (sSeq (sFor (iSeq (eVar 4)) (gN 6) (sSeq (sAsg (eCall k_lowest (aCons (eUnP (eVar 6)) (aNil))) (gN 11)) (sSeq (sIf (tOr' (tOf (e2 fDTNotIn (eVar 11) (eVar 8))) (tOr' (tOf (e2 fDTIn (eVar 11) (eVar 5))) (tOf (e2 fNe (eUnP (eCall k_lowest (aCons (eCB (fn1 gTuple) (aCons (eFz (lLc (iSeq (eUnP (eVar 6))) (gN 12) (tYes') (e2 fMul (eVar 9) (eVar 12)) [12])) (aNil))) (aNil)))) (eUnP (eVar 11)))))) (sRet (eC (.bl false))) (sNil)) (sSeq (sIf (tOf (e2 fNe (eCB (fn1 gTuple) (aCons (eFz (lLc (iSeq (eUnP (eVar 11))) (gN 12) (tYes') (e2 fMul (e2 fDiv (eVar 2) (e2 fDTIx (eVar 8) (eVar 11))) (eVar 12)) [12])) (aNil))) (eUnP (eVar 6)))) (sRet (eC (.bl false))) (sNil)) (sDPt (eC (.bl true)) (eVar 5) (eVar 11)))))) (sRet (eAnd (e2 fEq (eCB (fn1 gLenDT) (aCons (eVar 5) (aNil))) (eCB (fn1 gLenDT) (aCons (eVar 8) (aNil)))) (eCB (fn1 gAll) (aCons (eFz (lLc (iSeq (eVar 4)) (gN 6) (tOf (eCall k_is_shares (aCons (eUnP (eVar 6)) (aCons (eVar 1) (aNil))))) (eCall k__law_mills_right (aCons (eUnP (eVar 6)) (aNil))) [6])) (aNil))))))))))
noncomputable def b_law (k__law_hand k__law_right k__law_take : Con) : SX := sSeq (sFor (iRg1 (eCB (fn2 gMax2) (aCons (eC (.int 1)) (aCons (eCB (fn2 gMin2) (aCons (eC (.int 2)) (aCons (eCB (fn1 gLen) (aCons (eVar 0) (aNil))) (aNil)))) (aNil))))) (gN 1) (sSeq (sAsg (eCall k__law_hand (aCons (eVar 0) (aCons (eVar 1) (aNil)))) (gN 2)) (sFor (iSeq (eTup (aCons (eTup (aCons (eC (.int 2)) (aCons (eC (.int 60)) (aNil)))) (aCons (eTup (aCons (eC (.int 3)) (aCons (eC (.int 20)) (aNil)))) (aNil))))) (gT 2 (gsCons (gN 3) (gsCons (gN 4) (gsNil)))) (sIf (tNot' (tOf (eCall k__law_right (aCons (eVar 2) (aCons (eVar 3) (aCons (e2 fAdd (eC (.int 1)) (eCall k__law_take (aCons (eVar 2) (aCons (eVar 4) (aNil))))) (aNil))))))) (sRet (eC (.bl false))) (sNil))))) (sRet (eC (.bl true)))
noncomputable def c__law_hand : Con := den 2 4 1 b__law_hand
noncomputable def c__law_take : Con := den 2 6 0 b__law_take
noncomputable def c_common : Con := den 1 3 0 b_common
noncomputable def c_lowest : Con := den 1 3 0 (b_lowest c_common)
noncomputable def c_is_whole : Con := den 3 3 0 b_is_whole
noncomputable def c_is_shares : Con := den 2 3 0 (b_is_shares c_is_whole c_common)
noncomputable def cc__law_rows : Nat → Con
 | 0 => fun _ _ => none
 | n + 1 => den 2 5 0 (b__law_rows (cc__law_rows n))
noncomputable def c__law_rows : Con := cc__law_rows 4
noncomputable def c_mills : Con := den 2 2 0 b_mills
noncomputable def c__law_mills_right : Con := den 1 6 0 (b__law_mills_right c_mills)
noncomputable def c__law_right : Con := den 3 13 0 (b__law_right c__law_take c__law_rows c_is_shares c_lowest c__law_mills_right)
noncomputable def c_law : Con := den 1 5 0 (b_law c__law_hand c__law_right c__law_take)
section
variable {P : Program} {w : World} {K : PySem.W.Frag} {mg : Str → Option Value} {base : Heap}
abbrev N__law_hand : List Str := ["_law_script", "_law_k", "_law_cell", "_law_great"]
theorem sc__law_hand : FnScope N__law_hand ["_law_script", "_law_k"] (defScope s__law_hand) := ⟨rfl, rfl, rfl, by decide +kernel, rfl, by decide +kernel, by decide +kernel⟩
theorem ok__law_hand {f : Addr} {fd : FuncData} {con : Con} (F : FunD K "_law_hand" "_law_hand" (defArgs s__law_hand) (defBody s__law_hand) (defScope s__law_hand) [] [] f fd) (m_len : mg "len" = none) (m_abs : mg "abs" = none) (m_int : mg "int" = none) (len : ∀ ds S r, con ds S = some r → ds.length = 2)
  (real : ∀ ds S v S', WfS S → belowL S.length ds = true → con ds S = some (v, S') → ∃ o, b__law_hand (sE 4 ds) S = some o ∧ Fin o v S' ∧ WfS S' ∧ S.length ≤ S'.length) : FnG P w K mg base (0 + 1) f fd ["_law_script", "_law_k"] con :=
 fn_ok (b := b__law_hand) F sc__law_hand len (fun cdv A outer s H E hr => (bj_cons (sj_set (i := 2) sc__law_hand.nd rfl (Or.inl rfl) (ej_if (tj_cmp o_lt (ej_v 1 (hv := Or.inl rfl)) (ej_callB b_len rfl m_len (by decide +kernel) (aj_cons (ej_v 0 (hv := Or.inl rfl)) aj_nil)) (nomark _)) (ej_ix o_ix (ej_v 0 (hv := Or.inl rfl)) (ej_v 1 (hv := Or.inl rfl)) (fun _ _ => rfl)) ej_int)) (bj_cons (sj_set (i := 3) sc__law_hand.nd rfl (Or.inl rfl) (ej_op o_mul (ej_op o_mod (ej_callB b_abs rfl m_abs (by decide +kernel) (aj_cons (ej_v 2 (hv := Or.inl rfl)) aj_nil)) (ej_op o_mul (ej_op o_pow ej_int ej_int) (ej_op o_pow ej_int ej_int))) (ej_callT b_int rfl m_int (by decide +kernel) (aj_cons (ej_cmp o_ge (ej_callB b_abs rfl m_abs (by decide +kernel) (aj_cons (ej_v 2 (hv := Or.inl rfl)) aj_nil)) (ej_op o_pow ej_int ej_int) (nomark _)) aj_nil)))) (bj_one (sj_ret (ej_bx (lj_disp (aj_cons (ej_v 3 (hv := Or.inl rfl)) (aj_cons (ej_op o_add (ej_op o_add (ej_op o_mod (ej_v 2 (hv := Or.inl rfl)) ej_int) (ej_op o_mul ej_int (ej_v 1 (hv := Or.inl rfl)))) ej_int) (aj_cons ej_int aj_nil)))))))))) real
abbrev N__law_take : List Str := ["_law_hand_here", "_law_many", "_law_primes", "_law_prime", "_law_drawn", "_law_digit"]
theorem sc__law_take : FnScope N__law_take ["_law_hand_here", "_law_many"] (defScope s__law_take) := ⟨rfl, rfl, rfl, by decide +kernel, rfl, by decide +kernel, by decide +kernel⟩
theorem ok__law_take {f : Addr} {fd : FuncData} {con : Con} (F : FunD K "_law_take" "_law_take" (defArgs s__law_take) (defBody s__law_take) (defScope s__law_take) [] [] f fd) (len : ∀ ds S r, con ds S = some r → ds.length = 2)
  (real : ∀ ds S v S', WfS S → belowL S.length ds = true → con ds S = some (v, S') → ∃ o, b__law_take (sE 6 ds) S = some o ∧ Fin o v S' ∧ WfS S' ∧ S.length ≤ S'.length) : FnG P w K mg base (0 + 1) f fd ["_law_hand_here", "_law_many"] con :=
 fn_ok (b := b__law_take) F sc__law_take len (fun cdv A outer s H E hr => (bj_cons (sj_if (tj_cmp o_gt (ej_ix o_ix (ej_v 0 (hv := Or.inl rfl)) ej_int (fun _ _ => rfl)) ej_int (nomark _)) (bj_cons (sj_set (i := 5) sc__law_take.nd rfl (Or.inl rfl) (ej_op o_mod (ej_ix o_ix (ej_v 0 (hv := Or.inl rfl)) ej_int (fun _ _ => rfl)) (ej_v 1 (hv := Or.inl rfl)))) (bj_cons (sj_asg (ej_op o_div (ej_ix o_ix (ej_v 0 (hv := Or.inl rfl)) ej_int (fun _ _ => rfl)) (ej_v 1 (hv := Or.inl rfl))) (gj_sub (ej_v 0 (hv := Or.inl rfl)) ej_int)) (bj_one (sj_ret (ej_v 5 (hv := Or.inl rfl)))))) bj_nil) (bj_cons (sj_asg (ej_op o_add (ej_ix o_ix (ej_v 0 (hv := Or.inl rfl)) ej_int (fun _ _ => rfl)) ej_int) (gj_sub (ej_v 0 (hv := Or.inl rfl)) ej_int)) (bj_cons (sj_set (i := 2) sc__law_take.nd rfl (Or.inl rfl) (ej_fz (lj_disp (aj_cons ej_int (aj_cons ej_int (aj_cons ej_int (aj_cons ej_int (aj_cons ej_int (aj_cons ej_int (aj_cons ej_int (aj_cons ej_int aj_nil))))))))))) (bj_cons (sj_set (i := 3) sc__law_take.nd rfl (Or.inl rfl) (ej_ix o_ix (ej_v 2 (hv := Or.inl rfl)) (ej_op o_mod (ej_ix o_ix (ej_v 0 (hv := Or.inl rfl)) ej_int (fun _ _ => rfl)) ej_int) (fun _ _ => rfl))) (bj_cons (sj_set (i := 4) sc__law_take.nd rfl (Or.inl rfl) (ej_op o_add (ej_op o_mod (ej_op o_mod (ej_op o_add (ej_ix o_ix (ej_v 0 (hv := Or.inl rfl)) ej_int (fun _ _ => rfl)) (ej_op o_mul (ej_op o_mul ej_int (ej_ix o_ix (ej_v 0 (hv := Or.inl rfl)) ej_int (fun _ _ => rfl))) (ej_ix o_ix (ej_v 0 (hv := Or.inl rfl)) ej_int (fun _ _ => rfl)))) (ej_op o_pow (ej_v 3 (hv := Or.inl rfl)) ej_int)) (ej_v 3 (hv := Or.inl rfl))) ej_int)) (bj_one (sj_ret (ej_op o_mod (ej_op o_div (ej_op o_mod (ej_op o_mul (ej_v 4 (hv := Or.inl rfl)) (ej_op o_add (ej_op o_mod (ej_v 4 (hv := Or.inl rfl)) ej_int) (ej_ix o_ix (ej_v 0 (hv := Or.inl rfl)) ej_int (fun _ _ => rfl)))) (ej_v 3 (hv := Or.inl rfl))) ej_int) (ej_v 1 (hv := Or.inl rfl))))))))))) real
abbrev N_common : List Str := ["row", "found", "number"]
theorem sc_common : FnScope N_common ["row"] (defScope s_common) := ⟨rfl, rfl, rfl, by decide +kernel, rfl, by decide +kernel, by decide +kernel⟩
theorem ok_common {f : Addr} {fd : FuncData} {con : Con} (F : FunD K "common" "common" (defArgs s_common) (defBody s_common) (defScope s_common) [] [] f fd) (len : ∀ ds S r, con ds S = some r → ds.length = 1)
  (real : ∀ ds S v S', WfS S → belowL S.length ds = true → con ds S = some (v, S') → ∃ o, b_common (sE 3 ds) S = some o ∧ Fin o v S' ∧ WfS S' ∧ S.length ≤ S'.length) : FnG P w K mg base (0 + 1) f fd ["row"] con :=
 fn_ok (b := b_common) F sc_common len (fun cdv A outer s H E hr => (bj_cons (sj_set (i := 1) sc_common.nd rfl (Or.inl rfl) ej_int) (bj_cons (sj_for PassesOwn.never rfl (ij_seq (ej_v 0 (hv := Or.inl rfl))) (gj_name (i := 2) sc_common.nd rfl (Or.inl rfl)) (bj_one (sj_while PassesOwn.never (tj_cmp (o_ne hr.u64) (ej_v 2 (hv := Or.inl rfl)) ej_int (nomark _)) (bj_one (sj_par (i := 1) (j := 2) rfl sc_common.nd rfl rfl (by decide) rfl rfl (aj_cons (ej_v 2 (hv := Or.inl rfl)) (aj_cons (ej_op o_mod (ej_v 1 (hv := Or.inl rfl)) (ej_v 2 (hv := Or.inl rfl))) aj_nil)) rfl))))) (bj_one (sj_ret (ej_v 1 (hv := Or.inl rfl))))))) real
abbrev N_lowest : List Str := ["row", "by", "number"]
theorem sc_lowest : FnScope N_lowest ["row"] (defScope s_lowest) := ⟨rfl, rfl, rfl, by decide +kernel, rfl, by decide +kernel, by decide +kernel⟩
theorem ok_lowest {f : Addr} {fd : FuncData} {con k_common : Con} (F : FunD K "lowest" "lowest" (defArgs s_lowest) (defBody s_lowest) (defScope s_lowest) [] [] f fd) (h_common : Cal P w K mg base 1 "common" ["row"] k_common) (m_tuple : mg "tuple" = none) (len : ∀ ds S r, con ds S = some r → ds.length = 1)
  (real : ∀ ds S v S', WfS S → belowL S.length ds = true → con ds S = some (v, S') → ∃ o, b_lowest k_common (sE 3 ds) S = some o ∧ Fin o v S' ∧ WfS S' ∧ S.length ≤ S'.length) : FnG P w K mg base (1 + 1) f fd ["row"] con :=
 fn_ok (b := b_lowest k_common) F sc_lowest len (fun cdv A outer s H E hr => (bj_cons (sj_set (i := 1) sc_lowest.nd rfl (Or.inr rfl) (ej_own h_common (hr.mono (by decide)) rfl (aj_cons (ej_v 0 (hv := Or.inl rfl)) aj_nil))) (bj_one (sj_ret (ej_callT b_tupP rfl m_tuple (by decide +kernel) (aj_cons (ej_fz (lj_lc (own := [("number", 2)]) rfl sc_lowest.nd (ij_seq (ej_v 0 (hv := Or.inl rfl))) (blkOk_by (N := N_lowest) (sc := defScope s_lowest) (by decide +kernel)) (fun _ _ _ _ _ => (gj_name (i := 2) sc_lowest.nd rfl (Or.inl rfl))) (fun _ _ _ _ _ => tsj_nil) (fun _ _ _ _ _ => (ej_op o_div (ej_v 2 (hv := Or.inl rfl)) (ej_v 1 (hv := Or.inr (Or.inl rfl))))) (by decide))) aj_nil)))))) real
abbrev N_is_whole : List Str := ["thing", "low", "high"]
theorem sc_is_whole : FnScope N_is_whole ["thing", "low", "high"] (defScope s_is_whole) := ⟨rfl, rfl, rfl, by decide +kernel, rfl, by decide +kernel, by decide +kernel⟩
theorem ok_is_whole {f : Addr} {fd : FuncData} {con : Con} (F : FunD K "is_whole" "is_whole" (defArgs s_is_whole) (defBody s_is_whole) (defScope s_is_whole) [] [] f fd) (m_isinstance : mg "isinstance" = none) (m_int : mg "int" = none) (m_bool : mg "bool" = none) (len : ∀ ds S r, con ds S = some r → ds.length = 3)
  (real : ∀ ds S v S', WfS S → belowL S.length ds = true → con ds S = some (v, S') → ∃ o, b_is_whole (sE 3 ds) S = some o ∧ Fin o v S' ∧ WfS S' ∧ S.length ≤ S'.length) : FnG P w K mg base (0 + 1) f fd ["thing", "low", "high"] con :=
 fn_ok (b := b_is_whole) F sc_is_whole len (fun cdv A outer s H E hr => (bj_one (sj_ret (ej_and (ej_isi (T := "int") rfl m_isinstance rfl m_int (by decide +kernel) (ej_v 0 (hv := Or.inl rfl))) (ej_and (ej_not (ej_isi (T := "bool") rfl m_isinstance rfl m_bool (by decide +kernel) (ej_v 0 (hv := Or.inl rfl)))) (ej_and (ej_cmp o_le (ej_v 1 (hv := Or.inl rfl)) (ej_v 0 (hv := Or.inl rfl)) (nomark _)) (ej_one (ej_or (ej_cmp o_is (ej_v 2 (hv := Or.inl rfl)) ej_non (nomark _)) (ej_one (ej_cmp o_le (ej_v 0 (hv := Or.inl rfl)) (ej_v 2 (hv := Or.inl rfl)) (nomark _))))))))))) real
abbrev N_is_shares : List Str := ["thing", "many", "part"]
theorem sc_is_shares : FnScope N_is_shares ["thing", "many"] (defScope s_is_shares) := ⟨rfl, rfl, rfl, by decide +kernel, rfl, by decide +kernel, by decide +kernel⟩
theorem ok_is_shares {f : Addr} {fd : FuncData} {con k_is_whole k_common : Con} (F : FunD K "is_shares" "is_shares" (defArgs s_is_shares) (defBody s_is_shares) (defScope s_is_shares) [] [] f fd) (h_is_whole : Cal P w K mg base 1 "is_whole" ["thing", "low", "high"] k_is_whole) (h_common : Cal P w K mg base 1 "common" ["row"] k_common) (m_isinstance : mg "isinstance" = none) (m_tuple : mg "tuple" = none) (m_len : mg "len" = none) (m_all : mg "all" = none) (len : ∀ ds S r, con ds S = some r → ds.length = 2)
  (real : ∀ ds S v S', WfS S → belowL S.length ds = true → con ds S = some (v, S') → ∃ o, b_is_shares k_is_whole k_common (sE 3 ds) S = some o ∧ Fin o v S' ∧ WfS S' ∧ S.length ≤ S'.length) : FnG P w K mg base (1 + 1) f fd ["thing", "many"] con :=
 fn_ok (b := b_is_shares k_is_whole k_common) F sc_is_shares len (fun cdv A outer s H E hr => (bj_cons (sj_if (wj_pt (wj_or (tj_not (tj_val (ej_isi (T := "tuple") rfl m_isinstance rfl m_tuple (by decide +kernel) (ej_v 0 (hv := Or.inl rfl))))) (wj_or (tj_cmp (o_ne hr.u64) (ej_callB b_len rfl m_len (by decide +kernel) (aj_cons (ej_v 0 (hv := Or.inl rfl)) aj_nil)) (ej_v 1 (hv := Or.inl rfl)) (nomark _)) (wj_or1 (tj_not (tj_val (ej_callB (b_all rfl) rfl m_all (by decide +kernel) (aj_cons (ej_fz (lj_lc (own := [("part", 2)]) rfl sc_is_shares.nd (ij_seq (ej_v 0 (hv := Or.inl rfl))) (blkOk_by (N := N_is_shares) (sc := defScope s_is_shares) (by decide +kernel)) (fun _ _ _ _ _ => (gj_name (i := 2) sc_is_shares.nd rfl (Or.inl rfl))) (fun _ _ _ _ _ => tsj_nil) (fun _ _ _ _ _ => (ej_own h_is_whole (hr.mono (by decide)) rfl (aj_cons (ej_v 2 (hv := Or.inl rfl)) (aj_cons ej_int (aj_cons ej_non aj_nil))))) (by decide))) aj_nil)))))))) (bj_one (sj_ret ej_bl)) bj_nil) (bj_one (sj_ret (ej_cmp (o_eq hr.u64) (ej_own h_common (hr.mono (by decide)) rfl (aj_cons (ej_v 0 (hv := Or.inl rfl)) aj_nil)) ej_int (nomark _)))))) real
abbrev N__law_rows : List Str := ["_law_many", "_law_total", "_law_found", "_law_first", "_law_rest"]
theorem sc__law_rows : FnScope N__law_rows ["_law_many", "_law_total"] (defScope s__law_rows) := ⟨rfl, rfl, rfl, by decide +kernel, rfl, by decide +kernel, by decide +kernel⟩
theorem ok__law_rows {f : Addr} {fd : FuncData} {k : Nat} {con k__law_rows : Con} (F : FunD K "_law_rows" "_law_rows" (defArgs s__law_rows) (defBody s__law_rows) (defScope s__law_rows) [] [] f fd) (h__law_rows : Cal P w K mg base k "_law_rows" ["_law_many", "_law_total"] k__law_rows) (m_range : mg "range" = none) (len : ∀ ds S r, con ds S = some r → ds.length = 2)
  (real : ∀ ds S v S', WfS S → belowL S.length ds = true → con ds S = some (v, S') → ∃ o, b__law_rows k__law_rows (sE 5 ds) S = some o ∧ Fin o v S' ∧ WfS S' ∧ S.length ≤ S'.length) : FnG P w K mg base (k + 1) f fd ["_law_many", "_law_total"] con :=
 fn_ok (b := b__law_rows k__law_rows) F sc__law_rows len (fun cdv A outer s H E hr => (bj_cons (sj_if (tj_cmp (o_eq hr.u64) (ej_v 0 (hv := Or.inl rfl)) ej_int (nomark _)) (bj_one (sj_ret (ej_fz (lj_disp (aj_cons (ej_tupP (aj_cons (ej_v 1 (hv := Or.inl rfl)) aj_nil)) aj_nil))))) bj_nil) (bj_cons (sj_set (i := 2) sc__law_rows.nd rfl (Or.inl rfl) (ej_bx (lj_disp aj_nil))) (bj_cons (sj_for PassesOwn.never rfl (ij_rg1 rfl m_range (ej_op o_add (ej_v 1 (hv := Or.inl rfl)) ej_int)) (gj_name (i := 3) sc__law_rows.nd rfl (Or.inr rfl)) (bj_one (sj_expr (ej_bm PySem.F.plainAttrs_list PySem.F.slot_list_extend PySem.F.type_list_extend m_extend (ej_v 2 (hv := Or.inl rfl)) (aj_cons (ej_fz (lj_lc (own := [("_law_rest", 4)]) rfl sc__law_rows.nd (ij_seq (ej_own h__law_rows hr rfl (aj_cons (ej_op o_sub (ej_v 0 (hv := Or.inl rfl)) ej_int) (aj_cons (ej_op o_sub (ej_v 1 (hv := Or.inl rfl)) (ej_v 3 (hv := Or.inr (Or.inl rfl)))) aj_nil)))) (blkOk_by (N := N__law_rows) (sc := defScope s__law_rows) (by decide +kernel)) (fun _ _ _ _ _ => (gj_name (i := 4) sc__law_rows.nd rfl (Or.inl rfl))) (fun _ _ _ _ _ => tsj_nil) (fun _ _ _ _ _ => (ej_op o_addP (ej_tupP (aj_cons (ej_v 3 (hv := Or.inr (Or.inl rfl))) aj_nil)) (ej_unP (ej_v 4 (hv := Or.inl rfl))))) (by decide))) aj_nil))))) (bj_one (sj_ret (ej_v 2 (hv := Or.inl rfl)))))))) real
abbrev N_mills : List Str := ["shares", "sign"]
theorem sc_mills : FnScope N_mills ["shares", "sign"] (defScope s_mills) := ⟨rfl, rfl, rfl, by decide +kernel, rfl, by decide +kernel, by decide +kernel⟩
theorem ok_mills {f : Addr} {fd : FuncData} {con : Con} (F : FunD K "mills" "mills" (defArgs s_mills) (defBody s_mills) (defScope s_mills) [] [] f fd) (m_sum : mg "sum" = none) (len : ∀ ds S r, con ds S = some r → ds.length = 2)
  (real : ∀ ds S v S', WfS S → belowL S.length ds = true → con ds S = some (v, S') → ∃ o, b_mills (sE 2 ds) S = some o ∧ Fin o v S' ∧ WfS S' ∧ S.length ≤ S'.length) : FnG P w K mg base (0 + 1) f fd ["shares", "sign"] con :=
 fn_ok (b := b_mills) F sc_mills len (fun cdv A outer s H E hr => (bj_one (sj_ret (ej_op o_div (ej_op o_mul ej_int (ej_ix o_ix (ej_v 0 (hv := Or.inl rfl)) (ej_v 1 (hv := Or.inl rfl)) (fun _ _ => rfl))) (ej_callB (b_sum rfl) rfl m_sum (by decide +kernel) (aj_cons (ej_v 0 (hv := Or.inl rfl)) aj_nil)))))) real
abbrev N__law_mills_right : List Str := ["_law_shares", "_law_some", "_law_even", "_law_turned", "_law_sign", "_law_part"]
theorem sc__law_mills_right : FnScope N__law_mills_right ["_law_shares"] (defScope s__law_mills_right) := ⟨rfl, rfl, rfl, by decide +kernel, rfl, by decide +kernel, by decide +kernel⟩
theorem ok__law_mills_right {f : Addr} {fd : FuncData} {con k_mills : Con} (F : FunD K "_law_mills_right" "_law_mills_right" (defArgs s__law_mills_right) (defBody s__law_mills_right) (defScope s__law_mills_right) [] [] f fd) (h_mills : Cal P w K mg base 1 "mills" ["shares", "sign"] k_mills) (m_range : mg "range" = none) (m_len : mg "len" = none) (m_enumerate : mg "enumerate" = none) (m_sum : mg "sum" = none) (len : ∀ ds S r, con ds S = some r → ds.length = 1)
  (real : ∀ ds S v S', WfS S → belowL S.length ds = true → con ds S = some (v, S') → ∃ o, b__law_mills_right k_mills (sE 6 ds) S = some o ∧ Fin o v S' ∧ WfS S' ∧ S.length ≤ S'.length) : FnG P w K mg base (1 + 1) f fd ["_law_shares"] con :=
 fn_ok (b := b__law_mills_right k_mills) F sc__law_mills_right len (fun cdv A outer s H E hr => (bj_cons (sj_setLc (i := 1) (own := [("_law_sign", 4)]) false rfl sc__law_mills_right.nd rfl rfl (sw_true rfl rfl rfl (by decide +kernel)) (ij_rg1 rfl m_range (ej_callB b_len rfl m_len (by decide +kernel) (aj_cons (ej_v 0 (hv := Or.inr (Or.inl rfl))) aj_nil))) (blkOk_by (N := N__law_mills_right) (sc := defScope s__law_mills_right) (by decide +kernel)) (fun _ _ _ _ _ => (gj_name (i := 4) sc__law_mills_right.nd rfl (Or.inl rfl))) (fun _ _ _ _ _ => tsj_nil) (fun _ _ _ _ _ => (ej_own h_mills (hr.mono (by decide)) rfl (aj_cons (ej_v 0 (hv := Or.inr (Or.inl rfl))) (aj_cons (ej_v 4 (hv := Or.inl rfl)) aj_nil)))) (by decide)) (bj_cons (sj_setLc (i := 2) (own := [("_law_sign", 4), ("_law_part", 5)]) false rfl sc__law_mills_right.nd rfl rfl (sw_true rfl rfl rfl (by decide +kernel)) (ij_enum rfl m_enumerate (ej_v 0 (hv := Or.inr (Or.inl rfl)))) (blkOk_by (N := N__law_mills_right) (sc := defScope s__law_mills_right) (by decide +kernel)) (fun _ _ _ _ _ => (gj_tup rfl (gsj_cons (gj_name (i := 4) sc__law_mills_right.nd rfl (Or.inl rfl)) (gsj_cons (gj_name (i := 5) sc__law_mills_right.nd rfl (Or.inl rfl)) gsj_nil)))) (fun _ _ _ _ _ => (tsj_one (tj_cmp (o_eq hr.u64) (ej_op o_mod (ej_op o_mul ej_int (ej_v 5 (hv := Or.inl rfl))) (ej_callB (b_sum rfl) rfl m_sum (by decide +kernel) (aj_cons (ej_v 0 (hv := Or.inr (Or.inl rfl))) aj_nil))) ej_int (nomark _)))) (fun _ _ _ _ _ => (ej_v 4 (hv := Or.inl rfl))) (by decide)) (bj_cons (sj_if (wj_pt (wj_or (tj_not (tj_chain o_lt o_le (ej_op o_sub ej_int (ej_callB b_len rfl m_len (by decide +kernel) (aj_cons (ej_v 0 (hv := Or.inr (Or.inl rfl))) aj_nil))) (ej_callB (b_sum rfl) rfl m_sum (by decide +kernel) (aj_cons (ej_v 1 (hv := Or.inl rfl)) aj_nil)) ej_int)) (wj_or1 (tj_cmp (o_ne hr.u64) (ej_cmp (o_eq hr.u64) (ej_callB (b_sum rfl) rfl m_sum (by decide +kernel) (aj_cons (ej_v 1 (hv := Or.inl rfl)) aj_nil)) ej_int (nomark _)) (ej_cmp (o_eq hr.u64) (ej_callB b_len rfl m_len (by decide +kernel) (aj_cons (ej_v 2 (hv := Or.inl rfl)) aj_nil)) (ej_callB b_len rfl m_len (by decide +kernel) (aj_cons (ej_v 0 (hv := Or.inr (Or.inl rfl))) aj_nil)) (nomark _)) (nomark _))))) (bj_one (sj_ret ej_bl)) bj_nil) (bj_cons (sj_set (i := 3) sc__law_mills_right.nd rfl (Or.inr rfl) (ej_revT (ej_v 0 (hv := Or.inr (Or.inl rfl))))) (bj_one (sj_ret (ej_cmp (o_eq hr.u64) (ej_fz (lj_lc (own := [("_law_sign", 4)]) rfl sc__law_mills_right.nd (ij_rg1 rfl m_range (ej_callB b_len rfl m_len (by decide +kernel) (aj_cons (ej_v 0 (hv := Or.inr (Or.inl rfl))) aj_nil))) (blkOk_by (N := N__law_mills_right) (sc := defScope s__law_mills_right) (by decide +kernel)) (fun _ _ _ _ _ => (gj_name (i := 4) sc__law_mills_right.nd rfl (Or.inl rfl))) (fun _ _ _ _ _ => tsj_nil) (fun _ _ _ _ _ => (ej_own h_mills (hr.mono (by decide)) rfl (aj_cons (ej_v 3 (hv := Or.inr (Or.inl rfl))) (aj_cons (ej_v 4 (hv := Or.inl rfl)) aj_nil)))) (by decide))) (ej_fz (lj_rev (ej_v 1 (hv := Or.inl rfl)))) (nomark _))))))))) real
abbrev N__law_right : List Str := ["_law_hand_here", "_law_many", "_law_total", "_law_by", "_law_rows_here", "_law_found", "_law_row", "_law_counts", "_law_met", "_law_times", "_law_some", "_law_made", "_law_number"]
theorem sc__law_right : FnScope N__law_right ["_law_hand_here", "_law_many", "_law_total"] (defScope s__law_right) := ⟨rfl, rfl, rfl, by decide +kernel, rfl, by decide +kernel, by decide +kernel⟩
theorem ok__law_right {f : Addr} {fd : FuncData} {con k__law_take k__law_rows k_is_shares k_lowest k__law_mills_right : Con} (F : FunD K "_law_right" "_law_right" (defArgs s__law_right) (defBody s__law_right) (defScope s__law_right) [] [] f fd) (h__law_take : Cal P w K mg base 1 "_law_take" ["_law_hand_here", "_law_many"] k__law_take) (h__law_rows : Cal P w K mg base 4 "_law_rows" ["_law_many", "_law_total"] k__law_rows) (h_is_shares : Cal P w K mg base 2 "is_shares" ["thing", "many"] k_is_shares) (h_lowest : Cal P w K mg base 2 "lowest" ["row"] k_lowest) (h__law_mills_right : Cal P w K mg base 2 "_law_mills_right" ["_law_shares"] k__law_mills_right) (m_range : mg "range" = none) (m_len : mg "len" = none) (m_dict : mg "dict" = none) (m_sum : mg "sum" = none) (m_tuple : mg "tuple" = none) (m_all : mg "all" = none) (len : ∀ ds S r, con ds S = some r → ds.length = 3)
  (real : ∀ ds S v S', WfS S → belowL S.length ds = true → con ds S = some (v, S') → ∃ o, b__law_right k__law_take k__law_rows k_is_shares k_lowest k__law_mills_right (sE 13 ds) S = some o ∧ Fin o v S' ∧ WfS S' ∧ S.length ≤ S'.length) : FnG P w K mg base (4 + 1) f fd ["_law_hand_here", "_law_many", "_law_total"] con :=
 fn_ok (b := b__law_right k__law_take k__law_rows k_is_shares k_lowest k__law_mills_right) F sc__law_right len (fun cdv A outer s H E hr => (bj_cons (sj_asg (ej_tup (aj_cons ej_dk0 (aj_cons ej_de0 (aj_cons (ej_op o_add ej_int (ej_own h__law_take (hr.mono (by decide)) rfl (aj_cons (ej_v 0 (hv := Or.inl rfl)) (aj_cons ej_int aj_nil)))) aj_nil)))) (gj_tup rfl (gsj_cons (gj_name (i := 7) sc__law_right.nd rfl (Or.inr rfl)) (gsj_cons (gj_name (i := 8) sc__law_right.nd rfl (Or.inr rfl)) (gsj_cons (gj_name (i := 9) sc__law_right.nd rfl (Or.inr rfl)) gsj_nil))))) (bj_cons (sj_for PassesOwn.never rfl (ij_seq (ej_fz (lj_lc (own := [("_law_by", 3)]) rfl sc__law_right.nd (ij_rg2 rfl m_range ej_int (ej_op o_add (ej_v 2 (hv := Or.inr (Or.inl rfl))) ej_int)) (blkOk_by (N := N__law_right) (sc := defScope s__law_right) (by decide +kernel)) (fun _ _ _ _ _ => (gj_name (i := 3) sc__law_right.nd rfl (Or.inl rfl))) (fun _ _ _ _ _ => (tsj_one (tj_cmp (o_eq hr.u64) (ej_op o_mod (ej_v 2 (hv := Or.inr (Or.inl rfl))) (ej_v 3 (hv := Or.inl rfl))) ej_int (nomark _)))) (fun _ _ _ _ _ => (ej_v 3 (hv := Or.inl rfl))) (by decide)))) (gj_name (i := 3) sc__law_right.nd rfl (Or.inr rfl)) (bj_cons (sj_setLc (i := 10) (own := [("_law_row", 6)]) false rfl sc__law_right.nd rfl rfl (sw_true rfl rfl rfl (by decide +kernel)) (ij_seq (ej_own h__law_rows (hr.mono (by decide)) rfl (aj_cons (ej_v 1 (hv := Or.inr (Or.inl rfl))) (aj_cons (ej_v 3 (hv := Or.inr (Or.inl rfl))) aj_nil)))) (blkOk_by (N := N__law_right) (sc := defScope s__law_right) (by decide +kernel)) (fun _ _ _ _ _ => (gj_name (i := 6) sc__law_right.nd rfl (Or.inl rfl))) (fun _ _ _ _ _ => (tsj_one (tj_val (ej_own h_is_shares (hr.mono (by decide)) rfl (aj_cons (ej_unP (ej_v 6 (hv := Or.inl rfl))) (aj_cons (ej_v 1 (hv := Or.inr (Or.inl rfl))) aj_nil)))))) (fun _ _ _ _ _ => (ej_v 6 (hv := Or.inl rfl))) (by decide)) (bj_cons (sj_dput hr.u64 (ej_callB b_len rfl m_len (by decide +kernel) (aj_cons (ej_v 10 (hv := Or.inl rfl)) aj_nil)) (ej_v 7 (hv := Or.inr (Or.inl rfl))) (ej_v 3 (hv := Or.inr (Or.inl rfl)))) (bj_one (sj_expr (ej_dupt hr.u64 (ej_v 8 (hv := Or.inr (Or.inl rfl))) (ej_dpr hr.u64 rfl m_dict (ej_fz (lj_lc (own := [("_law_row", 6)]) rfl sc__law_right.nd (ij_seq (ej_v 10 (hv := Or.inl rfl))) (blkOk_by (N := N__law_right) (sc := defScope s__law_right) (by decide +kernel)) (fun _ _ _ _ _ => (gj_name (i := 6) sc__law_right.nd rfl (Or.inl rfl))) (fun _ _ _ _ _ => tsj_nil) (fun _ _ _ _ _ => (ej_tup (aj_cons (ej_v 6 (hv := Or.inl rfl)) (aj_cons (ej_v 3 (hv := Or.inr (Or.inl rfl))) aj_nil)))) (by decide)))) ⟨rfl, rfl, rfl, rfl⟩)))))) (bj_cons (sj_set (i := 4) sc__law_right.nd rfl (Or.inl rfl) (ej_own h__law_rows (hr.mono (by decide)) rfl (aj_cons (ej_v 1 (hv := Or.inr (Or.inl rfl))) (aj_cons (ej_v 2 (hv := Or.inr (Or.inl rfl))) aj_nil)))) (bj_cons (sj_if (tj_cmp (o_ne hr.u64) (ej_callB (b_sum rfl) rfl m_sum (by decide +kernel) (aj_cons (ej_fz (lj_vals (own := [("_law_by", 3)]) (i := 7) (j := 3) rfl sc__law_right.nd hr.u64 (blkOk_by (N := N__law_right) (sc := defScope s__law_right) (by decide +kernel)) (pe_var rfl (Or.inr (Or.inl rfl))) (fun _ _ _ _ _ => pg_name sc__law_right.nd rfl (Or.inl rfl)) (fun _ _ _ _ _ => pe_var rfl (Or.inr (Or.inl rfl))) (fun _ _ _ _ _ => pe_var rfl (Or.inl rfl)) (by decide) (by decide) (by decide))) aj_nil)) (ej_callB b_len rfl m_len (by decide +kernel) (aj_cons (ej_v 4 (hv := Or.inl rfl)) aj_nil)) (nomark _)) (bj_one (sj_ret ej_bl)) bj_nil) (bj_cons (sj_set (i := 5) sc__law_right.nd rfl (Or.inl rfl) ej_de0) (bj_cons (sj_for PassesOwn.never rfl (ij_seq (ej_v 4 (hv := Or.inl rfl))) (gj_name (i := 6) sc__law_right.nd rfl (Or.inl rfl)) (bj_cons (sj_set (i := 11) sc__law_right.nd rfl (Or.inr rfl) (ej_own h_lowest (hr.mono (by decide)) rfl (aj_cons (ej_unP (ej_v 6 (hv := Or.inl rfl))) aj_nil))) (bj_cons (sj_if (wj_pt (wj_or (tj_cmp (o_dtnotin hr.u65) (ej_v 11 (hv := Or.inr (Or.inl rfl))) (ej_v 8 (hv := Or.inr (Or.inl rfl))) rfl) (wj_or (tj_cmp (o_dtin hr.u65) (ej_v 11 (hv := Or.inr (Or.inl rfl))) (ej_v 5 (hv := Or.inl rfl)) rfl) (wj_or1 (tj_cmp (o_ne hr.u64) (ej_unP (ej_own h_lowest (hr.mono (by decide)) rfl (aj_cons (ej_callT b_tuple rfl m_tuple (by decide +kernel) (aj_cons (ej_fz (lj_lc (own := [("_law_number", 12)]) rfl sc__law_right.nd (ij_seq (ej_unP (ej_v 6 (hv := Or.inl rfl)))) (blkOk_by (N := N__law_right) (sc := defScope s__law_right) (by decide +kernel)) (fun _ _ _ _ _ => (gj_name (i := 12) sc__law_right.nd rfl (Or.inl rfl))) (fun _ _ _ _ _ => tsj_nil) (fun _ _ _ _ _ => (ej_op o_mul (ej_v 9 (hv := Or.inr (Or.inl rfl))) (ej_v 12 (hv := Or.inl rfl)))) (by decide))) aj_nil)) aj_nil))) (ej_unP (ej_v 11 (hv := Or.inr (Or.inl rfl)))) (nomark _)))))) (bj_one (sj_ret ej_bl)) bj_nil) (bj_cons (sj_if (tj_cmp (o_ne hr.u64) (ej_callT b_tuple rfl m_tuple (by decide +kernel) (aj_cons (ej_fz (lj_lc (own := [("_law_number", 12)]) rfl sc__law_right.nd (ij_seq (ej_unP (ej_v 11 (hv := Or.inr (Or.inl rfl))))) (blkOk_by (N := N__law_right) (sc := defScope s__law_right) (by decide +kernel)) (fun _ _ _ _ _ => (gj_name (i := 12) sc__law_right.nd rfl (Or.inl rfl))) (fun _ _ _ _ _ => tsj_nil) (fun _ _ _ _ _ => (ej_op o_mul (ej_op o_div (ej_v 2 (hv := Or.inr (Or.inl rfl))) (ej_dtix hr.u64 (ej_v 8 (hv := Or.inr (Or.inl rfl))) (ej_v 11 (hv := Or.inr (Or.inl rfl))) (fun _ _ => rfl))) (ej_v 12 (hv := Or.inl rfl)))) (by decide))) aj_nil)) (ej_unP (ej_v 6 (hv := Or.inl rfl))) (nomark _)) (bj_one (sj_ret ej_bl)) bj_nil) (bj_one (sj_dputT hr.u64 ej_bl (ej_v 5 (hv := Or.inl rfl)) (ej_v 11 (hv := Or.inr (Or.inl rfl))))))))) (bj_one (sj_ret (ej_and (ej_cmp (o_eq hr.u64) (ej_callB b_lenDT rfl m_len (by decide +kernel) (aj_cons (ej_v 5 (hv := Or.inl rfl)) aj_nil)) (ej_callB b_lenDT rfl m_len (by decide +kernel) (aj_cons (ej_v 8 (hv := Or.inr (Or.inl rfl))) aj_nil)) (nomark _)) (ej_one (ej_callB (b_all rfl) rfl m_all (by decide +kernel) (aj_cons (ej_fz (lj_lc (own := [("_law_row", 6)]) rfl sc__law_right.nd (ij_seq (ej_v 4 (hv := Or.inl rfl))) (blkOk_by (N := N__law_right) (sc := defScope s__law_right) (by decide +kernel)) (fun _ _ _ _ _ => (gj_name (i := 6) sc__law_right.nd rfl (Or.inl rfl))) (fun _ _ _ _ _ => (tsj_one (tj_val (ej_own h_is_shares (hr.mono (by decide)) rfl (aj_cons (ej_unP (ej_v 6 (hv := Or.inl rfl))) (aj_cons (ej_v 1 (hv := Or.inr (Or.inl rfl))) aj_nil)))))) (fun _ _ _ _ _ => (ej_own h__law_mills_right (hr.mono (by decide)) rfl (aj_cons (ej_unP (ej_v 6 (hv := Or.inl rfl))) aj_nil))) (by decide))) aj_nil))))))))))))) real
abbrev N_law : List Str := ["_law_script", "_law_k", "_law_hand_here", "_law_many", "_law_most"]
theorem sc_law : FnScope N_law ["_law_script"] (defScope s_law) := ⟨rfl, rfl, rfl, by decide +kernel, rfl, by decide +kernel, by decide +kernel⟩
theorem ok_law {f : Addr} {fd : FuncData} {con k__law_hand k__law_right k__law_take : Con} (F : FunD K "law" "law" (defArgs s_law) (defBody s_law) (defScope s_law) [] [] f fd) (h__law_hand : Cal P w K mg base 1 "_law_hand" ["_law_script", "_law_k"] k__law_hand) (h__law_right : Cal P w K mg base 5 "_law_right" ["_law_hand_here", "_law_many", "_law_total"] k__law_right) (h__law_take : Cal P w K mg base 1 "_law_take" ["_law_hand_here", "_law_many"] k__law_take) (m_range : mg "range" = none) (m_max : mg "max" = none) (m_min : mg "min" = none) (m_len : mg "len" = none) (len : ∀ ds S r, con ds S = some r → ds.length = 1)
  (real : ∀ ds S v S', WfS S → belowL S.length ds = true → con ds S = some (v, S') → ∃ o, b_law k__law_hand k__law_right k__law_take (sE 5 ds) S = some o ∧ Fin o v S' ∧ WfS S' ∧ S.length ≤ S'.length) : FnG P w K mg base (5 + 1) f fd ["_law_script"] con :=
 fn_ok (b := b_law k__law_hand k__law_right k__law_take) F sc_law len (fun cdv A outer s H E hr => (bj_cons (sj_for PassesOwn.never rfl (ij_rg1 rfl m_range (ej_callB (b_max2 rfl) rfl m_max (by decide +kernel) (aj_cons ej_int (aj_cons (ej_callB (b_min2 rfl) rfl m_min (by decide +kernel) (aj_cons ej_int (aj_cons (ej_callB b_len rfl m_len (by decide +kernel) (aj_cons (ej_v 0 (hv := Or.inl rfl)) aj_nil)) aj_nil))) aj_nil)))) (gj_name (i := 1) sc_law.nd rfl (Or.inl rfl)) (bj_cons (sj_set (i := 2) sc_law.nd rfl (Or.inl rfl) (ej_own h__law_hand (hr.mono (by decide)) rfl (aj_cons (ej_v 0 (hv := Or.inl rfl)) (aj_cons (ej_v 1 (hv := Or.inl rfl)) aj_nil)))) (bj_one (sj_for PassesOwn.never rfl (ij_seq (ej_tup (aj_cons (ej_tup (aj_cons ej_int (aj_cons ej_int aj_nil))) (aj_cons (ej_tup (aj_cons ej_int (aj_cons ej_int aj_nil))) aj_nil)))) (gj_tup rfl (gsj_cons (gj_name (i := 3) sc_law.nd rfl (Or.inl rfl)) (gsj_cons (gj_name (i := 4) sc_law.nd rfl (Or.inl rfl)) gsj_nil))) (bj_one (sj_if (tj_not (tj_val (ej_own h__law_right (hr.mono (by decide)) rfl (aj_cons (ej_v 2 (hv := Or.inl rfl)) (aj_cons (ej_v 3 (hv := Or.inl rfl)) (aj_cons (ej_op o_add ej_int (ej_own h__law_take (hr.mono (by decide)) rfl (aj_cons (ej_v 2 (hv := Or.inl rfl)) (aj_cons (ej_v 4 (hv := Or.inl rfl)) aj_nil)))) aj_nil)))))) (bj_one (sj_ret ej_bl)) bj_nil)))))) (bj_one (sj_ret ej_bl)))) real
end
theorem obP_eq (s : PySem.W.SharedT) : obP s = hkP.obs s.abs := obsP_eq (HandSHeadRun.getT_eq s)
theorem factsP {P : Program} {w : World} {K : PySem.W.Frag} {h : Heap} {mg : Str → Option Value} {f : Addr} (X : K.In h) (G : h.Ns mainGlobals mg) (hfa : mg ("law" : Str) = some (.ref f)) (c : SaysP faL fnL csL K) :
  ∃ fd : FuncData, (∀ (s : Shared) (v : Value), BindsTo s fd ⟨[v], []⟩ [("_law_script", v)]) ∧ ∀ base : Heap, K.In base → base.Ns mainGlobals mg → FnG P w K mg base 6 f fd ["_law_script"] c_law := by
 obtain ⟨fd__law_hand, F__law_hand⟩ := c.d.def_ 0 (d := ⟨("_law_hand", none), "_law_hand", "_law_hand", defArgs s__law_hand, defBody s__law_hand, defScope s__law_hand, [], []⟩) rfl
 have n__law_hand := He.glo_ok X G (c.d.fact 0 (f := .glo "_law_hand") rfl)
 obtain ⟨fd__law_take, F__law_take⟩ := c.d.def_ 1 (d := ⟨("_law_take", none), "_law_take", "_law_take", defArgs s__law_take, defBody s__law_take, defScope s__law_take, [], []⟩) rfl
 have n__law_take := He.glo_ok X G (c.d.fact 1 (f := .glo "_law_take") rfl)
 obtain ⟨fd_common, F_common⟩ := c.d.def_ 2 (d := ⟨("common", none), "common", "common", defArgs s_common, defBody s_common, defScope s_common, [], []⟩) rfl
 have n_common := He.glo_ok X G (c.d.fact 2 (f := .glo "common") rfl)
 obtain ⟨fd_lowest, F_lowest⟩ := c.d.def_ 3 (d := ⟨("lowest", none), "lowest", "lowest", defArgs s_lowest, defBody s_lowest, defScope s_lowest, [], []⟩) rfl
 have n_lowest := He.glo_ok X G (c.d.fact 3 (f := .glo "lowest") rfl)
 obtain ⟨fd_is_whole, F_is_whole⟩ := c.d.def_ 4 (d := ⟨("is_whole", none), "is_whole", "is_whole", defArgs s_is_whole, defBody s_is_whole, defScope s_is_whole, [], []⟩) rfl
 have n_is_whole := He.glo_ok X G (c.d.fact 4 (f := .glo "is_whole") rfl)
 obtain ⟨fd_is_shares, F_is_shares⟩ := c.d.def_ 5 (d := ⟨("is_shares", none), "is_shares", "is_shares", defArgs s_is_shares, defBody s_is_shares, defScope s_is_shares, [], []⟩) rfl
 have n_is_shares := He.glo_ok X G (c.d.fact 5 (f := .glo "is_shares") rfl)
 obtain ⟨fd__law_rows, F__law_rows⟩ := c.d.def_ 6 (d := ⟨("_law_rows", none), "_law_rows", "_law_rows", defArgs s__law_rows, defBody s__law_rows, defScope s__law_rows, [], []⟩) rfl
 have n__law_rows := He.glo_ok X G (c.d.fact 6 (f := .glo "_law_rows") rfl)
 obtain ⟨fd_mills, F_mills⟩ := c.d.def_ 7 (d := ⟨("mills", none), "mills", "mills", defArgs s_mills, defBody s_mills, defScope s_mills, [], []⟩) rfl
 have n_mills := He.glo_ok X G (c.d.fact 7 (f := .glo "mills") rfl)
 obtain ⟨fd__law_mills_right, F__law_mills_right⟩ := c.d.def_ 8 (d := ⟨("_law_mills_right", none), "_law_mills_right", "_law_mills_right", defArgs s__law_mills_right, defBody s__law_mills_right, defScope s__law_mills_right, [], []⟩) rfl
 have n__law_mills_right := He.glo_ok X G (c.d.fact 8 (f := .glo "_law_mills_right") rfl)
 obtain ⟨fd__law_right, F__law_right⟩ := c.d.def_ 9 (d := ⟨("_law_right", none), "_law_right", "_law_right", defArgs s__law_right, defBody s__law_right, defScope s__law_right, [], []⟩) rfl
 have n__law_right := He.glo_ok X G (c.d.fact 9 (f := .glo "_law_right") rfl)
 obtain ⟨fd_law, F_law⟩ := c.d.def_ 10 (d := ⟨("law", none), "law", "law", defArgs s_law, defBody s_law, defScope s_law, [], []⟩) rfl
 have n_law := He.glo_ok X G (c.d.fact 10 (f := .glo "law") rfl)
 have m_abs := He.free_ok X G (c.d.fact 11 (f := .free "abs") rfl)
 have m_all := He.free_ok X G (c.d.fact 12 (f := .free "all") rfl)
 have m_bool := He.free_ok X G (c.d.fact 13 (f := .free "bool") rfl)
 have m_dict := He.free_ok X G (c.d.fact 14 (f := .free "dict") rfl)
 have m_enumerate := He.free_ok X G (c.d.fact 15 (f := .free "enumerate") rfl)
 have m_int := He.free_ok X G (c.d.fact 16 (f := .free "int") rfl)
 have m_isinstance := He.free_ok X G (c.d.fact 17 (f := .free "isinstance") rfl)
 have m_len := He.free_ok X G (c.d.fact 18 (f := .free "len") rfl)
 have m_max := He.free_ok X G (c.d.fact 19 (f := .free "max") rfl)
 have m_min := He.free_ok X G (c.d.fact 20 (f := .free "min") rfl)
 have m_range := He.free_ok X G (c.d.fact 21 (f := .free "range") rfl)
 have m_sum := He.free_ok X G (c.d.fact 22 (f := .free "sum") rfl)
 have m_tuple := He.free_ok X G (c.d.fact 23 (f := .free "tuple") rfl)
 have e := hfa.symm.trans n_law
 cases e
 have b := FunD.bindsA (ps := ["_law_script"]) F_law fun _ _ _ _ _ _ us hl => match us, hl with | [_], _ => rfl
 refine ⟨fd_law, fun s v => b s [v] rfl, fun base hK hG => ?_⟩
 have k__law_hand : FnG P w K mg base 1 _ _ ["_law_script", "_law_k"] c__law_hand := ok__law_hand F__law_hand m_len m_abs m_int den_len den_real
 have h__law_hand : Cal P w K mg base 1 "_law_hand" ["_law_script", "_law_k"] c__law_hand := Cal.of F__law_hand n__law_hand k__law_hand fun _ _ _ _ _ _ us hl => match us, hl with | [_, _], _ => rfl
 have k__law_take : FnG P w K mg base 1 _ _ ["_law_hand_here", "_law_many"] c__law_take := ok__law_take F__law_take den_len den_real
 have h__law_take : Cal P w K mg base 1 "_law_take" ["_law_hand_here", "_law_many"] c__law_take := Cal.of F__law_take n__law_take k__law_take fun _ _ _ _ _ _ us hl => match us, hl with | [_, _], _ => rfl
 have k_common : FnG P w K mg base 1 _ _ ["row"] c_common := ok_common F_common den_len den_real
 have h_common : Cal P w K mg base 1 "common" ["row"] c_common := Cal.of F_common n_common k_common fun _ _ _ _ _ _ us hl => match us, hl with | [_], _ => rfl
 have k_lowest : FnG P w K mg base 2 _ _ ["row"] c_lowest := ok_lowest F_lowest h_common m_tuple den_len den_real
 have h_lowest : Cal P w K mg base 2 "lowest" ["row"] c_lowest := Cal.of F_lowest n_lowest k_lowest fun _ _ _ _ _ _ us hl => match us, hl with | [_], _ => rfl
 have k_is_whole : FnG P w K mg base 1 _ _ ["thing", "low", "high"] c_is_whole := ok_is_whole F_is_whole m_isinstance m_int m_bool den_len den_real
 have h_is_whole : Cal P w K mg base 1 "is_whole" ["thing", "low", "high"] c_is_whole := Cal.of F_is_whole n_is_whole k_is_whole fun _ _ _ _ _ _ us hl => match us, hl with | [_, _, _], _ => rfl
 have k_is_shares : FnG P w K mg base 2 _ _ ["thing", "many"] c_is_shares := ok_is_shares F_is_shares h_is_whole h_common m_isinstance m_tuple m_len m_all den_len den_real
 have h_is_shares : Cal P w K mg base 2 "is_shares" ["thing", "many"] c_is_shares := Cal.of F_is_shares n_is_shares k_is_shares fun _ _ _ _ _ _ us hl => match us, hl with | [_, _], _ => rfl
 have kk__law_rows : ∀ n, FnG P w K mg base (0 + n) _ _ ["_law_many", "_law_total"] (cc__law_rows n) := fun n => by
  induction n with
  | zero => exact FnG.none_
  | succ n ih => exact ok__law_rows (k := 0 + n) F__law_rows (Cal.of F__law_rows n__law_rows ih fun _ _ _ _ _ _ us hl => match us, hl with | [_, _], _ => rfl) m_range den_len den_real
 have k__law_rows : FnG P w K mg base 4 _ _ ["_law_many", "_law_total"] c__law_rows := kk__law_rows 4
 have h__law_rows : Cal P w K mg base 4 "_law_rows" ["_law_many", "_law_total"] c__law_rows := Cal.of F__law_rows n__law_rows k__law_rows fun _ _ _ _ _ _ us hl => match us, hl with | [_, _], _ => rfl
 have k_mills : FnG P w K mg base 1 _ _ ["shares", "sign"] c_mills := ok_mills F_mills m_sum den_len den_real
 have h_mills : Cal P w K mg base 1 "mills" ["shares", "sign"] c_mills := Cal.of F_mills n_mills k_mills fun _ _ _ _ _ _ us hl => match us, hl with | [_, _], _ => rfl
 have k__law_mills_right : FnG P w K mg base 2 _ _ ["_law_shares"] c__law_mills_right := ok__law_mills_right F__law_mills_right h_mills m_range m_len m_enumerate m_sum den_len den_real
 have h__law_mills_right : Cal P w K mg base 2 "_law_mills_right" ["_law_shares"] c__law_mills_right := Cal.of F__law_mills_right n__law_mills_right k__law_mills_right fun _ _ _ _ _ _ us hl => match us, hl with | [_], _ => rfl
 have k__law_right : FnG P w K mg base 5 _ _ ["_law_hand_here", "_law_many", "_law_total"] c__law_right := ok__law_right F__law_right h__law_take h__law_rows h_is_shares h_lowest h__law_mills_right m_range m_len m_dict m_sum m_tuple m_all den_len den_real
 have h__law_right : Cal P w K mg base 5 "_law_right" ["_law_hand_here", "_law_many", "_law_total"] c__law_right := Cal.of F__law_right n__law_right k__law_right fun _ _ _ _ _ _ us hl => match us, hl with | [_, _, _], _ => rfl
 exact ok_law F_law h__law_hand h__law_right h__law_take m_range m_max m_min m_len den_len den_real
theorem e__law_hand : c__law_hand = Pv.c_hand := rfl
theorem e__law_take : c__law_take = Pv.c_take := rfl
theorem e_common : c_common = Pv.c_common := rfl
theorem e_is_shares : c_is_shares = Pv.c_isshares := rfl
theorem e_mills : c_mills = Pv.c_mills := rfl
end Q02
namespace Pv
open PySem PySem.Spec PyProof.Rows L2
def rwN : Nat → Nat → List (List Nat)
 | 0, _ => []
 | 1, t => [[t]]
 | m + 2, t => (List.range (t + 1)).flatMap fun f => (rwN (m + 1) (t - f)).map (f :: ·)
def gcN (r : List Nat) : Nat := r.foldl Nat.gcd 0
def lwN (r : List Nat) : List Nat := r.map (· / gcN r)
def zv (r : List Nat) : List Int := r.map (fun n : Nat => (n : Int))
def tPN (r : List Nat) : D := .tag 1000 ((zv r).map (D.int))
def kz (r : List Nat) : List Key := r.map (fun n : Nat => .inl (n : Int))
def prm (m d : Nat) : List (List Nat) := (rwN m d).filter fun r => Nat.beq (gcN r) 1
def dvs (t : Nat) : List Nat := ((List.range t).map (· + 1)).filter fun d => Nat.beq (t % d) 0
def keysOn (m : Nat) (ds : List Nat) : List (List Nat) := ds.flatMap (prm m)
def valsOn (m : Nat) (ds : List Nat) : List Nat := ds.flatMap fun d => (prm m d).map fun _ => d
def eqB : List Nat → List Nat → Bool
 | [], [] => true
 | a :: x, b :: y => Nat.beq a b && eqB x y
 | _, _ => false
theorem eqB_iff : ∀ {x y : List Nat}, eqB x y = true ↔ x = y
 | [], [] => by simp [eqB]
 | [], b :: y => by simp [eqB]
 | a :: x, [] => by simp [eqB]
 | a :: x, b :: y => by
  rw [eqB, Bool.and_eq_true, eqB_iff (x := x) (y := y), Nat.beq_eq, List.cons.injEq]
def lookN : List (List Nat) → List Nat → List Nat → Option Nat
 | k :: ks, v :: vs, r => if eqB k r = true then some v else lookN ks vs r
 | _, _, _ => none
end Pv
namespace Q02
open PySem PySem.Spec PyProof.Rows L2 Pv
theorem gcdF_zv : ∀ (r : List Nat) (g : Nat), gcdF (g : Int) (zv r) = ((r.foldl Nat.gcd g : Nat) : Int)
 | [], g => rfl
 | n :: r, g => gcdF_zv r (Nat.gcd g n)
theorem gcd_zv (r : List Nat) : gcdF 0 (zv r) = (gcN r : Nat) := gcdF_zv r 0
theorem fgcd_mul (t : Nat) : ∀ (r : List Nat) (g : Nat), (r.map (t * ·)).foldl Nat.gcd (t * g) = t * r.foldl Nat.gcd g
 | [], g => rfl
 | n :: r, g => by
  rw [List.map_cons, List.foldl_cons, List.foldl_cons, Nat.gcd_mul_left, fgcd_mul t r]
theorem gc_mul (t : Nat) (r : List Nat) : gcN (r.map (t * ·)) = t * gcN r := by
 have := fgcd_mul t r 0
 rw [Nat.mul_zero] at this
 exact this
theorem lw_mul {t : Nat} (ht : 0 < t) (r : List Nat) : lwN (r.map (t * ·)) = lwN r := by
 unfold lwN
 rw [gc_mul, List.map_map]
 exact List.map_congr_left fun n _ => Nat.mul_div_mul_left _ _ ht
theorem rw_len : ∀ {m t : Nat} {r : List Nat}, r ∈ rwN m t → r.length = m
 | 0, _, r, h => nomatch h
 | 1, t, r, h => by rw [List.mem_singleton.mp h]; rfl
 | m + 2, t, r, h => by
  obtain ⟨f, _, h⟩ := List.mem_flatMap.mp h
  obtain ⟨x, h2, rfl⟩ := List.mem_map.mp h
  rw [List.length_cons, rw_len h2]
theorem rw_sum : ∀ {m t : Nat} {r : List Nat}, r ∈ rwN m t → r.sum = t
 | 0, _, r, h => nomatch h
 | 1, t, r, h => by rw [List.mem_singleton.mp h]; simp
 | m + 2, t, r, h => by
  obtain ⟨f, hf, h⟩ := List.mem_flatMap.mp h
  obtain ⟨x, h2, rfl⟩ := List.mem_map.mp h
  rw [List.sum_cons, rw_sum h2]
  have := List.mem_range.mp hf
  omega
theorem le_sum : ∀ {r : List Nat} {n : Nat}, n ∈ r → n ≤ r.sum
 | a :: r, n, h => by
  rw [List.sum_cons]
  rcases List.mem_cons.mp h with rfl | h
  ·omega
  ·have := le_sum h; omega
theorem rw_nz {m t : Nat} {r : List Nat} (h : r ∈ rwN m t) (ht : 0 < t) : ∃ n, n ∈ r ∧ n ≠ 0 := by
 refine Classical.byContradiction fun c => ?_
 have hs := rw_sum h
 have : ∀ l : List Nat, (∀ n, n ∈ l → n = 0) → l.sum = 0 := fun l hl => by
  induction l with
  | nil => rfl
  | cons a l ih => rw [List.sum_cons, hl a (List.mem_cons_self ..), ih fun n hn => hl n (List.mem_cons_of_mem _ hn)]
 have := this r fun n hn => Classical.byContradiction fun hz => c ⟨n, hn, hz⟩
 omega
theorem below_ints {k : Nat} (ns : List Int) : belowL k (ns.map D.int) = true := bareL_below _ (bareL_ints ns)
theorem below_tPN {k : Nat} (r : List Nat) : below k (tPN r) = true := by
 show below k (.tag 1000 ((zv r).map D.int)) = true
 have e : below k (.tag 1000 ((zv r).map D.int)) = belowL k ((zv r).map D.int) := by simp [below]
 rw [e]
 exact below_ints _
theorem below_rows {k : Nat} : ∀ rs : List (List Nat), belowL k (rs.map tPN) = true
 | [] => rfl
 | r :: rs => by
  show (below k (tPN r) && belowL k (rs.map tPN)) = true
  rw [below_tPN, below_rows rs]
  rfl
theorem handed_boxB {S2 : Sto} {k n : Nat} {ds : List D} (hn : k ≤ n) (hb : S2[n]? = some (.lst ds)) (h : belowL k ds = true) : handed S2 k (.ref n) = some (.lst ds) := by
 have hf : ¬ below k (.ref n) = true := by
  show ¬ decide (n < k) = true
  simp; omega
 unfold handed
 rw [if_neg hf]
 simp only
 rw [hb]
 simp only
 rw [if_pos ⟨h, hn⟩]
def RtB (S : Sto) (Q : D → Prop) : Out → Prop
 | .rt d S2 => (∃ T, S2 = S ++ T) ∧ ∃ dd, handed S2 (S.length + 0) d = some dd ∧ Q dd
 | _ => False
theorem CV_hnd {k N : Nat} {b : SX} {ds : List D} {S : Sto} {Q : D → Sto → Prop} (hn : ds.length = k) (H : SV b (sE N ds) S (RtB S fun d => Q d S)) : CV (den k N 0 b) ds S Q := by
 refine CV_den hn (H.imp fun o q => ?_)
 cases o with
 | rt d S2 =>
  obtain ⟨⟨T, rfl⟩, dd, h1, h2⟩ := q
  have e : (S ++ T).take (S.length + 0) = S := by simp
  refine ⟨by simp, fun i es hi z => .inl ?_, dd, h1, by rw [e]; exact h2⟩
  rw [List.getElem?_append_left (by omega)] at z; exact z
 | nx e S2 => exact q.elim
 | bk e S2 => exact q.elim
 | ct e S2 => exact q.elim
theorem rw_le2 : ((List.range 61).all fun t => Nat.ble (rwN 2 t).length 61) = true := by decide +kernel
theorem rw_le3 : ((List.range 21).all fun t => Nat.ble (rwN 3 t).length 231) = true := by decide +kernel
def Okm (m t : Nat) : Prop := (m = 1 ∧ t ≤ 60) ∨ (m = 2 ∧ t ≤ 60) ∨ (m = 3 ∧ t ≤ 20)
theorem Okm.len {m t : Nat} (h : Okm m t) : (rwN m t).length ≤ 231 := by
 rcases h with ⟨rfl, h⟩ | ⟨rfl, h⟩ | ⟨rfl, h⟩
 ·show 1 ≤ 231
  decide
 ·have := Nat.le_of_ble_eq_true (List.all_eq_true.mp rw_le2 t (List.mem_range.mpr (by omega)))
  omega
 ·have := Nat.le_of_ble_eq_true (List.all_eq_true.mp rw_le3 t (List.mem_range.mpr (by omega)))
  omega
theorem r_addP {S : Sto} {f : Nat} {x : List Nat} (hx : x ≠ []) (hl : x.length ≤ 1000) : fAddP S (.tag 1000 [.int (f : Int)]) (.tup ((zv x).map D.int)) = some (tPN (f :: x)) := by
 cases x with
 | nil => exact absurd rfl hx
 | cons a x =>
  have e : ((a :: x : List Nat).length) = x.length + 1 := rfl
  show (if (!(([D.int (f : Int)] : List D)).isEmpty && !(((zv (a :: x)).map D.int)).isEmpty && szOk (1 + ((zv (a :: x)).map D.int).length)) = true then some (D.tag 1000 ([D.int (f : Int)] ++ (zv (a :: x)).map D.int)) else none) = _
  rw [if_pos]
  ·rfl
  ·have : szOk (1 + ((zv (a :: x)).map D.int).length) = true := sz_le (by
    show 1 + ((List.map (fun n : Nat => (n : Int)) (a :: x)).map D.int).length ≤ _
    rw [List.length_map, List.length_map]
    omega)
   rw [this]
   rfl
theorem unP_tPN (r : List Nat) : unP (tPN r) = .tup ((zv r).map D.int) := rfl
theorem CV_rows : ∀ (n : Nat) {S : Sto} {m t : Nat} {Q : D → Sto → Prop}, m ≤ n → Okm m t → Q (.lst ((rwN m t).map tPN)) S → CV (cc__law_rows n) [.int m, .int t] S Q
 | 0, S, m, t, Q, h, ok, q => by
  rcases ok with ⟨rfl, _⟩ | ⟨rfl, _⟩ | ⟨rfl, _⟩ <;> omega
 | n + 1, S, m, t, Q, h, ok, q => by
  refine CV_hnd rfl ?_
  unfold b__law_rows
  by_cases h1 : m = 1
  ·subst h1
   (simp_arith! [EV_unP, EV_tupP])
   rw [if_pos (show ((1 : Nat) : Int) = 1 from rfl)]
   refine ⟨⟨[], by simp⟩, .lst [tPN [t]], ?_, q⟩
   unfold handed
   rw [if_pos]
   ·rfl
   ·exact below_rows [[t]]
  ·have h2 : ¬ ((m : Int) = 1) := by omega
   obtain ⟨k, rfl⟩ : ∃ k, m = k + 2 := ⟨m - 2, by rcases ok with ⟨rfl, _⟩ | ⟨rfl, _⟩ | ⟨rfl, _⟩ <;> omega⟩
   have ht : t ≤ 60 := by rcases ok with ⟨_, _⟩ | ⟨_, _⟩ | ⟨_, _⟩ <;> omega
   (simp_arith! [EV_unP, EV_tupP, h2])
   refine ⟨rg_ok (by omega) (by omega), ?_⟩
   rw [show (t : Int) + 1 = ((t + 1 : Nat) : Int) by omega, rg_nat]
   refine SV_forI (fun r e S' => ∃ (don rest : List Nat) (x3 x4 : Option D), r = rest.map (fun i : Nat => D.int (i : Int)) ∧ don ++ rest = List.range (t + 1) ∧ e = [some (.int ((k + 2 : Nat) : Int)), some (.int t), some (.ref S.length), x3, x4] ∧ S' = S ++ [.lst ((don.flatMap fun f => (rwN (k + 1) (t - f)).map (f :: ·)).map tPN)]) ⟨[], _, _, _, rfl, rfl, rfl, rfl⟩ ?_ ?_
   ·rintro d r e S' K ⟨don, rest, x3, x4, hr, hd, rfl, rfl⟩ hK
    cases rest with
    | nil => cases hr
    | cons f rest =>
     cases hr
     have hf : f ≤ t := by
      have : f ∈ List.range (t + 1) := by rw [← hd]; simp
      have := List.mem_range.mp this
      omega
     refine GV_n.mpr ?_
     simp only [List.set_cons_succ, List.set_cons_zero]
     (simp_arith! [EV_unP, EV_tupP])
     have e1 : ((k + 2 : Nat) : Int) - 1 = ((k + 1 : Nat) : Int) := by omega
     have e2 : (t : Int) - (f : Int) = ((t - f : Nat) : Int) := by omega
     rw [e1, e2]
     have ok2 : Okm (k + 1) (t - f) := by
      unfold Okm at ok ⊢
      omega
     refine CV_rows n (by omega) ok2 ?_
     (simp_arith! [])
     refine (LV_mapG tPN (fun x => tPN (f :: x)) (fun n _ => rfl) fun x K2 hx hK2 => ?_).lc fun out S2 q2 => ?_
     ·refine GV_n.mpr ?_
      simp only [List.set_cons_succ, List.set_cons_zero]
      (simp_arith! [EV_unP, EV_tupP, unP_tPN])
      have hl := rw_len hx
      rw [r_addP (by intro z; rw [z] at hl; cases hl) (by have := ok2; unfold Okm at this; omega)]
      exact BV_some.mpr hK2
     ·obtain ⟨rfl, rfl⟩ := q2
      have l1 := ok.len
      have e3 : rwN (k + 2) t = (don.flatMap fun f => (rwN (k + 1) (t - f)).map (f :: ·)) ++ ((rwN (k + 1) (t - f)).map (f :: ·) ++ (rest.flatMap fun f => (rwN (k + 1) (t - f)).map (f :: ·))) := by
       show (List.range (t + 1)).flatMap _ = _
       rw [← hd, List.flatMap_append, List.flatMap_cons]
      have l2 : (rwN (k + 2) t).length = (don.flatMap fun f => (rwN (k + 1) (t - f)).map (f :: ·)).length + ((rwN (k + 1) (t - f)).length + (rest.flatMap fun f => (rwN (k + 1) (t - f)).map (f :: ·)).length) := by
       rw [e3, List.length_append, List.length_append, List.length_map]
      refine ⟨sz_le (by rw [List.length_map]; omega), _, box_last, ?_⟩
      refine ex_extend.mpr ⟨sz_le (by rw [List.length_map, List.length_map]; omega), ?_⟩
      refine ⟨(by intro n h; cases h), hK _ _ ⟨don ++ [f], rest, _, _, rfl, by rw [← hd]; simp, rfl, ?_⟩⟩
      rw [set_last, List.flatMap_append, List.map_append, List.flatMap_singleton, List.map_map]
      rfl
   ·rintro e S' ⟨don, rest, x3, x4, hr, hd, rfl, rfl⟩
    have : rest = [] := List.map_eq_nil_iff.mp hr.symm
    subst this
    rw [List.append_nil] at hd
    subst hd
    (simp_arith! [])
    refine ⟨⟨_, rfl⟩, .lst ((rwN (k + 2) t).map tPN), ?_, q⟩
    exact handed_boxB (by omega) (by simp; rfl) (below_rows _)
structure Rr (r : List Nat) : Prop where
 nz : ∃ n, n ∈ r ∧ n ≠ 0
 le : ∀ n, n ∈ r → n ≤ 1000000
 ln : r.length ≤ 3
theorem zv_mem {r : List Nat} {z : Int} (h : z ∈ zv r) : ∃ n : Nat, n ∈ r ∧ z = (n : Int) := by
 obtain ⟨n, hn, rfl⟩ := List.mem_map.mp h
 exact ⟨n, hn, rfl⟩
theorem Rr.gpos {r : List Nat} (h : Rr r) : 0 < gcN r := by
 obtain ⟨n, hn, hz⟩ := h.nz
 have := gcdF_pos (ns := zv r) (g := 0) (n := (n : Int)) (by decide) (List.mem_map.mpr ⟨n, hn, rfl⟩) (by omega)
 rw [gcd_zv] at this
 omega
theorem Rr.gle {r : List Nat} (h : Rr r) : gcN r ≤ 1000000 := by
 obtain ⟨n, hn, hz⟩ := h.nz
 have h1 := (gcdF_dvd (zv r) 0).2 (n : Int) (List.mem_map.mpr ⟨n, hn, rfl⟩)
 rw [gcd_zv] at h1
 have h2 := Int.le_of_dvd (by omega) h1
 have := h.le n hn
 omega
theorem seq_tz {S : Sto} {r : List Nat} : seqOf S (.tup ((zv r).map D.int)) = some ((zv r).map D.int) := rfl
theorem CV_low {S : Sto} {r : List Nat} {Q : D → Sto → Prop} (h : Rr r) (q : Q (tPN (lwN r)) S) : CV c_lowest [.tup ((zv r).map D.int)] S Q := by
 refine CV_plainP rfl ?_
 unfold b_lowest
 rw [e_common]
 have g0 := h.gpos
 have g1 := h.gle
 (simp_arith! [])
 refine CV_common seq_tz (fun n hn => by obtain ⟨n, _, rfl⟩ := zv_mem hn; omega) ?_
 rw [gcd_zv]
 (simp_arith! [])
 rw [show (zv r).map D.int = r.map fun n : Nat => D.int (n : Int) by unfold zv; rw [List.map_map]; rfl]
 refine (LV_mapG (fun n : Nat => D.int (n : Int)) (fun n : Nat => D.int ((n / gcN r : Nat) : Int)) (fun n _ => rfl) fun n K hn hK => ?_).lc fun out S2 q2 => ?_
 ·refine GV_n.mpr ?_
  simp only [List.set_cons_succ, List.set_cons_zero]
  (simp_arith! [])
  have := h.le n hn
  refine ⟨sm_div (sm_k (by omega)) (by omega), ?_⟩
  rw [Int.fdiv_eq_ediv_of_nonneg _ (by omega)]
  exact hK
 ·obtain ⟨rfl, rfl⟩ := q2
  have hl := h.ln
  refine ⟨sz_le (by rw [List.length_map]; omega), ?_⟩
  (simp_arith! [r_tupP])
  refine ⟨rfl, ⟨zv (lwN r), ?_⟩, ?_⟩
  ·unfold zv lwN
   rw [List.map_map, List.map_map]
   rfl
  ·have e : tPN (lwN r) = .tag 1000 (r.map fun n : Nat => D.int ((n / gcN r : Nat) : Int)) := by
    unfold tPN zv lwN
    rw [List.map_map, List.map_map]
    rfl
   rw [← e]
   exact q
theorem CV_shr {S : Sto} {r : List Nat} {m : Nat} {Q : D → Sto → Prop} (h : Rr r) (hm : r.length = m) (q : Q (.bl (Nat.beq (gcN r) 1)) S) : CV c_is_shares [.tup ((zv r).map D.int), .int m] S Q := by
 rw [e_is_shares]
 have hl := h.ln
 refine CV_isshares (x := zv r) (m := m) ⟨by unfold zv; rw [List.length_map]; exact hm, fun z hz => by obtain ⟨n, _, rfl⟩ := zv_mem hz; omega, ?_⟩ (by omega) ?_
 ·obtain ⟨n, hn, hz⟩ := h.nz
  exact ⟨(n : Int), List.mem_map.mpr ⟨n, hn, rfl⟩, by omega⟩
 ·rw [gcd_zv]
  have e : decide (((gcN r : Nat) : Int) = 1) = Nat.beq (gcN r) 1 := by
   cases hb : Nat.beq (gcN r) 1 with
   | true => rw [Nat.eq_of_beq_eq_true hb]; rfl
   | false => exact decide_eq_false fun z => Nat.ne_of_beq_eq_false hb (by omega)
  rw [e]
  exact q
def ml (r : List Nat) (i : Nat) : Int := ((1000 * r.getD i 0 / r.sum : Nat) : Int)
theorem CV_mil {S : Sto} {r : List Nat} {i : Nat} {Q : D → Sto → Prop} (h : Rr r) (hi : i < r.length) (q : Q (.int (ml r i)) S) : CV c_mills [.tup ((zv r).map D.int), .int i] S Q := by
 rw [e_mills]
 have hs : ∀ l : List Nat, (zv l).sum = ((l.sum : Nat) : Int) := fun l => by
  induction l with
  | nil => rfl
  | cons a l ih =>
   show ((a : Int) :: zv l).sum = _
   rw [List.sum_cons, ih, List.sum_cons]
   omega
 have hsm : ∀ l : List Nat, (∀ n, n ∈ l → n ≤ 1000000) → l.sum ≤ 1000000 * l.length := fun l hl => by
  induction l with
  | nil => simp
  | cons a l ih =>
   have := hl a (List.mem_cons_self ..)
   have := ih fun n hn => hl n (List.mem_cons_of_mem _ hn)
   rw [List.sum_cons, List.length_cons]
   omega
 have h1 := hsm r h.le
 have h2 := h.ln
 obtain ⟨n, hn, hz⟩ := h.nz
 have h3 := le_sum hn
 have hg : (zv r).getD i 0 = ((r.getD i 0 : Nat) : Int) := by
  unfold zv
  rw [List.getD_eq_getElem?_getD, List.getD_eq_getElem?_getD, List.getElem?_map]
  cases r[i]? <;> rfl
 refine CV_mills (many := r.length) (rs := [0, 0, 0, 0]) ⟨rfl, fun r hr => ?_, by unfold zv; rw [List.length_map], fun z hz => by obtain ⟨n, _, rfl⟩ := zv_mem hz; omega, ?_⟩ hi ?_ ?_
 ·simp only [List.mem_cons, List.not_mem_nil, or_false, or_self] at hr
  subst hr
  omega
 ·rw [hs]
  have : (1000000 * r.length : Nat) ≤ 3000000 := by omega
  omega
 ·rw [hs]; omega
 ·rw [hs, hg]
  exact q
theorem ml_pure {s u p k : Nat} (hs : 0 < s) (e : s * u + p = 1000 * s) (hk : p < k * s) : u ≤ 1000 ∧ 1000 < u + k ∧ (u = 1000 ↔ p = 0) := by
 refine ⟨Nat.le_of_not_lt fun h => ?_, Nat.lt_of_not_le fun h => ?_, fun h => ?_, fun h => ?_⟩
 ·have := Nat.mul_le_mul_left s (show 1001 ≤ u from h)
  omega
 ·have := Nat.mul_le_mul_left s h
  rw [Nat.mul_add, Nat.mul_comm s k, Nat.mul_comm s 1000] at this
  omega
 ·subst h
  omega
 ·subst h
  exact Nat.eq_of_mul_eq_mul_left hs (by omega)
theorem flen {α : Type} (c : α → Bool) : ∀ l : List α, ((l.filter c).length = l.length ↔ ∀ x, x ∈ l → c x = true)
 | l => by
  rw [List.length_filter_eq_length_iff]
theorem r_neBB {S : Sto} {x y : Bool} : fNe S (.bl x) (.bl y) = some (.bl (!(x == y))) := by
 cases x <;> cases y <;> rfl
theorem Rr.rev {r : List Nat} (h : Rr r) : Rr r.reverse := by
 obtain ⟨n, hn, hz⟩ := h.nz
 exact ⟨⟨n, List.mem_reverse.mpr hn, hz⟩, fun n hn => h.le n (List.mem_reverse.mp hn), by rw [List.length_reverse]; exact h.ln⟩
theorem CV_mr2 {S : Sto} {a b : Nat} {Q : D → Sto → Prop} (h : Rr [a, b]) (q : Q (.bl true) S) : CV c__law_mills_right [.tup [.int a, .int b]] S Q := by
 refine CV_plain rfl ?_
 unfold b__law_mills_right
 have ha := h.le a (by simp)
 have hb := h.le b (by simp)
 have hs : 0 < a + b := by
  obtain ⟨n, hn, hz⟩ := h.nz
  simp only [List.mem_cons, List.not_mem_nil, or_false] at hn
  rcases hn with rfl | rfl <;> omega
 have l2 : ∀ T : Sto, gLen T (.tup [.int a, .int b]) = some (.int ((2 : Nat) : Int)) := fun _ => rfl
 have l3 : ∀ T : Sto, gSum T (.tup [.int a, .int b]) = some (.int ((a + b : Nat) : Int)) := fun T => by
  rw [show ([.int a, .int b] : List D) = [(a : Int), (b : Int)].map D.int from rfl, r_sumT]
  simp
 refine SV_cutG fun G hG => ?_
 (simp_arith! [l2])
 refine ⟨rg_ok (by omega) (by omega), ?_⟩
 rw [rg_nat]
 refine (LV_mapG (fun i : Nat => D.int (i : Int)) (fun i : Nat => .int (ml [a, b] i)) (fun n _ => rfl) fun i K hi hK => ?_).lc fun out S2 q2 => ?_
 ·have hi := List.mem_range.mp hi
  refine GV_n.mpr ?_
  simp only [List.set_cons_succ, List.set_cons_zero]
  (simp_arith! [])
  exact CV_mil (r := [a, b]) h hi hK
 ·obtain ⟨rfl, rfl⟩ := q2
  refine ⟨sz_le (by rw [List.length_map, List.length_range]; decide), ?_⟩
  (simp_arith! [])
  refine hG _ _ ?_
  clear hG G
  refine SV_cutG fun G hG => ?_
  (simp_arith! [l2])
  refine (LV_filtG (xs := [(0, a), (1, b)]) (fun p : Nat × Nat => D.tup [.int (p.1 : Int), .int (p.2 : Int)]) (fun p => D.int (p.1 : Int)) (fun p => decide (1000 * p.2 % (a + b) = 0)) (fun n _ => rfl) fun p K hp hK => ?_).lc fun out S2 q2 => ?_
  ·have hp2 : p.2 ≤ 1000000 := by
    simp only [List.mem_cons, List.not_mem_nil, or_false] at hp
    rcases hp with rfl | rfl
    ·exact ha
    ·exact hb
   (simp_arith! [l3])
   refine ⟨sm_mul (sm_k (by omega)) (sm_k (by omega)), by omega, ?_, fun h => hK (decide_eq_true h)⟩
   rw [Int.fmod_eq_emod_of_nonneg _ (by omega)]
   have ec : ((1000 * p.2 % (a + b) : Nat) : Int) = (1000 * (p.2 : Int)) % ((a + b : Nat) : Int) := by
    rw [Int.natCast_emod, Int.natCast_mul]
    rfl
   rw [← ec]
   exact decide_eq_decide.mpr (by omega)
  ·obtain ⟨rfl, rfl⟩ := q2
   refine ⟨sz_le (by rw [List.length_map]; exact Nat.le_trans (List.length_filter_le ..) (by simp)), ?_⟩
   refine hG _ _ ?_
   clear hG G
   have m0 : ml [a, b] 0 = ((1000 * a / (a + b) : Nat) : Int) := by unfold ml; simp
   have m1 : ml [a, b] 1 = ((1000 * b / (a + b) : Nat) : Int) := by unfold ml; simp
   have n0 : ml [b, a] 0 = ((1000 * b / (a + b) : Nat) : Int) := by unfold ml; simp [Nat.add_comm]
   have n1 : ml [b, a] 1 = ((1000 * a / (a + b) : Nat) : Int) := by unfold ml; simp [Nat.add_comm]
   have d0 := Nat.div_add_mod (1000 * a) (a + b)
   have d1 := Nat.div_add_mod (1000 * b) (a + b)
   have r0 := Nat.mod_lt (1000 * a) hs
   have r1 := Nat.mod_lt (1000 * b) hs
   obtain ⟨u1, u2, u3⟩ := ml_pure (s := a + b) (u := 1000 * a / (a + b) + 1000 * b / (a + b)) (p := 1000 * a % (a + b) + 1000 * b % (a + b)) (k := 2) hs (by rw [Nat.mul_add]; omega) (by omega)
   have fl := flen (fun p : Nat × Nat => decide (1000 * p.2 % (a + b) = 0)) [(0, a), (1, b)]
   generalize hF : List.filter (fun p : Nat × Nat => decide (1000 * p.2 % (a + b) = 0)) [(0, a), (1, b)] = F at *
   have l4 : ∀ T : Sto, gSum T (.lst (List.map (fun i => D.int (ml [a, b] i)) (List.range 2))) = some (.int ((1000 * a / (a + b) + 1000 * b / (a + b) : Nat) : Int)) := fun T => by
    rw [show (List.map (fun i => D.int (ml [a, b] i)) (List.range 2)) = [ml [a, b] 0, ml [a, b] 1].map D.int from rfl, r_sumL, m0, m1]
    simp
   generalize 1000 * a / (a + b) = q0 at *
   generalize 1000 * b / (a + b) = q1 at *
   have fe : ((List.map (fun p : Nat × Nat => D.int (p.1 : Int)) F).length : Int) = ((2 : Nat) : Int) ↔ ((q0 + q1 : Nat) : Int) = 1000 := by
    rw [List.length_map]
    have : F.length = 2 ↔ ∀ x : Nat × Nat, x ∈ [(0, a), (1, b)] → decide (1000 * x.2 % (a + b) = 0) = true := fl
    simp only [List.mem_cons, List.not_mem_nil, or_false, forall_eq_or_imp, forall_eq, decide_eq_true_eq] at this
    omega
   refine SV_cutG fun G hG => ?_
   have h5 : (1000 : Int) - ((2 : Nat) : Int) < ((q0 + q1 : Nat) : Int) := by omega
   have h6 : ¬ ¬ ((q0 + q1 : Nat) : Int) ≤ 1000 := by omega
   (simp_arith! [l2, l4])
   rw [if_pos h5, if_neg h6, r_neBB, BV_some, decide_eq_decide.mpr fe, beq_self_eq_true]
   refine ⟨_, rfl, ?_⟩
   rw [if_neg (by decide)]
   refine hG _ _ ?_
   clear hG G
   (simp_arith! [l2, l4])
   have er : ∀ T : Sto, gRevT T (.tup [.int a, .int b]) = some (.tup [.int b, .int a]) := fun _ => rfl
   (simp_arith! [er])
   refine ⟨rg_ok (by omega) (by omega), ?_⟩
   rw [rg_nat]
   have h' : Rr [b, a] := h.rev
   refine (LV_mapG (fun i : Nat => D.int (i : Int)) (fun i : Nat => .int (ml [b, a] i)) (fun n _ => rfl) fun i K hi hK => ?_).lc fun out S2 q2 => ?_
   ·have hi := List.mem_range.mp hi
    refine GV_n.mpr ?_
    simp only [List.set_cons_succ, List.set_cons_zero]
    (simp_arith! [])
    exact CV_mil (r := [b, a]) h' hi hK
   ·obtain ⟨rfl, rfl⟩ := q2
    refine ⟨sz_le (by rw [List.length_map, List.length_range]; decide), _, rfl, ?_⟩
    have ee : (List.map (fun i => D.int (ml [a, b] i)) (List.range 2)).reverse = List.map (fun i => D.int (ml [b, a] i)) (List.range 2) := by
     show [D.int (ml [a, b] 1), D.int (ml [a, b] 0)] = [D.int (ml [b, a] 0), D.int (ml [b, a] 1)]
     rw [m0, m1, n0, n1]
    have e2 : List.map (fun i => D.int (ml [b, a] i)) (List.range 2) = [(q1 : Int), (q0 : Int)].map D.int := by
     show [D.int (ml [b, a] 0), D.int (ml [b, a] 1)] = _
     rw [n0, n1]
     rfl
    rw [ee, e2, r_eq_self 13 (by
     simp only [List.map_cons, List.map_nil, shortB, shortL, Bool.and_true, Bool.and_eq_true, decide_eq_true_eq]
     omega) (by simp [dep, depL])]
    exact BV_some.mpr (RtP_same rfl q)
theorem CV_mr3 {S : Sto} {a b c : Nat} {Q : D → Sto → Prop} (h : Rr [a, b, c]) (q : Q (.bl true) S) : CV c__law_mills_right [.tup [.int a, .int b, .int c]] S Q := by
 refine CV_plain rfl ?_
 unfold b__law_mills_right
 have ha := h.le a (by simp)
 have hb := h.le b (by simp)
 have hc := h.le c (by simp)
 have hs : 0 < a + b + c := by
  obtain ⟨n, hn, hz⟩ := h.nz
  simp only [List.mem_cons, List.not_mem_nil, or_false] at hn
  rcases hn with rfl | rfl | rfl <;> omega
 have l2 : ∀ T : Sto, gLen T (.tup [.int a, .int b, .int c]) = some (.int ((3 : Nat) : Int)) := fun _ => rfl
 have l3 : ∀ T : Sto, gSum T (.tup [.int a, .int b, .int c]) = some (.int ((a + b + c : Nat) : Int)) := fun T => by
  rw [show ([.int a, .int b, .int c] : List D) = [(a : Int), (b : Int), (c : Int)].map D.int from rfl, r_sumT]
  simp [Int.add_assoc]
 refine SV_cutG fun G hG => ?_
 (simp_arith! [l2])
 refine ⟨rg_ok (by omega) (by omega), ?_⟩
 rw [rg_nat]
 refine (LV_mapG (fun i : Nat => D.int (i : Int)) (fun i : Nat => .int (ml [a, b, c] i)) (fun n _ => rfl) fun i K hi hK => ?_).lc fun out S2 qq => ?_
 ·have hi := List.mem_range.mp hi
  refine GV_n.mpr ?_
  simp only [List.set_cons_succ, List.set_cons_zero]
  (simp_arith! [])
  exact CV_mil (r := [a, b, c]) h hi hK
 ·obtain ⟨rfl, rfl⟩ := qq
  refine ⟨sz_le (by rw [List.length_map, List.length_range]; decide), ?_⟩
  (simp_arith! [])
  refine hG _ _ ?_
  clear hG G
  refine SV_cutG fun G hG => ?_
  (simp_arith! [l2])
  refine (LV_filtG (xs := [(0, a), (1, b), (2, c)]) (fun p : Nat × Nat => D.tup [.int (p.1 : Int), .int (p.2 : Int)]) (fun p => D.int (p.1 : Int)) (fun p => decide (1000 * p.2 % (a + b + c) = 0)) (fun n _ => rfl) fun p K hp hK => ?_).lc fun out S2 qq => ?_
  ·have hp2 : p.2 ≤ 1000000 := by
    simp only [List.mem_cons, List.not_mem_nil, or_false] at hp
    rcases hp with rfl | rfl | rfl
    ·exact ha
    ·exact hb
    ·exact hc
   (simp_arith! [l3])
   refine ⟨sm_mul (sm_k (by omega)) (sm_k (by omega)), by omega, ?_, fun h => hK (decide_eq_true h)⟩
   rw [Int.fmod_eq_emod_of_nonneg _ (by omega)]
   have ec : ((1000 * p.2 % (a + b + c) : Nat) : Int) = (1000 * (p.2 : Int)) % ((a + b + c : Nat) : Int) := by
    rw [Int.natCast_emod, Int.natCast_mul]
    rfl
   rw [← ec]
   exact decide_eq_decide.mpr (by omega)
  ·obtain ⟨rfl, rfl⟩ := qq
   refine ⟨sz_le (by rw [List.length_map]; exact Nat.le_trans (List.length_filter_le ..) (by simp)), ?_⟩
   refine hG _ _ ?_
   clear hG G
   have m0 : ml [a, b, c] 0 = ((1000 * a / (a + b + c) : Nat) : Int) := by unfold ml; simp [Nat.add_assoc]
   have m1 : ml [a, b, c] 1 = ((1000 * b / (a + b + c) : Nat) : Int) := by unfold ml; simp [Nat.add_assoc]
   have m2 : ml [a, b, c] 2 = ((1000 * c / (a + b + c) : Nat) : Int) := by unfold ml; simp [Nat.add_assoc]
   have n0 : ml [c, b, a] 0 = ((1000 * c / (a + b + c) : Nat) : Int) := by unfold ml; simp [Nat.add_assoc, Nat.add_comm, Nat.add_left_comm]
   have n1 : ml [c, b, a] 1 = ((1000 * b / (a + b + c) : Nat) : Int) := by unfold ml; simp [Nat.add_assoc, Nat.add_comm, Nat.add_left_comm]
   have n2 : ml [c, b, a] 2 = ((1000 * a / (a + b + c) : Nat) : Int) := by unfold ml; simp [Nat.add_assoc, Nat.add_comm, Nat.add_left_comm]
   have d0 := Nat.div_add_mod (1000 * a) (a + b + c)
   have d1 := Nat.div_add_mod (1000 * b) (a + b + c)
   have d2 := Nat.div_add_mod (1000 * c) (a + b + c)
   have r0 := Nat.mod_lt (1000 * a) hs
   have r1 := Nat.mod_lt (1000 * b) hs
   have r2 := Nat.mod_lt (1000 * c) hs
   obtain ⟨u1, u2, u3⟩ := ml_pure (s := a + b + c) (u := 1000 * a / (a + b + c) + 1000 * b / (a + b + c) + 1000 * c / (a + b + c)) (p := 1000 * a % (a + b + c) + 1000 * b % (a + b + c) + 1000 * c % (a + b + c)) (k := 3) hs (by rw [Nat.mul_add, Nat.mul_add]; omega) (by omega)
   have fl := flen (fun p : Nat × Nat => decide (1000 * p.2 % (a + b + c) = 0)) [(0, a), (1, b), (2, c)]
   generalize hF : List.filter (fun p : Nat × Nat => decide (1000 * p.2 % (a + b + c) = 0)) [(0, a), (1, b), (2, c)] = F at *
   have l4 : ∀ T : Sto, gSum T (.lst (List.map (fun i => D.int (ml [a, b, c] i)) (List.range 3))) = some (.int ((1000 * a / (a + b + c) + 1000 * b / (a + b + c) + 1000 * c / (a + b + c) : Nat) : Int)) := fun T => by
    rw [show (List.map (fun i => D.int (ml [a, b, c] i)) (List.range 3)) = [ml [a, b, c] 0, ml [a, b, c] 1, ml [a, b, c] 2].map D.int from rfl, r_sumL, m0, m1, m2]
    simp [Int.add_assoc]
   generalize 1000 * a / (a + b + c) = q0 at *
   generalize 1000 * b / (a + b + c) = q1 at *
   generalize 1000 * c / (a + b + c) = q2 at *
   have fe : ((List.map (fun p : Nat × Nat => D.int (p.1 : Int)) F).length : Int) = ((3 : Nat) : Int) ↔ ((q0 + q1 + q2 : Nat) : Int) = 1000 := by
    rw [List.length_map]
    have : F.length = 3 ↔ ∀ x : Nat × Nat, x ∈ [(0, a), (1, b), (2, c)] → decide (1000 * x.2 % (a + b + c) = 0) = true := fl
    simp only [List.mem_cons, List.not_mem_nil, or_false, forall_eq_or_imp, forall_eq, decide_eq_true_eq] at this
    omega
   refine SV_cutG fun G hG => ?_
   have h5 : (1000 : Int) - ((3 : Nat) : Int) < ((q0 + q1 + q2 : Nat) : Int) := by omega
   have h6 : ¬ ¬ ((q0 + q1 + q2 : Nat) : Int) ≤ 1000 := by omega
   (simp_arith! [l2, l4])
   rw [if_pos h5, if_neg h6, r_neBB, BV_some, decide_eq_decide.mpr fe, beq_self_eq_true]
   refine ⟨_, rfl, ?_⟩
   rw [if_neg (by decide)]
   refine hG _ _ ?_
   clear hG G
   (simp_arith! [l2, l4])
   have er : ∀ T : Sto, gRevT T (.tup [.int a, .int b, .int c]) = some (.tup [.int c, .int b, .int a]) := fun _ => rfl
   (simp_arith! [er])
   refine ⟨rg_ok (by omega) (by omega), ?_⟩
   rw [rg_nat]
   have h' : Rr [c, b, a] := h.rev
   refine (LV_mapG (fun i : Nat => D.int (i : Int)) (fun i : Nat => .int (ml [c, b, a] i)) (fun n _ => rfl) fun i K hi hK => ?_).lc fun out S2 qq => ?_
   ·have hi := List.mem_range.mp hi
    refine GV_n.mpr ?_
    simp only [List.set_cons_succ, List.set_cons_zero]
    (simp_arith! [])
    exact CV_mil (r := [c, b, a]) h' hi hK
   ·obtain ⟨rfl, rfl⟩ := qq
    refine ⟨sz_le (by rw [List.length_map, List.length_range]; decide), _, rfl, ?_⟩
    have ee : (List.map (fun i => D.int (ml [a, b, c] i)) (List.range 3)).reverse = List.map (fun i => D.int (ml [c, b, a] i)) (List.range 3) := by
     show [D.int (ml [a, b, c] 2), D.int (ml [a, b, c] 1), D.int (ml [a, b, c] 0)] = [D.int (ml [c, b, a] 0), D.int (ml [c, b, a] 1), D.int (ml [c, b, a] 2)]
     rw [m0, m1, m2, n0, n1, n2]
    have e2 : List.map (fun i => D.int (ml [c, b, a] i)) (List.range 3) = [(q2 : Int), (q1 : Int), (q0 : Int)].map D.int := by
     show [D.int (ml [c, b, a] 0), D.int (ml [c, b, a] 1), D.int (ml [c, b, a] 2)] = _
     rw [n0, n1, n2]
     rfl
    rw [ee, e2, r_eq_self 13 (by
     simp only [List.map_cons, List.map_nil, shortB, shortL, Bool.and_true, Bool.and_eq_true, decide_eq_true_eq]
     omega) (by simp [dep, depL])]
    exact BV_some.mpr (RtP_same rfl q)
structure Fac (m t : Nat) : Prop where
 nd : (keysOn m (dvs t)).Nodup
 nl : ((rwN m t).map lwN).Nodup
 cs : ((dvs t).map fun d => (prm m d).length).sum = (rwN m t).length
 ln : (rwN m t).length = (keysOn m (dvs t)).length
 at_ : ∀ r, r ∈ rwN m t → ∃ d, lookN (keysOn m (dvs t)) (valsOn m (dvs t)) (lwN r) = some d ∧ 1 ≤ d ∧ (lwN r).map (t / d * ·) = r
theorem rw_of : ∀ {m t : Nat} {r : List Nat}, r.length = m + 1 → r.sum = t → r ∈ rwN (m + 1) t
 | 0, t, r, h, hs => by
  match r, h with
  | [x], _ =>
   rw [List.sum_cons, List.sum_nil] at hs
   show [x] ∈ [[t]]
   rw [show x = t by omega]
   exact List.mem_cons_self ..
 | m + 1, t, r, h, hs => by
  match r, h with
  | x :: r, h =>
   rw [List.sum_cons] at hs
   refine List.mem_flatMap.mpr ⟨x, List.mem_range.mpr (by omega), List.mem_map.mpr ⟨r, rw_of (by simpa using h) (by omega), rfl⟩⟩
theorem rw_nd : ∀ m t : Nat, (rwN m t).Nodup
 | 0, _ => List.nodup_nil
 | 1, _ => by simp [rwN]
 | m + 2, t => by
  refine List.pairwise_flatMap.mpr ⟨fun f _ => List.pairwise_map.mpr (List.Pairwise.imp (fun hne e => hne (List.cons.inj e).2) (rw_nd (m + 1) (t - f))), List.Pairwise.imp (fun {a b} hne x hx y hy e => ?_) List.nodup_range⟩
  obtain ⟨x1, _, rfl⟩ := List.mem_map.mp hx
  obtain ⟨y1, _, rfl⟩ := List.mem_map.mp hy
  exact hne (List.cons.inj e).1
theorem gc_dvd {r : List Nat} {n : Nat} (h : n ∈ r) : gcN r ∣ n := by
 have h1 := (gcdF_dvd (zv r) 0).2 (n : Int) (List.mem_map.mpr ⟨n, h, rfl⟩)
 rw [gcd_zv] at h1
 exact Int.natCast_dvd_natCast.mp h1
theorem lw_back (r : List Nat) : (lwN r).map (gcN r * ·) = r := by
 unfold lwN
 rw [List.map_map]
 refine Eq.trans (List.map_congr_left fun n hn => ?_) (List.map_id r)
 exact Nat.mul_div_cancel' (gc_dvd hn)
theorem sum_mul (g : Nat) : ∀ r : List Nat, (r.map (g * ·)).sum = g * r.sum
 | [] => rfl
 | n :: r => by
  rw [List.map_cons, List.sum_cons, List.sum_cons, sum_mul g r, Nat.mul_add]
theorem lw_sum (r : List Nat) : gcN r * (lwN r).sum = r.sum := by
 have := sum_mul (gcN r) (lwN r)
 rw [lw_back] at this
 exact this.symm
theorem look_sum : ∀ {ks : List (List Nat)} {vs : List Nat} {r : List Nat}, ks.map List.sum = vs → r ∈ ks → lookN ks vs r = some r.sum
 | [], _, r, _, h => nomatch h
 | k :: ks, vs, r, e, h => by
  subst e
  rw [List.map_cons]
  unfold lookN
  by_cases hk : eqB k r = true
  ·rw [if_pos hk, eqB_iff.mp hk]
  ·rw [if_neg hk]
   rcases List.mem_cons.mp h with rfl | h
   ·exact absurd (eqB_iff.mpr rfl) hk
   ·exact look_sum rfl h
theorem dvs_iff {t d : Nat} : d ∈ dvs t ↔ 1 ≤ d ∧ d ≤ t ∧ t % d = 0 := by
 unfold dvs
 rw [List.mem_filter, List.mem_map]
 constructor
 ·rintro ⟨⟨x, hx, rfl⟩, h⟩
  have := List.mem_range.mp hx
  exact ⟨by omega, by omega, Nat.eq_of_beq_eq_true h⟩
 ·rintro ⟨h1, h2, h3⟩
  exact ⟨⟨d - 1, List.mem_range.mpr (by omega), by omega⟩, by rw [h3]; rfl⟩
theorem prm_iff {m d : Nat} {r : List Nat} : r ∈ prm m d ↔ r ∈ rwN m d ∧ gcN r = 1 := by
 unfold prm
 rw [List.mem_filter]
 exact ⟨fun h => ⟨h.1, Nat.eq_of_beq_eq_true h.2⟩, fun h => ⟨h.1, by rw [h.2]; rfl⟩⟩
def Ok2 (m t : Nat) : Prop := 1 ≤ t ∧ ((m = 2 ∧ t ≤ 60) ∨ (m = 3 ∧ t ≤ 20))
theorem vals_sum {m : Nat} : ∀ ds : List Nat, (keysOn m ds).map List.sum = valsOn m ds
 | [] => rfl
 | d :: ds => by
  have ih := vals_sum (m := m) ds
  unfold keysOn valsOn at ih ⊢
  rw [List.flatMap_cons, List.flatMap_cons, List.map_append, ih]
  congr 1
  exact List.map_congr_left fun r hr => rw_sum (prm_iff.mp hr).1
theorem keys_len {m : Nat} : ∀ ds : List Nat, (ds.map fun d => (prm m d).length).sum = (keysOn m ds).length
 | [] => rfl
 | d :: ds => by
  have ih := keys_len (m := m) ds
  unfold keysOn at ih ⊢
  rw [List.map_cons, List.sum_cons, List.flatMap_cons, List.length_append, ih]
theorem fac {m t : Nat} (h : Ok2 m t) : Fac m t := by
 obtain ⟨h1, h2⟩ := h
 obtain ⟨k, rfl⟩ : ∃ k, m = k + 1 := ⟨m - 1, by omega⟩
 clear h2
 have gp : ∀ {r : List Nat}, r ∈ rwN (k + 1) t → 0 < gcN r := fun {r} hr => by
  rcases Nat.eq_zero_or_pos (gcN r) with z | z
  ·have := lw_sum r
   rw [z, rw_sum hr, Nat.zero_mul] at this
   omega
  ·exact z
 have hinj : ∀ {r s : List Nat}, r ∈ rwN (k + 1) t → s ∈ rwN (k + 1) t → lwN r = lwN s → r = s := fun {r s} hr hs e => by
  have a := lw_sum r
  have b := lw_sum s
  rw [rw_sum hr] at a
  rw [rw_sum hs, ← e] at b
  have hp : 0 < (lwN r).sum := by
   rcases Nat.eq_zero_or_pos (lwN r).sum with z | z
   ·rw [z, Nat.mul_zero] at a; omega
   ·exact z
  have g : gcN r = gcN s := Nat.eq_of_mul_eq_mul_right hp (by omega)
  have c := lw_back r
  rw [g, e, lw_back] at c
  exact c.symm
 have nl : ((rwN (k + 1) t).map lwN).Nodup := by
  have : ∀ l : List (List Nat), (∀ r, r ∈ l → r ∈ rwN (k + 1) t) → l.Nodup → (l.map lwN).Nodup := fun l => by
   induction l with
   | nil => exact fun _ _ => List.nodup_nil
   | cons a l ih =>
    intro hl hn
    obtain ⟨n1, n2⟩ := List.nodup_cons.mp hn
    rw [List.map_cons]
    refine List.nodup_cons.mpr ⟨fun hm => ?_, ih (fun r hr => hl r (List.mem_cons_of_mem _ hr)) n2⟩
    obtain ⟨b, hb, e⟩ := List.mem_map.mp hm
    have := hinj (hl b (List.mem_cons_of_mem _ hb)) (hl a (List.mem_cons_self ..)) e
    rw [this] at hb
    exact n1 hb
  exact this _ (fun _ h => h) (rw_nd _ _)
 have dn : List.Pairwise (fun a b : Nat => a ≠ b) (dvs t) := List.Pairwise.filter _ (List.pairwise_map.mpr (List.Pairwise.imp (fun hne e => hne (by omega)) List.nodup_range))
 have nd : (keysOn (k + 1) (dvs t)).Nodup := by
  refine List.pairwise_flatMap.mpr ⟨fun d _ => List.Pairwise.filter _ (rw_nd _ d), dn.imp fun {a b} hne x hx y hy e => hne ?_⟩
  subst e
  rw [← rw_sum (prm_iff.mp hx).1, ← rw_sum (prm_iff.mp hy).1]
 have lk : ∀ {r : List Nat}, r ∈ rwN (k + 1) t → lwN r ∈ keysOn (k + 1) (dvs t) := fun {r} hr => by
  have a := lw_sum r
  rw [rw_sum hr] at a
  have hp : 0 < (lwN r).sum := by
   rcases Nat.eq_zero_or_pos (lwN r).sum with z | z
   ·rw [z, Nat.mul_zero] at a; omega
   ·exact z
  have g := gp hr
  refine List.mem_flatMap.mpr ⟨(lwN r).sum, dvs_iff.mpr ⟨hp, ?_, ?_⟩, prm_iff.mpr ⟨rw_of ?_ rfl, ?_⟩⟩
  ·rw [← a]; exact Nat.le_mul_of_pos_left _ g
  ·rw [← a]; exact Nat.mul_mod_left ..
  ·unfold lwN; rw [List.length_map]; exact rw_len hr
  ·have c := gc_mul (gcN r) (lwN r)
   rw [lw_back] at c
   exact (Nat.eq_of_mul_eq_mul_left g (by omega)).symm
 have kl : ∀ {q : List Nat}, q ∈ keysOn (k + 1) (dvs t) → q ∈ (rwN (k + 1) t).map lwN := fun {q} hq => by
  obtain ⟨d, hd, hq⟩ := List.mem_flatMap.mp hq
  obtain ⟨d1, d2, d3⟩ := dvs_iff.mp hd
  obtain ⟨q1, q2⟩ := prm_iff.mp hq
  have e : t / d * d = t := Nat.div_mul_cancel (Nat.dvd_of_mod_eq_zero d3)
  have hp : 0 < t / d := Nat.div_pos d2 (by omega)
  refine List.mem_map.mpr ⟨q.map (t / d * ·), rw_of (by rw [List.length_map]; exact rw_len q1) (by rw [sum_mul, rw_sum q1]; exact e), ?_⟩
  rw [lw_mul hp]
  unfold lwN
  rw [q2]
  exact Eq.trans (List.map_congr_left fun n _ => Nat.div_one n) (List.map_id q)
 have pm : ((rwN (k + 1) t).map lwN).Perm (keysOn (k + 1) (dvs t)) := (List.perm_ext_iff_of_nodup nl nd).mpr fun q => ⟨fun hq => by
  obtain ⟨r, hr, rfl⟩ := List.mem_map.mp hq
  exact lk hr, kl⟩
 have ln : (rwN (k + 1) t).length = (keysOn (k + 1) (dvs t)).length := by
  have := pm.length_eq
  rw [List.length_map] at this
  exact this
 refine ⟨nd, nl, by rw [keys_len, ln], ln, fun r hr => ?_⟩
 have a := lw_sum r
 rw [rw_sum hr] at a
 have hp : 0 < (lwN r).sum := by
  rcases Nat.eq_zero_or_pos (lwN r).sum with z | z
  ·rw [z, Nat.mul_zero] at a; omega
  ·exact z
 refine ⟨(lwN r).sum, look_sum (vals_sum _) (lk hr), hp, ?_⟩
 rw [← a, Nat.mul_div_cancel _ hp]
 exact lw_back r
theorem kz_inj : ∀ {a b : List Nat}, kz a = kz b → a = b
 | [], [], _ => rfl
 | [], _ :: _, h => nomatch h
 | _ :: _, [], h => nomatch h
 | x :: a, y :: b, h => by
  have h : ((Sum.inl (x : Int) : Key) :: kz a) = Sum.inl (y : Int) :: kz b := h
  rw [List.cons.injEq] at h
  obtain ⟨h1, h2⟩ := h
  have h1 : (x : Int) = (y : Int) := Sum.inl.inj h1
  rw [kz_inj h2, show x = y by omega]
theorem kz_keys : ∀ r : List Nat, keysOf ((zv r).map D.int) = some (kz r)
 | [] => rfl
 | n :: r => by
  show (some (Sum.inl (n : Int) : Key)).bind (fun k => (keysOf ((zv r).map D.int)).map fun ks => k :: ks) = _
  rw [kz_keys r]
  rfl
theorem keyT_tPN (r : List Nat) : keyT (tPN r) = some (kz r) := by
 show (if 1000 = 1000 then keysOf ((zv r).map D.int) else none) = _
 rw [if_pos rfl, kz_keys]
theorem nd_kz {l : List (List Nat)} (h : l.Nodup) : (l.map kz).Nodup := List.pairwise_map.mpr (List.Pairwise.imp (fun hne e => hne (kz_inj e)) h)
theorem dtIx_kz : ∀ {ks : List (List Nat)} {vs : List Nat} {r : List Nat}, dtIx (ks.map kz) (vs.map fun n : Nat => D.int (n : Int)) (kz r) = (lookN ks vs r).map fun n : Nat => D.int (n : Int)
 | [], vs, r => by simp [dtIx, lookN]
 | k :: ks, [], r => by simp [dtIx, lookN]
 | k :: ks, v :: vs, r => by
  have ih := dtIx_kz (ks := ks) (vs := vs) (r := r)
  unfold dtIx at ih ⊢
  rw [List.map_cons, List.map_cons, List.zip_cons_cons, List.find?_cons]
  unfold lookN
  by_cases h : eqB k r = true
  ·rw [if_pos h, eqB_iff.mp h]
   simp
  ·have hne : ¬ kz k = kz r := fun e => h (eqB_iff.mpr (kz_inj e))
   rw [if_neg h, ← ih]
   simp [hne]
theorem dtIx_none {α : Type} : ∀ {ks : List (List Key)} {vs : List D} {k : List Key}, k ∉ ks → dtIx ks vs k = none
 | [], vs, k, _ => by simp [dtIx]
 | a :: ks, [], k, _ => by simp [dtIx]
 | a :: ks, v :: vs, k, h => by
  have ih := dtIx_none (α := α) (ks := ks) (vs := vs) (k := k) fun z => h (List.mem_cons_of_mem _ z)
  unfold dtIx at ih ⊢
  rw [List.zip_cons_cons, List.find?_cons]
  have : ¬ a = k := fun z => h (by rw [z]; exact List.mem_cons_self ..)
  simp [this]
  simpa using ih
theorem stK_new {ks : List Key} {k : Key} (h : k ∉ ks) : Pv.stK ks k = ks ++ [k] := by
 unfold Pv.stK
 rw [if_neg]
 unfold hasK
 simpa using h
theorem stV_new {α : Type} {ks : List Key} {vs : List α} {k : Key} {v : α} (h : k ∉ ks) : stV ks vs k v = vs ++ [v] := by
 unfold stV
 rw [if_neg]
 unfold hasK
 simpa using h
theorem stG_new {ks : List (List Key)} {k : List Key} (h : k ∉ ks) : stG ks k = ks ++ [k] := by
 unfold stG
 rw [if_neg]
 unfold hasG
 simpa using h
theorem stW_new {α : Type} {ks : List (List Key)} {vs : List α} {k : List Key} {v : α} (h : k ∉ ks) : stW ks vs k v = vs ++ [v] := by
 unfold stW
 rw [if_neg]
 unfold hasG
 simpa using h
theorem prKV_pairs (d : Nat) : ∀ l : List (List Nat), prKV (l.map fun r => .tup [tPN r, .int (d : Int)]) = some (l.map kz, l.map fun _ => D.int (d : Int))
 | [] => rfl
 | r :: l => by
  show (keyT (tPN r)).bind (fun k => (prKV (l.map fun r => .tup [tPN r, .int (d : Int)])).map fun q => (k :: q.1, .int (d : Int) :: q.2)) = _
  rw [keyT_tPN, prKV_pairs d l]
  rfl
structure Bx (S : Sto) (h n : Nat) (ks : List Key) (vs : List D) (mk : List (List Key)) (mv : List D) (S' : Sto) : Prop where
 hd : HD n S' h
 up : Up h S S'
 len : S.length + 2 ≤ S'.length
 cb : S'[S.length]? = some (.dk ks vs)
 mb : S'[S.length + 1]? = some (.dt mk mv)
section
variable {S S' : Sto} {h n : Nat} {ks : List Key} {vs : List D} {mk : List (List Key)} {mv : List D}
theorem Bx.app {T : Sto} (b : Bx S h n ks vs mk mv S') : Bx S h n ks vs mk mv (S' ++ T) :=
 ⟨b.hd.app, b.up.trans .app, by rw [List.length_append]; have := b.len; omega, by rw [List.getElem?_append_left (by have := b.len; omega)]; exact b.cb, by rw [List.getElem?_append_left (by have := b.len; omega)]; exact b.mb⟩
theorem Bx.setc (hh : h < S.length) {ks2 : List Key} {vs2 : List D} (b : Bx S h n ks vs mk mv S') : Bx S h n ks2 vs2 mk mv (S'.set S.length (.dk ks2 vs2)) :=
 ⟨b.hd.setNe (by omega), b.up.setNew (Nat.le_refl _), by rw [List.length_set]; exact b.len, by rw [List.getElem?_set_self (by have := b.len; omega)], by rw [List.getElem?_set_ne (by omega)]; exact b.mb⟩
theorem Bx.setm (hh : h < S.length) {mk2 : List (List Key)} {mv2 : List D} (b : Bx S h n ks vs mk mv S') : Bx S h n ks vs mk2 mv2 (S'.set (S.length + 1) (.dt mk2 mv2)) :=
 ⟨b.hd.setNe (by omega), b.up.setNew (by omega), by rw [List.length_set]; exact b.len, by rw [List.getElem?_set_ne (by omega)]; exact b.cb, by rw [List.getElem?_set_self (by have := b.len; omega)]⟩
theorem Bx.setf (hh : h < S.length) {k : Nat} {o : Ob} (hk : S.length + 2 ≤ k) (b : Bx S h n ks vs mk mv S') : Bx S h n ks vs mk mv (S'.set k o) :=
 ⟨b.hd.setNe (by omega), b.up.setNew (by omega), by rw [List.length_set]; exact b.len, by rw [List.getElem?_set_ne (by omega)]; exact b.cb, by rw [List.getElem?_set_ne (by omega)]; exact b.mb⟩
theorem dk_at {S : Sto} {i : Nat} {ks : List Key} {vs : List D} (h : S[i]? = some (.dk ks vs)) (hl : ks.length = vs.length) : dkAt S (.dref i) = some (ks, vs) := by
 unfold dkAt
 simp only
 rw [h]
 exact if_pos hl
theorem dt_at {S : Sto} {i : Nat} {ks : List (List Key)} {vs : List D} (h : S[i]? = some (.dt ks vs)) (hl : ks.length = vs.length) : dtAt S (.dref i) = some (ks, vs) := by
 unfold dtAt
 simp only
 rw [h]
 exact if_pos hl
end
theorem Ok2.okm {m t d : Nat} (h : Ok2 m t) (hd : d ≤ t) : Okm m d := by
 unfold Ok2 at h
 unfold Okm
 omega
theorem Ok2.rr {m t d : Nat} (h : Ok2 m t) (hd : d ≤ t) (h1 : 1 ≤ d) {r : List Nat} (hr : r ∈ rwN m d) : Rr r := by
 refine ⟨rw_nz hr (by omega), fun n hn => ?_, ?_⟩
 ·have := le_sum hn
  rw [rw_sum hr] at this
  unfold Ok2 at h
  omega
 ·rw [rw_len hr]
  unfold Ok2 at h
  omega
theorem dvs_mem {t d : Nat} (h : d ∈ dvs t) : 1 ≤ d ∧ d ≤ t := by
 obtain ⟨h1, _⟩ := List.mem_filter.mp h
 obtain ⟨x, hx, rfl⟩ := List.mem_map.mp h1
 have := List.mem_range.mp hx
 omega
theorem dvs_nd (t : Nat) : (dvs t).Nodup := by
 unfold dvs
 exact List.Pairwise.filter _ (List.pairwise_map.mpr (List.Pairwise.imp (fun hne e => hne (by omega)) List.nodup_range))
theorem prm_one {m t : Nat} (h : Ok2 m t) : (prm m 1).map kz ∈ unitK := by
 obtain ⟨_, ⟨rfl, _⟩ | ⟨rfl, _⟩⟩ := h
 ·rw [show (prm 2 1).map kz = [[.inl 0, .inl 1], [.inl 1, .inl 0]] by decide +kernel]
  exact List.mem_cons_self ..
 ·rw [show (prm 3 1).map kz = [[.inl 0, .inl 0, .inl 1], [.inl 0, .inl 1, .inl 0], [.inl 1, .inl 0, .inl 0]] by decide +kernel]
  exact List.mem_cons_of_mem _ (List.mem_cons_self ..)
theorem dvs_head {t : Nat} (h : 1 ≤ t) {d : Nat} {l : List Nat} (e : dvs t = d :: l) : d = 1 := by
 obtain ⟨k, rfl⟩ : ∃ k, t = k + 1 := ⟨t - 1, by omega⟩
 unfold dvs at e
 rw [List.range_succ_eq_map, List.map_cons, List.filter_cons_of_pos (by rw [Nat.mod_one]; rfl)] at e
 cases e
 rfl
def iD (n : Nat) : D := .int (n : Int)
theorem look_mem : ∀ {ks : List (List Nat)} {vs : List Nat} {r : List Nat} {d : Nat}, lookN ks vs r = some d → d ∈ vs
 | [], vs, r, d, h => by unfold lookN at h; cases h
 | k :: ks, [], r, d, h => by unfold lookN at h; cases h
 | k :: ks, v :: vs, r, d, h => by
  unfold lookN at h
  split at h
  ·cases h
   exact List.mem_cons_self ..
  ·exact List.mem_cons_of_mem _ (look_mem h)
theorem vals_mem {m t d : Nat} (h : d ∈ valsOn m (dvs t)) : 1 ≤ d ∧ d ≤ t := by
 obtain ⟨x, hx, h⟩ := List.mem_flatMap.mp h
 obtain ⟨_, _, rfl⟩ := List.mem_map.mp h
 exact dvs_mem hx
theorem zv_sum : ∀ l : List Nat, (zv l).sum = ((l.sum : Nat) : Int)
 | [] => rfl
 | a :: l => by
  show ((a : Int) :: zv l).sum = _
  rw [List.sum_cons, zv_sum l, List.sum_cons]
  omega
theorem val_len {m : Nat} : ∀ l : List Nat, (valsOn m l).length = (keysOn m l).length
 | [] => rfl
 | d :: l => by
  have ih := val_len (m := m) l
  unfold valsOn keysOn at ih ⊢
  rw [List.flatMap_cons, List.flatMap_cons, List.length_append, List.length_append, List.length_map, ih]
theorem zd (r : List Nat) : (zv r).map D.int = r.map iD := by
 unfold zv
 rw [List.map_map]
 rfl
theorem CV_mr {S : Sto} {r : List Nat} {Q : D → Sto → Prop} (h : Rr r) (hl : r.length = 2 ∨ r.length = 3) (q : Q (.bl true) S) : CV c__law_mills_right [.tup ((zv r).map D.int)] S Q := by
 rcases hl with hl | hl
 ·match r, hl, h with
  | [a, b], _, h => exact CV_mr2 h q
 ·match r, hl, h with
  | [a, b, c], _, h => exact CV_mr3 h q
theorem ne_row {S : Sto} {r : List Nat} (h : Rr r) : fNe S (.tup ((zv r).map D.int)) (.tup ((zv r).map D.int)) = some (.bl false) := by
 have h2 : ∀ l : List Nat, (∀ n, n ∈ l → n ≤ 1000000) → shortL 13 ((zv l).map D.int) = true ∧ depL ((zv l).map D.int) ≤ 1 := fun l hl => by
  induction l with
  | nil => exact ⟨rfl, by decide⟩
  | cons a l ih =>
   obtain ⟨i1, i2⟩ := ih fun n hn => hl n (List.mem_cons_of_mem _ hn)
   have := hl a (List.mem_cons_self ..)
   refine ⟨?_, ?_⟩
   ·show (decide ((a : Int).natAbs < 10 ^ 13) && shortL 13 ((zv l).map D.int)) = true
    rw [i1, decide_eq_true (by omega)]
    rfl
   ·show max _ (depL ((zv l).map D.int)) ≤ 1
    show max (dep (.int (a : Int))) (depL ((zv l).map D.int)) ≤ 1
    have : dep (.int (a : Int)) ≤ 1 := by simp [dep]
    omega
 obtain ⟨i1, i2⟩ := h2 r h.le
 exact r_ne_self 13 i1 (by show depL _ + 1 ≤ 64; omega)
theorem CV_right {S : Sto} {h n m t : Nat} {Q : D → Sto → Prop} (H : HD n S h) (hn : n ≤ 1000) (ok : Ok2 m t) (q : ∀ S', St h (n + 1) S S' → Q (.bl true) S') : CV c__law_right [.ref h, .int m, .int t] S Q := by
 have hh := H.lt
 have F := fac ok
 have t60 : t ≤ 60 := by unfold Ok2 at ok; omega
 refine CV_hand (h := h) (n := n + 1) hh rfl ?_
 unfold b__law_right
 rw [e__law_take]
 refine SV_cutG fun G hG => ?_
 (simp_arith! [EV_dk0, EV_de0])
 refine CV_take (H.app.app) (by omega) (by decide) (by decide) fun y S1 y0 y1 t1 => ?_
 (simp_arith! [])
 have b0 : Bx S h (n + 1) [] [] [] [] S1 := by
  have hl := t1.eq
  rw [List.length_append, List.length_append, List.length_singleton, List.length_singleton] at hl
  refine ⟨t1.hd, (Up.app.trans .app).trans t1.up, by omega, t1.box (by omega) (by simp), t1.box (by omega) (by simp)⟩
 obtain ⟨tm, etm, tm1, tm2⟩ : ∃ tm : Nat, 1 + y = (tm : Int) ∧ 1 ≤ tm ∧ tm ≤ 99 := ⟨(1 + y).toNat, by omega, by omega, by omega⟩
 rw [etm]
 rw [show (S ++ [Ob.dk [] []]).length = S.length + 1 by simp]
 refine hG _ _ ?_
 clear hG G
 refine SV_cutG fun G hG => ?_
 (simp_arith! [])
 refine ⟨by rw [Bool.and_eq_true]; exact ⟨rg_ok (by decide) (by decide), rg_ok (by omega) (by omega)⟩, ?_⟩
 have erg : rgD 1 ((t : Int) + 1) = ((List.range t).map (· + 1)).map iD := by
  unfold rgD
  rw [show ((t : Int) + 1 - 1).toNat = t by omega, List.map_map]
  refine List.map_congr_left fun i _ => ?_
  show D.int (1 + (i : Int)) = D.int ((i + 1 : Nat) : Int)
  rw [show 1 + (i : Int) = ((i + 1 : Nat) : Int) by omega]
 rw [erg]
 refine (LV_filtG iD iD (fun d => Nat.beq (t % d) 0) (fun n _ => rfl) fun d K hd hK => ?_).lc fun out S2 q2 => ?_
 ·obtain ⟨x, hx, rfl⟩ := List.mem_map.mp hd
  refine GV_n.mpr ?_
  simp only [List.set_cons_succ, List.set_cons_zero]
  (simp_arith! [iD])
  refine ⟨by omega, ?_, hK⟩
  rw [Int.fmod_eq_emod_of_nonneg _ (by omega), ← Int.natCast_emod]
  cases hb : Nat.beq (t % (x + 1)) 0 with
  | true => rw [Nat.eq_of_beq_eq_true hb]; rfl
  | false => exact decide_eq_false fun z => Nat.ne_of_beq_eq_false hb (by omega)
 ·obtain ⟨rfl, rfl⟩ := q2
  refine ⟨sz_le (by rw [List.length_map]; refine Nat.le_trans (List.length_filter_le ..) ?_; rw [List.length_map, List.length_range]; omega), ?_⟩
  rw [show ((List.range t).map (· + 1)).filter (fun d => Nat.beq (t % d) 0) = dvs t from rfl]
  (simp_arith! [])
  refine SV_forI (fun r e S' => ∃ (don rest : List Nat) (x3 x6 x10 : Option D), r = rest.map iD ∧ don ++ rest = dvs t ∧ e = [some (.ref h), some (.int m), some (.int t), x3, none, none, x6, some (.dref S.length), some (.dref (S.length + 1)), some (.int tm), x10, none, none] ∧ Bx S h (n + 1) (don.map fun d : Nat => Sum.inl (d : Int)) (don.map fun d => iD (prm m d).length) ((keysOn m don).map kz) ((valsOn m don).map iD) S') ⟨[], _, _, _, _, rfl, rfl, rfl, b0⟩ ?_ ?_
  ·rintro dd r e S' K ⟨don, rest, x3, x6, x10, hr, hd, rfl, b⟩ hK
   cases rest with
   | nil => cases hr
   | cons d rest =>
    cases hr
    have hm : d ∈ dvs t := by rw [← hd]; simp
    obtain ⟨d1, d2⟩ := dvs_mem hm
    refine GV_n.mpr ?_
    simp only [List.set_cons_succ, List.set_cons_zero]
    refine SV_cutG fun G hG => ?_
    (simp_arith! [iD])
    refine CV_rows 4 (by unfold Ok2 at ok; omega) (ok.okm d2) ?_
    (simp_arith! [])
    refine (LV_filtG tPN tPN (fun r => Nat.beq (gcN r) 1) (fun n _ => rfl) fun r K2 hr hK2 => ?_).lc fun out S2 q2 => ?_
    ·refine GV_n.mpr ?_
     simp only [List.set_cons_succ, List.set_cons_zero]
     (simp_arith! [EV_unP, unP_tPN])
     refine CV_shr (ok.rr d2 d1 hr) (rw_len hr) ?_
     exact ⟨_, rfl, rfl, rfl, hK2⟩
    ·obtain ⟨rfl, rfl⟩ := q2
     refine ⟨sz_le (by rw [List.length_map]; refine Nat.le_trans (List.length_filter_le ..) ?_; have := (ok.okm d2).len; omega), ?_⟩
     rw [show (rwN m d).filter (fun r => Nat.beq (gcN r) 1) = prm m d from rfl]
     refine hG _ _ ?_
     clear hG G
     refine SV_cutG fun G hG => ?_
     (simp_arith! [SV_dput])
     have dn : d ∉ don := fun z => by
      have := dvs_nd t
      rw [← hd] at this
      exact (List.nodup_append.mp this).2.2 d z d (List.mem_cons_self ..) rfl
     have hk : (Sum.inl (d : Int) : Key) ∉ don.map fun d : Nat => (Sum.inl (d : Int) : Key) := fun z => by
      obtain ⟨x, hx, e⟩ := List.mem_map.mp z
      have e : (x : Int) = (d : Int) := Sum.inl.inj e
      exact dn (by rw [show d = x by omega]; exact hx)
     have dl : don.length ≤ 60 := by
      have : (don ++ d :: rest).length ≤ t := by
       rw [hd]
       refine Nat.le_trans (List.length_filter_le ..) ?_
       rw [List.length_map, List.length_range]
       exact Nat.le_refl _
      rw [List.length_append] at this
      omega
     refine ⟨_, rfl, _, dk_at b.cb (by rw [List.length_map, List.length_map]), _, rfl, sz_le (by show (don.map _).length + 1 ≤ _; rw [List.length_map]; omega), ?_⟩
     rw [stK_new hk, stV_new hk]
     have b2 := b.setc hh (ks2 := (don ++ [d]).map fun d : Nat => Sum.inl (d : Int)) (vs2 := (don ++ [d]).map fun d => iD (prm m d).length)
     have eb : S2.set S.length (.dk ((don.map fun d : Nat => Sum.inl (d : Int)) ++ [Sum.inl (d : Int)]) ((don.map fun d => iD (prm m d).length) ++ [.int ((List.map tPN (prm m d)).length : Nat)])) = S2.set S.length (.dk ((don ++ [d]).map fun d : Nat => Sum.inl (d : Int)) ((don ++ [d]).map fun d => iD (prm m d).length)) := by
      rw [List.map_append, List.map_append, List.length_map]
      rfl
     rw [eb]
     generalize S2.set S.length (.dk ((don ++ [d]).map fun d : Nat => Sum.inl (d : Int)) ((don ++ [d]).map fun d => iD (prm m d).length)) = S3 at *
     refine hG _ _ ?_
     clear hG G
     (simp_arith! [EV_dupt, EV_dpr])
     refine (LV_mapG tPN (fun r => .tup [tPN r, .int (d : Int)]) (fun n _ => rfl) fun r K2 hr hK2 => ?_).lc fun out S4 q2 => ?_
     ·refine GV_n.mpr ?_
      simp only [List.set_cons_succ, List.set_cons_zero]
      (simp_arith! [])
      exact hK2
     ·obtain ⟨rfl, rfl⟩ := q2
      refine ⟨sz_le (by rw [List.length_map]; refine Nat.le_trans (List.length_filter_le ..) ?_; have := (ok.okm d2).len; omega), ?_⟩
      (simp_arith! [])
      have b3 : Bx S h (n + 1) _ _ _ _ (S4 ++ [Ob.dt ((prm m d).map kz) ((prm m d).map fun _ => iD d)]) := b2.app
      have kk : keysOn m (don ++ [d]) = keysOn m don ++ prm m d := by
       unfold keysOn
       rw [List.flatMap_append, List.flatMap_singleton]
      have vv : valsOn m (don ++ [d]) = valsOn m don ++ (prm m d).map fun _ => d := by
       unfold valsOn
       rw [List.flatMap_append, List.flatMap_singleton]
      have kd : keysOn m (dvs t) = (keysOn m don ++ prm m d) ++ keysOn m rest := by
       rw [← hd]
       unfold keysOn
       rw [List.flatMap_append, List.flatMap_cons, List.append_assoc]
      have kn := F.nd
      have kl := F.ln
      have rl := (ok.okm (Nat.le_refl t)).len
      rw [kd] at kn kl
      rw [List.length_append, List.length_append] at kl
      have vl : (valsOn m don).length = (keysOn m don).length := val_len don
      refine ⟨_, rfl, _, prKV_pairs d (prm m d), nd_kz (List.nodup_append.mp (List.nodup_append.mp kn).1).2.1, _, rfl, _, rfl, _, dt_at b3.mb (by rw [List.length_map, List.length_map]; exact vl.symm), _, dt_at (ks := (prm m d).map kz) (vs := (prm m d).map fun _ => iD d) (by rw [List.getElem?_append_right (Nat.le_refl _), Nat.sub_self]; rfl) (by rw [List.length_map, List.length_map]), ?_, ?_, ?_, sz_le (by show (List.map kz _).length + (List.map kz _).length ≤ _; rw [List.length_map, List.length_map]; omega), ?_⟩
      ·have := b2.len; omega
      ·show ((keysOn m don).map kz ++ (prm m d).map kz).Nodup
       rw [← List.map_append]
       exact nd_kz (List.nodup_append.mp kn).1
      ·cases don with
       | nil =>
        have : d = 1 := dvs_head ok.1 hd.symm
        subst this
        exact .inr (prm_one ok)
       | cons d0 don =>
        have : d0 = 1 := dvs_head ok.1 hd.symm
        subst this
        refine .inl fun z => ?_
        have z : (keysOn m (1 :: don)).map kz = [] := z
        have z2 : keysOn m (1 :: don) = [] := List.map_eq_nil_iff.mp z
        unfold keysOn at z2
        rw [List.flatMap_cons] at z2
        have z3 := (List.append_eq_nil_iff.mp z2).1
        have z4 := prm_one ok
        rw [z3] at z4
        revert z4
        show ([] : List (List Key)) ∈ unitK → False
        unfold unitK
        simp
      ·refine ⟨(by intro n h; cases h), hK _ _ ⟨don ++ [d], rest, _, _, _, rfl, by rw [← hd]; simp, rfl, ?_⟩⟩
       have b4 := b3.setm hh (mk2 := (keysOn m (don ++ [d])).map kz) (mv2 := (valsOn m (don ++ [d])).map iD)
       have e1 : (keysOn m (don ++ [d])).map kz = (keysOn m don).map kz ++ (prm m d).map kz := by rw [kk, List.map_append]
       have e2 : (valsOn m (don ++ [d])).map iD = (valsOn m don).map iD ++ (prm m d).map fun _ => iD d := by
        rw [vv, List.map_append, List.map_map]
        rfl
       rw [e1, e2] at b4
       rw [e1, e2]
       exact b4
  ·rintro e S' ⟨don, rest, x3, x6, x10, hr, hd, rfl, b⟩
   have : rest = [] := List.map_eq_nil_iff.mp hr.symm
   subst this
   rw [List.append_nil] at hd
   subst hd
   refine hG _ _ ?_
   clear hG G
   refine SV_cutG fun G hG => ?_
   (simp_arith! [])
   refine CV_rows 4 (by unfold Ok2 at ok; omega) (ok.okm (Nat.le_refl t)) ?_
   refine hG _ _ ?_
   clear hG G
   refine SV_cutG fun G hG => ?_
   have es : ∀ T : Sto, gSum T (.lst ((dvs t).map fun d => iD (prm m d).length)) = some (.int (((rwN m t).length : Nat) : Int)) := fun T => by
    rw [show ((dvs t).map fun d => iD (prm m d).length) = (zv ((dvs t).map fun d => (prm m d).length)).map D.int by unfold zv; rw [List.map_map, List.map_map]; rfl, r_sumL, zv_sum, F.cs]
   have dl : (dvs t).length ≤ 60 := by
    refine Nat.le_trans (List.length_filter_le ..) ?_
    rw [List.length_map, List.length_range]
    omega
   (simp_arith! [AV_vals])
   refine ⟨_, rfl, _, dk_at b.cb (by rw [List.length_map, List.length_map]), by decide, List.pairwise_map.mpr (List.Pairwise.imp (fun hne e => hne (by have e := Sum.inl.inj e; omega)) (dvs_nd t)), sz_le (by show (List.map _ _).length ≤ _; rw [List.length_map]; omega), ?_⟩
   show BV (gSum S' (.lst ((dvs t).map fun d => iD (prm m d).length))) _
   rw [es, List.length_map]
   (simp_arith! [])
   refine hG _ _ ?_
   clear hG G
   refine SV_cutG fun G hG => ?_
   (simp_arith! [EV_de0])
   refine hG _ _ ?_
   clear hG G
   have b5 : Bx S h (n + 1) _ _ _ _ (S' ++ [Ob.dt [] []]) := b.app
   refine SV_cutG fun G hG => ?_
   (simp_arith! [])
   have hL := b.len
   generalize hLL : S'.length = L at *
   have f5 : (S' ++ [Ob.dt [] []])[L]? = some (.dt [] []) := by rw [← hLL, List.getElem?_append_right (Nat.le_refl _), Nat.sub_self]; rfl
   generalize S' ++ [Ob.dt [] []] = S5 at *
   have rl := (ok.okm (Nat.le_refl t)).len
   refine SV_forI (fun r e T => ∃ (don rest : List (List Nat)) (x6 x11 : Option D), r = rest.map tPN ∧ don ++ rest = rwN m t ∧ e = [some (.ref h), some (.int m), some (.int t), x3, some (.lst ((rwN m t).map tPN)), some (.dref L), x6, some (.dref S.length), some (.dref (S.length + 1)), some (.int tm), x10, x11, none] ∧ Bx S h (n + 1) ((dvs t).map fun d : Nat => Sum.inl (d : Int)) ((dvs t).map fun d => iD (prm m d).length) ((keysOn m (dvs t)).map kz) ((valsOn m (dvs t)).map iD) T ∧ T[L]? = some (.dt ((don.map lwN).map kz) (don.map fun _ => .bl true))) ⟨[], _, _, _, rfl, rfl, rfl, b5, f5⟩ ?_ ?_
   ·rintro dd r e T K ⟨don, rest, x6, x11, hr, hd, rfl, b, fo⟩ hK
    cases rest with
    | nil => cases hr
    | cons r rest =>
     cases hr
     have hm : r ∈ rwN m t := by rw [← hd]; simp
     have R := ok.rr (Nat.le_refl t) ok.1 hm
     obtain ⟨d, g1, g2, g3⟩ := F.at_ r hm
     have vl := val_len (m := m) (dvs t)
     have ma : dtAt T (.dref (S.length + 1)) = some ((keysOn m (dvs t)).map kz, (valsOn m (dvs t)).map iD) := dt_at b.mb (by rw [List.length_map, List.length_map]; exact vl.symm)
     have fa : dtAt T (.dref L) = some ((don.map lwN).map kz, don.map fun _ => .bl true) := dt_at fo (by rw [List.length_map, List.length_map, List.length_map])
     have ix : dtIx ((keysOn m (dvs t)).map kz) ((valsOn m (dvs t)).map iD) (kz (lwN r)) = some (iD d) := by
      have := dtIx_kz (ks := keysOn m (dvs t)) (vs := valsOn m (dvs t)) (r := lwN r)
      rw [g1] at this
      exact this
     have fn : kz (lwN r) ∉ (don.map lwN).map kz := fun z => by
      obtain ⟨x, hx, e⟩ := List.mem_map.mp z
      have e := kz_inj e
      subst e
      have nl := F.nl
      rw [← hd, List.map_append, List.map_cons] at nl
      exact (List.nodup_append.mp nl).2.2 _ hx _ (List.mem_cons_self ..) rfl
     have q1 : fDTNotIn T (tPN (lwN r)) (.dref (S.length + 1)) = some (.bl false) := by
      unfold fDTNotIn
      rw [ma]
      show (keyT (tPN (lwN r))).map _ = _
      rw [keyT_tPN]
      show some (D.bl (!(dtIx _ _ _).isSome)) = _
      rw [ix]
      rfl
     have q2 : fDTIn T (tPN (lwN r)) (.dref L) = some (.bl false) := by
      unfold fDTIn
      rw [fa]
      show (keyT (tPN (lwN r))).map _ = _
      rw [keyT_tPN]
      show some (D.bl (dtIx _ _ _).isSome) = _
      rw [dtIx_none (α := Nat) fn]
      rfl
     have q3 : fDTIx T (.dref (S.length + 1)) (tPN (lwN r)) = some (.int (d : Int)) := by
      unfold fDTIx
      rw [ma]
      show (keyT (tPN (lwN r))).bind _ = _
      rw [keyT_tPN]
      exact ix
     refine GV_n.mpr ?_
     simp only [List.set_cons_succ, List.set_cons_zero]
     refine SV_cutG fun G hG => ?_
     (simp_arith! [EV_unP, unP_tPN])
     refine CV_low R ?_
     refine hG _ _ ?_
     clear hG G
     refine SV_cutG fun G hG => ?_
     (simp_arith! [EV_unP, unP_tPN, q1, q2])
     have Rt : Rr (r.map (tm * ·)) := by
      refine ⟨?_, fun n hn => ?_, by rw [List.length_map]; exact R.ln⟩
      ·obtain ⟨n, hn, hz⟩ := R.nz
       exact ⟨tm * n, List.mem_map.mpr ⟨n, hn, rfl⟩, Nat.mul_ne_zero (by omega) hz⟩
      ·obtain ⟨x, hx, rfl⟩ := List.mem_map.mp hn
       have h1 := le_sum hx
       rw [rw_sum hm] at h1
       have h2 : tm * x ≤ 99 * 60 := Nat.mul_le_mul tm2 (by omega)
       omega
     have Rl : Rr (lwN r) := by
      have gp := R.gpos
      refine ⟨?_, fun n hn => ?_, by unfold lwN; rw [List.length_map]; exact R.ln⟩
      ·obtain ⟨n, hn, hz⟩ := R.nz
       have dv : gcN r ∣ n := by
        have h1 := (gcdF_dvd (zv r) 0).2 (n : Int) (List.mem_map.mpr ⟨n, hn, rfl⟩)
        rw [gcd_zv] at h1
        exact Int.natCast_dvd_natCast.mp h1
       have hle := Nat.le_of_dvd (by omega) dv
       exact ⟨n / gcN r, List.mem_map.mpr ⟨n, hn, rfl⟩, by have := Nat.div_pos hle gp; omega⟩
      ·obtain ⟨x, hx, rfl⟩ := List.mem_map.mp hn
       have := R.le x hx
       have := Nat.div_le_self x (gcN r)
       omega
     rw [zd r]
     refine (LV_mapG iD (fun x => iD (tm * x)) (fun n _ => rfl) fun x K2 hx hK2 => ?_).lc fun out S3 q2 => ?_
     ·refine GV_n.mpr ?_
      simp only [List.set_cons_succ, List.set_cons_zero]
      (simp_arith! [iD])
      have h1 := R.le x hx
      refine ⟨sm_mul (sm_k (by omega)) (sm_k (by omega)), ?_⟩
      rw [← Int.natCast_mul]
      exact hK2
     ·obtain ⟨rfl, rfl⟩ := q2
      have l3 := R.ln
      refine ⟨sz_le (by rw [List.length_map]; omega), ?_⟩
      rw [show r.map (fun x => iD (tm * x)) = (zv (r.map (tm * ·))).map D.int by rw [zd, List.map_map]; rfl]
      refine CV_low Rt ?_
      rw [lw_mul tm1, unP_tPN, ne_row Rl]
      (simp_arith! [])
      refine hG _ _ ?_
      clear hG G
      refine SV_cutG fun G hG => ?_
      (simp_arith! [EV_unP, unP_tPN])
      rw [zd (lwN r)]
      refine (LV_mapG iD (fun x => iD (t / d * x)) (fun n _ => rfl) fun x K2 hx hK2 => ?_).lc fun out S4 q2 => ?_
      ·refine GV_n.mpr ?_
       simp only [List.set_cons_succ, List.set_cons_zero]
       (simp_arith! [iD, q3])
       have h1 := Rl.le x hx
       obtain ⟨v1, v2⟩ := vals_mem (look_mem g1)
       have e1 : ((t : Int)).fdiv (d : Int) = ((t / d : Nat) : Int) := by
        rw [Int.fdiv_eq_ediv_of_nonneg _ (by omega), Int.natCast_ediv]
       have e2 : t / d ≤ 60 := Nat.le_trans (Nat.div_le_self ..) t60
       rw [e1]
       clear e1 g3
       generalize t / d = w at *
       refine ⟨sm_div (sm_k (by omega)) (by omega), sm_mul (sm_k (by omega)) (sm_k (by omega)), ?_⟩
       rw [← Int.natCast_mul]
       exact hK2
      ·obtain ⟨rfl, rfl⟩ := q2
       refine ⟨sz_le (by unfold lwN; rw [List.length_map, List.length_map]; omega), ?_⟩
       rw [show (lwN r).map (fun x => iD (t / d * x)) = (zv r).map D.int by rw [zd]; refine Eq.trans ?_ (congrArg (List.map iD) g3); rw [List.map_map]; rfl]
       (simp_arith! [])
       rw [ne_row R]
       (simp_arith! [])
       refine hG _ _ ?_
       clear hG G
       (simp_arith! [SV_dputT])
       have ll : don.length ≤ 231 := by
        have : (don ++ r :: rest).length ≤ 231 := by rw [hd]; exact rl
        rw [List.length_append] at this
        omega
       refine ⟨_, rfl, _, fa, _, keyT_tPN _, sz_le (by show (List.map kz _).length + 1 ≤ _; rw [List.length_map, List.length_map]; omega), ?_⟩
       refine ⟨(by intro n h; cases h), hK _ _ ⟨don ++ [r], rest, _, _, rfl, by rw [← hd]; simp, rfl, b.setf hh hL, ?_⟩⟩
       have hLT := (List.getElem?_eq_some_iff.mp fo).1
       rw [List.getElem?_set_self hLT, stG_new fn, stW_new fn, List.map_append, List.map_append, List.map_append]
       rfl
   ·rintro e T ⟨don, rest, x6, x11, hr, hd, rfl, b, fo⟩
    have : rest = [] := List.map_eq_nil_iff.mp hr.symm
    subst this
    rw [List.append_nil] at hd
    subst hd
    refine hG _ _ ?_
    clear hG G
    have vl := val_len (m := m) (dvs t)
    have ma : dtAt T (.dref (S.length + 1)) = some ((keysOn m (dvs t)).map kz, (valsOn m (dvs t)).map iD) := dt_at b.mb (by rw [List.length_map, List.length_map]; exact vl.symm)
    have fa : dtAt T (.dref L) = some (((rwN m t).map lwN).map kz, (rwN m t).map fun _ => .bl true) := dt_at fo (by rw [List.length_map, List.length_map, List.length_map])
    have k1 : gLenDT T (.dref L) = some (.int (((rwN m t).length : Nat) : Int)) := by
     unfold gLenDT
     rw [fa]
     show some (D.int _) = _
     rw [List.length_map, List.length_map]
    have k2 : gLenDT T (.dref (S.length + 1)) = some (.int (((rwN m t).length : Nat) : Int)) := by
     unfold gLenDT
     rw [ma]
     show some (D.int _) = _
     rw [List.length_map, F.ln]
    (simp_arith! [k1, k2])
    refine (LV_filtG tPN (fun _ => D.bl true) (fun r => Nat.beq (gcN r) 1) (fun n _ => rfl) fun r K2 hr hK2 => ?_).lc fun out S3 q2 => ?_
    ·refine GV_n.mpr ?_
     simp only [List.set_cons_succ, List.set_cons_zero]
     (simp_arith! [EV_unP, unP_tPN])
     refine CV_shr (ok.rr (Nat.le_refl t) ok.1 hr) (rw_len hr) ?_
     refine ⟨_, rfl, rfl, rfl, fun hc => ?_⟩
     exact CV_mr (ok.rr (Nat.le_refl t) ok.1 hr) (by rw [rw_len hr]; unfold Ok2 at ok; omega) (hK2 hc)
    ·obtain ⟨rfl, rfl⟩ := q2
     refine ⟨sz_le (by rw [List.length_map]; refine Nat.le_trans (List.length_filter_le ..) ?_; omega), ?_⟩
     rw [r_all_true]
     (simp_arith! [])
     exact ⟨b.hd, b.up, .inl ⟨rfl, q⟩⟩
theorem pure_law (ns : List Int) (_ : ns.length ≤ 63) : c_law [.rol (ns.map D.int)] [] = some (.bl true, []) := by
 rw [c_law, e__law_hand, e__law_take]
 refine CV.eq (CV_den rfl ?_)
 unfold b_law
 (simp_arith [])
 have hb : ∀ z : Int, 1 ≤ (if (if z < 2 then z else 2) > 1 then (if z < 2 then z else 2) else 1) ∧ (if (if z < 2 then z else 2) > 1 then (if z < 2 then z else 2) else 1) ≤ 1000 := fun z => by split <;> split <;> omega
 obtain ⟨b1, b2⟩ := hb ((ns.map D.int).length : Int)
 generalize (if (if ((ns.map D.int).length : Int) < 2 then ((ns.map D.int).length : Int) else 2) > 1 then (if ((ns.map D.int).length : Int) < 2 then ((ns.map D.int).length : Int) else 2) else 1) = z at *
 refine ⟨rg_ok (by omega) (by omega), ?_⟩
 refine SV_forI (fun r e S => (∀ d, d ∈ r → ∃ i : Int, d = .int i ∧ 0 ≤ i ∧ i < z) ∧ ∃ x1 x2 x3 x4, e = [some (.rol (ns.map D.int)), x1, x2, x3, x4]) ⟨fun d hd => mem_rgD hd, _, _, _, _, rfl⟩ ?_ ?_
 ·rintro d r e S K ⟨hr1, x1, x2, x3, x4, rfl⟩ hK
  obtain ⟨i, rfl, i0, i1⟩ := hr1 d (List.mem_cons_self ..)
  refine GV_n.mpr ?_
  simp only [List.set_cons_succ, List.set_cons_zero]
  refine SV_cutG fun G hG => ?_
  (simp_arith [])
  refine CV_newhand i0 (by omega) fun o ho => ?_
  have h0 : HD 0 (S ++ [o]) S.length := ⟨o, by simp, ho⟩
  refine hG _ _ ?_
  clear hG G
  (simp_arith! [])
  refine SV_forI (fun r e S' => ∃ (ps : List (Nat × Nat)) (k : Nat) (x3 x4 : Option D), r = ps.map (fun p => D.tup [.int (p.1 : Int), .int (p.2 : Int)]) ∧ (∀ p, p ∈ ps → p = (2, 60) ∨ p = (3, 20)) ∧ k + ps.length ≤ 2 ∧ HD (2 * k) S' S.length ∧ e = [some (.rol (ns.map D.int)), some (.int i), some (.ref S.length), x3, x4]) ⟨[(2, 60), (3, 20)], 0, _, _, rfl, fun p hp => by simpa using hp, by decide, h0, rfl⟩ ?_ ?_
  ·rintro d r e S' K2 ⟨ps, k, x3, x4, hr, hp, hk, hd, rfl⟩ hK2
   cases ps with
   | nil => cases hr
   | cons p ps =>
    cases hr
    rw [List.length_cons] at hk
    obtain ⟨m, b⟩ := p
    have hm : (m = 2 ∧ b = 60) ∨ (m = 3 ∧ b = 20) := by
     rcases hp _ (List.mem_cons_self ..) with h | h <;> cases h <;> simp
    (simp_arith! [])
    refine CV_take hd (by omega) (by omega) (by have : (b : Int) ≤ 60 := by omega
                                                exact Int.lt_of_le_of_lt this (by decide)) fun y S1 y0 y1 t1 => ?_
    (simp_arith! [])
    obtain ⟨t, et, ht1, ht2⟩ : ∃ t : Nat, 1 + y = (t : Int) ∧ 1 ≤ t ∧ t ≤ b := ⟨(1 + y).toNat, by omega, by omega, by omega⟩
    rw [et]
    refine CV_right t1.hd (by omega) (show Ok2 m t from ⟨ht1, by omega⟩) fun S2 t2 => ?_
    (simp_arith! [])
    exact ⟨(fun n hn => nomatch hn), hK2 _ _ ⟨ps, k + 1, _, _, rfl, fun p hq => hp p (List.mem_cons_of_mem _ hq), by omega, t2.hd.mono (by omega), rfl⟩⟩
  ·rintro e S' ⟨ps, k, x3, x4, hr, hp, hk, hd, rfl⟩
   exact ⟨(fun n hn => nomatch hn), hK _ _ ⟨fun d hd => hr1 d (List.mem_cons_of_mem _ hd), _, _, _, _, rfl⟩⟩
 ·rintro e S ⟨_, x1, x2, x3, x4, rfl⟩
  (simp_arith [])
  exact ⟨Nat.zero_le _, (fun i ds hi => absurd hi (Nat.not_lt_zero _)), .bl true, rfl, rfl, rfl⟩
end Q02
open PySem PySem.W PySem.Calls PyProof.Rows
theorem PySem.Challenge.cw_nonegrowsrich_k02_whole_each_row_one_sha_holds : PySem.Challenge.rw_nonegrowsrich_k02_whole_each_row_one_sha.Holds := by
 w_on; o_law
 refine HandSHeadRun.head_any (r := OpenLaw.row PySem.Challenge.rw_nonegrowsrich_k02_whole_each_row_one_sha) (q := view (OpenLaw.row PySem.Challenge.rw_nonegrowsrich_k02_whole_each_row_one_sha).prog [13]) (H := Q02.hkP) (ob := Q02.obP) (M := 9000) (loose := Q02.looseL) (d := HandSHeadRun.topDef (OpenLaw.row PySem.Challenge.rw_nonegrowsrich_k02_whole_each_row_one_sha).prog 13) (kwd := []) Q02.obP_eq
  (by kernel_rfl) (fun s => by kernel_rfl) Q02.runP (by kernel_rfl) (by kernel_rfl) (by kernel_rfl) (by rfl) (by first | assumption | decide +kernel) (by decide +kernel) ⟨rfl, rfl, rfl, rfl, rfl, by decide +kernel⟩ ?hw ?hc
 case hw => w_witness2
 case hc =>
  refine Pv.law_end (l := PySem.Challenge.rw_nonegrowsrich_k02_whole_each_row_one_sha) (n := 63) (k := 6) (x := "_law_script") (con := Q02.c_law) rfl (by decide) (by kernel_rfl) ⟨rfl, by decide, by decide⟩ ?F Q02.pure_law
  intro w mg fa h Y G hmg0
  obtain ⟨K, KX, c⟩ := Y
  have hmg : mg ("law" : PySem.Str) = some (.ref fa) := by
   have e : (HandSHeadRun.topDef (OpenLaw.row PySem.Challenge.rw_nonegrowsrich_k02_whole_each_row_one_sha).prog 13).name = ("law" : PySem.Str) := by kernel_rfl
   rw [← e]
   exact hmg0
  obtain ⟨fd, hb, hF⟩ := Q02.factsP (P := (PySem.Challenge.rw_nonegrowsrich_k02_whole_each_row_one_sha).prog) (w := w) KX G hmg c
  exact ⟨K, fd, KX, hb, hF⟩
