import PyProof.Rows.All
import Wide.All
import OpenK.AllK
import Wide.FinOn
import HandS.ForMost
import HandS.IsInst
import HandS.Wide
import HandS.Lambda
import HandS.Exc
import HandS.ExcIs
import HandS.ExcField
import HandS.HeadHook1
import HandS.Style
import HandS.Defaults
import HandS.TupAny
import HandS.TupMul
import HandS.SortInts
import HandS.Deep
import HandS.RaiseMore
import KE.KTupSum
import PyProof.ReprRoads
import HandS.Zip
import HandS.Iter
import PyProof.ReprLen
import HandS.HeadEnd
import HandS.Head0
import HandS.Head1
import HandS.Head2
import HandS.HeadHook2
import KE.GoesMore
import HandS.Dict
import HandS.Conv
import KE.GoesNew
import HandS.Flt
import HandS.More
import HandS.NoneIn
import PyProof.FactsAll.list_3
import PyProof.FactsAll.list_4
import KE.KSortKeySt
import HandS.Flow
import PyProof.CollectIter
import PyProof.WalksMore
import KE.DataMinMax
import PyProof.TwoTypesSub
import KE.DataAny
import HandS.DictTup
import KE.KDictZip
import KE.SortData
import PyProof.NeKinds
import PyProof.FactsAll.dict_2
import PyProof.StrOps2
import PyProof.FitsStr
import PyProof.EqAt
import KE.KIndexWalk
import HandS.ExcInit
import HandS.TryMany
import KE.KTryMore
import HandS.ClsMeth
import KE.KExcInit
import HandS.EndTab
import HandS.HeadHook4
import PySem.Challenge.RW_nonegrowsrich_k30_members_joined
set_option Elab.async false
set_option linter.all false
set_option maxRecDepth 100000
set_option maxHeartbeats 0
set_option hygiene false
local macro_rules | `(tactic| simp_arith [$ls,*]) => `(tactic| (try simp only [sE, List.map_cons, List.map_nil, List.cons_append, List.nil_append, List.length_cons, List.length_nil, Nat.reduceAdd, Nat.reduceSub, List.reduceReplicate, SV_seq, SV_nil, SV_break, SV_expr, SV_ret, SV_if, SV_asg, SV_par, SV_par3, SV_aug, SV_asgL, SV_for, EV_var, EV_c, EV_e2, EV_e1, EV_and, EV_or, EV_if, EV_tup, EV_fz, EV_bx, EV_cb, EV_sl, EV_call, EV_callK, EV_mt, EV_chain, TV_of, TV_and, TV_or, TV_not, TV_yes, AV_nil, AV_cons, AV_disp, AV_cb, AV_l2, AV_sl, AV_lc, OV_no, OV_some, GV_n, GV_t, GsV_nil, GsV_cons, GV_s, IV_seq, IV_rg1, IV_rg2, IV_enum, then_, BV_some, BV_ite, LBV_some, LBV_ite, r_add, r_addT, r_iadd, r_sub, r_mul, r_div, r_mod, r_pow, r_shl, r_neg, r_lt, r_le, r_gt, r_ge, r_eq, r_ne, r_eqS, r_neS, r_gabs, r_gmax, r_gmin, r_gintI, r_gintB, r_not, r_fn1, r_fn2, r_fnl1, r_lenT, r_lenL, r_lenR, r_tupT, r_tupL, r_tupR, r_listT, r_listL, r_listR, r_ixT, r_ixL, r_ixR, r_ixX, r_lenX, r_tupX, r_listX, r_seqT, r_seqL, r_seqR, r_seqX, r_isN, r_isNN, r_isB, r_slT, r_slL, r_slR, r_sumT, r_sumL, at_0, at_1, at_2, at_3, List.set_cons_zero, List.set_cons_succ, List.getElem?_cons_zero, List.getElem?_cons_succ, List.getElem?_nil, Option.some.injEq, Option.bind_some, Option.map_some, exists_eq_left, exists_eq_left', exists_and_left, D.int.injEq, D.bl.injEq, D.tup.injEq, D.ref.injEq, List.cons.injEq, and_assoc, true_and, and_true, decide_eq_true_eq, Bool.not_eq_true', decide_eq_false_iff_not, Bool.false_eq_true, not_true_eq_false, not_false_eq_true, if_false, if_true, ite_true, ite_false, reduceIte, r_addLL, r_mulLL, r_isTt, r_isTi, r_isTs, r_gsT, r_gsL, r_gsR, r_gsX, wipeE, $ls,*]))
local macro_rules | `(tactic| simp_arith! [$ls,*]) => `(tactic| (try simp only [sE, List.map_cons, List.map_nil, List.cons_append, List.nil_append, List.length_cons, List.length_nil, Nat.reduceAdd, Nat.reduceSub, List.reduceReplicate, SV_seq, SV_nil, SV_break, SV_expr, SV_ret, SV_if, SV_asg, SV_par, SV_par3, SV_aug, SV_asgL, SV_for, EV_var, EV_c, EV_e2, EV_e1, EV_and, EV_or, EV_if, EV_tup, EV_fz, EV_bx, EV_cb, EV_sl, EV_call, EV_callK, EV_mt, EV_chain, TV_of, TV_and, TV_or, TV_not, TV_yes, AV_nil, AV_cons, AV_disp, AV_cb, AV_l2, AV_sl, AV_lc, OV_no, OV_some, GV_n, GV_t, GsV_nil, GsV_cons, GV_s, IV_seq, IV_rg1, IV_rg2, IV_enum, then_, BV_some, BV_ite, LBV_some, LBV_ite, r_add, r_addT, r_iadd, r_sub, r_mul, r_div, r_mod, r_pow, r_shl, r_neg, r_lt, r_le, r_gt, r_ge, r_eq, r_ne, r_eqS, r_neS, r_gabs, r_gmax, r_gmin, r_gintI, r_gintB, r_not, r_fn1, r_fn2, r_fnl1, r_lenT, r_lenL, r_lenR, r_tupT, r_tupL, r_tupR, r_listT, r_listL, r_listR, r_ixT, r_ixL, r_ixR, r_ixX, r_lenX, r_tupX, r_listX, r_seqT, r_seqL, r_seqR, r_seqX, r_isN, r_isNN, r_isB, r_slT, r_slL, r_slR, r_sumT, r_sumL, at_0, at_1, at_2, at_3, List.set_cons_zero, List.set_cons_succ, List.getElem?_cons_zero, List.getElem?_cons_succ, List.getElem?_nil, Option.some.injEq, Option.bind_some, Option.map_some, exists_eq_left, exists_eq_left', exists_and_left, D.int.injEq, D.bl.injEq, D.tup.injEq, D.ref.injEq, List.cons.injEq, and_assoc, true_and, and_true, decide_eq_true_eq, Bool.not_eq_true', decide_eq_false_iff_not, Bool.false_eq_true, not_true_eq_false, not_false_eq_true, if_false, if_true, ite_true, ite_false, reduceIte, r_addLL, r_mulLL, r_isTt, r_isTi, r_isTs, r_gsT, r_gsL, r_gsR, r_gsX, wipeE, Wd, sz_0, sz_1, sz_2, sz_3, sz_4, sz_5, sz_6, m2_2, m1_2, m2_3, m1_3, m2_5, m1_5, r_in3, r_in2, beqS, decide_true, decide_false, Bool.or_false, Bool.true_or, Bool.or_true, Bool.false_or, stay_nil, LV_fold, r_min2L, r_max2L, EV_chain3, IV_rg3, AV_rg1, EV_dct, AV_rev, $ls,*]))
namespace L2
open PySem PySem.Spec PyProof.Rows
def exN : Nat → Str
 | 0 => "Crowded"
 | 1 => "NoPlace"
 | 2 => "NotRight"
 | 3 => "NotTold"
 | 4 => "Told"
 | 5 => "NoHouse"
 | 6 => "NoName"
 | 7 => "NoDoubter"
 | 8 => "NoWeight"
 | 9 => "NoSign"
 | 10 => "NoText"
 | 11 => "NoLine"
 | _ => "Nothing"
def xA (K : PySem.W.Frag) (i : Nat) : Addr := He.ga K (exN i)
def plainT : List String := ["tuple", "int", "bool", "str", "list", "dict"]
end L2
namespace Pv
open PySem PySem.Spec PyProof.Rows L2
inductive D where
 | non
 | bl (b : Bool)
 | int (i : Int)
 | str (x : Str)
 | tup (xs : List D)
 | lst (xs : List D)
 | rol (xs : List D)
 | dic (ks : List Key) (vs : List D)
 | ref (n : Nat)
 | tag (k : Nat) (xs : List D)
 | dref (n : Nat)
mutual
def dB (K : PySem.W.Frag) : D → Value → Bool
 | .non, u => decide (u = .none)
 | .bl b, u => decide (u = .bool b)
 | .int i, u => match u with
   | .int j _ => decide (j = i)
   | _ => false
 | .str x, u => match u with
   | .str y _ => decide (y = x)
   | _ => false
 | .tup ds, u => match u with
   | .ref a => match K.lookup a with
    | some ⟨.type c, _, .seq its _, _⟩ => decide (c = "tuple") && (decide (its.size ≤ sizeLine) && dBL K ds its.toList)
    | _ => false
   | _ => false
 | .rol ds, u => match u with
   | .ref a => match K.lookup a with
    | some ⟨.type c, none, .seq its _, _⟩ => decide (c = "list") && (decide (its.size ≤ sizeLine) && dBL K ds its.toList)
    | _ => false
   | _ => false
 | .lst _, _ => false
 | .dic _ _, _ => false
 | .tag _ _, _ => false
 | .dref _, _ => false
 | .ref _, _ => false
def dBL (K : PySem.W.Frag) : List D → List Value → Bool
 | [], us => us.isEmpty
 | d :: ds, us => match us with
   | u :: us => dB K d u && dBL K ds us
   | [] => false
end
def gcB (K : PySem.W.Frag) (q : Str × D) : Bool := match PySem.W.nsIn K mainGlobals q.1 with
 | some (some u) => dB K q.2 u
 | _ => false
abbrev AlP : Type := He.AlD × Bool
def kdEs : List (Int × Int) → List DictEntry → Bool
 | [], es => es.isEmpty
 | q :: r, es => match es with
   | [] => false
   | e :: es => (match e.key with
    | .int j _ => decide (j = q.1)
    | _ => false) && (decide (e.hash = hashInt q.1) && ((match e.val with
    | .int j _ => decide (j = q.2)
    | _ => false) && kdEs r es))
def kdB (K : PySem.W.Frag) (q : Str × List (Int × Int)) : Bool := match PySem.W.nsIn K mainGlobals q.1 with
 | some (some (.ref a)) => match K.lookup a with
   | some ⟨.type c, none, .dict es _, sl⟩ => decide (c = "dict") && (sl.isEmpty && kdEs q.2 es.toList)
   | _ => false
 | _ => false
structure SaysQ (fa : List He.Fa) (fn : List He.DefD) (cs : List (Str × D)) (kd : List (Str × List (Int × Int))) (K : PySem.W.Frag) : Prop where
 d : He.SaysD fa fn K
 c : ((cs.all fun q => gcB K q) && kd.all fun q => kdB K q) = true
end Pv
set_option exponentiation.threshold 9000
namespace Pv
open PySem
def setP (p : Params) (g : String → Bool) : Params := { p with followText := g }
def setF (w : World) (x : String) (b : Bool) : World := ⟨w.draws, setP w.params fun s => bif s == x then b else w.params.followText s⟩
theorem world_split (w : World) (x : String) : ∃ w' b, w = setF w' x b := by
 refine ⟨w, w.params.followText x, ?_⟩
 have e : w.params.followText = fun s => bif s == x then w.params.followText x else w.params.followText s := by
  funext s
  by_cases h : s = x
  ·rw [h]; simp
  ·rw [beq_eq_false_iff_ne.mpr h]; rfl
 have h : w.params = setP w.params fun s => bif s == x then w.params.followText x else w.params.followText s := congrArg (setP w.params) e
 exact congrArg (World.mk w.draws) h
end Pv
namespace Pv
open PySem PySem.Spec PyProof.Rows L2
structure XD where
 i : Nat
 f : Str
 par : Str
 B : String
 newId : String
 initId : String
 bmB : List Value
def veD (i : Nat) (f par : Str) : XD := ⟨i, f, par, "ValueError", "ValueError.__new__", "ValueError.__init__", [.type "ValueError", .type "Exception", .type "BaseException", .type "object"]⟩
def leD (i : Nat) (f par : Str) : XD := ⟨i, f, par, "LookupError", "LookupError.__new__", "LookupError.__init__", [.type "LookupError", .type "Exception", .type "BaseException", .type "object"]⟩
inductive XF where
 | cls (d : XD)
 | isO (i : Nat) (R : Str) (b : Bool)
 | isB (i : Nat) (T : String) (b : Bool)
 | exm (i : Nat) (cs : List Str)
def clsV (K : PySem.W.Frag) (x : Str) : Value := .ref (He.ga K x)
def oexB (K : PySem.W.Frag) (C : Addr) (bmB : List Value) (newId : String) : Bool := match K.lookup C with
 | some ⟨.type "type", _, .cls cd, sl⟩ => (match cd.mro, sl.toList with
   | .ref C' :: bm, [_, _, _, _, some (.builtin n), _] => C' == C && n == newId && !cd.hasDel && cd.hasDict && PySem.W.excTail bmB bm
   | _, _ => false)
 | _ => false
def excPB (K : PySem.W.Frag) (C : Addr) : Bool := decide (PySem.W.findIn K (.ref C) "__getattribute__" = some (some (.builtin "BaseException.__getattribute__"))) && (decide (PySem.W.findIn K (.ref C) "__getattr__" = some none) && (decide (PySem.W.subIn K (.ref C) (.type "BaseException") = some true) && (PySem.W.hasDictIn K C &&
 (decide (PySem.W.findIn K (.ref C) "__class__" = some (some (.builtin "object.__class__"))) && (decide (PySem.W.specialIn K (.builtin "object.__class__") "__get__" = some (some (.builtin "getset_descriptor.__get__"))) && (decide (PySem.W.takesIn K (.builtin "object.__class__") = some true) &&
 (decide (PySem.W.mroIn K C (.type "object") = some true) && plainT.all fun T => decide (PySem.W.kitOne K (.ref C) (.type T) = some false))))))))
def fcB (K : PySem.W.Frag) (Pa : Addr) (n : String) : Bool := match PySem.W.findCls K (.ref Pa) (.type "type") "__init__" with
 | some (.val (.builtin m)) => decide (m = n)
 | _ => false
def XF.ok (K : PySem.W.Frag) : XF → Bool
 | .cls d => oexB K (xA K d.i) d.bmB d.newId && (excPB K (xA K d.i) && (decide (PySem.W.findIn K (.ref (xA K d.i)) "__setattr__" = some (some (.builtin "object.__setattr__"))) && (decide (PySem.W.typeIn K (.ref (xA K d.i)) = some (.type "type")) && (PySem.W.keepIn K (.ref (xA K d.i)) &&
   (decide (PySem.W.findIn K (.ref (xA K d.i)) "__init__" = some (some (.ref (He.ma K (xA K d.i) "__init__")))) && (decide (PySem.W.typeIn K (.ref (He.ma K (xA K d.i) "__init__")) = some (.type "function")) && (decide (PySem.W.findIn K (.ref (xA K d.i)) d.f = some none) &&
   (xfB K (xA K d.i) && (PySem.W.readsIn K (He.ga K d.par) (.type "type") && (decide (PySem.W.specialIn K (.ref (He.ga K d.par)) "__getattribute__" = some (some (.builtin "type.__getattribute__"))) &&
   fcB K (He.ga K d.par) d.initId))))))))))
 | .isO i R b => decide (PySem.W.kitOne K (.ref (xA K i)) (clsV K R) = some b)
 | .isB i T b => decide (PySem.W.kitOne K (.ref (xA K i)) (.type T) = some b)
 | .exm i cs => decide (PySem.W.exmAny K (.ref (xA K i)) (cs.map (clsV K)) = some true)
def asY (g : Addr → Option Obj) (n : Nat) : List Addr := PySem.cStatics :: He.asD g n
def obsY (n : Nat) (fa : List He.Fa) (fn : List He.DefD) (cs : List (Str × D)) (kd : List (Str × List (Int × Int))) (xf : List XF) (tf : List He.Defn) (g : Addr → Option Obj) : AlP := (He.obsD fa fn (He.frT g (asY g n)), ((cs.all fun q => gcB (He.frT g (asY g n)) q) && kd.all fun q => kdB (He.frT g (asY g n)) q) &&
 ((xf.all fun q => q.ok (He.frT g (asY g n))) && He.tabsB g tf (He.frT g (asY g n))))
structure SaysY (fa : List He.Fa) (fn : List He.DefD) (cs : List (Str × D)) (kd : List (Str × List (Int × Int))) (xf : List XF) (tf : List He.Defn) (h : Heap) (K : PySem.W.Frag) : Prop where
 q : SaysQ fa fn cs kd K
 x : xf.all (fun q => q.ok K) = true
 hd : ∀ p ∈ tf, PySem.W.codeHdIn K (He.cT K p).1 (He.cT K p).2 = true
 out : ∀ p ∈ tf, K.lookup (He.cT K p).2 = none
 empty : ∀ p ∈ tf, h.get? (He.cT K p).2 = some { cls := .none, data := .fields #[] }
theorem saysY_of {n : Nat} {fa : List He.Fa} {fn : List He.DefD} {cs : List (Str × D)} {kd : List (Str × List (Int × Int))} {xf : List XF} {tf : List He.Defn} {h : Heap} (e : obsY n fa fn cs kd xf tf h.get? = (He.valD fn, true)) : SaysY fa fn cs kd xf tf h (He.frT h.get? (asY h.get? n)) := by
 have e1 : He.obsD fa fn (He.frT h.get? (asY h.get? n)) = He.valD fn := congrArg (fun z : AlP => z.1) e
 have e2 := congrArg (fun z : AlP => z.2) e
 obtain ⟨h1, h2⟩ := He.ba (show (_ && _) = true from e2)
 obtain ⟨h3, h4⟩ := He.ba h2
 have key : ∀ p ∈ tf, PySem.W.codeHdIn (He.frT h.get? (asY h.get? n)) (He.cT (He.frT h.get? (asY h.get? n)) p).1 (He.cT (He.frT h.get? (asY h.get? n)) p).2 = true ∧ ∃ o, h.get? (He.cT (He.frT h.get? (asY h.get? n)) p).2 = some o ∧ He.emptyTab o = true := fun p hp => by
  obtain ⟨h5, h6⟩ := He.ba (List.all_eq_true.mp h4 p hp)
  refine ⟨h5, ?_⟩
  cases q : h.get? (He.cT (He.frT h.get? (asY h.get? n)) p).2 with
  | none =>
   rw [q] at h6
   cases h6
  | some o =>
   rw [q] at h6
   exact ⟨o, rfl, h6⟩
 exact ⟨⟨e1, h1⟩, h3, fun p hp => (key p hp).1, fun p hp => by
  obtain ⟨_, o, q, z⟩ := key p hp
  exact He.frT_none q z, fun p hp => by
  obtain ⟨_, o, q, z⟩ := key p hp
  rw [q, He.emptyTab_eq z]⟩
def hookY (n : Nat) (fa : List He.Fa) (fn : List He.DefD) (cs : List (Str × D)) (kd : List (Str × List (Int × Int))) (xf : List XF) (tf : List He.Defn) : PySem.W.Hook where
 α := AlP
 obs := fun s => obsY n fa fn cs kd xf tf s.heap.get?
 val := fun _ => (He.valD fn, true)
 says := fun _ h => ∃ K : PySem.W.Frag, K.In h ∧ SaysY fa fn cs kd xf tf h K
 of := fun _ _ e => ⟨_, He.frT_in, saysY_of e⟩
 keeps := fun _ _ _ ⟨K, hK, c⟩ k => ⟨K, PySem.W.Frag.In.keeps hK k, ⟨c.q, c.x, c.hd, c.out, fun p hp => k _ _ (c.empty p hp)⟩⟩
def clsM (s : Stmt) (j : Nat) : Stmt := match s with
 | .ClassDef _ _ _ b _ _ _ _ _ _ _ => b.getD j (.Pass ⟨0, 0, 0, 0⟩)
 | _ => .Pass ⟨0, 0, 0, 0⟩
end Pv
namespace Q30
open PySem PySem.Spec PyProof.Rows L2 Pv
def d_MOST_ONES : D := .int 12
def d_MOST_HOUSES : D := .int 12
def d_MOST_DEEP : D := .int 3
def kd_MOST_BORDERS : List (Int × Int) := [(2, 400), (3, 60)]
def topS (i : Nat) : Stmt := PySem.Challenge.pw_nonegrowsrich_k30_members_joined.main.body.getD i (.Pass ⟨0, 0, 0, 0⟩)
section
variable {P : Program} {w : World} {K : PySem.W.Frag} {mg : Str → Option Value} {base : Heap}
abbrev s_Crowded : Stmt := clsM (topS 9) 0
abbrev s_NoPlace : Stmt := clsM (topS 10) 0
abbrev s__law_hand : Stmt := topS 27
abbrev s_counted : Stmt := topS 3
abbrev s_borders : Stmt := topS 4
abbrev s_members_in : Stmt := topS 17
abbrev s_crowd : Stmt := topS 19
abbrev s_is_whole : Stmt := topS 1
abbrev s_is_path : Stmt := topS 20
abbrev s_members_at : Stmt := topS 21
abbrev s_replaced : Stmt := topS 23
abbrev s_with_members : Stmt := topS 22
abbrev s_joined : Stmt := topS 24
abbrev s_ones : Stmt := topS 18
abbrev s_motes : Stmt := topS 25
abbrev s__law_take : Stmt := topS 28
abbrev s__law_walk : Stmt := topS 39
abbrev s__law_all_ones : Stmt := topS 38
abbrev s__law_purses : Stmt := topS 40
abbrev s__law_named : Stmt := topS 42
abbrev s__law_lost : Stmt := topS 41
abbrev s__law_of : Stmt := topS 29
abbrev s__law_figure : Stmt := topS 30
abbrev s__law_registers : Stmt := topS 31
abbrev s__law_one : Stmt := topS 37
abbrev s__law_homes : Stmt := topS 43
abbrev s__law_stands : Stmt := topS 44
abbrev s__law_set : Stmt := topS 45
abbrev s__law_no_paths : Stmt := topS 46
abbrev s__law_leaf : Stmt := topS 32
abbrev s__law_expression : Stmt := topS 33
abbrev s__law_stake : Stmt := topS 34
abbrev s__law_deeds : Stmt := topS 35
abbrev s__law_doubter : Stmt := topS 36
abbrev s__law_new : Stmt := topS 47
abbrev s__law_built_anew : Stmt := topS 48
abbrev s__law_caught : Stmt := topS 50
abbrev s__law_right : Stmt := topS 49
abbrev s_law : Stmt := topS 51
end
def fnL : List He.DefD := [⟨("_law_hand", none), "_law_hand", "_law_hand", defArgs s__law_hand, defBody s__law_hand, defScope s__law_hand, [], []⟩,
 ⟨("counted", none), "counted", "counted", defArgs s_counted, defBody s_counted, defScope s_counted, [], []⟩,
 ⟨("borders", none), "borders", "borders", defArgs s_borders, defBody s_borders, defScope s_borders, [], []⟩,
 ⟨("members_in", none), "members_in", "members_in", defArgs s_members_in, defBody s_members_in, defScope s_members_in, [], []⟩,
 ⟨("crowd", none), "crowd", "crowd", defArgs s_crowd, defBody s_crowd, defScope s_crowd, [], []⟩,
 ⟨("is_whole", none), "is_whole", "is_whole", defArgs s_is_whole, defBody s_is_whole, defScope s_is_whole, [], []⟩,
 ⟨("is_path", none), "is_path", "is_path", defArgs s_is_path, defBody s_is_path, defScope s_is_path, [], []⟩,
 ⟨("members_at", none), "members_at", "members_at", defArgs s_members_at, defBody s_members_at, defScope s_members_at, [], []⟩,
 ⟨("replaced", none), "replaced", "replaced", defArgs s_replaced, defBody s_replaced, defScope s_replaced, [], []⟩,
 ⟨("with_members", none), "with_members", "with_members", defArgs s_with_members, defBody s_with_members, defScope s_with_members, [], []⟩,
 ⟨("joined", none), "joined", "joined", defArgs s_joined, defBody s_joined, defScope s_joined, [], []⟩,
 ⟨("ones", none), "ones", "ones", defArgs s_ones, defBody s_ones, defScope s_ones, [], []⟩,
 ⟨("motes", none), "motes", "motes", defArgs s_motes, defBody s_motes, defScope s_motes, [], []⟩,
 ⟨("_law_take", none), "_law_take", "_law_take", defArgs s__law_take, defBody s__law_take, defScope s__law_take, [], []⟩,
 ⟨("_law_walk", none), "_law_walk", "_law_walk", defArgs s__law_walk, defBody s__law_walk, defScope s__law_walk, [], []⟩,
 ⟨("_law_all_ones", none), "_law_all_ones", "_law_all_ones", defArgs s__law_all_ones, defBody s__law_all_ones, defScope s__law_all_ones, [], []⟩,
 ⟨("_law_purses", none), "_law_purses", "_law_purses", defArgs s__law_purses, defBody s__law_purses, defScope s__law_purses, [], []⟩,
 ⟨("_law_named", none), "_law_named", "_law_named", defArgs s__law_named, defBody s__law_named, defScope s__law_named, [], []⟩,
 ⟨("_law_lost", none), "_law_lost", "_law_lost", defArgs s__law_lost, defBody s__law_lost, defScope s__law_lost, [], []⟩,
 ⟨("_law_of", none), "_law_of", "_law_of", defArgs s__law_of, defBody s__law_of, defScope s__law_of, [], []⟩,
 ⟨("_law_figure", none), "_law_figure", "_law_figure", defArgs s__law_figure, defBody s__law_figure, defScope s__law_figure, [], []⟩,
 ⟨("_law_registers", none), "_law_registers", "_law_registers", defArgs s__law_registers, defBody s__law_registers, defScope s__law_registers, [], []⟩,
 ⟨("_law_one", none), "_law_one", "_law_one", defArgs s__law_one, defBody s__law_one, defScope s__law_one, [], []⟩,
 ⟨("_law_homes", none), "_law_homes", "_law_homes", defArgs s__law_homes, defBody s__law_homes, defScope s__law_homes, [], []⟩,
 ⟨("_law_stands", none), "_law_stands", "_law_stands", defArgs s__law_stands, defBody s__law_stands, defScope s__law_stands, [], []⟩,
 ⟨("_law_set", none), "_law_set", "_law_set", defArgs s__law_set, defBody s__law_set, defScope s__law_set, [], []⟩,
 ⟨("_law_no_paths", none), "_law_no_paths", "_law_no_paths", defArgs s__law_no_paths, defBody s__law_no_paths, defScope s__law_no_paths, [], []⟩,
 ⟨("_law_leaf", none), "_law_leaf", "_law_leaf", defArgs s__law_leaf, defBody s__law_leaf, defScope s__law_leaf, [], []⟩,
 ⟨("_law_expression", none), "_law_expression", "_law_expression", defArgs s__law_expression, defBody s__law_expression, defScope s__law_expression, [], []⟩,
 ⟨("_law_stake", none), "_law_stake", "_law_stake", defArgs s__law_stake, defBody s__law_stake, defScope s__law_stake, [], []⟩,
 ⟨("_law_deeds", none), "_law_deeds", "_law_deeds", defArgs s__law_deeds, defBody s__law_deeds, defScope s__law_deeds, [], []⟩,
 ⟨("_law_doubter", none), "_law_doubter", "_law_doubter", defArgs s__law_doubter, defBody s__law_doubter, defScope s__law_doubter, [], []⟩,
 ⟨("_law_new", none), "_law_new", "_law_new", defArgs s__law_new, defBody s__law_new, defScope s__law_new, [], []⟩,
 ⟨("_law_built_anew", none), "_law_built_anew", "_law_built_anew", defArgs s__law_built_anew, defBody s__law_built_anew, defScope s__law_built_anew, [], []⟩,
 ⟨("_law_caught", none), "_law_caught", "_law_caught", defArgs s__law_caught, defBody s__law_caught, defScope s__law_caught, [], []⟩,
 ⟨("_law_right", none), "_law_right", "_law_right", defArgs s__law_right, defBody s__law_right, defScope s__law_right, [], []⟩,
 ⟨("law", none), "law", "law", defArgs s_law, defBody s_law, defScope s_law, [], []⟩,
 ⟨("Crowded", some "__init__"), "__init__", "Crowded.__init__", defArgs s_Crowded, defBody s_Crowded, defScope s_Crowded, [], []⟩,
 ⟨("NoPlace", some "__init__"), "__init__", "NoPlace.__init__", defArgs s_NoPlace, defBody s_NoPlace, defScope s_NoPlace, [], []⟩]
def faL : List He.Fa := [.glo "_law_hand", .glo "counted", .glo "borders", .glo "members_in", .glo "crowd", .glo "is_whole", .glo "is_path", .glo "members_at", .glo "replaced", .glo "with_members", .glo "joined", .glo "ones", .glo "motes", .glo "_law_take", .glo "_law_walk", .glo "_law_all_ones", .glo "_law_purses", .glo "_law_named", .glo "_law_lost", .glo "_law_of", .glo "_law_figure", .glo "_law_registers", .glo "_law_one", .glo "_law_homes", .glo "_law_stands", .glo "_law_set", .glo "_law_no_paths", .glo "_law_leaf", .glo "_law_expression", .glo "_law_stake", .glo "_law_deeds", .glo "_law_doubter", .glo "_law_new", .glo "_law_built_anew", .glo "_law_caught", .glo "_law_right", .glo "law", .free "LookupError", .free "abs", .free "all", .free "any", .free "bool", .free "enumerate", .free "int", .free "isinstance", .free "len", .free "max", .free "min", .free "range", .free "repr", .free "sum", .free "tuple", .glo "Crowded", .glo "NoPlace", .glo "Halted", .glo "Missing", .glo "Refused", .glo "NotRight"]
def csL : List (Str × D) := [("MOST_ONES", d_MOST_ONES), ("MOST_HOUSES", d_MOST_HOUSES), ("MOST_DEEP", d_MOST_DEEP)]
def kdL : List (Str × List (Int × Int)) := [("MOST_BORDERS", kd_MOST_BORDERS)]
def xfL : List XF := [.cls (veD 0 "what" "Refused"), .cls (leD 1 "path" "Missing"), .isO 0 "Crowded" true, .isO 1 "Crowded" false, .isO 0 "Halted" false, .isO 1 "Halted" false, .isB 0 "LookupError" false, .isB 1 "LookupError" true, .isO 0 "Missing" false, .isO 1 "Missing" true, .isO 0 "NoPlace" false, .isO 1 "NoPlace" true, .isO 0 "NotRight" false, .isO 1 "NotRight" false, .isO 0 "Refused" true, .isO 1 "Refused" false, .exm 1 ["Missing"], .exm 0 ["Refused", "Missing", "Halted"], .exm 1 ["Refused", "Missing", "Halted"]]
def tfL : List He.Defn := [("_law_right", none)]
def loose0 : List Str := ["is_whole", "counted", "borders", "Refused", "Missing", "Halted", "Crowded", "NoPlace", "NotRight", "MOST_ONES", "MOST_HOUSES", "MOST_DEEP", "MOST_BORDERS", "members_in", "ones", "crowd", "is_path", "members_at", "with_members", "replaced", "joined", "motes", "_law_hand", "_law_take", "_law_of", "_law_figure", "_law_registers", "_law_leaf", "_law_expression", "_law_stake"]
def loose1 : List Str := ["_law_deeds", "_law_doubter", "_law_one", "_law_all_ones", "_law_walk", "_law_purses", "_law_lost", "_law_named", "_law_homes", "_law_stands", "_law_set", "_law_no_paths", "_law_new", "_law_built_anew", "_law_right", "_law_caught"]
def looseL : List Str := loose0 ++ loose1
abbrev Rw : PySem.W.OpenRow := PySem.W.OpenLaw.row PySem.Challenge.rw_nonegrowsrich_k30_members_joined
abbrev hkP : PySem.W.Hook := hookY 5 faL fnL csL kdL xfL tfL
def obP (s : PySem.W.SharedT) : AlP := obsY 5 faL fnL csL kdL xfL tfL (HandSHeadRun.getT s)
theorem split3 {α β γ δ : Type _} {X : Option α} {f : α → β} {g : α → γ} {h : α → δ} {a : β} {b : γ} {c : δ} (h1 : X.map f = some a) (h2 : X.map g = some b) (h3 : X.map h = some c) : X.map (fun s => (f s, g s, h s)) = some (a, b, c) := by
 cases X with
 | none => cases h1
 | some s => cases h1; cases h2; cases h3; rfl
section
open PySem.W PySem.Calls HandSHeadRun
theorem runA0 (w : World) (os : OsState) : (endF (stepQ (denQ tabQ) Rw.prog (Pv.setF w "special-get-raises" false)) 9000 Rw.prog (Pv.setF w "special-get-raises" false) os).map (fun s => looksF Rw.prog (boot_heap (Pv.setF w "special-get-raises" false).params) s.abs) = some true := by kernel_rfl
theorem runB0 (w : World) (os : OsState) : (endF (stepQ (denQ tabQ) Rw.prog (Pv.setF w "special-get-raises" false)) 9000 Rw.prog (Pv.setF w "special-get-raises" false) os).map (fun s => seenQ (PySem.W.view Rw.prog [51]) looseL (importedModules Rw.prog.main.body) (fun s => xlAt (PySem.W.view Rw.prog [51]) [] s && recOk Rw.toRowW.records s) s.abs) = some (openGood (PySem.W.view Rw.prog [51]) looseL) := by kernel_rfl
theorem runC0 (w : World) (os : OsState) : (endF (stepQ (denQ tabQ) Rw.prog (Pv.setF w "special-get-raises" false)) 9000 Rw.prog (Pv.setF w "special-get-raises" false) os).map (fun s => obP s) = some (hkP.val (Pv.setF w "special-get-raises" false)) := by kernel_rfl
theorem runP0 (w : World) : HandSHeadRun.RunEq Rw (PySem.W.view Rw.prog [51]) hkP obP 9000 looseL (Pv.setF w "special-get-raises" false) := fun os => split3 (runA0 w os) (runB0 w os) (runC0 w os)
theorem runA1 (w : World) (os : OsState) : (endF (stepQ (denQ tabQ) Rw.prog (Pv.setF w "special-get-raises" true)) 9000 Rw.prog (Pv.setF w "special-get-raises" true) os).map (fun s => looksF Rw.prog (boot_heap (Pv.setF w "special-get-raises" true).params) s.abs) = some true := by kernel_rfl
theorem runB1 (w : World) (os : OsState) : (endF (stepQ (denQ tabQ) Rw.prog (Pv.setF w "special-get-raises" true)) 9000 Rw.prog (Pv.setF w "special-get-raises" true) os).map (fun s => seenQ (PySem.W.view Rw.prog [51]) looseL (importedModules Rw.prog.main.body) (fun s => xlAt (PySem.W.view Rw.prog [51]) [] s && recOk Rw.toRowW.records s) s.abs) = some (openGood (PySem.W.view Rw.prog [51]) looseL) := by kernel_rfl
theorem runC1 (w : World) (os : OsState) : (endF (stepQ (denQ tabQ) Rw.prog (Pv.setF w "special-get-raises" true)) 9000 Rw.prog (Pv.setF w "special-get-raises" true) os).map (fun s => obP s) = some (hkP.val (Pv.setF w "special-get-raises" true)) := by kernel_rfl
theorem runP1 (w : World) : HandSHeadRun.RunEq Rw (PySem.W.view Rw.prog [51]) hkP obP 9000 looseL (Pv.setF w "special-get-raises" true) := fun os => split3 (runA1 w os) (runB1 w os) (runC1 w os)
end
theorem runP (w : World) : HandSHeadRun.RunEq Rw (PySem.W.view Rw.prog [51]) hkP obP 9000 looseL w := by
 obtain ⟨w, b, rfl⟩ := Pv.world_split w "special-get-raises"
 cases b
 ·exact runP0 w
 ·exact runP1 w
end Q30
set_option hygiene false
namespace L2
open PySem PySem.Spec PyProof.Rows
def exK (a : Addr) (cls : Value) (d : Option Addr) : HO := .ext fun h => ∃ o vs, h.get? a = some o ∧ Zc cls d o ∧ o.data = .fields vs
section
variable {X : Cx} {pins : List (Addr × Obj)} {σ : St} {H : Hp} {s : Shared} {a : Addr} {cls : Value} {d : Option Addr} {oe : Obj} {vs : Array Value}
theorem exK_at (I : Inv X pins σ H s) (e : H a = some (exK a cls d)) : ∃ o ws, s.heap.get? a = some o ∧ Zc cls d o ∧ o.data = .fields ws := (I.hok a _ e).1
end
end L2
namespace PySem.W
open PySem PySem.Spec PySem.Calls PyProof.Rows
section
variable {prog : Program} {w : World} {A : Around} {E : Value → Shared → Prop} {s : Shared} {K : Frag} {x D : Addr} {ox : Obj} {od : Option Obj}
theorem findObj_dataO {C : Addr} {name : Str} {a g : Value} (hc : (clsIn K C).isSome = true) (ha : findIn K (.ref C) name = some (some a)) (hg : specialIn K a "__get__" = some (some g)) (ht : takesIn K a = some true) : findObj K C od name = some (.bind g a) := by
 obtain ⟨cd, hc⟩ := Option.isSome_iff_exists.mp hc
 unfold findObj
 rw [hc, Option.bind_some, ha, Option.bind_some]
 simp [hg, ht]
theorem kin_classO {Q : Option Value → Shared → Prop} (hga : findIn K (.ref D) "__getattribute__" = some (some (.builtin "BaseException.__getattribute__"))) (hgt : findIn K (.ref D) "__getattr__" = some none) (hsub : subIn K (.ref D) (.type "BaseException") = some true)
  (hdct : hasDictIn K D = true) (ha : findIn K (.ref D) "__class__" = some (some (.builtin "object.__class__")))
  (hn : specialIn K (.builtin "object.__class__") "__get__" = some (some (.builtin "getset_descriptor.__get__"))) (htk : takesIn K (.builtin "object.__class__") = some true) (hm : mroIn K D (.type "object") = some true)
  (X : K.In s.heap) (I : InstAt s.heap x ox D od) (h : Q (some (.ref D)) { s with toks := s.toks + 1 }) : wpAny (model prog w) A (getAttr? (.ref x) "__class__") Q E s := by
 have hf : findObj K D od "__class__" = some (.bind (.builtin "getset_descriptor.__get__") (.builtin "object.__class__")) := findObj_dataO (by obtain ⟨cd, hc, _⟩ := any_some hdct; rw [hc]; rfl) ha hn htk
 obtain ⟨hp, g, d, t, os⟩ := s
 have L0 := I.type (M := model prog w)
 have L1 := looks_findIn (M := model prog w) X hga
 have L2 := looks_findIn (M := model prog w) X hgt
 have L3 := looks_find (M := model prog w) X I hf
 have sub : Looks (model prog w) hp (isInstance (.ref x) (.type "BaseException")) true := L0.andThen (looks_subIn X hsub)
 have hx0 : (false && onTheHeap (Value.builtin "BaseException.__getattribute__")) = false := rfl
 have hx2 : (Value.builtin "BaseException.__getattribute__" == Value.builtin "object.__getattribute__") = false := by decide +kernel
 have hx1 : (onTheHeap (Value.ref D) && Value.builtin "BaseException.__getattribute__" == Value.builtin "object.__getattribute__") = false := by rw [hx2]; rfl
 unfold getAttr? getAttrBy? getAttrBy
 refine wpAny_bind (wpAny_mkText (wpAny_bind (wpAny_attempt (wpAny_holding (wpAny_bind (L0.at (wpAny_bind (L1.at ?_))))))))
 show wpAny _ _ (if (onTheHeap (Value.ref D) && Value.builtin "BaseException.__getattribute__" == Value.builtin "object.__getattribute__") = true then _ else _) _ _ _
 rw [hx1, if_neg Bool.false_ne_true]
 unfold getAttrByItsOwn hookBefore
 refine wpAny_bind ?_
 rw [if_pos (show onTheHeap (Value.ref D) = true from rfl)]
 refine L2.at ?_
 refine wpAny_bind (wpAny_attempt (wpAny_holding ?_))
 unfold callGetattribute
 rw [hx0, if_neg Bool.false_ne_true]
 unfold boundAndCalled
 rw [PySem.F.excAttr_ValueError.ga.bind (.ref x)]
 refine wpAny_bind (wpAny_pure ?_)
 show wpAny _ _ (call (.builtin "BaseException.__getattribute__") [.ref x, .str "__class__" t]) _ _ _
 refine wpAny_call (codeAny_call_builtin PySem.F.excAttr_ValueError.ga.plain PySem.F.entry_bexc_ga ?_)
 refine @check_slot (model prog w) _ _ ⟨hp, g, d, t + 1, os⟩ "BaseException.__getattribute__" "BaseException" "__getattribute__" (.ref x) [.str "__class__" t] [] _ (by decide +kernel) (by decide +kernel) sub (PySem.F.args_bexc_ga (.ref x) (.str "__class__" t)) ?_
 unfold Builtin.«object.__getattribute__»
 refine wpAny_bind (wpAny_of_eq (a := ((Value.ref x : Value), [Value.str "__class__" t])) (by first | rfl | (simp only [slotArgs]; rfl)) ?_)
 refine wpAny_bind (wpAny_pure (wpAny_bind (L0.at (wpAny_bind (L3.at ?_)))))
 show wpAny _ _ (holding [Value.builtin "object.__class__"] (call (.builtin "getset_descriptor.__get__") [.builtin "object.__class__", .ref x, .ref D]) >>= ret) _ _ _
 refine wpAny_bind (wpAny_holding (wpAny_call (class_get (s := ⟨hp, g, d, t + 1, os⟩) (ox := ox) (od := od) X I hm ?_)))
 refine wpAny_pure ?_
 show wpAny _ _ (handedOut (.ref D)) _ _ _
 rw [handedOut_of (v := .ref D) rfl]
 first
  | exact wpAny_pure (wpAny_pure h)
  | exact wpAny_pure h
  | exact wpAny_pure (wpAny_bind (wpAny_pure (wpAny_pure h)))
theorem kitx_excO (hga : findIn K (.ref D) "__getattribute__" = some (some (.builtin "BaseException.__getattribute__"))) (hgt : findIn K (.ref D) "__getattr__" = some none) (hsub : subIn K (.ref D) (.type "BaseException") = some true) (hdct : hasDictIn K D = true) (ha : findIn K (.ref D) "__class__" = some (some (.builtin "object.__class__")))
  (hn : specialIn K (.builtin "object.__class__") "__get__" = some (some (.builtin "getset_descriptor.__get__"))) (htk : takesIn K (.builtin "object.__class__") = some true) (hm : mroIn K D (.type "object") = some true) :
  KitX K (.ref x) (.ref D) (fun h => InstAt h x ox D od) where
 ty := fun _ _ _ I => I.type
 it := fun _ _ X _ => by
  obtain ⟨cdD, hcD, _⟩ := any_some hdct
  unfold clsIn at hcD
  split at hcD
  ·rename_i c' d' cd' sl' ho
   intro A' Q' E' s' k q
   unfold isType loadHead
   exact wpAny_bind (wpAny_loadPart (k _ _ (X _ _ ho)) (wpAny_pure q))
  ·cases hcD
 ne := fun h tp dd its n sl X htp => by
  obtain ⟨cdD, hcD, _⟩ := any_some hdct
  refine Bool.eq_false_iff.mpr fun q => ?_
  have e : D = tp := Value.ref.inj (beq_iff_eq.mp q)
  subst e
  unfold clsIn at hcD
  split at hcD
  ·rename_i c' d' cd' sl' ho
   have z := (X _ _ ho).symm.trans htp
   cases z
  ·cases hcD
 ca := fun X I k => kin_classO hga hgt hsub hdct ha hn htk hm X I k
end
end PySem.W
namespace L2
open PySem PySem.Spec PyProof.Rows
def rIsK (K : PySem.W.Frag) : List V → Hp → VK → Prop := fun xs H Q => ∃ (a D dd : Addr) (fs : List (Str × V)) (c : V) (cv : Value) (b : Bool), xs = [.ref a, c] ∧ H a = some (exK a (.ref D) (some dd)) ∧ H dd = some (.xd fs) ∧ ExcC K D ∧ (∀ u, RelV c u → u = cv) ∧ PySem.W.kitOne K (.ref D) cv = some b ∧ Q (.bl b) H
theorem call_isK {X : Cx} : CallR X (.builtin "isinstance") (rIsK X.K) := by
 intro pins s σ H xs us Q I r h
 obtain ⟨a, D, dd, fs, c, cv, b, rfl, ha, hdd, C, hcv, e, q⟩ := h
 cases r with
 | cons rx rr =>
  cases rr with
  | cons rt rr =>
   cases rr
   cases rx
   have ec := hcv _ rt
   subst ec
   obtain ⟨oe, vs, hget, hz, hv⟩ := exK_at I ha
   have hx : ObjOk X.prog X.w H s.heap dd (.xd fs) := I.hok dd _ hdd
   obtain ⟨mA, hns, hr⟩ := hx
   obtain ⟨od, ho, hl⟩ := lookIn_ns hns
   have J : PySem.W.InstAt s.heap a oe D (some od) := ⟨hget, hz.1, by unfold PySem.W.notCls; rw [hv] <;> rfl, by rw [hz.2]; exact ho⟩
   exact PySem.W.kia_one (PySem.W.kitx_excO C.hg C.hk C.hs C.hd C.ha C.hn C.ht C.hm) I.kIn J e (fun z => nomatch z) fun tk => ⟨.bl b, H, I.kept (t' := tk) fun _ _ z => z, rfl, q⟩
def rIsK0 (K : PySem.W.Frag) : List V → Hp → VK → Prop := fun xs H Q => ∃ (a D : Addr) (c : V) (cv : Value) (b : Bool), xs = [.ref a, c] ∧ H a = some (exK a (.ref D) none) ∧ ExcC K D ∧ (∀ u, RelV c u → u = cv) ∧ PySem.W.kitOne K (.ref D) cv = some b ∧ Q (.bl b) H
theorem call_isK0 {X : Cx} : CallR X (.builtin "isinstance") (rIsK0 X.K) := by
 intro pins s σ H xs us Q I r h
 obtain ⟨a, D, c, cv, b, rfl, ha, C, hcv, e, q⟩ := h
 cases r with
 | cons rx rr =>
  cases rr with
  | cons rt rr =>
   cases rr
   cases rx
   have ec := hcv _ rt
   subst ec
   obtain ⟨oe, vs, hget, hz, hv⟩ := exK_at I ha
   have J : PySem.W.InstAt s.heap a oe D none := ⟨hget, hz.1, by unfold PySem.W.notCls; rw [hv] <;> rfl, by rw [hz.2]; trivial⟩
   exact PySem.W.kia_one (PySem.W.handS_kitx_exc C.hg C.hk C.hs C.hd C.ha C.hn C.ht C.hm) I.kIn J e (fun z => nomatch z) fun tk => ⟨.bl b, H, I.kept (t' := tk) fun _ _ z => z, rfl, q⟩
structure ExcP (K : PySem.W.Frag) (C : Addr) : Prop where
 c : ExcC K C
 t : ∀ T, T ∈ plainT → PySem.W.kitOne K (.ref C) (.type T) = some false
end L2
namespace Pv
open PySem PySem.Spec PyProof.Rows L2
inductive Ob where
 | lst (xs : List D)
 | dk (ks : List Key) (xs : List D)
 | dt (ks : List (List Key)) (xs : List D)
def Ob.kind : Ob → Nat
 | .lst _ => 0
 | .dk _ _ => 1
 | .dt _ _ => 2
def Ob.vs : Ob → List D
 | .lst xs => xs
 | .dk _ xs => xs
 | .dt _ xs => xs
def Ob.ho : Ob → List V → HO
 | .lst _, us => .lst us
 | .dk ks _, us => .dK (ks.zip us)
 | .dt ks _, us => .dT (ks.zip us)
def NT : HO → Prop
 | .tbl _ => False
 | _ => True
def BxH : HO → Prop
 | .lst _ => True
 | .dK _ => True
 | .dT _ => True
 | _ => False
theorem Ob.bx (o : Ob) (us : List V) : BxH (o.ho us) := by cases o <;> trivial
abbrev Sto := List Ob
abbrev En := List (Option D)
structure M where
 r : Nat → Addr
 S : Sto
 H : Hp
structure C where
 K : PySem.W.Frag
 Z : List Addr
def Bx (m : M) (a : Addr) : Prop := ∃ i, i < m.S.length ∧ m.r i = a
def KL (K : PySem.W.Frag) (a : Addr) (xs : List V) : Prop :=
 ∃ (o : Obj) (its : Array Value) (n : Nat), K.lookup a = some o ∧ o.cls = .type "list" ∧ o.dict = none ∧ o.data = .seq its n ∧ its.size ≤ sizeLine ∧ Vals xs its.toList
def FzL (c : C) (m : M) (a : Addr) (xs : List V) : Prop := m.H a = some (.lst xs) ∧ ¬ Bx m a ∧ a ∉ c.Z
def RoL (c : C) (m : M) (a : Addr) (xs : List V) : Prop := (∃ o, m.H a = some (.frz o (.lst xs))) ∨ KL c.K a xs
def TagR (K : PySem.W.Frag) (m : M) : Nat → Addr → List V → Prop
 | 0, a, xs => ∃ o, m.H a = some (.frz o (.tup xs)) ∧ o.dict = none
 | n + 1, a, xs => n % 2 = 0 ∧ L2.ExcP K (L2.xA K (n / 2)) ∧ ((∃ (dd : Addr) (f : Str) (v : V), xs = [.str f, v] ∧ m.H a = some (L2.exK a (.ref (L2.xA K (n / 2))) (some dd)) ∧ m.H dd = some (.xd [(f, v)])) ∨ (xs = [] ∧ m.H a = some (L2.exK a (.ref (L2.xA K (n / 2))) none)))
@[irreducible] def TBL (K : PySem.W.Frag) : List (Addr × Str) := ([("_law_right", none)] : List He.Defn).map fun p => ((He.cT K p).2, (p.1 ++ ".<locals>.") ++ "<lambda>")
theorem FzL.sq {c : C} {m : M} {a : Addr} {xs : List V} (h : FzL c m a xs) : SqL c.K m.H a xs := .inl (.inl h.1)
theorem RoL.sq {c : C} {m : M} {a : Addr} {xs : List V} (h : RoL c m a xs) : SqL c.K m.H a xs := by
 rcases h with h | h
 ·exact .inl (.inr h)
 ·exact .inr h
mutual
def Rep (c : C) (m : M) : D → V → Prop
 | .non, v => v = .non
 | .bl b, v => v = .bl b
 | .int i, v => v = .int i
 | .str x, v => v = .str x
 | .tup ds, v => ∃ a xs, v = .ref a ∧ SqT c.K m.H a xs ∧ RepL c m ds xs
 | .lst ds, v => ∃ a xs, v = .ref a ∧ FzL c m a xs ∧ RepL c m ds xs
 | .rol ds, v => ∃ a xs, v = .ref a ∧ RoL c m a xs ∧ RepL c m ds xs
 | .dic ks vs, v => ∃ a kvs, v = .ref a ∧ (m.H a = some (.dK kvs) ∧ ¬ Bx m a ∧ a ∉ c.Z) ∧ kvs.map (·.1) = ks ∧ RepL c m vs (kvs.map (·.2))
 | .ref n, v => (∃ ds, m.S[n]? = some (.lst ds)) ∧ v = .ref (m.r n)
 | .tag k ds, v => ∃ a xs, v = .ref a ∧ TagR c.K m k a xs ∧ RepL c m ds xs
 | .dref n, v => (∃ o, m.S[n]? = some o ∧ o.kind ≠ 0) ∧ v = .ref (m.r n)
def RepL (c : C) (m : M) : List D → List V → Prop
 | [], xs => xs = []
 | d :: ds, xs => ∃ x r, xs = x :: r ∧ Rep c m d x ∧ RepL c m ds r
end
def ObR (c : C) (m : M) (o : Ob) (a : Addr) : Prop := ∃ xs, m.H a = some (o.ho xs) ∧ RepL c m o.vs xs
structure Sim (c : C) (m : M) : Prop where
 inj : ∀ i j, i < m.S.length → j < m.S.length → m.r i = m.r j → i = j
 obj : ∀ i o, m.S[i]? = some o → ObR c m o (m.r i)
 zs : ∀ z, z ∈ c.Z → (∃ o, m.H z = some o) ∧ ¬ Bx m z
 tabs : ∀ q, q ∈ TBL c.K → LamX.TabS m.H q.1 q.2
structure Ex (m m' : M) : Prop where
 le : m.S.length ≤ m'.S.length
 ag : ∀ i, i < m.S.length → m'.r i = m.r i
 pr : ∀ a o, m.H a = some o → ¬ Bx m a → NT o → m'.H a = some o
 th : ∀ a o, m.H a = some o → ¬ Bx m a → ∃ o', m'.H a = some o'
 nw : ∀ i, m.S.length ≤ i → i < m'.S.length → m.H (m'.r i) = none
 kd : ∀ (i : Nat) (o : Ob), m.S[i]? = some o → ∃ o' : Ob, m'.S[i]? = some o' ∧ o'.kind = o.kind
structure Tr (c : C) (m m' : M) : Prop where
 ex : Ex m m'
 si : Sim c m'
section
variable {c : C} {m m' m'' : M}
theorem Sim.box (s : Sim c m) {i : Nat} (h : i < m.S.length) : ∃ o xs, m.S[i]? = some o ∧ m.H (m.r i) = some (o.ho xs) ∧ RepL c m o.vs xs := by
 obtain ⟨o, e⟩ : ∃ o, m.S[i]? = some o := ⟨m.S[i], List.getElem?_eq_getElem h⟩
 obtain ⟨xs, h1, h2⟩ := s.obj i _ e
 exact ⟨o, xs, e, h1, h2⟩
theorem Sim.boxL (s : Sim c m) {i : Nat} {ds : List D} (h : m.S[i]? = some (.lst ds)) : ∃ xs, m.H (m.r i) = some (.lst xs) ∧ RepL c m ds xs := s.obj i _ h
theorem Rep.lt {n : Nat} {v : V} (h : Rep c m (.ref n) v) : n < m.S.length ∧ v = .ref (m.r n) := by
 obtain ⟨⟨ds, hd⟩, e⟩ := h
 exact ⟨(List.getElem?_eq_some_iff.mp hd).1, e⟩
theorem Rep.ltD {n : Nat} {v : V} (h : Rep c m (.dref n) v) : n < m.S.length ∧ v = .ref (m.r n) := by
 obtain ⟨⟨o, hd, _⟩, e⟩ := h
 exact ⟨(List.getElem?_eq_some_iff.mp hd).1, e⟩
def BoxOk (m : M) : Prop := ∀ i, i < m.S.length → ∃ u, m.H (m.r i) = some u ∧ BxH u
theorem Sim.bok (s : Sim c m) : BoxOk m := fun i hi => by
 obtain ⟨o, xs, _, e, _⟩ := s.box hi
 exact ⟨_, e, o.bx xs⟩
theorem BoxOk.no (s : BoxOk m) {a : Addr} {u : HO} (h : m.H a = some u) (n : ¬ BxH u) : ¬ Bx m a := by
 rintro ⟨i, hi, e⟩
 obtain ⟨w, e2, b⟩ := s i hi
 rw [e, h] at e2
 cases e2
 exact n b
theorem BoxOk.notTup (s : BoxOk m) {a : Addr} {xs : List V} (h : Rd m.H a (.tup xs)) : ¬ Bx m a := by
 rcases h with h | ⟨o, h⟩
 ·exact s.no h fun z => z
 ·exact s.no h fun z => z
theorem BoxOk.notFrz (s : BoxOk m) {a : Addr} {o : Obj} {u : HO} (h : m.H a = some (.frz o u)) : ¬ Bx m a := s.no h fun z => z
theorem Ex.rd (x : Ex m m') {a : Addr} {u : HO} (h : Rd m.H a u) (n : ¬ Bx m a) (t : NT u) : Rd m'.H a u := by
 rcases h with h | ⟨o, h⟩
 ·exact .inl (x.pr _ _ h n t)
 ·exact .inr ⟨o, x.pr _ _ h n trivial⟩
theorem Ex.nbx (x : Ex m m') {a : Addr} {o : HO} (h : m.H a = some o) (n : ¬ Bx m a) : ¬ Bx m' a := by
 rintro ⟨i, hi, e⟩
 by_cases hl : i < m.S.length
 ·exact n ⟨i, hl, by rw [← x.ag i hl]; exact e⟩
 ·have := x.nw i (by omega) hi
  rw [e, h] at this
  cases this
theorem TagR.mono {K : PySem.W.Frag} (s : BoxOk m) (x : Ex m m') : ∀ {k : Nat} {a : Addr} {xs : List V}, TagR K m k a xs → TagR K m' k a xs
 | 0, _, _, h => by
  obtain ⟨o, h1, h2⟩ := h
  exact ⟨o, x.pr _ _ h1 (s.notFrz h1) trivial, h2⟩
 | n + 1, _, _, h => by
  obtain ⟨h0, hk, h⟩ := h
  refine ⟨h0, hk, ?_⟩
  rcases h with ⟨dd, f, v, e, h1, h2⟩ | ⟨e, h1⟩
  ·exact .inl ⟨dd, f, v, e, x.pr _ _ h1 (s.no h1 fun z => z) trivial, x.pr _ _ h2 (s.no h2 fun z => z) trivial⟩
  ·exact .inr ⟨e, x.pr _ _ h1 (s.no h1 fun z => z) trivial⟩
mutual
theorem Rep.mono (s : BoxOk m) (x : Ex m m') : ∀ (d : D) (v : V), Rep c m d v → Rep c m' d v
 | .non, v, h => h
 | .bl _, v, h => h
 | .int _, v, h => h
 | .str _, v, h => h
 | .tup ds, v, h => by
  obtain ⟨a, xs, e, h1, h2⟩ := h
  refine ⟨a, xs, e, ?_, RepL.mono s x ds xs h2⟩
  rcases h1 with h1 | h1
  ·exact .inl (x.rd h1 (s.notTup h1) trivial)
  ·exact .inr h1
 | .lst ds, v, h => by
  obtain ⟨a, xs, e, h1, h2⟩ := h
  refine ⟨a, xs, e, ?_, RepL.mono s x ds xs h2⟩
  obtain ⟨h1, h3, h4⟩ := h1
  exact ⟨x.pr _ _ h1 h3 trivial, x.nbx h1 h3, h4⟩
 | .rol ds, v, h => by
  obtain ⟨a, xs, e, h1, h2⟩ := h
  refine ⟨a, xs, e, ?_, RepL.mono s x ds xs h2⟩
  rcases h1 with ⟨o, h1⟩ | h1
  ·exact .inl ⟨o, x.pr _ _ h1 (s.notFrz h1) trivial⟩
  ·exact .inr h1
 | .dic ks vs, v, h => by
  obtain ⟨a, kvs, e, ⟨h1, h3, h4⟩, h5, h2⟩ := h
  exact ⟨a, kvs, e, ⟨x.pr _ _ h1 h3 trivial, x.nbx h1 h3, h4⟩, h5, RepL.mono s x vs _ h2⟩
 | .ref n, v, h => by
  obtain ⟨h1, h2⟩ := h
  obtain ⟨ds, hd⟩ := h1
  refine ⟨?_, by rw [x.ag n (List.getElem?_eq_some_iff.mp hd).1]; exact h2⟩
  obtain ⟨o, e1, e2⟩ := x.kd n _ hd
  cases o with
  | lst es => exact ⟨es, e1⟩
  | dk ks es => cases e2
  | dt ks es => cases e2
 | .dref n, v, h => by
  obtain ⟨⟨o, hd, hk⟩, h2⟩ := h
  refine ⟨?_, by rw [x.ag n (List.getElem?_eq_some_iff.mp hd).1]; exact h2⟩
  obtain ⟨o', e1, e2⟩ := x.kd n _ hd
  exact ⟨o', e1, e2 ▸ hk⟩
 | .tag k ds, v, h => by
  obtain ⟨a, xs, e, h1, h2⟩ := h
  exact ⟨a, xs, e, TagR.mono s x h1, RepL.mono s x ds xs h2⟩
theorem RepL.mono (s : BoxOk m) (x : Ex m m') : ∀ (ds : List D) (vs : List V), RepL c m ds vs → RepL c m' ds vs
 | [], vs, h => h
 | d :: ds, vs, h => by
  obtain ⟨y, r, e, h1, h2⟩ := h
  exact ⟨y, r, e, Rep.mono s x d y h1, RepL.mono s x ds r h2⟩
end
theorem RepL.len : ∀ {ds : List D} {vs : List V}, RepL c m ds vs → vs.length = ds.length
 | [], vs, h => by rw [show vs = [] from h]; rfl
 | d :: ds, vs, h => by
  obtain ⟨y, r, e, h1, h2⟩ := h
  rw [e, List.length_cons, List.length_cons, RepL.len h2]
theorem RepL.app : ∀ {ds es : List D} {vs ws : List V}, RepL c m ds vs → RepL c m es ws → RepL c m (ds ++ es) (vs ++ ws)
 | [], es, vs, ws, h, k => by rw [show vs = [] from h]; exact k
 | d :: ds, es, vs, ws, h, k => by
  obtain ⟨y, r, e, h1, h2⟩ := h
  subst e
  exact ⟨y, r ++ ws, rfl, h1, RepL.app h2 k⟩
theorem RepL.one {d : D} {v : V} (h : Rep c m d v) : RepL c m [d] [v] := ⟨v, [], rfl, h, rfl⟩
theorem RepL.get : ∀ {ds : List D} {vs : List V} {i : Nat} {d : D}, RepL c m ds vs → ds[i]? = some d → ∃ v, vs[i]? = some v ∧ Rep c m d v
 | [], _, i, d, _, h => by simp at h
 | e :: ds, vs, 0, d, h, k => by
  obtain ⟨y, r, e, h1, h2⟩ := h
  simp at k
  subst k e
  exact ⟨y, rfl, h1⟩
 | e :: ds, vs, i + 1, d, h, k => by
  obtain ⟨y, r, e, h1, h2⟩ := h
  subst e
  obtain ⟨v, a, b⟩ := RepL.get (i := i) h2 (by simpa using k)
  exact ⟨v, by simpa using a, b⟩
theorem RepL.set {e : D} {w : V} (hw : Rep c m e w) : ∀ {ds : List D} {vs : List V} (i : Nat), RepL c m ds vs → RepL c m (ds.set i e) (vs.set i w)
 | [], vs, i, h => by rw [show vs = [] from h]; rfl
 | d :: ds, vs, 0, h => by
  obtain ⟨y, r, e, h1, h2⟩ := h
  subst e
  exact ⟨w, r, rfl, hw, h2⟩
 | d :: ds, vs, i + 1, h => by
  obtain ⟨y, r, e, h1, h2⟩ := h
  subst e
  exact ⟨y, r.set i w, rfl, h1, RepL.set hw i h2⟩
theorem RepL.take : ∀ {ds : List D} {vs : List V} (i : Nat), RepL c m ds vs → RepL c m (ds.take i) (vs.take i)
 | [], vs, i, h => by rw [show vs = [] from h]; simp [RepL]
 | d :: ds, vs, 0, h => by simp [RepL]
 | d :: ds, vs, i + 1, h => by
  obtain ⟨y, r, e, h1, h2⟩ := h
  subst e
  exact ⟨y, r.take i, rfl, h1, RepL.take i h2⟩
theorem RepL.drop : ∀ {ds : List D} {vs : List V} (i : Nat), RepL c m ds vs → RepL c m (ds.drop i) (vs.drop i)
 | [], vs, i, h => by rw [show vs = [] from h]; simp [RepL]
 | d :: ds, vs, 0, h => by simpa using h
 | d :: ds, vs, i + 1, h => by
  obtain ⟨y, r, e, h1, h2⟩ := h
  subst e
  simpa using RepL.drop i h2
theorem Ex.all (le : m.S.length ≤ m'.S.length) (ag : ∀ i, i < m.S.length → m'.r i = m.r i) (k : ∀ a o, m.H a = some o → m'.H a = some o) (nw : ∀ i, m.S.length ≤ i → i < m'.S.length → m.H (m'.r i) = none) (kd : ∀ (i : Nat) (o : Ob), m.S[i]? = some o → ∃ o' : Ob, m'.S[i]? = some o' ∧ o'.kind = o.kind) : Ex m m' :=
 ⟨le, ag, fun a o h _ _ => k a o h, fun a o h _ => ⟨o, k a o h⟩, nw, kd⟩
theorem Ex.refl : Ex m m := .all (Nat.le_refl _) (fun _ _ => rfl) (fun _ _ h => h) (fun i h1 h2 => by omega) (fun i o h => ⟨o, h, rfl⟩)
theorem Tr.there (s : Sim c m) (t : Tr c m m') {a : Addr} {o : HO} (h : m.H a = some o) : ∃ o', m'.H a = some o' := by
 by_cases hb : Bx m a
 ·obtain ⟨i, hi, e⟩ := hb
  obtain ⟨ds, xs, _, e2, _⟩ := t.si.box (Nat.lt_of_lt_of_le hi t.ex.le)
  rw [t.ex.ag i hi, e] at e2
  exact ⟨_, e2⟩
 ·exact t.ex.th _ _ h hb
theorem Tr.refl (s : Sim c m) : Tr c m m := ⟨.refl, s⟩
theorem Tr.trans (s : Sim c m) (t : Tr c m m') (u : Tr c m' m'') : Tr c m m'' where
 ex := {
  le := Nat.le_trans t.ex.le u.ex.le
  ag := fun i h => by rw [u.ex.ag i (Nat.lt_of_lt_of_le h t.ex.le), t.ex.ag i h]
  pr := fun a o h n z => u.ex.pr _ _ (t.ex.pr _ _ h n z) (t.ex.nbx h n) z
  th := fun a o h n => by
   obtain ⟨o', h'⟩ := t.ex.th a o h n
   exact u.ex.th a o' h' (t.ex.nbx h n)
  kd := fun i o h => by
   obtain ⟨o1, h1, k1⟩ := t.ex.kd i o h
   obtain ⟨o2, h2, k2⟩ := u.ex.kd i o1 h1
   exact ⟨o2, h2, k2.trans k1⟩
  nw := fun i h1 h2 => by
   by_cases hl : i < m'.S.length
   ·rw [u.ex.ag i hl]
    exact t.ex.nw i h1 hl
   ·have e := u.ex.nw i (by omega) h2
    cases q : m.H (m''.r i) with
    | none => rfl
    | some o =>
     obtain ⟨o', e'⟩ := Tr.there s t q
     rw [e] at e'
     cases e' }
 si := u.si
theorem Tr.rep (s : Sim c m) (t : Tr c m m') {d : D} {v : V} (h : Rep c m d v) : Rep c m' d v := Rep.mono s.bok t.ex d v h
theorem Tr.repL (s : Sim c m) (t : Tr c m m') {d : List D} {v : List V} (h : RepL c m d v) : RepL c m' d v := RepL.mono s.bok t.ex d v h
theorem Ex.laid {p : Addr} {o : HO} (hp : m.H p = none) : Ex m ⟨m.r, m.S, upd m.H p o⟩ :=
 .all (Nat.le_refl _) (fun _ _ => rfl) (fun a u h => by show upd m.H p o a = _; rw [upd_ne (ne_of_none h hp)]; exact h) (fun i h1 h2 => by have h2 : i < m.S.length := h2; omega) (fun i o h => ⟨o, h, rfl⟩)
theorem ObR.mono (s : Sim c m) (x : Ex m m') {o : Ob} {a : Addr} (h : ObR c m o a) (k : ∀ u, m.H a = some u → m'.H a = some u) : ObR c m' o a := by
 obtain ⟨xs, h1, h2⟩ := h
 exact ⟨xs, k _ h1, RepL.mono s.bok x _ xs h2⟩
theorem Tr.laid (s : Sim c m) {p : Addr} {o : HO} (hp : m.H p = none) : Tr c m ⟨m.r, m.S, upd m.H p o⟩ where
 ex := .laid hp
 si := {
  inj := s.inj
  obj := fun i u h => ObR.mono s (.laid hp) (s.obj i u h) fun w hw => by show upd m.H p o _ = _; rw [upd_ne (ne_of_none hw hp)]; exact hw
  zs := fun z hz => by
   obtain ⟨⟨u, hu⟩, hb⟩ := s.zs z hz
   refine ⟨⟨u, ?_⟩, hb⟩
   show upd m.H p o z = _
   rw [upd_ne (ne_of_none hu hp)]
   exact hu
  tabs := fun q hq => (s.tabs q hq).ext fun b u e => by show upd m.H p o b = _; rw [upd_ne (ne_of_none e hp)]; exact e }
theorem Sim.fresh (s : Sim c m) {p : Addr} (hp : m.H p = none) : ¬ Bx m p ∧ p ∉ c.Z := by
 constructor
 ·rintro ⟨i, hi, e⟩
  obtain ⟨ds, xs, _, e2, _⟩ := s.box hi
  rw [e, hp] at e2
  cases e2
 ·intro hz
  obtain ⟨⟨u, hu⟩, _⟩ := s.zs p hz
  rw [hp] at hu
  cases hu
theorem Rep.newLst (s : Sim c m) {p : Addr} {ds : List D} {xs : List V} (hp : m.H p = none) (h : RepL c m ds xs) : Rep c ⟨m.r, m.S, upd m.H p (.lst xs)⟩ (.lst ds) (.ref p) :=
 ⟨p, xs, rfl, ⟨upd_same, (s.fresh hp).1, (s.fresh hp).2⟩, RepL.mono s.bok (.laid hp) ds xs h⟩
theorem Rep.newTup (s : Sim c m) {p : Addr} {ds : List D} {xs : List V} (hp : m.H p = none) (h : RepL c m ds xs) : Rep c ⟨m.r, m.S, upd m.H p (.tup xs)⟩ (.tup ds) (.ref p) :=
 ⟨p, xs, rfl, .inl (.inl upd_same), RepL.mono s.bok (.laid hp) ds xs h⟩
def M.box (m : M) (p : Addr) (ds : List D) (xs : List V) : M := ⟨fun i => if i = m.S.length then p else m.r i, m.S ++ [.lst ds], upd m.H p (.lst xs)⟩
theorem Ex.box {p : Addr} {ds : List D} {xs : List V} (hp : m.H p = none) : Ex m (m.box p ds xs) := .all
 (by show m.S.length ≤ (m.S ++ [Ob.lst ds]).length; simp)
 (fun i h => by show (if i = m.S.length then p else m.r i) = _; rw [if_neg (by omega)])
 (fun a u h => by show upd m.H p _ a = _; rw [upd_ne (ne_of_none h hp)]; exact h)
 (fun i h1 h2 => by
  have h2 : i < (m.S ++ [Ob.lst ds]).length := h2
  rw [List.length_append, List.length_singleton] at h2
  show m.H (if i = m.S.length then p else m.r i) = none
  rw [if_pos (by omega)]
  exact hp)
 (fun i o h => ⟨o, by
  show (m.S ++ [Ob.lst ds])[i]? = some o
  rw [List.getElem?_append_left (List.getElem?_eq_some_iff.mp h).1]
  exact h, rfl⟩)
theorem Tr.box (s : Sim c m) {p : Addr} {ds : List D} {xs : List V} (hp : m.H p = none) (h : RepL c m ds xs) : Tr c m (m.box p ds xs) where
 ex := .box hp
 si := {
  inj := fun i j hi hj e => by
   have hi : i < (m.S ++ [Ob.lst ds]).length := hi
   have hj : j < (m.S ++ [Ob.lst ds]).length := hj
   rw [List.length_append, List.length_singleton] at hi hj
   have e : (if i = m.S.length then p else m.r i) = (if j = m.S.length then p else m.r j) := e
   by_cases h1 : i = m.S.length <;> by_cases h2 : j = m.S.length
   ·omega
   ·rw [if_pos h1, if_neg h2] at e
    exact ((s.fresh hp).1 ⟨j, by omega, e.symm⟩).elim
   ·rw [if_neg h1, if_pos h2] at e
    exact ((s.fresh hp).1 ⟨i, by omega, e⟩).elim
   ·rw [if_neg h1, if_neg h2] at e
    exact s.inj i j (by omega) (by omega) e
  obj := fun i u e => by
   have e : (m.S ++ [Ob.lst ds])[i]? = some u := e
   by_cases hi : i < m.S.length
   ·rw [List.getElem?_append_left hi] at e
    have q := ObR.mono (m' := m.box p ds xs) s (.box hp) (s.obj i u e) fun w hw => by show upd m.H p _ _ = _; rw [upd_ne (ne_of_none hw hp)]; exact hw
    have z : (m.box p ds xs).r i = m.r i := (Ex.box hp).ag i hi
    rw [z]
    exact q
   ·rw [List.getElem?_append_right (by omega)] at e
    have hz : i - m.S.length = 0 := by
     rcases Nat.eq_zero_or_pos (i - m.S.length) with z | z
     ·exact z
     ·rw [List.getElem?_eq_none (by simp; omega)] at e
      cases e
    rw [hz] at e
    cases e
    have z : (m.box p ds xs).r i = p := by show (if i = m.S.length then p else m.r i) = p; rw [if_pos (by omega)]
    rw [z]
    exact ⟨xs, upd_same, RepL.mono s.bok (.box hp) ds xs h⟩
  zs := fun z hz => by
   obtain ⟨⟨u, hu⟩, hb⟩ := s.zs z hz
   refine ⟨⟨u, ?_⟩, (Ex.box hp).nbx hu hb⟩
   show upd m.H p _ z = _
   rw [upd_ne (ne_of_none hu hp)]
   exact hu
  tabs := fun q hq => (s.tabs q hq).ext fun b u e => by show upd m.H p _ b = _; rw [upd_ne (ne_of_none e hp)]; exact e }
def M.put (m : M) (n : Nat) (ds : List D) (xs : List V) : M := ⟨m.r, m.S.set n (.lst ds), upd m.H (m.r n) (.lst xs)⟩
theorem BoxOk.tab (s : BoxOk m) {H' : Hp} (k : ∀ a o, m.H a = some o → ¬ Bx m a → H' a = some o) {P : Addr} {q : Str} (h : LamX.TabS m.H P q) : LamX.TabS H' P q := by
 obtain ⟨ps, h1, h2, h3⟩ := h
 refine ⟨ps, k _ _ h1 (s.no h1 fun z => z), h2, fun pos cv hc => ?_⟩
 obtain ⟨d, e1, e2⟩ := h3 pos cv hc
 exact ⟨d, e1, k _ _ e2 (s.no e2 fun z => z)⟩
theorem Ex.put (s : BoxOk m) {n : Nat} (hn : n < m.S.length) (hk : ∃ es, m.S[n]? = some (.lst es)) {ds : List D} {xs : List V} : Ex m (m.put n ds xs) := by
 have k : ∀ a o, m.H a = some o → ¬ Bx m a → (m.put n ds xs).H a = some o := fun a u h nb => by
  show upd m.H (m.r n) _ a = _
  rw [upd_ne (fun e => nb ⟨n, hn, e.symm⟩)]
  exact h
 refine ⟨?_, fun _ _ => rfl, fun a o h n _ => k a o h n, fun a o h n => ⟨o, k a o h n⟩, fun i h1 h2 => ?_, fun i o h => ?_⟩
 ·show m.S.length ≤ (m.S.set n _).length
  simp
 ·have h2 : i < (m.S.set n (.lst ds)).length := h2
  rw [List.length_set] at h2
  omega
 ·by_cases e : n = i
  ·subst e
   obtain ⟨es, he⟩ := hk
   rw [he] at h
   cases h
   exact ⟨.lst ds, List.getElem?_set_self hn, rfl⟩
  ·exact ⟨o, by rw [show (m.put n ds xs).S = m.S.set n (.lst ds) from rfl, List.getElem?_set_ne e]; exact h, rfl⟩
theorem Tr.put (s : Sim c m) {n : Nat} (hn : n < m.S.length) (hk : ∃ es, m.S[n]? = some (.lst es)) {ds : List D} {xs : List V} (h : RepL c m ds xs) : Tr c m (m.put n ds xs) where
 ex := .put s.bok hn hk
 si := {
  inj := fun i j hi hj e => by
   have hi : i < (m.S.set n (.lst ds)).length := hi
   have hj : j < (m.S.set n (.lst ds)).length := hj
   rw [List.length_set] at hi hj
   exact s.inj i j hi hj e
  obj := fun i u e => by
   have e : (m.S.set n (.lst ds))[i]? = some u := e
   by_cases hi : n = i
   ·subst hi
    rw [List.getElem?_set_self hn] at e
    cases e
    exact ⟨xs, upd_same, RepL.mono s.bok (.put s.bok hn hk) ds xs h⟩
   ·rw [List.getElem?_set_ne hi] at e
    have hil : i < m.S.length := by
     rcases Nat.lt_or_ge i m.S.length with z | z
     ·exact z
     ·rw [List.getElem?_eq_none z] at e; cases e
    refine ObR.mono (m' := m.put n ds xs) s (.put s.bok hn hk) (s.obj i u e) fun w hw => ?_
    show upd m.H (m.r n) _ (m.r i) = _
    rw [upd_ne (fun z => hi (s.inj i n hil hn z).symm)]
    exact hw
  zs := fun z hz => by
   obtain ⟨⟨u, hu⟩, hb⟩ := s.zs z hz
   refine ⟨⟨u, ?_⟩, ?_⟩
   ·show upd m.H (m.r n) _ z = _
    rw [upd_ne (fun e => hb ⟨n, hn, e.symm⟩)]
    exact hu
   ·rintro ⟨i, hi, e⟩
    have hi : i < (m.S.set n (.lst ds)).length := hi
    rw [List.length_set] at hi
    exact hb ⟨i, hi, e⟩
  tabs := fun q hq => s.bok.tab (fun a u e nb => by
   show upd m.H (m.r n) _ a = _
   rw [upd_ne (fun z => nb ⟨n, hn, z.symm⟩)]
   exact e) (s.tabs q hq) }
mutual
theorem Rep.widen {K : PySem.W.Frag} {Z Z' : List Addr} (hz : ∀ z, z ∈ Z' → z ∈ Z ∨ m.H z = none) : ∀ (d : D) (v : V), Rep ⟨K, Z⟩ m d v → Rep ⟨K, Z'⟩ m d v
 | .non, v, h => h
 | .bl _, v, h => h
 | .int _, v, h => h
 | .str _, v, h => h
 | .tup ds, v, h => by
  obtain ⟨a, xs, e, h1, h2⟩ := h
  exact ⟨a, xs, e, h1, RepL.widen hz ds xs h2⟩
 | .lst ds, v, h => by
  obtain ⟨a, xs, e, ⟨h1, h3, h4⟩, h2⟩ := h
  refine ⟨a, xs, e, ⟨h1, h3, fun z => ?_⟩, RepL.widen hz ds xs h2⟩
  rcases hz a z with q | q
  ·exact h4 q
  ·rw [h1] at q; cases q
 | .rol ds, v, h => by
  obtain ⟨a, xs, e, h1, h2⟩ := h
  exact ⟨a, xs, e, h1, RepL.widen hz ds xs h2⟩
 | .dic ks vs, v, h => by
  obtain ⟨a, kvs, e, ⟨h1, h3, h4⟩, h5, h2⟩ := h
  refine ⟨a, kvs, e, ⟨h1, h3, fun z => ?_⟩, h5, RepL.widen hz vs _ h2⟩
  rcases hz a z with q | q
  ·exact h4 q
  ·rw [h1] at q; cases q
 | .ref n, v, h => h
 | .dref n, v, h => h
 | .tag k ds, v, h => by
  obtain ⟨a, xs, e, h1, h2⟩ := h
  exact ⟨a, xs, e, h1, RepL.widen hz ds xs h2⟩
theorem RepL.widen {K : PySem.W.Frag} {Z Z' : List Addr} (hz : ∀ z, z ∈ Z' → z ∈ Z ∨ m.H z = none) : ∀ (ds : List D) (vs : List V), RepL ⟨K, Z⟩ m ds vs → RepL ⟨K, Z'⟩ m ds vs
 | [], vs, h => h
 | d :: ds, vs, h => by
  obtain ⟨y, r, e, h1, h2⟩ := h
  exact ⟨y, r, e, Rep.widen hz d y h1, RepL.widen hz ds r h2⟩
end
def M.hide (m : M) (p : Addr) : M := ⟨m.r, m.S, fun a => if a = p then none else m.H a⟩
theorem M.hide_ne {p a : Addr} (h : a ≠ p) : (m.hide p).H a = m.H a := by show (if a = p then none else m.H a) = _; rw [if_neg h]
theorem M.hide_upd {p : Addr} {o : HO} (h : m.H p = some o) : upd (m.hide p).H p o = m.H := by
 funext a
 by_cases e : a = p
 ·subst e; rw [upd_same, h]
 ·rw [upd_ne e, M.hide_ne e]
theorem M.hide_at {p a : Addr} {u w : HO} (hp : m.H p = some u) (b : BxH u) (h : m.H a = some w) (n : ¬ BxH w) : (m.hide p).H a = some w := by
 rw [M.hide_ne (fun z => by
  subst z
  rw [hp] at h
  cases h
  exact n b)]
 exact h
theorem TagR.hide {K : PySem.W.Frag} {p : Addr} {u : HO} (hp : m.H p = some u) (b : BxH u) : ∀ {k : Nat} {a : Addr} {xs : List V}, TagR K m k a xs → TagR K (m.hide p) k a xs
 | 0, a, _, h => by
  obtain ⟨o, h1, h2⟩ := h
  exact ⟨o, M.hide_at hp b h1 fun z => z, h2⟩
 | n + 1, _, _, h => by
  obtain ⟨h0, hk, h⟩ := h
  refine ⟨h0, hk, ?_⟩
  rcases h with ⟨dd, f, v, e, h1, h2⟩ | ⟨e, h1⟩
  ·exact .inl ⟨dd, f, v, e, M.hide_at hp b h1 fun z => z, M.hide_at hp b h2 fun z => z⟩
  ·exact .inr ⟨e, M.hide_at hp b h1 fun z => z⟩
mutual
theorem Rep.hide {K : PySem.W.Frag} {Z : List Addr} {p : Addr} {ys : List V} (hp : m.H p = some (.lst ys)) : ∀ (d : D) (v : V), Rep ⟨K, p :: Z⟩ m d v → Rep ⟨K, Z⟩ (m.hide p) d v
 | .non, v, h => h
 | .bl _, v, h => h
 | .int _, v, h => h
 | .str _, v, h => h
 | .tup ds, v, h => by
  obtain ⟨a, xs, e, h1, h2⟩ := h
  refine ⟨a, xs, e, ?_, RepL.hide hp ds xs h2⟩
  rcases h1 with h1 | h1
  ·have hne : a ≠ p := fun z => by
    subst z
    rcases h1 with h1 | ⟨o, h1⟩ <;> (rw [hp] at h1; cases h1)
   refine .inl ?_
   rcases h1 with h1 | ⟨o, h1⟩
   ·exact .inl (by rw [M.hide_ne hne]; exact h1)
   ·exact .inr ⟨o, by rw [M.hide_ne hne]; exact h1⟩
  ·exact .inr h1
 | .lst ds, v, h => by
  obtain ⟨a, xs, e, ⟨h1, h3, h4⟩, h2⟩ := h
  have hne : a ≠ p := fun z => h4 (by subst z; exact List.mem_cons_self ..)
  exact ⟨a, xs, e, ⟨by rw [M.hide_ne hne]; exact h1, h3, fun z => h4 (List.mem_cons_of_mem _ z)⟩, RepL.hide hp ds xs h2⟩
 | .rol ds, v, h => by
  obtain ⟨a, xs, e, h1, h2⟩ := h
  refine ⟨a, xs, e, ?_, RepL.hide hp ds xs h2⟩
  rcases h1 with ⟨o, h1⟩ | h1
  ·have hne : a ≠ p := fun z => by
    subst z
    rw [hp] at h1; cases h1
   exact .inl ⟨o, by rw [M.hide_ne hne]; exact h1⟩
  ·exact .inr h1
 | .dic ks vs, v, h => by
  obtain ⟨a, kvs, e, ⟨h1, h3, h4⟩, h5, h2⟩ := h
  have hne : a ≠ p := fun z => h4 (by subst z; exact List.mem_cons_self ..)
  exact ⟨a, kvs, e, ⟨by rw [M.hide_ne hne]; exact h1, h3, fun z => h4 (List.mem_cons_of_mem _ z)⟩, h5, RepL.hide hp vs _ h2⟩
 | .ref n, v, h => h
 | .dref n, v, h => h
 | .tag k ds, v, h => by
  obtain ⟨a, xs, e, h1, h2⟩ := h
  exact ⟨a, xs, e, TagR.hide hp trivial h1, RepL.hide hp ds xs h2⟩
theorem RepL.hide {K : PySem.W.Frag} {Z : List Addr} {p : Addr} {ys : List V} (hp : m.H p = some (.lst ys)) : ∀ (ds : List D) (vs : List V), RepL ⟨K, p :: Z⟩ m ds vs → RepL ⟨K, Z⟩ (m.hide p) ds vs
 | [], vs, h => h
 | d :: ds, vs, h => by
  obtain ⟨y, r, e, h1, h2⟩ := h
  exact ⟨y, r, e, Rep.hide hp d y h1, RepL.hide hp ds r h2⟩
end
theorem tabS_hideI {p : Addr} {u : HO} {P : Addr} {q : Str} (h : LamX.TabS m.H P q) (hp : m.H p = some u) (b : BxH u) : LamX.TabS (m.hide p).H P q := by
 have ne : ∀ (a : Addr) (o : HO), m.H a = some o → ¬ BxH o → a ≠ p := fun a o h n z => by subst z; rw [hp] at h; cases h; exact n b
 obtain ⟨ps, h1, h2, h3⟩ := h
 refine ⟨ps, by rw [M.hide_ne (ne _ _ h1 fun z => z)]; exact h1, h2, fun pos cv hc => ?_⟩
 obtain ⟨d, e1, e2⟩ := h3 pos cv hc
 exact ⟨d, e1, by rw [M.hide_ne (ne _ _ e2 fun z => z)]; exact e2⟩
theorem Sim.hide {K : PySem.W.Frag} {Z : List Addr} {p : Addr} {ys : List V} (s : Sim ⟨K, p :: Z⟩ m) (hp : m.H p = some (.lst ys)) : Sim ⟨K, Z⟩ (m.hide p) ∨ p ∈ Z := by
 by_cases hpz : p ∈ Z
 ·exact .inr hpz
 ·refine .inl ⟨s.inj, fun i o h => ?_, fun z hz => ?_, fun q hq => tabS_hideI (s.tabs q hq) hp trivial⟩
  ·have h : m.S[i]? = some o := h
   have hb := (s.zs p (List.mem_cons_self ..)).2
   have hil : i < m.S.length := by
    rcases Nat.lt_or_ge i m.S.length with z | z
    ·exact z
    ·rw [List.getElem?_eq_none z] at h; cases h
   have q := s.obj i o h
   ·obtain ⟨xs, h1, h2⟩ := q
    exact ⟨xs, by show (m.hide p).H (m.r i) = _; rw [M.hide_ne (fun e => hb ⟨i, hil, e⟩)]; exact h1, RepL.hide hp _ xs h2⟩
  ·have hz : z ∈ Z := hz
   obtain ⟨⟨o, ho⟩, hb⟩ := s.zs z (List.mem_cons_of_mem _ hz)
   exact ⟨⟨o, by rw [M.hide_ne (fun e => hpz (by rw [← e]; exact hz))]; exact ho⟩, hb⟩
theorem Ex.hideR {p : Addr} {u : HO} (x : Ex m m') (h0 : m.H p = none) (hp : m'.H p = some u) (b : BxH u) : Ex m (m'.hide p) where
 le := x.le
 ag := x.ag
 pr := fun a o h n t => by rw [M.hide_ne (ne_of_none h h0)]; exact x.pr a o h n t
 th := fun a o h n => by rw [M.hide_ne (ne_of_none h h0)]; exact x.th a o h n
 nw := x.nw
 kd := x.kd
theorem Ex.then {m0 m6 : M} {c : C} (s' : BoxOk m') (x' : Ex m0 m') (t : Tr c m' m6) : Ex m0 m6 := by
 refine ⟨Nat.le_trans x'.le t.ex.le, fun i h => by rw [t.ex.ag i (Nat.lt_of_lt_of_le h x'.le), x'.ag i h], fun a o h n z => t.ex.pr _ _ (x'.pr _ _ h n z) (x'.nbx h n) z, fun a o h n => ?_, fun i h1 h2 => ?_, fun i o h => ?_⟩
 ·obtain ⟨o', h'⟩ := x'.th a o h n
  exact t.ex.th a o' h' (x'.nbx h n)
 rotate_left
 ·obtain ⟨o1, h1, k1⟩ := x'.kd _ _ ‹_›
  obtain ⟨o2, h2, k2⟩ := t.ex.kd _ o1 h1
  exact ⟨o2, h2, k2.trans k1⟩
 ·by_cases hl : i < m'.S.length
  ·rw [t.ex.ag i hl]; exact x'.nw i h1 hl
  ·have e := t.ex.nw i (by omega) h2
   cases z : m0.H (m6.r i) with
   | none => rfl
   | some o =>
    by_cases hb : Bx m0 (m6.r i)
    ·obtain ⟨j, hj, ej⟩ := hb
     obtain ⟨u, ey, _⟩ := s' j (Nat.lt_of_lt_of_le hj x'.le)
     rw [x'.ag j hj, ej, e] at ey
     cases ey
    ·obtain ⟨o', h'⟩ := x'.th _ _ z hb
     rw [h'] at e; cases e
theorem Sim.apart {K : PySem.W.Frag} {Z : List Addr} {p : Addr} {ys : List V} (s : Sim ⟨K, Z⟩ m) (hp : m.H p = none) : Sim ⟨K, p :: Z⟩ ⟨m.r, m.S, upd m.H p (.lst ys)⟩ where
 inj := s.inj
 obj := fun i o h => by
  have q := s.obj i o h
  ·obtain ⟨xs, h1, h2⟩ := q
   refine ⟨xs, by show upd m.H p _ _ = _; rw [upd_ne (ne_of_none h1 hp)]; exact h1, ?_⟩
   refine RepL.mono (m := m) s.bok (.laid hp) _ xs (RepL.widen (fun z hz => ?_) _ xs h2)
   rcases List.mem_cons.mp hz with e | e
   ·exact .inr (e ▸ hp)
   ·exact .inl e
 zs := fun z hz => by
  rcases List.mem_cons.mp hz with e | e
  ·exact ⟨⟨_, by rw [e]; exact upd_same⟩, by rw [e]; exact (s.fresh hp).1⟩
  ·obtain ⟨⟨o, ho⟩, hb⟩ := s.zs z e
   exact ⟨⟨o, by show upd m.H p _ _ = _; rw [upd_ne (ne_of_none ho hp)]; exact ho⟩, hb⟩
 tabs := fun q hq => (s.tabs q hq).ext fun b u e => by show upd m.H p _ b = _; rw [upd_ne (ne_of_none e hp)]; exact e
def M.over (m : M) (p : Addr) (ys : List V) : M := ⟨m.r, m.S, upd m.H p (.lst ys)⟩
theorem M.over_eq {p : Addr} {ys : List V} : (⟨(m.hide p).r, (m.hide p).S, upd (m.hide p).H p (.lst ys)⟩ : M) = m.over p ys := by
 have e : upd (m.hide p).H p (.lst ys) = upd m.H p (.lst ys) := by
  funext a
  by_cases h : a = p
  ·subst h; rw [upd_same, upd_same]
  ·rw [upd_ne h, upd_ne h, M.hide_ne h]
 unfold M.over
 rw [e]
 rfl
theorem Sim.over {K : PySem.W.Frag} {Z : List Addr} {p : Addr} {ys zs : List V} (s : Sim ⟨K, p :: Z⟩ m) (hp : m.H p = some (.lst ys)) (hz : p ∉ Z) : Sim ⟨K, p :: Z⟩ (m.over p zs) := by
 rcases s.hide hp with h | h
 ·rw [← M.over_eq]
  exact Sim.apart h (by show (if p = p then none else m.H p) = none; rw [if_pos rfl])
 ·exact absurd h hz
theorem RepL.over {K : PySem.W.Frag} {Z : List Addr} {p : Addr} {ys zs : List V} (s : Sim ⟨K, p :: Z⟩ m) (hp : m.H p = some (.lst ys)) (hz : p ∉ Z) {ds : List D} {vs : List V} (h : RepL ⟨K, p :: Z⟩ m ds vs) : RepL ⟨K, p :: Z⟩ (m.over p zs) ds vs := by
 rcases s.hide hp with hs | hs
 ·rw [← M.over_eq]
  have hn : (m.hide p).H p = none := by show (if p = p then none else m.H p) = none; rw [if_pos rfl]
  refine RepL.mono (m := m.hide p) hs.bok (.laid hn) ds vs (RepL.widen (fun z hz => ?_) ds vs (RepL.hide hp ds vs h))
  rcases List.mem_cons.mp hz with e | e
  ·exact .inr (by rw [e]; exact hn)
  ·exact .inl e
 ·exact absurd hs hz
end
abbrev EX := En → Sto → Option (D × Sto)
abbrev TX := En → Sto → Option (Bool × Sto)
abbrev AX := En → Sto → Option (List D × Sto)
abbrev GX := D → En → Sto → Option (En × Sto)
abbrev IX := En → Sto → Option (List D × List Nat × Sto)
inductive Out where
 | nx (e : En) (S : Sto)
 | rt (d : D) (S : Sto)
 | bk (e : En) (S : Sto)
 | ct (e : En) (S : Sto)
abbrev SX := En → Sto → Option Out
def ER (c : C) (m : M) (env : En) (σ : L2.St) : Prop := env.length = σ.length ∧ ∀ (i : Nat) (d : D), env[i]? = some (some d) → ∃ x, σ[i]? = some (some x) ∧ Rep c m d x
section
variable {c : C} {m m' : M} {env : En} {σ : L2.St}
theorem ER.tr (s : Sim c m) (t : Tr c m m') (h : ER c m env σ) : ER c m' env σ := ⟨h.1, fun i d e => by
 obtain ⟨x, h1, h2⟩ := h.2 i d e
 exact ⟨x, h1, t.rep s h2⟩⟩
theorem ER.set (h : ER c m env σ) {d : D} {x : V} (r : Rep c m d x) (i : Nat) : ER c m (env.set i (some d)) (σ.set i (some x)) := by
 refine ⟨by rw [List.length_set, List.length_set]; exact h.1, fun j e q => ?_⟩
 by_cases hj : i = j
 ·subst hj
  have hl : i < env.length := by
   rcases Nat.lt_or_ge i env.length with z | z
   ·exact z
   ·rw [List.getElem?_eq_none (by rw [List.length_set]; exact z)] at q; cases q
  rw [List.getElem?_set_self hl] at q
  cases q
  exact ⟨x, by rw [List.getElem?_set_self (by rw [← h.1]; exact hl)], r⟩
 ·rw [List.getElem?_set_ne hj] at q
  obtain ⟨y, h1, h2⟩ := h.2 j e q
  exact ⟨y, by rw [List.getElem?_set_ne hj]; exact h1, h2⟩
end
def tE (K : PySem.W.Frag) (f : EX) : TE := fun σ H Q => ∃ (Z : List Addr) (m : M) (env : En) (v : D) (S' : Sto), m.H = H ∧ Sim ⟨K, Z⟩ m ∧ ER ⟨K, Z⟩ m env σ ∧ f env m.S = some (v, S') ∧
 ∀ m' x, m'.S = S' → Tr ⟨K, Z⟩ m m' → Rep ⟨K, Z⟩ m' v x → Q x m'.H
def tT (K : PySem.W.Frag) (f : TX) : TT := fun σ H Q => ∃ (Z : List Addr) (m : M) (env : En) (b : Bool) (S' : Sto), m.H = H ∧ Sim ⟨K, Z⟩ m ∧ ER ⟨K, Z⟩ m env σ ∧ f env m.S = some (b, S') ∧
 ∀ m', m'.S = S' → Tr ⟨K, Z⟩ m m' → Q b m'.H
def tA (K : PySem.W.Frag) (f : AX) : TA := fun σ H Q => ∃ (Z : List Addr) (m : M) (env : En) (v : List D) (S' : Sto), m.H = H ∧ Sim ⟨K, Z⟩ m ∧ ER ⟨K, Z⟩ m env σ ∧ f env m.S = some (v, S') ∧
 ∀ m' x, m'.S = S' → Tr ⟨K, Z⟩ m m' → RepL ⟨K, Z⟩ m' v x → Q x m'.H
def tG (K : PySem.W.Frag) (vs : List Nat) (g : GX) : TG := fun x σ H Q => ∃ (Z : List Addr) (m : M) (env : En) (d : D) (env' : En) (S' : Sto), m.H = H ∧ Sim ⟨K, Z⟩ m ∧ ER ⟨K, Z⟩ m env σ ∧ Rep ⟨K, Z⟩ m d x ∧ g d env m.S = some (env', S') ∧
 ∀ m' σ', m'.S = S' → Tr ⟨K, Z⟩ m m' → ER ⟨K, Z⟩ m' env' σ' → (σ'.length = σ.length ∧ ∀ i, i ∉ vs → σ'[i]? = σ[i]?) → Q σ' m'.H
structure ItOk (K : PySem.W.Frag) (Z : List Addr) (m : M) (ds : List D) (gs : List Nat) (J : It) : Prop where
 go : ∀ Z' m', (∀ z, z ∈ Z → z ∈ Z') → (∀ z, z ∈ Z' → z ∈ Z ∨ m.H z = none) → Ex m m' → Sim ⟨K, Z'⟩ m' → (∀ n, n ∈ gs → m'.S[n]? = m.S[n]?) → ∀ i, (ds.length ≤ i → J.stop i m'.H) ∧
  ∀ d, ds[i]? = some d → J.go i m'.H ∧ ∀ x H3, J.yld i m'.H x H3 → ∃ m3 : M, m3.H = H3 ∧ m3.S = m'.S ∧ Tr ⟨K, Z'⟩ m' m3 ∧ Rep ⟨K, Z'⟩ m3 d x
def tI (K : PySem.W.Frag) (f : IX) : TI := fun σ H R => ∃ (Z : List Addr) (m : M) (env : En) (ds : List D) (gs : List Nat) (S' : Sto), m.H = H ∧ Sim ⟨K, Z⟩ m ∧ ER ⟨K, Z⟩ m env σ ∧ f env m.S = some (ds, gs, S') ∧
 ∀ m' J, m'.S = S' → Tr ⟨K, Z⟩ m m' → ItOk K Z m' ds gs J → R J m'.H
def Post (c : C) (m : M) (D : Ends) : Out → Prop
 | .nx e S => ∀ m' σ', m'.S = S → Tr c m m' → ER c m' e σ' → D.nx σ' m'.H
 | .rt d S => ∀ m' x, m'.S = S → Tr c m m' → Rep c m' d x → D.rt x m'.H
 | .bk e S => ∀ m' σ', m'.S = S → Tr c m m' → ER c m' e σ' → D.bk σ' m'.H
 | .ct e S => ∀ m' σ', m'.S = S → Tr c m m' → ER c m' e σ' → D.ct σ' m'.H
def tS (K : PySem.W.Frag) (b : SX) : TS := fun D σ H => ∃ (Z : List Addr) (m : M) (env : En) (o : Out), m.H = H ∧ Sim ⟨K, Z⟩ m ∧ ER ⟨K, Z⟩ m env σ ∧ b env m.S = some o ∧ Post ⟨K, Z⟩ m D o
abbrev EJ (X : Cx) (e : Expr) (f : EX) : Prop := PE X e (tE X.K f)
abbrev TJ (X : Cx) (e : Expr) (f : TX) : Prop := PT X e (tT X.K f)
abbrev AJ (X : Cx) (e : List Expr) (f : AX) : Prop := PA X e (tA X.K f)
abbrev GJ (X : Cx) (e : Expr) (vs : List Nat) (f : GX) : Prop := PG X e (tG X.K vs f)
abbrev IJ (X : Cx) (tg e : Expr) (f : IX) : Prop := PI X tg e (tI X.K f)
abbrev SJ (X : Cx) (s : Stmt) (b : SX) : Prop := PS X s (tS X.K b)
abbrev BJ (X : Cx) (s : List Stmt) (b : SX) : Prop := PSs X s (tS X.K b)
section
variable {X : Cx} {K : PySem.W.Frag}
theorem pe_wk {e : Expr} {t t' : TE} (h : PE X e t) (k : ∀ σ H Q, t' σ H Q → t σ H Q) : PE X e t' := ⟨fun pins s σ H Q I w => h.run pins s σ H Q I (k σ H Q w)⟩
theorem pt_wk {e : Expr} {t t' : TT} (h : PT X e t) (k : ∀ σ H Q, t' σ H Q → t σ H Q) : PT X e t' := ⟨fun pins s σ H Q I w => h.run pins s σ H Q I (k σ H Q w)⟩
theorem pw_wk {e : Expr} {t t' : TT} (h : PW X e t) (k : ∀ σ H Q, t' σ H Q → t σ H Q) : PW X e t' := ⟨fun wh pins s σ H Q I w => h.run wh pins s σ H Q I (k σ H Q w)⟩
theorem pa_wk {e : List Expr} {t t' : TA} (h : PA X e t) (k : ∀ σ H Q, t' σ H Q → t σ H Q) : PA X e t' := ⟨fun pos pins s σ H Q I w => h.run pos pins s σ H Q I (k σ H Q w)⟩
theorem pg_wk {e : Expr} {t t' : TG} (h : PG X e t) (k : ∀ v σ H Q, t' v σ H Q → t v σ H Q) : PG X e t' := ⟨fun pins s σ H v u Q I r w => h.run pins s σ H v u Q I r (k v σ H Q w)⟩
theorem pi_wk {tg e : Expr} {t t' : TI} (h : PI X tg e t) (k : ∀ σ H Q, t' σ H Q → t σ H Q) : PI X tg e t' := ⟨fun pins s σ H Q I w => h.run pins s σ H Q I (k σ H Q w)⟩
theorem ps_wk {e : Stmt} {t t' : TS} (h : PS X e t) (k : ∀ D σ H, t' D σ H → t D σ H) : PS X e t' := ⟨fun pins s σ H D I w => h.run pins s σ H D I (k D σ H w)⟩
theorem pss_wk {e : List Stmt} {t t' : TS} (h : PSs X e t) (k : ∀ D σ H, t' D σ H → t D σ H) : PSs X e t' := ⟨fun pins s σ H D I w => h.run pins s σ H D I (k D σ H w)⟩
def eVar (i : Nat) : EX := fun e S => match e[i]? with
 | some (some d) => some (d, S)
 | _ => none
theorem eVar_inv {i : Nat} {e : En} {S : Sto} {d : D} {S' : Sto} (h : eVar i e S = some (d, S')) : e[i]? = some (some d) ∧ S' = S := by
 unfold eVar at h
 split at h
 ·rename_i d' q
  cases h
  exact ⟨q, rfl⟩
 ·cases h
theorem ej_var {i : Nat} {x : Str} {pos : Pos} (hN : X.N[i]? = some x) (hv : Vis X.env.scope x) (hd : (x == ("__debug__" : Str)) = false) (hcd : (x == ("__classdict__" : Str)) = false) : EJ X (.Name x pos) (eVar i) :=
 pe_wk (pe_var hN hv hd hcd) fun σ H Q ⟨Z, m, env, v, S', e, s, er, hf, q⟩ => by
  subst e
  obtain ⟨h1, h2⟩ := eVar_inv hf
  obtain ⟨x, hx, r⟩ := er.2 i v h1
  exact ⟨x, hx, q m x h2.symm (.refl s) r⟩
def eC (d : D) : EX := fun _ S => some (d, S)
theorem ej_c {e : Expr} {v : V} {d : D} (h : PE X e (tC v)) (r : ∀ c m, Rep c m d v) : EJ X e (eC d) :=
 pe_wk h fun σ H Q ⟨Z, m, env, v', S', e, s, er, hf, q⟩ => by
  subst e
  cases hf
  exact q m v rfl (.refl s) (r _ _)
theorem ej_int {i : Int} {j pos} : EJ X (.Constant (.int i) j pos) (eC (.int i)) := ej_c pe_int fun _ _ => rfl
theorem ej_bl {i : Bool} {j pos} : EJ X (.Constant (.bool i) j pos) (eC (.bl i)) := ej_c pe_bl fun _ _ => rfl
theorem ej_non {j pos} : EJ X (.Constant .none j pos) (eC .non) := ej_c pe_non fun _ _ => rfl
theorem ej_str {x : Str} {j pos} : EJ X (.Constant (.str x) j pos) (eC (.str x)) := ej_c pe_str fun _ _ => rfl
def KR (K : PySem.W.Frag) (d : D) (v : V) : Prop := ∀ Z m, Rep ⟨K, Z⟩ m d v
theorem ej_glob {x : Str} {v : V} {u : Value} {d : D} {pos : Pos} (hg : Gl X x) (hm : X.mg x = some u) (r : RelV v u) (k : KR X.K d v) (hd : (x == ("__debug__" : Str)) = false) : EJ X (.Name x pos) (eC d) :=
 pe_wk (pe_glob hg hm r hd) fun σ H Q ⟨Z, m, env, v', S', e, s, er, hf, q⟩ => by
  subst e
  cases hf
  exact q m v rfl (.refl s) (k _ _)
abbrev F2 := Sto → D → D → Option D
abbrev F1 := Sto → D → Option D
def e2 (f : F2) (a b : EX) : EX := fun e S => (a e S).bind fun p => (b e p.2).bind fun q => (f q.2 p.1 q.1).map fun d => (d, q.2)
def e1 (f : F1) (a : EX) : EX := fun e S => (a e S).bind fun p => (f p.2 p.1).map fun d => (d, p.2)
theorem e2_inv {f : F2} {a b : EX} {e : En} {S S' : Sto} {v : D} (h : e2 f a b e S = some (v, S')) : ∃ x S1 y, a e S = some (x, S1) ∧ b e S1 = some (y, S') ∧ f S' x y = some v := by
 unfold e2 at h
 obtain ⟨⟨x, S1⟩, h1, h⟩ := Option.bind_eq_some_iff.mp h
 obtain ⟨⟨y, S2⟩, h2, h⟩ := Option.bind_eq_some_iff.mp h
 obtain ⟨d, h3, h⟩ := Option.map_eq_some_iff.mp h
 cases h
 exact ⟨x, S1, y, h1, h2, h3⟩
theorem e1_inv {f : F1} {a : EX} {e : En} {S S' : Sto} {v : D} (h : e1 f a e S = some (v, S')) : ∃ x, a e S = some (x, S') ∧ f S' x = some v := by
 unfold e1 at h
 obtain ⟨⟨x, S1⟩, h1, h⟩ := Option.bind_eq_some_iff.mp h
 obtain ⟨d, h3, h⟩ := Option.map_eq_some_iff.mp h
 cases h
 exact ⟨x, h1, h3⟩
def r2 (K : PySem.W.Frag) (f : F2) : R2 := fun x y H Q => ∃ (Z : List Addr) (m : M) (a b d : D), m.H = H ∧ Sim ⟨K, Z⟩ m ∧ Rep ⟨K, Z⟩ m a x ∧ Rep ⟨K, Z⟩ m b y ∧ f m.S a b = some d ∧
 ∀ m' v, m'.S = m.S → Tr ⟨K, Z⟩ m m' → Rep ⟨K, Z⟩ m' d v → Q v m'.H
def r1 (K : PySem.W.Frag) (f : F1) : V → Hp → VK → Prop := fun x H Q => ∃ (Z : List Addr) (m : M) (a d : D), m.H = H ∧ Sim ⟨K, Z⟩ m ∧ Rep ⟨K, Z⟩ m a x ∧ f m.S a = some d ∧
 ∀ m' v, m'.S = m.S → Tr ⟨K, Z⟩ m m' → Rep ⟨K, Z⟩ m' d v → Q v m'.H
theorem te_op {f : F2} {fa fb : EX} {σ : L2.St} {H : Hp} {Q : VK} (h : tE K (e2 f fa fb) σ H Q) : tOp (r2 K f) (tE K fa) (tE K fb) σ H Q := by
 obtain ⟨Z, m, env, v, S', e, s, er, hf, q⟩ := h
 obtain ⟨x, S1, y, h1, h2, h3⟩ := e2_inv hf
 refine ⟨Z, m, env, x, S1, e, s, er, h1, fun m1 vx e1 t1 rx => ?_⟩
 refine ⟨Z, m1, env, y, S', rfl, t1.si, er.tr s t1, by rw [e1]; exact h2, fun m2 vy e2 t2 ry => ?_⟩
 refine ⟨Z, m2, x, y, v, rfl, t2.si, t2.rep t1.si rx, ry, by rw [e2]; exact h3, fun m3 w e3 t3 rw => ?_⟩
 exact q m3 w (e3.trans e2) ((t1.trans s t2).trans s t3) rw
theorem te_un {f : F1} {fa : EX} {σ : L2.St} {H : Hp} {Q : VK} (h : tE K (e1 f fa) σ H Q) : tUn (r1 K f) (tE K fa) σ H Q := by
 obtain ⟨Z, m, env, v, S', e, s, er, hf, q⟩ := h
 obtain ⟨x, h1, h3⟩ := e1_inv hf
 refine ⟨Z, m, env, x, S', e, s, er, h1, fun m1 vx e1 t1 rx => ?_⟩
 refine ⟨Z, m1, x, v, rfl, t1.si, rx, by rw [e1]; exact h3, fun m3 w e3 t3 rw => ?_⟩
 exact q m3 w (e3.trans e1) (t1.trans s t3) rw
variable {a b : Expr} {pos : Pos} {fa fb : EX}
theorem ej_op {op : Operator} {f : F2} (ho : OpR X (binaryOp op) (r2 X.K f)) (ha : EJ X a fa) (hb : EJ X b fb) : EJ X (.BinOp a op b pos) (e2 f fa fb) := pe_wk (pe_op ho ha hb) fun _ _ _ h => te_op h
theorem ej_un {op : UnaryOp} {f : F1} (ho : UnR X (unaryOp op) (r1 X.K f)) (ha : EJ X a fa) : EJ X (.UnaryOp op a pos) (e1 f fa) := pe_wk (pe_un ho ha) fun _ _ _ h => te_un h
theorem ej_cmp {op : CmpOp} {f : F2} (ho : OpR X (compareOp op) (r2 X.K f)) (ha : EJ X a fa) (hb : EJ X b fb) (hm : behindInMarks op b = false) : EJ X (.Compare a [op] [b] pos) (e2 f fa fb) := pe_wk (pe_cmpR ho ha hb hm) fun _ _ _ h => te_op h
def tOf (f : EX) : TX := fun e S => (f e S).bind fun p => match p.1 with
 | .bl b => some (b, p.2)
 | _ => none
theorem tOf_inv {f : EX} {e : En} {S S' : Sto} {b : Bool} (h : tOf f e S = some (b, S')) : f e S = some (.bl b, S') := by
 unfold tOf at h
 obtain ⟨⟨x, S1⟩, h1, h⟩ := Option.bind_eq_some_iff.mp h
 cases x with
 | bl c => cases h; exact h1
 | _ => cases h
theorem tt_test {f : EX} {σ : L2.St} {H : Hp} {Q : Bool → Hp → Prop} (h : tT K (tOf f) σ H Q) : tTest (tE K f) σ H Q := by
 obtain ⟨Z, m, env, v, S', e, s, er, hf, q⟩ := h
 exact ⟨Z, m, env, .bl v, S', e, s, er, tOf_inv hf, fun m1 vx e1 t1 rx => ⟨v, rx, q m1 e1 t1⟩⟩
theorem tj_cmp {op : CmpOp} {f : F2} (ho : OpR X (compareOp op) (r2 X.K f)) (ha : EJ X a fa) (hb : EJ X b fb) (hm : behindInMarks op b = false) : TJ X (.Compare a [op] [b] pos) (tOf (e2 f fa fb)) := by
 refine pt_wk (pt_cmpR ho ha hb hm) fun σ H Q h => ?_
 obtain ⟨Z, m, env, v, S', e, s, er, hf, q⟩ := h
 exact te_op ⟨Z, m, env, .bl v, S', e, s, er, tOf_inv hf, fun m1 vx e1 t1 rx => ⟨v, rx, q m1 e1 t1⟩⟩
theorem tj_val {e : Expr} {f : EX} (h : EJ X e f) (he : ∀ whole, isTrue e X.env whole = (do let v ← whole; standAt e.pos; holding [v] (truthy v)) := by intro _; rfl) : TJ X e (tOf f) := pt_wk (pt_val h he) fun _ _ _ h => tt_test h
def tAnd' (f g : TX) : TX := fun e S => (f e S).bind fun p => if p.1 = true then g e p.2 else some (false, p.2)
def tOr' (f g : TX) : TX := fun e S => (f e S).bind fun p => if p.1 = true then some (true, p.2) else g e p.2
def tNot' (f : TX) : TX := fun e S => (f e S).map fun p => (!p.1, p.2)
theorem tt_and {f g : TX} {σ : L2.St} {H : Hp} {Q : Bool → Hp → Prop} (h : tT K (tAnd' f g) σ H Q) : tAnd (tT K f) (tT K g) σ H Q := by
 obtain ⟨Z, m, env, v, S', e, s, er, hf, q⟩ := h
 unfold tAnd' at hf
 obtain ⟨⟨x, S1⟩, h1, h⟩ := Option.bind_eq_some_iff.mp hf
 refine ⟨Z, m, env, x, S1, e, s, er, h1, fun m1 e1 t1 => ?_⟩
 cases x with
 | true => exact ⟨Z, m1, env, v, S', rfl, t1.si, er.tr s t1, by rw [e1]; exact h, fun m2 e2 t2 => q m2 e2 (t1.trans s t2)⟩
 | false => cases h; exact q m1 e1 t1
theorem tt_or {f g : TX} {σ : L2.St} {H : Hp} {Q : Bool → Hp → Prop} (h : tT K (tOr' f g) σ H Q) : tOr (tT K f) (tT K g) σ H Q := by
 obtain ⟨Z, m, env, v, S', e, s, er, hf, q⟩ := h
 unfold tOr' at hf
 obtain ⟨⟨x, S1⟩, h1, h⟩ := Option.bind_eq_some_iff.mp hf
 refine ⟨Z, m, env, x, S1, e, s, er, h1, fun m1 e1 t1 => ?_⟩
 cases x with
 | false => exact ⟨Z, m1, env, v, S', rfl, t1.si, er.tr s t1, by rw [e1]; exact h, fun m2 e2 t2 => q m2 e2 (t1.trans s t2)⟩
 | true => cases h; exact q m1 e1 t1
abbrev WJ (X : Cx) (e : Expr) (f : TX) : Prop := PW X e (tT X.K f)
variable {rest : List Expr} {f g : TX}
theorem wj_and1 (h : TJ X a f) : WJ X (.BoolOp .And [a] pos) f := pw_and1 h
theorem wj_or1 (h : TJ X a f) : WJ X (.BoolOp .Or [a] pos) f := pw_or1 h
theorem wj_and (h : TJ X a f) (k : WJ X (.BoolOp .And (b :: rest) pos) g) : WJ X (.BoolOp .And (a :: b :: rest) pos) (tAnd' f g) := pw_wk (pw_and h k) fun _ _ _ h => tt_and h
theorem wj_or (h : TJ X a f) (k : WJ X (.BoolOp .Or (b :: rest) pos) g) : WJ X (.BoolOp .Or (a :: b :: rest) pos) (tOr' f g) := pw_wk (pw_or h k) fun _ _ _ h => tt_or h
theorem tj_not (h : TJ X a f) : TJ X (.UnaryOp .Not a pos) (tNot' f) := pt_wk (pt_not h) fun σ H Q ⟨Z, m, env, v, S', e, s, er, hf, q⟩ => by
 unfold tNot' at hf
 obtain ⟨⟨x, S1⟩, h1, h⟩ := Option.map_eq_some_iff.mp hf
 cases h
 exact ⟨Z, m, env, x, _, e, s, er, h1, q⟩
def eAnd (f g : EX) : EX := fun e S => (f e S).bind fun p => match p.1 with
 | .bl true => g e p.2
 | .bl false => some (.bl false, p.2)
 | _ => none
def eOr (f g : EX) : EX := fun e S => (f e S).bind fun p => match p.1 with
 | .bl true => some (.bl true, p.2)
 | .bl false => g e p.2
 | _ => none
def fNot : F1 := fun _ d => match d with
 | .bl b => some (.bl (!b))
 | _ => none
theorem ej_one {op} {f : EX} (h : EJ X a f) : EJ X (.BoolOp op [a] pos) f := pe_one h
theorem ej_and {f g : EX} (h : EJ X a f) (k : EJ X (.BoolOp .And (b :: rest) pos) g) : EJ X (.BoolOp .And (a :: b :: rest) pos) (eAnd f g) := pe_wk (pe_and h k) fun σ H Q ⟨Z, m, env, v, S', e, s, er, hf, q⟩ => by
 unfold eAnd at hf
 obtain ⟨⟨x, S1⟩, h1, h⟩ := Option.bind_eq_some_iff.mp hf
 refine ⟨Z, m, env, x, S1, e, s, er, h1, fun m1 vx e1 t1 rx => ?_⟩
 cases x with
 | bl c =>
  refine ⟨c, rx, ?_⟩
  cases c with
  | true => exact ⟨Z, m1, env, v, S', rfl, t1.si, er.tr s t1, by rw [e1]; exact h, fun m2 x e2 t2 => q m2 x e2 (t1.trans s t2)⟩
  | false => cases h; exact q m1 _ e1 t1 rfl
 | _ => cases h
theorem ej_or {f g : EX} (h : EJ X a f) (k : EJ X (.BoolOp .Or (b :: rest) pos) g) : EJ X (.BoolOp .Or (a :: b :: rest) pos) (eOr f g) := pe_wk (pe_or h k) fun σ H Q ⟨Z, m, env, v, S', e, s, er, hf, q⟩ => by
 unfold eOr at hf
 obtain ⟨⟨x, S1⟩, h1, h⟩ := Option.bind_eq_some_iff.mp hf
 refine ⟨Z, m, env, x, S1, e, s, er, h1, fun m1 vx e1 t1 rx => ?_⟩
 cases x with
 | bl c =>
  refine ⟨c, rx, ?_⟩
  cases c with
  | false => exact ⟨Z, m1, env, v, S', rfl, t1.si, er.tr s t1, by rw [e1]; exact h, fun m2 x e2 t2 => q m2 x e2 (t1.trans s t2)⟩
  | true => cases h; exact q m1 _ e1 t1 rfl
 | _ => cases h
theorem ej_not {f : EX} (h : EJ X a f) : EJ X (.UnaryOp .Not a pos) (e1 fNot f) := pe_wk (pe_not h) fun σ H Q ⟨Z, m, env, v, S', e, s, er, hf, q⟩ => by
 obtain ⟨x, h1, h3⟩ := e1_inv hf
 refine ⟨Z, m, env, x, S', e, s, er, h1, fun m1 vx e1 t1 rx => ?_⟩
 cases x with
 | bl c => cases h3; exact ⟨c, rx, q m1 _ e1 t1 rfl⟩
 | _ => cases h3
def eIf (t : TX) (f g : EX) : EX := fun e S => (t e S).bind fun p => if p.1 = true then f e p.2 else g e p.2
theorem ej_if {c : Expr} {t : TX} {f g : EX} (hc : TJ X c t) (h : EJ X a f) (k : EJ X b g) : EJ X (.IfExp c a b pos) (eIf t f g) := pe_wk (pe_ifExp hc h k) fun σ H Q ⟨Z, m, env, v, S', e, s, er, hf, q⟩ => by
 unfold eIf at hf
 obtain ⟨⟨x, S1⟩, h1, h⟩ := Option.bind_eq_some_iff.mp hf
 refine ⟨Z, m, env, x, S1, e, s, er, h1, fun m1 e1 t1 => ?_⟩
 cases x with
 | true => exact ⟨Z, m1, env, v, S', rfl, t1.si, er.tr s t1, by rw [e1]; exact h, fun m2 x e2 t2 => q m2 x e2 (t1.trans s t2)⟩
 | false => exact ⟨Z, m1, env, v, S', rfl, t1.si, er.tr s t1, by rw [e1]; exact h, fun m2 x e2 t2 => q m2 x e2 (t1.trans s t2)⟩
def aNil : AX := fun _ S => some ([], S)
def aCons (f : EX) (g : AX) : AX := fun e S => (f e S).bind fun p => (g e p.2).map fun q => (p.1 :: q.1, q.2)
theorem aCons_inv {f : EX} {g : AX} {e : En} {S S' : Sto} {v : List D} (h : aCons f g e S = some (v, S')) : ∃ x S1 r, f e S = some (x, S1) ∧ g e S1 = some (r, S') ∧ v = x :: r := by
 unfold aCons at h
 obtain ⟨⟨x, S1⟩, h1, h⟩ := Option.bind_eq_some_iff.mp h
 obtain ⟨⟨r, S2⟩, h2, h⟩ := Option.map_eq_some_iff.mp h
 cases h
 exact ⟨x, S1, r, h1, h2, rfl⟩
variable {es : List Expr} {ga : AX}
theorem aj_nil : AJ X [] aNil := pa_wk pa_nil fun σ H Q ⟨Z, m, env, v, S', e, s, er, hf, q⟩ => by
 subst e
 cases hf
 exact q m [] rfl (.refl s) rfl
theorem aj_cons (h : EJ X a fa) (k : AJ X es ga) (hs : starEach (a :: es) X.env = (false, eval a X.env) :: starEach es X.env := by rfl) : AJ X (a :: es) (aCons fa ga) := pa_wk (pa_cons h k hs) fun σ H Q ⟨Z, m, env, v, S', e, s, er, hf, q⟩ => by
 obtain ⟨x, S1, r, h1, h2, rfl⟩ := aCons_inv hf
 refine ⟨Z, m, env, x, S1, e, s, er, h1, fun m1 vx e1 t1 rx => ?_⟩
 refine ⟨Z, m1, env, r, S', rfl, t1.si, er.tr s t1, by rw [e1]; exact h2, fun m2 vy e2 t2 ry => ?_⟩
 exact q m2 _ e2 (t1.trans s t2) ⟨vx, vy, rfl, t2.rep t1.si rx, ry⟩
def szOk (n : Nat) : Bool := decide (n ≤ 16777216)
theorem szOk_le {n : Nat} (h : szOk n = true) : n ≤ sizeLine := by
 have := of_decide_eq_true h
 rw [sizeLine_eq]
 exact this
def eTup (g : AX) : EX := fun e S => (g e S).bind fun p => if szOk p.1.length = true then some (.tup p.1, p.2) else none
theorem ej_tup {x1} (h : AJ X es ga) : EJ X (.Tuple es x1 pos) (eTup ga) := pe_wk (pe_tup h) fun σ H Q ⟨Z, m, env, v, S', e, s, er, hf, q⟩ => by
 unfold eTup at hf
 obtain ⟨⟨x, S1⟩, h1, h⟩ := Option.bind_eq_some_iff.mp hf
 refine ⟨Z, m, env, x, S1, e, s, er, h1, fun m1 vx e1 t1 rx => ?_⟩
 split at h
 ·rename_i hz
  cases h
  refine ⟨by rw [rx.len]; exact szOk_le hz, fun p hp => ?_⟩
  exact q ⟨m1.r, m1.S, upd m1.H p (.tup vx)⟩ (.ref p) e1 (t1.trans s (Tr.laid t1.si hp)) (Rep.newTup t1.si hp rx)
 ·cases h
abbrev LX := AX
def tL (K : PySem.W.Frag) (f : LX) : TE := fun σ H Q => ∃ (Z : List Addr) (m : M) (env : En) (v : List D) (S' : Sto), m.H = H ∧ Sim ⟨K, Z⟩ m ∧ ER ⟨K, Z⟩ m env σ ∧ f env m.S = some (v, S') ∧
 ∀ m' p x, m'.S = S' → Tr ⟨K, Z⟩ m m' → RepL ⟨K, Z⟩ m' v x → m'.H p = none → Q (.ref p) (upd m'.H p (.lst x))
abbrev LJ (X : Cx) (e : Expr) (f : LX) : Prop := PE X e (tL X.K f)
def eFz (f : LX) : EX := fun e S => (f e S).map fun p => (.lst p.1, p.2)
def eBx (f : LX) : EX := fun e S => (f e S).map fun p => (.ref p.2.length, p.2 ++ [.lst p.1])
theorem tl_fz {f : LX} {σ : L2.St} {H : Hp} {Q : VK} (h : tE K (eFz f) σ H Q) : tL K f σ H Q := by
 obtain ⟨Z, m, env, v, S', e, s, er, hf, q⟩ := h
 unfold eFz at hf
 obtain ⟨⟨x, S1⟩, h1, h⟩ := Option.map_eq_some_iff.mp hf
 cases h
 exact ⟨Z, m, env, x, _, e, s, er, h1, fun m1 p vx e1 t1 rx hp => q ⟨m1.r, m1.S, upd m1.H p (.lst vx)⟩ (.ref p) e1 (t1.trans s (Tr.laid t1.si hp)) (Rep.newLst t1.si hp rx)⟩
theorem tl_bx {f : LX} {σ : L2.St} {H : Hp} {Q : VK} (h : tE K (eBx f) σ H Q) : tL K f σ H Q := by
 obtain ⟨Z, m, env, v, S', e, s, er, hf, q⟩ := h
 unfold eBx at hf
 obtain ⟨⟨x, S1⟩, h1, h⟩ := Option.map_eq_some_iff.mp hf
 cases h
 refine ⟨Z, m, env, x, S1, e, s, er, h1, fun m1 p vx e1 t1 rx hp => q (m1.box p x vx) (.ref p) (by show m1.S ++ _ = _; rw [e1]) (t1.trans s (Tr.box t1.si hp rx)) ⟨?_, ?_⟩⟩
 ·refine ⟨x, ?_⟩
  show (m1.S ++ [Ob.lst x])[S1.length]? = _
  rw [e1]
  simp
 ·show V.ref p = V.ref (if S1.length = m1.S.length then p else m1.r S1.length)
  rw [e1, if_pos rfl]
theorem ej_fz {e : Expr} {f : LX} (h : LJ X e f) : EJ X e (eFz f) := pe_wk h fun _ _ _ h => tl_fz h
theorem ej_bx {e : Expr} {f : LX} (h : LJ X e f) : EJ X e (eBx f) := pe_wk h fun _ _ _ h => tl_bx h
def lDisp (g : AX) : LX := fun e S => (g e S).bind fun p => if szOk p.1.length = true then some p else none
theorem lj_disp (h : AJ X es ga) : LJ X (.List es pos) (lDisp ga) := pe_wk (pe_lst h) fun σ H Q ⟨Z, m, env, v, S', e, s, er, hf, q⟩ => by
 unfold lDisp at hf
 obtain ⟨⟨x, S1⟩, h1, h⟩ := Option.bind_eq_some_iff.mp hf
 split at h
 ·rename_i hz
  cases h
  exact ⟨Z, m, env, _, _, e, s, er, h1, fun m1 vx e1 t1 rx => ⟨by rw [rx.len]; exact szOk_le hz, fun p hp => q m1 p vx e1 t1 rx hp⟩⟩
 ·cases h
abbrev FN := Sto → List D → Option D
def eCB (f : FN) (g : AX) : EX := fun e S => (g e S).bind fun p => (f p.2 p.1).map fun d => (d, p.2)
def rN (K : PySem.W.Frag) (f : FN) : List V → Hp → VK → Prop := fun xs H Q => ∃ (Z : List Addr) (m : M) (as : List D) (d : D), m.H = H ∧ Sim ⟨K, Z⟩ m ∧ RepL ⟨K, Z⟩ m as xs ∧ f m.S as = some d ∧
 ∀ m' v, m'.S = m.S → Tr ⟨K, Z⟩ m m' → Rep ⟨K, Z⟩ m' d v → Q v m'.H
theorem te_cb {f : FN} {g : AX} {σ : L2.St} {H : Hp} {Q : VK} (h : tE K (eCB f g) σ H Q) : tCB (rN K f) (tA K g) σ H Q := by
 obtain ⟨Z, m, env, v, S', e, s, er, hf, q⟩ := h
 unfold eCB at hf
 obtain ⟨⟨x, S1⟩, h1, h⟩ := Option.bind_eq_some_iff.mp hf
 obtain ⟨d, h3, h⟩ := Option.map_eq_some_iff.mp h
 cases h
 refine ⟨Z, m, env, x, _, e, s, er, h1, fun m1 vx e1 t1 rx => ?_⟩
 exact ⟨Z, m1, x, v, rfl, t1.si, rx, by rw [e1]; exact h3, fun m2 w e2 t2 rw => q m2 w (e2.trans e1) (t1.trans s t2) rw⟩
variable {x : Str} {p : Pos} {id T : String}
theorem ej_callB {f : FN} (hc : CallR X (.builtin id) (rN X.K f)) (hg : Gl X x) (hm : X.mg x = none) (hv : bootBuiltins x = some (.builtin id)) (ha : AJ X (a :: es) ga) (hn : x ≠ "__name__" := by decide) (hdb : (x == ("__debug__" : Str)) = false := by decide)
  (hs : starEach (a :: es) X.env = (false, eval a X.env) :: starEach es X.env := by rfl) (hpl : (backTo pos (starEach es X.env)).any (·.1) = false := by rfl) : EJ X (.Call (.Name x p) (a :: es) [] pos) (eCB f ga) :=
 pe_wk (pe_callB hc hg hm hv ha hn hdb hs hpl) fun _ _ _ h => te_cb h
theorem ej_callT {f : FN} (hc : CallR X (.type T) (rN X.K f)) (hg : Gl X x) (hm : X.mg x = none) (hv : bootBuiltins x = some (.type T)) (ha : AJ X (a :: es) ga) (hn : x ≠ "__name__" := by decide) (hdb : (x == ("__debug__" : Str)) = false := by decide)
  (hs : starEach (a :: es) X.env = (false, eval a X.env) :: starEach es X.env := by rfl) (hpl : (backTo pos (starEach es X.env)).any (·.1) = false := by rfl) : EJ X (.Call (.Name x p) (a :: es) [] pos) (eCB f ga) :=
 pe_wk (pe_callTy hc hg hm hv ha hn hdb hs hpl) fun _ _ _ h => te_cb h
abbrev FNL := Sto → List D → Option (List D)
def lCB (f : FNL) (g : AX) : LX := fun e S => (g e S).bind fun p => (f p.2 p.1).map fun d => (d, p.2)
abbrev F2L := Sto → D → D → Option (List D)
def l2 (f : F2L) (a b : EX) : LX := fun e S => (a e S).bind fun p => (b e p.2).bind fun q => (f q.2 p.1 q.1).map fun d => (d, q.2)
def r2L (K : PySem.W.Frag) (f : F2L) : R2 := fun x y H Q => ∃ (Z : List Addr) (m : M) (a b : D) (d : List D), m.H = H ∧ Sim ⟨K, Z⟩ m ∧ Rep ⟨K, Z⟩ m a x ∧ Rep ⟨K, Z⟩ m b y ∧ f m.S a b = some d ∧
 ∀ m' p v, m'.S = m.S → Tr ⟨K, Z⟩ m m' → RepL ⟨K, Z⟩ m' d v → m'.H p = none → Q (.ref p) (upd m'.H p (.lst v))
theorem lj_op {op : Operator} {f : F2L} (ho : OpR X (binaryOp op) (r2L X.K f)) (ha : EJ X a fa) (hb : EJ X b fb) : LJ X (.BinOp a op b pos) (l2 f fa fb) := pe_wk (pe_op ho ha hb) fun σ H Q ⟨Z, m, env, v, S', e, s, er, hf, q⟩ => by
 unfold l2 at hf
 obtain ⟨⟨x, S1⟩, h1, h⟩ := Option.bind_eq_some_iff.mp hf
 obtain ⟨⟨y, S2⟩, h2, h⟩ := Option.bind_eq_some_iff.mp h
 obtain ⟨d, h3, h⟩ := Option.map_eq_some_iff.mp h
 cases h
 refine ⟨Z, m, env, x, S1, e, s, er, h1, fun m1 vx e1 t1 rx => ?_⟩
 refine ⟨Z, m1, env, y, _, rfl, t1.si, er.tr s t1, by rw [e1]; exact h2, fun m2 vy e2 t2 ry => ?_⟩
 refine ⟨Z, m2, x, y, v, rfl, t2.si, t2.rep t1.si rx, ry, by rw [e2]; exact h3, fun m3 p w e3 t3 rw hp => ?_⟩
 exact q m3 p w (e3.trans e2) ((t1.trans s t2).trans s t3) rw hp
theorem ej_ix {f : F2} (hr : IxR X (r2 X.K f)) (ha : EJ X a fa) (hb : EJ X b fb) (hs : PlainIx b) : EJ X (.Subscript a b pos) (e2 f fa fb) := pe_wk (pe_ix hr ha hb hs) fun _ _ _ h => te_op h
abbrev OX := En → Sto → Option (Option Int × Sto)
def tO (K : PySem.W.Frag) (f : OX) : TO := fun σ H Q => ∃ (Z : List Addr) (m : M) (env : En) (v : Option Int) (S' : Sto), m.H = H ∧ Sim ⟨K, Z⟩ m ∧ ER ⟨K, Z⟩ m env σ ∧ f env m.S = some (v, S') ∧
 ∀ m', m'.S = S' → Tr ⟨K, Z⟩ m m' → Q v m'.H
abbrev OJ (X : Cx) (e : Option Expr) (f : OX) : Prop := PO X e (tO X.K f)
theorem po_wk {e : Option Expr} {t t' : TO} (h : PO X e t) (k : ∀ σ H Q, t' σ H Q → t σ H Q) : PO X e t' := ⟨fun pins s σ H Q I w => h.run pins s σ H Q I (k σ H Q w)⟩
def oNo : OX := fun _ S => some (none, S)
def oSome (f : EX) : OX := fun e S => (f e S).bind fun p => match p.1 with
 | .int i => some (some i, p.2)
 | _ => none
theorem oj_no : OJ X none oNo := po_wk po_none fun σ H Q ⟨Z, m, env, v, S', e, s, er, hf, q⟩ => by
 subst e
 cases hf
 exact q m rfl (.refl s)
theorem oj_some (h : EJ X a fa) : OJ X (some a) (oSome fa) := po_wk (po_some h) fun σ H Q ⟨Z, m, env, v, S', e, s, er, hf, q⟩ => by
 unfold oSome at hf
 obtain ⟨⟨x, S1⟩, h1, h⟩ := Option.bind_eq_some_iff.mp hf
 refine ⟨Z, m, env, x, S1, e, s, er, h1, fun m1 vx e1 t1 rx => ?_⟩
 cases x with
 | int i => cases h; exact ⟨i, rx, q m1 e1 t1⟩
 | _ => cases h
abbrev FS := Sto → D → Option Int → Option Int → Option D
abbrev FSL := Sto → D → Option Int → Option Int → Option (List D)
def eSl (f : FS) (a : EX) (lo hi : OX) : EX := fun e S => (a e S).bind fun p => (lo e p.2).bind fun q => (hi e q.2).bind fun r => (f r.2 p.1 q.1 r.1).map fun d => (d, r.2)
def lSl (f : FSL) (a : EX) (lo hi : OX) : LX := fun e S => (a e S).bind fun p => (lo e p.2).bind fun q => (hi e q.2).bind fun r => (f r.2 p.1 q.1 r.1).map fun d => (d, r.2)
def rS (K : PySem.W.Frag) (f : FS) : V → Option Int → Option Int → Hp → VK → Prop := fun x lo hi H Q => ∃ (Z : List Addr) (m : M) (a d : D), m.H = H ∧ Sim ⟨K, Z⟩ m ∧ Rep ⟨K, Z⟩ m a x ∧ f m.S a lo hi = some d ∧
 ∀ m' v, m'.S = m.S → Tr ⟨K, Z⟩ m m' → Rep ⟨K, Z⟩ m' d v → Q v m'.H
variable {lo hi : Option Expr} {fl fh : OX} {p2 : Pos}
theorem ej_slice {f : FS} (hr : SlR X (rS X.K f)) (he : EJ X a fa) (hl : OJ X lo fl) (hu : OJ X hi fh) : EJ X (.Subscript a (.Slice lo hi none p2) pos) (eSl f fa fl fh) := pe_wk (pe_slice hr he hl hu) fun σ H Q ⟨Z, m, env, v, S', e, s, er, hf, q⟩ => by
 unfold eSl at hf
 obtain ⟨⟨x, S1⟩, h1, h⟩ := Option.bind_eq_some_iff.mp hf
 obtain ⟨⟨y, S2⟩, h2, h⟩ := Option.bind_eq_some_iff.mp h
 obtain ⟨⟨z, S3⟩, h3, h⟩ := Option.bind_eq_some_iff.mp h
 obtain ⟨d, h4, h⟩ := Option.map_eq_some_iff.mp h
 cases h
 refine ⟨Z, m, env, x, S1, e, s, er, h1, fun m1 vx e1 t1 rx => ?_⟩
 refine ⟨Z, m1, env, y, S2, rfl, t1.si, er.tr s t1, by rw [e1]; exact h2, fun m2 e2 t2 => ?_⟩
 refine ⟨Z, m2, env, z, _, rfl, t2.si, er.tr s (t1.trans s t2), by rw [e2]; exact h3, fun m3 e3 t3 => ?_⟩
 refine ⟨Z, m3, x, v, rfl, t3.si, t3.rep t2.si (t2.rep t1.si rx), by rw [e3]; exact h4, fun m4 w e4 t4 rw => ?_⟩
 exact q m4 w (e4.trans e3) (((t1.trans s t2).trans s t3).trans s t4) rw
end
section
variable {X : Cx} {K : PySem.W.Frag} {a b : Expr} {pos : Pos} {fa fb : EX} {c : C} {m m' : M} {env : En} {σ σ' : L2.St}
def gN (i : Nat) : GX := fun d e S => some (e.set i (some d), S)
theorem gj_name {i : Nat} {x : Str} (hN : X.N.Nodup) (hi : X.N[i]? = some x) (hx : Loc X.env.scope x) (hf : X.fn x = true ∨ X.env.scope.names.lookup x = some .local := by first | exact .inl rfl | exact .inr rfl | assumption) : GJ X (.Name x pos) [i] (gN i) :=
 pg_wk (pg_name hN hi hx hf) fun v σ H Q ⟨Z, m, env, d, env', S', e, s, er, r, hg, q⟩ => by
  subst e
  cases hg
  refine q m _ rfl (.refl s) (er.set r i) ⟨by rw [List.length_set], fun j hj => ?_⟩
  rw [List.getElem?_set_ne (fun z => hj (by simp [z]))]
abbrev GXs := List D → En → Sto → Option (En × Sto)
def tGs (K : PySem.W.Frag) (vs : List Nat) (g : GXs) : TGs := fun xs σ H Q => ∃ (Z : List Addr) (m : M) (env : En) (ds : List D) (env' : En) (S' : Sto), m.H = H ∧ Sim ⟨K, Z⟩ m ∧ ER ⟨K, Z⟩ m env σ ∧ RepL ⟨K, Z⟩ m ds xs ∧ g ds env m.S = some (env', S') ∧
 ∀ m' σ', m'.S = S' → Tr ⟨K, Z⟩ m m' → ER ⟨K, Z⟩ m' env' σ' → (σ'.length = σ.length ∧ ∀ i, i ∉ vs → σ'[i]? = σ[i]?) → Q σ' m'.H
abbrev GsJ (X : Cx) (e : List Expr) (vs : List Nat) (f : GXs) : Prop := PGs X e (tGs X.K vs f)
theorem pgs_wk {e : List Expr} {t t' : TGs} (h : PGs X e t) (k : ∀ v σ H Q, t' v σ H Q → t v σ H Q) : PGs X e t' := ⟨fun pins s σ H v u Q I r w => h.run pins s σ H v u Q I r (k v σ H Q w)⟩
def gsNil : GXs := fun ds e S => match ds with
 | [] => some (e, S)
 | _ => none
def gsCons (g : GX) (gs : GXs) : GXs := fun ds e S => match ds with
 | d :: r => (g d e S).bind fun p => gs r p.1 p.2
 | [] => none
theorem gsj_nil : GsJ X [] [] gsNil := pgs_wk pgs_nil fun v σ H Q ⟨Z, m, env, ds, env', S', e, s, er, r, hg, q⟩ => by
 subst e
 cases ds with
 | nil => cases hg; exact ⟨r, q m σ rfl (.refl s) er ⟨rfl, fun _ _ => rfl⟩⟩
 | cons d ds => cases hg
theorem gsj_cons {es : List Expr} {vs ws : List Nat} {g : GX} {gs : GXs} (h : GJ X a vs g) (k : GsJ X es ws gs)
  (hs : (assignEach (a :: es) X.env).map (·.2) = assign a X.env :: (assignEach es X.env).map (·.2) := by rfl) : GsJ X (a :: es) (vs ++ ws) (gsCons g gs) :=
 pgs_wk (pgs_cons h k hs) fun v σ H Q ⟨Z, m, env, ds, env', S', e, s, er, r, hg, q⟩ => by
  cases ds with
  | nil => cases hg
  | cons d ds =>
   obtain ⟨⟨e1, S1⟩, h1, h2⟩ := Option.bind_eq_some_iff.mp (show (g d env m.S).bind (fun p => gs ds p.1 p.2) = some (env', S') from hg)
   obtain ⟨x, xr, rfl, rx, rr⟩ := r
   refine ⟨x, xr, rfl, Z, m, env, d, e1, S1, e, s, er, rx, h1, fun m1 σ1 q1 t1 er1 ag1 => ?_⟩
   refine ⟨Z, m1, e1, ds, env', S', rfl, t1.si, er1, t1.repL s rr, by rw [q1]; exact h2, fun m2 σ2 q2 t2 er2 ag2 => ?_⟩
   refine q m2 σ2 q2 (t1.trans s t2) er2 ⟨ag2.1.trans ag1.1, fun i hi => ?_⟩
   rw [ag2.2 i (fun z => hi (List.mem_append_right _ z)), ag1.2 i (fun z => hi (List.mem_append_left _ z))]
def gT (n : Nat) (gs : GXs) : GX := fun d e S => match d with
 | .tup ds => if ds.length = n then gs ds e S else none
 | _ => none
theorem gj_tup {es : List Expr} {k n : Nat} {vs : List Nat} {gs : GXs} (hc : X.calm = true) (h : GsJ X es vs gs) (hn : (assignEach es X.env).length = n := by rfl) (hst : (assignEach es X.env).findIdx? (·.1) = none := by rfl) : GJ X (.Tuple es k pos) vs (gT n gs) :=
 pg_wk (pg_tup hc h hn hst) fun v σ H Q ⟨Z, m, env, d, env', S', e, s, er, r, hg, q⟩ => by
  cases d with
  | tup ds =>
   obtain ⟨p, xs, rfl, h1, h2⟩ := r
   unfold gT at hg
   simp only at hg
   split at hg
   ·rename_i hl
    subst e
    exact ⟨p, xs, rfl, h1, by rw [h2.len]; exact hl, Z, m, env, ds, env', S', rfl, s, er, h2, hg, q⟩
   ·cases hg
  | _ => cases hg
def boxAt (S : Sto) (n : Nat) : Option (List D) := match S[n]? with
 | some (.lst ds) => some ds
 | _ => none
theorem boxAt_inv {S : Sto} {n : Nat} {ds : List D} (h : boxAt S n = some ds) : S[n]? = some (.lst ds) := by
 unfold boxAt at h
 split at h
 ·rename_i ds' e
  cases h
  exact e
 ·cases h
theorem Sim.at (s : Sim c m) {n : Nat} {ds : List D} (h : boxAt m.S n = some ds) : n < m.S.length ∧ ∃ xs, m.H (m.r n) = some (.lst xs) ∧ RepL c m ds xs := by
 have e := boxAt_inv h
 refine ⟨?_, s.obj n _ e⟩
 rcases Nat.lt_or_ge n m.S.length with z | z
 ·exact z
 ·rw [List.getElem?_eq_none z] at e; cases e
def gS (fo fi : EX) : GX := fun d e S => (fo e S).bind fun p => (fi e p.2).bind fun q => match p.1, q.1 with
 | .ref n, .int k => (boxAt q.2 n).bind fun ds => (ixN ds.length k).map fun j => (e, q.2.set n (.lst (ds.set j d)))
 | _, _ => none
theorem gj_sub (ho : EJ X a fa) (hi : EJ X b fb)
  (ha : ∀ v, assign (.Subscript a b pos) X.env v = (do
   let ov ← holding [v] (eval a X.env)
   let iv ← holding [v, ov] (eval b X.env)
   standAt pos
   holding [v, ov, iv] (setItem ov iv v)
   release [v, ov, iv] []) := by intro _; rfl) : GJ X (.Subscript a b pos) [] (gS fa fb) :=
 pg_wk (pg_sub ho hi set_list ha) fun v σ H Q ⟨Z, m, env, d, env', S', e, s, er, r, hg, q⟩ => by
  unfold gS at hg
  obtain ⟨⟨x, S1⟩, h1, h⟩ := Option.bind_eq_some_iff.mp hg
  obtain ⟨⟨y, S2⟩, h2, h⟩ := Option.bind_eq_some_iff.mp h
  refine ⟨Z, m, env, x, S1, e, s, er, h1, fun m1 vx e1 t1 rx => ?_⟩
  refine ⟨Z, m1, env, y, S2, rfl, t1.si, er.tr s t1, by rw [e1]; exact h2, fun m2 vy e2 t2 ry => ?_⟩
  cases x with
  | ref n =>
   cases y with
   | int k =>
    obtain ⟨ds, h3, h⟩ := Option.bind_eq_some_iff.mp h
    obtain ⟨j, h4, h⟩ := Option.map_eq_some_iff.mp h
    simp only [Prod.mk.injEq] at h
    obtain ⟨rfl, hS⟩ := h
    have t12 := t1.trans s t2
    obtain ⟨hl, xs, hH, rl⟩ := t2.si.at (by rw [e2]; exact h3)
    have rx2 := t2.rep t1.si rx
    refine ⟨m2.r n, xs, k, j, rx2.2, ry, hH, by rw [rl.len]; exact h4, ?_⟩
    have rl' : RepL ⟨X.K, Z⟩ m2 (ds.set j d) (xs.set j v) := RepL.set (t12.rep s r) j rl
    have t3 := Tr.put t2.si hl rx2.1 rl'
    exact q (m2.put n (ds.set j d) (xs.set j v)) σ (by show m2.S.set n _ = S'; rw [← hS, e2]) (t12.trans s t3) (er.tr s (t12.trans s t3)) ⟨rfl, fun _ _ => rfl⟩
   | _ => cases h
  | _ => cases h
def sSeq (f g : SX) : SX := fun e S => (f e S).bind fun o => match o with
 | .nx e' S' => g e' S'
 | .rt d S' => some (.rt d S')
 | .bk e' S' => some (.bk e' S')
 | .ct e' S' => some (.ct e' S')
def sNil : SX := fun e S => some (.nx e S)
theorem Post.tr {D : Ends} {o : Out} (s : Sim c m) (t : Tr c m m') (h : Post c m D o) : Post c m' D o := by
 cases o with
 | nx e S => exact fun m2 σ2 q2 t2 er => h m2 σ2 q2 (t.trans s t2) er
 | bk e S => exact fun m2 σ2 q2 t2 er => h m2 σ2 q2 (t.trans s t2) er
 | ct e S => exact fun m2 σ2 q2 t2 er => h m2 σ2 q2 (t.trans s t2) er
 | rt d S => exact fun m2 σ2 q2 t2 er => h m2 σ2 q2 (t.trans s t2) er
variable {st : Stmt} {rest : List Stmt} {f g : SX}
theorem bj_nil : BJ X [] sNil := pss_wk pss_nil fun D σ H ⟨Z, m, env, o, e, s, er, hf, q⟩ => by
 subst e
 cases hf
 exact q m σ rfl (.refl s) er
theorem bj_cons (h : SJ X st f) (k : BJ X rest g) : BJ X (st :: rest) (sSeq f g) := pss_wk (pss_cons h k) fun D σ H ⟨Z, m, env, o, e, s, er, hf, q⟩ => by
 unfold sSeq at hf
 obtain ⟨o1, h1, h2⟩ := Option.bind_eq_some_iff.mp hf
 refine ⟨Z, m, env, o1, e, s, er, h1, ?_⟩
 cases o1 with
 | nx e' S' => exact fun m1 σ1 q1 t1 er1 => ⟨Z, m1, e', o, rfl, t1.si, er1, by rw [q1]; exact h2, q.tr s t1⟩
 | rt d S' => cases h2; exact q
 | bk d S' => cases h2; exact q
 | ct d S' => cases h2; exact q
theorem bj_one (h : SJ X st f) : BJ X [st] f := pss_one h
def sBreak : SX := fun e S => some (.bk e S)
def sExpr (f : EX) : SX := fun e S => (f e S).map fun p => .nx e p.2
theorem sj_expr (h : EJ X a fa) (hs : swapsWith a none pos.line X.env = pure false := by rfl) : SJ X (.Expr a pos) (sExpr fa) := ps_wk (ps_expr h hs) fun D σ H ⟨Z, m, env, o, e, s, er, hf, q⟩ => by
 obtain ⟨⟨x, S1⟩, h1, h2⟩ := Option.map_eq_some_iff.mp hf
 cases h2
 exact ⟨Z, m, env, x, S1, e, s, er, h1, fun m1 vx e1 t1 rx => q m1 σ e1 t1 (er.tr s t1)⟩
def sRet (f : EX) : SX := fun e S => (f e S).map fun p => .rt p.1 p.2
theorem sj_ret (h : EJ X a fa) : SJ X (.Return (some a) pos) (sRet fa) := ps_wk (ps_ret h) fun D σ H ⟨Z, m, env, o, e, s, er, hf, q⟩ => by
 obtain ⟨⟨x, S1⟩, h1, h2⟩ := Option.map_eq_some_iff.mp hf
 cases h2
 exact ⟨Z, m, env, x, S1, e, s, er, h1, q⟩
def sIf (t : TX) (f g : SX) : SX := fun e S => (t e S).bind fun p => if p.1 = true then f e p.2 else g e p.2
theorem sj_if {t : TX} {l r : List Stmt} (hc : TJ X a t) (h : BJ X l f) (k : BJ X r g) : SJ X (.If a l r pos) (sIf t f g) := ps_wk (ps_if hc h k) fun D σ H ⟨Z, m, env, o, e, s, er, hf, q⟩ => by
 unfold sIf at hf
 obtain ⟨⟨x, S1⟩, h1, h⟩ := Option.bind_eq_some_iff.mp hf
 refine ⟨Z, m, env, x, S1, e, s, er, h1, fun m1 e1 t1 => ?_⟩
 cases x with
 | true => exact ⟨Z, m1, env, o, rfl, t1.si, er.tr s t1, by rw [e1]; exact h, q.tr s t1⟩
 | false => exact ⟨Z, m1, env, o, rfl, t1.si, er.tr s t1, by rw [e1]; exact h, q.tr s t1⟩
def sAsg (f : EX) (g : GX) : SX := fun e S => (f e S).bind fun p => (g p.1 e p.2).map fun q => .nx q.1 q.2
theorem ts_asg {f : EX} {g : GX} {vs : List Nat} {D : Ends} {σ : L2.St} {H : Hp} (h : tS K (sAsg f g) D σ H) : tAsg (tE K f) (tG K vs g) D σ H := by
 obtain ⟨Z, m, env, o, e, s, er, hf, q⟩ := h
 unfold sAsg at hf
 obtain ⟨⟨x, S1⟩, h1, h⟩ := Option.bind_eq_some_iff.mp hf
 obtain ⟨⟨e2, S2⟩, h2, h3⟩ := Option.map_eq_some_iff.mp h
 cases h3
 refine ⟨Z, m, env, x, S1, e, s, er, h1, fun m1 vx e1 t1 rx => ?_⟩
 exact ⟨Z, m1, env, x, e2, S2, rfl, t1.si, er.tr s t1, rx, by rw [e1]; exact h2, fun m2 σ2 q2 t2 er2 _ => q m2 σ2 q2 (t1.trans s t2) er2⟩
theorem sj_asg {vs : List Nat} {g : GX} (he : EJ X b fb) (hg : GJ X a vs g) (hs : swapsWithSole [a] b pos.line X.env = pure false := by rfl) (hw : swappedStores [a] b X.env = pure none := by rfl)
  (h1 : (assignEach [a] X.env).map (·.2) = [assign a X.env] := by rfl) : SJ X (.Assign [a] b pos) (sAsg fb g) := ps_wk (ps_asg he hg hs hw h1) fun _ _ _ h => ts_asg h
theorem sj_set {i : Nat} {x : Str} {pos' : Pos} (hN : X.N.Nodup) (hi : X.N[i]? = some x) (hx : Loc X.env.scope x) (he : EJ X b fb) (hs : swapsWith b (some (.Name x pos')) pos.line X.env = pure false := by rfl) (hf : X.fn x = true ∨ X.env.scope.names.lookup x = some .local := by first | exact .inl rfl | exact .inr rfl | assumption) :
  SJ X (.Assign [.Name x pos'] b pos) (sAsg fb (gN i)) := ps_wk (ps_set hN hi hx he hs hf) fun D σ H ⟨Z, m, env, o, e, s, er, hf, q⟩ => by
 unfold sAsg at hf
 obtain ⟨⟨y, S1⟩, h1, h⟩ := Option.bind_eq_some_iff.mp hf
 cases h
 exact ⟨Z, m, env, y, S1, e, s, er, h1, fun m1 vx e1 t1 rx => q m1 _ e1 t1 ((er.tr s t1).set rx i)⟩
def sPar (i j : Nat) (g : AX) : SX := fun e S => (g e S).bind fun p => match p.1 with
 | [u, v] => some (.nx ((e.set i (some u)).set j (some v)) p.2)
 | _ => none
def sPar3 (i j l : Nat) (g : AX) : SX := fun e S => (g e S).bind fun p => match p.1 with
 | [u, v, w] => some (.nx (((e.set i (some u)).set j (some v)).set l (some w)) p.2)
 | _ => none
theorem sj_par {i j : Nat} {x y : Str} {ga : AX} {px py pt : Pos} {kt k2 pt2} (hc : X.calm = true) (hN : X.N.Nodup) (hi : X.N[i]? = some x) (hj : X.N[j]? = some y) (hij : i ≠ j)
  (hx : X.env.scope.names.lookup x = some .local) (hy : X.env.scope.names.lookup y = some .local) (ha : AJ X [a, b] ga)
  (hw : swappedStores [.Tuple [.Name x px, .Name y py] kt pt] (.Tuple [a, b] k2 pt2) X.env = pure (some [x, y]))
  (hs : swapsWithSole [.Tuple [.Name x px, .Name y py] kt pt] (.Tuple [a, b] k2 pt2) pos.line X.env = pure false := by rfl) :
  SJ X (.Assign [.Tuple [.Name x px, .Name y py] kt pt] (.Tuple [a, b] k2 pt2) pos) (sPar i j ga) := ps_wk (ps_par hc hN hi hj hij hx hy ha hw hs) fun D σ H ⟨Z, m, env, o, e, s, er, hf, q⟩ => by
 unfold sPar at hf
 obtain ⟨⟨y, S1⟩, h1, h⟩ := Option.bind_eq_some_iff.mp hf
 refine ⟨Z, m, env, y, S1, e, s, er, h1, fun m1 vx e1 t1 rx => ?_⟩
 match y, h, rx with
 | [u, v], h, rx =>
  obtain ⟨x1, r1, rfl, a1, a2⟩ := rx
  obtain ⟨x2, r2, rfl, b1, b2⟩ := a2
  cases b2
  cases h
  exact ⟨x1, x2, rfl, q m1 _ e1 t1 (((er.tr s t1).set a1 i).set b1 j)⟩
def sAug (i : Nat) (f : F2) (g : EX) : SX := fun e S => match e[i]? with
 | some (some x) => (g e S).bind fun p => (f p.2 x p.1).map fun d => .nx (e.set i (some d)) p.2
 | _ => none
def whileN (t : TX) (b : SX) : Nat → SX
 | 0 => fun _ _ => none
 | n + 1 => fun e S => (t e S).bind fun p => if p.1 = true then (b e p.2).bind fun o => match o with
   | .nx e' S' => whileN t b n e' S'
   | .ct e' S' => whileN t b n e' S'
   | .bk e' S' => some (.nx e' S')
   | .rt d S' => some (.rt d S') else some (.nx e p.2)
def whileP (t : TX) (b : SX) (e : En) (S : Sto) (o : Out) : Prop := ∃ n, whileN t b n e S = some o
open Classical in
noncomputable def sWhile (t : TX) (b : SX) : SX := fun e S => if h : ∃ o, whileP t b e S o then some (choose h) else none
theorem whileN_le {t : TX} {b : SX} : ∀ {n k : Nat} {e : En} {S : Sto} {o : Out}, whileN t b n e S = some o → n ≤ k → whileN t b k e S = some o
 | 0, _, _, _, _, h, _ => nomatch h
 | n + 1, 0, _, _, _, _, hk => absurd hk (by omega)
 | n + 1, k + 1, e, S, o, h, hk => by
  obtain ⟨⟨c, S1⟩, h1, h2⟩ := Option.bind_eq_some_iff.mp (show ((t e S).bind _) = some o from h)
  show ((t e S).bind _) = some o
  rw [h1]
  show (if c = true then _ else _) = _
  have h2 : (if c = true then _ else _) = some o := h2
  cases c with
  | false => exact h2
  | true =>
   rw [if_pos rfl] at h2 ⊢
   obtain ⟨o1, h3, h4⟩ := Option.bind_eq_some_iff.mp h2
   rw [h3]
   cases o1 with
   | nx e' S' => exact whileN_le (n := n) (k := k) h4 (by omega)
   | ct e' S' => exact whileN_le (n := n) (k := k) h4 (by omega)
   | bk e' S' => exact h4
   | rt d S' => exact h4
theorem sWhile_of {t : TX} {b : SX} {e : En} {S : Sto} {o : Out} {n : Nat} (h : whileN t b n e S = some o) : sWhile t b e S = some o := by
 have hx : ∃ o, whileP t b e S o := ⟨o, n, h⟩
 unfold sWhile
 rw [dif_pos hx]
 obtain ⟨k, hk⟩ := Classical.choose_spec hx
 have h1 := whileN_le h (Nat.le_max_left n k)
 have h2 := whileN_le hk (Nat.le_max_right n k)
 rw [h1] at h2
 exact h2.symm
open Classical in
noncomputable def forL (g : GX) (b : SX) (gs : List Nat) (S0 : Sto) : List D → SX
 | [] => fun e S => some (.nx e S)
 | d :: ds => fun e S => (g d e S).bind fun p => (b p.1 p.2).bind fun o => match o with
   | .nx e' S' => if (∀ n, n ∈ gs → S'[n]? = S0[n]?) then forL g b gs S0 ds e' S' else none
   | .ct e' S' => if (∀ n, n ∈ gs → S'[n]? = S0[n]?) then forL g b gs S0 ds e' S' else none
   | .bk e' S' => some (.nx e' S')
   | .rt d S' => some (.rt d S')
noncomputable def sFor (it : IX) (g : GX) (b : SX) : SX := fun e S => (it e S).bind fun p => forL g b p.2.1 p.2.2 p.1 e p.2.2
theorem drop_cons {α : Type} {l : List α} {i : Nat} {d : α} {r : List α} (h : l.drop i = d :: r) : l[i]? = some d ∧ l.drop (i + 1) = r := by
 constructor
 ·have := congrArg (·[0]?) h
  simpa using this
 ·rw [← List.drop_drop, h]; rfl
theorem sj_for {tg iter : Expr} {it : IX} {vs : List Nat} {g : GX} {body : List Stmt} (hp : PassesOwn (model X.prog X.w) X.A X.env X.xe) (hc : X.calm = true) (hi : IJ X tg iter it) (hg : GJ X tg vs g) (hb : BJ X body f)
  (hs : ∀ x, foldedSetIterable iter X.env x = pure x := by intro _; rfl) : SJ X (.For tg iter body [] pos) (sFor it g f) := ps_wk (ps_for hp hc hi hg hb hs) fun D σ H ⟨Z, m, env, o, e, s, er, hf, q⟩ => by
 unfold sFor at hf
 obtain ⟨⟨ds, gs, S0⟩, h1, h2⟩ := Option.bind_eq_some_iff.mp hf
 refine ⟨Z, m, env, ds, gs, S0, e, s, er, h1, fun m0 J q0 t0 ok => ?_⟩
 subst q0
 refine ⟨fun i k σ' H' => ∃ m' env', m'.H = H' ∧ Tr ⟨X.K, Z⟩ m0 m' ∧ ER ⟨X.K, Z⟩ m' env' σ' ∧ (∀ n, n ∈ gs → m'.S[n]? = m0.S[n]?) ∧ k = ds.length - i ∧ forL g f gs m0.S (ds.drop i) env' m'.S = some o,
  ⟨ds.length, m0, env, rfl, .refl t0.si, er.tr s t0, fun _ _ => rfl, rfl, h2⟩, ?_⟩
 rintro i k σ' H' ⟨m', env', rfl, t', er', gd, rfl, hk⟩
 cases hd : ds.drop i with
 | nil =>
  rw [hd] at hk
  cases hk
  have hl : ds.length ≤ i := List.drop_eq_nil_iff.mp hd
  exact .inl ⟨(ok.go Z m' (fun _ h => h) (fun _ h => .inl h) t'.ex t'.si gd i).1 hl, q m' σ' rfl (t0.trans s t') er'⟩
 | cons d r =>
  rw [hd] at hk
  obtain ⟨hd1, hd2⟩ := drop_cons hd
  have hil : i < ds.length := by
   rcases Nat.lt_or_ge i ds.length with z | z
   ·exact z
   ·rw [List.getElem?_eq_none z] at hd1; cases hd1
  obtain ⟨go, yl⟩ := (ok.go Z m' (fun _ h => h) (fun _ h => .inl h) t'.ex t'.si gd i).2 d hd1
  refine .inr ⟨go, fun σ2 H2 => ∃ m2 env2, m2.H = H2 ∧ Tr ⟨X.K, Z⟩ m0 m2 ∧ ER ⟨X.K, Z⟩ m2 env2 σ2 ∧ (∀ n, n ∈ gs → m2.S[n]? = m0.S[n]?) ∧ forL g f gs m0.S r env2 m2.S = some o, fun σ2 H2 ⟨m2, env2, a1, a2, a3, a4, a5⟩ => ⟨ds.length - (i + 1), by omega, m2, env2, a1, a2, a3, a4, rfl, by rw [hd2]; exact a5⟩, ?_⟩
  intro x H3 hy
  obtain ⟨m3, rfl, e3, t3, r3⟩ := yl x H3 hy
  obtain ⟨⟨e4, S4⟩, h4, h5⟩ := Option.bind_eq_some_iff.mp (show ((g d env' m'.S).bind _) = some o from hk)
  obtain ⟨o1, h6, h7⟩ := Option.bind_eq_some_iff.mp h5
  have t03 := t'.trans t0.si t3
  refine ⟨Z, m3, env', d, e4, S4, rfl, t3.si, er'.tr t'.si t3, r3, by rw [e3]; exact h4, fun m4 σ4 q4 t4 er4 _ => ?_⟩
  refine ⟨Z, m4, e4, o1, rfl, t4.si, er4, by rw [q4]; exact h6, ?_⟩
  have t04 := t03.trans t0.si t4
  cases o1 with
  | nx e5 S5 =>
   simp only at h7
   split at h7
   ·rename_i hgs
    exact fun m5 σ5 q5 t5 er5 => ⟨m5, e5, rfl, t04.trans t0.si t5, er5, fun n hn => by rw [q5]; exact hgs n hn, by rw [q5]; exact h7⟩
   ·cases h7
  | ct e5 S5 =>
   simp only at h7
   split at h7
   ·rename_i hgs
    exact fun m5 σ5 q5 t5 er5 => ⟨m5, e5, rfl, t04.trans t0.si t5, er5, fun n hn => by rw [q5]; exact hgs n hn, by rw [q5]; exact h7⟩
   ·cases h7
  | bk e5 S5 => cases h7; exact fun m5 σ5 q5 t5 er5 => q m5 σ5 q5 (t0.trans s (t04.trans t0.si t5)) er5
  | rt d5 S5 => cases h7; exact fun m5 σ5 q5 t5 er5 => q m5 σ5 q5 (t0.trans s (t04.trans t0.si t5)) er5
end
section
variable {X : Cx} {K : PySem.W.Frag} {a b : Expr} {pos : Pos} {fa fb : EX} {c : C} {m m' : M} {env : En} {σ σ' : L2.St}
def wipeE (e : En) : List Nat → En
 | [] => e
 | v :: vs => (wipeE e vs).set v none
theorem ER.setN (h : ER c m env σ) (i : Nat) : ER c m (env.set i none) (σ.set i none) := by
 refine ⟨by rw [List.length_set, List.length_set]; exact h.1, fun j e q => ?_⟩
 by_cases hj : i = j
 ·subst hj
  by_cases hl : i < env.length
  ·rw [List.getElem?_set_self hl] at q; cases q
  ·rw [List.getElem?_eq_none (by rw [List.length_set]; omega)] at q; cases q
 ·rw [List.getElem?_set_ne hj] at q
  obtain ⟨y, h1, h2⟩ := h.2 j e q
  exact ⟨y, by rw [List.getElem?_set_ne hj]; exact h1, h2⟩
theorem ER.wipe (h : ER c m env σ) : ∀ vs : List Nat, ER c m (wipeE env vs) (wipe σ vs)
 | [] => h
 | v :: vs => (ER.wipe h vs).setN v
theorem wipe_in {σ : L2.St} : ∀ {vs : List Nat} {i : Nat}, i ∈ vs → (wipe σ vs)[i]? = if i < σ.length then some none else none
 | v :: vs, i, h => by
  show ((wipe σ vs).set v none)[i]? = _
  by_cases e : v = i
  ·subst e
   by_cases hl : v < σ.length
   ·rw [List.getElem?_set_self (by rw [wipe_length]; exact hl), if_pos hl]
   ·rw [List.getElem?_eq_none (by rw [List.length_set, wipe_length]; omega), if_neg hl]
  ·rw [List.getElem?_set_ne e]
   rcases List.mem_cons.mp h with q | q
   ·exact absurd q.symm e
   ·exact wipe_in q
theorem wipe_same {σ σ2 : L2.St} {vs ws : List Nat} (hl : σ2.length = (wipe σ vs).length) (ag : ∀ i, i ∉ ws → σ2[i]? = (wipe σ vs)[i]?) (sub : ∀ i, i ∈ ws → i ∈ vs) : wipe σ2 vs = wipe σ vs := by
 apply List.ext_getElem?
 intro i
 have hl2 : σ2.length = σ.length := by rw [hl, wipe_length]
 by_cases hi : i ∈ vs
 ·rw [wipe_in hi, wipe_in hi, hl2]
 ·rw [wipe_out hi, ag i (fun z => hi (sub i z))]
theorem ER.widen {Z Z' : List Addr} (h : ER ⟨K, Z⟩ m env σ) (hz : ∀ z, z ∈ Z' → z ∈ Z ∨ m.H z = none) : ER ⟨K, Z'⟩ m env σ := ⟨h.1, fun i d e => by
 obtain ⟨x, h1, h2⟩ := h.2 i d e
 exact ⟨x, h1, Rep.widen hz d x h2⟩⟩
theorem ER.ex (h : ER c m env σ) (b : BoxOk m) (x : Ex m m') : ER c m' env σ := ⟨h.1, fun i d e => by
 obtain ⟨y, h1, h2⟩ := h.2 i d e
 exact ⟨y, h1, Rep.mono b x d y h2⟩⟩
open Classical in
noncomputable def lcL (g : GX) (tt : TX) (te : EX) (gs : List Nat) (S0 : Sto) (e0 : En) : List D → Sto → Option (List D × Sto)
 | [], S => some ([], S)
 | d :: ds, S => (g d e0 S).bind fun p => (tt p.1 p.2).bind fun q => if q.1 = true then (te p.1 q.2).bind fun r => if (∀ n, n ∈ gs → r.2[n]? = S0[n]?) then (lcL g tt te gs S0 e0 ds r.2).map fun z => (r.1 :: z.1, z.2) else none
     else if (∀ n, n ∈ gs → q.2[n]? = S0[n]?) then lcL g tt te gs S0 e0 ds q.2 else none
noncomputable def lLc (it : IX) (g : GX) (tt : TX) (te : EX) (vs : List Nat) : LX := fun e S => (it e S).bind fun p => (lcL g tt te p.2.1 p.2.2 (wipeE e vs) p.1 p.2.2).bind fun q => if szOk q.1.length = true then some q else none
abbrev TsJ (X : Cx) (e : List Expr) (f : TX) : Prop := PTs X e (tT X.K f)
def tYes' : TX := fun _ S => some (true, S)
theorem pts_wk {e : List Expr} {t t' : TT} (h : PTs X e t) (k : ∀ σ H Q, t' σ H Q → t σ H Q) : PTs X e t' := ⟨fun pins s σ H Q I w => h.run pins s σ H Q I (k σ H Q w)⟩
theorem tsj_nil : TsJ X [] tYes' := pts_wk pts_nil fun σ H Q ⟨Z, m, env, v, S', e, s, er, hf, q⟩ => by
 subst e
 cases hf
 exact q m rfl (.refl s)
theorem tsj_one {t : TX} (h : TJ X a t) : TsJ X [a] t := pts_one h
theorem Ex.over {m0 m : M} {p : Addr} {ys zs : List V} (h0 : m0.H p = none) (hx : m.H p = some (.lst zs)) (x : Ex m0 m) : Ex m0 (m.over p ys) where
 le := x.le
 ag := x.ag
 pr := fun a o h n t => by
  show upd m.H p _ a = _
  rw [upd_ne (ne_of_none h h0)]
  exact x.pr a o h n t
 th := fun a o h n => by
  show ∃ o', upd m.H p _ a = _
  rw [upd_ne (ne_of_none h h0)]
  exact x.th a o h n
 nw := x.nw
 kd := x.kd
theorem tl_lc {it : IX} {g : GX} {tt : TX} {te : EX} {vs ws : List Nat} (hsub : ∀ i, i ∈ ws → i ∈ vs) {σ : L2.St} {H : Hp} {Q : VK} (h : tL K (lLc it g tt te vs) σ H Q) : tLc (tI K it) (tG K ws g) (tT K tt) (tE K te) vs σ H Q := by
 obtain ⟨Z, m, env, v, S', e, s, er, hf, q⟩ := h
 unfold lLc at hf
 obtain ⟨⟨ds, gs, S0⟩, h1, h2⟩ := Option.bind_eq_some_iff.mp hf
 obtain ⟨⟨out, S1⟩, h3, h4⟩ := Option.bind_eq_some_iff.mp h2
 have hz : szOk out.length = true ∧ out = v ∧ S1 = S' := by
  simp only at h4
  split at h4
  ·rename_i hz
   cases h4
   exact ⟨hz, rfl, rfl⟩
  ·cases h4
 obtain ⟨hz, rfl, rfl⟩ := hz
 refine ⟨Z, m, env, ds, gs, S0, e, s, er, h1, fun m0 J q0 t0 ok => ?_⟩
 subst q0
 intro P hP
 have hPZ : P ∉ Z := (t0.si.fresh hP).2
 have hwz : ∀ z, z ∈ P :: Z → z ∈ Z ∨ m0.H z = none := fun z hz => by
  rcases List.mem_cons.mp hz with e | e
  ·exact .inr (by rw [e]; exact hP)
  ·exact .inl e
 refine ⟨fun i k H' => ∃ (m' : M) (acc : List D) (xs : List V) (r : List D), m'.H = H' ∧ Ex m0 m' ∧ Sim ⟨K, P :: Z⟩ m' ∧ (∀ n, n ∈ gs → m'.S[n]? = m0.S[n]?) ∧ m'.H P = some (.lst xs) ∧ RepL ⟨K, P :: Z⟩ m' acc xs ∧ k = ds.length - i ∧
   lcL g tt te gs m0.S (wipeE env vs) (ds.drop i) m'.S = some (r, S1) ∧ out = acc ++ r,
  ⟨ds.length, ⟨m0.r, m0.S, upd m0.H P (.lst [])⟩, [], [], out, rfl, .laid hP, Sim.apart t0.si hP, fun _ _ => rfl, upd_same, rfl, rfl, h3, rfl⟩, ?_⟩
 rintro i k H' ⟨m', acc, xs, r, rfl, x', s', gd, hx, ra, rfl, hk, ho⟩
 cases hd : ds.drop i with
 | nil =>
  rw [hd] at hk
  cases hk
  have hl : ds.length ≤ i := List.drop_eq_nil_iff.mp hd
  refine .inl ⟨(ok.go (P :: Z) m' (fun _ h => List.mem_cons_of_mem _ h) hwz x' s' gd i).1 hl, ?_⟩
  have hs : Sim ⟨K, Z⟩ (m'.hide P) := by
   rcases s'.hide hx with z | z
   ·exact z
   ·exact absurd z hPZ
  have hn : (m'.hide P).H P = none := by show (if P = P then none else m'.H P) = none; rw [if_pos rfl]
  have tt' : Tr ⟨K, Z⟩ m0 (m'.hide P) := ⟨x'.hideR hP hx trivial, hs⟩
  have qq := q (m'.hide P) P xs rfl (t0.trans s tt') (by rw [ho, List.append_nil]; exact RepL.hide hx acc xs ra) hn
  rw [M.hide_upd hx] at qq
  exact qq
 | cons d rs =>
  rw [hd] at hk
  obtain ⟨hd1, hd2⟩ := drop_cons hd
  have hil : i < ds.length := by
   rcases Nat.lt_or_ge i ds.length with z | z
   ·exact z
   ·rw [List.getElem?_eq_none z] at hd1; cases hd1
  obtain ⟨go, yl⟩ := (ok.go (P :: Z) m' (fun _ h => List.mem_cons_of_mem _ h) hwz x' s' gd i).2 d hd1
  refine .inr ⟨go, fun H2 => ∃ (m2 : M) (acc : List D) (xs : List V) (r : List D), m2.H = H2 ∧ Ex m0 m2 ∧ Sim ⟨K, P :: Z⟩ m2 ∧ (∀ n, n ∈ gs → m2.S[n]? = m0.S[n]?) ∧ m2.H P = some (.lst xs) ∧ RepL ⟨K, P :: Z⟩ m2 acc xs ∧
   lcL g tt te gs m0.S (wipeE env vs) rs m2.S = some (r, S1) ∧ out = acc ++ r, fun H2 ⟨m2, acc2, xs2, r2, a1, a2, a3, a4, a5, a6, a7, a8⟩ => ⟨ds.length - (i + 1), by omega, m2, acc2, xs2, r2, a1, a2, a3, a4, a5, a6, rfl, by rw [hd2]; exact a7, a8⟩, ?_⟩
  intro x H3 hy
  obtain ⟨m3, rfl, e3, t3, r3⟩ := yl x H3 hy
  have t' : Tr ⟨K, P :: Z⟩ m' m' := .refl s'
  obtain ⟨⟨e4, S4⟩, h4, h5⟩ := Option.bind_eq_some_iff.mp (show ((g d (wipeE env vs) m'.S).bind _) = some (r, S1) from hk)
  obtain ⟨⟨bb, S5⟩, h6, h7⟩ := Option.bind_eq_some_iff.mp h5
  -- what stood before the loop
  have er0 : ER ⟨K, P :: Z⟩ m' (wipeE env vs) (wipe σ vs) := (((er.tr s t0).widen hwz).wipe vs).ex t0.si.bok x'
  refine ⟨P :: Z, m3, wipeE env vs, d, e4, S4, rfl, t3.si, er0.tr s' t3, r3, by rw [e3]; exact h4, fun m4 σ4 q4 t4 er4 ag4 => ⟨wipe_same ag4.1 ag4.2 hsub, ?_⟩⟩
  refine ⟨P :: Z, m4, e4, bb, S5, rfl, t4.si, er4, by rw [q4]; exact h6, fun m5 q5 t5 => ?_⟩
  have t35 := (t3.trans s' (t4.trans t3.si t5))
  have nP : ¬ Bx m' P := (s'.zs P (List.mem_cons_self ..)).2
  have x05 : ∀ {m6 : M}, Tr ⟨K, P :: Z⟩ m' m6 → Ex m0 m6 := fun {m6} t => x'.then s'.bok t
  have h7 : (if bb = true then _ else _) = some (r, S1) := h7
  cases bb with
  | true =>
   rw [if_pos rfl] at h7
   show (if (true : Bool) = true then _ else _)
   rw [if_pos rfl]
   obtain ⟨⟨y, S6⟩, h8, h9⟩ := Option.bind_eq_some_iff.mp h7
   refine ⟨P :: Z, m5, e4, y, S6, rfl, t5.si, er4.tr t4.si t5, by rw [q5]; exact h8, fun m6 vy q6 t6 ry => ?_⟩
   have t36 := t35.trans s' t6
   have hx6 : m6.H P = some (.lst xs) := t36.ex.pr _ _ hx nP trivial
   simp only at h9
   split at h9
   ·rename_i hgs
    obtain ⟨⟨r', S7⟩, h10, h11⟩ := Option.map_eq_some_iff.mp h9
    simp only [Prod.mk.injEq] at h11
    obtain ⟨hr', hS7⟩ := h11
    have ho2 : out = acc ++ [y] ++ r' := by rw [ho, ← hr']; simp
    refine ⟨xs, hx6, ?_, m6.over P (xs ++ [vy]), acc ++ [y], xs ++ [vy], r', rfl, Ex.over hP hx6 (x05 t36), Sim.over t6.si hx6 hPZ, fun n hn => ?_, upd_same, ?_, ?_, ho2⟩
    ·rw [ra.len]
     have := szOk_le hz
     rw [ho2] at this
     simp at this
     omega
    ·show m6.S[n]? = _
     rw [q6]
     exact hgs n hn
    ·exact RepL.over t6.si hx6 hPZ (RepL.app (t36.repL s' ra) (RepL.one ry))
    ·show lcL g tt te gs m0.S (wipeE env vs) rs m6.S = some (r', S1)
     rw [q6, ← hS7]
     exact h10
   ·cases h9
  | false =>
   rw [if_neg Bool.false_ne_true] at h7
   show (if (false : Bool) = true then _ else _)
   rw [if_neg Bool.false_ne_true]
   simp only at h7
   split at h7
   ·rename_i hgs
    refine ⟨m5, acc, xs, r, rfl, x05 t35, t35.si, fun n hn => by rw [q5]; exact hgs n hn, t35.ex.pr _ _ hx nP trivial, t35.repL s' ra, by rw [q5]; exact h7, ho⟩
   ·cases h7
theorem lj_lc {elt tg iter : Expr} {ifs : List Expr} {scope : Scope} {own : List (Str × Nat)} {it : IX} {g : GX} {tt : TX} {te : EX} {ws : List Nat} (hc : X.calm = true) (hN : X.N.Nodup) (hi : IJ X tg iter it) (ok : BlkOk X.N X.env.scope scope own)
  (hg : ∀ (s : Shared) (H : Hp) (C : Addr) (cl : List (Str × Addr)) (fp : List Addr), GJ (X.blk s H scope (compEnvC scope cl C X.env) fp) tg ws g)
  (ht : ∀ (s : Shared) (H : Hp) (C : Addr) (cl : List (Str × Addr)) (fp : List Addr), TsJ (X.blk s H scope (compEnvC scope cl C X.env) fp) ifs tt)
  (he : ∀ (s : Shared) (H : Hp) (C : Addr) (cl : List (Str × Addr)) (fp : List Addr), EJ (X.blk s H scope (compEnvC scope cl C X.env) fp) elt te) (hsub : ∀ i, i ∈ ws → i ∈ own.map (·.2))
  (hs : ∀ x, foldedSetIterable iter X.env x = pure x := by intro _; rfl) : LJ X (.ListComp elt [⟨tg, iter, ifs, 0⟩] scope pos) (lLc it g tt te (own.map (·.2))) :=
 pe_wk (pe_lc hc hN hi ok hg ht he hs) fun _ _ _ h => tl_lc hsub h
def sAsgL (bx : Bool) (f : LX) (i : Nat) : SX := sAsg (if bx = true then eBx f else eFz f) (gN i)
theorem ts_name {f : EX} {i : Nat} {D : Ends} {σ : L2.St} {H : Hp} (h : tS K (sAsg f (gN i)) D σ H) : tAsg (tE K f) (gName i) D σ H := by
 obtain ⟨Z, m, env, o, e, s, er, hf, q⟩ := h
 unfold sAsg at hf
 obtain ⟨⟨y, S1⟩, h1, h⟩ := Option.bind_eq_some_iff.mp hf
 cases h
 exact ⟨Z, m, env, y, S1, e, s, er, h1, fun m1 vx e1 t1 rx => q m1 _ e1 t1 ((er.tr s t1).set rx i)⟩
theorem tl_name {f : LX} {fe : EX} (hfe : ∀ σ H Q, tE K fe σ H Q → tL K f σ H Q) {t : TE} (ht : ∀ σ H Q, tL K f σ H Q → t σ H Q) {i : Nat} {D : Ends} {σ : L2.St} {H : Hp} (h : tS K (sAsg fe (gN i)) D σ H) : tAsg t (gName i) D σ H :=
 ht _ _ _ (hfe _ _ _ (ts_name h))
theorem sj_setLc {i : Nat} {y : Str} {py spos : Pos} {elt tg iter : Expr} {ifs : List Expr} {scope : Scope} {own : List (Str × Nat)} {it : IX} {g : GX} {tt : TX} {te : EX} {ws : List Nat} (bx : Bool) (hc : X.calm = true) (hN : X.N.Nodup) (hy : X.N[i]? = some y) (hyl : X.env.scope.names.lookup y = some .local)
  (hsw : swapsWith (.ListComp elt [⟨tg, iter, ifs, 0⟩] scope pos) (some (.Name y py)) spos.line X.env = pure true) (hi : IJ X tg iter it) (ok : BlkOk X.N X.env.scope scope own)
  (hg : ∀ (s : Shared) (H : Hp) (C : Addr) (cl : List (Str × Addr)) (fp : List Addr), GJ (X.blk s H scope (compEnvC scope cl C X.env) fp) tg ws g)
  (ht : ∀ (s : Shared) (H : Hp) (C : Addr) (cl : List (Str × Addr)) (fp : List Addr), TsJ (X.blk s H scope (compEnvC scope cl C X.env) fp) ifs tt)
  (he : ∀ (s : Shared) (H : Hp) (C : Addr) (cl : List (Str × Addr)) (fp : List Addr), EJ (X.blk s H scope (compEnvC scope cl C X.env) fp) elt te) (hsub : ∀ i, i ∈ ws → i ∈ own.map (·.2))
  (hs : ∀ x, foldedSetIterable iter X.env x = pure x := by intro _; rfl) : SJ X (.Assign [.Name y py] (.ListComp elt [⟨tg, iter, ifs, 0⟩] scope pos) spos) (sAsgL bx (lLc it g tt te (own.map (·.2))) i) := by
 cases bx with
 | true => exact ps_wk (ps_setLc hc hN hy hyl hsw hi ok hg ht he hs) fun _ _ _ h => tl_name (fun _ _ _ h => tl_bx h) (fun _ _ _ h => tl_lc hsub h) h
 | false => exact ps_wk (ps_setLc hc hN hy hyl hsw hi ok hg ht he hs) fun _ _ _ h => tl_name (fun _ _ _ h => tl_fz h) (fun _ _ _ h => tl_lc hsub h) h
end
mutual
def below (k : Nat) : D → Bool
 | .ref n => decide (n < k)
 | .tup xs => belowL k xs
 | .lst xs => belowL k xs
 | .rol xs => belowL k xs
 | .dic _ vs => belowL k vs
 | .tag _ vs => belowL k vs
 | .dref n => decide (n < k)
 | _ => true
def belowL (k : Nat) : List D → Bool
 | [] => true
 | d :: ds => below k d && belowL k ds
end
def M.cut (m : M) (k : Nat) : M := ⟨m.r, m.S.take k, m.H⟩
section
variable {K : PySem.W.Frag} {c : C} {m m' : M}
theorem Bx.cut {k : Nat} {a : Addr} (h : ¬ Bx m a) : ¬ Bx (m.cut k) a := by
 rintro ⟨i, hi, e⟩
 have hi : i < (m.S.take k).length := hi
 rw [List.length_take] at hi
 exact h ⟨i, by omega, e⟩
theorem TagR.cut {K : PySem.W.Frag} {j : Nat} : ∀ {k : Nat} {a : Addr} {xs : List V}, TagR K m k a xs → TagR K (m.cut j) k a xs
 | 0, _, _, h => h
 | _ + 1, _, _, h => h
mutual
theorem Rep.cut {k : Nat} : ∀ (d : D) (v : V), Rep c m d v → below k d = true → Rep c (m.cut k) d v
 | .non, v, h, _ => h
 | .bl _, v, h, _ => h
 | .int _, v, h, _ => h
 | .str _, v, h, _ => h
 | .tup ds, v, h, b => by
  obtain ⟨a, xs, e, h1, h2⟩ := h
  exact ⟨a, xs, e, h1, RepL.cut ds xs h2 (by simpa [below] using b)⟩
 | .lst ds, v, h, b => by
  obtain ⟨a, xs, e, ⟨h1, h3, h4⟩, h2⟩ := h
  exact ⟨a, xs, e, ⟨h1, Bx.cut h3, h4⟩, RepL.cut ds xs h2 (by simpa [below] using b)⟩
 | .rol ds, v, h, b => by
  obtain ⟨a, xs, e, h1, h2⟩ := h
  exact ⟨a, xs, e, h1, RepL.cut ds xs h2 (by simpa [below] using b)⟩
 | .dic ks vs, v, h, b => by
  obtain ⟨a, kvs, e, ⟨h1, h3, h4⟩, h5, h2⟩ := h
  exact ⟨a, kvs, e, ⟨h1, Bx.cut h3, h4⟩, h5, RepL.cut vs _ h2 (by simpa [below] using b)⟩
 | .ref n, v, h, b => by
  obtain ⟨⟨ds, h1⟩, h2⟩ := h
  have b : n < k := by simpa [below] using b
  exact ⟨⟨ds, by show (m.S.take k)[n]? = _; rw [List.getElem?_take_of_lt b]; exact h1⟩, h2⟩
 | .dref n, v, h, b => by
  obtain ⟨⟨o, h1, hk⟩, h2⟩ := h
  have b : n < k := by simpa [below] using b
  exact ⟨⟨o, by show (m.S.take k)[n]? = _; rw [List.getElem?_take_of_lt b]; exact h1, hk⟩, h2⟩
 | .tag k ds, v, h, b => by
  obtain ⟨a, xs, e, h1, h2⟩ := h
  exact ⟨a, xs, e, TagR.cut h1, RepL.cut ds xs h2 (by simpa [below] using b)⟩
theorem RepL.cut {k : Nat} : ∀ (ds : List D) (vs : List V), RepL c m ds vs → belowL k ds = true → RepL c (m.cut k) ds vs
 | [], vs, h, _ => h
 | d :: ds, vs, h, b => by
  obtain ⟨y, r, e, h1, h2⟩ := h
  have b : below k d = true ∧ belowL k ds = true := by simpa [belowL] using b
  exact ⟨y, r, e, Rep.cut d y h1 b.1, RepL.cut ds r h2 b.2⟩
end
mutual
theorem Rep.below : ∀ (d : D) (v : V), Rep c m d v → below m.S.length d = true
 | .non, v, h => rfl
 | .bl _, v, h => rfl
 | .int _, v, h => rfl
 | .str _, v, h => rfl
 | .tup ds, v, h => by
  obtain ⟨a, xs, e, h1, h2⟩ := h
  simpa [Pv.below] using RepL.below ds xs h2
 | .lst ds, v, h => by
  obtain ⟨a, xs, e, h1, h2⟩ := h
  simpa [Pv.below] using RepL.below ds xs h2
 | .rol ds, v, h => by
  obtain ⟨a, xs, e, h1, h2⟩ := h
  simpa [Pv.below] using RepL.below ds xs h2
 | .dic ks vs, v, h => by
  obtain ⟨a, kvs, e, _, h5, h2⟩ := h
  simpa [Pv.below] using RepL.below vs _ h2
 | .ref n, v, h => by simpa [Pv.below] using h.lt.1
 | .dref n, v, h => by simpa [Pv.below] using h.ltD.1
 | .tag k ds, v, h => by
  obtain ⟨a, xs, e, h1, h2⟩ := h
  simpa [Pv.below] using RepL.below ds xs h2
theorem RepL.below : ∀ (ds : List D) (vs : List V), RepL c m ds vs → belowL m.S.length ds = true
 | [], vs, h => rfl
 | d :: ds, vs, h => by
  obtain ⟨y, r, e, h1, h2⟩ := h
  simp [belowL, Rep.below d y h1, RepL.below ds r h2]
end
def WfS (S : Sto) : Prop := ∀ (i : Nat) (o : Ob), S[i]? = some o → belowL S.length o.vs = true
theorem Sim.wf (s : Sim c m) : WfS m.S := fun i o h => by
 obtain ⟨xs, _, h2⟩ := s.obj i _ h
 exact RepL.below o.vs xs h2
theorem Sim.cut (s : Sim c m) {S' : Sto} {t : Sto} (e : S' ++ t = m.S) (w : WfS S') : Sim c (m.cut S'.length) := by
 have hS : (m.cut S'.length).S = S' := by show m.S.take S'.length = S'; rw [← e]; simp
 have hl : ∀ i, i < S'.length → i < m.S.length := fun i h => by rw [← e, List.length_append]; omega
 refine ⟨fun i j hi hj q => ?_, fun i o h => ?_, fun z hz => ?_, s.tabs⟩
 ·rw [hS] at hi hj
  exact s.inj i j (hl i hi) (hl j hj) q
 ·rw [hS] at h
  have hi : i < S'.length := by
   rcases Nat.lt_or_ge i S'.length with z | z
   ·exact z
   ·rw [List.getElem?_eq_none z] at h; cases h
  have h2 : m.S[i]? = some o := by rw [← e, List.getElem?_append_left hi]; exact h
  obtain ⟨xs, h3, h4⟩ := s.obj i _ h2
  exact ⟨xs, h3, RepL.cut _ xs h4 (w i o h)⟩
 ·exact ⟨(s.zs z hz).1, Bx.cut (s.zs z hz).2⟩
theorem Tr.cut {m0 : M} (t : Tr c m0 m) {S' : Sto} {t' : Sto} (e : S' ++ t' = m.S) (w : WfS S') (hle : m0.S.length ≤ S'.length) : Tr c m0 (m.cut S'.length) := by
 have hS : (m.cut S'.length).S = S' := by show m.S.take S'.length = S'; rw [← e]; simp
 refine ⟨⟨by rw [hS]; exact hle, t.ex.ag, t.ex.pr, t.ex.th, fun i h1 h2 => t.ex.nw i h1 ?_, fun i o h => ?_⟩, t.si.cut e w⟩
 rotate_left
 ·obtain ⟨o', h1, h2⟩ := t.ex.kd i o h
  refine ⟨o', ?_, h2⟩
  have hi : i < m0.S.length := (List.getElem?_eq_some_iff.mp h).1
  rw [hS]
  rw [← e, List.getElem?_append_left (by omega)] at h1
  exact h1
 rw [hS] at h2
 rw [← e, List.length_append]
 omega
def Fz (S : Sto) (k : Nat) (d v : D) : Prop := (d = v ∧ below k v = true) ∨ (∃ n ds, d = .ref n ∧ k ≤ n ∧ S[n]? = some (.lst ds) ∧ belowL k ds = true ∧ v = .lst ds) ∨ ∃ n ks ds, d = .dref n ∧ k ≤ n ∧ S[n]? = some (.dk ks ds) ∧ belowL k ds = true ∧ ks.length = ds.length ∧ v = .dic ks ds
theorem Rep.fz (s : Sim c m) {d v : D} {x : V} {k : Nat} (h : Rep c m d x) (f : Fz m.S k d v) : Rep c (m.cut k) v x := by
 rcases f with ⟨rfl, b⟩ | ⟨n, ds, rfl, hk, hn, hb, rfl⟩ | ⟨n, ks, ds, rfl, hk, hn, hb, hl, rfl⟩
 ·exact Rep.cut d x h b
 ·obtain ⟨h1, rfl⟩ := h.lt
  obtain ⟨xs, h3, h4⟩ := s.obj n _ hn
  refine ⟨m.r n, xs, rfl, ⟨h3, ?_, fun z => (s.zs _ z).2 ⟨n, h1, rfl⟩⟩, RepL.cut ds xs h4 hb⟩
  rintro ⟨i, hi, e⟩
  have hi : i < (m.S.take k).length := hi
  rw [List.length_take] at hi
  have := s.inj i n (by omega) h1 e
  omega
 ·obtain ⟨h1, rfl⟩ := h.ltD
  obtain ⟨xs, h3, h4⟩ := s.obj n _ hn
  have hx : xs.length = ks.length := by rw [h4.len]; exact hl.symm
  refine ⟨m.r n, ks.zip xs, rfl, ⟨h3, ?_, fun z => (s.zs _ z).2 ⟨n, h1, rfl⟩⟩, List.map_fst_zip (by omega), ?_⟩
  ·rintro ⟨i, hi, e⟩
   have hi : i < (m.S.take k).length := hi
   rw [List.length_take] at hi
   have := s.inj i n (by omega) h1 e
   omega
  ·rw [List.map_snd_zip (by omega)]
   exact RepL.cut ds xs h4 hb
abbrev Con := List D → Sto → Option (D × Sto)
def spD (K : PySem.W.Frag) (f : Con) : Sp := fun vs H Q _ => ∃ (Z : List Addr) (m : M) (ds : List D) (v : D) (S' : Sto), m.H = H ∧ Sim ⟨K, Z⟩ m ∧ RepL ⟨K, Z⟩ m ds vs ∧ f ds m.S = some (v, S') ∧
 ∀ m' x, m'.S = S' → Tr ⟨K, Z⟩ m m' → Rep ⟨K, Z⟩ m' v x → Q x m'.H
def sE (n : Nat) (ds : List D) : En := ds.map some ++ List.replicate (n - ds.length) none
def Fin (o : Out) (v : D) (S' : Sto) : Prop := match o with
 | .rt d S2 => (∃ t, S' ++ t = S2) ∧ Fz S2 S'.length d v
 | .nx _ S2 => (∃ t, S' ++ t = S2) ∧ v = .non
 | _ => False
theorem RepL.start : ∀ {ds : List D} {vs : List V}, RepL c m ds vs → ∀ (i : Nat) (d : D), (ds.map some)[i]? = some (some d) → ∃ x, (vs.map some)[i]? = some (some x) ∧ Rep c m d x
 | ds, vs, h, i, d, e => by
  rw [List.getElem?_map] at e
  cases q : ds[i]? with
  | none => rw [q] at e; cases e
  | some d' =>
   rw [q] at e
   have e' : d' = d := by simpa using e
   subst e'
   obtain ⟨x, h1, h2⟩ := h.get q
   exact ⟨x, by rw [List.getElem?_map, h1]; rfl, h2⟩
theorem ER.start {N : List Str} {ds : List D} {vs : List V} (h : RepL c m ds vs) : ER c m (sE N.length ds) (L2.start N vs) := by
 have hl := h.len
 refine ⟨by simp [sE, L2.start, hl], fun i d e => ?_⟩
 unfold sE at e
 unfold L2.start
 by_cases hi : i < ds.length
 ·rw [List.getElem?_append_left (by rw [List.length_map]; exact hi)] at e
  obtain ⟨x, h1, h2⟩ := h.start i d e
  exact ⟨x, by rw [List.getElem?_append_left (by rw [List.length_map, hl]; exact hi)]; exact h1, h2⟩
 ·rw [List.getElem?_append_right (by rw [List.length_map]; omega), List.getElem?_replicate] at e
  split at e <;> cases e
end
structure RG (k : Nat) (A : Around) : Prop where
 room : Room k A
 gd : A.guards = some []
theorem RG.mono {j k : Nat} {A : Around} (h : RG k A) (hj : j ≤ k) : RG j A := ⟨h.room.mono hj, h.gd⟩
structure FnG (P : Program) (w : World) (K : PySem.W.Frag) (mg : Str → Option Value) (base : Heap) (k : Nat) (f : Addr) (fd : FuncData) (ps : List Str) (con : Con) : Prop where
 len : ∀ ds S r, con ds S = some r → ds.length = ps.length
 run : ∀ (A : Around) (out : List PySem.Env) (s : Shared) (H : Hp) (args : Args) (us : List Value) (vs : List V) (Q : VK) (E : XK), RG k A → Env0 P w K mg base A out s H → BindsTo s fd args (ps.zip us) → Vals vs us →
  spD K con vs H Q E → codeAny (model P w) A (.call (.ref f) args) (CR CX0 out P w H s Q E) s
section
variable {K : PySem.W.Frag} {P : Program} {w : World} {mg : Str → Option Value} {base : Heap} {x qual : Str} {params : Arguments} {body : List Stmt} {scope : Scope} {dvs : List V} {kws : List (Str × V)} {f : Addr} {fd : FuncData} {N ps : List Str} {k : Nat} {con : Con}
theorem sp_len (len : ∀ ds S r, con ds S = some r → ds.length = ps.length) {vs : List V} {H : Hp} {Q : VK} {E : XK} (h : spD K con vs H Q E) : vs.length = ps.length := by
 obtain ⟨Z, m, ds, v, S', _, _, r, e, _⟩ := h
 rw [r.len]
 exact len _ _ _ e
theorem fn_ok {b : SX} (F : FunD K x qual params body scope dvs kws f fd) (S : FnScope N ps scope) (len : ∀ ds S r, con ds S = some r → ds.length = ps.length)
  (hb : ∀ (cdv : Value) (A : Around) (outer : List PySem.Env) (s : Shared) (H : Hp) (E : XK), RG k (A.deeper (envOfC qual scope s.heap.objs.size f cdv)) → BJ (cxOf CX0 P w K mg base N qual scope f cdv A outer s H E).nox body b)
  (real : ∀ ds S v S', WfS S → belowL S.length ds = true → con ds S = some (v, S') → ∃ o, b (sE N.length ds) S = some o ∧ Fin o v S' ∧ WfS S' ∧ S.length ≤ S'.length) : FnG P w K mg base (k + 1) f fd ps con := by
 obtain ⟨oc, od, dV, kV, doc, pm, an, cdv, ct, osl, rfl, lk, hcd, _, _⟩ := F.ex
 refine ⟨len, fun A out s H args us vs Q E hr e0 hbd rv hsp => ?_⟩
 have hlen := sp_len len hsp
 have hK : K.In s.heap := e0.mod.kin.keeps fun b o e => (e0.bs b o e).1
 have hkd : ∀ y ∈ ps.zip us, scope.names.lookup y.1 = some .local ∨ (scope.names.lookup y.1 = some .cell ∧ ((cellsFrom (s.heap.objs.size + 1) scope.names []).lookup y.1).isSome = true) := by
  rintro ⟨n, v⟩ hy
  rcases S.par n (List.of_mem_zip hy).1 with q | q
  ·exact .inl q
  ·exact .inr ⟨q, PySem.W.cellsFrom_some _ _ _ (.inl q)⟩
 refine codeAny_call_function hr.room.depth (hK _ _ lk) rfl S.co S.gen rfl (PySem.W.codeRec_of hK hcd) (hbd _ _ _ _ (wpAny_newFunctionEnv_cells S.kind hkd fun env he s1 ic => ?_))
 subst he
 refine ⟨(e0.mod.nolimit.keeps fun b o e => (e0.bs b o e).1).keeps ic.toInCall.keep, codeAny_func ?_⟩
 have I : Inv (cxOf CX0 P w K mg base N qual scope f cdv A out s H E) [] (L2.start N vs) H s1 := inv_start S hr.room.hd e0 hlen rv ic
 have body' := PSs.nox (hb cdv A out s H E ⟨hr.room.deeper _, hr.gd⟩)
 obtain ⟨Z, m, ds, v, S', e, si, r, ef, q⟩ := hsp
 obtain ⟨o, ho, fi, wf, hle⟩ := real ds m.S v S' si.wf (RepL.below ds vs r) ef
 have want : tS K b { nx := fun _ H' => Q .non H', rt := Q } (L2.start N vs) H := by
  refine ⟨Z, m, sE N.length ds, o, e, si, ER.start r, ho, ?_⟩
  cases o with
  | nx e2 S2 =>
   obtain ⟨⟨t, et⟩, rfl⟩ := fi
   intro m2 σ2 q2 t2 er2
   subst q2
   exact q (m2.cut S'.length) .non (by show m2.S.take S'.length = S'; rw [← et]; simp) (t2.cut et wf hle) rfl
  | rt d S2 =>
   obtain ⟨⟨t, et⟩, fz⟩ := fi
   intro m2 x2 q2 t2 r2
   subst q2
   exact q (m2.cut S'.length) x2 (by show m2.S.take S'.length = S'; rw [← et]; simp) (t2.cut et wf hle) (Rep.fz t2.si r2 fz)
  | bk _ _ => exact fi.elim
  | ct _ _ => exact fi.elim
 refine wpAny_mono (body'.run [] s1 (L2.start N vs) H _ I want) (fun fl s' hs => ?_) fun e s' hs => hs
 cases fl with
 | ret u =>
  obtain ⟨v, σ', H', J, rv, q⟩ := hs
  exact ⟨v, H', J.os, J.bare, J.base, J.hok, rv, q⟩
 | next =>
  obtain ⟨σ', H', J, q⟩ := hs
  exact ⟨.non, H', J.os, J.bare, J.base, J.hok, rfl, q⟩
 | brk =>
  obtain ⟨_, _, _, q⟩ := hs
  exact q.elim
 | cont =>
  obtain ⟨_, _, _, q⟩ := hs
  exact q.elim
end
section
variable {X : Cx} {a : Expr} {es : List Expr} {ga gk : AX} {pos p : Pos} {k : Nat} {f : Addr} {fd : FuncData} {ps : List Str} {con : Con} {x : Str}
def eCall (f : Con) (g : AX) : EX := fun e S => (g e S).bind fun p => f p.1 p.2
theorem run_con {pins : List (Addr × Obj)} {σ : L2.St} {H : Hp} {s : Shared} {Q : VK} {us : List Value} {vs : List V} {args : Args} (F : FnG X.prog X.w X.K X.mg X.base k f fd ps con) (hr : RG k X.A)
  (I : Inv X pins σ H s) (r : Vals vs us) (hb : BindsTo s fd args (ps.zip us)) (h : spD X.K con vs H Q E0) : codeAny (model X.prog X.w) X.A (.call (.ref f) args) (fun r s' => match r with
   | .ok (.ret u) => EP X pins σ Q u s'
   | .ok _ => False
   | .error e => X.xe e s') s := by
 refine codeAny_mono (F.run X.A X.stack s H args us vs Q E0 hr I.env0 hb r h) fun r s' hq => ?_
 cases r with
 | error e => exact False.elim hq
 | ok fl =>
  cases fl with
  | ret u => exact I.after hq
  | next => exact False.elim hq
  | brk => exact False.elim hq
  | cont => exact False.elim hq
theorem sp_of {K : PySem.W.Frag} {E : XK} {Z : List Addr} {m m1 : M} {y : List D} {v : D} {S' : Sto} {vs : List V} {Q : VK} (s : Sim ⟨K, Z⟩ m) (t1 : Tr ⟨K, Z⟩ m m1) (rx : RepL ⟨K, Z⟩ m1 y vs) (h2 : con y m1.S = some (v, S'))
  (q : ∀ m' x, m'.S = S' → Tr ⟨K, Z⟩ m m' → Rep ⟨K, Z⟩ m' v x → Q x m'.H) : spD K con vs m1.H Q E := ⟨Z, m1, y, v, S', rfl, t1.si, rx, h2, fun m2 w e2 t2 rw => q m2 w e2 (t1.trans s t2) rw⟩
theorem ej_call (F : FnG X.prog X.w X.K X.mg X.base k f fd ps con) (hr : RG k X.A) (hg : Gl X x) (hm : X.mg x = some (.ref f)) (hk : PySem.W.keepIn X.K (.ref f) = true) (hb : Binds X.K fd ps [])
  (ha : AJ X (a :: es) ga) (hdb : (x == ("__debug__" : Str)) = false := by decide) (he : starEach (a :: es) X.env = (false, eval a X.env) :: starEach es X.env := by rfl) (hpl : (backTo pos (starEach es X.env)).any (·.1) = false := by rfl) :
  EJ X (.Call (.Name x p) (a :: es) [] pos) (eCall con ga) := ⟨fun pins s σ H Q I ⟨Z, m, env, v, S', e, si, er, hf, q⟩ => by
 obtain ⟨⟨y, S1⟩, h1, h2⟩ := Option.bind_eq_some_iff.mp hf
 have hA : tA X.K ga σ H (fun vs H1 => spD X.K con vs H1 Q E0) := ⟨Z, m, env, y, S1, e, si, er, h1, fun m1 vx e1 t1 rx => sp_of si t1 rx (by rw [e1]; exact h2) q⟩
 refine wpAny_Call_Name_kw (ld_glob I hg hm ?_ hdb)
 refine PySem.W.callWith_K (h₀ := X.base) I.ok.mod.kin hk (thn (ha.run pos pins s σ H _ I hA) fun us s1 ⟨vs, H1, I1, r, q1⟩ => ⟨I1.kIn, ?_⟩) he hpl
 have hl : (us ++ []).length = ps.length := by rw [List.append_nil, ← r.length]; exact sp_len F.len q1
 refine wpAny_call (codeAny_mono (run_con F hr I1 r (by simpa using hb s1 us I1.kIn hl) q1) fun r s' hq => ?_)
 cases r with
 | error e => exact hq
 | ok fl => cases fl <;> exact hq⟩
abbrev KJ (X : Cx) (kws : List Keyword) (f : AX) : Prop := PK X kws (tA X.K f)
theorem kj_nil : KJ X [] aNil := ⟨fun pos pins s σ H Q I ⟨Z, m, env, v, S', e, si, er, hf, q⟩ => by
 subst e
 cases hf
 exact pk_nil.run pos pins s σ m.H Q I (q m [] rfl (.refl si) rfl)⟩
theorem kj_cons {kws : List Keyword} {nm : Option Str} {kpos : Pos} {fa : EX} (h : EJ X a fa) (k : KJ X kws gk) : KJ X (⟨nm, a, kpos⟩ :: kws) (aCons fa gk) := ⟨fun pos pins s σ H Q I ⟨Z, m, env, v, S', e, si, er, hf, q⟩ => by
 obtain ⟨x, S1, r, h1, h2, rfl⟩ := aCons_inv hf
 refine (pk_cons h k).run pos pins s σ H Q I ⟨Z, m, env, x, S1, e, si, er, h1, fun m1 vx e1 t1 rx => ?_⟩
 refine ⟨Z, m1, env, r, S', rfl, t1.si, er.tr si t1, by rw [e1]; exact h2, fun m2 vy e2 t2 ry => ?_⟩
 exact q m2 _ e2 (t1.trans si t2) ⟨vx, vy, rfl, t2.rep t1.si rx, ry⟩⟩
def eCallK (f : Con) (g : List D → List D) (ga : AX) : EX := fun e S => (ga e S).bind fun p => f (g p.1) p.2
structure KBd (K : PySem.W.Frag) (fd : FuncData) (ps ks : List Str) (g : {α : Type} → List α → List α) : Prop where
 to : ∀ (s : Shared) (ws : List Value), K.In s.heap → ws.length = ks.length → BindsTo s fd ⟨[], ks.zip ws⟩ (ps.zip (g ws))
 rel : ∀ {zs : List V} {ws : List Value}, Vals zs ws → Vals (g zs) (g ws)
 rep : ∀ {c : C} {m : M} {ds : List D} {vs : List V}, RepL c m ds vs → RepL c m (g ds) (g vs)
theorem ej_callK {kws : List Keyword} {ks : List Str} {g : {α : Type} → List α → List α} (F : FnG X.prog X.w X.K X.mg X.base k f fd ps con) (hr : RG k X.A) (hg : Gl X x) (hm : X.mg x = some (.ref f)) (hk : PySem.W.keepIn X.K (.ref f) = true) (hb : KBd X.K fd ps ks g)
  (hkw : KJ X kws gk) (hlen : kws.length = ks.length := by rfl) (hall : (backToKw pos (keywordEach kws X.env)).all (·.1.isSome) = true := by rfl) (hks : (backToKw pos (keywordEach kws X.env)).filterMap (·.1) = ks := by rfl)
  (hdb : (x == ("__debug__" : Str)) = false := by decide) (hls : ∀ e S v, gk e S = some v → v.1.length = kws.length)
  (hpl : ((backTo pos (starEach [] X.env)).any (·.1) || (backToKw pos (keywordEach kws X.env)).any (·.1.isNone)) = false := by rfl) :
  EJ X (.Call (.Name x p) [] kws pos) (eCallK con g gk) := ⟨fun pins s σ H Q I ⟨Z, m, env, v, S', e, si, er, hf, q⟩ => by
 obtain ⟨⟨y, S1⟩, h1, h2⟩ := Option.bind_eq_some_iff.mp hf
 have hyl : y.length = kws.length := hls _ _ _ h1
 have hA : tA X.K gk σ H (fun vs H1 => vs.length = kws.length ∧ spD X.K con (g vs) H1 Q E0) := ⟨Z, m, env, y, S1, e, si, er, h1, fun m1 vx e1 t1 rx => ⟨by rw [rx.len]; exact hyl, sp_of si t1 (hb.rep rx) (by rw [e1]; exact h2) q⟩⟩
 refine wpAny_Call_Name_kw (ld_glob I hg hm ?_ hdb)
 refine PySem.W.callWith_KW0 (h₀ := X.base) I.ok.mod.kin hk hall (thn (hkw.run pos pins s σ H _ I hA) fun ws s2 ⟨zs, H2, I2, rz, hz, q2⟩ => ⟨I2.kIn, ?_⟩) hpl
 rw [hks]
 have hwl : ws.length = ks.length := by rw [← rz.length, hz]; exact hlen
 refine wpAny_call (codeAny_mono (run_con F hr I2 (hb.rel rz) (hb.to s2 ws I2.kIn hwl) q2) fun r s' hq => ?_)
 cases r with
 | error e => exact hq
 | ok fl => cases fl <;> exact hq⟩
end
end Pv
namespace L2
open PySem PySem.Spec PyProof.Rows
theorem tuple_mul1 (l : Addr) (items : Array Value) (n : Nat) (dd : Option Addr) (sl : Array (Option Value)) (u : Tok) :
  Meets (Builtin.«tuple.__mul__» ⟨[.ref l, .int 1 u], []⟩) (fun _ R s => s.heap.get? l = some { cls := .type "tuple", dict := dd, data := .seq items n, slots := sl } ∧ R (.ok (.ret (Value.ref l))) s) :=
 .of_wp fun prog w A R s h => by
  obtain ⟨hp, g, d, tk, os⟩ := s
  obtain ⟨hl, h⟩ := h
  have f1 := AutoSeq1.idx_int
  have c1 : (items.isEmpty || (1 : Int) == 1) = true := by simp
  wp_walk using wpAny_loadPart' hl
  repeat (first | (refine wpAny_ite_true (decide_eq_true (by first | rfl | exact c1)) ?_; wp_walk using wpAny_loadPart' hl))
  exact ⟨_, rfl, h⟩
theorem tuple_mul0 (l : Addr) (items : Array Value) (n : Nat) (dd : Option Addr) (sl : Array (Option Value)) (u : Tok) (hne : items.isEmpty = false) :
  Meets (Builtin.«tuple.__mul__» ⟨[.ref l, .int 0 u], []⟩) (fun _ R s => s.heap.get? l = some { cls := .type "tuple", dict := dd, data := .seq items n, slots := sl } ∧
   R (.ok (.ret (Value.ref s.heap.objs.size))) { s with heap := s.heap.push { cls := Value.type "tuple", data := Data.seq #[] }, toks := s.toks }) :=
 .of_wp fun prog w A R s h => by
  obtain ⟨hp, g, d, tk, os⟩ := s
  obtain ⟨hl, h⟩ := h
  have f1 := AutoSeq1.idx_int
  have c1 : (items.isEmpty || (0 : Int) == 1) = false := by simp [hne]
  wp_walk using wpAny_loadPart' hl
  repeat (first | (refine wpAny_ite_false (decide_eq_false (by rw [c1]; exact Bool.false_ne_true)) ?_; wp_walk using wpAny_loadPart' hl))
  exact ⟨_, rfl, h⟩
section
variable {X : Cx}
theorem op_rep1 : OpR X (binaryOp .Mult) (fun x y H Q => ∃ l xs, x = .ref l ∧ y = .int 1 ∧ SqT X.K H l xs ∧ Q (.ref l) H) := by
 intro pins s σ H x y v u Q I rx ry h
 obtain ⟨l, xs, rfl, rfl, hT, q⟩ := h
 cases rx
 obtain ⟨t, rfl⟩ := ry
 obtain ⟨its, r, ⟨⟨cls, dd, data, sl⟩, ho, hc, n, hd⟩, hs⟩ := I.tuple hT
 simp only at hc hd
 subst hc hd
 refine wpAny_binaryOp_repeat_ref (T := "tuple") (U := "int") (by decide) ⟨_, ho, rfl⟩ (fun s' => typeIs_int s' 1 t) noFill_tuple_mul F.fills_int_mul F.slot_int_rmul repeat_tuple F.slot_int_index.lookup
  (call_meets F.slot_int_rmul (typeIs_int s 1 t) F.entry_int_rmul (F.args_int_rmul_2 _ _) (int_rmul_tuple 1 t l its.toArray n dd sl)
   ⟨ho, rfl, ⟨_, ho, rfl⟩, call_meets F.slot_tuple_mul ⟨_, ho, rfl⟩ F.entry_tuple_mul (F.args_tuple_mul_2 _ _) (tuple_mul1 l its.toArray n dd sl t) ⟨ho, ?_⟩⟩)
 exact ⟨.ref l, H, I, rfl, q⟩
theorem op_rep0 : OpR X (binaryOp .Mult) (fun x y H Q => ∃ l xs, x = .ref l ∧ y = .int 0 ∧ SqT X.K H l xs ∧ xs ≠ [] ∧ ∀ p, H p = none → Q (.ref p) (upd H p (.tup []))) := by
 intro pins s σ H x y v u Q I rx ry h
 obtain ⟨l, xs, rfl, rfl, hT, hne, q⟩ := h
 cases rx
 obtain ⟨t, rfl⟩ := ry
 obtain ⟨its, r, ⟨⟨cls, dd, data, sl⟩, ho, hc, n, hd⟩, hs⟩ := I.tuple hT
 simp only at hc hd
 subst hc hd
 have hle : its.length = xs.length := r.length.symm
 have hi : its.toArray.isEmpty = false := by
  cases its with
  | nil => exact absurd (List.eq_nil_of_length_eq_zero hle.symm) hne
  | cons a b => rfl
 refine wpAny_binaryOp_repeat_ref (T := "tuple") (U := "int") (by decide) ⟨_, ho, rfl⟩ (fun s' => typeIs_int s' 0 t) noFill_tuple_mul F.fills_int_mul F.slot_int_rmul repeat_tuple F.slot_int_index.lookup
  (call_meets F.slot_int_rmul (typeIs_int s 0 t) F.entry_int_rmul (F.args_int_rmul_2 _ _) (int_rmul_tuple 0 t l its.toArray n dd sl)
   ⟨ho, rfl, ⟨_, ho, rfl⟩, call_meets F.slot_tuple_mul ⟨_, ho, rfl⟩ F.entry_tuple_mul (F.args_tuple_mul_2 _ _) (tuple_mul0 l its.toArray n dd sl t hi) ⟨ho, ?_⟩⟩)
 refine ⟨.ref s.heap.objs.size, _, I.laid (t' := s.toks) (o := .tup []) (fun b ob q => Heap.get?_push_of_some _ q) (Nat.le_refl _) ?_, rfl, q _ (I.hok.fresh (Nat.le_refl _))⟩
 exact ⟨Nat.zero_le _, [], .nil, IsTup.new _ _⟩
end
end L2
namespace Pv
open PySem PySem.Spec PyProof.Rows L2
section
variable {X : Cx} {K : PySem.W.Frag} {c : C} {m : M}
theorem RepL.nil_iff {ds : List D} {xs : List V} (h : RepL c m ds xs) : xs = [] ↔ ds = [] := by
 cases ds with
 | nil => exact ⟨fun _ => rfl, fun _ => h⟩
 | cons d ds =>
  obtain ⟨y, r, e, _, _⟩ := h
  exact ⟨fun z => (by rw [e] at z; cases z), fun z => (by cases z)⟩
theorem RepL.rep {ds : List D} {xs : List V} (h : RepL c m ds xs) : ∀ k : Nat, RepL c m (List.replicate k ds).flatten (List.replicate k xs).flatten
 | 0 => rfl
 | k + 1 => by
  rw [List.replicate_succ, List.replicate_succ, List.flatten_cons, List.flatten_cons]
  exact h.app (RepL.rep h k)
def mulOk (i j : Int) : Bool := decide (i.natAbs.log2 + j.natAbs.log2 < 1000000)
def divOk (j : Int) : Bool := decide (j ≠ 0) && decide (j.natAbs.log2 < 9000)
def powOk (i j : Int) : Bool := decide (0 ≤ j) && decide (j ≤ 1000000) && decide (i.natAbs < 18446744073709551616)
def fAdd : F2 := fun _ a b => match a, b with
 | .int i, .int j => some (.int (i + j))
 | .str x, .str y => if szOk (x.length + y.length) = true then some (.str (x ++ y)) else none
 | .tup xs, .tup ys => if szOk (xs.length + ys.length) = true then some (.tup (xs ++ ys)) else none
 | _, _ => none
def fSub : F2 := fun _ a b => match a, b with
 | .int i, .int j => some (.int (i - j))
 | _, _ => none
def repOk (n : Nat) (k : Int) : Bool := decide (0 < n) && decide (0 ≤ k) && decide (k ≤ 1000) && decide (n ≤ 1000)
def fMul : F2 := fun _ a b => match a, b with
 | .int i, .int j => if mulOk i j = true then some (.int (i * j)) else none
 | .tup xs, .int k => if repOk xs.length k = true then some (.tup (List.replicate k.toNat xs).flatten) else none
 | _, _ => none
def fDiv : F2 := fun _ a b => match a, b with
 | .int i, .int j => if divOk j = true then some (.int (i.fdiv j)) else none
 | _, _ => none
def fMod : F2 := fun _ a b => match a, b with
 | .int i, .int j => if j ≠ 0 then some (.int (i.fmod j)) else none
 | _, _ => none
def fPow : F2 := fun _ a b => match a, b with
 | .int i, .int j => if powOk i j = true then some (.int (i ^ j.toNat)) else none
 | _, _ => none
def fShl : F2 := fun _ a b => match a, b with
 | .int i, .int j => if powOk i j = true then some (.int (i * 2 ^ j.toNat)) else none
 | _, _ => none
def fNeg : F1 := fun _ a => match a with
 | .int i => some (.int (-i))
 | _ => none
theorem no2 {α : Type} {x : α} {P : Prop} (h : none = some x) : P := nomatch h
theorem mulOk_inv {i j : Int} (h : mulOk i j = true) : CMulW i j := by
 have h' : i.natAbs.log2 + j.natAbs.log2 < 1000000 := of_decide_eq_true h
 exact h'
theorem ite_some {α : Type} {c : Prop} [Decidable c] {x y : α} (h : (if c then some x else none) = some y) : c ∧ x = y := by
 split at h
 ·cases h; exact ⟨by assumption, rfl⟩
 ·cases h
theorem o_add : OpR X (binaryOp .Add) (r2 X.K fAdd) := by
 rintro pins s σ H x y v u Q I rx ry ⟨Z, m, a, b, d, rfl, si, ra, rb, hf, q⟩
 cases a <;> cases b <;> first | exact no2 hf | skip
 ·cases hf
  exact op_add pins s σ m.H x y v u Q I rx ry ⟨_, _, ra, rb, q m _ rfl (.refl si) rfl⟩
 ·obtain ⟨hz, rfl⟩ := ite_some hf
  exact op_add_str pins s σ m.H x y v u Q I rx ry ⟨_, _, ra, rb, szOk_le hz, q m _ rfl (.refl si) rfl⟩
 ·obtain ⟨hz, rfl⟩ := ite_some hf
  obtain ⟨p1, xs, rfl, h1, l1⟩ := ra
  obtain ⟨p2, ys, rfl, h2, l2⟩ := rb
  refine op_catA pins s σ m.H _ _ v u Q I rx ry ⟨p1, p2, xs, ys, rfl, rfl, h1, h2, by rw [l1.len, l2.len]; exact szOk_le hz, fun e => ?_, fun _ e => ?_, fun _ _ p hp => ?_⟩
  ·refine q m _ rfl (.refl si) ⟨p2, ys, rfl, h2, ?_⟩
   rw [l1.nil_iff.mp e]
   exact l2
  ·refine q m _ rfl (.refl si) ⟨p1, xs, rfl, h1, ?_⟩
   rw [l2.nil_iff.mp e, List.append_nil]
   exact l1
  ·exact q ⟨m.r, m.S, upd m.H p (.tup (xs ++ ys))⟩ _ rfl (.laid si hp) (Rep.newTup si hp (l1.app l2))
theorem o_sub : OpR X (binaryOp .Sub) (r2 X.K fSub) := by
 rintro pins s σ H x y v u Q I rx ry ⟨Z, m, a, b, d, rfl, si, ra, rb, hf, q⟩
 cases a <;> cases b <;> first | exact no2 hf | skip
 cases hf
 exact op_sub pins s σ m.H x y v u Q I rx ry ⟨_, _, ra, rb, q m _ rfl (.refl si) rfl⟩
theorem repOk_inv {n : Nat} {k : Int} (h : repOk n k = true) : 0 < n ∧ 0 ≤ k ∧ k ≤ 1000 ∧ n ≤ 1000 := by
 unfold repOk at h
 simp only [Bool.and_eq_true, decide_eq_true_eq] at h
 omega
theorem o_mul : OpR X (binaryOp .Mult) (r2 X.K fMul) := by
 rintro pins s σ H x y v u Q I rx ry ⟨Z, m, a, b, d, rfl, si, ra, rb, hf, q⟩
 cases a <;> cases b <;> first | exact no2 hf | skip
 ·obtain ⟨hz, rfl⟩ := ite_some hf
  exact op_mulW pins s σ m.H x y v u Q I rx ry ⟨_, _, ra, rb, mulOk_inv hz, q m _ rfl (.refl si) rfl⟩
 ·obtain ⟨hz, rfl⟩ := ite_some hf
  obtain ⟨p1, xs, rfl, h1, l1⟩ := ra
  obtain ⟨z1, z2, z3, z4⟩ := repOk_inv hz
  rename_i ds0 k0
  have hn0 : xs ≠ [] := fun e => by
   rw [l1.nil_iff.mp e] at z1
   cases z1
  have hk : k0 = 0 ∨ k0 = 1 ∨ 2 ≤ k0 := by omega
  rcases hk with rfl | rfl | hk
  ·refine op_rep0 pins s σ m.H _ _ v u Q I rx ry ⟨p1, xs, rfl, rb, h1, hn0, fun p hp => ?_⟩
   exact q ⟨m.r, m.S, upd m.H p (.tup _)⟩ _ rfl (.laid si hp) (Rep.newTup (ds := []) si hp rfl)
  ·refine op_rep1 pins s σ m.H _ _ v u Q I rx ry ⟨p1, xs, rfl, rb, h1, ?_⟩
   refine q m _ rfl (.refl si) ?_
   have e1 : (List.replicate (Int.toNat 1) ds0).flatten = ds0 := by
    show ds0 ++ [] = ds0
    rw [List.append_nil]
   rw [e1]
   exact ⟨p1, xs, rfl, h1, l1⟩
  ·refine op_repT pins s σ m.H _ _ v u Q I rx ry ⟨p1, _, xs, rfl, rb, h1, hn0, hk, z3, by rw [l1.len]; exact z4, fun p hp => ?_⟩
   exact q ⟨m.r, m.S, upd m.H p (.tup _)⟩ _ rfl (.laid si hp) (Rep.newTup si hp (l1.rep _))
theorem o_div : OpR X (binaryOp .FloorDiv) (r2 X.K fDiv) := by
 rintro pins s σ H x y v u Q I rx ry ⟨Z, m, a, b, d, rfl, si, ra, rb, hf, q⟩
 cases a <;> cases b <;> first | exact no2 hf | skip
 obtain ⟨hz, rfl⟩ := ite_some hf
 unfold divOk at hz
 simp only [Bool.and_eq_true, decide_eq_true_eq] at hz
 cases ra
 cases rb
 obtain ⟨t, rfl⟩ := rx
 obtain ⟨t', rfl⟩ := ry
 exact floordiv_int hz.1 ⟨.int _, m.H, I.tok _, ⟨_, rfl⟩, q m _ rfl (.refl si) rfl⟩ (.inl (PyProof.noPylong_of_log2 hz.2))
theorem o_mod : OpR X (binaryOp .Mod) (r2 X.K fMod) := by
 rintro pins s σ H x y v u Q I rx ry ⟨Z, m, a, b, d, rfl, si, ra, rb, hf, q⟩
 cases a <;> cases b <;> first | exact no2 hf | skip
 obtain ⟨hz, rfl⟩ := ite_some hf
 exact op_modN pins s σ m.H x y v u Q I rx ry ⟨_, _, ra, rb, hz, q m _ rfl (.refl si) rfl⟩
theorem powOk_inv {i j : Int} (h : powOk i j = true) : CPow i j := by
 unfold powOk at h
 simp only [Bool.and_eq_true, decide_eq_true_eq] at h
 exact ⟨h.1.1, h.1.2, h.2⟩
theorem o_pow : OpR X (binaryOp .Pow) (r2 X.K fPow) := by
 rintro pins s σ H x y v u Q I rx ry ⟨Z, m, a, b, d, rfl, si, ra, rb, hf, q⟩
 cases a <;> cases b <;> first | exact no2 hf | skip
 obtain ⟨hz, rfl⟩ := ite_some hf
 exact op_pow pins s σ m.H x y v u Q I rx ry ⟨_, _, ra, rb, powOk_inv hz, q m _ rfl (.refl si) rfl⟩
theorem o_neg : UnR X (unaryOp .USub) (r1 X.K fNeg) := by
 rintro pins s σ H x v Q I rx ⟨Z, m, a, d, rfl, si, ra, hf, q⟩
 cases a <;> first | exact no2 hf | skip
 cases hf
 exact un_neg pins s σ m.H x v Q I rx ⟨_, ra, q m _ rfl (.refl si) rfl⟩
def fIAdd : F2 := fun _ a b => match a, b with
 | .int i, .int j => some (.int (i + j))
 | _, _ => none
def fCmp (p : Int → Int → Bool) : F2 := fun _ a b => match a, b with
 | .int i, .int j => some (.bl (p i j))
 | _, _ => none
abbrev fLt : F2 := fCmp fun i j => decide (i < j)
abbrev fLe : F2 := fCmp fun i j => decide (i ≤ j)
abbrev fGt : F2 := fCmp fun i j => decide (j < i)
abbrev fGe : F2 := fCmp fun i j => decide (j ≤ i)
theorem o_cmp {op : CmpOp} {p : Int → Int → Bool} (h : OpR X (compareOp op) (rI0 fun i j => .bl (p i j))) : OpR X (compareOp op) (r2 X.K (fCmp p)) := by
 rintro pins s σ H x y v u Q I rx ry ⟨Z, m, a, b, d, rfl, si, ra, rb, hf, q⟩
 cases a <;> cases b <;> first | exact no2 hf | skip
 cases hf
 exact h pins s σ m.H x y v u Q I rx ry ⟨_, _, ra, rb, q m _ rfl (.refl si) rfl⟩
theorem o_lt : OpR X (compareOp .Lt) (r2 X.K fLt) := o_cmp op_lt
theorem o_le : OpR X (compareOp .LtE) (r2 X.K fLe) := o_cmp op_le
theorem o_gt : OpR X (compareOp .Gt) (r2 X.K fGt) := o_cmp op_gt
theorem o_ge : OpR X (compareOp .GtE) (r2 X.K fGe) := o_cmp op_ge
mutual
def pd : D → PyData
 | .non => .none
 | .bl b => .bool b
 | .int i => .int i
 | .str x => .str x
 | .tup xs => .tuple (pdL xs)
 | .lst xs => .list (pdL xs)
 | .rol xs => .list (pdL xs)
 | .dic ks vs => .dict (pdK ks vs)
 | .ref _ => .none
 | .tag _ _ => .none
 | .dref _ => .none
def pdL : List D → List PyData
 | [] => []
 | d :: ds => pd d :: pdL ds
def pdK : List Key → List D → List (PyData × PyData)
 | k :: ks, v :: vs => ((match k with | .inl i => .int i | .inr x => .str x), pd v) :: pdK ks vs
 | _, _ => []
end
mutual
def flat : D → Bool
 | .ref _ => false
 | .dic _ _ => false
 | .tag _ _ => false
 | .dref _ => false
 | .tup xs => flatL xs
 | .lst xs => flatL xs
 | .rol xs => flatL xs
 | _ => true
def flatL : List D → Bool
 | [] => true
 | d :: ds => flat d && flatL ds
end
def pdS (S : Sto) (d : D) : Option PyData := match d with
 | .ref n => (boxAt S n).bind fun ds => if flatL ds = true then some (.list (pdL ds)) else none
 | d => if flat d = true then some (pd d) else none
mutual
theorem Rep.dp : ∀ (d : D) (v : V), Rep c m d v → flat d = true → Dp c.K m.H v (pd d)
 | .non, v, h, _ => by rw [show v = .non from h]; exact .non
 | .bl b, v, h, _ => by rw [show v = .bl b from h]; exact .bl b
 | .int b, v, h, _ => by rw [show v = .int b from h]; exact .int b
 | .str b, v, h, _ => by rw [show v = .str b from h]; exact .str b
 | .tup ds, v, h, b => by
  obtain ⟨a, xs, rfl, h1, h2⟩ := h
  exact .tup h1 (RepL.dp ds xs h2 (by simpa [flat] using b))
 | .lst ds, v, h, b => by
  obtain ⟨a, xs, rfl, h1, h2⟩ := h
  exact .lst h1.sq (RepL.dp ds xs h2 (by simpa [flat] using b))
 | .rol ds, v, h, b => by
  obtain ⟨a, xs, rfl, h1, h2⟩ := h
  exact .lst h1.sq (RepL.dp ds xs h2 (by simpa [flat] using b))
 | .dic _ _, v, h, b => by simp [flat] at b
 | .ref _, v, h, b => by simp [flat] at b
 | .tag _ _, v, h, b => by simp [flat] at b
 | .dref _, v, h, b => by simp [flat] at b
theorem RepL.dp : ∀ (ds : List D) (vs : List V), RepL c m ds vs → flatL ds = true → DpAll c.K m.H vs (pdL ds)
 | [], vs, h, _ => by rw [show vs = [] from h]; exact .nil
 | d :: ds, vs, h, b => by
  obtain ⟨y, r, rfl, h1, h2⟩ := h
  have b : flat d = true ∧ flatL ds = true := by simpa [flatL] using b
  exact .cons (Rep.dp d y h1 b.1) (RepL.dp ds r h2 b.2)
end
theorem pdS_inv {S : Sto} {d : D} {p : PyData} (e : pdS S d = some p) : (∃ n ds, d = .ref n ∧ boxAt S n = some ds ∧ flatL ds = true ∧ p = .list (pdL ds)) ∨ (flat d = true ∧ pd d = p) := by
 unfold pdS at e
 split at e
 ·obtain ⟨ds, h1, h2⟩ := Option.bind_eq_some_iff.mp e
  obtain ⟨hf, rfl⟩ := ite_some h2
  exact .inl ⟨_, ds, rfl, h1, hf, rfl⟩
 ·exact .inr (ite_some e)
theorem Sim.dp (s : Sim c m) {d : D} {v : V} {p : PyData} (h : Rep c m d v) (e : pdS m.S d = some p) : Dp c.K m.H v p := by
 rcases pdS_inv e with ⟨n, ds, rfl, h1, hf, rfl⟩ | ⟨hf, rfl⟩
 ·obtain ⟨hl, xs, hx, rl⟩ := s.at h1
  rw [h.2]
  exact .lst (SqL.of hx) (RepL.dp ds xs rl hf)
 ·exact Rep.dp _ v h hf
def fEq : F2 := fun S a b => match a, b with
 | .int i, .int j => some (.bl (decide (i = j)))
 | .str x, .str y => some (.bl (decide (x = y)))
 | a, b => (pdS S a).bind fun p => (pdS S b).bind fun q => if (SeqAt.shaped p && SeqAt.shaped q) = true then some (.bl (PyData.eqv p q)) else none
def fNe : F2 := fun S a b => (fEq S a b).bind fun d => match d with
 | .bl t => some (.bl (!t))
 | _ => none
theorem fEq_bl {S : Sto} {a b d : D} (h : fEq S a b = some d) : (∃ i j, a = .int i ∧ b = .int j ∧ d = .bl (decide (i = j))) ∨ (∃ i j, a = .str i ∧ b = .str j ∧ d = .bl (decide (i = j))) ∨
  ∃ p q, pdS S a = some p ∧ pdS S b = some q ∧ SeqAt.shaped p = true ∧ SeqAt.shaped q = true ∧ d = .bl (PyData.eqv p q) := by
 have gen : (pdS S a).bind (fun p => (pdS S b).bind fun q => if (SeqAt.shaped p && SeqAt.shaped q) = true then some (D.bl (PyData.eqv p q)) else none) = some d →
   ∃ p q, pdS S a = some p ∧ pdS S b = some q ∧ SeqAt.shaped p = true ∧ SeqAt.shaped q = true ∧ d = .bl (PyData.eqv p q) := fun z => by
  obtain ⟨p, h1, z⟩ := Option.bind_eq_some_iff.mp z
  obtain ⟨q, h2, z⟩ := Option.bind_eq_some_iff.mp z
  obtain ⟨hz, rfl⟩ := ite_some z
  have hz := Bool.and_eq_true_iff.mp hz
  exact ⟨p, q, h1, h2, hz.1, hz.2, rfl⟩
 cases a with
 | int i =>
  cases b with
  | int j => cases h; exact .inl ⟨_, _, rfl, rfl, rfl⟩
  | _ => exact .inr (.inr (gen h))
 | str i =>
  cases b with
  | str j => cases h; exact .inr (.inl ⟨_, _, rfl, rfl, rfl⟩)
  | _ => exact .inr (.inr (gen h))
 | _ => cases b <;> exact .inr (.inr (gen h))
theorem dec_V_int {i j : Int} : decide (V.int i = V.int j) = decide (i = j) := by
 by_cases h : i = j
 ·subst h; simp
 ·rw [decide_eq_false h, decide_eq_false (fun z => h (V.int.inj z))]
theorem dec_V_str {i j : Str} : decide (V.str i = V.str j) = decide (i = j) := by
 by_cases h : i = j
 ·subst h; simp
 ·rw [decide_eq_false h, decide_eq_false (fun z => h (V.str.inj z))]
theorem o_eq (hu : X.A.units + 64 < cLine) : OpR X (compareOp .Eq) (r2 X.K fEq) := by
 rintro pins s σ H x y v u Q I rx ry ⟨Z, m, a, b, d, rfl, si, ra, rb, hf, q⟩
 rcases fEq_bl hf with ⟨i, j, rfl, rfl, rfl⟩ | ⟨i, j, rfl, rfl, rfl⟩ | ⟨p, r, h1, h2, h3, h4, rfl⟩
 ·cases ra; cases rb
  exact op_eq pins s σ m.H _ _ v u Q I rx ry ⟨rfl, by rw [dec_V_int]; exact q m _ rfl (.refl si) rfl⟩
 ·cases ra; cases rb
  exact op_eq pins s σ m.H _ _ v u Q I rx ry ⟨rfl, by rw [dec_V_str]; exact q m _ rfl (.refl si) rfl⟩
 ·exact op_eqD hu pins s σ m.H _ _ v u Q I rx ry ⟨p, r, si.dp ra h1, si.dp rb h2, h3, h4, q m _ rfl (.refl si) rfl⟩
theorem o_ne (hu : X.A.units + 64 < cLine) : OpR X (compareOp .NotEq) (r2 X.K fNe) := by
 rintro pins s σ H x y v u Q I rx ry ⟨Z, m, a, b, d, rfl, si, ra, rb, hf, q⟩
 obtain ⟨d', hf, hd⟩ := Option.bind_eq_some_iff.mp hf
 rcases fEq_bl hf with ⟨i, j, rfl, rfl, rfl⟩ | ⟨i, j, rfl, rfl, rfl⟩ | ⟨p, r, h1, h2, h3, h4, rfl⟩
 ·cases ra; cases rb; cases hd
  exact op_ne pins s σ m.H _ _ v u Q I rx ry ⟨rfl, by rw [dec_V_int]; exact q m _ rfl (.refl si) rfl⟩
 ·cases ra; cases rb; cases hd
  exact op_ne pins s σ m.H _ _ v u Q I rx ry ⟨rfl, by rw [dec_V_str]; exact q m _ rfl (.refl si) rfl⟩
 ·cases hd
  exact op_neD hu pins s σ m.H _ _ v u Q I rx ry ⟨p, r, si.dp ra h1, si.dp rb h2, h3, h4, q m _ rfl (.refl si) rfl⟩
def isNon : D → Bool
 | .non => true
 | _ => false
theorem Rep.non_iff {d : D} {v : V} (h : Rep c m d v) : decide (v = V.non) = isNon d := by
 cases d with
 | non => rw [show v = .non from h]; rfl
 | bl b => rw [show v = .bl b from h]; rfl
 | int b => rw [show v = .int b from h]; rfl
 | str b => rw [show v = .str b from h]; rfl
 | tup ds => obtain ⟨a, xs, rfl, _⟩ := h; rfl
 | lst ds => obtain ⟨a, xs, rfl, _⟩ := h; rfl
 | rol ds => obtain ⟨a, xs, rfl, _⟩ := h; rfl
 | tag k ds => obtain ⟨a, xs, rfl, _⟩ := h; rfl
 | dic ks ds => obtain ⟨a, xs, rfl, _⟩ := h; rfl
 | ref n => rw [h.2]; rfl
 | dref n => rw [h.2]; rfl
def fIs : F2 := fun _ a b => match b with
 | .non => some (.bl (isNon a))
 | .bl t => match a with
   | .bl u => some (.bl (decide (u = t)))
   | _ => none
 | _ => none
def fIsNot : F2 := fun S a b => (fIs S a b).bind fun d => match d with
 | .bl t => some (.bl (!t))
 | _ => none
theorem o_is : OpR X (compareOp .Is) (r2 X.K fIs) := by
 rintro pins s σ H x y v u Q I rx ry ⟨Z, m, a, b, d, rfl, si, ra, rb, hf, q⟩
 cases b <;> first | exact no2 hf | skip
 ·cases hf
  exact op_isN pins s σ m.H _ _ v u Q I rx ry ⟨rb, by rw [ra.non_iff]; exact q m _ rfl (.refl si) rfl⟩
 ·cases a <;> first | exact no2 hf | skip
  cases hf
  exact op_isBl pins s σ m.H _ _ v u Q I rx ry ⟨_, _, ra, rb, q m _ rfl (.refl si) rfl⟩
theorem o_isNot : OpR X (compareOp .IsNot) (r2 X.K fIsNot) := by
 rintro pins s σ H x y v u Q I rx ry ⟨Z, m, a, b, d, rfl, si, ra, rb, hf, q⟩
 obtain ⟨d', hf, hd⟩ := Option.bind_eq_some_iff.mp hf
 cases b <;> first | exact no2 hf | skip
 ·cases hf; cases hd
  exact op_notN pins s σ m.H _ _ v u Q I rx ry ⟨rb, by rw [ra.non_iff]; exact q m _ rfl (.refl si) rfl⟩
 ·cases a <;> first | exact no2 hf | skip
  cases hf; cases hd
  exact op_notBl pins s σ m.H _ _ v u Q I rx ry ⟨_, _, ra, rb, q m _ rfl (.refl si) rfl⟩
def listOf (S : Sto) : D → Option (List D)
 | .lst ds => some ds
 | .rol ds => some ds
 | .ref n => boxAt S n
 | _ => none
def seqOf (S : Sto) : D → Option (List D)
 | .tup ds => some ds
 | d => listOf S d
theorem Sim.list (s : Sim c m) {d : D} {v : V} {ds : List D} (h : Rep c m d v) (e : listOf m.S d = some ds) : ∃ p xs, v = .ref p ∧ SqL c.K m.H p xs ∧ RepL c m ds xs := by
 cases d <;> first | exact no2 e | skip
 ·cases e
  obtain ⟨a, xs, rfl, h1, h2⟩ := h
  exact ⟨a, xs, rfl, h1.sq, h2⟩
 ·cases e
  obtain ⟨a, xs, rfl, h1, h2⟩ := h
  exact ⟨a, xs, rfl, h1.sq, h2⟩
 ·obtain ⟨hl, xs, hx, rl⟩ := s.at (show boxAt m.S _ = some ds from e)
  exact ⟨_, xs, h.2, SqL.of hx, rl⟩
theorem Sim.seq (s : Sim c m) {d : D} {v : V} {ds : List D} (h : Rep c m d v) (e : seqOf m.S d = some ds) : ∃ p xs, v = .ref p ∧ (SqL c.K m.H p xs ∨ SqT c.K m.H p xs) ∧ RepL c m ds xs := by
 cases d with
 | tup es =>
  cases e
  obtain ⟨a, xs, rfl, h1, h2⟩ := h
  exact ⟨a, xs, rfl, .inr h1, h2⟩
 | _ =>
  obtain ⟨p, xs, h1, h2, h3⟩ := s.list h (show listOf m.S _ = some ds from e)
  exact ⟨p, xs, h1, .inl h2, h3⟩
def fIx : F2 := fun S a b => match a, b with
 | .str z, .int i => if szOk z.length = true then (atI z.cps.toList i).map fun c => .str ⟨#[c]⟩ else none
 | a, .int i => (seqOf S a).bind fun ds => atI ds i
 | _, _ => none
theorem RepL.atI {ds : List D} {vs : List V} {i : Int} {d : D} (h : RepL c m ds vs) (e : L2.atI ds i = some d) : ∃ v, L2.atI vs i = some v ∧ Rep c m d v := by
 unfold L2.atI at e ⊢
 obtain ⟨j, h1, h2⟩ := Option.bind_eq_some_iff.mp e
 obtain ⟨v, h3, h4⟩ := h.get h2
 exact ⟨v, by rw [h.len, h1]; exact h3, h4⟩
theorem fIx_inv {S : Sto} {a b d : D} (h : fIx S a b = some d) : (∃ z i c, a = .str z ∧ b = .int i ∧ szOk z.length = true ∧ atI z.cps.toList i = some c ∧ d = .str ⟨#[c]⟩) ∨ ∃ ds i, b = .int i ∧ seqOf S a = some ds ∧ atI ds i = some d := by
 have gen : ∀ i, (seqOf S a).bind (fun ds => atI ds i) = some d → ∃ ds, seqOf S a = some ds ∧ atI ds i = some d := fun i z => by
  obtain ⟨ds, h1, z⟩ := Option.bind_eq_some_iff.mp z
  exact ⟨ds, h1, z⟩
 cases b <;> first | (cases a <;> exact no2 h) | skip
 rename_i i
 cases a with
 | str z =>
  have h : (if szOk z.length = true then _ else _) = some d := h
  split at h
  ·rename_i hz
   obtain ⟨cc, h1, rfl⟩ := Option.map_eq_some_iff.mp h
   exact .inl ⟨z, i, cc, rfl, rfl, hz, h1, rfl⟩
  ·cases h
 | _ =>
  obtain ⟨ds, h1, h2⟩ := gen i h
  exact .inr ⟨ds, i, rfl, h1, h2⟩
theorem o_ix : IxR X (r2 X.K fIx) := by
 rintro e1 e2 pins s σ H x y v u Q I rx ry ⟨Z, m, a, b, d, rfl, si, ra, rb, hf, q⟩ hs0
 rcases fIx_inv hf with ⟨z, i, cc, rfl, rfl, hz, h1, rfl⟩ | ⟨ds, i, rfl, h1, h2⟩
 ·exact ix_str e1 e2 pins s σ m.H x y v u Q I rx ry ⟨z, i, cc, ra, rb, szOk_le hz, h1, q m _ rfl (.refl si) rfl⟩ hs0
 ·obtain ⟨p, xs, rfl, hs, rl⟩ := si.seq ra h1
  obtain ⟨w, hw, rw⟩ := rl.atI h2
  rcases hs with hs | hs
  ·exact ix_list e1 e2 pins s σ m.H _ y v u Q I rx ry ⟨p, xs, i, w, rfl, rb, hs, hw, q m _ rfl (.refl si) rw⟩ hs0
  ·exact ix_tup e1 e2 pins s σ m.H _ y v u Q I rx ry ⟨p, xs, i, w, rfl, rb, hs, hw, q m _ rfl (.refl si) rw⟩ hs0
def cutD (ds : List D) (lo hi : Option Int) : List D := (ds.drop (HT.sIx ds.length 0 lo)).take (HT.sIx ds.length ds.length hi - HT.sIx ds.length 0 lo)
theorem RepL.cutV {ds : List D} {xs : List V} (h : RepL c m ds xs) (lo hi : Option Int) : RepL c m (cutD ds lo hi) (L2.cutV xs lo hi) := by
 unfold cutD L2.cutV
 rw [h.len]
 exact (h.drop _).take _
def fSlT : FS := fun _ a lo hi => match a with
 | .tup ds => some (.tup (cutD ds lo hi))
 | _ => none
def fSlL : FSL := fun S a lo hi => (listOf S a).map fun ds => cutD ds lo hi
theorem s_tup : SlR X (rS X.K fSlT) := by
 rintro pins s σ H x v vl vu lo hi sl Q I rx hs pl pu ⟨Z, m, a, d, rfl, si, ra, hf, q⟩
 cases a <;> first | exact no2 hf | skip
 cases hf
 obtain ⟨p, xs, rfl, h1, h2⟩ := ra
 refine sl_tupA pins s σ m.H _ v vl vu lo hi sl Q I rx hs pl pu ⟨p, xs, rfl, h1, fun ⟨e1, e2⟩ => ?_, fun _ p' hp => ?_⟩
 ·refine q m _ rfl (.refl si) ⟨p, xs, rfl, h1, ?_⟩
  have e : L2.cutV xs lo hi = xs := by
   unfold L2.cutV
   rw [e1, e2]
   simp
  have := h2.cutV lo hi
  rw [e] at this
  exact this
 ·exact q ⟨m.r, m.S, upd m.H p' (.tup _)⟩ _ rfl (.laid si hp) (Rep.newTup si hp (h2.cutV lo hi))
def ownOf (S : Sto) : D → Option (List D)
 | .lst ds => some ds
 | .ref n => boxAt S n
 | _ => none
theorem Sim.own (s : Sim c m) {d : D} {v : V} {ds : List D} (h : Rep c m d v) (e : ownOf m.S d = some ds) : ∃ p xs, v = .ref p ∧ m.H p = some (.lst xs) ∧ RepL c m ds xs := by
 cases d <;> first | exact no2 e | skip
 ·cases e
  obtain ⟨a, xs, rfl, h1, h2⟩ := h
  exact ⟨a, xs, rfl, h1.1, h2⟩
 ·obtain ⟨hl, xs, hx, rl⟩ := s.at (show boxAt m.S _ = some ds from e)
  exact ⟨_, xs, h.2, hx, rl⟩
def fAddL : F2L := fun S a b => (ownOf S a).bind fun x => (ownOf S b).bind fun y => if szOk (x.length + y.length) = true then some (x ++ y) else none
theorem o_addL : OpR X (binaryOp .Add) (r2L X.K fAddL) := by
 rintro pins s σ H x y v u Q I rx ry ⟨Z, m, a, b, d, rfl, si, ra, rb, hf, q⟩
 obtain ⟨da, h1, hf⟩ := Option.bind_eq_some_iff.mp hf
 obtain ⟨db, h2, hf⟩ := Option.bind_eq_some_iff.mp hf
 obtain ⟨hz, rfl⟩ := ite_some hf
 obtain ⟨p1, xs, rfl, e1, l1⟩ := si.own ra h1
 obtain ⟨p2, ys, rfl, e2, l2⟩ := si.own rb h2
 exact op_cat pins s σ m.H _ _ v u Q I rx ry ⟨p1, p2, xs, ys, rfl, rfl, e1, e2, by rw [l1.len, l2.len]; exact szOk_le hz, fun p hp => q m p _ rfl (.refl si) (l1.app l2) hp⟩
def fMulL : F2L := fun S a b => (ownOf S a).bind fun x => match b with
 | .int k => if (decide (0 ≤ k) && decide (k ≤ 100000) && szOk (x.length * k.toNat)) = true then some (List.replicate k.toNat x).flatten else none
 | _ => none
end
section
variable {X : Cx} {K : PySem.W.Frag} {c : C} {m : M}
theorem RepL.one_inv {d : D} {xs : List V} (h : RepL c m [d] xs) : ∃ x, xs = [x] ∧ Rep c m d x := by
 obtain ⟨x, r, rfl, h1, h2⟩ := h
 cases h2
 exact ⟨x, rfl, h1⟩
theorem RepL.two_inv {d e : D} {xs : List V} (h : RepL c m [d, e] xs) : ∃ x y, xs = [x, y] ∧ Rep c m d x ∧ Rep c m e y := by
 obtain ⟨x, r, rfl, h1, h2⟩ := h
 obtain ⟨y, rfl, h3⟩ := h2.one_inv
 exact ⟨x, y, rfl, h1, h3⟩
def fn1 (f : F1) : FN := fun S ds => match ds with
 | [d] => f S d
 | _ => none
def fn2 (f : F2) : FN := fun S ds => match ds with
 | [d, e] => f S d e
 | _ => none
def fnl1 (f : Sto → D → Option (List D)) : FNL := fun S ds => match ds with
 | [d] => f S d
 | _ => none
theorem fn1_inv {f : F1} {S : Sto} {ds : List D} {r : D} (h : fn1 f S ds = some r) : ∃ d, ds = [d] ∧ f S d = some r := by
 unfold fn1 at h
 split at h
 ·exact ⟨_, rfl, h⟩
 ·cases h
theorem fn2_inv {f : F2} {S : Sto} {ds : List D} {r : D} (h : fn2 f S ds = some r) : ∃ d e, ds = [d, e] ∧ f S d e = some r := by
 unfold fn2 at h
 split at h
 ·exact ⟨_, _, rfl, h⟩
 ·cases h
def gLen : F1 := fun S d => match d with
 | .str z => if szOk z.length = true then some (.int z.length) else none
 | d => (seqOf S d).map fun ds => .int ds.length
theorem gLen_inv {S : Sto} {d r : D} (h : gLen S d = some r) : (∃ z, d = .str z ∧ szOk z.length = true ∧ r = .int z.length) ∨ ∃ ds, seqOf S d = some ds ∧ r = .int ds.length := by
 unfold gLen at h
 split at h
 ·obtain ⟨hz, rfl⟩ := ite_some h
  exact .inl ⟨_, rfl, hz, rfl⟩
 ·obtain ⟨ds, h1, rfl⟩ := Option.map_eq_some_iff.mp h
  exact .inr ⟨ds, h1, rfl⟩
theorem b_len : CallR X (.builtin "len") (rN X.K (fn1 gLen)) := by
 rintro pins s σ H xs us Q I r ⟨Z, m, as, d, rfl, si, ra, hf, q⟩
 obtain ⟨a, rfl, hf⟩ := fn1_inv hf
 obtain ⟨x, rfl, rx⟩ := ra.one_inv
 rcases gLen_inv hf with ⟨z, rfl, hz, rfl⟩ | ⟨ds, h1, rfl⟩
 ·cases rx
  exact call_len_str pins s σ m.H _ us Q I r ⟨z, rfl, szOk_le hz, q m _ rfl (.refl si) rfl⟩
 ·obtain ⟨p, ys, rfl, hs, rl⟩ := si.seq rx h1
  exact call_len_seq pins s σ m.H _ us Q I r ⟨p, ys, rfl, hs, by rw [rl.len]; exact q m _ rfl (.refl si) rfl⟩
def gAbs : F1 := fun _ d => match d with
 | .int i => some (.int (if i < 0 then -i else i))
 | _ => none
theorem b_abs : CallR X (.builtin "abs") (rN X.K (fn1 gAbs)) := by
 rintro pins s σ H xs us Q I r ⟨Z, m, as, d, rfl, si, ra, hf, q⟩
 obtain ⟨a, rfl, hf⟩ := fn1_inv hf
 obtain ⟨x, rfl, rx⟩ := ra.one_inv
 cases a <;> first | exact no2 hf | skip
 cases hf
 cases rx
 exact call_abs pins s σ m.H _ us Q I r ⟨_, rfl, q m _ rfl (.refl si) rfl⟩
def gMax2 : F2 := fun _ a b => match a, b with
 | .int i, .int j => some (.int (if j > i then j else i))
 | _, _ => none
def gMin2 : F2 := fun _ a b => match a, b with
 | .int i, .int j => some (.int (if j < i then j else i))
 | _, _ => none
theorem b_max2 (hc : X.calm = true) : CallR X (.builtin "max") (rN X.K (fn2 gMax2)) := by
 rintro pins s σ H xs us Q I r ⟨Z, m, as, d, rfl, si, ra, hf, q⟩
 obtain ⟨a, b, rfl, hf⟩ := fn2_inv hf
 obtain ⟨x, y, rfl, rx, ry⟩ := ra.two_inv
 cases a <;> cases b <;> first | exact no2 hf | skip
 cases hf; cases rx; cases ry
 exact call_max2 hc pins s σ m.H _ us Q I r ⟨_, _, rfl, q m _ rfl (.refl si) rfl⟩
theorem b_min2 (hc : X.calm = true) : CallR X (.builtin "min") (rN X.K (fn2 gMin2)) := by
 rintro pins s σ H xs us Q I r ⟨Z, m, as, d, rfl, si, ra, hf, q⟩
 obtain ⟨a, b, rfl, hf⟩ := fn2_inv hf
 obtain ⟨x, y, rfl, rx, ry⟩ := ra.two_inv
 cases a <;> cases b <;> first | exact no2 hf | skip
 cases hf; cases rx; cases ry
 exact call_min2 hc pins s σ m.H _ us Q I r ⟨_, _, rfl, q m _ rfl (.refl si) rfl⟩
def gInt : F1 := fun _ d => match d with
 | .int i => some (.int i)
 | .bl b => some (.int (if b then 1 else 0))
 | _ => none
theorem b_int : CallR X (.type "int") (rN X.K (fn1 gInt)) := by
 rintro pins s σ H xs us Q I r ⟨Z, m, as, d, rfl, si, ra, hf, q⟩
 obtain ⟨a, rfl, hf⟩ := fn1_inv hf
 obtain ⟨x, rfl, rx⟩ := ra.one_inv
 cases a <;> first | exact no2 hf | skip
 ·cases hf; cases rx
  exact call_int1 pins s σ m.H _ us Q I r (.inr ⟨_, rfl, q m _ rfl (.refl si) rfl⟩)
 ·cases hf; cases rx
  exact call_int1 pins s σ m.H _ us Q I r (.inl ⟨_, rfl, q m _ rfl (.refl si) rfl⟩)
def gTuple : F1 := fun S d => (seqOf S d).map .tup
theorem b_tuple : CallR X (.type "tuple") (rN X.K (fn1 gTuple)) := by
 rintro pins s σ H xs us Q I r ⟨Z, m, as, d, rfl, si, ra, hf, q⟩
 obtain ⟨a, rfl, hf⟩ := fn1_inv hf
 obtain ⟨x, rfl, rx⟩ := ra.one_inv
 obtain ⟨ds, h1, rfl⟩ := Option.map_eq_some_iff.mp hf
 obtain ⟨p, ys, rfl, hs, rl⟩ := si.seq rx h1
 refine call_tuple_of pins s σ m.H _ us Q I r ⟨p, ys, rfl, ?_⟩
 rcases hs with hs | hs
 ·exact .inl ⟨hs, fun l hl => q ⟨m.r, m.S, upd m.H l (.tup ys)⟩ _ rfl (.laid si hl) (Rep.newTup si hl rl)⟩
 ·exact .inr ⟨hs, q m _ rfl (.refl si) ⟨p, ys, rfl, hs, rl⟩⟩
def gList : Sto → D → Option (List D) := seqOf
def intsOf : List D → Option (List Int)
 | [] => some []
 | .int i :: ds => (intsOf ds).map (i :: ·)
 | _ => none
def boolsOf : List D → Option (List Bool)
 | [] => some []
 | .bl i :: ds => (boolsOf ds).map (i :: ·)
 | _ => none
theorem intsOf_inv : ∀ {ds : List D} {ns : List Int}, intsOf ds = some ns → ds = ns.map D.int
 | [], ns, h => by cases h; rfl
 | d :: ds, ns, h => by
  cases d <;> first | exact no2 h | skip
  obtain ⟨ms, h1, rfl⟩ := Option.map_eq_some_iff.mp (show (intsOf ds).map _ = some ns from h)
  rw [intsOf_inv h1]
  rfl
theorem boolsOf_inv : ∀ {ds : List D} {ns : List Bool}, boolsOf ds = some ns → ds = ns.map D.bl
 | [], ns, h => by cases h; rfl
 | d :: ds, ns, h => by
  cases d <;> first | exact no2 h | skip
  obtain ⟨ms, h1, rfl⟩ := Option.map_eq_some_iff.mp (show (boolsOf ds).map _ = some ns from h)
  rw [boolsOf_inv h1]
  rfl
theorem intsOf_map : ∀ ns : List Int, intsOf (ns.map D.int) = some ns
 | [] => rfl
 | n :: ns => by show (intsOf (ns.map D.int)).map _ = _; rw [intsOf_map ns]; rfl
theorem boolsOf_map : ∀ ns : List Bool, boolsOf (ns.map D.bl) = some ns
 | [] => rfl
 | n :: ns => by show (boolsOf (ns.map D.bl)).map _ = _; rw [boolsOf_map ns]; rfl
theorem RepL.ints : ∀ {ns : List Int} {xs : List V}, RepL c m (ns.map D.int) xs → xs = ns.map V.int
 | [], xs, h => h
 | n :: ns, xs, h => by
  obtain ⟨x, r, rfl, h1, h2⟩ := h
  rw [show x = .int n from h1, RepL.ints h2]
  rfl
theorem RepL.bools : ∀ {ns : List Bool} {xs : List V}, RepL c m (ns.map D.bl) xs → xs = ns.map V.bl
 | [], xs, h => h
 | n :: ns, xs, h => by
  obtain ⟨x, r, rfl, h1, h2⟩ := h
  rw [show x = .bl n from h1, RepL.bools h2]
  rfl
theorem RepL.ofInts : ∀ (ns : List Int), RepL c m (ns.map D.int) (ns.map V.int)
 | [] => rfl
 | n :: ns => ⟨_, _, rfl, rfl, RepL.ofInts ns⟩
def gSum : F1 := fun S d => (seqOf S d).bind fun ds => (intsOf ds).map fun ns => .int ns.sum
theorem sum_tup {prog : Program} {w : World} {A : Around} {E : Value → Shared → Prop} {s : Shared} {l : Addr} {its : List Value} {ns : List Int} {Q : Value → Shared → Prop} (hh : A.handled = none) (hl : s.heap.IsTuple l its.toArray) (hi : IntsAre its ns)
  (h : ∀ h' tk t', (∀ b o, s.heap.get? b = some o → h'.get? b = some o) → Q (.int ns.sum t') { s with heap := h', toks := tk }) : wpAny (model prog w) A (call (.builtin "sum") [.ref l]) Q E s := by
 obtain ⟨xs, hx⟩ := hi.allInts.items
 have hn : numsOf its.toArray.toList = ns := by rw [show its.toArray.toList = its from rfl, hi.numsOf]
 rw [hx] at hl hn
 rw [nums_intItems] at hn
 refine PySem.W.ktm_sumG hh hl fun h' tk t' hk => ?_
 have z := h h' tk t' hk
 rw [preSum_eq, List.take_of_length_le (by simp), hn]
 exact z
theorem b_sum (hc : X.calm = true) : CallR X (.builtin "sum") (rN X.K (fn1 gSum)) := by
 rintro pins s σ H xs us Q I r ⟨Z, m, as, d, rfl, si, ra, hf, q⟩
 obtain ⟨a, rfl, hf⟩ := fn1_inv hf
 obtain ⟨x, rfl, rx⟩ := ra.one_inv
 obtain ⟨ds, h1, hf⟩ := Option.bind_eq_some_iff.mp hf
 obtain ⟨ns, h2, rfl⟩ := Option.map_eq_some_iff.mp hf
 obtain ⟨p, ys, rfl, hs, rl⟩ := si.seq rx h1
 rw [intsOf_inv h2] at rl
 rcases hs with hs | hs
 ·exact cr_sum hc pins s σ m.H _ us Q I r ⟨p, ns, rfl, by rw [← rl.ints]; exact hs, q m _ rfl (.refl si) rfl⟩
 ·rw [rl.ints] at hs
  obtain ⟨its, rv, ht, hz⟩ := I.tuple hs
  rw [Vals.ref1 r]
  exact sum_tup (I.ok.hd hc) ht rv.ints fun h' tk t' hk => ⟨.int ns.sum, m.H, I.kept hk, ⟨t', rfl⟩, q m _ rfl (.refl si) rfl⟩
def maxL : List Int → Int
 | [] => 0
 | n :: ns => ns.foldl max n
def minL : List Int → Int
 | [] => 0
 | n :: ns => ns.foldl min n
def gMax1 : F1 := fun S d => (listOf S d).bind fun ds => (intsOf ds).bind fun ns => if 0 < ns.length then some (.int (maxL ns)) else none
def gMin1 : F1 := fun S d => (listOf S d).bind fun ds => (intsOf ds).bind fun ns => if 0 < ns.length then some (.int (minL ns)) else none
def gAll : F1 := fun S d => (listOf S d).bind fun ds => (boolsOf ds).map fun bs => .bl (bs.all id)
def gAny : F1 := fun S d => (listOf S d).bind fun ds => (boolsOf ds).map fun bs => .bl (bs.any id)
theorem b_all (hc : X.calm = true) : CallR X (.builtin "all") (rN X.K (fn1 gAll)) := by
 rintro pins s σ H xs us Q I r ⟨Z, m, as, d, rfl, si, ra, hf, q⟩
 obtain ⟨a, rfl, hf⟩ := fn1_inv hf
 obtain ⟨x, rfl, rx⟩ := ra.one_inv
 obtain ⟨ds, h1, hf⟩ := Option.bind_eq_some_iff.mp hf
 obtain ⟨ns, h2, rfl⟩ := Option.map_eq_some_iff.mp hf
 obtain ⟨p, ys, rfl, hs, rl⟩ := si.list rx h1
 rw [boolsOf_inv h2] at rl
 exact cr_all hc pins s σ m.H _ us Q I r ⟨p, ns, rfl, by rw [← rl.bools]; exact hs, q m _ rfl (.refl si) rfl⟩
theorem b_any (hc : X.calm = true) : CallR X (.builtin "any") (rN X.K (fn1 gAny)) := by
 rintro pins s σ H xs us Q I r ⟨Z, m, as, d, rfl, si, ra, hf, q⟩
 obtain ⟨a, rfl, hf⟩ := fn1_inv hf
 obtain ⟨x, rfl, rx⟩ := ra.one_inv
 obtain ⟨ds, h1, hf⟩ := Option.bind_eq_some_iff.mp hf
 obtain ⟨ns, h2, rfl⟩ := Option.map_eq_some_iff.mp hf
 obtain ⟨p, ys, rfl, hs, rl⟩ := si.list rx h1
 rw [boolsOf_inv h2] at rl
 exact cr_any hc pins s σ m.H _ us Q I r ⟨p, ns, rfl, by rw [← rl.bools]; exact hs, q m _ rfl (.refl si) rfl⟩
def tyN : D → String
 | .non => "NoneType"
 | .bl _ => "bool"
 | .int _ => "int"
 | .str _ => "str"
 | .tup _ => "tuple"
 | .lst _ => "list"
 | .rol _ => "list"
 | .dic _ _ => "dict"
 | .tag 0 _ => "tuple"
 | .tag (_ + 1) _ => ""
 | .dref _ => "dict"
 | .ref _ => "list"
theorem Sim.ty (s : Sim c m) {d : D} {v : V} (h : Rep c m d v) (hx : ∀ k xs, d ≠ .tag (k + 1) xs) : TyX c.K m.H v (.type (tyN d)) := by
 cases d with
 | non => rw [show v = .non from h]; exact .base .non
 | bl b => rw [show v = .bl b from h]; exact .base (.bl b)
 | int b => rw [show v = .int b from h]; exact .base (.int b)
 | str b => rw [show v = .str b from h]; exact .base (.str b)
 | tup ds =>
  obtain ⟨a, xs, rfl, h1, _⟩ := h
  rcases h1 with (h1 | ⟨o, h1⟩) | ⟨o, its, n, h1, h2, _⟩
  ·exact .base (.tup h1)
  ·exact .fTuple h1
  ·exact .kTuple h1 h2
 | lst ds =>
  obtain ⟨a, xs, rfl, h1, _⟩ := h
  exact .base (.lst h1.1)
 | rol ds =>
  obtain ⟨a, xs, rfl, h1, _⟩ := h
  rcases h1 with ⟨o, h1⟩ | ⟨o, its, n, h1, h2, _⟩
  ·exact .base (.frz h1)
  ·exact .kList h1 h2
 | dic ks ds =>
  obtain ⟨a, xs, rfl, h1, _⟩ := h
  exact .base (.dK h1.1)
 | ref n =>
  rw [h.2]
  obtain ⟨ds, hd⟩ := h.1
  obtain ⟨xs, e, _⟩ := s.boxL hd
  exact .base (.lst e)
 | dref n =>
  obtain ⟨⟨o, hd, hk⟩, rfl⟩ := h
  obtain ⟨xs, e, _⟩ := s.obj n o hd
  cases o with
  | lst ds => exact (hk rfl).elim
  | dk ks ds => exact .base (.dK e)
  | dt ks ds => exact .base (.dT e)
 | tag k ds =>
  obtain ⟨a, xs, rfl, h1, _⟩ := h
  cases k with
  | zero =>
   obtain ⟨o, h1, _⟩ := h1
   exact .fTuple h1
  | succ k => exact (hx _ _ rfl).elim
def gIs (T : String) : F1 := fun _ d => match d with
 | .tag (_ + 1) _ => if L2.plainT.contains T = true then some (.bl false) else none
 | d => (kitB (tyN d) T).map .bl
def rIsA (K : PySem.W.Frag) : List V → Hp → VK → Prop := fun xs H Q => rIsi K xs H Q ∨ rIsK K xs H Q ∨ rIsK0 K xs H Q
theorem call_isA {X : Cx} : CallR X (.builtin "isinstance") (rIsA X.K) := fun pins s σ H xs us Q I r h => by
 rcases h with h | h | h
 ·exact call_isi pins s σ H xs us Q I r h
 ·exact call_isK pins s σ H xs us Q I r h
 ·exact call_isK0 pins s σ H xs us Q I r h
theorem ej_isi {a : Expr} {f : EX} {T : String} {t : Str} {p p2 pos : Pos} (hg : Gl X "isinstance") (hm : X.mg "isinstance" = none) (hgt : Gl X t) (hmt : X.mg t = none) (hvt : bootBuiltins t = some (.type T)) (ha : EJ X a f)
  (hnt : t ≠ "__name__" := by decide) (hdt : (t == ("__debug__" : Str)) = false := by decide)
  (hs : starEach [a, .Name t p2] X.env = (false, eval a X.env) :: starEach [.Name t p2] X.env := by rfl) (hpl : (backTo pos (starEach [.Name t p2] X.env)).any (·.1) = false := by rfl)
  (hs2 : starEach [.Name t p2] X.env = (false, eval (.Name t p2) X.env) :: starEach [] X.env := by rfl) :
  EJ X (.Call (.Name "isinstance" p) [a, .Name t p2] [] pos) (e1 (gIs T) f) := by
 refine pe_wk (pe_callB call_isA hg hm (by decide +kernel) (pa_cons ha (pa_cons (pe_bltn (v := .ty T) hgt hmt hvt rfl hnt hdt) pa_nil hs2) hs) (by decide) (by decide) hs hpl) fun σ H Q ⟨Z, m, env, v, S', e, s, er, hf, q⟩ => ?_
 obtain ⟨x, h1, h2⟩ := e1_inv hf
 by_cases hx : ∃ k ds, x = .tag (k + 1) ds
 ·obtain ⟨k, ds, rfl⟩ := hx
  have h2 : (if L2.plainT.contains T = true then some (D.bl false) else none) = some v := h2
  split at h2
  ·rename_i hT
   cases h2
   refine ⟨Z, m, env, _, S', e, s, er, h1, fun m1 vx e1 t1 rx => .inr ?_⟩
   obtain ⟨a, us, rfl, ⟨h0, hk, ht⟩, _⟩ := rx
   have ek := hk.t T (List.contains_iff_mem.mp hT)
   have rl : ∀ u, RelV (.ty T) u → u = Value.type T := fun u z => z
   rcases ht with ⟨dd, f, w, _, g1, g2⟩ | ⟨_, g1⟩
   ·exact .inl ⟨a, xA X.K (k / 2), dd, _, .ty T, .type T, false, rfl, g1, g2, hk.c, rl, ek, q m1 _ e1 t1 rfl⟩
   ·exact .inr ⟨a, xA X.K (k / 2), .ty T, .type T, false, rfl, g1, hk.c, rl, ek, q m1 _ e1 t1 rfl⟩
  ·cases h2
 ·have hx : ∀ k ds, x ≠ .tag (k + 1) ds := fun k ds z => hx ⟨k, ds, z⟩
  have h2 : (kitB (tyN x) T).map D.bl = some v := by
   rw [← h2]
   unfold gIs
   split
   ·exact (hx _ _ rfl).elim
   ·rfl
  obtain ⟨b, h3, rfl⟩ := Option.map_eq_some_iff.mp h2
  refine ⟨Z, m, env, x, S', e, s, er, h1, fun m1 vx e1 t1 rx => .inl ?_⟩
  exact ⟨vx, .ty T, .type (tyN x), .type T, b, rfl, .ty T, t1.si.ty rx hx, kit_ty h3, q m1 _ e1 t1 rfl⟩
def flat1 : D → Bool
 | .non => true
 | .bl _ => true
 | .int _ => true
 | .str _ => true
 | _ => false
def eq1 : D → D → Bool
 | .non, .non => true
 | .bl a, .bl b => a == b
 | .bl a, .int b => (if a then 1 else 0) == b
 | .int a, .bl b => a == (if b then 1 else 0)
 | .int a, .int b => a == b
 | .str a, .str b => a == b
 | _, _ => false
theorem Rep.flatV {d : D} {v : V} (h : Rep c m d v) (f : flat1 d = true) : L2.flatV v = true ∧ ∀ {e : D} {w : V}, Rep c m e w → flat1 e = true → eqV v w = eq1 d e := by
 cases d <;> first | (exact absurd f Bool.false_ne_true) | skip
 all_goals (cases h; refine ⟨rfl, fun {e w} h2 f2 => ?_⟩; cases e <;> first | (exact absurd f2 Bool.false_ne_true) | (cases h2; rfl))
theorem RepL.flatV {d : D} {v : V} (h : Rep c m d v) (f : flat1 d = true) : ∀ {ds : List D} {vs : List V}, RepL c m ds vs → ds.all flat1 = true → vs.all L2.flatV = true ∧ inV v vs = ds.any fun e => eq1 e d
 | [], vs, r, _ => by rw [show vs = [] from r]; exact ⟨rfl, rfl⟩
 | e :: ds, vs, r, g => by
  obtain ⟨x, xr, rfl, h1, h2⟩ := r
  have g : flat1 e = true ∧ ds.all flat1 = true := by simpa using g
  obtain ⟨a1, a2⟩ := RepL.flatV h f h2 g.2
  obtain ⟨b1, b2⟩ := h1.flatV g.1
  refine ⟨by simp [b1]; simpa using a1, ?_⟩
  have a2 : (xr.any fun y => eqV y v) = ds.any fun e => eq1 e d := a2
  show (eqV x v || xr.any fun y => eqV y v) = (eq1 e d || ds.any fun e => eq1 e d)
  rw [a2, b2 h f]
def fIn : F2 := fun S a b => match a, b with
 | .str x, .str y => some (.bl (!(Builtin.Str.occurrences y x 0 y.length 1).isEmpty))
 | a, b => (seqOf S b).bind fun ds => if (flat1 a && ds.all flat1) = true then some (.bl (ds.any fun e => eq1 e a)) else
   (pdS S a).bind fun p => if (SeqAt.shaped p && flatL ds && SeqAt.shaped (.list (pdL ds)) && (listOf S b).isSome) = true then some (.bl ((pdL ds).any fun z => PyData.eqv z p)) else none
theorem fIn_inv {S : Sto} {a b d : D} (h : fIn S a b = some d) : (∃ x y, a = .str x ∧ b = .str y ∧ d = .bl (!(Builtin.Str.occurrences y x 0 y.length 1).isEmpty)) ∨
  (∃ ds, seqOf S b = some ds ∧ flat1 a = true ∧ ds.all flat1 = true ∧ d = .bl (ds.any fun e => eq1 e a)) ∨
  ∃ ds p, listOf S b = some ds ∧ pdS S a = some p ∧ SeqAt.shaped p = true ∧ flatL ds = true ∧ SeqAt.shaped (.list (pdL ds)) = true ∧ d = .bl ((pdL ds).any fun z => PyData.eqv z p) := by
 unfold fIn at h
 split at h
 ·cases h; exact .inl ⟨_, _, rfl, rfl, rfl⟩
 ·obtain ⟨ds, h1, h⟩ := Option.bind_eq_some_iff.mp h
  split at h
  ·rename_i hf
   cases h
   have hf := Bool.and_eq_true_iff.mp hf
   exact .inr (.inl ⟨ds, h1, hf.1, hf.2, rfl⟩)
  ·obtain ⟨p, h2, h⟩ := Option.bind_eq_some_iff.mp h
   obtain ⟨hz, rfl⟩ := ite_some h
   simp only [Bool.and_eq_true] at hz
   obtain ⟨⟨⟨z1, z2⟩, z3⟩, z4⟩ := hz
   obtain ⟨es, he⟩ := Option.isSome_iff_exists.mp z4
   have : es = ds := by
    cases b <;> first | exact no2 he | skip
    all_goals (exact Option.some.inj (he.symm.trans h1))
   subst this
   exact .inr (.inr ⟨es, p, he, h2, z1, z2, z3, rfl⟩)
theorem Sim.dpl (s : Sim c m) {d : D} {v : V} {ds : List D} (h : Rep c m d v) (e : listOf m.S d = some ds) (f : flatL ds = true) : Dp c.K m.H v (.list (pdL ds)) := by
 obtain ⟨p, xs, rfl, h1, h2⟩ := s.list h e
 exact .lst h1 (RepL.dp ds xs h2 f)
theorem o_in (hu : X.A.units + 65 < cLine) : OpR X (compareOp .In) (r2 X.K fIn) := by
 rintro pins s σ H x y v u Q I rx ry ⟨Z, m, a, b, d, rfl, si, ra, rb, hf, q⟩
 rcases fIn_inv hf with ⟨i, j, rfl, rfl, rfl⟩ | ⟨ds, h1, h2, h3, rfl⟩ | ⟨ds, p, h1, h2, h3, h4, h5, rfl⟩
 ·exact op_in_str pins s σ m.H x y v u Q I rx ry ⟨_, _, ra, rb, q m _ rfl (.refl si) rfl⟩
 ·obtain ⟨p, ys, rfl, hs, rl⟩ := si.seq rb h1
  obtain ⟨a1, a2⟩ := RepL.flatV ra h2 rl h3
  exact op_in_seq pins s σ m.H x _ v u Q I rx ry ⟨p, ys, rfl, hs, (ra.flatV h2).1, a1, by rw [a2]; exact q m _ rfl (.refl si) rfl⟩
 ·exact op_inD hu pins s σ m.H x y v u Q I rx ry ⟨p, pdL ds, si.dp ra h2, si.dpl rb h1 h4, h3, h5, q m _ rfl (.refl si) rfl⟩
end
section
variable {X : Cx} {K : PySem.W.Frag} {c : C} {m : M} {tg e : Expr} {f g : EX} {pos p : Pos}
theorem pi_or {w1 w2 : TI} (h1 : PI X tg e w1) (h2 : PI X tg e w2) : PI X tg e (fun σ H R => w1 σ H R ∨ w2 σ H R) := ⟨fun pins s σ H R I h => by
 rcases h with h | h
 ·exact h1.run pins s σ H R I h
 ·exact h2.run pins s σ H R I h⟩
def iSeq (f : EX) : IX := fun e S => (f e S).bind fun p => match p.1 with
 | .tup ds => some (ds, [], p.2)
 | .lst ds => some (ds, [], p.2)
 | .rol ds => some (ds, [], p.2)
 | .ref n => (boxAt p.2 n).map fun ds => (ds, [n], p.2)
 | _ => none
theorem Ex.sqT {m m' : M} (b : BoxOk m) (x : Ex m m') {a : Addr} {xs : List V} (h : SqT K m.H a xs) : SqT K m'.H a xs := by
 rcases h with h | h
 ·exact .inl (x.rd h (b.notTup h) trivial)
 ·exact .inr h
theorem it_tup {Z : List Addr} {a : Addr} {xs : List V} {ds : List D} (s : Sim ⟨K, Z⟩ m) (h : SqT K m.H a xs) (r : RepL ⟨K, Z⟩ m ds xs) : ItOk K Z m ds [] (Itt K a) := ⟨fun Z' m' hz hw x si gd i => by
 have h' : SqT K m'.H a xs := x.sqT s.bok h
 have r' : RepL ⟨K, Z'⟩ m' ds xs := RepL.mono s.bok x ds xs (RepL.widen hw ds xs r)
 refine ⟨fun hi => ⟨xs, h', by rw [r.len]; exact hi⟩, fun d hd => ?_⟩
 obtain ⟨v, hv, rv⟩ := r'.get hd
 refine ⟨⟨xs, v, h', hv⟩, fun y H3 ⟨e, hy⟩ => ?_⟩
 subst e
 have e2 := hy xs h'
 rw [hv] at e2
 cases e2
 exact ⟨m', rfl, rfl, .refl si, rv⟩⟩
theorem it_lst {Z : List Addr} {a : Addr} {ds : List D} {gs : List Nat}
  (h : ∀ Z' m', (∀ z, z ∈ Z → z ∈ Z') → (∀ z, z ∈ Z' → z ∈ Z ∨ m.H z = none) → Ex m m' → Sim ⟨K, Z'⟩ m' → (∀ n, n ∈ gs → m'.S[n]? = m.S[n]?) → ∃ xs, SqL K m'.H a xs ∧ RepL ⟨K, Z'⟩ m' ds xs) : ItOk K Z m ds gs (Itl K a) := ⟨fun Z' m' hz hw x si gd i => by
 obtain ⟨xs, h', r'⟩ := h Z' m' hz hw x si gd
 refine ⟨fun hi => ⟨xs, h', by rw [r'.len]; exact hi⟩, fun d hd => ?_⟩
 obtain ⟨v, hv, rv⟩ := r'.get hd
 refine ⟨⟨xs, v, h', hv⟩, fun y H3 ⟨e, hy⟩ => ?_⟩
 subst e
 have e2 := hy xs h'
 rw [hv] at e2
 cases e2
 exact ⟨m', rfl, rfl, .refl si, rv⟩⟩
def Stays (K : PySem.W.Frag) (Z : List Addr) (m : M) (a : Addr) (ds : List D) (gs : List Nat) : Prop :=
 ∀ Z' m', (∀ z, z ∈ Z → z ∈ Z') → (∀ z, z ∈ Z' → z ∈ Z ∨ m.H z = none) → Ex m m' → Sim ⟨K, Z'⟩ m' → (∀ n, n ∈ gs → m'.S[n]? = m.S[n]?) → ∃ xs, SqL K m'.H a xs ∧ RepL ⟨K, Z'⟩ m' ds xs
def gsOf : D → List Nat
 | .ref n => [n]
 | _ => []
theorem Sim.stays {Z : List Addr} (s : Sim ⟨K, Z⟩ m) {d : D} {v : V} {ds : List D} (h : Rep ⟨K, Z⟩ m d v) (e : listOf m.S d = some ds) : ∃ a, v = .ref a ∧ Stays K Z m a ds (gsOf d) := by
 cases d <;> first | exact no2 e | skip
 ·cases e
  obtain ⟨a, xs, rfl, h1, h2⟩ := h
  exact ⟨a, rfl, fun Z' m' hz hw x si gd => ⟨xs, SqL.of (x.pr _ _ h1.1 h1.2.1 trivial), RepL.mono s.bok x _ xs (RepL.widen hw _ xs h2)⟩⟩
 ·cases e
  obtain ⟨a, xs, rfl, h1, h2⟩ := h
  refine ⟨a, rfl, fun Z' m' hz hw x si gd => ⟨xs, ?_, RepL.mono s.bok x _ xs (RepL.widen hw _ xs h2)⟩⟩
  rcases h1 with ⟨o, h1⟩ | h1
  ·exact .inl (.inr ⟨o, x.pr _ _ h1 (s.bok.notFrz h1) trivial⟩)
  ·exact .inr h1
 ·rename_i n
  obtain ⟨h1, rfl⟩ := h.lt
  refine ⟨_, rfl, fun Z' m' hz hw x si gd => ?_⟩
  have e1 : m'.S[n]? = some (.lst ds) := by rw [gd n (List.mem_singleton.mpr rfl)]; exact boxAt_inv e
  obtain ⟨xs, h3, h4⟩ := si.obj n _ e1
  rw [x.ag n h1] at h3
  exact ⟨xs, SqL.of h3, h4⟩
theorem iSeq_inv {f : EX} {e : En} {S S' : Sto} {ds : List D} {gs : List Nat} (h : iSeq f e S = some (ds, gs, S')) : ∃ d, f e S = some (d, S') ∧ ((d = .tup ds ∧ gs = []) ∨ (listOf S' d = some ds ∧ gs = gsOf d)) := by
 unfold iSeq at h
 obtain ⟨⟨d, S1⟩, h1, h⟩ := Option.bind_eq_some_iff.mp h
 cases d <;> first | exact no2 h | skip
 ·cases h; exact ⟨_, h1, .inl ⟨rfl, rfl⟩⟩
 ·cases h; exact ⟨_, h1, .inr ⟨rfl, rfl⟩⟩
 ·cases h; exact ⟨_, h1, .inr ⟨rfl, rfl⟩⟩
 ·obtain ⟨es, h2, h3⟩ := Option.map_eq_some_iff.mp (show (boxAt S1 _).map _ = _ from h)
  cases h3
  exact ⟨_, h1, .inr ⟨h2, rfl⟩⟩
theorem ij_seq (h : EJ X e f) : IJ X tg e (iSeq f) := pi_wk (pi_or (pi_list h) (pi_tup h)) fun σ H R ⟨Z, m, env, ds, gs, S', eH, s, er, hf, q⟩ => by
 obtain ⟨d, h1, hd⟩ := iSeq_inv hf
 rcases hd with ⟨rfl, rfl⟩ | ⟨h2, rfl⟩
 ·refine .inr ⟨Z, m, env, _, S', eH, s, er, h1, fun m1 vx e1 t1 rx => ?_⟩
  obtain ⟨a, xs, rfl, h3, h4⟩ := rx
  exact ⟨a, rfl, ⟨xs, h3⟩, q m1 _ e1 t1 (it_tup t1.si h3 h4)⟩
 ·refine .inl ⟨Z, m, env, _, S', eH, s, er, h1, fun m1 vx e1 t1 rx => ?_⟩
  obtain ⟨p, xs, rfl, h3, h4⟩ := t1.si.list rx (by rw [e1]; exact h2)
  obtain ⟨a, e2, st⟩ := t1.si.stays rx (by rw [e1]; exact h2)
  cases e2
  exact ⟨p, rfl, ⟨xs, h3⟩, q m1 _ e1 t1 (it_lst st)⟩
def rgD (a b : Int) : List D := (List.range (b - a).toNat).map fun (i : Nat) => D.int (a + (i : Int))
def rgOk (i : Int) : Bool := decide (-4611686018427387904 ≤ i) && decide (i < 4611686018427387904)
theorem rgOk_inv {i : Int} (h : rgOk i = true) : -(2 ^ 62) ≤ i ∧ i < 2 ^ 62 := by
 unfold rgOk at h
 simp only [Bool.and_eq_true, decide_eq_true_eq] at h
 exact ⟨h.1, h.2⟩
theorem it_rg {Z : List Addr} {a b : Int} : ItOk K Z m (rgD a b) [] (Itr a (b - a).toNat) := ⟨fun Z' m' hz hw x si gd i => by
 unfold rgD
 refine ⟨fun hi => (by rw [List.length_map, List.length_range] at hi; exact hi), fun d hd => ?_⟩
 rw [List.getElem?_map] at hd
 by_cases hi : i < (b - a).toNat
 ·rw [List.getElem?_range hi] at hd
  cases hd
  refine ⟨hi, fun y H3 ⟨e1, e2⟩ => ?_⟩
  subst e1 e2
  exact ⟨m', rfl, rfl, .refl si, rfl⟩
 ·rw [List.getElem?_eq_none (by simpa using hi)] at hd
  cases hd⟩
def iRg1 (f : EX) : IX := fun e S => (f e S).bind fun p => match p.1 with
 | .int j => if rgOk j = true then some (rgD 0 j, [], p.2) else none
 | _ => none
def iRg2 (f g : EX) : IX := fun e S => (f e S).bind fun p => (g e p.2).bind fun q => match p.1, q.1 with
 | .int i, .int j => if (rgOk i && rgOk j) = true then some (rgD i j, [], q.2) else none
 | _, _ => none
theorem ij_rg1 (hg : Gl X "range") (hm : X.mg "range" = none) (h : EJ X e f) (hs : starEach [e] X.env = [(false, eval e X.env)] := by rfl) (hs' : starEach [e] X.env = (false, eval e X.env) :: starEach [] X.env := by rfl) : IJ X tg (.Call (.Name "range" p) [e] [] pos) (iRg1 f) :=
 pi_wk (pi_range1 hg hm (aj_cons h aj_nil hs') hs) fun σ H R ⟨Z, m, env, ds, gs, S', eH, s, er, hf, q⟩ => by
  unfold iRg1 at hf
  obtain ⟨⟨d, S1⟩, h1, h⟩ := Option.bind_eq_some_iff.mp hf
  refine ⟨Z, m, env, [d], S1, eH, s, er, by unfold aCons; rw [h1]; rfl, fun m1 vx e1 t1 rx0 => ?_⟩
  obtain ⟨x, rfl, rx⟩ := rx0.one_inv
  cases d <;> first | exact no2 h | skip
  rename_i i
  obtain ⟨hz, hz2⟩ := ite_some h
  simp only [Prod.mk.injEq] at hz2
  obtain ⟨rfl, rfl, rfl⟩ := hz2
  cases rx
  obtain ⟨b1, b2⟩ := rgOk_inv hz
  refine ⟨i, rfl, b1, b2, q m1 _ e1 t1 ?_⟩
  have z := it_rg (K := X.K) (Z := Z) (m := m1) (a := 0) (b := i)
  rw [Int.sub_zero] at z
  exact z
theorem pair_new {Z : List Addr} (si : Sim ⟨K, Z⟩ m) {T : Addr} (hT : m.H T = none) {x y : D} {vx vy : V} (rx : Rep ⟨K, Z⟩ m x vx) (ry : Rep ⟨K, Z⟩ m y vy) :
  ∃ m3 : M, m3.H = upd m.H T (.tup [vx, vy]) ∧ m3.S = m.S ∧ Tr ⟨K, Z⟩ m m3 ∧ Rep ⟨K, Z⟩ m3 (.tup [x, y]) (.ref T) :=
 ⟨⟨m.r, m.S, upd m.H T (.tup [vx, vy])⟩, rfl, rfl, .laid si hT, Rep.newTup si hT ⟨vx, [vy], rfl, rx, vy, [], rfl, ry, rfl⟩⟩
def enumD (xs : List D) : List D := (List.range xs.length).zipWith (fun i x => D.tup [.int (i : Nat), x]) xs
theorem enumD_get {xs : List D} {i : Nat} {d : D} (h : (enumD xs)[i]? = some d) : ∃ x, xs[i]? = some x ∧ d = .tup [.int (i : Nat), x] := by
 unfold enumD at h
 rw [List.getElem?_zipWith] at h
 cases h1 : xs[i]? with
 | none =>
  rw [h1] at h
  cases h2 : (List.range xs.length)[i]? with
  | none => rw [h2] at h; cases h
  | some j => rw [h2] at h; cases h
 | some x =>
  have hi : i < xs.length := by
   rcases Nat.lt_or_ge i xs.length with z | z
   ·exact z
   ·rw [List.getElem?_eq_none z] at h1; cases h1
  rw [h1, List.getElem?_range hi] at h
  cases h
  exact ⟨x, rfl, rfl⟩
theorem enumD_len {xs : List D} : (enumD xs).length = xs.length := by
 unfold enumD
 rw [List.length_zipWith, List.length_range, Nat.min_self]
theorem it_enumL {Z : List Addr} {a : Addr} {xs : List D} {g1 : List Nat} (h1 : Stays K Z m a xs g1) : ItOk K Z m (enumD xs) g1 (Ite K a) := ⟨fun Z' m' hz hw x si gd i => by
 obtain ⟨us, q1, r1⟩ := h1 Z' m' hz hw x si gd
 refine ⟨fun hi => ⟨us, q1, by rw [r1.len, ← enumD_len (xs := xs)]; exact hi⟩, fun d hd => ?_⟩
 obtain ⟨x1, hx, rfl⟩ := enumD_get hd
 obtain ⟨v1, hv1, rv1⟩ := r1.get hx
 refine ⟨⟨us, v1, q1, hv1⟩, fun v H3 ⟨T, u1, eT, hT, eH, f1⟩ => ?_⟩
 subst eT eH
 have e1 := f1 us q1
 rw [hv1] at e1
 cases e1
 exact pair_new si hT (rfl : Rep ⟨K, Z'⟩ m' (.int (i : Nat)) (.int (i : Nat))) rv1⟩
end
section
variable {X : Cx} {K : PySem.W.Frag} {c : C} {m : M} {o e : Expr} {es : List Expr} {f : EX} {ga : AX} {pos apos : Pos}
abbrev FM := Sto → List D → List D → Option (D × List D)
def eMt (h : FM) (fo : EX) (ga : AX) : EX := fun e S => (fo e S).bind fun p => (ga e p.2).bind fun q => match p.1 with
 | .ref n => (boxAt q.2 n).bind fun ds => (h q.2 ds q.1).map fun r => (r.1, q.2.set n (.lst r.2))
 | _ => none
theorem eMt_inv {h : FM} {fo : EX} {ga : AX} {e : En} {S S' : Sto} {v : D} (hh : eMt h fo ga e S = some (v, S')) : ∃ n S1 args S2 ds ds', fo e S = some (.ref n, S1) ∧ ga e S1 = some (args, S2) ∧ boxAt S2 n = some ds ∧ h S2 ds args = some (v, ds') ∧ S' = S2.set n (.lst ds') := by
 unfold eMt at hh
 obtain ⟨⟨a, S1⟩, h1, hh⟩ := Option.bind_eq_some_iff.mp hh
 obtain ⟨⟨args, S2⟩, h2, hh⟩ := Option.bind_eq_some_iff.mp hh
 cases a <;> first | exact no2 hh | skip
 obtain ⟨ds, h3, hh⟩ := Option.bind_eq_some_iff.mp hh
 obtain ⟨⟨r, ds'⟩, h4, hh⟩ := Option.map_eq_some_iff.mp hh
 simp only [Prod.mk.injEq] at hh
 obtain ⟨rfl, rfl⟩ := hh
 exact ⟨_, S1, args, S2, ds, ds', h1, h2, h3, h4, rfl⟩
def rMt (K : PySem.W.Frag) (h : FM) : V → List V → Hp → VK → Prop := fun x xs H Q => ∃ (Z : List Addr) (m : M) (n : Nat) (ds args : List D) (r : D) (ds' : List D), m.H = H ∧ Sim ⟨K, Z⟩ m ∧ x = .ref (m.r n) ∧ n < m.S.length ∧ boxAt m.S n = some ds ∧ RepL ⟨K, Z⟩ m args xs ∧ h m.S ds args = some (r, ds') ∧
 ∀ m' v, m'.S = m.S.set n (.lst ds') → Tr ⟨K, Z⟩ m m' → Rep ⟨K, Z⟩ m' r v → Q v m'.H
theorem te_mt {h : FM} {fo : EX} {ga : AX} {σ : L2.St} {H : Hp} {Q : VK} (hh : tE K (eMt h fo ga) σ H Q) : tBM K "list" (rMt K h) (tE K fo) (tA K ga) σ H Q := by
 obtain ⟨Z, m, env, v, S', e, s, er, hf, q⟩ := hh
 obtain ⟨n, S1, args, S2, ds, ds', h1, h2, h3, h4, rfl⟩ := eMt_inv hf
 refine ⟨Z, m, env, .ref n, S1, e, s, er, h1, fun m1 vx e1 t1 rx => ?_⟩
 have hl := rx.lt.1
 obtain ⟨⟨ds0, hd0⟩, rfl⟩ := rx
 obtain ⟨xs, hx, _⟩ := t1.si.boxL hd0
 refine ⟨.inl ⟨rfl, xs, SqL.of hx⟩, Z, m1, env, args, S2, rfl, t1.si, er.tr s t1, by rw [e1]; exact h2, fun m2 vy e2 t2 ry => ?_⟩
 refine ⟨Z, m2, n, ds, args, v, ds', rfl, t2.si, by rw [t2.ex.ag n hl], Nat.lt_of_lt_of_le hl t2.ex.le, by rw [e2]; exact h3, ry, by rw [e2]; exact h4, fun m3 w e3 t3 rw => ?_⟩
 exact q m3 w (by rw [e3, e2]) ((t1.trans s t2).trans s t3) rw
theorem ej_bm {name : Str} {id : String} {h : FM} (pa : PlainAttrs "list") (slot : Slot "list" name id) (hty : typeOf (.builtin id) = pure (.type "method_descriptor")) (hm : MtR X id (rMt X.K h)) (ho : EJ X o f) (ha : AJ X (e :: es) ga)
  (hbase : attributeBase o name X.env (eval o X.env) = eval o X.env := by rfl)
  (hfew : ((backTo pos (starEach (e :: es) X.env)).all (fun x => !x.1) && (backToKw pos (keywordEach [] X.env)).all (fun x => x.1.isSome)
   && decide ((e :: es).length + ([] : List Keyword).length + (if ([] : List Keyword).isEmpty then 0 else 1) < 30)) = true := by rfl)
  (hline : (apos.endLine == pos.line) = true := by rfl) (hs : starEach (e :: es) X.env = (false, eval e X.env) :: starEach es X.env := by rfl) (hpl : (backTo pos (starEach es X.env)).any (·.1) = false := by rfl) :
  EJ X (.Call (.Attribute o name apos) (e :: es) [] pos) (eMt h f ga) := pe_wk (pe_bm pa slot hty hm ho ha hbase hfew hline hs hpl) fun _ _ _ h => te_mt h
def hAppend : FM := fun _ ds args => match args with
 | [d] => if szOk (ds.length + 1) = true then some (.non, ds ++ [d]) else none
 | _ => none
theorem m_append : MtR X "list.append" (rMt X.K hAppend) := by
 rintro pins s σ H x xs v us Q I rx rxs ⟨Z, m, n, ds, args, r, ds', rfl, si, rfl, hl, hb, ra, hf, q⟩
 match args, hf, ra with
 | [d], hf, ra =>
  obtain ⟨hz, h2⟩ := ite_some hf
  simp only [Prod.mk.injEq] at h2
  obtain ⟨rfl, rfl⟩ := h2
  obtain ⟨y, rfl, ry⟩ := ra.one_inv
  obtain ⟨_, ys, hy, ly⟩ := si.at hb
  have hz' := szOk_le hz
  refine mt_append pins s σ m.H _ _ v us Q I rx rxs ⟨m.r n, ys, y, rfl, rfl, hy, by rw [ly.len]; omega, ?_⟩
  exact q (m.put n (ds ++ [d]) (ys ++ [y])) .non rfl (.put si hl ⟨_, boxAt_inv (by assumption)⟩ (ly.app (RepL.one ry))) rfl
def hExtend : FM := fun S ds args => match args with
 | [d] => (ownOf S d).bind fun es => if szOk (ds.length + es.length) = true then some (.non, ds ++ es) else none
 | _ => none
theorem m_extend : MtR X "list.extend" (rMt X.K hExtend) := by
 rintro pins s σ H x xs v us Q I rx rxs ⟨Z, m, n, ds, args, r, ds', rfl, si, rfl, hl, hb, ra, hf, q⟩
 match args, hf, ra with
 | [d], hf, ra =>
  obtain ⟨es, h1, h2⟩ := Option.bind_eq_some_iff.mp (show (ownOf m.S d).bind _ = _ from hf)
  obtain ⟨hz, h2⟩ := ite_some h2
  simp only [Prod.mk.injEq] at h2
  obtain ⟨rfl, rfl⟩ := h2
  obtain ⟨y, rfl, ry⟩ := ra.one_inv
  obtain ⟨_, ys, hy, ly⟩ := si.at hb
  obtain ⟨p, zs, rfl, hp, lz⟩ := si.own ry h1
  refine mt_extend pins s σ m.H _ _ v us Q I rx rxs ⟨m.r n, p, ys, zs, rfl, rfl, hy, hp, by rw [ly.len, lz.len]; exact szOk_le hz, ?_⟩
  exact q (m.put n (ds ++ es) (ys ++ zs)) .non rfl (.put si hl ⟨_, boxAt_inv (by assumption)⟩ (ly.app lz)) rfl
end
section
open PySem.W (OpenLaw)
end
def perm {α : Type} (ix : List Nat) (l : List α) : List α := ix.filterMap fun i => l[i]?
theorem perm_vals {zs : List V} {ws : List Value} (h : Vals zs ws) : ∀ ix : List Nat, Vals (perm ix zs) (perm ix ws)
 | [] => .nil
 | i :: ix => by
  unfold perm
  cases e : zs[i]? with
  | none => rw [List.filterMap_cons_none e, List.filterMap_cons_none (h.none_of e)]; exact perm_vals h ix
  | some z =>
   obtain ⟨u, h1, h2⟩ := h.get e
   rw [List.filterMap_cons_some e, List.filterMap_cons_some h1]
   exact .cons h2 (perm_vals h ix)
theorem perm_rep {c : C} {m : M} {ds : List D} {vs : List V} (h : RepL c m ds vs) : ∀ ix : List Nat, RepL c m (perm ix ds) (perm ix vs)
 | [] => rfl
 | i :: ix => by
  unfold perm
  cases e : ds[i]? with
  | none =>
   have e2 : vs[i]? = none := List.getElem?_eq_none (by rw [h.len]; exact List.getElem?_eq_none_iff.mp e)
   rw [List.filterMap_cons_none e, List.filterMap_cons_none e2]; exact perm_rep h ix
  | some z =>
   obtain ⟨u, h1, h2⟩ := h.get e
   rw [List.filterMap_cons_some e, List.filterMap_cons_some h1]
   exact ⟨u, _, rfl, h2, perm_rep h ix⟩
structure Cal (P : Program) (w : World) (K : PySem.W.Frag) (mg : Str → Option Value) (base : Heap) (k : Nat) (x : Str) (ps : List Str) (con : Con) : Prop where
 ex : ∃ (f : Addr) (fd : FuncData), mg x = some (.ref f) ∧ PySem.W.keepIn K (.ref f) = true ∧ Binds K fd ps [] ∧ FnG P w K mg base k f fd ps con
structure CalK (P : Program) (w : World) (K : PySem.W.Frag) (mg : Str → Option Value) (base : Heap) (k : Nat) (x : Str) (ps ks : List Str) (ix : List Nat) (con : Con) : Prop where
 ex : ∃ (f : Addr) (fd : FuncData), mg x = some (.ref f) ∧ PySem.W.keepIn K (.ref f) = true ∧ KBd K fd ps ks (perm ix) ∧ FnG P w K mg base k f fd ps con
section
variable {P : Program} {w : World} {K : PySem.W.Frag} {mg : Str → Option Value} {base : Heap} {k : Nat} {x qual : Str} {ps : List Str} {con : Con} {params : Arguments} {body : List Stmt} {scope : Scope} {f : Addr} {fd : FuncData}
theorem Cal.of (F : FunD K x qual params body scope [] [] f fd) (hm : mg x = some (.ref f)) (G : FnG P w K mg base k f fd ps con)
  (h : ∀ (kV doc pm : Value) (an : Option Addr) (cdv ct : Value) (us : List Value), us.length = ps.length → bindArgs (PySem.W.fnOf x qual params body scope .none kV doc pm an cdv ct) ⟨us, []⟩ = pure (ps.zip us)) : Cal P w K mg base k x ps con :=
 ⟨f, fd, hm, F.kp, F.bindsN h, G⟩
end
section
variable {X : Cx} {a b c : Expr} {es : List Expr} {ga gk : AX} {fa fb fc : EX} {pos p : Pos} {k : Nat} {ps : List Str} {con : Con} {x : Str}
theorem ej_own (C : Cal X.prog X.w X.K X.mg X.base k x ps con) (hr : RG k X.A) (hg : Gl X x) (ha : AJ X (a :: es) ga) (hdb : (x == ("__debug__" : Str)) = false := by decide) (he : starEach (a :: es) X.env = (false, eval a X.env) :: starEach es X.env := by rfl) (hpl : (backTo pos (starEach es X.env)).any (·.1) = false := by rfl) :
  EJ X (.Call (.Name x p) (a :: es) [] pos) (eCall con ga) := by
 obtain ⟨f, fd, h1, h2, h3, h4⟩ := C.ex
 exact ej_call h4 hr hg h1 h2 h3 ha hdb he hpl
theorem ej_ownK {ks : List Str} {ix : List Nat} {kws : List Keyword} (C : CalK X.prog X.w X.K X.mg X.base k x ps ks ix con) (hr : RG k X.A) (hg : Gl X x) (hkw : KJ X kws gk) (hls : ∀ e S v, gk e S = some v → v.1.length = kws.length) (hlen : kws.length = ks.length := by rfl)
  (hall : (backToKw pos (keywordEach kws X.env)).all (·.1.isSome) = true := by rfl) (hks : (backToKw pos (keywordEach kws X.env)).filterMap (·.1) = ks := by rfl) (hdb : (x == ("__debug__" : Str)) = false := by decide)
  (hpl : ((backTo pos (starEach [] X.env)).any (·.1) || (backToKw pos (keywordEach kws X.env)).any (·.1.isNone)) = false := by rfl) : EJ X (.Call (.Name x p) [] kws pos) (eCallK con (perm ix) gk) := by
 obtain ⟨f, fd, h1, h2, h3, h4⟩ := C.ex
 exact ej_callK h4 hr hg h1 h2 h3 hkw hlen hall hks hdb hls hpl
theorem ls_nil : ∀ e S v, aNil e S = some v → v.1.length = 0 := fun e S v h => by cases h; rfl
theorem ls_cons {f : EX} {g : AX} {n : Nat} (h : ∀ e S v, g e S = some v → v.1.length = n) : ∀ e S v, aCons f g e S = some v → v.1.length = n + 1 := fun e S v hh => by
 obtain ⟨x, S1, r, h1, h2, h3⟩ := aCons_inv (v := v.1) (S' := v.2) hh
 rw [h3, List.length_cons, h e S1 (r, v.2) h2]
theorem ej_v (i : Nat) {x : Str} {pos : Pos} (hN : X.N[i]? = some x := by rfl) (hv : Vis X.env.scope x := by first | exact Or.inl rfl | exact Or.inr (Or.inl rfl) | exact Or.inr (Or.inr rfl)) (hd : (x == ("__debug__" : Str)) = false := by decide)
  (hcd : (x == ("__classdict__" : Str)) = false := by decide) : EJ X (.Name x pos) (eVar i) := ej_var hN hv hd hcd
def GC (K : PySem.W.Frag) (mg : Str → Option Value) (x : Str) (d : D) : Prop := ∃ v u, mg x = some u ∧ RelV v u ∧ KR K d v
theorem ej_gc {d : D} (h : GC X.K X.mg x d) (hg : Gl X x) (hd : (x == ("__debug__" : Str)) = false := by decide) : EJ X (.Name x pos) (eC d) := by
 obtain ⟨v, u, h1, h2, h3⟩ := h
 exact ej_glob hg h1 h2 h3 hd
def eChain (f g : F2) (a b c : EX) : EX := fun e S => (a e S).bind fun p => (b e p.2).bind fun q => (f q.2 p.1 q.1).bind fun t => match t with
 | .bl true => (c e q.2).bind fun r => (g r.2 q.1 r.1).map fun d => (d, r.2)
 | .bl false => some (.bl false, q.2)
 | _ => none
theorem wj_pt {e : Expr} {f : TX} (h : WJ X e f) : TJ X e f := h.pt
theorem RG.u64 {k : Nat} {A : Around} (h : RG k A) : A.units + 64 < cLine := h.room.units
theorem RG.u65 {k : Nat} {A : Around} (h : RG k A) : A.units + 65 < cLine := by have := h.room.un; omega
end
mutual
theorem dB_ok {K : PySem.W.Frag} : ∀ (d : D) (u : Value), dB K d u = true → ∃ v, RelV v u ∧ KR K d v
 | .non, u, h => ⟨.non, (of_decide_eq_true h : u = .none), fun _ _ => rfl⟩
 | .bl b, u, h => ⟨.bl b, (of_decide_eq_true h : u = .bool b), fun _ _ => rfl⟩
 | .int i, u, h => by
  cases u <;> first | exact nomatch (show false = true from h) | skip
  rename_i j t
  have e : j = i := of_decide_eq_true h
  subst e
  exact ⟨.int j, ⟨t, rfl⟩, fun _ _ => rfl⟩
 | .str i, u, h => by
  cases u <;> first | exact nomatch (show false = true from h) | skip
  rename_i j t
  have e : j = i := of_decide_eq_true h
  subst e
  exact ⟨.str j, ⟨t, rfl⟩, fun _ _ => rfl⟩
 | .tup ds, u, h => by
  cases u <;> first | exact nomatch (show false = true from h) | skip
  rename_i a
  simp only [dB] at h
  split at h
  ·rename_i c dd its n sl q
   obtain ⟨h1, h2⟩ := Bool.and_eq_true_iff.mp h
   obtain ⟨h3, h4⟩ := Bool.and_eq_true_iff.mp h2
   obtain ⟨vs, r1, r2⟩ := dBL_ok ds its.toList h4
   exact ⟨.ref a, rfl, fun Z m => ⟨a, vs, rfl, .inr ⟨_, its, n, q, congrArg Value.type (of_decide_eq_true h1), rfl, of_decide_eq_true h3, r1⟩, r2 Z m⟩⟩
  ·cases h
 | .rol ds, u, h => by
  cases u <;> first | exact nomatch (show false = true from h) | skip
  rename_i a
  simp only [dB] at h
  split at h
  ·rename_i c its n sl q
   obtain ⟨h1, h2⟩ := Bool.and_eq_true_iff.mp h
   obtain ⟨h3, h4⟩ := Bool.and_eq_true_iff.mp h2
   obtain ⟨vs, r1, r2⟩ := dBL_ok ds its.toList h4
   exact ⟨.ref a, rfl, fun Z m => ⟨a, vs, rfl, .inr ⟨_, its, n, q, congrArg Value.type (of_decide_eq_true h1), rfl, rfl, of_decide_eq_true h3, r1⟩, r2 Z m⟩⟩
  ·cases h
 | .lst _, _, h => nomatch (show false = true from h)
 | .dic _ _, _, h => nomatch (show false = true from h)
 | .tag _ _, _, h => nomatch (show false = true from h)
 | .dref _, _, h => nomatch (show false = true from h)
 | .ref _, _, h => nomatch (show false = true from h)
theorem dBL_ok {K : PySem.W.Frag} : ∀ (ds : List D) (us : List Value), dBL K ds us = true → ∃ vs, Vals vs us ∧ ∀ Z m, RepL ⟨K, Z⟩ m ds vs
 | [], us, h => by
  cases us with
  | nil => exact ⟨[], .nil, fun _ _ => rfl⟩
  | cons u us => exact nomatch (show false = true from h)
 | d :: ds, us, h => by
  cases us with
  | nil => exact nomatch (show false = true from h)
  | cons u us =>
   obtain ⟨h1, h2⟩ := Bool.and_eq_true_iff.mp (show (dB K d u && dBL K ds us) = true from h)
   obtain ⟨v, r1, k1⟩ := dB_ok d u h1
   obtain ⟨vs, r2, k2⟩ := dBL_ok ds us h2
   exact ⟨v :: vs, .cons r1 r2, fun Z m => ⟨v, vs, rfl, k1 Z m, k2 Z m⟩⟩
end
theorem gcB_ok {K : PySem.W.Frag} {h : Heap} {mg : Str → Option Value} (X : K.In h) (G : h.Ns mainGlobals mg) {x : Str} {d : D} (c : gcB K (x, d) = true) : GC K mg x d := by
 unfold gcB at c
 simp only at c
 split at c
 ·rename_i u e
  obtain ⟨v, r, k⟩ := dB_ok d u c
  exact ⟨v, u, PySem.W.mg_of X G e, r, k⟩
 ·cases c
structure SaysP (fa : List He.Fa) (fn : List He.DefD) (cs : List (Str × D)) (K : PySem.W.Frag) : Prop where
 d : He.SaysD fa fn K
 c : cs.all (fun q => gcB K q) = true
end Pv
namespace PySem
open Sem (wp)
set_option maxHeartbeats 1000000 in
theorem pv_enum_new {v : Value} {o : Obj} {H : Heap → Prop} (B : Begins v o H) :
  Meets (Builtin.«enumerate.__new__» ⟨[.type "enumerate", v], []⟩) (fun _ R s => H s.heap ∧
   R (.ok (.ret (.ref (s.heap.push o).objs.size))) { s with heap := (s.heap.push o).push { cls := .type "enumerate", data := .fields #[.none, .bool false, .ref s.heap.objs.size, rawInt 0, .none, .none] } }) :=
 .of_wp fun prog w A R s h => by
  obtain ⟨hp, g, d, tk, os⟩ := s
  obtain ⟨h1, h⟩ := h
  have hsub := sub_enumerate
  have q1 : ∀ {A' : Around} {E : Value → Shared → Prop} {Q : Value → Shared → Prop}, Q (.ref hp.objs.size) ⟨hp.push o, g, d, tk, os⟩ → wpAny (model prog w) A' (pyIter v) Q E ⟨hp, g, d, tk, os⟩ := fun q => B.iter prog w _ _ ⟨hp, g, d, tk, os⟩ _ h1 q
  wp_walk using q1
  refine wpAny_stack_any fun st => wpAny_pure ?_
  split
  ·rename_i c _ _ _ _ _
   cases (c == Value.type "enumerate") <;> (wp_walk using q1; exact ⟨_, rfl, h⟩)
  ·wp_walk using q1
   exact ⟨_, rfl, h⟩
theorem pv_enum_call {prog : Program} {w : World} {A : Around} {E : Value → Shared → Prop} {s : Shared} {v : Value} {o : Obj} {H : Heap → Prop} {Q : Value → Shared → Prop} (B : Begins v o H) (h1 : H s.heap)
  (h : ∀ h', IsEnum h' (s.heap.objs.size + 1) s.heap.objs.size 0 .none → h'.get? s.heap.objs.size = some o → h'.objs.size = s.heap.objs.size + 2 → (∀ b o, s.heap.get? b = some o → h'.get? b = some o) → Q (.ref (s.heap.objs.size + 1)) { s with heap := h' }) :
  wpAny (model prog w) A (call (.type "enumerate") [v]) Q E s := by
 refine callType_new F.called_enumerate (by decide) (F.typeCall_enumerate_1 _) (F.newCall_enumerate_1 _) (fun obj => F.args_object_init_2 obj _) F.entry_enumerate_new (pv_enum_new B) ⟨h1, ?_⟩
 have hz : (s.heap.push o).objs.size = s.heap.objs.size + 1 := Heap.size_push ..
 show _ ∧ _
 rw [hz]
 have he : IsEnum ((s.heap.push o).push { cls := .type "enumerate", data := .fields #[.none, .bool false, .ref s.heap.objs.size, rawInt 0, .none, .none] }) (s.heap.objs.size + 1) s.heap.objs.size 0 .none := by
  have z := Heap.get?_push_size (s.heap.push o) (o := { cls := .type "enumerate", data := .fields #[.none, .bool false, .ref s.heap.objs.size, rawInt 0, .none, .none] }) rfl
  rw [hz] at z
  exact z
 exact ⟨⟨_, he, rfl⟩, h _ he (Heap.get?_push_of_some _ (Heap.get?_push_size _ B.free)) (by rw [Heap.size_push, hz]) fun b o x => Heap.get?_push_of_some _ (Heap.get?_push_of_some _ x)⟩
end PySem
namespace Pv
open PySem PySem.Spec PyProof.Rows L2
def IteT (K : PySem.W.Frag) (a : Addr) : It :=
 ⟨fun i H => ∃ (xs : List V) (x : V), SqT K H a xs ∧ xs[i]? = some x, fun i H v H' => ∃ T x, v = .ref T ∧ H T = none ∧ H' = upd H T (.tup [.int (i : Nat), x]) ∧ ∀ xs, SqT K H a xs → xs[i]? = some x, fun i H => ∃ xs : List V, SqT K H a xs ∧ xs.length ≤ i⟩
theorem turn_enumT {P : Program} {w : World} {K : PySem.W.Frag} {elts : List Expr} {kk : Nat} {tpos : Pos} (a e it : Addr) :
  Turn P w K (.Tuple elts kk tpos) (IteT K a) [e, it] e (fun i h => (∃ old, IsEnum h e it ((i : Nat) : Int) old) ∧ h.IsTupleIter it a i ∧ e ≠ it) where
 mem := List.mem_cons_self ..
 obj := fun i h st b hb => by
  obtain ⟨⟨old, he⟩, ⟨o, ho, hc, hd⟩, _⟩ := st
  rcases List.mem_cons.mp hb with rfl | hb
  ·exact ⟨_, he, fun v q => nomatch q⟩
  ·rw [List.mem_singleton.mp hb]
   exact ⟨o, ho, fun v q => by rw [hd] at q; cases q⟩
 keep := fun i h h' st k => by
  obtain ⟨⟨old, he⟩, hi, hne⟩ := st
  exact ⟨⟨old, k e (List.mem_cons_self ..) _ he⟩, hi.at fun o q => k it (List.mem_cons_of_mem _ (List.mem_singleton.mpr rfl)) o q, hne⟩
 item := by
  intro X hP hw hK hc i pins s σ H E I hf st hg
  subst hP hw hK
  obtain ⟨⟨old, he⟩, hit, hne⟩ := st
  obtain ⟨xs, x, hq, hx⟩ := hg
  obtain ⟨its, rv, p, hz⟩ := I.tuple hq
  obtain ⟨u, hu, ru⟩ := rv.get hx
  have hel : e < s.heap.objs.size := Heap.lt_size he
  have hil : it < s.heap.objs.size := by obtain ⟨_, q, _⟩ := hit; exact Heap.lt_size q
  have hal : a ≠ it := by
   obtain ⟨o1, q1, c1, _⟩ := p
   obtain ⟨o2, q2, c2, _⟩ := hit
   intro z
   subst z
   rw [q1] at q2
   cases q2
   rw [c1] at c2
   exact absurd c2 (by decide)
  have hae : a ≠ e := by
   obtain ⟨o1, q1, c1, _⟩ := p
   intro z
   subst z
   have he' : s.heap.get? a = some _ := he
   rw [q1] at he'
   cases he'
   exact absurd (show Value.type "enumerate" = Value.type "tuple" from c1) (by decide)
  have D := Draws.tuple (prog := X.prog) (w := X.w) (A := X.A.in1) (I.ok.hd hc) it a hal its.toArray
  have hi : i < its.toArray.size := by
   rw [List.size_toArray]
   rcases Nat.lt_or_ge i its.length with z | z
   ·exact z
   ·rw [List.getElem?_eq_none z] at hu; cases hu
  refine wpAny_pyNext_enum_itemD D he ⟨hit, p⟩ hi hne (fun z => ?_) fun y h' tk hP ho hst hT hsz hk => ?_
  ·rcases List.mem_cons.mp z with z | z
   ·exact hne z
   ·exact hae (List.mem_singleton.mp z).symm
  ·have hy : y = u := by
    have hP : its.toArray[i]? = some y := hP
    rw [List.getElem?_toArray, hu] at hP
    exact (Option.some.inj hP).symm
   subst hy
   refine ⟨_, rfl, wpAny_letOwnedTupleGo_enum (s := { s with heap := h', toks := tk + 1 }) ho fun h'' he' sb => ?_⟩
   have hT2 : h''.get? s.heap.objs.size = some { cls := .type "tuple", data := .seq #[.int i tk, y] } := (sb.2 _ (Nat.ne_of_gt hel)).trans hT
   have new : ObjOk X.prog X.w (upd H s.heap.objs.size (.tup [.int (i : Nat), x])) h'' s.heap.objs.size (.tup [.int (i : Nat), x]) := ⟨by show 2 ≤ sizeLine; decide, [.int i tk, y], .cons ⟨_, rfl⟩ (.cons ru .nil), ⟨_, hT2, rfl, _, rfl⟩⟩
   have I1 : Inv X pins σ (upd H s.heap.objs.size (.tup [.int (i : Nat), x])) { s with heap := h'', toks := tk + 1 } :=
    I.turnedNew (ch := [e, it]) (fun b ob hb q => (sb.2 b (fun z => hb (by simp [z]))).trans (hk b ob (fun z => hb (by simp [z])) (fun z => hb (by simp [z])) q)) hf (Nat.le_refl _) new
   refine ⟨.ref s.heap.objs.size, _, I1, rfl, ⟨_, x, rfl, I.hok.fresh (Nat.le_refl _), rfl, fun ys hy => by rw [I.tuple_inj hy hq]; exact hx⟩, ⟨⟨y, ?_⟩, hst.1.at fun o q => (sb.2 it (Ne.symm hne)).trans q, hne⟩, fun b hb => ?_⟩
   ·have e1 : ((i + 1 : Nat) : Int) = (i : Int) + 1 := by omega
    rw [e1]
    exact he'
   ·have hb' : b < s.heap.objs.size := by
     rcases List.mem_cons.mp hb with rfl | hb
     ·exact hel
     ·rw [List.mem_singleton.mp hb]; exact hil
    rw [upd_ne (Nat.ne_of_lt hb')]
    exact (hf b hb).1
 done := by
  intro X hP hw hK hc i pins s σ H E I hf st hg
  subst hP hw hK
  obtain ⟨⟨old, he⟩, hit, hne⟩ := st
  obtain ⟨xs, hq, hx⟩ := hg
  obtain ⟨its, rv, p, hz⟩ := I.tuple hq
  obtain ⟨f0, f1, f2, f3, f4, f5⟩ := hf it (by simp)
  have hl := rv.length
  have hT : s.TypeIs (.ref e) "enumerate" := ⟨_, he, rfl⟩
  unfold pyNext
  refine wpAny_bind (wpAny_attempt (wpAny_callSpecial?_slot (name := Str.ofString "__next__") hT F.slot_enumerate_next (wpAny_call_entry F.slot_enumerate_next hT F.entry_enumerate_next ?_ (F.args_enumerate_next_1 _))))
  show wpAny _ _ (field (.ref e) 2 >>= _) _ _ _
  refine wpAny_bind (wpAny_field he rfl (x := .ref it) rfl ?_)
  refine wpAny_bind (wpAny_nextOf_tuple_end (I.ok.hd hc) hit p (by rw [List.getElem?_toArray]; exact List.getElem?_eq_none (by omega)) fun h' x he' hx' => ?_)
  obtain ⟨o, ho, hc'⟩ := hx'
  refine wpAny_bind (wpAny_isInstance (T := "StopIteration") (b := true) ⟨o, ho, hc'⟩ isSubtype_stop ?_)
  exact wpAny_pure ⟨rfl, I.turned (t' := s.toks) (fun b o hb q => he' b o hb q) f0 f1 f3 f4 f5⟩
 self := fun A i s Q E st h => by
  obtain ⟨⟨_, he⟩, _⟩ := st
  exact wpAny_pyIter_enum he h
section
variable {X : Cx} {K : PySem.W.Frag} {m : M} {e : Expr} {f : EX} {pos p : Pos}
def iEnumTT (K : PySem.W.Frag) (ta : TA) : TI := fun σ H R => ta σ H fun vs H1 => ∃ a xs, vs = [.ref a] ∧ SqT K H1 a xs ∧ R (IteT K a) H1
theorem pi_enumT {ta : TA} {tpos : Pos} {elts : List Expr} {kk : Nat} (hg : Gl X "enumerate") (hm : X.mg "enumerate" = none) (ha : PA X [e] ta) (hs : starEach [e] X.env = [(false, eval e X.env)] := by rfl) :
  PI X (.Tuple elts kk tpos) (.Call (.Name "enumerate" p) [e] [] pos) (iEnumTT X.K ta) := by
 refine ⟨fun pins s σ H R I h => ?_⟩
 refine Call_ (ld_blt I hg hm boot_enumerate (PyProof.Rows.callWith_type1 (thn (ha.run pos pins s σ H _ I h) fun us s1 ⟨vs, H1, I1, r1, q1⟩ => ?_) hs rfl))
 obtain ⟨a, xs, ex, hq, q⟩ := q1
 subst ex
 rw [Vals.ref1 r1]
 obtain ⟨its, rv, p', hz⟩ := I1.tuple hq
 refine pv_enum_call (begins_tuple a its.toArray) (show s1.heap.IsTuple a its.toArray from p') fun h' he ho hsz hk => wpAny_pyIter_enum he ?_
 have I2 : Inv X pins σ H1 { s1 with heap := h' } := I1.kept (t' := s1.toks) hk
 refine ⟨s1.heap.objs.size + 1, [s1.heap.objs.size + 1, s1.heap.objs.size], _, _, H1, rfl, I2, turn_enumT a (s1.heap.objs.size + 1) s1.heap.objs.size, ⟨⟨.none, he⟩, ⟨_, ho, rfl, rfl⟩, Nat.succ_ne_self _⟩, fun b hb => ?_, q⟩
 have hle : s1.heap.objs.size ≤ b := by
  rcases List.mem_cons.mp hb with rfl | hb
  ·exact Nat.le_succ _
  ·rw [List.mem_singleton.mp hb]; exact Nat.le_refl _
 exact I1.fpOk hle (I1.hok.fresh hle)
def iEnum' (f : EX) : IX := fun e S => (f e S).bind fun p => match p.1 with
 | .tup ds => some (enumD ds, [], p.2)
 | d => (listOf p.2 d).map fun ds => (enumD ds, gsOf d, p.2)
theorem iEnum_inv {f : EX} {e : En} {S S' : Sto} {es : List D} {gs : List Nat} (h : iEnum' f e S = some (es, gs, S')) : ∃ d ds, f e S = some (d, S') ∧ es = enumD ds ∧ ((d = .tup ds ∧ gs = []) ∨ (listOf S' d = some ds ∧ gs = gsOf d)) := by
 unfold iEnum' at h
 obtain ⟨⟨d, S1⟩, h1, h⟩ := Option.bind_eq_some_iff.mp h
 have gen : (listOf S1 d).map (fun ds => (enumD ds, gsOf d, S1)) = some (es, gs, S') → ∃ ds, S1 = S' ∧ es = enumD ds ∧ listOf S' d = some ds ∧ gs = gsOf d := fun z => by
  obtain ⟨ds, z1, z⟩ := Option.map_eq_some_iff.mp z
  simp only [Prod.mk.injEq] at z
  obtain ⟨rfl, rfl, rfl⟩ := z
  exact ⟨ds, rfl, rfl, z1, rfl⟩
 cases d with
 | tup ds => cases h; exact ⟨_, ds, h1, rfl, .inl ⟨rfl, rfl⟩⟩
 | _ =>
  obtain ⟨ds, rfl, h2, h3, h4⟩ := gen h
  exact ⟨_, ds, h1, h2, .inr ⟨h3, h4⟩⟩
theorem it_enumT {Z : List Addr} {a : Addr} {xs : List D} {us : List V} (s : Sim ⟨K, Z⟩ m) (q1 : SqT K m.H a us) (r1 : RepL ⟨K, Z⟩ m xs us) : ItOk K Z m (enumD xs) [] (IteT K a) := ⟨fun Z' m' hz hw x si gd i => by
 have q1 : SqT K m'.H a us := x.sqT s.bok q1
 have r1 : RepL ⟨K, Z'⟩ m' xs us := RepL.mono s.bok x xs us (RepL.widen hw xs us r1)
 refine ⟨fun hi => ⟨us, q1, by rw [r1.len, ← enumD_len (xs := xs)]; exact hi⟩, fun d hd => ?_⟩
 obtain ⟨x1, hx, rfl⟩ := enumD_get hd
 obtain ⟨v1, hv1, rv1⟩ := r1.get hx
 refine ⟨⟨us, v1, q1, hv1⟩, fun v H3 ⟨T, u1, eT, hT, eH, f1⟩ => ?_⟩
 subst eT eH
 have e1 := f1 us q1
 rw [hv1] at e1
 cases e1
 exact pair_new si hT (rfl : Rep ⟨K, Z'⟩ m' (.int (i : Nat)) (.int (i : Nat))) rv1⟩
theorem ij_enum {elts : List Expr} {kk : Nat} {tpos : Pos} (hg : Gl X "enumerate") (hm : X.mg "enumerate" = none) (h : EJ X e f) (hs : starEach [e] X.env = [(false, eval e X.env)] := by rfl) (hs' : starEach [e] X.env = (false, eval e X.env) :: starEach [] X.env := by rfl) :
  IJ X (.Tuple elts kk tpos) (.Call (.Name "enumerate" p) [e] [] pos) (iEnum' f) :=
 pi_wk (pi_or (pi_enum hg hm (aj_cons h aj_nil hs') hs) (pi_enumT hg hm (aj_cons h aj_nil hs') hs)) fun σ H R ⟨Z, m, env, es, gs, S', eH, s, er, hf, q⟩ => by
  obtain ⟨d, ds, h1, rfl, hd⟩ := iEnum_inv hf
  rcases hd with ⟨rfl, rfl⟩ | ⟨h2, rfl⟩
  ·refine .inr ⟨Z, m, env, [.tup ds], S', eH, s, er, by unfold aCons; rw [h1]; rfl, fun m1 vx e1 t1 rx0 => ?_⟩
   obtain ⟨x, rfl, rx⟩ := rx0.one_inv
   obtain ⟨pa, us, rfl, q1, r1⟩ := rx
   exact ⟨pa, us, rfl, q1, q m1 _ e1 t1 (it_enumT t1.si q1 r1)⟩
  ·refine .inl ⟨Z, m, env, [d], S', eH, s, er, by unfold aCons; rw [h1]; rfl, fun m1 vx e1 t1 rx0 => ?_⟩
   obtain ⟨x, rfl, rx⟩ := rx0.one_inv
   obtain ⟨pa, us, rfl, q1, r1⟩ := t1.si.list rx (by rw [e1]; exact h2)
   obtain ⟨_, ea, sa⟩ := t1.si.stays rx (by rw [e1]; exact h2)
   cases ea
   exact ⟨pa, us, rfl, q1, q m1 _ e1 t1 (it_enumL sa)⟩
end
def KeptS (S S2 : Sto) (k : Nat) : Prop := ∀ (i : Nat) (o : Ob), i < k → S2[i]? = some o → S[i]? = some o ∨ belowL k o.vs = true
def handed (S2 : Sto) (k : Nat) (d : D) : Option D := if below k d = true then some d else match d with
 | .ref n => match S2[n]? with
   | some (.lst ds) => if belowL k ds = true ∧ k ≤ n then some (.lst ds) else none
   | _ => none
 | .dref n => match S2[n]? with
   | some (.dk ks ds) => if belowL k ds = true ∧ k ≤ n ∧ ks.length = ds.length then some (.dic ks ds) else none
   | _ => none
 | _ => none
open Classical in
noncomputable def den (n N keep : Nat) (b : SX) : Con := fun ds S => if ds.length = n then (b (sE N ds) S).bind fun o => match o with
 | .rt d S2 => if S.length + keep ≤ S2.length ∧ KeptS S S2 (S.length + keep) then (handed S2 (S.length + keep) d).map fun v => (v, S2.take (S.length + keep)) else none
 | .nx _ S2 => if S.length + keep ≤ S2.length ∧ KeptS S S2 (S.length + keep) then some (.non, S2.take (S.length + keep)) else none
 | _ => none else none
theorem handed_fz {S2 : Sto} {k : Nat} {d v : D} (h : handed S2 k d = some v) : Fz S2 k d v := by
 unfold handed at h
 split at h
 ·rename_i hb
  cases h
  exact .inl ⟨rfl, hb⟩
 ·rename_i hnb
  cases d <;> first | exact no2 h | skip
  rename_i n
  simp only at h
  split at h
  ·rename_i ds hn
   split at h
   ·rename_i hc
    cases h
    exact .inr (.inl ⟨n, ds, rfl, hc.2, hn, hc.1, rfl⟩)
   ·cases h
  ·cases h
  rename_i n
  simp only at h
  split at h
  ·rename_i ks ds hn
   split at h
   ·rename_i hc
    cases h
    exact .inr (.inr ⟨n, ks, ds, rfl, hc.2.1, hn, hc.1, hc.2.2, rfl⟩)
   ·cases h
  ·cases h
theorem kept_wf {S S2 : Sto} {k : Nat} (h : KeptS S S2 k) (hw : WfS S) (hk : S.length ≤ k) (h2 : k ≤ S2.length) : WfS (S2.take k) := fun i ds e => by
 have hl : (S2.take k).length = k := by rw [List.length_take]; omega
 rw [hl]
 have hi : i < k := by
  rcases Nat.lt_or_ge i k with z | z
  ·exact z
  ·rw [List.getElem?_eq_none (by rw [hl]; exact z)] at e; cases e
 rw [List.getElem?_take_of_lt hi] at e
 rcases h i ds hi e with z | z
 ·have q := hw i ds z
  exact belowL_le hk _ q
 ·exact z
where
 belowL_le {j k : Nat} (h : j ≤ k) : ∀ ds : List D, belowL j ds = true → belowL k ds = true
  | [], _ => rfl
  | d :: ds, b => by
   have b : below j d = true ∧ belowL j ds = true := by simpa [belowL] using b
   simp [belowL, below_le h d b.1, belowL_le h ds b.2]
 below_le {j k : Nat} (h : j ≤ k) : ∀ d : D, below j d = true → below k d = true
  | .non, _ => rfl
  | .bl _, _ => rfl
  | .int _, _ => rfl
  | .str _, _ => rfl
  | .tup ds, b => by simpa [below] using belowL_le h ds (by simpa [below] using b)
  | .lst ds, b => by simpa [below] using belowL_le h ds (by simpa [below] using b)
  | .rol ds, b => by simpa [below] using belowL_le h ds (by simpa [below] using b)
  | .dic _ ds, b => by simpa [below] using belowL_le h ds (by simpa [below] using b)
  | .tag _ ds, b => by simpa [below] using belowL_le h ds (by simpa [below] using b)
  | .dref n, b => by
   have b : n < j := by simpa [below] using b
   simp [below]; omega
  | .ref n, b => by
   have b : n < j := by simpa [below] using b
   simp [below]; omega
theorem den_len {n N keep : Nat} {b : SX} : ∀ ds S r, den n N keep b ds S = some r → ds.length = n := fun ds S r h => by
 unfold den at h
 split at h
 ·assumption
 ·cases h
theorem den_real {n N keep : Nat} {b : SX} : ∀ ds S v S', WfS S → belowL S.length ds = true → den n N keep b ds S = some (v, S') → ∃ o, b (sE N ds) S = some o ∧ Fin o v S' ∧ WfS S' ∧ S.length ≤ S'.length := fun ds S v S' hw hb h => by
 unfold den at h
 split at h
 ·obtain ⟨o, ho, h⟩ := Option.bind_eq_some_iff.mp h
  refine ⟨o, ho, ?_⟩
  have fin : ∀ {S2 : Sto}, S.length + keep ≤ S2.length ∧ KeptS S S2 (S.length + keep) → (∃ t, S2.take (S.length + keep) ++ t = S2) ∧ WfS (S2.take (S.length + keep)) ∧ S.length ≤ (S2.take (S.length + keep)).length ∧ (S2.take (S.length + keep)).length = S.length + keep := fun {S2} z =>
   ⟨⟨S2.drop (S.length + keep), List.take_append_drop _ _⟩, kept_wf z.2 hw (Nat.le_add_right _ _) z.1, by rw [List.length_take]; omega, by rw [List.length_take]; omega⟩
  cases o with
  | rt d S2 =>
   simp only at h
   split at h
   ·rename_i z
    obtain ⟨v', h1, h2⟩ := Option.map_eq_some_iff.mp h
    simp only [Prod.mk.injEq] at h2
    obtain ⟨rfl, rfl⟩ := h2
    obtain ⟨f1, f2, f3, f4⟩ := fin z
    refine ⟨⟨f1, ?_⟩, f2, f3⟩
    rw [f4]
    exact handed_fz h1
   ·cases h
  | nx e S2 =>
   simp only at h
   split at h
   ·rename_i z
    cases h
    obtain ⟨f1, f2, f3, f4⟩ := fin z
    exact ⟨⟨f1, rfl⟩, f2, f3⟩
   ·cases h
  | bk e S2 => cases h
  | ct e S2 => cases h
 ·cases h
def EV (f : EX) (e : En) (S : Sto) (Q : D → Sto → Prop) : Prop := ∃ v S', f e S = some (v, S') ∧ Q v S'
def TV (f : TX) (e : En) (S : Sto) (Q : Bool → Sto → Prop) : Prop := ∃ v S', f e S = some (v, S') ∧ Q v S'
def AV (f : AX) (e : En) (S : Sto) (Q : List D → Sto → Prop) : Prop := ∃ v S', f e S = some (v, S') ∧ Q v S'
def OV (f : OX) (e : En) (S : Sto) (Q : Option Int → Sto → Prop) : Prop := ∃ v S', f e S = some (v, S') ∧ Q v S'
def GV (g : GX) (d : D) (e : En) (S : Sto) (Q : En → Sto → Prop) : Prop := ∃ e' S', g d e S = some (e', S') ∧ Q e' S'
def GsV (g : GXs) (d : List D) (e : En) (S : Sto) (Q : En → Sto → Prop) : Prop := ∃ e' S', g d e S = some (e', S') ∧ Q e' S'
def IV (f : IX) (e : En) (S : Sto) (Q : List D → List Nat → Sto → Prop) : Prop := ∃ ds gs S', f e S = some (ds, gs, S') ∧ Q ds gs S'
def SV (b : SX) (e : En) (S : Sto) (Q : Out → Prop) : Prop := ∃ o, b e S = some o ∧ Q o
def CV (c : Con) (ds : List D) (S : Sto) (Q : D → Sto → Prop) : Prop := ∃ v S', c ds S = some (v, S') ∧ Q v S'
def BV (x : Option D) (Q : D → Prop) : Prop := ∃ d, x = some d ∧ Q d
def LBV (x : Option (List D)) (Q : List D → Prop) : Prop := ∃ d, x = some d ∧ Q d
section
variable {e : En} {S : Sto} {Q : D → Sto → Prop} {QB : Bool → Sto → Prop} {QL : List D → Sto → Prop} {QO : Out → Prop} {QE : En → Sto → Prop} {QI : List D → List Nat → Sto → Prop}
theorem EV_var {i : Nat} : EV (eVar i) e S Q ↔ ∃ d, e[i]? = some (some d) ∧ Q d S := by
 constructor
 ·rintro ⟨v, S', h, q⟩
  obtain ⟨h1, rfl⟩ := eVar_inv h
  exact ⟨v, h1, q⟩
 ·rintro ⟨d, h, q⟩
  exact ⟨d, S, by unfold eVar; rw [h], q⟩
theorem EV_c {d : D} : EV (eC d) e S Q ↔ Q d S := ⟨fun ⟨v, S', h, q⟩ => by cases h; exact q, fun q => ⟨d, S, rfl, q⟩⟩
theorem EV_e2 {f : F2} {a b : EX} : EV (e2 f a b) e S Q ↔ EV a e S fun x S1 => EV b e S1 fun y S2 => BV (f S2 x y) fun d => Q d S2 := by
 constructor
 ·rintro ⟨v, S', h, q⟩
  obtain ⟨x, S1, y, h1, h2, h3⟩ := e2_inv h
  exact ⟨x, S1, h1, y, S', h2, v, h3, q⟩
 ·rintro ⟨x, S1, h1, y, S2, h2, d, h3, q⟩
  exact ⟨d, S2, by unfold e2; rw [h1]; show (b e S1).bind _ = _; rw [h2]; show (f S2 x y).map _ = _; rw [h3]; rfl, q⟩
theorem EV_e1 {f : F1} {a : EX} : EV (e1 f a) e S Q ↔ EV a e S fun x S1 => BV (f S1 x) fun d => Q d S1 := by
 constructor
 ·rintro ⟨v, S', h, q⟩
  obtain ⟨x, h1, h3⟩ := e1_inv h
  exact ⟨x, S', h1, v, h3, q⟩
 ·rintro ⟨x, S1, h1, d, h3, q⟩
  exact ⟨d, S1, by unfold e1; rw [h1]; show (f S1 x).map _ = _; rw [h3]; rfl, q⟩
theorem TV_of {f : EX} : TV (tOf f) e S QB ↔ EV f e S fun x S1 => ∃ b, x = .bl b ∧ QB b S1 := by
 constructor
 ·rintro ⟨v, S', h, q⟩
  exact ⟨.bl v, S', tOf_inv h, v, rfl, q⟩
 ·rintro ⟨x, S1, h1, b, rfl, q⟩
  exact ⟨b, S1, by unfold tOf; rw [h1]; rfl, q⟩
theorem TV_and {f g : TX} : TV (tAnd' f g) e S QB ↔ TV f e S fun b S1 => if b = true then TV g e S1 QB else QB false S1 := by
 unfold TV tAnd'
 constructor
 ·rintro ⟨v, S', h, q⟩
  obtain ⟨⟨b, S1⟩, h1, h2⟩ := Option.bind_eq_some_iff.mp h
  refine ⟨b, S1, h1, ?_⟩
  cases b with
  | true => exact ⟨v, S', h2, q⟩
  | false => cases h2; exact q
 ·rintro ⟨b, S1, h1, h2⟩
  rw [h1]
  cases b with
  | true => exact h2
  | false => exact ⟨false, S1, rfl, h2⟩
theorem TV_or {f g : TX} : TV (tOr' f g) e S QB ↔ TV f e S fun b S1 => if b = true then QB true S1 else TV g e S1 QB := by
 unfold TV tOr'
 constructor
 ·rintro ⟨v, S', h, q⟩
  obtain ⟨⟨b, S1⟩, h1, h2⟩ := Option.bind_eq_some_iff.mp h
  refine ⟨b, S1, h1, ?_⟩
  cases b with
  | false => exact ⟨v, S', h2, q⟩
  | true => cases h2; exact q
 ·rintro ⟨b, S1, h1, h2⟩
  rw [h1]
  cases b with
  | false => exact h2
  | true => exact ⟨true, S1, rfl, h2⟩
theorem TV_not {f : TX} : TV (tNot' f) e S QB ↔ TV f e S fun b S1 => QB (!b) S1 := by
 unfold TV tNot'
 constructor
 ·rintro ⟨v, S', h, q⟩
  obtain ⟨⟨b, S1⟩, h1, h2⟩ := Option.map_eq_some_iff.mp h
  cases h2
  exact ⟨b, _, h1, q⟩
 ·rintro ⟨b, S1, h1, q⟩
  exact ⟨!b, S1, by rw [h1]; rfl, q⟩
theorem TV_yes : TV tYes' e S QB ↔ QB true S := ⟨fun ⟨v, S', h, q⟩ => by cases h; exact q, fun q => ⟨true, S, rfl, q⟩⟩
theorem EV_and {f g : EX} : EV (eAnd f g) e S Q ↔ EV f e S fun x S1 => ∃ b, x = .bl b ∧ if b = true then EV g e S1 Q else Q (.bl false) S1 := by
 unfold EV eAnd
 constructor
 ·rintro ⟨v, S', h, q⟩
  obtain ⟨⟨x, S1⟩, h1, h2⟩ := Option.bind_eq_some_iff.mp h
  refine ⟨x, S1, h1, ?_⟩
  cases x <;> first | exact no2 h2 | skip
  rename_i b
  refine ⟨b, rfl, ?_⟩
  cases b with
  | true => exact ⟨v, S', h2, q⟩
  | false => cases h2; exact q
 ·rintro ⟨x, S1, h1, b, rfl, h2⟩
  rw [h1]
  cases b with
  | true => exact h2
  | false => exact ⟨_, S1, rfl, h2⟩
theorem EV_or {f g : EX} : EV (eOr f g) e S Q ↔ EV f e S fun x S1 => ∃ b, x = .bl b ∧ if b = true then Q (.bl true) S1 else EV g e S1 Q := by
 unfold EV eOr
 constructor
 ·rintro ⟨v, S', h, q⟩
  obtain ⟨⟨x, S1⟩, h1, h2⟩ := Option.bind_eq_some_iff.mp h
  refine ⟨x, S1, h1, ?_⟩
  cases x <;> first | exact no2 h2 | skip
  rename_i b
  refine ⟨b, rfl, ?_⟩
  cases b with
  | false => exact ⟨v, S', h2, q⟩
  | true => cases h2; exact q
 ·rintro ⟨x, S1, h1, b, rfl, h2⟩
  rw [h1]
  cases b with
  | false => exact h2
  | true => exact ⟨_, S1, rfl, h2⟩
theorem EV_if {t : TX} {f g : EX} : EV (eIf t f g) e S Q ↔ TV t e S fun b S1 => if b = true then EV f e S1 Q else EV g e S1 Q := by
 unfold EV TV eIf
 constructor
 ·rintro ⟨v, S', h, q⟩
  obtain ⟨⟨b, S1⟩, h1, h2⟩ := Option.bind_eq_some_iff.mp h
  refine ⟨b, S1, h1, ?_⟩
  cases b with
  | true => exact ⟨v, S', h2, q⟩
  | false => exact ⟨v, S', h2, q⟩
 ·rintro ⟨b, S1, h1, h2⟩
  rw [h1]
  cases b with
  | true => exact h2
  | false => exact h2
theorem AV_nil : AV aNil e S QL ↔ QL [] S := ⟨fun ⟨v, S', h, q⟩ => by cases h; exact q, fun q => ⟨[], S, rfl, q⟩⟩
theorem AV_cons {f : EX} {g : AX} : AV (aCons f g) e S QL ↔ EV f e S fun x S1 => AV g e S1 fun r S2 => QL (x :: r) S2 := by
 constructor
 ·rintro ⟨v, S', h, q⟩
  obtain ⟨x, S1, r, h1, h2, rfl⟩ := aCons_inv h
  exact ⟨x, S1, h1, r, S', h2, q⟩
 ·rintro ⟨x, S1, h1, r, S2, h2, q⟩
  exact ⟨x :: r, S2, by unfold aCons; rw [h1]; show (g e S1).map _ = _; rw [h2]; rfl, q⟩
theorem EV_tup {g : AX} : EV (eTup g) e S Q ↔ AV g e S fun ds S1 => szOk ds.length = true ∧ Q (.tup ds) S1 := by
 unfold EV AV eTup
 constructor
 ·rintro ⟨v, S', h, q⟩
  obtain ⟨⟨ds, S1⟩, h1, h2⟩ := Option.bind_eq_some_iff.mp h
  obtain ⟨hz, h3⟩ := ite_some h2
  cases h3
  exact ⟨ds, _, h1, hz, q⟩
 ·rintro ⟨ds, S1, h1, hz, q⟩
  exact ⟨.tup ds, S1, by rw [h1]; show (if szOk ds.length = true then _ else _) = _; rw [if_pos hz], q⟩
theorem AV_disp {g : AX} : AV (lDisp g) e S QL ↔ AV g e S fun ds S1 => szOk ds.length = true ∧ QL ds S1 := by
 unfold AV lDisp
 constructor
 ·rintro ⟨v, S', h, q⟩
  obtain ⟨⟨ds, S1⟩, h1, h2⟩ := Option.bind_eq_some_iff.mp h
  obtain ⟨hz, h3⟩ := ite_some h2
  cases h3
  exact ⟨_, _, h1, hz, q⟩
 ·rintro ⟨ds, S1, h1, hz, q⟩
  exact ⟨ds, S1, by rw [h1]; show (if szOk ds.length = true then _ else _) = _; rw [if_pos hz], q⟩
theorem EV_fz {f : LX} : EV (eFz f) e S Q ↔ AV f e S fun ds S1 => Q (.lst ds) S1 := by
 unfold EV AV eFz
 constructor
 ·rintro ⟨v, S', h, q⟩
  obtain ⟨⟨ds, S1⟩, h1, h2⟩ := Option.map_eq_some_iff.mp h
  cases h2
  exact ⟨ds, _, h1, q⟩
 ·rintro ⟨ds, S1, h1, q⟩
  exact ⟨.lst ds, S1, by rw [h1]; rfl, q⟩
theorem EV_bx {f : LX} : EV (eBx f) e S Q ↔ AV f e S fun ds S1 => Q (.ref S1.length) (S1 ++ [.lst ds]) := by
 unfold EV AV eBx
 constructor
 ·rintro ⟨v, S', h, q⟩
  obtain ⟨⟨ds, S1⟩, h1, h2⟩ := Option.map_eq_some_iff.mp h
  cases h2
  exact ⟨ds, _, h1, q⟩
 ·rintro ⟨ds, S1, h1, q⟩
  exact ⟨_, _, by rw [h1]; rfl, q⟩
theorem EV_cb {f : FN} {g : AX} : EV (eCB f g) e S Q ↔ AV g e S fun ds S1 => BV (f S1 ds) fun d => Q d S1 := by
 unfold EV AV eCB BV
 constructor
 ·rintro ⟨v, S', h, q⟩
  obtain ⟨⟨ds, S1⟩, h1, h2⟩ := Option.bind_eq_some_iff.mp h
  obtain ⟨d, h3, h4⟩ := Option.map_eq_some_iff.mp h2
  cases h4
  exact ⟨ds, _, h1, _, h3, q⟩
 ·rintro ⟨ds, S1, h1, d, h3, q⟩
  exact ⟨d, S1, by rw [h1]; show (f S1 ds).map _ = _; rw [h3]; rfl, q⟩
theorem AV_cb {f : FNL} {g : AX} : AV (lCB f g) e S QL ↔ AV g e S fun ds S1 => LBV (f S1 ds) fun d => QL d S1 := by
 unfold AV lCB LBV
 constructor
 ·rintro ⟨v, S', h, q⟩
  obtain ⟨⟨ds, S1⟩, h1, h2⟩ := Option.bind_eq_some_iff.mp h
  obtain ⟨d, h3, h4⟩ := Option.map_eq_some_iff.mp h2
  cases h4
  exact ⟨ds, _, h1, _, h3, q⟩
 ·rintro ⟨ds, S1, h1, d, h3, q⟩
  exact ⟨d, S1, by rw [h1]; show (f S1 ds).map _ = _; rw [h3]; rfl, q⟩
theorem AV_l2 {f : F2L} {a b : EX} : AV (l2 f a b) e S QL ↔ EV a e S fun x S1 => EV b e S1 fun y S2 => LBV (f S2 x y) fun d => QL d S2 := by
 unfold AV EV l2 LBV
 constructor
 ·rintro ⟨v, S', h, q⟩
  obtain ⟨⟨x, S1⟩, h1, h⟩ := Option.bind_eq_some_iff.mp h
  obtain ⟨⟨y, S2⟩, h2, h⟩ := Option.bind_eq_some_iff.mp h
  obtain ⟨d, h3, h⟩ := Option.map_eq_some_iff.mp h
  cases h
  exact ⟨x, S1, h1, y, _, h2, _, h3, q⟩
 ·rintro ⟨x, S1, h1, y, S2, h2, d, h3, q⟩
  exact ⟨d, S2, by rw [h1]; show (b e S1).bind _ = _; rw [h2]; show (f S2 x y).map _ = _; rw [h3]; rfl, q⟩
theorem OV_no {QP : Option Int → Sto → Prop} : OV oNo e S QP ↔ QP none S := ⟨fun ⟨v, S', h, q⟩ => by cases h; exact q, fun q => ⟨none, S, rfl, q⟩⟩
theorem OV_some {f : EX} {QP : Option Int → Sto → Prop} : OV (oSome f) e S QP ↔ EV f e S fun x S1 => ∃ i, x = .int i ∧ QP (some i) S1 := by
 unfold OV EV oSome
 constructor
 ·rintro ⟨v, S', h, q⟩
  obtain ⟨⟨x, S1⟩, h1, h2⟩ := Option.bind_eq_some_iff.mp h
  cases x <;> first | exact no2 h2 | skip
  cases h2
  exact ⟨_, _, h1, _, rfl, q⟩
 ·rintro ⟨x, S1, h1, i, rfl, q⟩
  exact ⟨some i, S1, by rw [h1]; rfl, q⟩
theorem EV_sl {f : FS} {a : EX} {lo hi : OX} : EV (eSl f a lo hi) e S Q ↔ EV a e S fun x S1 => OV lo e S1 fun l S2 => OV hi e S2 fun u S3 => BV (f S3 x l u) fun d => Q d S3 := by
 unfold EV OV eSl BV
 constructor
 ·rintro ⟨v, S', h, q⟩
  obtain ⟨⟨x, S1⟩, h1, h⟩ := Option.bind_eq_some_iff.mp h
  obtain ⟨⟨y, S2⟩, h2, h⟩ := Option.bind_eq_some_iff.mp h
  obtain ⟨⟨z, S3⟩, h3, h⟩ := Option.bind_eq_some_iff.mp h
  obtain ⟨d, h4, h⟩ := Option.map_eq_some_iff.mp h
  cases h
  exact ⟨x, S1, h1, y, S2, h2, z, _, h3, _, h4, q⟩
 ·rintro ⟨x, S1, h1, y, S2, h2, z, S3, h3, d, h4, q⟩
  exact ⟨d, S3, by rw [h1]; show (lo e S1).bind _ = _; rw [h2]; show (hi e S2).bind _ = _; rw [h3]; show (f S3 x y z).map _ = _; rw [h4]; rfl, q⟩
theorem AV_sl {f : FSL} {a : EX} {lo hi : OX} : AV (lSl f a lo hi) e S QL ↔ EV a e S fun x S1 => OV lo e S1 fun l S2 => OV hi e S2 fun u S3 => LBV (f S3 x l u) fun d => QL d S3 := by
 unfold AV EV OV lSl LBV
 constructor
 ·rintro ⟨v, S', h, q⟩
  obtain ⟨⟨x, S1⟩, h1, h⟩ := Option.bind_eq_some_iff.mp h
  obtain ⟨⟨y, S2⟩, h2, h⟩ := Option.bind_eq_some_iff.mp h
  obtain ⟨⟨z, S3⟩, h3, h⟩ := Option.bind_eq_some_iff.mp h
  obtain ⟨d, h4, h⟩ := Option.map_eq_some_iff.mp h
  cases h
  exact ⟨x, S1, h1, y, S2, h2, z, _, h3, _, h4, q⟩
 ·rintro ⟨x, S1, h1, y, S2, h2, z, S3, h3, d, h4, q⟩
  exact ⟨d, S3, by rw [h1]; show (lo e S1).bind _ = _; rw [h2]; show (hi e S2).bind _ = _; rw [h3]; show (f S3 x y z).map _ = _; rw [h4]; rfl, q⟩
theorem EV_call {c : Con} {g : AX} : EV (eCall c g) e S Q ↔ AV g e S fun ds S1 => CV c ds S1 Q := by
 unfold EV AV eCall CV
 constructor
 ·rintro ⟨v, S', h, q⟩
  obtain ⟨⟨ds, S1⟩, h1, h2⟩ := Option.bind_eq_some_iff.mp h
  exact ⟨ds, S1, h1, v, S', h2, q⟩
 ·rintro ⟨ds, S1, h1, v, S', h2, q⟩
  exact ⟨v, S', by rw [h1]; exact h2, q⟩
theorem EV_callK {c : Con} {p : List D → List D} {g : AX} : EV (eCallK c p g) e S Q ↔ AV g e S fun ds S1 => CV c (p ds) S1 Q := by
 unfold EV AV eCallK CV
 constructor
 ·rintro ⟨v, S', h, q⟩
  obtain ⟨⟨ds, S1⟩, h1, h2⟩ := Option.bind_eq_some_iff.mp h
  exact ⟨ds, S1, h1, v, S', h2, q⟩
 ·rintro ⟨ds, S1, h1, v, S', h2, q⟩
  exact ⟨v, S', by rw [h1]; exact h2, q⟩
theorem EV_mt {h : FM} {fo : EX} {ga : AX} : EV (eMt h fo ga) e S Q ↔ EV fo e S fun x S1 => AV ga e S1 fun args S2 => ∃ n ds v ds', x = .ref n ∧ boxAt S2 n = some ds ∧ h S2 ds args = some (v, ds') ∧ Q v (S2.set n (.lst ds')) := by
 constructor
 ·rintro ⟨v, S', hh, q⟩
  obtain ⟨n, S1, args, S2, ds, ds', h1, h2, h3, h4, rfl⟩ := eMt_inv hh
  exact ⟨_, S1, h1, args, S2, h2, n, ds, v, ds', rfl, h3, h4, q⟩
 ·rintro ⟨x, S1, h1, args, S2, h2, n, ds, v, ds', rfl, h3, h4, q⟩
  exact ⟨v, _, by unfold eMt; rw [h1]; show (ga e S1).bind _ = _; rw [h2]; show (boxAt S2 n).bind _ = _; rw [h3]; show (h S2 ds args).map _ = _; rw [h4]; rfl, q⟩
theorem EV_chain {f g : F2} {a b c : EX} : EV (eChain f g a b c) e S Q ↔ EV a e S fun x S1 => EV b e S1 fun y S2 => BV (f S2 x y) fun t => ∃ k, t = .bl k ∧ if k = true then EV c e S2 fun z S3 => BV (g S3 y z) fun d => Q d S3 else Q (.bl false) S2 := by
 unfold EV eChain BV
 constructor
 ·rintro ⟨v, S', h, q⟩
  obtain ⟨⟨x, S1⟩, h1, h⟩ := Option.bind_eq_some_iff.mp h
  obtain ⟨⟨y, S2⟩, h2, h⟩ := Option.bind_eq_some_iff.mp h
  obtain ⟨t, h3, h⟩ := Option.bind_eq_some_iff.mp h
  refine ⟨x, S1, h1, y, S2, h2, t, h3, ?_⟩
  cases t <;> first | exact no2 h | skip
  rename_i k
  refine ⟨k, rfl, ?_⟩
  cases k with
  | true =>
   obtain ⟨⟨z, S3⟩, h4, h⟩ := Option.bind_eq_some_iff.mp (show (c e S2).bind _ = _ from h)
   obtain ⟨d, h5, h⟩ := Option.map_eq_some_iff.mp h
   cases h
   exact ⟨z, _, h4, _, h5, q⟩
  | false => cases h; exact q
 ·rintro ⟨x, S1, h1, y, S2, h2, t, h3, k, rfl, h⟩
  rw [h1]
  show ∃ v S', (b e S1).bind _ = _ ∧ _
  rw [h2]
  show ∃ v S', (f S2 x y).bind _ = _ ∧ _
  rw [h3]
  cases k with
  | true =>
   obtain ⟨z, S3, h4, d, h5, q⟩ := h
   exact ⟨d, S3, by show (c e S2).bind _ = _; rw [h4]; show (g S3 y z).map _ = _; rw [h5]; rfl, q⟩
  | false => exact ⟨_, S2, rfl, h⟩
theorem GV_n {i : Nat} {d : D} : GV (gN i) d e S QE ↔ QE (e.set i (some d)) S := ⟨fun ⟨v, S', h, q⟩ => by cases h; exact q, fun q => ⟨_, S, rfl, q⟩⟩
theorem GV_t {n : Nat} {gs : GXs} {d : D} : GV (gT n gs) d e S QE ↔ ∃ ds, d = .tup ds ∧ ds.length = n ∧ GsV gs ds e S QE := by
 unfold GV GsV gT
 constructor
 ·rintro ⟨v, S', h, q⟩
  cases d <;> first | exact no2 h | skip
  simp only at h
  split at h
  ·exact ⟨_, rfl, by assumption, v, S', h, q⟩
  ·cases h
 ·rintro ⟨ds, rfl, hl, v, S', h, q⟩
  exact ⟨v, S', by simp only; rw [if_pos hl]; exact h, q⟩
theorem GsV_nil {ds : List D} : GsV gsNil ds e S QE ↔ ds = [] ∧ QE e S := by
 unfold GsV gsNil
 constructor
 ·rintro ⟨v, S', h, q⟩
  cases ds with
  | nil => cases h; exact ⟨rfl, q⟩
  | cons d ds => cases h
 ·rintro ⟨rfl, q⟩
  exact ⟨e, S, rfl, q⟩
theorem GsV_cons {g : GX} {gs : GXs} {ds : List D} : GsV (gsCons g gs) ds e S QE ↔ ∃ d r, ds = d :: r ∧ GV g d e S fun e1 S1 => GsV gs r e1 S1 QE := by
 unfold GsV GV gsCons
 constructor
 ·rintro ⟨v, S', h, q⟩
  cases ds with
  | nil => cases h
  | cons d ds =>
   obtain ⟨⟨e1, S1⟩, h1, h2⟩ := Option.bind_eq_some_iff.mp (show (g d e S).bind _ = _ from h)
   exact ⟨d, ds, rfl, e1, S1, h1, v, S', h2, q⟩
 ·rintro ⟨d, r, rfl, e1, S1, h1, v, S', h2, q⟩
  exact ⟨v, S', by show (g d e S).bind _ = _; rw [h1]; exact h2, q⟩
theorem GV_s {fo fi : EX} {d : D} : GV (gS fo fi) d e S QE ↔ EV fo e S fun x S1 => EV fi e S1 fun y S2 => ∃ n k ds j, x = .ref n ∧ y = .int k ∧ boxAt S2 n = some ds ∧ ixN ds.length k = some j ∧ QE e (S2.set n (.lst (ds.set j d))) := by
 unfold GV EV gS
 constructor
 ·rintro ⟨v, S', h, q⟩
  obtain ⟨⟨x, S1⟩, h1, h⟩ := Option.bind_eq_some_iff.mp h
  obtain ⟨⟨y, S2⟩, h2, h⟩ := Option.bind_eq_some_iff.mp h
  refine ⟨x, S1, h1, y, S2, h2, ?_⟩
  cases x <;> cases y <;> first | exact no2 h | skip
  obtain ⟨ds, h3, h⟩ := Option.bind_eq_some_iff.mp (show (boxAt S2 _).bind _ = _ from h)
  obtain ⟨j, h4, h⟩ := Option.map_eq_some_iff.mp h
  cases h
  exact ⟨_, _, ds, j, rfl, rfl, h3, h4, q⟩
 ·rintro ⟨x, S1, h1, y, S2, h2, n, k, ds, j, rfl, rfl, h3, h4, q⟩
  exact ⟨e, _, by rw [h1]; show (fi e S1).bind _ = _; rw [h2]; show (boxAt S2 n).bind _ = _; rw [h3]; show (ixN ds.length k).map _ = _; rw [h4]; rfl, q⟩
def then_ (Q : Out → Prop) (k : En → Sto → Prop) : Out → Prop
 | .nx e S => k e S
 | .rt d S => Q (.rt d S)
 | .bk e S => Q (.bk e S)
 | .ct e S => Q (.ct e S)
theorem SV_seq {f g : SX} : SV (sSeq f g) e S QO ↔ SV f e S (then_ QO fun e1 S1 => SV g e1 S1 QO) := by
 unfold SV sSeq
 constructor
 ·rintro ⟨o, h, q⟩
  obtain ⟨o1, h1, h2⟩ := Option.bind_eq_some_iff.mp h
  refine ⟨o1, h1, ?_⟩
  cases o1 with
  | nx e1 S1 => exact ⟨o, h2, q⟩
  | _ => cases h2; exact q
 ·rintro ⟨o1, h1, h2⟩
  rw [h1]
  cases o1 with
  | nx e1 S1 => exact h2
  | _ => exact ⟨_, rfl, h2⟩
theorem SV_nil : SV sNil e S QO ↔ QO (.nx e S) := ⟨fun ⟨v, h, q⟩ => by cases h; exact q, fun q => ⟨_, rfl, q⟩⟩
theorem SV_break : SV sBreak e S QO ↔ QO (.bk e S) := ⟨fun ⟨v, h, q⟩ => by cases h; exact q, fun q => ⟨_, rfl, q⟩⟩
theorem SV_expr {f : EX} : SV (sExpr f) e S QO ↔ EV f e S fun _ S1 => QO (.nx e S1) := by
 unfold SV EV sExpr
 constructor
 ·rintro ⟨o, h, q⟩
  obtain ⟨⟨x, S1⟩, h1, h2⟩ := Option.map_eq_some_iff.mp h
  cases h2
  exact ⟨x, S1, h1, q⟩
 ·rintro ⟨x, S1, h1, q⟩
  exact ⟨_, by rw [h1]; rfl, q⟩
theorem SV_ret {f : EX} : SV (sRet f) e S QO ↔ EV f e S fun x S1 => QO (.rt x S1) := by
 unfold SV EV sRet
 constructor
 ·rintro ⟨o, h, q⟩
  obtain ⟨⟨x, S1⟩, h1, h2⟩ := Option.map_eq_some_iff.mp h
  cases h2
  exact ⟨x, S1, h1, q⟩
 ·rintro ⟨x, S1, h1, q⟩
  exact ⟨_, by rw [h1]; rfl, q⟩
theorem SV_if {t : TX} {f g : SX} : SV (sIf t f g) e S QO ↔ TV t e S fun b S1 => if b = true then SV f e S1 QO else SV g e S1 QO := by
 unfold SV TV sIf
 constructor
 ·rintro ⟨o, h, q⟩
  obtain ⟨⟨b, S1⟩, h1, h2⟩ := Option.bind_eq_some_iff.mp h
  refine ⟨b, S1, h1, ?_⟩
  cases b <;> exact ⟨o, h2, q⟩
 ·rintro ⟨b, S1, h1, h2⟩
  rw [h1]
  cases b <;> exact h2
theorem SV_asg {f : EX} {g : GX} : SV (sAsg f g) e S QO ↔ EV f e S fun x S1 => GV g x e S1 fun e1 S2 => QO (.nx e1 S2) := by
 unfold SV EV GV sAsg
 constructor
 ·rintro ⟨o, h, q⟩
  obtain ⟨⟨x, S1⟩, h1, h⟩ := Option.bind_eq_some_iff.mp h
  obtain ⟨⟨e1, S2⟩, h2, h⟩ := Option.map_eq_some_iff.mp h
  cases h
  exact ⟨x, S1, h1, e1, S2, h2, q⟩
 ·rintro ⟨x, S1, h1, e1, S2, h2, q⟩
  exact ⟨_, by rw [h1]; show (g x e S1).map _ = _; rw [h2]; rfl, q⟩
theorem SV_par {i j : Nat} {g : AX} : SV (sPar i j g) e S QO ↔ AV g e S fun ds S1 => ∃ u v, ds = [u, v] ∧ QO (.nx ((e.set i (some u)).set j (some v)) S1) := by
 unfold SV AV sPar
 constructor
 ·rintro ⟨o, h, q⟩
  obtain ⟨⟨ds, S1⟩, h1, h⟩ := Option.bind_eq_some_iff.mp h
  match ds, h with
  | [u, v], h => cases h; exact ⟨_, S1, h1, u, v, rfl, q⟩
 ·rintro ⟨ds, S1, h1, u, v, rfl, q⟩
  exact ⟨_, by rw [h1]; rfl, q⟩
theorem SV_par3 {i j l : Nat} {g : AX} : SV (sPar3 i j l g) e S QO ↔ AV g e S fun ds S1 => ∃ u v w, ds = [u, v, w] ∧ QO (.nx (((e.set i (some u)).set j (some v)).set l (some w)) S1) := by
 unfold SV AV sPar3
 constructor
 ·rintro ⟨o, h, q⟩
  obtain ⟨⟨ds, S1⟩, h1, h⟩ := Option.bind_eq_some_iff.mp h
  match ds, h with
  | [u, v, w], h => cases h; exact ⟨_, S1, h1, u, v, w, rfl, q⟩
 ·rintro ⟨ds, S1, h1, u, v, w, rfl, q⟩
  exact ⟨_, by rw [h1]; rfl, q⟩
theorem SV_aug {i : Nat} {f : F2} {g : EX} : SV (sAug i f g) e S QO ↔ ∃ x, e[i]? = some (some x) ∧ EV g e S fun y S1 => BV (f S1 x y) fun d => QO (.nx (e.set i (some d)) S1) := by
 unfold SV EV sAug BV
 constructor
 ·rintro ⟨o, h, q⟩
  split at h
  ·rename_i x hx
   obtain ⟨⟨y, S1⟩, h1, h⟩ := Option.bind_eq_some_iff.mp h
   obtain ⟨d, h2, h⟩ := Option.map_eq_some_iff.mp h
   cases h
   exact ⟨x, hx, y, S1, h1, d, h2, q⟩
  ·cases h
 ·rintro ⟨x, hx, y, S1, h1, d, h2, q⟩
  exact ⟨_, by rw [hx]; show (g e S).bind _ = _; rw [h1]; show (f S1 x y).map _ = _; rw [h2]; rfl, q⟩
theorem SV_asgL {bx : Bool} {f : LX} {i : Nat} : SV (sAsgL bx f i) e S QO ↔ SV (sAsg (if bx = true then eBx f else eFz f) (gN i)) e S QO := Iff.rfl
theorem SV_for {it : IX} {g : GX} {b : SX} : SV (sFor it g b) e S QO ↔ IV it e S fun ds gs S1 => SV (forL g b gs S1 ds) e S1 QO := by
 unfold SV IV sFor
 constructor
 ·rintro ⟨o, h, q⟩
  obtain ⟨⟨ds, gs, S1⟩, h1, h2⟩ := Option.bind_eq_some_iff.mp h
  exact ⟨ds, gs, S1, h1, o, h2, q⟩
 ·rintro ⟨ds, gs, S1, h1, o, h2, q⟩
  exact ⟨o, by rw [h1]; exact h2, q⟩
theorem SV_for_nil {g : GX} {b : SX} {gs : List Nat} {S0 : Sto} : SV (forL g b gs S0 []) e S QO ↔ QO (.nx e S) := ⟨fun ⟨v, h, q⟩ => by cases h; exact q, fun q => ⟨_, rfl, q⟩⟩
def turn_ (Q : Out → Prop) (gs : List Nat) (S0 : Sto) (k : En → Sto → Prop) : Out → Prop
 | .nx e S => (∀ n, n ∈ gs → S[n]? = S0[n]?) ∧ k e S
 | .ct e S => (∀ n, n ∈ gs → S[n]? = S0[n]?) ∧ k e S
 | .bk e S => Q (.nx e S)
 | .rt d S => Q (.rt d S)
open Classical in
theorem SV_for_cons {g : GX} {b : SX} {gs : List Nat} {S0 : Sto} {d : D} {ds : List D} : SV (forL g b gs S0 (d :: ds)) e S QO ↔ GV g d e S fun e1 S1 => SV b e1 S1 (turn_ QO gs S0 fun e2 S2 => SV (forL g b gs S0 ds) e2 S2 QO) := by
 unfold SV GV
 constructor
 ·rintro ⟨o, h, q⟩
  obtain ⟨⟨e1, S1⟩, h1, h⟩ := Option.bind_eq_some_iff.mp (show (g d e S).bind _ = _ from h)
  obtain ⟨o1, h2, h⟩ := Option.bind_eq_some_iff.mp h
  refine ⟨e1, S1, h1, o1, h2, ?_⟩
  cases o1 with
  | nx e2 S2 => simp only at h; split at h; (rename_i hg; exact ⟨hg, o, h, q⟩); cases h
  | ct e2 S2 => simp only at h; split at h; (rename_i hg; exact ⟨hg, o, h, q⟩); cases h
  | bk e2 S2 => cases h; exact q
  | rt d2 S2 => cases h; exact q
 ·rintro ⟨e1, S1, h1, o1, h2, h⟩
  show ∃ o, (g d e S).bind _ = _ ∧ _
  rw [h1]
  show ∃ o, (b e1 S1).bind _ = _ ∧ _
  rw [h2]
  cases o1 with
  | nx e2 S2 =>
   obtain ⟨hg, o, h, q⟩ := h
   exact ⟨o, (if_pos hg).trans h, q⟩
  | ct e2 S2 =>
   obtain ⟨hg, o, h, q⟩ := h
   exact ⟨o, (if_pos hg).trans h, q⟩
  | bk e2 S2 => exact ⟨_, rfl, h⟩
  | rt d2 S2 => exact ⟨_, rfl, h⟩
theorem SV_while {t : TX} {b : SX} (I : Nat → En → Sto → Prop) (n : Nat) (h0 : I n e S)
  (step : ∀ n e S, I n e S → TV t e S fun c S1 => if c = true then SV b e S1 (turn_ QO [] [] fun e2 S2 => ∃ k, k < n ∧ I k e2 S2) else QO (.nx e S1)) : SV (sWhile t b) e S QO := by
 have key : ∀ n e S, I n e S → ∃ o, whileN t b (n + 1) e S = some o ∧ QO o := by
  intro n
  induction n using Nat.strongRecOn with
  | _ n ih =>
   intro e S hI
   obtain ⟨c, S1, h1, h2⟩ := step n e S hI
   show ∃ o, (t e S).bind _ = _ ∧ _
   rw [h1]
   show ∃ o, (if c = true then _ else _) = _ ∧ _
   cases c with
   | false => exact ⟨_, rfl, h2⟩
   | true =>
    rw [if_pos rfl]
    obtain ⟨o1, h3, h4⟩ := (show SV b e S1 _ from h2)
    rw [h3]
    cases o1 with
    | nx e2 S2 =>
     obtain ⟨_, k, hk, hI2⟩ := h4
     obtain ⟨o, h5, q⟩ := ih k hk e2 S2 hI2
     exact ⟨o, whileN_le h5 (by omega), q⟩
    | ct e2 S2 =>
     obtain ⟨_, k, hk, hI2⟩ := h4
     obtain ⟨o, h5, q⟩ := ih k hk e2 S2 hI2
     exact ⟨o, whileN_le h5 (by omega), q⟩
    | bk e2 S2 => exact ⟨_, rfl, h4⟩
    | rt d2 S2 => exact ⟨_, rfl, h4⟩
 obtain ⟨o, h, q⟩ := key n e S h0
 exact ⟨o, sWhile_of h, q⟩
theorem IV_seq {f : EX} : IV (iSeq f) e S QI ↔ EV f e S fun d S1 => ∃ ds, seqOf S1 d = some ds ∧ QI ds (gsOf d) S1 := by
 unfold IV
 constructor
 ·rintro ⟨ds, gs, S', h, q⟩
  obtain ⟨d, h1, hd⟩ := iSeq_inv h
  refine ⟨d, S', h1, ds, ?_⟩
  rcases hd with ⟨rfl, rfl⟩ | ⟨h2, rfl⟩
  ·exact ⟨rfl, q⟩
  ·refine ⟨?_, q⟩
   cases d <;> first | exact no2 h2 | exact h2
 ·rintro ⟨d, S1, h1, ds, h2, q⟩
  refine ⟨ds, gsOf d, S1, ?_, q⟩
  unfold iSeq
  rw [h1]
  cases d <;> first | exact no2 h2 | skip
  ·cases h2; rfl
  ·cases h2; rfl
  ·cases h2; rfl
  ·show (boxAt S1 _).map _ = _
   rw [show boxAt S1 _ = some ds from h2]
   rfl
theorem IV_rg1 {f : EX} : IV (iRg1 f) e S QI ↔ EV f e S fun d S1 => ∃ j, d = .int j ∧ rgOk j = true ∧ QI (rgD 0 j) [] S1 := by
 unfold IV EV iRg1
 constructor
 ·rintro ⟨ds, gs, S', h, q⟩
  obtain ⟨⟨d, S1⟩, h1, h⟩ := Option.bind_eq_some_iff.mp h
  cases d <;> first | exact no2 h | skip
  obtain ⟨hz, h⟩ := ite_some h
  cases h
  exact ⟨_, S1, h1, _, rfl, hz, q⟩
 ·rintro ⟨d, S1, h1, j, rfl, hz, q⟩
  exact ⟨_, _, _, by rw [h1]; show (if rgOk j = true then _ else _) = _; rw [if_pos hz], q⟩
theorem IV_rg2 {f g : EX} : IV (iRg2 f g) e S QI ↔ EV f e S fun d S1 => EV g e S1 fun d2 S2 => ∃ i j, d = .int i ∧ d2 = .int j ∧ (rgOk i && rgOk j) = true ∧ QI (rgD i j) [] S2 := by
 unfold IV EV iRg2
 constructor
 ·rintro ⟨ds, gs, S', h, q⟩
  obtain ⟨⟨d, S1⟩, h1, h⟩ := Option.bind_eq_some_iff.mp h
  obtain ⟨⟨d2, S2⟩, h2, h⟩ := Option.bind_eq_some_iff.mp h
  cases d <;> cases d2 <;> first | exact no2 h | skip
  obtain ⟨hz, h⟩ := ite_some h
  cases h
  exact ⟨_, S1, h1, _, S2, h2, _, _, rfl, rfl, hz, q⟩
 ·rintro ⟨d, S1, h1, d2, S2, h2, i, j, rfl, rfl, hz, q⟩
  exact ⟨_, _, _, by rw [h1]; show (g e S1).bind _ = _; rw [h2]; show (if (rgOk i && rgOk j) = true then _ else _) = _; rw [if_pos hz], q⟩
theorem IV_enum {f : EX} : IV (iEnum' f) e S QI ↔ EV f e S fun d S1 => ∃ ds, seqOf S1 d = some ds ∧ QI (enumD ds) (gsOf d) S1 := by
 unfold IV
 constructor
 ·rintro ⟨es, gs, S', h, q⟩
  obtain ⟨d, ds, h1, rfl, hd⟩ := iEnum_inv h
  refine ⟨d, S', h1, ds, ?_⟩
  rcases hd with ⟨rfl, rfl⟩ | ⟨h2, rfl⟩
  ·exact ⟨rfl, q⟩
  ·refine ⟨?_, q⟩
   cases d <;> first | exact no2 h2 | exact h2
 ·rintro ⟨d, S1, h1, ds, h2, q⟩
  refine ⟨enumD ds, gsOf d, S1, ?_, q⟩
  unfold iEnum'
  rw [h1]
  cases d <;> first | exact no2 h2 | skip
  ·cases h2; rfl
  ·cases h2; rfl
  ·cases h2; rfl
  ·show (boxAt S1 _).map _ = _
   rw [show boxAt S1 _ = some ds from h2]
   rfl
theorem AV_lc {it : IX} {g : GX} {tt : TX} {te : EX} {vs : List Nat} : AV (lLc it g tt te vs) e S QL ↔ IV it e S fun ds gs S1 => ∃ out S2, lcL g tt te gs S1 (wipeE e vs) ds S1 = some (out, S2) ∧ szOk out.length = true ∧ QL out S2 := by
 unfold AV IV lLc
 constructor
 ·rintro ⟨v, S', h, q⟩
  obtain ⟨⟨ds, gs, S1⟩, h1, h⟩ := Option.bind_eq_some_iff.mp h
  obtain ⟨⟨out, S2⟩, h2, h⟩ := Option.bind_eq_some_iff.mp h
  obtain ⟨hz, h⟩ := ite_some h
  cases h
  exact ⟨ds, gs, S1, h1, _, _, h2, hz, q⟩
 ·rintro ⟨ds, gs, S1, h1, out, S2, h2, hz, q⟩
  exact ⟨out, S2, by rw [h1]; show (lcL g tt te gs S1 (wipeE e vs) ds S1).bind _ = _; rw [h2]; show (if szOk out.length = true then _ else _) = _; rw [if_pos hz], q⟩
def LV (g : GX) (tt : TX) (te : EX) (gs : List Nat) (S0 : Sto) (e0 : En) (ds : List D) (S : Sto) (Q : List D → Sto → Prop) : Prop := ∃ out S2, lcL g tt te gs S0 e0 ds S = some (out, S2) ∧ Q out S2
theorem LV_nil {g : GX} {tt : TX} {te : EX} {gs : List Nat} {S0 : Sto} {e0 : En} : LV g tt te gs S0 e0 [] S QL ↔ QL [] S := ⟨fun ⟨v, S', h, q⟩ => by cases h; exact q, fun q => ⟨[], S, rfl, q⟩⟩
open Classical in
theorem LV_cons {g : GX} {tt : TX} {te : EX} {gs : List Nat} {S0 : Sto} {e0 : En} {d : D} {ds : List D} : LV g tt te gs S0 e0 (d :: ds) S QL ↔ GV g d e0 S fun e1 S1 => TV tt e1 S1 fun b S2 => if b = true then EV te e1 S2 fun y S3 => (∀ n, n ∈ gs → S3[n]? = S0[n]?) ∧ LV g tt te gs S0 e0 ds S3 fun r S4 => QL (y :: r) S4
  else (∀ n, n ∈ gs → S2[n]? = S0[n]?) ∧ LV g tt te gs S0 e0 ds S2 QL := by
 unfold LV GV TV EV
 constructor
 ·rintro ⟨out, S', h, q⟩
  obtain ⟨⟨e1, S1⟩, h1, h⟩ := Option.bind_eq_some_iff.mp (show (g d e0 S).bind _ = _ from h)
  obtain ⟨⟨b, S2⟩, h2, h⟩ := Option.bind_eq_some_iff.mp h
  refine ⟨e1, S1, h1, b, S2, h2, ?_⟩
  cases b with
  | true =>
   obtain ⟨⟨y, S3⟩, h3, h⟩ := Option.bind_eq_some_iff.mp (show (te e1 S2).bind _ = _ from h)
   simp only at h
   split at h
   ·rename_i hg
    obtain ⟨⟨r, S4⟩, h4, h⟩ := Option.map_eq_some_iff.mp h
    cases h
    exact ⟨y, S3, h3, hg, r, _, h4, q⟩
   ·cases h
  | false =>
   have h : (if (∀ n, n ∈ gs → S2[n]? = S0[n]?) then _ else _) = some (out, S') := h
   split at h
   ·rename_i hg
    exact ⟨hg, out, S', h, q⟩
   ·cases h
 ·rintro ⟨e1, S1, h1, b, S2, h2, h⟩
  show ∃ out S', (g d e0 S).bind _ = _ ∧ _
  rw [h1]
  show ∃ out S', (tt e1 S1).bind _ = _ ∧ _
  rw [h2]
  cases b with
  | true =>
   obtain ⟨y, S3, h3, hg, r, S4, h4, q⟩ := h
   exact ⟨_, _, by show (te e1 S2).bind _ = _; rw [h3]; show (if _ then _ else _) = _; rw [if_pos hg]; show (lcL g tt te gs S0 e0 ds S3).map _ = _; rw [h4]; rfl, q⟩
  | false =>
   obtain ⟨hg, out, S', h, q⟩ := h
   exact ⟨out, S', by show (if _ then _ else _) = _; rw [if_pos hg]; exact h, q⟩
end
theorem CV.imp {f : Con} {e : List D} {S : Sto} {Q R : D → Sto → Prop} (h : CV f e S Q) (k : ∀ d S1, Q d S1 → R d S1) : CV f e S R := by obtain ⟨v, S', h1, q⟩ := h; exact ⟨v, S', h1, k _ _ q⟩
theorem SV.imp {f : SX} {e : En} {S : Sto} {Q R : Out → Prop} (h : SV f e S Q) (k : ∀ o, Q o → R o) : SV f e S R := by obtain ⟨v, h1, q⟩ := h; exact ⟨v, h1, k _ q⟩
theorem LV.imp {g : GX} {tt : TX} {te : EX} {gs : List Nat} {S0 : Sto} {e0 : En} {ds : List D} {S : Sto} {Q R : List D → Sto → Prop} (h : LV g tt te gs S0 e0 ds S Q) (k : ∀ d S1, Q d S1 → R d S1) : LV g tt te gs S0 e0 ds S R := by obtain ⟨v, S', h1, q⟩ := h; exact ⟨v, S', h1, k _ _ q⟩
def Rt (S : Sto) (keep : Nat) (Q : D → Sto → Prop) : Out → Prop
 | .rt d S2 => S.length + keep ≤ S2.length ∧ KeptS S S2 (S.length + keep) ∧ BV (handed S2 (S.length + keep) d) fun v => Q v (S2.take (S.length + keep))
 | .nx _ S2 => S.length + keep ≤ S2.length ∧ KeptS S S2 (S.length + keep) ∧ Q .non (S2.take (S.length + keep))
 | _ => False
open Classical in
theorem CV_den {n N keep : Nat} {b : SX} {ds : List D} {S : Sto} {Q : D → Sto → Prop} (hn : ds.length = n) (h : SV b (sE N ds) S (Rt S keep Q)) : CV (den n N keep b) ds S Q := by
 obtain ⟨o, h1, q⟩ := h
 unfold CV den
 rw [if_pos hn, h1]
 cases o with
 | rt d S2 =>
  obtain ⟨z1, z2, v, z3, z4⟩ := q
  refine ⟨v, _, ?_, z4⟩
  show (if _ then _ else _) = _
  rw [if_pos ⟨z1, z2⟩, z3]
  rfl
 | nx e S2 =>
  obtain ⟨z1, z2, z3⟩ := q
  refine ⟨.non, _, ?_, z3⟩
  show (if _ then _ else _) = _
  rw [if_pos ⟨z1, z2⟩]
 | bk e S2 => exact q.elim
 | ct e S2 => exact q.elim
section
variable {S : Sto} {Q : D → Prop} {R : D → Sto → Prop} {QL : List D → Prop}
theorem BV_some {d : D} : BV (some d) Q ↔ Q d := ⟨fun ⟨_, e, q⟩ => by cases e; exact q, fun q => ⟨d, rfl, q⟩⟩
theorem BV_ite {c : Prop} [Decidable c] {x : Option D} : BV (if c then x else none) Q ↔ c ∧ BV x Q := by
 constructor
 ·rintro ⟨d, e, q⟩
  split at e
  ·exact ⟨by assumption, d, e, q⟩
  ·cases e
 ·rintro ⟨h, d, e, q⟩
  exact ⟨d, by rw [if_pos h]; exact e, q⟩
theorem LBV_some {d : List D} : LBV (some d) QL ↔ QL d := ⟨fun ⟨_, e, q⟩ => by cases e; exact q, fun q => ⟨d, rfl, q⟩⟩
theorem LBV_ite {c : Prop} [Decidable c] {x : Option (List D)} : LBV (if c then x else none) QL ↔ c ∧ LBV x QL := by
 constructor
 ·rintro ⟨d, e, q⟩
  split at e
  ·exact ⟨by assumption, d, e, q⟩
  ·cases e
 ·rintro ⟨h, d, e, q⟩
  exact ⟨d, by rw [if_pos h]; exact e, q⟩
variable {a b : Int} {x y : D} {ds es : List D} {p q : Bool}
theorem r_add : fAdd S (.int a) (.int b) = some (.int (a + b)) := rfl
theorem r_addT : fAdd S (.tup ds) (.tup es) = if szOk (ds.length + es.length) = true then some (.tup (ds ++ es)) else none := rfl
theorem r_iadd : fIAdd S (.int a) (.int b) = some (.int (a + b)) := rfl
theorem r_sub : fSub S (.int a) (.int b) = some (.int (a - b)) := rfl
theorem r_mul : fMul S (.int a) (.int b) = if mulOk a b = true then some (.int (a * b)) else none := rfl
theorem r_div : fDiv S (.int a) (.int b) = if divOk b = true then some (.int (a.fdiv b)) else none := rfl
theorem r_mod : fMod S (.int a) (.int b) = if b ≠ 0 then some (.int (a.fmod b)) else none := rfl
theorem r_pow : fPow S (.int a) (.int b) = if powOk a b = true then some (.int (a ^ b.toNat)) else none := rfl
theorem r_shl : fShl S (.int a) (.int b) = if powOk a b = true then some (.int (a * 2 ^ b.toNat)) else none := rfl
theorem r_neg : fNeg S (.int a) = some (.int (-a)) := rfl
theorem r_lt : fLt S (.int a) (.int b) = some (.bl (decide (a < b))) := rfl
theorem r_le : fLe S (.int a) (.int b) = some (.bl (decide (a ≤ b))) := rfl
theorem r_gt : fGt S (.int a) (.int b) = some (.bl (decide (b < a))) := rfl
theorem r_ge : fGe S (.int a) (.int b) = some (.bl (decide (b ≤ a))) := rfl
theorem r_eq : fEq S (.int a) (.int b) = some (.bl (decide (a = b))) := rfl
theorem r_ne : fNe S (.int a) (.int b) = some (.bl (!decide (a = b))) := rfl
theorem r_eqS {u v : Str} : fEq S (.str u) (.str v) = some (.bl (decide (u = v))) := rfl
theorem r_neS {u v : Str} : fNe S (.str u) (.str v) = some (.bl (!decide (u = v))) := rfl
theorem r_gabs : gAbs S (.int a) = some (.int (if a < 0 then -a else a)) := rfl
theorem r_gmax : gMax2 S (.int a) (.int b) = some (.int (if b > a then b else a)) := rfl
theorem r_gmin : gMin2 S (.int a) (.int b) = some (.int (if b < a then b else a)) := rfl
theorem r_gintI : gInt S (.int a) = some (.int a) := rfl
theorem r_gintB : gInt S (.bl p) = some (.int (if p then 1 else 0)) := rfl
theorem r_not : fNot S (.bl p) = some (.bl (!p)) := rfl
theorem r_fn1 {f : F1} : fn1 f S [x] = f S x := rfl
theorem r_fn2 {f : F2} : fn2 f S [x, y] = f S x y := rfl
theorem r_fnl1 {f : Sto → D → Option (List D)} : fnl1 f S [x] = f S x := rfl
theorem r_lenT : gLen S (.tup ds) = some (.int ds.length) := rfl
theorem r_lenL : gLen S (.lst ds) = some (.int ds.length) := rfl
theorem r_lenR : gLen S (.rol ds) = some (.int ds.length) := rfl
theorem r_lenX {n : Nat} : gLen S (.ref n) = (boxAt S n).map fun ds => .int ds.length := rfl
theorem r_tupT : gTuple S (.tup ds) = some (.tup ds) := rfl
theorem r_tupL : gTuple S (.lst ds) = some (.tup ds) := rfl
theorem r_tupR : gTuple S (.rol ds) = some (.tup ds) := rfl
theorem r_tupX {n : Nat} : gTuple S (.ref n) = (boxAt S n).map .tup := rfl
theorem r_listT : gList S (.tup ds) = some ds := rfl
theorem r_listL : gList S (.lst ds) = some ds := rfl
theorem r_listR : gList S (.rol ds) = some ds := rfl
theorem r_listX {n : Nat} : gList S (.ref n) = boxAt S n := rfl
theorem r_ixT : fIx S (.tup ds) (.int a) = atI ds a := rfl
theorem r_ixL : fIx S (.lst ds) (.int a) = atI ds a := rfl
theorem r_ixR : fIx S (.rol ds) (.int a) = atI ds a := rfl
theorem r_ixX {n : Nat} : fIx S (.ref n) (.int a) = (boxAt S n).bind fun ds => atI ds a := rfl
theorem r_seqT : seqOf S (.tup ds) = some ds := rfl
theorem r_seqL : seqOf S (.lst ds) = some ds := rfl
theorem r_seqR : seqOf S (.rol ds) = some ds := rfl
theorem r_seqX {n : Nat} : seqOf S (.ref n) = boxAt S n := rfl
theorem r_addLL : fAddL S (.lst ds) (.lst es) = if szOk (ds.length + es.length) = true then some (ds ++ es) else none := rfl
theorem r_mulLL : fMulL S (.lst ds) (.int b) = if (decide (0 ≤ b) && decide (b ≤ 100000) && szOk (ds.length * b.toNat)) = true then some (List.replicate b.toNat ds).flatten else none := rfl
theorem r_isTt : gIs "tuple" S (.tup ds) = some (.bl true) := by
 show (kitB "tuple" "tuple").map D.bl = _
 rw [show kitB "tuple" "tuple" = some true by decide +kernel]
 rfl
theorem r_isTi : gIs "tuple" S (.int a) = some (.bl false) := by
 show (kitB "int" "tuple").map D.bl = _
 rw [show kitB "int" "tuple" = some false by decide +kernel]
 rfl
theorem r_isTs {u : Str} : gIs "tuple" S (.str u) = some (.bl false) := by
 show (kitB "str" "tuple").map D.bl = _
 rw [show kitB "str" "tuple" = some false by decide +kernel]
 rfl
theorem r_gsT : gsOf (.tup ds) = [] := rfl
theorem r_gsL : gsOf (.lst ds) = [] := rfl
theorem r_gsR : gsOf (.rol ds) = [] := rfl
theorem r_gsX {n : Nat} : gsOf (.ref n) = [n] := rfl
theorem r_isN : fIs S x .non = some (.bl (isNon x)) := rfl
theorem r_isNN : fIsNot S x .non = some (.bl (!isNon x)) := rfl
theorem r_isB : fIs S (.bl p) (.bl q) = some (.bl (decide (p = q))) := rfl
theorem r_slT {lo hi : Option Int} : fSlT S (.tup ds) lo hi = some (.tup (cutD ds lo hi)) := rfl
theorem r_slL {lo hi : Option Int} : fSlL S (.lst ds) lo hi = some (cutD ds lo hi) := rfl
theorem r_slR {lo hi : Option Int} : fSlL S (.rol ds) lo hi = some (cutD ds lo hi) := rfl
theorem r_sumT {ns : List Int} : gSum S (.tup (ns.map D.int)) = some (.int ns.sum) := by show (intsOf _).map _ = _; rw [intsOf_map]; rfl
theorem r_sumL {ns : List Int} : gSum S (.lst (ns.map D.int)) = some (.int ns.sum) := by show (intsOf _).map _ = _; rw [intsOf_map]; rfl
theorem r_allL {ns : List Bool} : gAll S (.lst (ns.map D.bl)) = some (.bl (ns.all id)) := by show (boolsOf _).map _ = _; rw [boolsOf_map]; rfl
theorem r_anyL {ns : List Bool} : gAny S (.lst (ns.map D.bl)) = some (.bl (ns.any id)) := by show (boolsOf _).map _ = _; rw [boolsOf_map]; rfl
theorem at_0 {α : Type} {u : α} {l : List α} : atI (u :: l) 0 = some u := by
 unfold atI ixN
 rw [if_pos (by omega), if_pos (by simp only [List.length_cons]; omega)]; rfl
theorem at_1 {α : Type} {u v : α} {l : List α} : atI (u :: v :: l) 1 = some v := by
 unfold atI ixN
 rw [if_pos (by omega), if_pos (by simp only [List.length_cons]; omega)]; rfl
theorem at_2 {α : Type} {u v w : α} {l : List α} : atI (u :: v :: w :: l) 2 = some w := by
 unfold atI ixN
 rw [if_pos (by omega), if_pos (by simp only [List.length_cons]; omega)]; rfl
theorem at_3 {α : Type} {u v w z : α} {l : List α} : atI (u :: v :: w :: z :: l) 3 = some z := by
 unfold atI ixN
 rw [if_pos (by omega), if_pos (by simp only [List.length_cons]; omega)]; rfl
theorem ixN_in {n : Nat} {i : Int} (h0 : 0 ≤ i) (h1 : i < n) : ixN n i = some i.toNat := by unfold ixN; rw [if_pos h0, if_pos h1]
theorem at_in {α : Type} {l : List α} {i : Int} (h0 : 0 ≤ i) (h1 : i < l.length) : ∃ u, atI l i = some u ∧ u ∈ l ∧ l[i.toNat]? = some u := by
 have h2 : i.toNat < l.length := by omega
 refine ⟨l[i.toNat], ?_, List.getElem_mem h2, List.getElem?_eq_getElem h2⟩
 unfold atI
 rw [ixN_in h0 h1]
 exact List.getElem?_eq_getElem h2
theorem at_nat {α : Type} {l : List α} {i : Nat} : atI l (i : Int) = l[i]? := by
 unfold atI ixN
 rw [if_pos (by omega)]
 by_cases h : i < l.length
 ·rw [if_pos (by omega)]; rfl
 ·rw [if_neg (by omega)]; exact (List.getElem?_eq_none (by omega)).symm
theorem box_of {n : Nat} (h : S[n]? = some (.lst ds)) : boxAt S n = some ds := by unfold boxAt; rw [h]
end
theorem log2_lt {n k : Nat} (h : n < 2 ^ k) (hk : 0 < k) : n.log2 < k := by
 by_cases h0 : n = 0
 ·subst h0; simpa using hk
 ·exact (Nat.log2_lt h0).mpr h
def sm (a : Int) : Prop := a.natAbs < 2 ^ 9000
theorem sm_mul {a b : Int} (h : sm a) (h2 : sm b) : mulOk a b = true := by
 have := log2_lt h (by decide)
 have := log2_lt h2 (by decide)
 unfold mulOk
 exact decide_eq_true (by omega)
theorem sm_div {a : Int} (h : sm a) (h2 : a ≠ 0) : divOk a = true := by
 have := log2_lt h (by decide)
 unfold divOk
 exact Bool.and_eq_true_iff.mpr ⟨decide_eq_true h2, decide_eq_true (by omega)⟩
theorem sm_le {a : Int} (k : Nat) (h : a.natAbs ≤ k) (hk : k < 2 ^ 9000 := by decide +kernel) : sm a := Nat.lt_of_le_of_lt h hk
def hdO (a b c : Int) : Ob := .lst [.int a, .int b, .int c]
def HdOk (n : Nat) (o : Ob) : Prop := ∃ a b c : Int, o = hdO a b c ∧ 0 ≤ a ∧ a < 10 ^ 120 ∧ 0 ≤ b ∧ b < 10 ^ 30 ∧ 0 ≤ c ∧ c ≤ n
def HD (n : Nat) (S : Sto) (h : Nat) : Prop := ∃ o, S[h]? = some o ∧ HdOk n o
theorem HD.mono {n k : Nat} {S : Sto} {h : Nat} (H : HD n S h) (hk : n ≤ k) : HD k S h := by
 obtain ⟨o, h1, a, b, c, h2, h3, h4, h5, h6, h7, h8⟩ := H
 exact ⟨o, h1, a, b, c, h2, h3, h4, h5, h6, h7, by omega⟩
theorem HD.lt {n : Nat} {S : Sto} {h : Nat} (H : HD n S h) : h < S.length := by
 obtain ⟨o, h1, _⟩ := H
 exact (List.getElem?_eq_some_iff.mp h1).1
structure Up (h : Nat) (S S2 : Sto) : Prop where
 len : S.length ≤ S2.length
 at_ : ∀ i, i < S.length → i ≠ h → S2[i]? = S[i]?
theorem Up.refl {h : Nat} {S : Sto} : Up h S S := ⟨Nat.le_refl _, fun _ _ _ => rfl⟩
theorem Up.trans {h : Nat} {S S2 S3 : Sto} (a : Up h S S2) (b : Up h S2 S3) : Up h S S3 := ⟨Nat.le_trans a.len b.len, fun i hi hn => (b.at_ i (Nat.lt_of_lt_of_le hi a.len) hn).trans (a.at_ i hi hn)⟩
theorem Up.set {h : Nat} {S : Sto} {o : Ob} : Up h S (S.set h o) := ⟨by rw [List.length_set]; exact Nat.le_refl _, fun i _ hn => List.getElem?_set_ne (Ne.symm hn)⟩
theorem Up.app {h : Nat} {S T : Sto} : Up h S (S ++ T) := ⟨by rw [List.length_append]; omega, fun i hi _ => List.getElem?_append_left hi⟩
theorem Up.setNew {h k : Nat} {S S2 : Sto} {o : Ob} (a : Up h S S2) (hk : S.length ≤ k) : Up h S (S2.set k o) := ⟨by rw [List.length_set]; exact a.len, fun i hi hn => (List.getElem?_set_ne (by omega)).trans (a.at_ i hi hn)⟩
theorem HD.setNe {n h k : Nat} {S : Sto} {o : Ob} (H : HD n S h) (hk : k ≠ h) : HD n (S.set k o) h := by
 obtain ⟨u, h1, h2⟩ := H
 exact ⟨u, (List.getElem?_set_ne hk).trans h1, h2⟩
theorem HD.app {n h : Nat} {S T : Sto} (H : HD n S h) : HD n (S ++ T) h := by
 have hl := H.lt
 obtain ⟨u, h1, h2⟩ := H
 exact ⟨u, (List.getElem?_append_left hl).trans h1, h2⟩
structure St (h n : Nat) (S S2 : Sto) : Prop where
 up : Up h S S2
 eq : S2.length = S.length
 hd : HD n S2 h
theorem St.trans {h n k : Nat} {S S2 S3 : Sto} (a : St h n S S2) (b : St h k S2 S3) : St h k S S3 := ⟨a.up.trans b.up, b.eq.trans a.eq, b.hd⟩
theorem St.refl {h n : Nat} {S : Sto} (H : HD n S h) : St h n S S := ⟨.refl, rfl, H⟩
theorem St.mono {h n k : Nat} {S S2 : Sto} (a : St h n S S2) (hk : n ≤ k) : St h k S S2 := ⟨a.up, a.eq, a.hd.mono hk⟩
theorem Up.kept {h n : Nat} {S S2 : Sto} (a : Up h S S2) (H : HD n S2 h) : KeptS S S2 (S.length + 0) := fun i ds hi e => by
 by_cases hn : i = h
 ·subst hn
  obtain ⟨o, h1, x, y, z, h2, _⟩ := H
  rw [h1, h2] at e
  cases e
  exact .inr rfl
 ·exact .inl ((a.at_ i hi hn).symm.trans e)
theorem Up.cut {h n : Nat} {S S2 : Sto} (a : Up h S S2) (H : HD n S2 h) (hs : h < S.length) : St h n S (S2.take (S.length + 0)) := by
 have hl : (S2.take (S.length + 0)).length = S.length := by rw [List.length_take]; have := a.len; omega
 refine ⟨⟨by omega, fun i hi hn => ?_⟩, hl, ?_⟩
 ·rw [List.getElem?_take_of_lt (by omega)]; exact a.at_ i hi hn
 ·obtain ⟨o, h1, h2⟩ := H
  exact ⟨o, by rw [List.getElem?_take_of_lt (by omega)]; exact h1, h2⟩
mutual
def bare : D → Bool
 | .ref _ => false
 | .tup xs => bareL xs
 | .lst xs => bareL xs
 | .rol xs => bareL xs
 | .dic _ xs => bareL xs
 | .tag _ _ => false
 | .dref _ => false
 | _ => true
def bareL : List D → Bool
 | [] => true
 | d :: ds => bare d && bareL ds
end
mutual
theorem bare_below {k : Nat} : ∀ d : D, bare d = true → below k d = true
 | .non, _ => rfl
 | .bl _, _ => rfl
 | .int _, _ => rfl
 | .str _, _ => rfl
 | .tup ds, b => by simpa [below] using bareL_below ds (by simpa [bare] using b)
 | .lst ds, b => by simpa [below] using bareL_below ds (by simpa [bare] using b)
 | .rol ds, b => by simpa [below] using bareL_below ds (by simpa [bare] using b)
 | .dic _ ds, b => by simpa [below] using bareL_below ds (by simpa [bare] using b)
 | .ref n, b => by simp [bare] at b
 | .tag _ _, b => by simp [bare] at b
 | .dref _, b => by simp [bare] at b
theorem bareL_below {k : Nat} : ∀ ds : List D, bareL ds = true → belowL k ds = true
 | [], _ => rfl
 | d :: ds, b => by
  have b : bare d = true ∧ bareL ds = true := by simpa [bareL] using b
  simp [belowL, bare_below d b.1, bareL_below ds b.2]
end
theorem bareL_iff : ∀ {ds : List D}, bareL ds = true ↔ ∀ d, d ∈ ds → bare d = true
 | [] => ⟨(fun _ d h => nomatch h), (fun _ => rfl)⟩
 | d :: ds => by simp [bareL, bareL_iff (ds := ds)]
theorem bareL_ints (ns : List Int) : bareL (ns.map D.int) = true := bareL_iff.mpr fun d h => by
 obtain ⟨n, _, rfl⟩ := List.mem_map.mp h
 rfl
theorem handed_bare {S2 : Sto} {k : Nat} {d : D} (h : bare d = true) : handed S2 k d = some d := by
 unfold handed
 rw [if_pos (bare_below d h)]
theorem handed_box {S2 : Sto} {k n : Nat} {ds : List D} (hn : k ≤ n) (hb : S2[n]? = some (.lst ds)) (h : bareL ds = true) : handed S2 k (.ref n) = some (.lst ds) := by
 unfold handed
 rw [if_neg (by simp [below]; omega)]
 simp only
 rw [hb]
 simp only
 rw [if_pos ⟨bareL_below ds h, hn⟩]
def RtH (h n : Nat) (S : Sto) (Q : D → Sto → Prop) : Out → Prop
 | .rt d S2 => HD n S2 h ∧ Up h S S2 ∧ ((bare d = true ∧ ∀ S', St h n S S' → Q d S') ∨ ∃ m ds, d = .ref m ∧ S.length ≤ m ∧ S2[m]? = some (.lst ds) ∧ bareL ds = true ∧ ∀ S', St h n S S' → Q (.lst ds) S')
 | _ => False
theorem CV_hand {k N h n : Nat} {b : SX} {ds : List D} {S : Sto} {Q : D → Sto → Prop} (hs : h < S.length) (hn : ds.length = k) (H : SV b (sE N ds) S (RtH h n S Q)) : CV (den k N 0 b) ds S Q := by
 refine CV_den hn (H.imp fun o q => ?_)
 cases o with
 | rt d S2 =>
  obtain ⟨q1, q2, q3⟩ := q
  refine ⟨q2.len, q2.kept q1, ?_⟩
  rcases q3 with ⟨q3, q4⟩ | ⟨m, es, rfl, q3, q4, q5, q6⟩
  ·exact ⟨d, handed_bare q3, q4 _ (q2.cut q1 hs)⟩
  ·exact ⟨.lst es, handed_box q3 q4 q5, q6 _ (q2.cut q1 hs)⟩
 | nx e S2 => exact q.elim
 | bk e S2 => exact q.elim
 | ct e S2 => exact q.elim
def RtP (S : Sto) (Q : D → Prop) : Out → Prop
 | .rt d S2 => (∃ T, S2 = S ++ T) ∧ ((bare d = true ∧ Q d) ∨ ∃ m ds, d = .ref m ∧ S.length ≤ m ∧ S2[m]? = some (.lst ds) ∧ bareL ds = true ∧ Q (.lst ds))
 | _ => False
theorem CV_plain {k N : Nat} {b : SX} {ds : List D} {S : Sto} {Q : D → Sto → Prop} (hn : ds.length = k) (H : SV b (sE N ds) S (RtP S fun d => Q d S)) : CV (den k N 0 b) ds S Q := by
 refine CV_den hn (H.imp fun o q => ?_)
 cases o with
 | rt d S2 =>
  obtain ⟨⟨T, rfl⟩, q3⟩ := q
  have e : (S ++ T).take (S.length + 0) = S := by simp
  refine ⟨by simp, fun i es hi z => .inl ?_, ?_⟩
  ·rw [List.getElem?_append_left (by omega)] at z; exact z
  ·rcases q3 with ⟨q3, q4⟩ | ⟨m, es, rfl, q3, q4, q5, q6⟩
   ·exact ⟨d, handed_bare q3, by rw [e]; exact q4⟩
   ·exact ⟨.lst es, handed_box q3 q4 q5, by rw [e]; exact q6⟩
 | nx e S2 => exact q.elim
 | bk e S2 => exact q.elim
 | ct e S2 => exact q.elim
theorem RtP_same {S : Sto} {Q : D → Prop} {d : D} (hb : bare d = true) (q : Q d) : RtP S Q (.rt d S) := ⟨⟨[], (List.append_nil S).symm⟩, .inl ⟨hb, q⟩⟩
noncomputable def b_take : SX := sSeq (sIf (tOf (e2 fGt (e2 fIx (eVar 0) (eC (.int 0))) (eC (.int 0)))) (sSeq (sAsg (e2 fMod (e2 fIx (eVar 0) (eC (.int 0))) (eVar 1)) (gN 5)) (sSeq (sAsg (e2 fDiv (e2 fIx (eVar 0) (eC (.int 0))) (eVar 1)) (gS (eVar 0) (eC (.int 0)))) (sRet (eVar 5)))) (sNil)) (sSeq (sAsg (e2 fAdd (e2 fIx (eVar 0) (eC (.int 2))) (eC (.int 1))) (gS (eVar 0) (eC (.int 2)))) (sSeq (sAsg (eFz (lDisp (aCons (eC (.int 2147483647)) (aCons (eC (.int 2147483629)) (aCons (eC (.int 2147483587)) (aCons (eC (.int 2147483579)) (aCons (eC (.int 2147483563)) (aCons (eC (.int 2147483549)) (aCons (eC (.int 2147483543)) (aCons (eC (.int 2147483497)) (aNil))))))))))) (gN 2)) (sSeq (sAsg (e2 fIx (eVar 2) (e2 fMod (e2 fIx (eVar 0) (eC (.int 2))) (eC (.int 8)))) (gN 3)) (sSeq (sAsg (e2 fAdd (e2 fMod (e2 fMod (e2 fAdd (e2 fIx (eVar 0) (eC (.int 1))) (e2 fMul (e2 fMul (eC (.int 69621)) (e2 fIx (eVar 0) (eC (.int 2)))) (e2 fIx (eVar 0) (eC (.int 2))))) (e2 fPow (eVar 3) (eC (.int 2)))) (eVar 3)) (eC (.int 1))) (gN 4)) (sRet (e2 fMod (e2 fDiv (e2 fMod (e2 fMul (eVar 4) (e2 fAdd (e2 fMod (eVar 4) (eC (.int 1009))) (e2 fIx (eVar 0) (eC (.int 2))))) (eVar 3)) (eC (.int 7))) (eVar 1)))))))
noncomputable def c_take : Con := den 2 6 0 b_take
theorem CV_take {S : Sto} {h n : Nat} {k : Int} {Q : D → Sto → Prop} (H : HD n S h) (hn : n ≤ 1000000) (hk : 0 < k) (hk2 : k < 10 ^ 100) (q : ∀ r S', 0 ≤ r → r < k → St h (n + 1) S S' → Q (.int r) S') : CV c_take [.ref h, .int k] S Q := by
 refine CV_hand (h := h) (n := n + 1) H.lt rfl ?_
 obtain ⟨o, h1, a, b, c, rfl, ha, ha2, hb, hb2, hc, hc2⟩ := H
 have hx := box_of h1
 have hl : h < S.length := (List.getElem?_eq_some_iff.mp h1).1
 have hy : ∀ ds, boxAt (S.set h (.lst ds)) h = some ds := fun ds => box_of (List.getElem?_set_self hl)
 have i0 : ixN 3 0 = some 0 := rfl
 have i2 : ixN 3 2 = some 2 := rfl
 unfold b_take
 (simp_arith [hx, hy, i0, i2])
 have ok : ∀ {a' c' : Int}, 0 ≤ a' → a' < 10 ^ 120 → 0 ≤ c' → c' ≤ n + 1 → HD (n + 1) (S.set h (.lst [.int a', .int b, .int c'])) h := fun {a' c'} h3 h4 h5 h6 => ⟨_, List.getElem?_set_self hl, a', b, c', rfl, h3, h4, hb, hb2, h5, by omega⟩
 split
 ·have e1 : a.fmod k = a % k := Int.fmod_eq_emod_of_nonneg _ (by omega)
  have e2 : a.fdiv k = a / k := Int.fdiv_eq_ediv_of_nonneg _ (by omega)
  have l1 : 0 ≤ a / k := Int.ediv_nonneg ha (by omega)
  have l2 : a / k ≤ a := Int.ediv_le_self _ ha
  have l3 : 0 ≤ a % k := Int.emod_nonneg _ (by omega)
  have l4 : a % k < k := Int.emod_lt_of_pos _ hk
  rw [e1, e2]
  exact ⟨by omega, sm_div (sm_le (10 ^ 100) (by omega)) (by omega), ok l1 (by omega) hc (by omega), .set, .inl ⟨rfl, fun S' hS => q _ S' l3 l4 hS⟩⟩
 ·have e1 : (c + 1).fmod 8 = (c + 1) % 8 := Int.fmod_eq_emod_of_nonneg _ (by omega)
  have l3 : 0 ≤ (c + 1) % 8 := Int.emod_nonneg _ (by omega)
  have l4 : (c + 1) % 8 < 8 := Int.emod_lt_of_pos _ (by omega)
  refine ⟨rfl, by omega, ?_⟩
  rw [e1]
  obtain ⟨d, hd, hm, _⟩ := at_in (l := [D.int 2147483647, D.int 2147483629, D.int 2147483587, D.int 2147483579, D.int 2147483563, D.int 2147483549, D.int 2147483543, D.int 2147483497]) l3 (by simpa using l4)
  have hp : ∃ p : Int, d = .int p ∧ 2147483497 ≤ p ∧ p ≤ 2147483647 := by
   simp only [List.mem_cons, List.not_mem_nil, or_false] at hm
   rcases hm with rfl | rfl | rfl | rfl | rfl | rfl | rfl | rfl <;> exact ⟨_, rfl, by omega, by omega⟩
  obtain ⟨p, rfl, p1, p2⟩ := hp
  (simp_arith [hd])
  have p3 : (2 : Int).toNat = 2 := rfl
  have pp : 0 < p ^ 2 := by rw [show (2:Nat) = 1 + 1 from rfl, Int.pow_succ, Int.pow_succ]; simp; exact Int.mul_pos (by omega) (by omega)
  rw [p3]
  generalize hz : ((b + 69621 * (c + 1) * (c + 1)).fmod (p ^ 2)).fmod p + 1 = z
  have z1 : 0 < z ∧ z ≤ p := by
   rw [← hz, Int.fmod_eq_emod_of_nonneg _ (by omega : 0 ≤ p)]
   have := Int.emod_nonneg ((b + 69621 * (c + 1) * (c + 1)).fmod (p ^ 2)) (by omega : p ≠ 0)
   have := Int.emod_lt_of_pos ((b + 69621 * (c + 1) * (c + 1)).fmod (p ^ 2)) (by omega : 0 < p)
   omega
  have z2 : z.fmod 1009 = z % 1009 := Int.fmod_eq_emod_of_nonneg _ (by omega)
  generalize hw : ((z * (z.fmod 1009 + (c + 1))).fmod p).fdiv 7 = w
  have w1 : w.fmod k = w % k := Int.fmod_eq_emod_of_nonneg _ (by omega)
  have w3 : 0 ≤ w % k := Int.emod_nonneg _ (by omega)
  have w4 : w % k < k := Int.emod_lt_of_pos _ hk
  rw [w1, z2]
  refine ⟨sm_mul (sm_le (10 ^ 100) (by omega)) (sm_le (10 ^ 100) (by omega)), sm_mul (sm_le (10 ^ 100) (by omega)) (sm_le (10 ^ 100) (by omega)), ?_, by omega, by omega, by omega, sm_mul (sm_le (10 ^ 100) (by omega)) (sm_le (10 ^ 100) (by omega)), by omega, sm_div (sm_le (10 ^ 100) (by omega)) (by omega), by omega, ?_⟩
  ·unfold powOk
   rw [decide_eq_true (by omega : (0:Int) ≤ 2), decide_eq_true (by omega : (2:Int) ≤ 1000000), decide_eq_true (by omega : p.natAbs < 18446744073709551616)]
   rfl
  ·exact ⟨ok ha ha2 (by omega) (by omega), .set, .inl ⟨rfl, fun S' hS => q _ S' w3 w4 hS⟩⟩
noncomputable def b_hand2 : SX := sSeq (sAsg (e2 fMul (e2 fMod (eCB (fn1 gAbs) (aCons (eVar 2) (aNil))) (e2 fMul (e2 fPow (eC (.int 10)) (eC (.int 60))) (e2 fPow (eC (.int 10)) (eC (.int 60))))) (eCB (fn1 gInt) (aCons (e2 fGe (eCB (fn1 gAbs) (aCons (eVar 2) (aNil))) (e2 fPow (eC (.int 10)) (eC (.int 18)))) (aNil)))) (gN 3)) (sRet (eBx (lDisp (aCons (eVar 3) (aCons (e2 fAdd (e2 fAdd (e2 fMod (eVar 2) (eC (.int 2305843009213693951))) (e2 fMul (eC (.int 104729)) (eVar 1))) (eC (.int 7))) (aCons (eC (.int 0)) (aNil)))))))
noncomputable def b_hand : SX := sSeq (sAsg (eIf (tOf (e2 fLt (eVar 1) (eCB (fn1 gLen) (aCons (eVar 0) (aNil))))) (e2 fIx (eVar 0) (eVar 1)) (eC (.int 0))) (gN 2)) b_hand2
noncomputable def b_of (k_take : Con) : SX := sRet (e2 fIx (eVar 1) (eCall k_take (aCons (eVar 0) (aCons (eCB (fn1 gLen) (aCons (eVar 1) (aNil))) (aNil)))))
noncomputable def c_of : Con := den 2 2 0 (b_of c_take)
noncomputable def c_hand : Con := den 2 4 1 b_hand
def fixed (x : D) (ds : List D) : Prop := x = .tup ds ∨ x = .lst ds ∨ x = .rol ds
theorem fixed.len {x : D} {ds : List D} (h : fixed x ds) (S : Sto) : gLen S x = some (.int ds.length) := by rcases h with rfl | rfl | rfl <;> rfl
theorem fixed.ix {x : D} {ds : List D} (h : fixed x ds) (S : Sto) (i : Int) : fIx S x (.int i) = atI ds i := by rcases h with rfl | rfl | rfl <;> rfl
theorem CV_of {S : Sto} {h n : Nat} {x : D} {ds : List D} {Q : D → Sto → Prop} (H : HD n S h) (hn : n ≤ 1000000) (hx : fixed x ds) (h0 : 0 < ds.length) (h1 : ds.length < 10 ^ 100) (hb : ∀ d ∈ ds, bare d = true) (q : ∀ d S', d ∈ ds → St h (n + 1) S S' → Q d S') : CV c_of [.ref h, x] S Q := by
 refine CV_hand (h := h) (n := n + 1) H.lt rfl ?_
 unfold b_of
 (simp_arith [hx.len])
 refine CV_take H hn (by omega) (by omega) fun r S' r0 r1 hS => ?_
 obtain ⟨u, u1, u2, _⟩ := at_in r0 r1
 rw [hx.ix, u1, BV_some]
 exact ⟨hS.hd, hS.up, .inl ⟨hb u u2, fun S'' hS2 => q u S'' u2 hS2⟩⟩
theorem CV_newhand {S : Sto} {ns : List Int} {k : Int} {Q : D → Sto → Prop} (hk : 0 ≤ k) (hk2 : k ≤ 1000000) (q : ∀ o, HdOk 0 o → Q (.ref S.length) (S ++ [o])) : CV c_hand [.rol (ns.map D.int), .int k] S Q := by
 refine CV_den rfl ?_
 have tail : ∀ z : Int, SV b_hand2 [some (.rol (ns.map D.int)), some (.int k), some (.int z), none] S (Rt S 1 Q) := by
  intro z
  unfold b_hand2
  (simp_arith [])
  have e1 : ((if z < 0 then -z else z) : Int).fmod (10 ^ Int.toNat 60 * 10 ^ Int.toNat 60) = ((if z < 0 then -z else z) : Int) % 10 ^ 120 := Int.fmod_eq_emod_of_nonneg _ (by decide +kernel)
  have e2 : z.fmod 2305843009213693951 = z % 2305843009213693951 := Int.fmod_eq_emod_of_nonneg _ (by omega)
  rw [e1, e2]
  generalize ((if z < 0 then -z else z) : Int) = y
  have l1 : 0 ≤ y % 10 ^ 120 := Int.emod_nonneg _ (by omega)
  have l2 : y % 10 ^ 120 < 10 ^ 120 := Int.emod_lt_of_pos _ (by omega)
  have l3 : 0 ≤ z % 2305843009213693951 := Int.emod_nonneg _ (by omega)
  have l4 : z % 2305843009213693951 < 2305843009213693951 := Int.emod_lt_of_pos _ (by omega)
  generalize y % 10 ^ 120 = g at *
  generalize z % 2305843009213693951 = v at *
  generalize hj : (if (10:Int) ^ Int.toNat 18 ≤ y then (1:Int) else 0) = j
  have hj1 : j = 0 ∨ j = 1 := by rw [← hj]; split <;> simp
  have o1 : HdOk 0 (hdO (g * j) (v + 104729 * k + 7) 0) := by
   refine ⟨_, _, _, rfl, ?_, ?_, by omega, by omega, by omega, by omega⟩ <;> rcases hj1 with rfl | rfl <;> omega
  refine ⟨rfl, rfl, by decide +kernel, by decide +kernel, rfl, sm_mul (sm_le (10 ^ 130) (by omega)) (sm_le 1 (by omega)), by omega, sm_mul (sm_le (10 ^ 100) (by omega)) (sm_le (10 ^ 100) (by omega)), rfl, ?_⟩
  have hq := q _ o1
  refine ⟨by simp, fun i ds hi e => ?_, .ref S.length, ?_, ?_⟩
  ·rcases Nat.lt_or_ge i S.length with hi2 | hi2
   ·rw [List.getElem?_append_left hi2] at e; exact .inl e
   ·have : i = S.length := by omega
    subst this
    rw [List.getElem?_append_right (Nat.le_refl _), Nat.sub_self] at e
    cases e
    exact .inr rfl
  ·unfold handed; rw [if_pos (by simp [below])]
  ·rw [List.take_of_length_le (by simp)]; exact hq
 unfold b_hand
 (simp_arith [])
 split
 ·rename_i hl
  obtain ⟨u, u1, u2, _⟩ := at_in hk hl
  obtain ⟨z, _, rfl⟩ := List.mem_map.mp u2
  rw [u1, BV_some]
  exact tail z
 ·exact tail 0
theorem SV_forI {g : GX} {b : SX} {gs : List Nat} {S0 : Sto} {QO : Out → Prop} (I : List D → En → Sto → Prop) : ∀ {ds : List D} {e : En} {S : Sto}, I ds e S →
  (∀ d r e S (K : En → Sto → Prop), I (d :: r) e S → (∀ e2 S2, I r e2 S2 → K e2 S2) → GV g d e S fun e1 S1 => SV b e1 S1 (turn_ QO gs S0 K)) → (∀ e S, I [] e S → QO (.nx e S)) → SV (forL g b gs S0 ds) e S QO
 | [], e, S, h, _, fin => SV_for_nil.mpr (fin e S h)
 | d :: ds, e, S, h, step, fin => by
  refine SV_for_cons.mpr ?_
  obtain ⟨e1, S1, h1, o, h2, h3⟩ := step d ds e S (I ds) h fun _ _ z => z
  refine ⟨e1, S1, h1, o, h2, ?_⟩
  cases o with
  | nx e2 S2 => exact ⟨h3.1, SV_forI I h3.2 step fin⟩
  | ct e2 S2 => exact ⟨h3.1, SV_forI I h3.2 step fin⟩
  | bk e2 S2 => exact h3
  | rt d2 S2 => exact h3
theorem LV_all {g : GX} {tt : TX} {te : EX} {gs : List Nat} {S0 : Sto} {e0 : En} (I : Nat → Sto → Prop) (P : D → Prop) : ∀ {ds : List D} {S : Sto}, I ds.length S →
  (∀ d k S (K : D → Sto → Prop), d ∈ ds → I (k + 1) S → (∀ y S3, (∀ n, n ∈ gs → S3[n]? = S0[n]?) → P y → I k S3 → K y S3) → GV g d e0 S fun e1 S1 => TV tt e1 S1 fun b S2 => b = true ∧ EV te e1 S2 K) →
  LV g tt te gs S0 e0 ds S fun out S' => out.length = ds.length ∧ (∀ y, y ∈ out → P y) ∧ I 0 S'
 | [], S, h, _ => LV_nil.mpr ⟨rfl, (fun _ z => nomatch z), h⟩
 | d :: ds, S, h, step => by
  refine LV_cons.mpr ?_
  obtain ⟨e1, S1, h1, b, S2, h2, hb, y, S3, h3, hg, hp, hi⟩ := step d ds.length S (fun y S3 => (∀ n, n ∈ gs → S3[n]? = S0[n]?) ∧ P y ∧ I ds.length S3) (List.mem_cons_self ..) h fun y S3 z1 z2 z3 => ⟨z1, z2, z3⟩
  subst hb
  refine ⟨e1, S1, h1, true, S2, h2, ?_⟩
  show (if true = true then _ else _)
  rw [if_pos rfl]
  refine ⟨y, S3, h3, hg, (LV_all I P hi fun d k S K hd => step d k S K (List.mem_cons_of_mem _ hd)).imp fun out S' q => ⟨by simp [q.1], fun z hz => ?_, q.2.2⟩⟩
  rcases List.mem_cons.mp hz with rfl | hz
  ·exact hp
  ·exact q.2.1 z hz
theorem mem_rgD {a b : Int} {d : D} (h : d ∈ rgD a b) : ∃ i : Int, d = .int i ∧ a ≤ i ∧ i < b := by
 obtain ⟨i, h1, rfl⟩ := List.mem_map.mp h
 have := List.mem_range.mp h1
 exact ⟨_, rfl, by omega, by omega⟩
theorem len_rgD {a b : Int} : (rgD a b).length = (b - a).toNat := by unfold rgD; rw [List.length_map, List.length_range]
theorem LV.lc {g : GX} {tt : TX} {te : EX} {gs : List Nat} {S0 : Sto} {e0 : En} {ds : List D} {S : Sto} {Q : List D → Sto → Prop} (h : LV g tt te gs S0 e0 ds S Q) {R : List D → Sto → Prop} (k : ∀ out S', Q out S' → szOk out.length = true ∧ R out S') :
  ∃ out S2, lcL g tt te gs S0 e0 ds S = some (out, S2) ∧ szOk out.length = true ∧ R out S2 := by
 obtain ⟨out, S2, h1, q⟩ := h
 exact ⟨out, S2, h1, k out S2 q⟩
theorem sz_le {n : Nat} (h : n ≤ 16777216) : szOk n = true := decide_eq_true h
theorem rg_ok {i : Int} (h : -4611686018427387904 ≤ i) (h2 : i < 4611686018427387904) : rgOk i = true := by unfold rgOk; rw [decide_eq_true h, decide_eq_true h2]; rfl
theorem CV.eq {c : Con} {ds : List D} {S S' : Sto} {v : D} (h : CV c ds S fun d T => d = v ∧ T = S') : c ds S = some (v, S') := by
 obtain ⟨d, T, h1, rfl, rfl⟩ := h
 exact h1
theorem all_true : ∀ {ds : List D}, (∀ y, y ∈ ds → y = .bl true) → boolsOf ds = some (List.replicate ds.length true)
 | [], _ => rfl
 | d :: ds, h => by
  rw [h d (List.mem_cons_self ..)]
  show (boolsOf ds).map _ = _
  rw [all_true fun y hy => h y (List.mem_cons_of_mem _ hy)]
  rfl
mutual
def shortB (k : Nat) : D → Bool
 | .non => true
 | .bl _ => true
 | .int i => decide (i.natAbs < 10 ^ k)
 | .str x => PyData.strOk x && (x.cps.toList.all fun c => decide (c < 16 ^ 8)) && decide (x.cps.size ≤ 4 * k)
 | .tup xs => shortL k xs
 | .lst xs => shortL k xs
 | .rol xs => shortL k xs
 | .dic _ _ => false
 | .tag _ _ => false
 | .dref _ => false
 | .ref _ => false
def shortL (k : Nat) : List D → Bool
 | [] => true
 | d :: ds => shortB k d && shortL k ds
end
mutual
def dep : D → Nat
 | .tup xs => depL xs + 1
 | .lst xs => depL xs + 1
 | .rol xs => depL xs + 1
 | _ => 0
def depL : List D → Nat
 | [] => 0
 | d :: ds => max (dep d) (depL ds)
end
mutual
def cnt : D → Nat
 | .tup xs => cntL xs
 | .lst xs => cntL xs
 | .rol xs => cntL xs
 | _ => 1
def cntL : List D → Nat
 | [] => 0
 | d :: ds => cnt d + 1 + cntL ds
end
mutual
theorem short_pd {k : Nat} (hk : 0 < k) : ∀ d : D, shortB k d = true → flat d = true ∧ (pd d).depth = dep d ∧ (pd d).canLay0 = true ∧ (k ≤ 470 → (pd d).showable = true ∧ (pd d).leavesShort 600 = true) ∧ (pd d).hasDict = false ∧ (pd d).weight ≤ cnt d * (4 * k)
 | .non, _ => ⟨rfl, rfl, rfl, fun _ => ⟨rfl, rfl⟩, rfl, Nat.zero_le _⟩
 | .bl b, _ => ⟨rfl, rfl, rfl, fun _ => ⟨rfl, rfl⟩, rfl, Nat.zero_le _⟩
 | .int i, h => by
  have h : i.natAbs < 10 ^ k := of_decide_eq_true h
  have hl : i.natAbs < 2 ^ (4 * k) := Nat.lt_of_lt_of_le h (by rw [Nat.pow_mul]; exact Nat.pow_le_pow_left (by decide) k)
  have hl2 := log2_lt hl (by omega)
  refine ⟨rfl, rfl, rfl, fun hk2 => ⟨?_, ?_⟩, rfl, ?_⟩
  ·exact decide_eq_true (by omega)
  ·have e := int_text_length_le10 hk h
   refine decide_eq_true ?_
   show (Str.ofString (toString i)).length ≤ 600
   rw [PySem.ofString_length]; omega
  ·show (if i == 0 then 0 else i.natAbs.log2 + 1) ≤ 1 * (4 * k)
   split <;> omega
 | .str x, h => by
  obtain ⟨h, h3⟩ := Bool.and_eq_true_iff.mp h
  obtain ⟨h1, h2⟩ := Bool.and_eq_true_iff.mp h
  have h3 := of_decide_eq_true h3
  exact ⟨rfl, rfl, h1, fun _ => ⟨rfl, h2⟩, rfl, by show x.cps.size ≤ 1 * (4 * k); omega⟩
 | .tup xs, h => by
  obtain ⟨a, b, c, e, f, g⟩ := shortL_pd hk xs h
  exact ⟨a, congrArg (· + 1) b, c, e, f, g⟩
 | .lst xs, h => by
  obtain ⟨a, b, c, e, f, g⟩ := shortL_pd hk xs h
  exact ⟨a, congrArg (· + 1) b, c, e, f, g⟩
 | .rol xs, h => by
  obtain ⟨a, b, c, e, f, g⟩ := shortL_pd hk xs h
  exact ⟨a, congrArg (· + 1) b, c, e, f, g⟩
 | .dic _ _, h => nomatch h
 | .tag _ _, h => nomatch h
 | .dref _, h => nomatch h
 | .ref _, h => nomatch h
theorem shortL_pd {k : Nat} (hk : 0 < k) : ∀ ds : List D, shortL k ds = true → flatL ds = true ∧ PyData.depthAll (pdL ds) = depL ds ∧ PyData.canLayAll0 (pdL ds) = true ∧ (k ≤ 470 → PyData.showableAll (pdL ds) = true ∧ PyData.leavesShortAll 600 (pdL ds) = true) ∧ PyData.hasDictAll (pdL ds) = false ∧ PyData.weightAll (pdL ds) ≤ cntL ds * (4 * k)
 | [], _ => ⟨rfl, rfl, rfl, fun _ => ⟨rfl, rfl⟩, rfl, Nat.zero_le _⟩
 | d :: ds, h => by
  obtain ⟨h1, h2⟩ := Bool.and_eq_true_iff.mp h
  obtain ⟨a, b, c, e, f, g⟩ := short_pd hk d h1
  obtain ⟨a', b', c', e', f', g'⟩ := shortL_pd hk ds h2
  refine ⟨?_, ?_, ?_, fun z => ⟨?_, ?_⟩, ?_, ?_⟩
  ·show (flat d && flatL ds) = true; rw [a, a']; rfl
  ·show max (pd d).depth (PyData.depthAll (pdL ds)) = max (dep d) (depL ds); rw [b, b']
  ·show ((pd d).canLay0 && PyData.canLayAll0 (pdL ds)) = true; rw [c, c']; rfl
  ·show ((pd d).showable && PyData.showableAll (pdL ds)) = true; rw [(e z).1, (e' z).1]; rfl
  ·show ((pd d).leavesShort 600 && PyData.leavesShortAll 600 (pdL ds)) = true; rw [(e z).2, (e' z).2]; rfl
  ·show ((pd d).hasDict || PyData.hasDictAll (pdL ds)) = false; rw [f, f']; rfl
  ·show (pd d).weight + 1 + PyData.weightAll (pdL ds) ≤ (cnt d + 1 + cntL ds) * (4 * k)
   rw [Nat.add_mul, Nat.add_mul]; omega
end
theorem pdS_short {S : Sto} {k : Nat} {d : D} (hk : 0 < k) (h : shortB k d = true) : pdS S d = some (pd d) := by
 have hf := (short_pd hk d h).1
 unfold pdS
 split
 ·exact nomatch h
 ·rw [if_pos hf]
theorem shaped_short {k : Nat} {d : D} (hk : 0 < k) (h : shortB k d = true) (h1 : dep d ≤ 64) : SeqAt.shaped (pd d) = true := by
 obtain ⟨a, b, c, e, f, g⟩ := short_pd hk d h
 unfold SeqAt.shaped
 rw [c, b, decide_eq_true h1]
 rfl
theorem set_self {e : En} {i : Nat} {x : Option D} (h : e[i]? = some x) : e.set i x = e := by
 obtain ⟨hl, rfl⟩ := List.getElem?_eq_some_iff.mp h
 exact List.set_getElem_self hl
theorem gcd_step {x y : Int} (hx : 0 ≤ x) (hy : 0 ≤ y) (h0 : y ≠ 0) : Int.gcd y (x % y) = Int.gcd x y := by
 rw [Int.gcd_eq_natAbs_gcd_natAbs, Int.gcd_eq_natAbs_gcd_natAbs, Int.natAbs_emod_of_nonneg hx, Nat.gcd_comm x.natAbs y.natAbs, Nat.gcd_rec y.natAbs x.natAbs, Nat.gcd_comm]
section
variable {e : En} {S : Sto} {QO : Out → Prop}
theorem SV_gcdP {i j : Nat} {x y : Int} (hij : i ≠ j) (hx : e[i]? = some (some (.int x))) (hy : e[j]? = some (some (.int y))) (hx0 : 0 ≤ x) (hy0 : 0 ≤ y) (q : QO (.nx ((e.set i (some (.int (Int.gcd x y)))).set j (some (.int 0))) S)) :
  SV (sWhile (tOf (e2 fNe (eVar j) (eC (.int 0)))) (sPar i j (aCons (eVar j) (aCons (e2 fMod (eVar i) (eVar j)) aNil)))) e S QO := by
 have hi : i < e.length := (List.getElem?_eq_some_iff.mp hx).1
 have hj : j < e.length := (List.getElem?_eq_some_iff.mp hy).1
 refine SV_while (fun n e' S' => ∃ u v : Int, n = v.toNat ∧ 0 ≤ u ∧ 0 ≤ v ∧ Int.gcd u v = Int.gcd x y ∧ e' = (e.set i (some (.int u))).set j (some (.int v)) ∧ S' = S) y.toNat ⟨x, y, rfl, hx0, hy0, rfl, by rw [set_self hx, set_self hy], rfl⟩ ?_
 rintro n e' S' ⟨u, v, rfl, hu, hv, hg, rfl, rfl⟩
 have l1 : ((e.set i (some (D.int u))).set j (some (D.int v)))[j]? = some (some (.int v)) := List.getElem?_set_self (by simpa using hj)
 have l2 : ((e.set i (some (D.int u))).set j (some (D.int v)))[i]? = some (some (.int u)) := (List.getElem?_set_ne (Ne.symm hij)).trans (List.getElem?_set_self hi)
 (simp_arith [l1, l2])
 by_cases h0 : v = 0
 ·subst h0
  rw [if_neg (by simp)]
  have : (Int.gcd x y : Int) = u := by rw [← hg]; simp; omega
  rw [this] at q
  exact q
 ·rw [if_pos h0]
  have e1 : u.fmod v = u % v := Int.fmod_eq_emod_of_nonneg _ hv
  have b1 : 0 ≤ u % v := Int.emod_nonneg _ h0
  have b2 : u % v < v := Int.emod_lt_of_pos _ (by omega)
  refine ⟨h0, (fun n hn => nomatch hn), (u % v).toNat, by omega, v, u % v, rfl, hv, b1, (gcd_step hu hv h0).trans hg, ?_, rfl⟩
  rw [e1, List.set_comm _ _ (Ne.symm hij), List.set_set, List.set_set]
end
def R (r : Rat) : D := .tup [.int r.num, .int r.den]
theorem mk_num {p : Int} {d : Nat} (h : d ≠ 0) : (mkRat p d).num = p / (p.natAbs.gcd d : Nat) := by rw [← Rat.normalize_eq_mkRat h, Rat.normalize_eq]
theorem mk_den {p : Int} {d : Nat} (h : d ≠ 0) : (mkRat p d).den = d / p.natAbs.gcd d := by rw [← Rat.normalize_eq_mkRat h, Rat.normalize_eq]
theorem R_of {p q : Int} (hq : 0 < q) : D.tup [.int (p.fdiv (Int.gcd p q)), .int (q.fdiv (Int.gcd p q))] = R (mkRat p q.toNat) := by
 have hd : q.toNat ≠ 0 := by omega
 have eg : Int.gcd p q = p.natAbs.gcd q.toNat := by rw [Int.gcd_eq_natAbs_gcd_natAbs]; congr 1; omega
 unfold R
 rw [mk_num hd, mk_den hd, Int.fdiv_eq_ediv_of_nonneg _ (by omega), Int.fdiv_eq_ediv_of_nonneg _ (by omega), eg]
 congr 3
 congr 1
 rw [Int.natCast_ediv]
 congr 1
 omega
theorem R_add {r : Rat} {u d : Int} (hd : 0 < d) : mkRat (r.num * d + u * r.den) ((r.den : Int) * d).toNat = r + mkRat u d.toNat := by
 have e : ((r.den : Int) * d).toNat = r.den * d.toNat := by
  rw [show d = ((d.toNat : Nat) : Int) by omega, ← Int.natCast_mul, Int.toNat_natCast, Int.toNat_natCast]
 have e2 := Rat.mkRat_add_mkRat r.num u (d₁ := r.den) (d₂ := d.toNat) r.den_nz (by omega)
 rw [Rat.mkRat_self] at e2
 rw [e2, e]
 congr 3
 omega
def gcdF : Int → List Int → Int
 | g, [] => g
 | g, n :: ns => gcdF (Int.gcd g n) ns
theorem gcdF_pair {p q : Int} : gcdF 0 [p, q] = Int.gcd p q := by
 show ((Int.gcd ((Int.gcd 0 p : Nat) : Int) q : Nat) : Int) = _
 rw [Int.gcd_eq_natAbs_gcd_natAbs, Int.gcd_eq_natAbs_gcd_natAbs, Int.gcd_eq_natAbs_gcd_natAbs]
 simp
noncomputable def b_common : SX := sSeq (sAsg (eC (.int 0)) (gN 1)) (sSeq (sFor (iSeq (eVar 0)) (gN 2) (sWhile (tOf (e2 fNe (eVar 2) (eC (.int 0)))) (sPar 1 2 (aCons (eVar 2) (aCons (e2 fMod (eVar 1) (eVar 2)) (aNil)))))) (sRet (eVar 1)))
noncomputable def c_common : Con := den 1 3 0 b_common
theorem CV_common {S : Sto} {x : D} {ns : List Int} {Q : D → Sto → Prop} (hx : seqOf S x = some (ns.map D.int)) (h0 : ∀ n, n ∈ ns → 0 ≤ n) (q : Q (.int (gcdF 0 ns)) S) : CV c_common [x] S Q := by
 refine CV_plain rfl ?_
 unfold b_common
 (simp_arith [hx])
 refine SV_forI (fun r e S' => ∃ g ms u, r = ms.map D.int ∧ (∀ n, n ∈ ms → 0 ≤ n) ∧ 0 ≤ g ∧ e = [some x, some (.int g), u] ∧ gcdF g ms = gcdF 0 ns ∧ S' = S) ⟨0, ns, none, rfl, h0, by omega, rfl, rfl, rfl⟩ ?_ ?_
 ·rintro d r e S' K ⟨g, ms, u, h1, h2, h3, rfl, h4, rfl⟩ hK
  cases ms with
  | nil => cases h1
  | cons m ms =>
   cases h1
   (simp_arith [])
   refine SV_gcdP (x := g) (y := m) (by decide) rfl rfl h3 (h2 m (List.mem_cons_self ..)) ?_
   exact ⟨fun n _ => rfl, hK _ _ ⟨_, ms, _, rfl, fun n hn => h2 n (List.mem_cons_of_mem _ hn), by omega, rfl, h4, rfl⟩⟩
 ·rintro e S' ⟨g, ms, u, h1, h2, h3, rfl, h4, rfl⟩
  cases ms with
  | cons m ms => cases h1
  | nil =>
   (simp_arith [])
   rw [← h4] at q
   exact RtP_same rfl q
theorem gcd_pos {p q : Int} (hq : 0 < q) : 0 < Int.gcd p q := Int.gcd_pos_of_ne_zero_right _ (by omega)
theorem gcd_le {p q : Int} (hq : 0 < q) : (Int.gcd p q : Int) ≤ q := Int.le_of_dvd hq (Int.gcd_dvd_right ..)
def Told (many : Int) (ns : List Int) : Prop := (ns.length : Int) = many ∧ (∀ n, n ∈ ns → 0 ≤ n ∧ n ≤ 1000) ∧ ns.sum = 1000
def enumJ : Nat → List D → List D
 | _, [] => []
 | j, x :: xs => .tup [.int j, x] :: enumJ (j + 1) xs
theorem enumD_eq (xs : List D) : enumD xs = enumJ 0 xs := by
 have key : ∀ (xs : List D) (j : Nat), List.zipWith (fun (i : Nat) x => D.tup [.int i, x]) (List.range' j xs.length) xs = enumJ j xs := by
  intro xs
  induction xs with
  | nil => intro j; rfl
  | cons x xs ih =>
   intro j
   rw [List.length_cons, List.range'_succ]
   show _ :: _ = _
   rw [ih (j + 1)]
   rfl
 unfold enumD
 rw [List.range_eq_range']
 exact key xs 0
theorem ex_append {S : Sto} {ds : List D} {d : D} {P : D → List D → Prop} : (∃ v ds', hAppend S ds [d] = some (v, ds') ∧ P v ds') ↔ szOk (ds.length + 1) = true ∧ P .non (ds ++ [d]) := by
 constructor
 ·rintro ⟨v, ds', h, p⟩
  obtain ⟨hz, h⟩ := ite_some (show (if szOk (ds.length + 1) = true then some (D.non, ds ++ [d]) else none) = _ from h)
  cases h
  exact ⟨hz, p⟩
 ·rintro ⟨hz, p⟩
  exact ⟨_, _, (if_pos hz : (if szOk (ds.length + 1) = true then some (D.non, ds ++ [d]) else none) = _), p⟩
theorem cut_to {ds : List D} {i : Int} (h : 0 ≤ i) : cutD ds none (some i) = ds.take i.toNat := by
 unfold cutD HT.sIx
 simp only [List.drop_zero, Nat.sub_zero]
 rw [if_neg (by omega)]
 by_cases hl : i.toNat ≤ ds.length
 ·rw [Nat.min_eq_left hl]
 ·rw [Nat.min_eq_right (by omega), List.take_of_length_le (Nat.le_refl _), List.take_of_length_le (by omega)]
theorem cut_from {ds : List D} {i : Int} (h : 0 ≤ i) : cutD ds (some i) none = ds.drop i.toNat := by
 unfold cutD HT.sIx
 simp only
 rw [if_neg (by omega)]
 by_cases hl : i.toNat ≤ ds.length
 ·rw [Nat.min_eq_left hl, List.take_of_length_le (by rw [List.length_drop]; exact Nat.le_refl _)]
 ·rw [Nat.min_eq_right (by omega), List.drop_of_length_le (Nat.le_refl _), List.drop_of_length_le (by omega)]
  simp
theorem box_set {S : Sto} {n : Nat} {ds : List D} (h : n < S.length) : boxAt (S.set n (.lst ds)) n = some ds := box_of (List.getElem?_set_self h)
theorem r_neSs {S : Sto} {u : Str} : fNe S (.str u) (.str u) = some (.bl false) := by rw [r_neS]; simp
theorem St.box {h n m : Nat} {S S2 : Sto} {o : Ob} (t : St h n S S2) (hm : m ≠ h) (e : S[m]? = some o) : S2[m]? = some o :=
 (t.up.at_ m (List.getElem?_eq_some_iff.mp e).1 hm).trans e
def lRev (f : EX) : LX := fun e S => (f e S).bind fun p => (listOf p.2 p.1).map fun ds => (ds.reverse, p.2)
section
variable {X : Cx}
end
theorem AV_rev {f : EX} {e : En} {S : Sto} {QL : List D → Sto → Prop} : AV (lRev f) e S QL ↔ EV f e S fun x S1 => ∃ ds, listOf S1 x = some ds ∧ QL ds.reverse S1 := by
 unfold AV EV lRev
 constructor
 ·rintro ⟨v, S', h, q⟩
  obtain ⟨⟨x, S1⟩, h1, h⟩ := Option.bind_eq_some_iff.mp h
  obtain ⟨ds, h2, h⟩ := Option.map_eq_some_iff.mp h
  cases h
  exact ⟨x, _, h1, ds, h2, q⟩
 ·rintro ⟨x, S1, h1, ds, h2, q⟩
  exact ⟨_, _, by rw [h1]; show (listOf S1 x).map _ = _; rw [h2]; rfl, q⟩
theorem FnG.none_ {P : Program} {w : World} {K : PySem.W.Frag} {mg : Str → Option Value} {base : Heap} {k : Nat} {f : Addr} {fd : FuncData} {ps : List Str} : FnG P w K mg base k f fd ps (fun _ _ => none) :=
 ⟨(fun _ _ _ h => nomatch h), fun _ _ _ _ _ _ _ _ _ _ _ _ _ ⟨_, _, _, _, _, _, _, _, h, _⟩ => nomatch h⟩
theorem Wd : (("fig" : Str) = ("reg" : Str)) = False ∧ (("fig" : Str) = ("share" : Str)) = False ∧ (("fig" : Str) = ("times" : Str)) = False ∧ (("fig" : Str) = ("by" : Str)) = False ∧ (("fig" : Str) = ("when" : Str)) = False ∧ (("fig" : Str) = ("where" : Str)) = False ∧ (("fig" : Str) = ("sum" : Str)) = False ∧ (("fig" : Str) = ("less" : Str)) = False ∧ (("fig" : Str) = ("least" : Str)) = False ∧ (("fig" : Str) = ("most" : Str)) = False ∧ (("fig" : Str) = ("leaf" : Str)) = False ∧ (("reg" : Str) = ("fig" : Str)) = False ∧ (("reg" : Str) = ("share" : Str)) = False ∧ (("reg" : Str) = ("times" : Str)) = False ∧ (("reg" : Str) = ("by" : Str)) = False ∧ (("reg" : Str) = ("when" : Str)) = False ∧ (("reg" : Str) = ("where" : Str)) = False ∧ (("reg" : Str) = ("sum" : Str)) = False ∧ (("reg" : Str) = ("less" : Str)) = False ∧ (("reg" : Str) = ("least" : Str)) = False ∧ (("reg" : Str) = ("most" : Str)) = False ∧ (("reg" : Str) = ("leaf" : Str)) = False ∧ (("share" : Str) = ("fig" : Str)) = False ∧ (("share" : Str) = ("reg" : Str)) = False ∧ (("share" : Str) = ("times" : Str)) = False ∧ (("share" : Str) = ("by" : Str)) = False ∧ (("share" : Str) = ("when" : Str)) = False ∧ (("share" : Str) = ("where" : Str)) = False ∧ (("share" : Str) = ("sum" : Str)) = False ∧ (("share" : Str) = ("less" : Str)) = False ∧ (("share" : Str) = ("least" : Str)) = False ∧ (("share" : Str) = ("most" : Str)) = False ∧ (("share" : Str) = ("leaf" : Str)) = False ∧ (("times" : Str) = ("fig" : Str)) = False ∧ (("times" : Str) = ("reg" : Str)) = False ∧ (("times" : Str) = ("share" : Str)) = False ∧ (("times" : Str) = ("by" : Str)) = False ∧ (("times" : Str) = ("when" : Str)) = False ∧ (("times" : Str) = ("where" : Str)) = False ∧ (("times" : Str) = ("sum" : Str)) = False ∧ (("times" : Str) = ("less" : Str)) = False ∧ (("times" : Str) = ("least" : Str)) = False ∧ (("times" : Str) = ("most" : Str)) = False ∧ (("times" : Str) = ("leaf" : Str)) = False ∧ (("by" : Str) = ("fig" : Str)) = False ∧ (("by" : Str) = ("reg" : Str)) = False ∧ (("by" : Str) = ("share" : Str)) = False ∧ (("by" : Str) = ("times" : Str)) = False ∧ (("by" : Str) = ("when" : Str)) = False ∧ (("by" : Str) = ("where" : Str)) = False ∧ (("by" : Str) = ("sum" : Str)) = False ∧ (("by" : Str) = ("less" : Str)) = False ∧ (("by" : Str) = ("least" : Str)) = False ∧ (("by" : Str) = ("most" : Str)) = False ∧ (("by" : Str) = ("leaf" : Str)) = False ∧ (("when" : Str) = ("fig" : Str)) = False ∧ (("when" : Str) = ("reg" : Str)) = False ∧ (("when" : Str) = ("share" : Str)) = False ∧ (("when" : Str) = ("times" : Str)) = False ∧ (("when" : Str) = ("by" : Str)) = False ∧ (("when" : Str) = ("where" : Str)) = False ∧ (("when" : Str) = ("sum" : Str)) = False ∧ (("when" : Str) = ("less" : Str)) = False ∧ (("when" : Str) = ("least" : Str)) = False ∧ (("when" : Str) = ("most" : Str)) = False ∧ (("when" : Str) = ("leaf" : Str)) = False ∧ (("where" : Str) = ("fig" : Str)) = False ∧ (("where" : Str) = ("reg" : Str)) = False ∧ (("where" : Str) = ("share" : Str)) = False ∧ (("where" : Str) = ("times" : Str)) = False ∧ (("where" : Str) = ("by" : Str)) = False ∧ (("where" : Str) = ("when" : Str)) = False ∧ (("where" : Str) = ("sum" : Str)) = False ∧ (("where" : Str) = ("less" : Str)) = False ∧ (("where" : Str) = ("least" : Str)) = False ∧ (("where" : Str) = ("most" : Str)) = False ∧ (("where" : Str) = ("leaf" : Str)) = False ∧ (("sum" : Str) = ("fig" : Str)) = False ∧ (("sum" : Str) = ("reg" : Str)) = False ∧ (("sum" : Str) = ("share" : Str)) = False ∧ (("sum" : Str) = ("times" : Str)) = False ∧ (("sum" : Str) = ("by" : Str)) = False ∧ (("sum" : Str) = ("when" : Str)) = False ∧ (("sum" : Str) = ("where" : Str)) = False ∧ (("sum" : Str) = ("less" : Str)) = False ∧ (("sum" : Str) = ("least" : Str)) = False ∧ (("sum" : Str) = ("most" : Str)) = False ∧ (("sum" : Str) = ("leaf" : Str)) = False ∧ (("less" : Str) = ("fig" : Str)) = False ∧ (("less" : Str) = ("reg" : Str)) = False ∧ (("less" : Str) = ("share" : Str)) = False ∧ (("less" : Str) = ("times" : Str)) = False ∧ (("less" : Str) = ("by" : Str)) = False ∧ (("less" : Str) = ("when" : Str)) = False ∧ (("less" : Str) = ("where" : Str)) = False ∧ (("less" : Str) = ("sum" : Str)) = False ∧ (("less" : Str) = ("least" : Str)) = False ∧ (("less" : Str) = ("most" : Str)) = False ∧ (("less" : Str) = ("leaf" : Str)) = False ∧ (("least" : Str) = ("fig" : Str)) = False ∧ (("least" : Str) = ("reg" : Str)) = False ∧ (("least" : Str) = ("share" : Str)) = False ∧ (("least" : Str) = ("times" : Str)) = False ∧ (("least" : Str) = ("by" : Str)) = False ∧ (("least" : Str) = ("when" : Str)) = False ∧ (("least" : Str) = ("where" : Str)) = False ∧ (("least" : Str) = ("sum" : Str)) = False ∧ (("least" : Str) = ("less" : Str)) = False ∧ (("least" : Str) = ("most" : Str)) = False ∧ (("least" : Str) = ("leaf" : Str)) = False ∧ (("most" : Str) = ("fig" : Str)) = False ∧ (("most" : Str) = ("reg" : Str)) = False ∧ (("most" : Str) = ("share" : Str)) = False ∧ (("most" : Str) = ("times" : Str)) = False ∧ (("most" : Str) = ("by" : Str)) = False ∧ (("most" : Str) = ("when" : Str)) = False ∧ (("most" : Str) = ("where" : Str)) = False ∧ (("most" : Str) = ("sum" : Str)) = False ∧ (("most" : Str) = ("less" : Str)) = False ∧ (("most" : Str) = ("least" : Str)) = False ∧ (("most" : Str) = ("leaf" : Str)) = False ∧ (("leaf" : Str) = ("fig" : Str)) = False ∧ (("leaf" : Str) = ("reg" : Str)) = False ∧ (("leaf" : Str) = ("share" : Str)) = False ∧ (("leaf" : Str) = ("times" : Str)) = False ∧ (("leaf" : Str) = ("by" : Str)) = False ∧ (("leaf" : Str) = ("when" : Str)) = False ∧ (("leaf" : Str) = ("where" : Str)) = False ∧ (("leaf" : Str) = ("sum" : Str)) = False ∧ (("leaf" : Str) = ("less" : Str)) = False ∧ (("leaf" : Str) = ("least" : Str)) = False ∧ (("leaf" : Str) = ("most" : Str)) = False := by
 refine ⟨?_, ?_, ?_, ?_, ?_, ?_, ?_, ?_, ?_, ?_, ?_, ?_, ?_, ?_, ?_, ?_, ?_, ?_, ?_, ?_, ?_, ?_, ?_, ?_, ?_, ?_, ?_, ?_, ?_, ?_, ?_, ?_, ?_, ?_, ?_, ?_, ?_, ?_, ?_, ?_, ?_, ?_, ?_, ?_, ?_, ?_, ?_, ?_, ?_, ?_, ?_, ?_, ?_, ?_, ?_, ?_, ?_, ?_, ?_, ?_, ?_, ?_, ?_, ?_, ?_, ?_, ?_, ?_, ?_, ?_, ?_, ?_, ?_, ?_, ?_, ?_, ?_, ?_, ?_, ?_, ?_, ?_, ?_, ?_, ?_, ?_, ?_, ?_, ?_, ?_, ?_, ?_, ?_, ?_, ?_, ?_, ?_, ?_, ?_, ?_, ?_, ?_, ?_, ?_, ?_, ?_, ?_, ?_, ?_, ?_, ?_, ?_, ?_, ?_, ?_, ?_, ?_, ?_, ?_, ?_, ?_, ?_, ?_, ?_, ?_, ?_, ?_, ?_, ?_, ?_, ?_, ?_⟩ <;> exact eq_false (by decide)
noncomputable def b_figure (k__law_of k__law_take : Con) : SX := sSeq (sAsg (eFz (lDisp (aCons (eC (.int 0)) (aCons (eC (.int 1)) (aCons (e1 fNeg (eC (.int 1))) (aCons (eC (.int 50)) (aCons (eC (.int 100)) (aCons (eC (.int 250)) (aCons (eC (.int 500)) (aCons (e1 fNeg (eC (.int 500))) (aCons (eC (.int 1000)) (aCons (e1 fNeg (eC (.int 1000))) (aNil))))))))))))) (gN 1)) (sRet (eCall k__law_of (aCons (eVar 0) (aCons (eFz (l2 fAddL (eVar 1) (eFz (lDisp (aCons (e2 fSub (eCall k__law_take (aCons (eVar 0) (aCons (eC (.int 2001)) (aNil)))) (eC (.int 1000))) (aCons (e2 fSub (eCall k__law_take (aCons (eVar 0) (aCons (eC (.int 201)) (aNil)))) (eC (.int 100))) (aNil))))))) (aNil)))))
noncomputable def c_figure : Con := den 1 2 0 (b_figure c_of c_take)
noncomputable def b_leaf (k__law_take k__law_figure : Con) : SX := sSeq (sAsg (eCall k__law_take (aCons (eVar 0) (aCons (eC (.int 4)) (aNil)))) (gN 2)) (sSeq (sIf (tOf (e2 fEq (eVar 2) (eC (.int 0)))) (sRet (eTup (aCons (eC (.str "reg")) (aCons (eCall k__law_take (aCons (eVar 0) (aCons (eC (.int 4)) (aNil)))) (aNil))))) (sNil)) (sRet (eIf (tOf (e2 fEq (eVar 2) (eC (.int 1)))) (eTup (aCons (eC (.str "fig")) (aCons (eCall k__law_figure (aCons (eVar 0) (aNil))) (aNil)))) (eTup (aCons (eC (.str "share")) (aCons (eCall k__law_take (aCons (eVar 0) (aCons (eVar 1) (aNil)))) (aNil)))))))
noncomputable def c_leaf : Con := den 2 3 0 (b_leaf c_take c_figure)
noncomputable def b_registers (k__law_figure : Con) : SX := sRet (eCB (fn1 gTuple) (aCons (eFz (lLc (iRg1 (eC (.int 4))) (gN 1) (tYes') (eCall k__law_figure (aCons (eVar 0) (aNil))) [1])) (aNil)))
noncomputable def c_registers : Con := den 1 2 0 (b_registers c_figure)
theorem CV_figure {S : Sto} {h n : Nat} {Q : D → Sto → Prop} (H : HD n S h) (hn : n + 3 ≤ 1000000) (q : ∀ (f : Int) S', -1000 ≤ f → f ≤ 1000 → St h (n + 3) S S' → Q (.int f) S') : CV c_figure [.ref h] S Q := by
 have hlt := H.lt
 refine CV_hand (h := h) (n := n + 3) hlt rfl ?_
 unfold b_figure
 (simp_arith [])
 refine ⟨rfl, ?_⟩
 refine CV_take H (by omega) (by decide) (by decide) fun r1 S1 a1 a2 t1 => ?_
 (simp_arith [])
 refine CV_take t1.hd (by omega) (by decide) (by decide) fun r2 S2 b1 b2 t2 => ?_
 (simp_arith [])
 refine ⟨rfl, rfl, ?_⟩
 refine CV_of t2.hd (by omega) (.inr (.inl rfl)) (by simp) (by simp) ?_ fun d S3 hd t3 => ?_
 ·intro d hd
  simp only [List.cons_append, List.nil_append, List.mem_cons, List.not_mem_nil, or_false] at hd
  rcases hd with rfl | rfl | rfl | rfl | rfl | rfl | rfl | rfl | rfl | rfl | rfl | rfl <;> rfl
 have hd2 : ∃ f : Int, d = .int f ∧ -1000 ≤ f ∧ f ≤ 1000 := by
  simp only [List.cons_append, List.nil_append, List.mem_cons, List.not_mem_nil, or_false] at hd
  rcases hd with rfl | rfl | rfl | rfl | rfl | rfl | rfl | rfl | rfl | rfl | rfl | rfl <;> exact ⟨_, rfl, by omega, by omega⟩
 obtain ⟨f, rfl, f0, f1⟩ := hd2
 have t := t1.trans (t2.trans t3)
 exact ⟨t.hd, t.up, .inl ⟨rfl, fun S' hS => q f S' f0 f1 hS⟩⟩
theorem CV_registers {S : Sto} {h n : Nat} {Q : D → Sto → Prop} (H : HD n S h) (hn : n + 12 ≤ 1000000) (q : ∀ (rs : List Int) S', rs.length = 4 → (∀ r, r ∈ rs → -1000 ≤ r ∧ r ≤ 1000) → St h (n + 12) S S' → Q (.tup (rs.map D.int)) S') : CV c_registers [.ref h] S Q := by
 have hlt := H.lt
 refine CV_hand (h := h) (n := n + 12) hlt rfl ?_
 unfold b_registers
 (simp_arith [])
 refine ⟨rg_ok (by decide) (by decide), ?_⟩
 refine (LV_all (fun k S' => St h (n + 3 * (4 - k)) S S' ∧ k ≤ 4) (fun y => ∃ f : Int, y = .int f ∧ -1000 ≤ f ∧ f ≤ 1000) ⟨(St.refl H).mono (Nat.le_add_right _ _), by rw [len_rgD]; decide⟩ ?_).lc ?_
 ·rintro d k S2 K hd ⟨t2, hk⟩ hK
  (simp_arith [])
  exact CV_figure t2.hd (by omega) fun f S3 f0 f1 t3 => hK _ _ (fun n hn => nomatch hn) ⟨f, rfl, f0, f1⟩ ⟨(t2.trans t3).mono (by omega), by omega⟩
 ·rintro out S2 ⟨hl, hp, t2, _⟩
  rw [len_rgD] at hl
  refine ⟨sz_le (by simp at hl; omega), ?_⟩
  have ex : ∀ out : List D, (∀ y, y ∈ out → ∃ f : Int, y = .int f ∧ -1000 ≤ f ∧ f ≤ 1000) → ∃ rs : List Int, out = rs.map D.int ∧ ∀ r, r ∈ rs → -1000 ≤ r ∧ r ≤ 1000 := by
   intro out
   induction out with
   | nil => exact fun _ => ⟨[], rfl, fun p hp => nomatch hp⟩
   | cons y out ih =>
    intro hp
    obtain ⟨p, rfl, hp1⟩ := hp y (List.mem_cons_self ..)
    obtain ⟨rows, rfl, hr⟩ := ih fun y hy => hp y (List.mem_cons_of_mem _ hy)
    exact ⟨p :: rows, rfl, fun p' hp' => by rcases List.mem_cons.mp hp' with rfl | z; exact hp1; exact hr p' z⟩
  obtain ⟨rs, rfl, hr⟩ := ex out hp
  (simp_arith [])
  exact ⟨t2.hd.mono (by omega), t2.up, .inl ⟨bareL_ints rs, fun S' hS => q rs S' (by simpa using hl) hr hS⟩⟩
inductive Xp where
 | fig (n : Int)
 | reg (i : Nat)
 | shr (i : Nat)
 | tim (n : Int) (a : Xp)
 | byr (i : Nat) (a : Xp)
 | whn (i : Nat) (f : Int) (a b : Xp)
 | whr (i : Nat) (f : Int) (a b : Xp)
 | sum (a b : Xp)
 | les (a b : Xp)
 | lst (a b : Xp)
 | mst (a b : Xp)
def exD : Xp → D
 | .fig n => .tup [.str "fig", .int n]
 | .reg i => .tup [.str "reg", .int i]
 | .shr i => .tup [.str "share", .int i]
 | .tim n a => .tup [.str "times", .int n, exD a]
 | .byr i a => .tup [.str "by", .int i, exD a]
 | .whn i f a b => .tup [.str "when", .int i, .int f, exD a, exD b]
 | .whr i f a b => .tup [.str "where", .int i, .int f, exD a, exD b]
 | .sum a b => .tup [.str "sum", exD a, exD b]
 | .les a b => .tup [.str "less", exD a, exD b]
 | .lst a b => .tup [.str "least", exD a, exD b]
 | .mst a b => .tup [.str "most", exD a, exD b]
def exOk (many : Nat) : Xp → Prop
 | .fig n => -1000 ≤ n ∧ n ≤ 1000
 | .reg i => i < 4
 | .shr i => i < many
 | .tim n a => -9 ≤ n ∧ n ≤ 9 ∧ exOk many a
 | .byr i a => i < 4 ∧ exOk many a
 | .whn i f a b => i < 4 ∧ -1000 ≤ f ∧ f ≤ 1000 ∧ exOk many a ∧ exOk many b
 | .whr i f a b => i < many ∧ 1 ≤ f ∧ f ≤ 1000 ∧ exOk many a ∧ exOk many b
 | .sum a b => exOk many a ∧ exOk many b
 | .les a b => exOk many a ∧ exOk many b
 | .lst a b => exOk many a ∧ exOk many b
 | .mst a b => exOk many a ∧ exOk many b
def lev : Xp → Nat
 | .fig _ => 0
 | .reg _ => 0
 | .shr _ => 0
 | .tim _ a => lev a + 1
 | .byr _ a => lev a + 1
 | .whn _ _ a b => max (lev a) (lev b) + 1
 | .whr _ _ a b => max (lev a) (lev b) + 1
 | .sum a b => max (lev a) (lev b) + 1
 | .les a b => max (lev a) (lev b) + 1
 | .lst a b => max (lev a) (lev b) + 1
 | .mst a b => max (lev a) (lev b) + 1
theorem exD_bare : ∀ e : Xp, bare (exD e) = true := by
 intro e
 induction e <;> simp_all [exD, bare, bareL]
theorem CV_leaf {S : Sto} {h n : Nat} {many : Nat} {Q : D → Sto → Prop} (H : HD n S h) (hn : n + 4 ≤ 1000000) (hm : 0 < many) (hm2 : many < 1000) (q : ∀ (e : Xp) S', exOk many e → lev e = 0 → St h (n + 4) S S' → Q (exD e) S') : CV c_leaf [.ref h, .int many] S Q := by
 have hlt := H.lt
 refine CV_hand (h := h) (n := n + 4) hlt rfl ?_
 unfold b_leaf
 (simp_arith [])
 refine CV_take H (by omega) (by decide) (by decide) fun r1 S1 a1 a2 t1 => ?_
 (simp_arith [])
 split
 ·refine CV_take t1.hd (by omega) (by decide) (by decide) fun r2 S2 b1 b2 t2 => ?_
  have t := t1.trans t2
  refine ⟨rfl, t.hd.mono (by omega), t.up, .inl ⟨rfl, fun S' hS => ?_⟩⟩
  have := q (.reg r2.toNat) S' (by show r2.toNat < 4; omega) rfl hS
  unfold exD at this
  rw [show ((r2.toNat : Nat) : Int) = r2 by omega] at this
  exact this
 ·split
  ·refine CV_figure t1.hd (by omega) fun f S2 f0 f1 t2 => ?_
   have t := t1.trans t2
   exact ⟨rfl, t.hd.mono (by omega), t.up, .inl ⟨rfl, fun S' hS => q (.fig f) S' ⟨f0, f1⟩ rfl hS⟩⟩
  ·refine CV_take t1.hd (by omega) (by omega) (by omega) fun r2 S2 b1 b2 t2 => ?_
   have t := t1.trans t2
   refine ⟨rfl, t.hd.mono (by omega), t.up, .inl ⟨rfl, fun S' hS => ?_⟩⟩
   have := q (.shr r2.toNat) S' (by show r2.toNat < many; omega) rfl hS
   unfold exD at this
   rw [show ((r2.toNat : Nat) : Int) = r2 by omega] at this
   exact this
theorem sum_pos_mem : ∀ ns : List Int, (∀ n, n ∈ ns → 0 ≤ n) → 0 ≤ ns.sum ∧ ∀ n, n ∈ ns → n ≤ ns.sum
 | [], _ => ⟨by simp, fun n h => nomatch h⟩
 | m :: ns, h => by
  obtain ⟨h1, h2⟩ := sum_pos_mem ns fun n hn => h n (List.mem_cons_of_mem _ hn)
  have h3 := h m (List.mem_cons_self ..)
  rw [List.sum_cons]
  refine ⟨by omega, fun n hn => ?_⟩
  rcases List.mem_cons.mp hn with rfl | hn
  ·omega
  ·have := h2 n hn
   omega
def wv (rs sh : List Int) : Xp → Int
 | .fig n => n * sh.sum
 | .reg i => rs.getD i 0 * sh.sum
 | .shr i => 1000 * sh.getD i 0
 | .tim n a => n * wv rs sh a
 | .byr i a => rs.getD i 0 * wv rs sh a
 | .whn i f a b => if rs.getD i 0 < f then wv rs sh a else wv rs sh b
 | .whr i f a b => if 1000 * sh.getD i 0 < f * sh.sum then wv rs sh a else wv rs sh b
 | .sum a b => wv rs sh a + wv rs sh b
 | .les a b => wv rs sh a - wv rs sh b
 | .lst a b => if wv rs sh b < wv rs sh a then wv rs sh b else wv rs sh a
 | .mst a b => if wv rs sh b > wv rs sh a then wv rs sh b else wv rs sh a
structure Ctx (many : Nat) (rs sh : List Int) : Prop where
 rl : rs.length = 4
 rb : ∀ r, r ∈ rs → -1000 ≤ r ∧ r ≤ 1000
 sl : sh.length = many
 sp : ∀ s, s ∈ sh → 0 ≤ s
 st : sh.sum ≤ 10 ^ 20
section
variable {many : Nat} {rs sh : List Int}
theorem sm_k {a : Int} (h : a.natAbs ≤ 10 ^ 30) : sm a := sm_le (10 ^ 30) h
end
def Cn : Nat → Nat
 | 0 => 4
 | l + 1 => 2 * Cn l + 8
theorem Cn_mono {l k : Nat} (h : l ≤ k) : Cn l ≤ Cn k := by
 induction h with
 | refl => exact Nat.le_refl _
 | step _ ih => rename_i m _; exact Nat.le_trans ih (by show Cn m ≤ 2 * Cn m + 8; omega)
theorem ex_data {many : Nat} (hm : many ≤ 1000) : ∀ e : Xp, exOk many e → shortB 13 (exD e) = true ∧ dep (exD e) = lev e + 1 ∧ cnt (exD e) ≤ Cn (lev e) := by
 have w1 : shortB 13 (.str "fig") = true := by decide +kernel
 have w2 : shortB 13 (.str "reg") = true := by decide +kernel
 have w3 : shortB 13 (.str "share") = true := by decide +kernel
 have w4 : shortB 13 (.str "times") = true := by decide +kernel
 have w5 : shortB 13 (.str "by") = true := by decide +kernel
 have w6 : shortB 13 (.str "when") = true := by decide +kernel
 have w7 : shortB 13 (.str "where") = true := by decide +kernel
 have w8 : shortB 13 (.str "sum") = true := by decide +kernel
 have w9 : shortB 13 (.str "less") = true := by decide +kernel
 have w10 : shortB 13 (.str "least") = true := by decide +kernel
 have w11 : shortB 13 (.str "most") = true := by decide +kernel
 have wi : ∀ {z : Int}, z.natAbs ≤ 1000 → shortB 13 (.int z) = true := fun {z} h => decide_eq_true (by omega)
 have ws : ∀ {x : Str}, dep (.str x) = 0 ∧ cnt (.str x) = 1 := ⟨rfl, rfl⟩
 have wz : ∀ {x : Int}, dep (.int x) = 0 ∧ cnt (.int x) = 1 := ⟨rfl, rfl⟩
 have c0 : ∀ l, 4 ≤ Cn l := fun l => Cn_mono (Nat.zero_le l)
 intro e
 induction e with
 | fig n => intro h; obtain ⟨h1, h2⟩ := h; exact ⟨by show (shortB 13 (.str "fig") && (shortB 13 (.int n) && true)) = true; rw [w1, wi (by omega)]; rfl, rfl, Nat.le_refl _⟩
 | reg i => intro h; have h : i < 4 := h; exact ⟨by show (shortB 13 (.str "reg") && (shortB 13 (.int i) && true)) = true; rw [w2, wi (by omega)]; rfl, rfl, Nat.le_refl _⟩
 | shr i => intro h; have h : i < many := h; exact ⟨by show (shortB 13 (.str "share") && (shortB 13 (.int i) && true)) = true; rw [w3, wi (by omega)]; rfl, rfl, Nat.le_refl _⟩
 | tim n a ih =>
  intro h; obtain ⟨h1, h2, h3⟩ := h
  obtain ⟨a1, a2, a3⟩ := ih h3
  refine ⟨?_, ?_, ?_⟩
  ·show (shortB 13 (.str "times") && (shortB 13 (.int n) && (shortB 13 (exD a) && true))) = true
   rw [w4, wi (by omega), a1]; rfl
  ·show max 0 (max 0 (max (dep (exD a)) 0)) + 1 = lev a + 1 + 1
   omega
  ·show 1 + 1 + (1 + 1 + (cnt (exD a) + 1 + 0)) ≤ 2 * Cn (lev a) + 8
   omega
 | byr i a ih =>
  intro h; obtain ⟨h1, h3⟩ := h
  obtain ⟨a1, a2, a3⟩ := ih h3
  refine ⟨?_, ?_, ?_⟩
  ·show (shortB 13 (.str "by") && (shortB 13 (.int i) && (shortB 13 (exD a) && true))) = true
   rw [w5, wi (by omega), a1]; rfl
  ·show max 0 (max 0 (max (dep (exD a)) 0)) + 1 = lev a + 1 + 1
   omega
  ·show 1 + 1 + (1 + 1 + (cnt (exD a) + 1 + 0)) ≤ 2 * Cn (lev a) + 8
   omega
 | whn i f a b iha ihb =>
  intro h; obtain ⟨h1, h2, h3, h4, h5⟩ := h
  obtain ⟨a1, a2, a3⟩ := iha h4
  obtain ⟨b1, b2, b3⟩ := ihb h5
  have m1 := Cn_mono (Nat.le_max_left (lev a) (lev b))
  have m2 := Cn_mono (Nat.le_max_right (lev a) (lev b))
  refine ⟨?_, ?_, ?_⟩
  ·show (shortB 13 (.str "when") && (shortB 13 (.int i) && (shortB 13 (.int f) && (shortB 13 (exD a) && (shortB 13 (exD b) && true))))) = true
   rw [w6, wi (by omega), wi (by omega), a1, b1]; rfl
  ·show max 0 (max 0 (max 0 (max (dep (exD a)) (max (dep (exD b)) 0)))) + 1 = max (lev a) (lev b) + 1 + 1
   omega
  ·show 1 + 1 + (1 + 1 + (1 + 1 + (cnt (exD a) + 1 + (cnt (exD b) + 1 + 0)))) ≤ 2 * Cn (max (lev a) (lev b)) + 8
   omega
 | whr i f a b iha ihb =>
  intro h; obtain ⟨h1, h2, h3, h4, h5⟩ := h
  obtain ⟨a1, a2, a3⟩ := iha h4
  obtain ⟨b1, b2, b3⟩ := ihb h5
  have m1 := Cn_mono (Nat.le_max_left (lev a) (lev b))
  have m2 := Cn_mono (Nat.le_max_right (lev a) (lev b))
  refine ⟨?_, ?_, ?_⟩
  ·show (shortB 13 (.str "where") && (shortB 13 (.int i) && (shortB 13 (.int f) && (shortB 13 (exD a) && (shortB 13 (exD b) && true))))) = true
   rw [w7, wi (by omega), wi (by omega), a1, b1]; rfl
  ·show max 0 (max 0 (max 0 (max (dep (exD a)) (max (dep (exD b)) 0)))) + 1 = max (lev a) (lev b) + 1 + 1
   omega
  ·show 1 + 1 + (1 + 1 + (1 + 1 + (cnt (exD a) + 1 + (cnt (exD b) + 1 + 0)))) ≤ 2 * Cn (max (lev a) (lev b)) + 8
   omega
 | sum a b iha ihb =>
  intro h
  obtain ⟨a1, a2, a3⟩ := iha h.1
  obtain ⟨b1, b2, b3⟩ := ihb h.2
  have m1 := Cn_mono (Nat.le_max_left (lev a) (lev b))
  have m2 := Cn_mono (Nat.le_max_right (lev a) (lev b))
  refine ⟨?_, ?_, ?_⟩
  ·show (shortB 13 (.str "sum") && (shortB 13 (exD a) && (shortB 13 (exD b) && true))) = true
   rw [w8, a1, b1]; rfl
  ·show max 0 (max (dep (exD a)) (max (dep (exD b)) 0)) + 1 = max (lev a) (lev b) + 1 + 1
   omega
  ·show 1 + 1 + (cnt (exD a) + 1 + (cnt (exD b) + 1 + 0)) ≤ 2 * Cn (max (lev a) (lev b)) + 8
   omega
 | les a b iha ihb =>
  intro h
  obtain ⟨a1, a2, a3⟩ := iha h.1
  obtain ⟨b1, b2, b3⟩ := ihb h.2
  have m1 := Cn_mono (Nat.le_max_left (lev a) (lev b))
  have m2 := Cn_mono (Nat.le_max_right (lev a) (lev b))
  refine ⟨?_, ?_, ?_⟩
  ·show (shortB 13 (.str "less") && (shortB 13 (exD a) && (shortB 13 (exD b) && true))) = true
   rw [w9, a1, b1]; rfl
  ·show max 0 (max (dep (exD a)) (max (dep (exD b)) 0)) + 1 = max (lev a) (lev b) + 1 + 1
   omega
  ·show 1 + 1 + (cnt (exD a) + 1 + (cnt (exD b) + 1 + 0)) ≤ 2 * Cn (max (lev a) (lev b)) + 8
   omega
 | lst a b iha ihb =>
  intro h
  obtain ⟨a1, a2, a3⟩ := iha h.1
  obtain ⟨b1, b2, b3⟩ := ihb h.2
  have m1 := Cn_mono (Nat.le_max_left (lev a) (lev b))
  have m2 := Cn_mono (Nat.le_max_right (lev a) (lev b))
  refine ⟨?_, ?_, ?_⟩
  ·show (shortB 13 (.str "least") && (shortB 13 (exD a) && (shortB 13 (exD b) && true))) = true
   rw [w10, a1, b1]; rfl
  ·show max 0 (max (dep (exD a)) (max (dep (exD b)) 0)) + 1 = max (lev a) (lev b) + 1 + 1
   omega
  ·show 1 + 1 + (cnt (exD a) + 1 + (cnt (exD b) + 1 + 0)) ≤ 2 * Cn (max (lev a) (lev b)) + 8
   omega
 | mst a b iha ihb =>
  intro h
  obtain ⟨a1, a2, a3⟩ := iha h.1
  obtain ⟨b1, b2, b3⟩ := ihb h.2
  have m1 := Cn_mono (Nat.le_max_left (lev a) (lev b))
  have m2 := Cn_mono (Nat.le_max_right (lev a) (lev b))
  refine ⟨?_, ?_, ?_⟩
  ·show (shortB 13 (.str "most") && (shortB 13 (exD a) && (shortB 13 (exD b) && true))) = true
   rw [w11, a1, b1]; rfl
  ·show max 0 (max (dep (exD a)) (max (dep (exD b)) 0)) + 1 = max (lev a) (lev b) + 1 + 1
   omega
  ·show 1 + 1 + (cnt (exD a) + 1 + (cnt (exD b) + 1 + 0)) ≤ 2 * Cn (max (lev a) (lev b)) + 8
   omega
def isTup : D → Bool
 | .tup _ => true
 | _ => false
def tc (ds : List D) : Nat := (ds.filter isTup).length
theorem ex_extend {S : Sto} {ds es : List D} {P : D → List D → Prop} : (∃ v ds', hExtend S ds [.lst es] = some (v, ds') ∧ P v ds') ↔ szOk (ds.length + es.length) = true ∧ P .non (ds ++ es) := by
 constructor
 ·rintro ⟨v, ds', h, p⟩
  obtain ⟨hz, h⟩ := ite_some (show (if szOk (ds.length + es.length) = true then some (D.non, ds ++ es) else none) = _ from h)
  cases h
  exact ⟨hz, p⟩
 ·rintro ⟨hz, p⟩
  exact ⟨_, _, (if_pos hz : (if szOk (ds.length + es.length) = true then some (D.non, ds ++ es) else none) = _), p⟩
theorem set_last {S : Sto} {a b : Ob} : (S ++ [a]).set S.length b = S ++ [b] := by
 rw [List.set_append_right _ _ (Nat.le_refl _), Nat.sub_self]
 rfl
theorem box_last {S : Sto} {ds : List D} : boxAt (S ++ [.lst ds]) S.length = some ds := box_of (by simp)
noncomputable def b_is_whole : SX := sRet (eAnd (e1 (gIs "int") (eVar 0)) (eAnd (e1 fNot (e1 (gIs "bool") (eVar 0))) (eAnd (e2 fLe (eVar 1) (eVar 0)) (eOr (e2 fIs (eVar 2) (eC .non)) (e2 fLe (eVar 0) (eVar 2))))))
noncomputable def c_is_whole : Con := den 3 3 0 b_is_whole
inductive Yp where
 | fig (n : Int)
 | reg (n : Int)
 | shr (n : Int)
 | tim (n : Int) (a : Yp)
 | byr (n : Int) (a : Yp)
 | whn (i f : Int) (a b : Yp)
 | whr (i f : Int) (a b : Yp)
 | sum (a b : Yp)
 | les (a b : Yp)
 | lst (a b : Yp)
 | mst (a b : Yp)
def yD : Yp → D
 | .fig n => .tup [.str "fig", .int n]
 | .reg i => .tup [.str "reg", .int i]
 | .shr i => .tup [.str "share", .int i]
 | .tim n a => .tup [.str "times", .int n, yD a]
 | .byr i a => .tup [.str "by", .int i, yD a]
 | .whn i f a b => .tup [.str "when", .int i, .int f, yD a, yD b]
 | .whr i f a b => .tup [.str "where", .int i, .int f, yD a, yD b]
 | .sum a b => .tup [.str "sum", yD a, yD b]
 | .les a b => .tup [.str "less", yD a, yD b]
 | .lst a b => .tup [.str "least", yD a, yD b]
 | .mst a b => .tup [.str "most", yD a, yD b]
def iw (z lo hi : Int) : Bool := decide (lo ≤ z) && decide (z ≤ hi)
def siz : Yp → Nat
 | .fig _ => 1
 | .reg _ => 1
 | .shr _ => 1
 | .tim _ a => 1 + siz a
 | .byr _ a => 1 + siz a
 | .whn _ _ a b => 1 + (siz a + siz b)
 | .whr _ _ a b => 1 + (siz a + siz b)
 | .sum a b => 1 + (siz a + siz b)
 | .les a b => 1 + (siz a + siz b)
 | .lst a b => 1 + (siz a + siz b)
 | .mst a b => 1 + (siz a + siz b)
def deep : Yp → Nat
 | .fig _ => 1
 | .reg _ => 1
 | .shr _ => 1
 | .tim _ a => 1 + deep a
 | .byr _ a => 1 + deep a
 | .whn _ _ a b => 1 + max (deep a) (deep b)
 | .whr _ _ a b => 1 + max (deep a) (deep b)
 | .sum a b => 1 + max (deep a) (deep b)
 | .les a b => 1 + max (deep a) (deep b)
 | .lst a b => 1 + max (deep a) (deep b)
 | .mst a b => 1 + max (deep a) (deep b)
theorem r_isIi {S : Sto} {z : Int} : gIs "int" S (.int z) = some (.bl true) := by
 show (kitB "int" "int").map D.bl = _
 rw [show kitB "int" "int" = some true by decide +kernel]
 rfl
theorem r_isBi {S : Sto} {z : Int} : gIs "bool" S (.int z) = some (.bl false) := by
 show (kitB "int" "bool").map D.bl = _
 rw [show kitB "int" "bool" = some false by decide +kernel]
 rfl
theorem beqS {u v : Str} : (u == v) = decide (u = v) := by
 by_cases h : u = v
 ·subst h; simp
 ·rw [decide_eq_false h]; exact beq_eq_false_iff_ne.mpr h
abbrev Wt := Yp × Nat
structure Fit (p : Wt) : Prop where
 sh : shortB 13 (yD p.1) = true
 dp : dep (yD p.1) ≤ 50
 lv : p.2 ≤ 1000
def Be : Nat → Nat
 | 0 => 10
 | l + 1 => 2 * Be l + 10
section
variable {X : Cx} {a b c d : Expr} {ta tb tc td : TE} {pos : Pos}
end
def eChain3 (f g h : F2) (a b c d : EX) : EX := fun e S => (a e S).bind fun p => (b e p.2).bind fun q => (f q.2 p.1 q.1).bind fun t => match t with
 | .bl true => (c e q.2).bind fun r => (g r.2 q.1 r.1).bind fun t2 => match t2 with
   | .bl true => (d e r.2).bind fun u => (h u.2 r.1 u.1).map fun v => (v, u.2)
   | .bl false => some (.bl false, r.2)
   | _ => none
 | .bl false => some (.bl false, q.2)
 | _ => none
section
variable {fa fb fc fd : EX}
variable {X : Cx} {a b c d : Expr} {pos : Pos}
end
theorem EV_chain3 {e : En} {S : Sto} {Q : D → Sto → Prop} {f g h : F2} {a b c d : EX} : EV (eChain3 f g h a b c d) e S Q ↔ EV a e S fun x S1 => EV b e S1 fun y S2 => BV (f S2 x y) fun t => ∃ k, t = .bl k ∧
  if k = true then EV c e S2 fun z S3 => BV (g S3 y z) fun t2 => ∃ k2, t2 = .bl k2 ∧ if k2 = true then EV d e S3 fun u S4 => BV (h S4 z u) fun v => Q v S4 else Q (.bl false) S3 else Q (.bl false) S2 := by
 unfold EV eChain3 BV
 constructor
 ·rintro ⟨v, S', hh, q⟩
  obtain ⟨⟨x, S1⟩, h1, hh⟩ := Option.bind_eq_some_iff.mp hh
  obtain ⟨⟨y, S2⟩, h2, hh⟩ := Option.bind_eq_some_iff.mp hh
  obtain ⟨t, h3, hh⟩ := Option.bind_eq_some_iff.mp hh
  refine ⟨x, S1, h1, y, S2, h2, t, h3, ?_⟩
  cases t <;> first | exact no2 hh | skip
  rename_i k
  refine ⟨k, rfl, ?_⟩
  cases k with
  | true =>
   obtain ⟨⟨z, S3⟩, h4, hh⟩ := Option.bind_eq_some_iff.mp (show (c e S2).bind _ = _ from hh)
   obtain ⟨t2, h5, hh⟩ := Option.bind_eq_some_iff.mp hh
   refine ⟨z, _, h4, t2, h5, ?_⟩
   cases t2 <;> first | exact no2 hh | skip
   rename_i k2
   refine ⟨k2, rfl, ?_⟩
   cases k2 with
   | true =>
    obtain ⟨⟨u, S4⟩, h6, hh⟩ := Option.bind_eq_some_iff.mp (show (d e S3).bind _ = _ from hh)
    obtain ⟨w, h7, hh⟩ := Option.map_eq_some_iff.mp hh
    cases hh
    exact ⟨u, _, h6, _, h7, q⟩
   | false => cases hh; exact q
  | false => cases hh; exact q
 ·rintro ⟨x, S1, h1, y, S2, h2, t, h3, k, rfl, hh⟩
  rw [h1]
  show ∃ v S', (b e S1).bind _ = _ ∧ _
  rw [h2]
  show ∃ v S', (f S2 x y).bind _ = _ ∧ _
  rw [h3]
  cases k with
  | true =>
   obtain ⟨z, S3, h4, t2, h5, k2, rfl, hh⟩ := hh
   show ∃ v S', (c e S2).bind _ = _ ∧ _
   rw [h4]
   show ∃ v S', (g S3 y z).bind _ = _ ∧ _
   rw [h5]
   cases k2 with
   | true =>
    obtain ⟨u, S4, h6, w, h7, q⟩ := hh
    show ∃ v S', (d e S3).bind _ = _ ∧ _
    rw [h6]
    show ∃ v S', (h S4 z u).map _ = _ ∧ _
    rw [h7]
    exact ⟨_, _, rfl, q⟩
   | false => exact ⟨_, _, rfl, hh⟩
  | false => exact ⟨_, _, rfl, hh⟩
def rgC (i c : Int) (n : Nat) : List D := (List.range n).map fun (k : Nat) => D.int (i + (k : Int) * c)
def rg3Ok (i j c : Int) : Bool := decide (c ≠ 0) && decide (c.natAbs < 1073741824) && Builtin.Range.small i j c && decide (0 ≤ Builtin.Range.rangeSize i j c)
def iRg3 (f g h : EX) : IX := fun e S => (f e S).bind fun p => (g e p.2).bind fun q => (h e q.2).bind fun r => match p.1, q.1, r.1 with
 | .int i, .int j, .int c => if rg3Ok i j c = true then some (rgC i c (Builtin.Range.rangeSize i j c).toNat, [], r.2) else none
 | _, _, _ => none
section
variable {X : Cx} {tg e e2 e3 : Expr} {f g h : EX} {p pos : Pos}
end
theorem IV_rg3 {e : En} {S : Sto} {QI : List D → List Nat → Sto → Prop} {f g h : EX} : IV (iRg3 f g h) e S QI ↔ EV f e S fun d S1 => EV g e S1 fun d2 S2 => EV h e S2 fun d3 S3 => ∃ i j c, d = .int i ∧ d2 = .int j ∧ d3 = .int c ∧ rg3Ok i j c = true ∧ QI (rgC i c (Builtin.Range.rangeSize i j c).toNat) [] S3 := by
 unfold IV EV iRg3
 constructor
 ·rintro ⟨ds, gs, S', hh, q⟩
  obtain ⟨⟨d, S1⟩, h1, hh⟩ := Option.bind_eq_some_iff.mp hh
  obtain ⟨⟨d2, S2⟩, h2, hh⟩ := Option.bind_eq_some_iff.mp hh
  obtain ⟨⟨d3, S3⟩, h3, hh⟩ := Option.bind_eq_some_iff.mp hh
  cases d <;> first | exact no2 hh | skip
  cases d2 <;> first | exact no2 hh | skip
  cases d3 <;> first | exact no2 hh | skip
  obtain ⟨hz, hh⟩ := ite_some hh
  cases hh
  exact ⟨_, S1, h1, _, S2, h2, _, S3, h3, _, _, _, rfl, rfl, rfl, hz, q⟩
 ·rintro ⟨d, S1, h1, d2, S2, h2, d3, S3, h3, i, j, c, rfl, rfl, rfl, hz, q⟩
  exact ⟨_, _, _, by rw [h1]; show (g e S1).bind _ = _; rw [h2]; show (h e S2).bind _ = _; rw [h3]; show (if rg3Ok i j c = true then _ else _) = _; rw [if_pos hz], q⟩
def lRg1 (f : EX) : LX := fun e S => (f e S).bind fun p => match p.1 with
 | .int j => if (decide (j ≤ 16777216) && rgOk j) = true then some (rgD 0 j, p.2) else none
 | _ => none
section
variable {X : Cx} {e : Expr} {f : EX} {p p2 pos pos2 : Pos}
end
theorem AV_rg1 {f : EX} {e : En} {S : Sto} {QL : List D → Sto → Prop} : AV (lRg1 f) e S QL ↔ EV f e S fun x S1 => ∃ j, x = .int j ∧ (decide (j ≤ 16777216) && rgOk j) = true ∧ QL (rgD 0 j) S1 := by
 unfold AV EV lRg1
 constructor
 ·rintro ⟨v, S', h, q⟩
  obtain ⟨⟨x, S1⟩, h1, h⟩ := Option.bind_eq_some_iff.mp h
  cases x <;> first | exact no2 h | skip
  obtain ⟨hz, h⟩ := ite_some h
  cases h
  exact ⟨_, _, h1, _, rfl, hz, q⟩
 ·rintro ⟨x, S1, h1, j, rfl, hz, q⟩
  exact ⟨_, _, by rw [h1]; show (if _ then _ else _) = _; rw [if_pos hz], q⟩
mutual
theorem Rep.hideD {m : M} {K : PySem.W.Frag} {Z : List Addr} {p : Addr} {ys : List (Key × V)} (hp : m.H p = some (.dK ys)) : ∀ (d : D) (v : V), Rep ⟨K, p :: Z⟩ m d v → Rep ⟨K, Z⟩ (m.hide p) d v
 | .non, v, h => h
 | .bl _, v, h => h
 | .int _, v, h => h
 | .str _, v, h => h
 | .tup ds, v, h => by
  obtain ⟨a, xs, e, h1, h2⟩ := h
  refine ⟨a, xs, e, ?_, RepL.hideD hp ds xs h2⟩
  rcases h1 with h1 | h1
  ·have hne : a ≠ p := fun z => by
    subst z
    rcases h1 with h1 | ⟨o, h1⟩ <;> (rw [hp] at h1; cases h1)
   refine .inl ?_
   rcases h1 with h1 | ⟨o, h1⟩
   ·exact .inl (by rw [M.hide_ne hne]; exact h1)
   ·exact .inr ⟨o, by rw [M.hide_ne hne]; exact h1⟩
  ·exact .inr h1
 | .lst ds, v, h => by
  obtain ⟨a, xs, e, ⟨h1, h3, h4⟩, h2⟩ := h
  have hne : a ≠ p := fun z => h4 (by subst z; exact List.mem_cons_self ..)
  exact ⟨a, xs, e, ⟨by rw [M.hide_ne hne]; exact h1, h3, fun z => h4 (List.mem_cons_of_mem _ z)⟩, RepL.hideD hp ds xs h2⟩
 | .rol ds, v, h => by
  obtain ⟨a, xs, e, h1, h2⟩ := h
  refine ⟨a, xs, e, ?_, RepL.hideD hp ds xs h2⟩
  rcases h1 with ⟨o, h1⟩ | h1
  ·have hne : a ≠ p := fun z => by
    subst z
    rw [hp] at h1; cases h1
   exact .inl ⟨o, by rw [M.hide_ne hne]; exact h1⟩
  ·exact .inr h1
 | .dic ks vs, v, h => by
  obtain ⟨a, kvs, e, ⟨h1, h3, h4⟩, h5, h2⟩ := h
  have hne : a ≠ p := fun z => h4 (by subst z; exact List.mem_cons_self ..)
  exact ⟨a, kvs, e, ⟨by rw [M.hide_ne hne]; exact h1, h3, fun z => h4 (List.mem_cons_of_mem _ z)⟩, h5, RepL.hideD hp vs _ h2⟩
 | .ref n, v, h => h
 | .dref n, v, h => h
 | .tag k ds, v, h => by
  obtain ⟨a, xs, e, h1, h2⟩ := h
  exact ⟨a, xs, e, TagR.hide hp trivial h1, RepL.hideD hp ds xs h2⟩
theorem RepL.hideD {m : M} {K : PySem.W.Frag} {Z : List Addr} {p : Addr} {ys : List (Key × V)} (hp : m.H p = some (.dK ys)) : ∀ (ds : List D) (vs : List V), RepL ⟨K, p :: Z⟩ m ds vs → RepL ⟨K, Z⟩ (m.hide p) ds vs
 | [], vs, h => h
 | d :: ds, vs, h => by
  obtain ⟨y, r, e, h1, h2⟩ := h
  exact ⟨y, r, e, Rep.hideD hp d y h1, RepL.hideD hp ds r h2⟩
end
theorem Sim.hideD {m : M} {K : PySem.W.Frag} {Z : List Addr} {p : Addr} {ys : List (Key × V)} (s : Sim ⟨K, p :: Z⟩ m) (hp : m.H p = some (.dK ys)) (hpz : p ∉ Z) : Sim ⟨K, Z⟩ (m.hide p) := by
 refine ⟨s.inj, fun i o h => ?_, fun z hz => ?_, fun q hq => tabS_hideI (s.tabs q hq) hp trivial⟩
 ·have h : m.S[i]? = some o := h
  have hb := (s.zs p (List.mem_cons_self ..)).2
  have hil : i < m.S.length := by
   rcases Nat.lt_or_ge i m.S.length with z | z
   ·exact z
   ·rw [List.getElem?_eq_none z] at h; cases h
  have q := s.obj i o h
  ·obtain ⟨xs, h1, h2⟩ := q
   exact ⟨xs, by show (m.hide p).H (m.r i) = _; rw [M.hide_ne (fun e => hb ⟨i, hil, e⟩)]; exact h1, RepL.hideD hp _ xs h2⟩
 ·have hz : z ∈ Z := hz
  obtain ⟨⟨o, ho⟩, hb⟩ := s.zs z (List.mem_cons_of_mem _ hz)
  exact ⟨⟨o, by rw [M.hide_ne (fun e => hpz (by rw [← e]; exact hz))]; exact ho⟩, hb⟩
theorem Sim.apartD {m : M} {K : PySem.W.Frag} {Z : List Addr} {p : Addr} {u : HO} (s : Sim ⟨K, Z⟩ m) (hp : m.H p = none) : Sim ⟨K, p :: Z⟩ ⟨m.r, m.S, upd m.H p u⟩ where
 inj := s.inj
 obj := fun i o h => by
  have q := s.obj i o h
  ·obtain ⟨xs, h1, h2⟩ := q
   refine ⟨xs, by show upd m.H p _ _ = _; rw [upd_ne (ne_of_none h1 hp)]; exact h1, ?_⟩
   refine RepL.mono (m := m) s.bok (.laid hp) _ xs (RepL.widen (fun z hz => ?_) _ xs h2)
   rcases List.mem_cons.mp hz with e | e
   ·exact .inr (e ▸ hp)
   ·exact .inl e
 zs := fun z hz => by
  rcases List.mem_cons.mp hz with e | e
  ·exact ⟨⟨_, by rw [e]; exact upd_same⟩, by rw [e]; exact (s.fresh hp).1⟩
  ·obtain ⟨⟨o, ho⟩, hb⟩ := s.zs z e
   exact ⟨⟨o, by show upd m.H p _ _ = _; rw [upd_ne (ne_of_none ho hp)]; exact ho⟩, hb⟩
 tabs := fun q hq => (s.tabs q hq).ext fun b w e => by show upd m.H p _ b = _; rw [upd_ne (ne_of_none e hp)]; exact e
def kD : Key → D
 | .inl i => .int i
 | .inr x => .str x
def eDct (ks : List Key) (ga : AX) : EX := fun e S => (ga e S).bind fun p => if p.1.length = ks.length ∧ ks.length ≤ 15 ∧ ks.Nodup then some (.dic ks p.1, p.2) else none
structure PJ (X : Cx) (pos : Pos) (keys : List (Option Expr)) (values : List Expr) (ks : List Key) (ga : AX) : Prop where
 ex : ∃ trs, PPs X pos keys values trs ∧ ∀ σ H Q, tA X.K ga σ H (fun vs H' => Q ((ks.map kV).zip vs) H') → tPairs trs σ H Q
 len : keys.length = ks.length
 len2 : keys.length = values.length
 all : keys.all (·.isSome) = true
section
variable {X : Cx} {k v : Expr} {keys : List (Option Expr)} {values : List Expr} {ks : List Key} {ga : AX} {f : EX} {pos : Pos}
theorem pj_nil : PJ X pos [] [] [] aNil := ⟨⟨[], pps_nil, fun σ H Q ⟨Z, m, env, v, S', e, s, er, hf, q⟩ => by
 cases hf
 have := q m [] rfl (.refl s) rfl
 rw [e] at this
 exact this⟩, rfl, rfl, rfl⟩
theorem pj_cons {key : Key} (hk : EJ X k (eC (kD key))) (hv : EJ X v f) (h : PJ X pos keys values ks ga) : PJ X pos (some k :: keys) (v :: values) (key :: ks) (aCons f ga) := by
 obtain ⟨⟨trs, h1, h2⟩, h3, h4, h5⟩ := h
 refine ⟨⟨_, pps_cons hk hv h1, fun σ H Q ⟨Z, m, env, w, S', e, s, er, hf, q⟩ => ?_⟩, by simp [h3], by simp [h4], by simp [h5]⟩
 obtain ⟨x, S1, r, q1, q2, rfl⟩ := aCons_inv hf
 refine ⟨Z, m, env, kD key, m.S, e, s, er, rfl, fun m0 vk e0 t0 rk => ?_⟩
 have hvk : vk = kV key := by cases key <;> exact rk
 subst hvk
 refine ⟨Z, m0, env, x, S1, rfl, t0.si, er.tr s t0, by rw [e0]; exact q1, fun m1 vx e1 t1 rx => ?_⟩
 refine h2 _ _ _ ⟨Z, m1, env, r, S', rfl, t1.si, er.tr s (t0.trans s t1), by rw [e1]; exact q2, fun m2 vy e2 t2 ry => ?_⟩
 exact q m2 (vx :: vy) e2 ((t0.trans s t1).trans s t2) ⟨vx, vy, rfl, t2.rep t1.si rx, ry⟩
end
theorem mergeK_nodup : ∀ (kvs acc : List (Key × V)), ((acc ++ kvs).map (·.1)).Nodup → mergeK acc kvs = acc ++ kvs
 | [], acc, _ => by simp [mergeK]
 | kv :: kvs, acc, h => by
  have hn : (acc.any fun z => decide (z.1 = kv.1)) = false := by
   cases hb : acc.any fun z => decide (z.1 = kv.1) with
   | false => rfl
   | true =>
    obtain ⟨y, hy, ey⟩ := List.any_eq_true.mp hb
    have ey := of_decide_eq_true ey
    rw [List.map_append, List.nodup_append] at h
    exact absurd ey (h.2.2 _ (List.mem_map.mpr ⟨y, hy, rfl⟩) _ (List.mem_map.mpr ⟨kv, List.mem_cons_self .., rfl⟩))
  show mergeK (putK acc kv.1 kv.2) kvs = _
  unfold putK
  rw [hn, if_neg (by decide)]
  rw [mergeK_nodup kvs (acc ++ [(kv.1, kv.2)]) (by simpa using h)]
  simp
section
variable {X : Cx} {keys : List (Option Expr)} {values : List Expr} {ks : List Key} {ga : AX} {pos : Pos}
theorem zip_keys {α β : Type} : ∀ {ks : List α} {vs : List β}, vs.length = ks.length → (ks.zip vs).map (·.1) = ks ∧ (ks.zip vs).map (·.2) = vs
 | [], [], _ => ⟨rfl, rfl⟩
 | _ :: _, [], h => by simp at h
 | [], _ :: _, h => by simp at h
 | k :: ks, v :: vs, h => by
  obtain ⟨h1, h2⟩ := zip_keys (ks := ks) (vs := vs) (by simpa using h)
  exact ⟨by simp [h1], by simp [h2]⟩
theorem zip_kV : ∀ {ks : List Key} {vs : List V}, vs.length = ks.length → (ks.map kV).zip vs = (ks.zip vs).map fun kv => (kV kv.1, kv.2)
 | [], [], _ => rfl
 | _ :: _, [], h => by simp at h
 | [], _ :: _, h => by simp at h
 | k :: ks, v :: vs, h => by
  have := zip_kV (ks := ks) (vs := vs) (by simpa using h)
  simp [this]
end
theorem EV_dct {e : En} {S : Sto} {Q : D → Sto → Prop} {ks : List Key} {ga : AX} : EV (eDct ks ga) e S Q ↔ AV ga e S fun ds S1 => (ds.length = ks.length ∧ ks.length ≤ 15 ∧ ks.Nodup) ∧ Q (.dic ks ds) S1 := by
 unfold EV AV eDct
 constructor
 ·rintro ⟨v, S', h, q⟩
  obtain ⟨⟨r, S1⟩, q1, h⟩ := Option.bind_eq_some_iff.mp h
  obtain ⟨hz, h⟩ := ite_some h
  cases h
  exact ⟨r, _, q1, hz, q⟩
 ·rintro ⟨r, S1, q1, hz, q⟩
  exact ⟨_, _, by rw [q1]; show (if _ then _ else _) = _; rw [if_pos hz], q⟩
def keyOf : D → Option Key
 | .int i => some (.inl i)
 | .str x => some (.inr x)
 | _ => none
def dIx (ks : List Key) (vs : List D) (k : Key) : Option D := ((ks.zip vs).find? fun z => decide (z.1 = k)).map (·.2)
theorem dIx_rep {c : C} {m : M} {k : Key} {d : D} : ∀ {kvs : List (Key × V)} {vs : List D}, RepL c m vs (kvs.map (·.2)) → dIx (kvs.map (·.1)) vs k = some d → ∃ v, valV kvs k = some v ∧ Rep c m d v
 | [], vs, h, e => by simp [dIx] at e
 | kv :: kvs, vs, h, e => by
  cases vs with
  | nil => simp [dIx] at e
  | cons d2 vs =>
   obtain ⟨y, r, e1, h1, h2⟩ := h
   simp only [List.map_cons, List.cons.injEq] at e1
   obtain ⟨rfl, rfl⟩ := e1
   by_cases hk : kv.1 = k
   ·have : d2 = d := by simpa [dIx, hk] using e
    subst this
    exact ⟨_, valV_pos hk, h1⟩
   ·have : dIx (kvs.map (·.1)) vs k = some d := by simpa [dIx, hk, List.find?_cons] using e
    obtain ⟨v, q1, q2⟩ := dIx_rep h2 this
    exact ⟨v, by rw [valV_neg hk]; exact q1, q2⟩
section
variable {X : Cx} {a b : Expr} {fa fb : EX} {pos : Pos}
end
noncomputable def b_counted (k_counted : Con) : SX := sSeq (sAsg (e2 fIx (eVar 0) (eC (.int 0))) (gN 1)) (sSeq (sIf (tOf (e2 fIn (eVar 1) (eTup (aCons (eC (.str "fig")) (aCons (eC (.str "reg")) (aCons (eC (.str "share")) (aNil))))))) (sRet (eTup (aCons (eC (.int 1)) (aCons (eC (.int 0)) (aNil))))) (sNil)) (sSeq (sIf (tOf (e2 fIn (eVar 1) (eTup (aCons (eC (.str "times")) (aCons (eC (.str "by")) (aNil)))))) (sRet (eCall k_counted (aCons (e2 fIx (eVar 0) (eC (.int 2))) (aNil)))) (sNil)) (sSeq (sPar 2 3 (aCons (eCall k_counted (aCons (e2 fIx (eVar 0) (e1 fNeg (eC (.int 2)))) (aNil))) (aCons (eCall k_counted (aCons (e2 fIx (eVar 0) (e1 fNeg (eC (.int 1)))) (aNil))) (aNil)))) (sSeq (sIf (tOf (e2 fIn (eVar 1) (eTup (aCons (eC (.str "sum")) (aCons (eC (.str "less")) (aNil)))))) (sRet (eTup (aCons (e2 fMul (e2 fIx (eVar 2) (eC (.int 0))) (e2 fIx (eVar 3) (eC (.int 0)))) (aCons (e2 fAdd (e2 fIx (eVar 2) (eC (.int 1))) (e2 fIx (eVar 3) (eC (.int 1)))) (aNil))))) (sNil)) (sSeq (sIf (tOf (e2 fIn (eVar 1) (eTup (aCons (eC (.str "least")) (aCons (eC (.str "most")) (aNil)))))) (sRet (eTup (aCons (e2 fAdd (e2 fIx (eVar 2) (eC (.int 0))) (e2 fIx (eVar 3) (eC (.int 0)))) (aCons (e2 fAdd (e2 fAdd (e2 fIx (eVar 2) (eC (.int 1))) (e2 fIx (eVar 3) (eC (.int 1)))) (e2 fMul (e2 fIx (eVar 2) (eC (.int 0))) (e2 fIx (eVar 3) (eC (.int 0))))) (aNil))))) (sNil)) (sSeq (sIf (tOf (e2 fEq (eVar 1) (eC (.str "where")))) (sRet (eTup (aCons (e2 fAdd (e2 fIx (eVar 2) (eC (.int 0))) (e2 fIx (eVar 3) (eC (.int 0)))) (aCons (e2 fAdd (e2 fAdd (e2 fIx (eVar 2) (eC (.int 1))) (e2 fIx (eVar 3) (eC (.int 1)))) (eC (.int 1))) (aNil))))) (sNil)) (sRet (eTup (aCons (eCB (fn2 gMax2) (aCons (e2 fIx (eVar 2) (eC (.int 0))) (aCons (e2 fIx (eVar 3) (eC (.int 0))) (aNil)))) (aCons (eCB (fn2 gMax2) (aCons (e2 fIx (eVar 2) (eC (.int 1))) (aCons (e2 fIx (eVar 3) (eC (.int 1))) (aNil)))) (aNil)))))))))))
noncomputable def b_borders (k_counted : Con) : SX := sRet (e2 fIx (eCall k_counted (aCons (eVar 0) (aNil))) (eC (.int 1)))
noncomputable def cc_counted : Nat → Con
 | 0 => fun _ _ => none
 | n + 1 => den 1 4 0 (b_counted (cc_counted n))
theorem LV_fold {g : GX} {tt : TX} {te : EX} {gs : List Nat} {S0 : Sto} {e0 : En} {ds : List D} {S : Sto} {P : List D → Sto → Prop} : (∃ out S2, lcL g tt te gs S0 e0 ds S = some (out, S2) ∧ P out S2) ↔ LV g tt te gs S0 e0 ds S P := Iff.rfl
theorem stay_nil {P : Nat → Prop} : (∀ n, n ∈ ([] : List Nat) → P n) = True := by simp
theorem sz_0 : szOk 0 = true := rfl
theorem sz_1 : szOk 1 = true := rfl
theorem sz_2 : szOk 2 = true := rfl
theorem sz_3 : szOk 3 = true := rfl
theorem sz_4 : szOk 4 = true := rfl
theorem sz_5 : szOk 5 = true := rfl
theorem sz_6 : szOk 6 = true := rfl
theorem m2_2 {a b : D} : atI [a, b] (-2) = some a := rfl
theorem m1_2 {a b : D} : atI [a, b] (-1) = some b := rfl
theorem m2_3 {a b c : D} : atI [a, b, c] (-2) = some b := rfl
theorem m1_3 {a b c : D} : atI [a, b, c] (-1) = some c := rfl
theorem m2_5 {a b c d e : D} : atI [a, b, c, d, e] (-2) = some d := rfl
theorem m1_5 {a b c d e : D} : atI [a, b, c, d, e] (-1) = some e := rfl
theorem r_in3 {S : Sto} {u a b c : Str} : fIn S (.str u) (.tup [.str a, .str b, .str c]) = some (.bl (a == u || (b == u || (c == u || false)))) := rfl
theorem r_in2 {S : Sto} {u a b : Str} : fIn S (.str u) (.tup [.str a, .str b]) = some (.bl (a == u || (b == u || false))) := rfl
theorem r_min2L {S : Sto} {a b : Int} : gMin1 S (.lst [.int a, .int b]) = some (.int (if b < a then b else a)) := by
 show some (D.int (min a b)) = _
 congr 2
 split <;> omega
theorem r_max2L {S : Sto} {a b : Int} : gMax1 S (.lst [.int a, .int b]) = some (.int (if b > a then b else a)) := by
 show some (D.int (max a b)) = _
 congr 2
 split <;> omega
def sp : Xp → Int × Int
 | .fig n => (n, n)
 | .reg _ => (-1000, 1000)
 | .shr _ => (0, 1000)
 | .tim n a => (if n * (sp a).2 < n * (sp a).1 then n * (sp a).2 else n * (sp a).1, if n * (sp a).2 > n * (sp a).1 then n * (sp a).2 else n * (sp a).1)
 | .byr _ a => (-1000 * (if (if (sp a).2 < 0 then -(sp a).2 else (sp a).2) > (if (sp a).1 < 0 then -(sp a).1 else (sp a).1) then (if (sp a).2 < 0 then -(sp a).2 else (sp a).2) else (if (sp a).1 < 0 then -(sp a).1 else (sp a).1)),
   1000 * (if (if (sp a).2 < 0 then -(sp a).2 else (sp a).2) > (if (sp a).1 < 0 then -(sp a).1 else (sp a).1) then (if (sp a).2 < 0 then -(sp a).2 else (sp a).2) else (if (sp a).1 < 0 then -(sp a).1 else (sp a).1)))
 | .whn _ _ a b => (if (sp b).1 < (sp a).1 then (sp b).1 else (sp a).1, if (sp b).2 > (sp a).2 then (sp b).2 else (sp a).2)
 | .whr _ _ a b => (if (sp b).1 < (sp a).1 then (sp b).1 else (sp a).1, if (sp b).2 > (sp a).2 then (sp b).2 else (sp a).2)
 | .sum a b => ((sp a).1 + (sp b).1, (sp a).2 + (sp b).2)
 | .les a b => ((sp a).1 - (sp b).2, (sp a).2 - (sp b).1)
 | .lst a b => (if (sp b).1 < (sp a).1 then (sp b).1 else (sp a).1, if (sp b).2 < (sp a).2 then (sp b).2 else (sp a).2)
 | .mst a b => (if (sp b).1 > (sp a).1 then (sp b).1 else (sp a).1, if (sp b).2 > (sp a).2 then (sp b).2 else (sp a).2)
def Bs (l : Nat) : Nat := 1000 * 2000 ^ l
theorem ifs {p : Prop} [Decidable p] {x y : Int} (h1 : sm x) (h2 : sm y) : sm (if p then x else y) := by split; exact h1; exact h2
def ct : Xp → Int × Int
 | .fig _ => (1, 0)
 | .reg _ => (1, 0)
 | .shr _ => (1, 0)
 | .tim _ a => ct a
 | .byr _ a => ct a
 | .whn _ _ a b => (if (ct b).1 > (ct a).1 then (ct b).1 else (ct a).1, if (ct b).2 > (ct a).2 then (ct b).2 else (ct a).2)
 | .whr _ _ a b => ((ct a).1 + (ct b).1, (ct a).2 + (ct b).2 + 1)
 | .sum a b => ((ct a).1 * (ct b).1, (ct a).2 + (ct b).2)
 | .les a b => ((ct a).1 * (ct b).1, (ct a).2 + (ct b).2)
 | .lst a b => ((ct a).1 + (ct b).1, (ct a).2 + (ct b).2 + (ct a).1 * (ct b).1)
 | .mst a b => ((ct a).1 + (ct b).1, (ct a).2 + (ct b).2 + (ct a).1 * (ct b).1)
def ctD (e : Xp) : D := .tup [.int (ct e).1, .int (ct e).2]
def Bc : Nat → Nat
 | 0 => 2
 | l + 1 => Bc l * Bc l
theorem Bc_two (l : Nat) : 2 ≤ Bc l := by
 induction l with
 | zero => exact Nat.le_refl _
 | succ l ih => exact Nat.le_trans (by omega) (Nat.mul_le_mul ih ih)
theorem Bc_mono {l k : Nat} (h : l ≤ k) : Bc l ≤ Bc k := by
 induction h with
 | refl => exact Nat.le_refl _
 | step _ ih => exact Nat.le_trans ih (Nat.le_mul_of_pos_left _ (by have := Bc_two (by assumption); omega))
theorem ct_step {A C a1 b1 a2 b2 : Int} (hA : 1 ≤ a1) (hA2 : a1 ≤ A) (hB : 1 ≤ b1) (hB2 : b1 ≤ A) (ha : 0 ≤ a2) (ha2 : a2 + 1 ≤ A * A) (hb : 0 ≤ b2) (hb2 : b2 + 1 ≤ A * A) (h2 : 2 ≤ A) (hC : C = A * A) :
  1 ≤ a1 * b1 ∧ a1 * b1 ≤ C ∧ a1 + b1 ≤ C ∧ a1 ≤ C ∧ b1 ≤ C ∧ a2 + b2 + a1 * b1 + 1 ≤ C * C ∧ a2 + b2 + 1 + 1 ≤ C * C ∧ a2 + 1 ≤ C * C ∧ b2 + 1 ≤ C * C := by
 have p1 : a1 * b1 ≤ A * A := Int.mul_le_mul hA2 hB2 (by omega) (by omega)
 have p2 : 1 * 1 ≤ a1 * b1 := Int.mul_le_mul hA hB (by omega) (by omega)
 have p3 : 2 * A ≤ A * A := Int.mul_le_mul_of_nonneg_right h2 (by omega)
 have p4 : 4 * C ≤ C * C := Int.mul_le_mul_of_nonneg_right (by omega) (by omega)
 omega
theorem ct_bound : ∀ e : Xp, 1 ≤ (ct e).1 ∧ (ct e).1 ≤ (Bc (lev e) : Int) ∧ 0 ≤ (ct e).2 ∧ (ct e).2 + 1 ≤ (Bc (lev e) : Int) * Bc (lev e) := by
 have up : ∀ {x y : Int} {l k : Nat}, l ≤ k → 1 ≤ x ∧ x ≤ (Bc l : Int) ∧ 0 ≤ y ∧ y + 1 ≤ (Bc l : Int) * Bc l → 1 ≤ x ∧ x ≤ (Bc k : Int) ∧ 0 ≤ y ∧ y + 1 ≤ (Bc k : Int) * Bc k := fun {x y l k} h z => by
  have m := Bc_mono h
  have m2 : (Bc l : Int) * Bc l ≤ (Bc k : Int) * Bc k := Int.mul_le_mul (by omega) (by omega) (by omega) (by omega)
  omega
 have two : ∀ l, (2 : Int) ≤ Bc l := fun l => by have := Bc_two l; omega
 have sq : ∀ l, ((Bc (l + 1) : Nat) : Int) = (Bc l : Int) * Bc l := fun l => by show ((Bc l * Bc l : Nat) : Int) = _; rw [Int.natCast_mul]
 intro e
 induction e with
 | fig n => exact ⟨Int.le_refl _, (by decide : (1 : Int) ≤ (Bc 0 : Int)), Int.le_refl _, (by decide : (0 : Int) + 1 ≤ (Bc 0 : Int) * Bc 0)⟩
 | reg n => exact ⟨Int.le_refl _, (by decide : (1 : Int) ≤ (Bc 0 : Int)), Int.le_refl _, (by decide : (0 : Int) + 1 ≤ (Bc 0 : Int) * Bc 0)⟩
 | shr n => exact ⟨Int.le_refl _, (by decide : (1 : Int) ≤ (Bc 0 : Int)), Int.le_refl _, (by decide : (0 : Int) + 1 ≤ (Bc 0 : Int) * Bc 0)⟩
 | tim n a ih => exact up (Nat.le_succ _) ih
 | byr n a ih => exact up (Nat.le_succ _) ih
 | whn i f a b iha ihb =>
  obtain ⟨x1, x2, x3, x4⟩ := up (Nat.le_max_left (lev a) (lev b)) iha
  obtain ⟨y1, y2, y3, y4⟩ := up (Nat.le_max_right (lev a) (lev b)) ihb
  obtain ⟨z1, z2, z3, z4, z5, z6, z7, z8, z9⟩ := ct_step x1 x2 y1 y2 x3 x4 y3 y4 (two _) (sq (max (lev a) (lev b)))
  refine ⟨?_, ?_, ?_, ?_⟩
  ·show 1 ≤ (if (ct b).1 > (ct a).1 then (ct b).1 else (ct a).1); split <;> omega
  ·show (if (ct b).1 > (ct a).1 then (ct b).1 else (ct a).1) ≤ (Bc (max (lev a) (lev b) + 1) : Int); split <;> omega
  ·show 0 ≤ (if (ct b).2 > (ct a).2 then (ct b).2 else (ct a).2); split <;> omega
  ·show (if (ct b).2 > (ct a).2 then (ct b).2 else (ct a).2) + 1 ≤ (Bc (max (lev a) (lev b) + 1) : Int) * Bc (max (lev a) (lev b) + 1); split <;> omega
 | whr i f a b iha ihb =>
  obtain ⟨x1, x2, x3, x4⟩ := up (Nat.le_max_left (lev a) (lev b)) iha
  obtain ⟨y1, y2, y3, y4⟩ := up (Nat.le_max_right (lev a) (lev b)) ihb
  obtain ⟨z1, z2, z3, z4, z5, z6, z7, z8, z9⟩ := ct_step x1 x2 y1 y2 x3 x4 y3 y4 (two _) (sq (max (lev a) (lev b)))
  exact ⟨by show 1 ≤ (ct a).1 + (ct b).1; omega, z3, by show 0 ≤ (ct a).2 + (ct b).2 + 1; omega, z7⟩
 | sum a b iha ihb =>
  obtain ⟨x1, x2, x3, x4⟩ := up (Nat.le_max_left (lev a) (lev b)) iha
  obtain ⟨y1, y2, y3, y4⟩ := up (Nat.le_max_right (lev a) (lev b)) ihb
  obtain ⟨z1, z2, z3, z4, z5, z6, z7, z8, z9⟩ := ct_step x1 x2 y1 y2 x3 x4 y3 y4 (two _) (sq (max (lev a) (lev b)))
  exact ⟨z1, z2, by show 0 ≤ (ct a).2 + (ct b).2; omega, by show (ct a).2 + (ct b).2 + 1 ≤ (Bc (max (lev a) (lev b) + 1) : Int) * Bc (max (lev a) (lev b) + 1); omega⟩
 | les a b iha ihb =>
  obtain ⟨x1, x2, x3, x4⟩ := up (Nat.le_max_left (lev a) (lev b)) iha
  obtain ⟨y1, y2, y3, y4⟩ := up (Nat.le_max_right (lev a) (lev b)) ihb
  obtain ⟨z1, z2, z3, z4, z5, z6, z7, z8, z9⟩ := ct_step x1 x2 y1 y2 x3 x4 y3 y4 (two _) (sq (max (lev a) (lev b)))
  exact ⟨z1, z2, by show 0 ≤ (ct a).2 + (ct b).2; omega, by show (ct a).2 + (ct b).2 + 1 ≤ (Bc (max (lev a) (lev b) + 1) : Int) * Bc (max (lev a) (lev b) + 1); omega⟩
 | lst a b iha ihb =>
  obtain ⟨x1, x2, x3, x4⟩ := up (Nat.le_max_left (lev a) (lev b)) iha
  obtain ⟨y1, y2, y3, y4⟩ := up (Nat.le_max_right (lev a) (lev b)) ihb
  obtain ⟨z1, z2, z3, z4, z5, z6, z7, z8, z9⟩ := ct_step x1 x2 y1 y2 x3 x4 y3 y4 (two _) (sq (max (lev a) (lev b)))
  exact ⟨by show 1 ≤ (ct a).1 + (ct b).1; omega, z3, by show 0 ≤ (ct a).2 + (ct b).2 + (ct a).1 * (ct b).1; omega, z6⟩
 | mst a b iha ihb =>
  obtain ⟨x1, x2, x3, x4⟩ := up (Nat.le_max_left (lev a) (lev b)) iha
  obtain ⟨y1, y2, y3, y4⟩ := up (Nat.le_max_right (lev a) (lev b)) ihb
  obtain ⟨z1, z2, z3, z4, z5, z6, z7, z8, z9⟩ := ct_step x1 x2 y1 y2 x3 x4 y3 y4 (two _) (sq (max (lev a) (lev b)))
  exact ⟨by show 1 ≤ (ct a).1 + (ct b).1; omega, z3, by show 0 ≤ (ct a).2 + (ct b).2 + (ct a).1 * (ct b).1; omega, z6⟩
theorem ct_sm {e : Xp} (h : lev e ≤ 10) : sm (ct e).1 ∧ sm (ct e).2 := by
 obtain ⟨h1, h2, h3, h4⟩ := ct_bound e
 have m := Bc_mono h
 have m2 : (Bc (lev e) : Int) * Bc (lev e) ≤ (Bc 10 : Int) * Bc 10 := Int.mul_le_mul (by omega) (by omega) (by omega) (by omega)
 have k : ((Bc 10 * Bc 10 : Nat) : Int) = (Bc 10 : Int) * Bc 10 := Int.natCast_mul ..
 have k2 : Bc 10 ≤ Bc 10 * Bc 10 := Nat.le_mul_of_pos_left _ (by have := Bc_two 10; omega)
 exact ⟨sm_le (Bc 10 * Bc 10) (by omega), sm_le (Bc 10 * Bc 10) (by omega)⟩
theorem CV_counted : ∀ (e : Xp) {n : Nat} {S : Sto} {Q : D → Sto → Prop}, lev e < n → lev e ≤ 10 → Q (ctD e) S → CV (cc_counted n) [exD e] S Q := by
 intro e
 induction e with
 | fig m =>
  intro n S Q hl hl2 q
  cases n with
  | zero => omega
  | succ n =>
   refine CV_plain rfl ?_
   unfold b_counted exD
   (simp_arith! [])
   repeat (first | exact RtP_same rfl q | refine ⟨rfl, ?_⟩)
 | reg i =>
  intro n S Q hl hl2 q
  cases n with
  | zero => omega
  | succ n =>
   refine CV_plain rfl ?_
   unfold b_counted exD
   (simp_arith! [])
   repeat (first | exact RtP_same rfl q | refine ⟨rfl, ?_⟩)
 | shr i =>
  intro n S Q hl hl2 q
  cases n with
  | zero => omega
  | succ n =>
   refine CV_plain rfl ?_
   unfold b_counted exD
   (simp_arith! [])
   repeat (first | exact RtP_same rfl q | refine ⟨rfl, ?_⟩)
 | tim m a ih =>
  intro n S Q hl hl2 q
  cases n with
  | zero => omega
  | succ n =>
   refine CV_plain rfl ?_
   unfold b_counted exD
   have l1 : lev a + 1 < n + 1 := hl
   have l2 : lev a + 1 ≤ 10 := hl2
   (simp_arith! [])
   exact ih (by omega) (by omega) (RtP_same rfl q)
 | byr m a ih =>
  intro n S Q hl hl2 q
  cases n with
  | zero => omega
  | succ n =>
   refine CV_plain rfl ?_
   unfold b_counted exD
   have l1 : lev a + 1 < n + 1 := hl
   have l2 : lev a + 1 ≤ 10 := hl2
   (simp_arith! [])
   exact ih (by omega) (by omega) (RtP_same rfl q)
 | whn i f a b iha ihb =>
  intro n S Q hl hl2 q
  cases n with
  | zero => omega
  | succ n =>
   refine CV_plain rfl ?_
   unfold b_counted exD
   have l1 : max (lev a) (lev b) + 1 < n + 1 := hl
   have l2 : max (lev a) (lev b) + 1 ≤ 10 := hl2
   obtain ⟨s1, s2⟩ := ct_sm (e := a) (by omega)
   obtain ⟨s3, s4⟩ := ct_sm (e := b) (by omega)
   (simp_arith! [])
   refine iha (by omega) (by omega) (ihb (by omega) (by omega) ?_)
   unfold ctD
   (simp_arith! [])
   repeat (first | exact RtP_same rfl q | refine ⟨sm_mul s1 s3, ?_⟩)
 | whr i f a b iha ihb =>
  intro n S Q hl hl2 q
  cases n with
  | zero => omega
  | succ n =>
   refine CV_plain rfl ?_
   unfold b_counted exD
   have l1 : max (lev a) (lev b) + 1 < n + 1 := hl
   have l2 : max (lev a) (lev b) + 1 ≤ 10 := hl2
   obtain ⟨s1, s2⟩ := ct_sm (e := a) (by omega)
   obtain ⟨s3, s4⟩ := ct_sm (e := b) (by omega)
   (simp_arith! [])
   refine iha (by omega) (by omega) (ihb (by omega) (by omega) ?_)
   unfold ctD
   (simp_arith! [])
   repeat (first | exact RtP_same rfl q | refine ⟨sm_mul s1 s3, ?_⟩)
 | sum a b iha ihb =>
  intro n S Q hl hl2 q
  cases n with
  | zero => omega
  | succ n =>
   refine CV_plain rfl ?_
   unfold b_counted exD
   have l1 : max (lev a) (lev b) + 1 < n + 1 := hl
   have l2 : max (lev a) (lev b) + 1 ≤ 10 := hl2
   obtain ⟨s1, s2⟩ := ct_sm (e := a) (by omega)
   obtain ⟨s3, s4⟩ := ct_sm (e := b) (by omega)
   (simp_arith! [])
   refine iha (by omega) (by omega) (ihb (by omega) (by omega) ?_)
   unfold ctD
   (simp_arith! [])
   repeat (first | exact RtP_same rfl q | refine ⟨sm_mul s1 s3, ?_⟩)
 | les a b iha ihb =>
  intro n S Q hl hl2 q
  cases n with
  | zero => omega
  | succ n =>
   refine CV_plain rfl ?_
   unfold b_counted exD
   have l1 : max (lev a) (lev b) + 1 < n + 1 := hl
   have l2 : max (lev a) (lev b) + 1 ≤ 10 := hl2
   obtain ⟨s1, s2⟩ := ct_sm (e := a) (by omega)
   obtain ⟨s3, s4⟩ := ct_sm (e := b) (by omega)
   (simp_arith! [])
   refine iha (by omega) (by omega) (ihb (by omega) (by omega) ?_)
   unfold ctD
   (simp_arith! [])
   repeat (first | exact RtP_same rfl q | refine ⟨sm_mul s1 s3, ?_⟩)
 | lst a b iha ihb =>
  intro n S Q hl hl2 q
  cases n with
  | zero => omega
  | succ n =>
   refine CV_plain rfl ?_
   unfold b_counted exD
   have l1 : max (lev a) (lev b) + 1 < n + 1 := hl
   have l2 : max (lev a) (lev b) + 1 ≤ 10 := hl2
   obtain ⟨s1, s2⟩ := ct_sm (e := a) (by omega)
   obtain ⟨s3, s4⟩ := ct_sm (e := b) (by omega)
   (simp_arith! [])
   refine iha (by omega) (by omega) (ihb (by omega) (by omega) ?_)
   unfold ctD
   (simp_arith! [])
   repeat (first | exact RtP_same rfl q | refine ⟨sm_mul s1 s3, ?_⟩)
 | mst a b iha ihb =>
  intro n S Q hl hl2 q
  cases n with
  | zero => omega
  | succ n =>
   refine CV_plain rfl ?_
   unfold b_counted exD
   have l1 : max (lev a) (lev b) + 1 < n + 1 := hl
   have l2 : max (lev a) (lev b) + 1 ≤ 10 := hl2
   obtain ⟨s1, s2⟩ := ct_sm (e := a) (by omega)
   obtain ⟨s3, s4⟩ := ct_sm (e := b) (by omega)
   (simp_arith! [])
   refine iha (by omega) (by omega) (ihb (by omega) (by omega) ?_)
   unfold ctD
   (simp_arith! [])
   repeat (first | exact RtP_same rfl q | refine ⟨sm_mul s1 s3, ?_⟩)
noncomputable def c_borders : Con := den 1 1 0 (b_borders (cc_counted 14))
theorem get_last {S : Sto} {o : Ob} : (S ++ [o])[S.length]? = some o := by simp
def Odds (many : Nat) (sh : List Int) : Prop := sh.length = many ∧ (∀ k, k ∈ sh → 0 ≤ k ∧ k ≤ 10 ^ 12 + 8) ∧ ∃ k, k ∈ sh ∧ k ≠ 0
theorem mn_le {a b : Int} : (if b < a then b else a) ≤ a ∧ (if b < a then b else a) ≤ b := by split <;> omega
theorem mx_ge {a b : Int} : a ≤ (if b > a then b else a) ∧ b ≤ (if b > a then b else a) := by split <;> omega
def In (p : Int × Int) (t x : Int) : Prop := p.1 * t ≤ x ∧ x ≤ p.2 * t
mutual
def okD : D → Bool
 | .str x => PyData.strOk (PyData.shown (.str x))
 | .tup xs => okL xs
 | .lst xs => okL xs
 | .rol xs => okL xs
 | .dic _ _ => false
 | .tag _ _ => false
 | .dref _ => false
 | _ => true
def okL : List D → Bool
 | [] => true
 | d :: ds => okD d && okL ds
end
theorem okD_ex : ∀ e : Xp, okD (exD e) = true := by
 have w1 : okD (.str "fig") = true := by decide +kernel
 have w2 : okD (.str "reg") = true := by decide +kernel
 have w3 : okD (.str "share") = true := by decide +kernel
 have w4 : okD (.str "times") = true := by decide +kernel
 have w5 : okD (.str "by") = true := by decide +kernel
 have w6 : okD (.str "when") = true := by decide +kernel
 have w7 : okD (.str "where") = true := by decide +kernel
 have w8 : okD (.str "sum") = true := by decide +kernel
 have w9 : okD (.str "less") = true := by decide +kernel
 have w10 : okD (.str "least") = true := by decide +kernel
 have w11 : okD (.str "most") = true := by decide +kernel
 have wi : ∀ {z : Int}, okD (.int z) = true := rfl
 intro e
 induction e <;> simp only [exD, okD, okL] at * <;> simp_all
section
variable {X : Cx} {e e2 : Expr} {p pos tp : Pos} {elts : List Expr} {kk : Nat}
end
section
variable {X : Cx} {e e2 : Expr} {p pos tp : Pos} {elts : List Expr} {kk : Nat} {f g : EX}
end
structure Up2 (h p : Nat) (S S2 : Sto) : Prop where
 len : S.length ≤ S2.length
 at_ : ∀ i, i < S.length → i ≠ h → i ≠ p → S2[i]? = S[i]?
structure St2 (h p n : Nat) (ds : List D) (S S2 : Sto) : Prop where
 up : Up2 h p S S2
 eq : S2.length = S.length
 hd : HD n S2 h
 bx : S2[p]? = some (.lst ds)
def fm (ns : List Int) : List Int := firstMet (fun i => ns.getD i 0) ns.length
section
variable {X : Cx} {a : Expr} {ta : TE} {p p2 q pos : Pos} {f : EX}
end
noncomputable def b_stake (k__law_of k__law_take k__law_expression : Con) : SX := sSeq (sAsg (eCall k__law_of (aCons (eVar 0) (aCons (eFz (lDisp (aCons (eC (.int 500)) (aCons (eC (.int 125)) (aCons (eC (.int 50)) (aCons (eC (.int 1)) (aCons (e2 fAdd (eC (.int 1)) (eCall k__law_take (aCons (eVar 0) (aCons (eC (.int 500)) (aNil))))) (aNil)))))))) (aNil)))) (gN 4)) (sSeq (sIf (tOf (e2 fEq (eCall k__law_take (aCons (eVar 0) (aCons (eC (.int 4)) (aNil)))) (eC (.int 0)))) (sRet (eTup (aCons (eC (.str "fig")) (aCons (eCall k__law_of (aCons (eVar 0) (aCons (eFz (lDisp (aCons (eC (.int 0)) (aCons (eC (.int 0)) (aCons (eVar 4) (aCons (e1 fNeg (eVar 4)) (aNil))))))) (aNil)))) (aNil))))) (sNil)) (sSeq (sAsg (eTup (aCons (eC (.str "most")) (aCons (eTup (aCons (eC (.str "fig")) (aCons (e1 fNeg (eVar 4)) (aNil)))) (aCons (eCall k__law_expression (aCons (eVar 0) (aCons (eVar 1) (aCons (eVar 2) (aCons (eVar 3) (aNil)))))) (aNil))))) (gN 5)) (sRet (eTup (aCons (eC (.str "least")) (aCons (eTup (aCons (eC (.str "fig")) (aCons (eVar 4) (aNil)))) (aCons (eVar 5) (aNil))))))))
noncomputable def b_deeds (k__law_take k__law_of k__law_figure k__law_deeds : Con) : SX := sSeq (sAsg (eBx (lDisp (aNil))) (gN 3)) (sSeq (sFor (iRg1 (eCall k__law_take (aCons (eVar 0) (aCons (eC (.int 4)) (aNil))))) (gN 4) (sSeq (sPar 6 7 (aCons (eCall k__law_take (aCons (eVar 0) (aCons (eC (.int 4)) (aNil)))) (aCons (eCall k__law_of (aCons (eVar 0) (aCons (eFz (lDisp (aCons (eC (.str "put")) (aCons (eC (.str "add")) (aCons (eC (.str "copy")) (aCons (eC (.str "plus")) (aCons (eC (.str "told")) (aCons (eC (.str "add")) (aNil))))))))) (aNil)))) (aNil)))) (sIf (tOf (e2 fIn (eVar 7) (eTup (aCons (eC (.str "put")) (aCons (eC (.str "add")) (aNil)))))) (sExpr (eMt hAppend (eVar 3) (aCons (eTup (aCons (eVar 7) (aCons (eVar 6) (aCons (eCall k__law_figure (aCons (eVar 0) (aNil))) (aNil))))) (aNil)))) (sIf (tOf (e2 fIn (eVar 7) (eTup (aCons (eC (.str "copy")) (aCons (eC (.str "plus")) (aNil)))))) (sExpr (eMt hAppend (eVar 3) (aCons (eTup (aCons (eVar 7) (aCons (eVar 6) (aCons (eCall k__law_take (aCons (eVar 0) (aCons (eC (.int 4)) (aNil)))) (aNil))))) (aNil)))) (sExpr (eMt hAppend (eVar 3) (aCons (eTup (aCons (eVar 7) (aCons (eVar 6) (aCons (eCall k__law_take (aCons (eVar 0) (aCons (eVar 1) (aNil)))) (aNil))))) (aNil)))))))) (sSeq (sIf (tAnd' (tOf (e2 fGt (eVar 2) (eC (.int 0)))) (tOf (e2 fEq (eCall k__law_take (aCons (eVar 0) (aCons (eC (.int 3)) (aNil)))) (eC (.int 0))))) (sSeq (sAsgL false (lLc (iRg1 (eC (.int 2))) (gN 4) (tYes') (eCall k__law_deeds (aCons (eVar 0) (aCons (eVar 1) (aCons (e2 fSub (eVar 2) (eC (.int 1))) (aNil))))) [4]) 5) (sExpr (eMt hAppend (eVar 3) (aCons (eTup (aCons (eC (.str "when")) (aCons (eCall k__law_take (aCons (eVar 0) (aCons (eC (.int 4)) (aNil)))) (aCons (eCall k__law_figure (aCons (eVar 0) (aNil))) (aCons (e2 fIx (eVar 5) (eC (.int 0))) (aCons (e2 fIx (eVar 5) (eC (.int 1))) (aNil))))))) (aNil))))) (sNil)) (sRet (eCB (fn1 gTuple) (aCons (eVar 3) (aNil))))))
noncomputable def b_doubter (k__law_take k__law_of k__law_stake k__law_deeds k__law_registers : Con) : SX := sSeq (sPar 6 7 (aCons (eCall k__law_of (aCons (eVar 0) (aCons (eFz (lDisp (aCons (eC (.str "a")) (aCons (eC (.str "doubter")) (aCons (eC (.str "sceptics")) (aCons (eC (.str "zz")) (aNil))))))) (aNil)))) (aCons (eCall k__law_take (aCons (eVar 0) (aCons (eC (.int 5)) (aNil)))) (aNil)))) (sSeq (sAsg (eCB (fn1 gTuple) (aCons (eFz (lLc (iRg1 (eVar 1)) (gN 8) (tYes') (eCall k__law_stake (aCons (eVar 0) (aCons (eVar 1) (aCons (eVar 2) (aCons (eVar 3) (aNil)))))) [8])) (aNil))) (gN 4)) (sSeq (sAsg (eCB (fn1 gTuple) (aCons (eFz (lLc (iRg1 (eVar 1)) (gN 8) (tYes') (eCall k__law_deeds (aCons (eVar 0) (aCons (eVar 1) (aCons (eC (.int 1)) (aNil))))) [8])) (aNil))) (gN 5)) (sRet (eTup (aCons (eVar 6) (aCons (eVar 7) (aCons (eCall k__law_registers (aCons (eVar 0) (aNil))) (aCons (eVar 4) (aCons (eVar 5) (aNil))))))))))
noncomputable def b_one (k__law_of k__law_take k__law_registers : Con) : SX := sSeq (sAsg (eCall k__law_of (aCons (eVar 0) (aCons (eFz (lDisp (aCons (eC (.int 1)) (aCons (eC (.int 2)) (aCons (eC (.int 10)) (aCons (eC (.int 1000)) (aCons (e2 fPow (eC (.int 10)) (eC (.int 12))) (aCons (e2 fAdd (eC (.int 1)) (eCall k__law_take (aCons (eVar 0) (aCons (e2 fPow (eC (.int 10)) (eC (.int 6))) (aNil))))) (aNil))))))))) (aNil)))) (gN 2)) (sSeq (sAsg (eCall k__law_of (aCons (eVar 0) (aCons (eFz (lDisp (aCons (eVar 2) (aCons (eC (.int 0)) (aCons (eC (.int 1)) (aCons (eC (.int 7)) (aCons (e2 fMul (eC (.int 3)) (eVar 2)) (aCons (eCall k__law_take (aCons (eVar 0) (aCons (e2 fPow (eC (.int 10)) (eC (.int 12))) (aNil)))) (aNil))))))))) (aNil)))) (gN 3)) (sSeq (sPar 5 6 (aCons (eCall k__law_of (aCons (eVar 0) (aCons (eFz (lDisp (aCons (eC (.int 0)) (aCons (eC (.int 1)) (aCons (eCall k__law_take (aCons (eVar 0) (aCons (eC (.int 99)) (aNil)))) (aNil)))))) (aNil)))) (aCons (eCall k__law_take (aCons (eVar 0) (aCons (eC (.int 40)) (aNil)))) (aNil)))) (sSeq (sAsg (eCall k__law_of (aCons (eVar 0) (aCons (eFz (lDisp (aCons (eC (.int 0)) (aCons (e1 fNeg (eC (.int 1))) (aCons (e2 fPow (eC (.int 10)) (eC (.int 9))) (aCons (e2 fSub (eCall k__law_take (aCons (eVar 0) (aCons (e2 fPow (eC (.int 10)) (eC (.int 10))) (aNil)))) (e2 fMul (eC (.int 5)) (e2 fPow (eC (.int 10)) (eC (.int 9))))) (aNil))))))) (aNil)))) (gN 4)) (sRet (eTup (aCons (eC (.str "one")) (aCons (eVar 1) (aCons (eCall k__law_registers (aCons (eVar 0) (aNil))) (aCons (eVar 2) (aCons (eVar 3) (aCons (eVar 5) (aCons (eVar 6) (aCons (eVar 4) (aNil))))))))))))))
noncomputable def cc_deeds : Nat → Con
 | 0 => fun _ _ => none
 | n + 1 => den 3 8 0 (b_deeds c_take c_of c_figure (cc_deeds n))
noncomputable def c_one : Con := den 2 7 0 (b_one c_of c_take c_registers)
inductive De where
 | put (i : Nat) (f : Int)
 | add (i : Nat) (f : Int)
 | cpy (i j : Nat)
 | pls (i j : Nat)
 | tld (i s : Nat)
 | whn (i : Nat) (f : Int) (a b : List De)
mutual
def deD : De → D
 | .put i f => .tup [.str "put", .int i, .int f]
 | .add i f => .tup [.str "add", .int i, .int f]
 | .cpy i j => .tup [.str "copy", .int i, .int j]
 | .pls i j => .tup [.str "plus", .int i, .int j]
 | .tld i s => .tup [.str "told", .int i, .int s]
 | .whn i f a b => .tup [.str "when", .int i, .int f, .tup (deL a), .tup (deL b)]
def deL : List De → List D
 | [] => []
 | d :: ds => deD d :: deL ds
end
mutual
def deOk (many : Nat) : De → Prop
 | .put i f => i < 4 ∧ -1000 ≤ f ∧ f ≤ 1000
 | .add i f => i < 4 ∧ -1000 ≤ f ∧ f ≤ 1000
 | .cpy i j => i < 4 ∧ j < 4
 | .pls i j => i < 4 ∧ j < 4
 | .tld i s => i < 4 ∧ s < many
 | .whn i f a b => i < 4 ∧ -1000 ≤ f ∧ f ≤ 1000 ∧ deOkL many a ∧ deOkL many b
def deOkL (many : Nat) : List De → Prop
 | [] => True
 | d :: ds => deOk many d ∧ deOkL many ds
end
theorem deL_app : ∀ ds es : List De, deL (ds ++ es) = deL ds ++ deL es
 | [], _ => rfl
 | d :: ds, es => by
  show deD d :: deL (ds ++ es) = deD d :: (deL ds ++ deL es)
  rw [deL_app ds es]
theorem deL_len : ∀ ds : List De, (deL ds).length = ds.length
 | [] => rfl
 | d :: ds => by show (deL ds).length + 1 = ds.length + 1; rw [deL_len ds]
theorem deOkL_app {many : Nat} : ∀ {ds es : List De}, deOkL many ds → deOkL many es → deOkL many (ds ++ es)
 | [], _, _, h => h
 | d :: ds, es, h, k => ⟨h.1, deOkL_app h.2 k⟩
structure Dat (dp c : Nat) (d : D) : Prop where
 br : bare d = true
 sh : shortB 13 d = true
 dp : dep d ≤ dp
 ct : cnt d ≤ c
 ok : okD d = true
structure DatL (dp c : Nat) (ds : List D) : Prop where
 br : bareL ds = true
 sh : shortL 13 ds = true
 dp : depL ds ≤ dp
 ct : cntL ds ≤ c
 ok : okL ds = true
theorem DatL.tup {dp c : Nat} {ds : List D} (h : DatL dp c ds) : Dat (dp + 1) c (.tup ds) := ⟨h.br, h.sh, by show depL ds + 1 ≤ dp + 1; have := h.dp; omega, h.ct, h.ok⟩
theorem DatL.nil {dp : Nat} : DatL dp 0 [] := ⟨rfl, rfl, Nat.zero_le _, Nat.le_refl _, rfl⟩
theorem DatL.cons {dp c k : Nat} {d : D} {ds : List D} (h : Dat dp c d) (g : DatL dp k ds) : DatL dp (c + 1 + k) (d :: ds) :=
 ⟨by show (bare d && bareL ds) = true; rw [h.br, g.br]; rfl, by show (shortB 13 d && shortL 13 ds) = true; rw [h.sh, g.sh]; rfl, by show max (dep d) (depL ds) ≤ dp; have := h.dp; have := g.dp; omega, by show cnt d + 1 + cntL ds ≤ c + 1 + k; have := h.ct; have := g.ct; omega, by show (okD d && okL ds) = true; rw [h.ok, g.ok]; rfl⟩
theorem Dat.mono {dp c dp' c' : Nat} {d : D} (h : Dat dp c d) (h1 : dp ≤ dp') (h2 : c ≤ c') : Dat dp' c' d := ⟨h.br, h.sh, Nat.le_trans h.dp h1, Nat.le_trans h.ct h2, h.ok⟩
theorem DatL.mono {dp c dp' c' : Nat} {d : List D} (h : DatL dp c d) (h1 : dp ≤ dp') (h2 : c ≤ c') : DatL dp' c' d := ⟨h.br, h.sh, Nat.le_trans h.dp h1, Nat.le_trans h.ct h2, h.ok⟩
theorem Dat.int {z : Int} (h : z.natAbs < 10 ^ 13) : Dat 0 1 (.int z) := ⟨rfl, decide_eq_true h, Nat.le_refl _, Nat.le_refl _, rfl⟩
theorem WdD : (("put" : Str) = ("add" : Str)) = False ∧ (("put" : Str) = ("copy" : Str)) = False ∧ (("put" : Str) = ("plus" : Str)) = False ∧ (("put" : Str) = ("told" : Str)) = False ∧ (("put" : Str) = ("when" : Str)) = False ∧ (("add" : Str) = ("put" : Str)) = False ∧ (("add" : Str) = ("copy" : Str)) = False ∧ (("add" : Str) = ("plus" : Str)) = False ∧ (("add" : Str) = ("told" : Str)) = False ∧ (("add" : Str) = ("when" : Str)) = False ∧ (("copy" : Str) = ("put" : Str)) = False ∧ (("copy" : Str) = ("add" : Str)) = False ∧ (("copy" : Str) = ("plus" : Str)) = False ∧ (("copy" : Str) = ("told" : Str)) = False ∧ (("copy" : Str) = ("when" : Str)) = False ∧ (("plus" : Str) = ("put" : Str)) = False ∧ (("plus" : Str) = ("add" : Str)) = False ∧ (("plus" : Str) = ("copy" : Str)) = False ∧ (("plus" : Str) = ("told" : Str)) = False ∧ (("plus" : Str) = ("when" : Str)) = False ∧ (("told" : Str) = ("put" : Str)) = False ∧ (("told" : Str) = ("add" : Str)) = False ∧ (("told" : Str) = ("copy" : Str)) = False ∧ (("told" : Str) = ("plus" : Str)) = False ∧ (("told" : Str) = ("when" : Str)) = False ∧ (("when" : Str) = ("put" : Str)) = False ∧ (("when" : Str) = ("add" : Str)) = False ∧ (("when" : Str) = ("copy" : Str)) = False ∧ (("when" : Str) = ("plus" : Str)) = False ∧ (("when" : Str) = ("told" : Str)) = False := by
 refine ⟨?_, ?_, ?_, ?_, ?_, ?_, ?_, ?_, ?_, ?_, ?_, ?_, ?_, ?_, ?_, ?_, ?_, ?_, ?_, ?_, ?_, ?_, ?_, ?_, ?_, ?_, ?_, ?_, ?_, ?_⟩ <;> exact eq_false (by decide +kernel)
theorem Dat.word {x : Str} (h : shortB 13 (.str x) = true) (h2 : okD (.str x) = true) : Dat 0 1 (.str x) := ⟨rfl, h, Nat.le_refl _, Nat.le_refl _, h2⟩
theorem Dat.deed {x : Str} {i j : Int} (h : shortB 13 (.str x) = true) (h2 : okD (.str x) = true) (hi : i.natAbs ≤ 1000) (hj : j.natAbs ≤ 1000) : Dat 1 6 (.tup [.str x, .int i, .int j]) :=
 (DatL.cons (Dat.word h h2) (DatL.cons (Dat.int (by omega)) (DatL.cons (Dat.int (by omega)) DatL.nil))).tup
def Bd : Nat → Nat
 | 0 => 30
 | k + 1 => 2 * Bd k + 30
def Cd : Nat → Nat
 | 0 => 30
 | k + 1 => 2 * Cd k + 30
theorem DatL.snoc {dp c : Nat} {d : D} : ∀ {ds : List D} {k : Nat}, DatL dp k ds → Dat dp c d → DatL dp (k + (c + 1)) (ds ++ [d])
 | [], k, _, h => (DatL.cons h DatL.nil).mono (Nat.le_refl _) (by omega)
 | e :: ds, k, g, h => by
  obtain ⟨g1, g2, g3, g4, g5⟩ := g
  have b1 := Bool.and_eq_true_iff.mp (show (bare e && bareL ds) = true from g1)
  have b2 := Bool.and_eq_true_iff.mp (show (shortB 13 e && shortL 13 ds) = true from g2)
  have b3 : max (dep e) (depL ds) ≤ dp := g3
  have b4 : cnt e + 1 + cntL ds ≤ k := g4
  have b5 := Bool.and_eq_true_iff.mp (show (okD e && okL ds) = true from g5)
  have ih := DatL.snoc (ds := ds) (k := cntL ds) ⟨b1.2, b2.2, by omega, Nat.le_refl _, b5.2⟩ h
  exact (DatL.cons ⟨b1.1, b2.1, by omega, Nat.le_refl _, b5.1⟩ ih).mono (Nat.le_refl _) (by omega)
theorem CV_deeds {many : Nat} (hm : 0 < many) (hm2 : many < 1000) : ∀ (k : Nat) {fuel n h : Nat} {S : Sto} {Q : D → Sto → Prop}, k < fuel → HD n S h → n + Bd k ≤ 1000000 →
  (∀ (ds : List De) S', deOkL many ds → ds.length ≤ 4 → DatL (2 * k + 1) (Cd k) (deL ds) → St h (n + Bd k) S S' → Q (.tup (deL ds)) S') → CV (cc_deeds fuel) [.ref h, .int many, .int k] S Q := by
 have w1 : shortB 13 (.str "put") = true := by decide +kernel
 have w2 : shortB 13 (.str "add") = true := by decide +kernel
 have w3 : shortB 13 (.str "copy") = true := by decide +kernel
 have w4 : shortB 13 (.str "plus") = true := by decide +kernel
 have w5 : shortB 13 (.str "told") = true := by decide +kernel
 have w6 : shortB 13 (.str "when") = true := by decide +kernel
 have o1 : okD (.str "put") = true := by decide +kernel
 have o2 : okD (.str "add") = true := by decide +kernel
 have o3 : okD (.str "copy") = true := by decide +kernel
 have o4 : okD (.str "plus") = true := by decide +kernel
 have o5 : okD (.str "told") = true := by decide +kernel
 have o6 : okD (.str "when") = true := by decide +kernel
 intro k
 induction k with
 | zero =>
  intro fuel n h S Q hf H hn q
  cases fuel with
  | zero => omega
  | succ fuel =>
   have hlt := H.lt
   refine CV_hand (h := h) (n := n + Bd (0)) hlt rfl ?_
   unfold b_deeds
   have B0 : Bd 0 = 30 := rfl
   (simp_arith! [])
   have hne : S.length ≠ h := by omega
   refine CV_take H.app (by omega) (by decide) (by decide) fun c S1 c0 c1 t1 => ?_
   have b1 := t1.box hne get_last
   (simp_arith! [])
   refine ⟨rg_ok (by omega) (by omega), ?_⟩
   refine SV_forI (fun r e' S' => ∃ (ds : List De) (y4 y6 y7 : Option D), ds.length + r.length ≤ 3 ∧ deOkL many ds ∧ DatL 1 (7 * ds.length) (deL ds) ∧ HD (n + 1 + 5 * ds.length) S' h ∧ Up h S S' ∧ S'[S.length]? = some (.lst (deL ds)) ∧ e' = [some (.ref h), some (.int many), some (.int (0 : Nat)), some (.ref S.length), y4, none, y6, y7]) ⟨[], none, none, none, by rw [len_rgD]; simp only [List.length_nil]; omega, trivial, DatL.nil, t1.hd, Up.trans .app t1.up, b1, rfl⟩ ?_ ?_
   ·rintro d r e' S' K ⟨ds, y4, y6, y7, g1, g2, g3, g4, g5, g6, rfl⟩ hK
    rw [List.length_cons] at g1
    have add : ∀ (x : De) (S2 : Sto) (y4 y6 y7 : Option D), deOk many x → Dat 1 6 (deD x) → St h (n + 1 + 5 * ds.length + 5) S' S2 → (∃ ds0, boxAt S2 S.length = some ds0 ∧ ∃ v ds', hAppend S2 ds0 [deD x] = some (v, ds') ∧ ((∀ n, n ∈ ([] : List Nat) → (S2.set S.length (.lst ds'))[n]? = S1[n]?) ∧ K [some (.ref h), some (.int many), some (.int (0 : Nat)), some (.ref S.length), y4, none, y6, y7] (S2.set S.length (.lst ds')))) := fun x S2 y4 y6 y7 hx dx t2 => by
     have b2 := t2.box hne g6
     refine ⟨_, box_of b2, ex_append.mpr ⟨sz_le (by rw [deL_len]; omega), (fun n hn => nomatch hn), hK _ _ ⟨ds ++ [x], _, _, _, ?_, deOkL_app g2 ⟨hx, trivial⟩, ?_, (t2.hd.setNe hne).mono ?_, (g5.trans t2.up).setNew (Nat.le_refl _), ?_, rfl⟩⟩⟩
     ·rw [List.length_append]; simp only [List.length_cons, List.length_nil]; omega
     ·rw [deL_app, List.length_append]
      exact (g3.snoc dx).mono (Nat.le_refl _) (by simp only [List.length_cons, List.length_nil]; omega)
     ·rw [List.length_append]; simp only [List.length_cons, List.length_nil]; omega
     ·rw [List.getElem?_set_self (List.getElem?_eq_some_iff.mp b2).1, deL_app]
      rfl
    (simp_arith! [])
    refine CV_take g4 (by omega) (by decide) (by decide) fun i S2 i0 i1 t2 => ?_
    obtain ⟨i, rfl⟩ : ∃ j : Nat, i = (j : Int) := ⟨i.toNat, by omega⟩
    refine CV_of t2.hd (by omega) (.inr (.inl rfl)) (by simp) (by simp) ?_ fun d S3 hd t3 => ?_
    ·intro d hd
     simp only [List.mem_cons, List.not_mem_nil, or_false] at hd
     rcases hd with rfl | rfl | rfl | rfl | rfl | rfl <;> rfl
    have hd2 : d = .str "put" ∨ d = .str "add" ∨ d = .str "copy" ∨ d = .str "plus" ∨ d = .str "told" := by
     simp only [List.mem_cons, List.not_mem_nil, or_false] at hd
     rcases hd with rfl | rfl | rfl | rfl | rfl | rfl <;> simp
    have t23 := t2.trans t3
    rcases hd2 with rfl | rfl | rfl | rfl | rfl
    ·(simp_arith! [WdD])
     refine CV_figure t3.hd (by omega) fun f S4 f0 f1 t4 => ?_
     exact add (.put i f) S4 _ _ _ ⟨by omega, f0, f1⟩ (Dat.deed w1 o1 (by omega) (by omega)) (t23.trans t4)
    ·(simp_arith! [WdD])
     refine CV_figure t3.hd (by omega) fun f S4 f0 f1 t4 => ?_
     exact add (.add i f) S4 _ _ _ ⟨by omega, f0, f1⟩ (Dat.deed w2 o2 (by omega) (by omega)) (t23.trans t4)
    ·(simp_arith! [WdD])
     refine CV_take t3.hd (by omega) (by decide) (by decide) fun j S4 j0 j1 t4 => ?_
     obtain ⟨j, rfl⟩ : ∃ x : Nat, j = (x : Int) := ⟨j.toNat, by omega⟩
     exact add (.cpy i j) S4 _ _ _ ⟨by omega, by omega⟩ (Dat.deed w3 o3 (by omega) (by omega)) ((t23.trans t4).mono (by omega))
    ·(simp_arith! [WdD])
     refine CV_take t3.hd (by omega) (by decide) (by decide) fun j S4 j0 j1 t4 => ?_
     obtain ⟨j, rfl⟩ : ∃ x : Nat, j = (x : Int) := ⟨j.toNat, by omega⟩
     exact add (.pls i j) S4 _ _ _ ⟨by omega, by omega⟩ (Dat.deed w4 o4 (by omega) (by omega)) ((t23.trans t4).mono (by omega))
    ·(simp_arith! [WdD])
     refine CV_take t3.hd (by omega) (by omega) (by omega) fun j S4 j0 j1 t4 => ?_
     obtain ⟨j, rfl⟩ : ∃ x : Nat, j = (x : Int) := ⟨j.toNat, by omega⟩
     exact add (.tld i j) S4 _ _ _ ⟨by omega, by omega⟩ (Dat.deed w5 o5 (by omega) (by omega)) ((t23.trans t4).mono (by omega))
   ·rintro e' S' ⟨ds, y4, y6, y7, g1, g2, g3, g4, g5, g6, rfl⟩
    have g1 : ds.length + 0 ≤ 3 := g1
    have bx := box_of g6
    (simp_arith! [])
    rw [if_neg (by decide)]
    (simp_arith! [bx])
    exact ⟨g4.mono (by omega), g5, .inl ⟨g3.br, fun S' hS => q ds S' g2 (by omega) (g3.mono (Nat.le_refl _) (by show 7 * ds.length ≤ 30; omega)) hS⟩⟩
 | succ k ih =>
  intro fuel n h S Q hf H hn q
  cases fuel with
  | zero => omega
  | succ fuel =>
   have hlt := H.lt
   refine CV_hand (h := h) (n := n + Bd (k + 1)) hlt rfl ?_
   unfold b_deeds
   have eB : Bd (k + 1) = 2 * Bd k + 30 := rfl
   have eC : Cd (k + 1) = 2 * Cd k + 30 := rfl
   (simp_arith! [])
   have hne : S.length ≠ h := by omega
   refine CV_take H.app (by omega) (by decide) (by decide) fun c S1 c0 c1 t1 => ?_
   have b1 := t1.box hne get_last
   (simp_arith! [])
   refine ⟨rg_ok (by omega) (by omega), ?_⟩
   refine SV_forI (fun r e' S' => ∃ (ds : List De) (y4 y6 y7 : Option D), ds.length + r.length ≤ 3 ∧ deOkL many ds ∧ DatL 1 (7 * ds.length) (deL ds) ∧ HD (n + 1 + 5 * ds.length) S' h ∧ Up h S S' ∧ S'[S.length]? = some (.lst (deL ds)) ∧ e' = [some (.ref h), some (.int many), some (.int (k + 1 : Nat)), some (.ref S.length), y4, none, y6, y7]) ⟨[], none, none, none, by rw [len_rgD]; simp only [List.length_nil]; omega, trivial, DatL.nil, t1.hd, Up.trans .app t1.up, b1, rfl⟩ ?_ ?_
   ·rintro d r e' S' K ⟨ds, y4, y6, y7, g1, g2, g3, g4, g5, g6, rfl⟩ hK
    rw [List.length_cons] at g1
    have add : ∀ (x : De) (S2 : Sto) (y4 y6 y7 : Option D), deOk many x → Dat 1 6 (deD x) → St h (n + 1 + 5 * ds.length + 5) S' S2 → (∃ ds0, boxAt S2 S.length = some ds0 ∧ ∃ v ds', hAppend S2 ds0 [deD x] = some (v, ds') ∧ ((∀ n, n ∈ ([] : List Nat) → (S2.set S.length (.lst ds'))[n]? = S1[n]?) ∧ K [some (.ref h), some (.int many), some (.int (k + 1 : Nat)), some (.ref S.length), y4, none, y6, y7] (S2.set S.length (.lst ds')))) := fun x S2 y4 y6 y7 hx dx t2 => by
     have b2 := t2.box hne g6
     refine ⟨_, box_of b2, ex_append.mpr ⟨sz_le (by rw [deL_len]; omega), (fun n hn => nomatch hn), hK _ _ ⟨ds ++ [x], _, _, _, ?_, deOkL_app g2 ⟨hx, trivial⟩, ?_, (t2.hd.setNe hne).mono ?_, (g5.trans t2.up).setNew (Nat.le_refl _), ?_, rfl⟩⟩⟩
     ·rw [List.length_append]; simp only [List.length_cons, List.length_nil]; omega
     ·rw [deL_app, List.length_append]
      exact (g3.snoc dx).mono (Nat.le_refl _) (by simp only [List.length_cons, List.length_nil]; omega)
     ·rw [List.length_append]; simp only [List.length_cons, List.length_nil]; omega
     ·rw [List.getElem?_set_self (List.getElem?_eq_some_iff.mp b2).1, deL_app]
      rfl
    (simp_arith! [])
    refine CV_take g4 (by omega) (by decide) (by decide) fun i S2 i0 i1 t2 => ?_
    obtain ⟨i, rfl⟩ : ∃ j : Nat, i = (j : Int) := ⟨i.toNat, by omega⟩
    refine CV_of t2.hd (by omega) (.inr (.inl rfl)) (by simp) (by simp) ?_ fun d S3 hd t3 => ?_
    ·intro d hd
     simp only [List.mem_cons, List.not_mem_nil, or_false] at hd
     rcases hd with rfl | rfl | rfl | rfl | rfl | rfl <;> rfl
    have hd2 : d = .str "put" ∨ d = .str "add" ∨ d = .str "copy" ∨ d = .str "plus" ∨ d = .str "told" := by
     simp only [List.mem_cons, List.not_mem_nil, or_false] at hd
     rcases hd with rfl | rfl | rfl | rfl | rfl | rfl <;> simp
    have t23 := t2.trans t3
    rcases hd2 with rfl | rfl | rfl | rfl | rfl
    ·(simp_arith! [WdD])
     refine CV_figure t3.hd (by omega) fun f S4 f0 f1 t4 => ?_
     exact add (.put i f) S4 _ _ _ ⟨by omega, f0, f1⟩ (Dat.deed w1 o1 (by omega) (by omega)) (t23.trans t4)
    ·(simp_arith! [WdD])
     refine CV_figure t3.hd (by omega) fun f S4 f0 f1 t4 => ?_
     exact add (.add i f) S4 _ _ _ ⟨by omega, f0, f1⟩ (Dat.deed w2 o2 (by omega) (by omega)) (t23.trans t4)
    ·(simp_arith! [WdD])
     refine CV_take t3.hd (by omega) (by decide) (by decide) fun j S4 j0 j1 t4 => ?_
     obtain ⟨j, rfl⟩ : ∃ x : Nat, j = (x : Int) := ⟨j.toNat, by omega⟩
     exact add (.cpy i j) S4 _ _ _ ⟨by omega, by omega⟩ (Dat.deed w3 o3 (by omega) (by omega)) ((t23.trans t4).mono (by omega))
    ·(simp_arith! [WdD])
     refine CV_take t3.hd (by omega) (by decide) (by decide) fun j S4 j0 j1 t4 => ?_
     obtain ⟨j, rfl⟩ : ∃ x : Nat, j = (x : Int) := ⟨j.toNat, by omega⟩
     exact add (.pls i j) S4 _ _ _ ⟨by omega, by omega⟩ (Dat.deed w4 o4 (by omega) (by omega)) ((t23.trans t4).mono (by omega))
    ·(simp_arith! [WdD])
     refine CV_take t3.hd (by omega) (by omega) (by omega) fun j S4 j0 j1 t4 => ?_
     obtain ⟨j, rfl⟩ : ∃ x : Nat, j = (x : Int) := ⟨j.toNat, by omega⟩
     exact add (.tld i j) S4 _ _ _ ⟨by omega, by omega⟩ (Dat.deed w5 o5 (by omega) (by omega)) ((t23.trans t4).mono (by omega))
   ·rintro e' S' ⟨ds, y4, y6, y7, g1, g2, g3, g4, g5, g6, rfl⟩
    have g1 : ds.length + 0 ≤ 3 := g1
    have bx := box_of g6
    have plain : RtH h (n + Bd (k + 1)) S Q (Out.rt (.tup (deL ds)) S') := ⟨g4.mono (by omega), g5, .inl ⟨g3.br, fun S' hS => q ds S' g2 (by omega) (g3.mono (by omega) (by omega)) hS⟩⟩
    (simp_arith! [])
    rw [if_pos (by omega : ((k + 1 : Nat) : Int) > 0)]
    refine CV_take g4 (by omega) (by decide) (by decide) fun a S2 a0 a1 t2 => ?_
    have b2 := t2.box hne g6
    have plain2 : RtH h (n + Bd (k + 1)) S Q (Out.rt (.tup (deL ds)) S2) := ⟨t2.hd.mono (by omega), g5.trans t2.up, .inl ⟨g3.br, fun S' hS => q ds S' g2 (by omega) (g3.mono (by omega) (by omega)) hS⟩⟩
    (simp_arith! [])
    by_cases ha : a = 0
    ·rw [if_pos ha]
     have ek : ((k + 1 : Nat) : Int) - 1 = (k : Int) := by omega
     (simp_arith! [])
     refine ⟨rg_ok (by decide) (by decide), ?_⟩
     refine (LV_all (fun j S' => St h (n + 2 + 5 * ds.length + Bd k * (2 - j)) S2 S' ∧ j ≤ 2) (fun y => ∃ es : List De, y = .tup (deL es) ∧ deOkL many es ∧ DatL (2 * k + 1) (Cd k) (deL es)) ⟨(St.refl t2.hd).mono (by omega), by rw [len_rgD]; decide⟩ ?_).lc ?_
     ·rintro d j S3 K hd ⟨t3, hj⟩ hK
      (simp_arith! [ek])
      have e2 : Bd k * (2 - j) = Bd k * (2 - (j + 1)) + Bd k := by
       rw [← Nat.mul_succ]
       congr 1
       omega
      have le2 : Bd k * (2 - j) ≤ Bd k * 2 := Nat.mul_le_mul_left _ (by omega)
      exact ih (by omega) t3.hd (by omega) fun es S4 h1 h2 h3 t4 => hK _ _ (fun n hn => nomatch hn) ⟨es, rfl, h1, h3⟩ ⟨(t3.trans t4).mono (by omega), by omega⟩
     ·rintro out S3 ⟨hlo, hpo, t3, _⟩
      have hlo : out.length = 2 := hlo
      match out, hlo with
      | [x1, x2], _ =>
       obtain ⟨ea, rfl, ka, da⟩ := hpo x1 (by simp)
       obtain ⟨eb, rfl, kb, db⟩ := hpo x2 (by simp)
       have t3 := t3.mono (show _ ≤ n + 2 + 5 * ds.length + Bd k * 2 by simp)
       (simp_arith! [])
       refine CV_take t3.hd (by omega) (by decide) (by decide) fun i S4 i0 i1 t4 => ?_
       obtain ⟨i, rfl⟩ : ∃ j : Nat, i = (j : Int) := ⟨i.toNat, by omega⟩
       refine CV_figure t4.hd (by omega) fun f S5 f0 f1 t5 => ?_
       have b5 := t5.box hne (t4.box hne (t3.box hne b2))
       have l5 := (List.getElem?_eq_some_iff.mp b5).1
       have t25 := t2.trans (t3.trans (t4.trans t5))
       (simp_arith! [])
       refine ⟨_, box_of b5, ex_append.mpr ⟨sz_le (by rw [deL_len]; omega), ?_⟩⟩
       (simp_arith! [box_set l5])
       have dw : Dat (2 * (k + 1) + 1) (2 * Cd k + 8) (deD (.whn i f ea eb)) :=
        ((DatL.cons ((Dat.word w6 o6).mono (Nat.zero_le _) (Nat.le_refl _)) (DatL.cons ((Dat.int (z := (i : Int)) (by omega)).mono (Nat.zero_le _) (Nat.le_refl _)) (DatL.cons ((Dat.int (z := f) (by omega)).mono (Nat.zero_le _) (Nat.le_refl _)) (DatL.cons da.tup (DatL.cons db.tup DatL.nil))))).tup).mono (by omega) (by omega)
       have all : DatL (2 * (k + 1) + 1) (Cd (k + 1)) (deL (ds ++ [.whn i f ea eb])) := by
        rw [deL_app]
        exact ((g3.mono (by omega) (Nat.le_refl _)).snoc dw).mono (Nat.le_refl _) (by omega)
       have eq2 : deL ds ++ [.tup [.str "when", .int (i : Int), .int f, .tup (deL ea), .tup (deL eb)]] = deL (ds ++ [.whn i f ea eb]) := by rw [deL_app]; rfl
       rw [eq2]
       exact ⟨(t25.hd.setNe hne).mono (by omega), (g5.trans t25.up).setNew (Nat.le_refl _), .inl ⟨all.br, fun S' hS => q _ S' (deOkL_app g2 ⟨⟨by omega, f0, f1, ka, kb⟩, trivial⟩) (by rw [List.length_append]; simp only [List.length_cons, List.length_nil]; omega) all hS⟩⟩
    ·rw [if_neg ha]
     (simp_arith! [box_of b2])
     exact plain2
structure Dbt where
 name : Str
 scale : Nat
 rs : List Int
 stakes : List Xp
 deeds : List (List De)
def dsD (ds : List De) : D := .tup (deL ds)
def dbD (d : Dbt) : D := .tup [.str d.name, .int d.scale, .tup (d.rs.map D.int), .tup (d.stakes.map exD), .tup (d.deeds.map dsD)]
structure DbOk (many l : Nat) (d : Dbt) : Prop where
 nm : d.name = "a" ∨ d.name = "doubter" ∨ d.name = "sceptics" ∨ d.name = "zz"
 sc : d.scale < 5
 rl : d.rs.length = 4
 rb : ∀ r, r ∈ d.rs → -1000 ≤ r ∧ r ≤ 1000
 sl : d.stakes.length = many
 st : ∀ e, e ∈ d.stakes → exOk many e ∧ lev e ≤ l + 2 ∧ -500 ≤ (sp e).1 ∧ (sp e).2 ≤ 500
 dl : d.deeds.length = many
 de : ∀ x, x ∈ d.deeds → deOkL many x ∧ x.length ≤ 4 ∧ DatL 3 90 (deL x)
theorem DatL.all {dp c : Nat} : ∀ {ds : List D}, (∀ d, d ∈ ds → Dat dp c d) → DatL dp ((c + 1) * ds.length) ds
 | [], _ => DatL.nil
 | d :: ds, h => (DatL.cons (h d (List.mem_cons_self ..)) (DatL.all fun e he => h e (List.mem_cons_of_mem _ he))).mono (Nat.le_refl _) (by rw [List.length_cons, Nat.mul_succ]; omega)
theorem Dat.ex {many : Nat} (hm : many ≤ 1000) {e : Xp} (h : exOk many e) : Dat (lev e + 1) (Cn (lev e)) (exD e) := by
 obtain ⟨h1, h2, h3⟩ := ex_data hm e h
 exact ⟨exD_bare e, h1, by omega, h3, okD_ex e⟩
theorem Dat.ints {ns : List Int} (h : ∀ n, n ∈ ns → n.natAbs < 10 ^ 13) : Dat 1 (2 * ns.length) (.tup (ns.map D.int)) :=
 (DatL.all (dp := 0) (c := 1) fun d hd => by
  obtain ⟨n, hn, rfl⟩ := List.mem_map.mp hd
  exact Dat.int (h n hn)).tup.mono (Nat.le_refl _) (by rw [List.length_map]; exact Nat.le_refl _)
theorem DbOk.dat {many l : Nat} {d : Dbt} (h : DbOk many l d) (hm : many ≤ 3) : Dat (l + 6) (3 * Cn (l + 2) + 300) (dbD d) := by
 have nm : shortB 13 (.str d.name) = true ∧ okD (.str d.name) = true := by
  rcases h.nm with e | e | e | e <;> rw [e] <;> exact ⟨by decide +kernel, by decide +kernel⟩
 have s1 : Dat (l + 4) ((Cn (l + 2) + 1) * 3) (.tup (d.stakes.map exD)) := by
  refine (DatL.all (dp := l + 3) (c := Cn (l + 2)) fun x hx => ?_).tup.mono (Nat.le_refl _) (by rw [List.length_map, h.sl]; exact Nat.mul_le_mul_left _ hm)
  obtain ⟨e, he, rfl⟩ := List.mem_map.mp hx
  obtain ⟨h1, h2, _⟩ := h.st e he
  exact (Dat.ex (by omega) h1).mono (by omega) (Cn_mono h2)
 have s2 : Dat 5 (91 * 3) (.tup (d.deeds.map dsD)) := by
  refine (DatL.all (dp := 4) (c := 90) fun x hx => ?_).tup.mono (Nat.le_refl _) (by rw [List.length_map, h.dl]; exact Nat.mul_le_mul_left _ hm)
  obtain ⟨e, he, rfl⟩ := List.mem_map.mp hx
  exact (h.de e he).2.2.tup
 have s3 : Dat 1 8 (.tup (d.rs.map D.int)) := (Dat.ints fun n hn => by have := h.rb n hn; omega).mono (Nat.le_refl _) (by rw [h.rl]; exact Nat.le_refl _)
 have s4 := h.sc
 exact ((DatL.cons ((Dat.word nm.1 nm.2).mono (Nat.zero_le _) (Nat.le_refl _)) (DatL.cons ((Dat.int (z := (d.scale : Int)) (by omega)).mono (Nat.zero_le _) (Nat.le_refl _)) (DatL.cons (s3.mono (by omega) (Nat.le_refl _)) (DatL.cons (s1.mono (show l + 4 ≤ l + 5 by omega) (Nat.le_refl _)) (DatL.cons (s2.mono (by omega) (Nat.le_refl _)) DatL.nil))))).tup).mono (Nat.le_refl _) (by omega)
theorem exs_of' {P : Xp → Prop} : ∀ out : List D, (∀ y, y ∈ out → ∃ e, y = exD e ∧ P e) → ∃ es : List Xp, out = es.map exD ∧ ∀ e, e ∈ es → P e
 | [], _ => ⟨[], rfl, fun p hp => nomatch hp⟩
 | y :: out, hp => by
  obtain ⟨p, rfl, hp1⟩ := hp y (List.mem_cons_self ..)
  obtain ⟨es, rfl, hr⟩ := exs_of' out fun y hy => hp y (List.mem_cons_of_mem _ hy)
  exact ⟨p :: es, rfl, fun p' hp' => by rcases List.mem_cons.mp hp' with rfl | z; exact hp1; exact hr p' z⟩
theorem des_of' {P : List De → Prop} : ∀ out : List D, (∀ y, y ∈ out → ∃ e, y = dsD e ∧ P e) → ∃ es : List (List De), out = es.map dsD ∧ ∀ e, e ∈ es → P e
 | [], _ => ⟨[], rfl, fun p hp => nomatch hp⟩
 | y :: out, hp => by
  obtain ⟨p, rfl, hp1⟩ := hp y (List.mem_cons_self ..)
  obtain ⟨es, rfl, hr⟩ := des_of' out fun y hy => hp y (List.mem_cons_of_mem _ hy)
  exact ⟨p :: es, rfl, fun p' hp' => by rcases List.mem_cons.mp hp' with rfl | z; exact hp1; exact hr p' z⟩
def Bb (l : Nat) : Nat := 2 + 3 * (5 + Be l) + 3 * 90 + 12
structure One where
 rs : List Int
 weight : Int
 purse : Int
 owed : Int
 days : Int
 got : Int
def onD (d : D) (o : One) : D := .tup [.str "one", d, .tup (o.rs.map D.int), .int o.weight, .int o.purse, .int o.owed, .int o.days, .int o.got]
structure OnOk (o : One) : Prop where
 rl : o.rs.length = 4
 rb : ∀ r, r ∈ o.rs → -1000 ≤ r ∧ r ≤ 1000
 we : 1 ≤ o.weight ∧ o.weight ≤ 10 ^ 12
 pu : 0 ≤ o.purse ∧ o.purse ≤ 3 * 10 ^ 12
 ow : 0 ≤ o.owed ∧ o.owed ≤ 98
 da : 0 ≤ o.days ∧ o.days < 40
 go : -5000000000 ≤ o.got ∧ o.got ≤ 10 ^ 10
theorem CV_one {S : Sto} {h n : Nat} {d : D} {Q : D → Sto → Prop} (hd : bare d = true) (H : HD n S h) (hn : n + 21 ≤ 1000000) (q : ∀ (o : One) S', OnOk o → St h (n + 21) S S' → Q (onD d o) S') : CV c_one [.ref h, d] S Q := by
 have hlt := H.lt
 refine CV_hand (h := h) (n := n + 21) hlt rfl ?_
 unfold b_one
 have p12 : (10 : Int) ^ Int.toNat 12 = 10 ^ 12 := rfl
 have p6 : (10 : Int) ^ Int.toNat 6 = 10 ^ 6 := rfl
 have p9 : (10 : Int) ^ Int.toNat 9 = 10 ^ 9 := rfl
 have p10 : (10 : Int) ^ Int.toNat 10 = 10 ^ 10 := rfl
 have k12 : powOk 10 12 = true := by decide +kernel
 have k6 : powOk 10 6 = true := by decide +kernel
 have k9 : powOk 10 9 = true := by decide +kernel
 have k10 : powOk 10 10 = true := by decide +kernel
 (simp_arith! [p12, p6, p9, p10, k12, k6, k9, k10])
 refine CV_take H (by omega) (by decide) (by decide) fun a S1 a0 a1 t1 => ?_
 (simp_arith! [])
 refine CV_of t1.hd (by omega) (.inr (.inl rfl)) (by simp) (by simp) ?_ fun x S2 hx t2 => ?_
 ·intro d hd
  simp only [List.mem_cons, List.not_mem_nil, or_false] at hd
  rcases hd with rfl | rfl | rfl | rfl | rfl | rfl <;> rfl
 obtain ⟨w, rfl, w0, w1⟩ : ∃ w : Int, x = .int w ∧ 1 ≤ w ∧ w ≤ 10 ^ 12 := by
  simp only [List.mem_cons, List.not_mem_nil, or_false] at hx
  rcases hx with rfl | rfl | rfl | rfl | rfl | rfl <;> exact ⟨_, rfl, by omega, by omega⟩
 clear hx
 (simp_arith! [p12, p6, p9, p10, k12, k6, k9, k10])
 refine ⟨sm_mul (sm_k (by decide)) (sm_k (by omega)), ?_⟩
 refine CV_take t2.hd (by omega) (by decide) (by decide) fun b S3 b0 b1 t3 => ?_
 (simp_arith! [])
 refine CV_of t3.hd (by omega) (.inr (.inl rfl)) (by simp) (by simp) ?_ fun x S4 hx t4 => ?_
 ·intro d hd
  simp only [List.mem_cons, List.not_mem_nil, or_false] at hd
  rcases hd with rfl | rfl | rfl | rfl | rfl | rfl <;> rfl
 obtain ⟨p, rfl, p0, p1⟩ : ∃ p : Int, x = .int p ∧ 0 ≤ p ∧ p ≤ 3 * 10 ^ 12 := by
  simp only [List.mem_cons, List.not_mem_nil, or_false] at hx
  rcases hx with rfl | rfl | rfl | rfl | rfl | rfl <;> exact ⟨_, rfl, by omega, by omega⟩
 clear hx
 (simp_arith! [])
 refine CV_take t4.hd (by omega) (by decide) (by decide) fun c S5 c0 c1 t5 => ?_
 (simp_arith! [])
 refine CV_of t5.hd (by omega) (.inr (.inl rfl)) (by simp) (by simp) ?_ fun x S6 hx t6 => ?_
 ·intro d hd
  simp only [List.mem_cons, List.not_mem_nil, or_false] at hd
  rcases hd with rfl | rfl | rfl <;> rfl
 obtain ⟨o, rfl, o0, o1⟩ : ∃ o : Int, x = .int o ∧ 0 ≤ o ∧ o ≤ 98 := by
  simp only [List.mem_cons, List.not_mem_nil, or_false] at hx
  rcases hx with rfl | rfl | rfl <;> exact ⟨_, rfl, by omega, by omega⟩
 clear hx
 refine CV_take t6.hd (by omega) (by decide) (by decide) fun y S7 y0 y1 t7 => ?_
 (simp_arith! [p12, p6, p9, p10, k12, k6, k9, k10])
 refine CV_take t7.hd (by omega) (by decide) (by decide) fun e S8 e0 e1 t8 => ?_
 (simp_arith! [p12, p6, p9, p10, k12, k6, k9, k10])
 refine ⟨sm_mul (sm_k (by decide)) (sm_k (by decide)), ?_⟩
 refine CV_of t8.hd (by omega) (.inr (.inl rfl)) (by simp) (by simp) ?_ fun x S9 hx t9 => ?_
 ·intro d hd
  simp only [List.mem_cons, List.not_mem_nil, or_false] at hd
  rcases hd with rfl | rfl | rfl | rfl <;> rfl
 obtain ⟨g, rfl, g0, g1⟩ : ∃ g : Int, x = .int g ∧ -5000000000 ≤ g ∧ g ≤ 10 ^ 10 := by
  simp only [List.mem_cons, List.not_mem_nil, or_false] at hx
  rcases hx with rfl | rfl | rfl | rfl <;> exact ⟨_, rfl, by omega, by omega⟩
 clear hx
 (simp_arith! [])
 refine CV_registers t9.hd (by omega) fun rs S10 rl rb t10 => ?_
 have t := t1.trans (t2.trans (t3.trans (t4.trans (t5.trans (t6.trans (t7.trans (t8.trans (t9.trans t10))))))))
 (simp_arith! [])
 have br : bare (onD d ⟨rs, w, p, o, y, g⟩) = true := by
  show (true && (bare d && (bareL (rs.map D.int) && true))) = true
  rw [hd, bareL_ints]; rfl
 refine ⟨rfl, ?_⟩
 exact ⟨t.hd.mono (by omega), t.up, .inl ⟨br, fun S' hS => q ⟨rs, w, p, o, y, g⟩ S' ⟨rl, rb, ⟨w0, w1⟩, ⟨p0, p1⟩, ⟨o0, o1⟩, ⟨y0, y1⟩, ⟨g0, g1⟩⟩ hS⟩⟩
open Classical in
noncomputable def lcL2 (g : GX) (f1 : EX) (g1 : GX) (te : EX) (vs1 gs : List Nat) (S0 : Sto) (e0 : En) : List D → Sto → Option (List D × Sto)
 | [], S => some ([], S)
 | d :: ds, S => (g d e0 S).bind fun p => (f1 p.1 p.2).bind fun q => match q.1 with
   | .tup ds1 => (lcL g1 tYes' te [] [] (wipeE p.1 vs1) ds1 q.2).bind fun u => if (∀ n, n ∈ gs → u.2[n]? = S0[n]?) then (lcL2 g f1 g1 te vs1 gs S0 e0 ds u.2).map fun z => (u.1 ++ z.1, z.2) else none
   | _ => none
noncomputable def lLc2 (it : IX) (g : GX) (f1 : EX) (g1 : GX) (te : EX) (vs vs1 : List Nat) : LX := fun e S => (it e S).bind fun p => (lcL2 g f1 g1 te vs1 p.2.1 p.2.2 (wipeE e vs) p.1 p.2.2).bind fun q => if szOk q.1.length = true then some q else none
section
variable {K : PySem.W.Frag} {m m' : M} {Z : List Addr} {P : Addr}
theorem M.hide_none : (m.hide P).H P = none := by show (if P = P then none else m.H P) = none; rw [if_pos rfl]
theorem unhide {o : HO} (s : Sim ⟨K, Z⟩ (m.hide P)) (hp : m.H P = some o) {ds : List D} {vs : List V} (h : RepL ⟨K, Z⟩ (m.hide P) ds vs) : RepL ⟨K, P :: Z⟩ m ds vs := by
 have e : (⟨(m.hide P).r, (m.hide P).S, upd (m.hide P).H P o⟩ : M) = m := by
  rw [M.hide_upd hp]
  rfl
 have q : RepL ⟨K, P :: Z⟩ ⟨(m.hide P).r, (m.hide P).S, upd (m.hide P).H P o⟩ ds vs := RepL.mono (m := m.hide P) s.bok (.laid M.hide_none) ds vs (RepL.widen (fun z hz => by
  rcases List.mem_cons.mp hz with e | e
  ·exact .inr (by rw [e]; exact M.hide_none)
  ·exact .inl e) ds vs h)
 rw [e] at q
 exact q
theorem unhide1 {o : HO} (s : Sim ⟨K, Z⟩ (m.hide P)) (hp : m.H P = some o) {d : D} {v : V} (h : Rep ⟨K, Z⟩ (m.hide P) d v) : Rep ⟨K, P :: Z⟩ m d v := by
 obtain ⟨x, e1, h1⟩ := (unhide s hp (RepL.one h)).one_inv
 cases e1
 exact h1
theorem ER.hide {xs : List V} {env : En} {σ : L2.St} (hp : m.H P = some (.lst xs)) (h : ER ⟨K, P :: Z⟩ m env σ) : ER ⟨K, Z⟩ (m.hide P) env σ := ⟨h.1, fun i d e => by
 obtain ⟨x, h1, h2⟩ := h.2 i d e
 exact ⟨x, h1, Rep.hide hp d x h2⟩⟩
theorem ER.unhide {o : HO} {env : En} {σ : L2.St} (s : Sim ⟨K, Z⟩ (m.hide P)) (hp : m.H P = some o) (h : ER ⟨K, Z⟩ (m.hide P) env σ) : ER ⟨K, P :: Z⟩ m env σ := ⟨h.1, fun i d e => by
 obtain ⟨x, h1, h2⟩ := h.2 i d e
 exact ⟨x, h1, unhide1 s hp h2⟩⟩
theorem sqT_hide {a : Addr} {us xs : List V} (hp : m.H P = some (.lst xs)) (h : SqT K m.H a us) : SqT K (m.hide P).H a us := by
 rcases h with h | h
 ·have hne : a ≠ P := fun z => by
   subst z
   rcases h with h | ⟨o, h⟩ <;> (rw [hp] at h; cases h)
  refine .inl ?_
  rcases h with h | ⟨o, h⟩
  ·exact .inl (by rw [M.hide_ne hne]; exact h)
  ·exact .inr ⟨o, by rw [M.hide_ne hne]; exact h⟩
 ·exact .inr h
theorem sqT_unhide {a : Addr} {us : List V} (h : SqT K (m.hide P).H a us) : SqT K m.H a us := by
 rcases h with h | h
 ·have hne : a ≠ P := fun z => by
   subst z
   rcases h with h | ⟨o, h⟩ <;> (rw [M.hide_none] at h; cases h)
  refine .inl ?_
  rcases h with h | ⟨o, h⟩
  ·exact .inl (by rw [M.hide_ne hne] at h; exact h)
  ·exact .inr ⟨o, by rw [M.hide_ne hne] at h; exact h⟩
 ·exact .inr h
theorem Tr.hide {xs ys : List V} (hz : P ∉ Z) (hp : m.H P = some (.lst xs)) (hp' : m'.H P = some (.lst ys)) (nb : ¬ Bx m P) (t : Tr ⟨K, P :: Z⟩ m m') : Tr ⟨K, Z⟩ (m.hide P) (m'.hide P) := by
 refine ⟨⟨t.ex.le, t.ex.ag, fun a o h n w => ?_, fun a o h n => ?_, fun i h1 h2 => ?_, t.ex.kd⟩, ?_⟩
 ·have hne : a ≠ P := fun z => by subst z; rw [M.hide_none] at h; cases h
  rw [M.hide_ne hne] at h ⊢
  exact t.ex.pr a o h n w
 ·have hne : a ≠ P := fun z => by subst z; rw [M.hide_none] at h; cases h
  rw [M.hide_ne hne] at h ⊢
  exact t.ex.th a o h n
 ·have e := t.ex.nw i h1 h2
  by_cases hc : m'.r i = P
  ·show (m.hide P).H (m'.r i) = none
   rw [hc]
   exact M.hide_none
  ·show (m.hide P).H (m'.r i) = none
   rw [M.hide_ne hc]
   exact e
 ·rcases t.si.hide hp' with z | z
  ·exact z
  ·exact absurd z hz
theorem over_hide {ys : List V} : (m.over P ys).hide P = m.hide P := by
 have e : (fun a => if a = P then none else upd m.H P (.lst ys) a) = fun a => if a = P then none else m.H a := by
  funext a
  by_cases h : a = P
  ·rw [if_pos h, if_pos h]
  ·rw [if_neg h, if_neg h, upd_ne h]
 show (⟨m.r, m.S, fun a => if a = P then none else upd m.H P (.lst ys) a⟩ : M) = ⟨m.r, m.S, fun a => if a = P then none else m.H a⟩
 rw [e]
theorem Ex.on {m0 m6 : M} {c : C} (s' : BoxOk m') (x' : Ex m0 m') (t : Tr c m' m6) : Ex m0 m6 := by
 exact x'.then s' t
end
section
variable {X : Cx} {K : PySem.W.Frag}
theorem tl_lc2 {it : IX} {g : GX} {f1 : EX} {g1 : GX} {te : EX} {vs ws vs1 ws1 : List Nat} (hsub : ∀ i, i ∈ ws → i ∈ vs) (hsub1 : ∀ i, i ∈ ws1 → i ∈ vs1) {σ : L2.St} {H : Hp} {Q : VK} (h : tL K (lLc2 it g f1 g1 te vs vs1) σ H Q) :
  tLc2 (tI K it) (tG K ws g) (tT K tYes') (iTup K (tE K f1)) (tG K ws1 g1) (tT K tYes') (tE K te) vs vs1 σ H Q := by
 obtain ⟨Z, m, env, v, S', e, s, er, hf, q⟩ := h
 unfold lLc2 at hf
 obtain ⟨⟨ds, gs, S0⟩, h1, h2⟩ := Option.bind_eq_some_iff.mp hf
 obtain ⟨⟨out, S1⟩, h3, h4⟩ := Option.bind_eq_some_iff.mp h2
 obtain ⟨hz, h4⟩ := ite_some h4
 have h4e : out = v ∧ S1 = S' := by simpa using h4
 obtain ⟨rfl, rfl⟩ := h4e
 clear h4
 refine ⟨Z, m, env, ds, gs, S0, e, s, er, h1, fun m0 J q0 t0 ok => ?_⟩
 subst q0
 intro P hP
 have hPZ : P ∉ Z := (t0.si.fresh hP).2
 have hwz : ∀ z, z ∈ P :: Z → z ∈ Z ∨ m0.H z = none := fun z hz => by
  rcases List.mem_cons.mp hz with e | e
  ·exact .inr (by rw [e]; exact hP)
  ·exact .inl e
 refine ⟨fun i k H' => ∃ (m' : M) (acc : List D) (xs : List V) (r : List D), m'.H = H' ∧ Ex m0 m' ∧ Sim ⟨K, P :: Z⟩ m' ∧ (∀ n, n ∈ gs → m'.S[n]? = m0.S[n]?) ∧ m'.H P = some (.lst xs) ∧ RepL ⟨K, P :: Z⟩ m' acc xs ∧ k = ds.length - i ∧
   lcL2 g f1 g1 te vs1 gs m0.S (wipeE env vs) (ds.drop i) m'.S = some (r, S1) ∧ out = acc ++ r,
  ⟨ds.length, ⟨m0.r, m0.S, upd m0.H P (.lst [])⟩, [], [], out, rfl, .laid hP, Sim.apart t0.si hP, fun _ _ => rfl, upd_same, rfl, rfl, h3, rfl⟩, ?_⟩
 rintro i k H' ⟨m', acc, xs, r, rfl, x', s', gd, hx, ra, rfl, hk, ho⟩
 have nP : ¬ Bx m' P := (s'.zs P (List.mem_cons_self ..)).2
 cases hd : ds.drop i with
 | nil =>
  rw [hd] at hk
  cases hk
  have hl : ds.length ≤ i := List.drop_eq_nil_iff.mp hd
  refine .inl ⟨(ok.go (P :: Z) m' (fun _ h => List.mem_cons_of_mem _ h) hwz x' s' gd i).1 hl, ?_⟩
  have hs : Sim ⟨K, Z⟩ (m'.hide P) := by
   rcases s'.hide hx with z | z
   ·exact z
   ·exact absurd z hPZ
  have tt' : Tr ⟨K, Z⟩ m0 (m'.hide P) := ⟨x'.hideR hP hx trivial, hs⟩
  have qq := q (m'.hide P) P xs rfl (t0.trans s tt') (by rw [ho, List.append_nil]; exact RepL.hide hx acc xs ra) M.hide_none
  rw [M.hide_upd hx] at qq
  exact qq
 | cons d rs =>
  rw [hd] at hk
  obtain ⟨hd1, hd2⟩ := drop_cons hd
  have hil : i < ds.length := (List.getElem?_eq_some_iff.mp hd1).1
  obtain ⟨go, yl⟩ := (ok.go (P :: Z) m' (fun _ h => List.mem_cons_of_mem _ h) hwz x' s' gd i).2 d hd1
  refine .inr ⟨go, fun H2 => ∃ (m2 : M) (acc : List D) (xs : List V) (r : List D), m2.H = H2 ∧ Ex m0 m2 ∧ Sim ⟨K, P :: Z⟩ m2 ∧ (∀ n, n ∈ gs → m2.S[n]? = m0.S[n]?) ∧ m2.H P = some (.lst xs) ∧ RepL ⟨K, P :: Z⟩ m2 acc xs ∧
   lcL2 g f1 g1 te vs1 gs m0.S (wipeE env vs) rs m2.S = some (r, S1) ∧ out = acc ++ r, fun H2 ⟨m2, acc2, xs2, r2, a1, a2, a3, a4, a5, a6, a7, a8⟩ => ⟨ds.length - (i + 1), by omega, m2, acc2, xs2, r2, a1, a2, a3, a4, a5, a6, rfl, by rw [hd2]; exact a7, a8⟩, ?_⟩
  intro x H3 hy
  obtain ⟨m3, rfl, e3, t3, r3⟩ := yl x H3 hy
  obtain ⟨⟨e4, S4⟩, h4, h5⟩ := Option.bind_eq_some_iff.mp (show ((g d (wipeE env vs) m'.S).bind _) = some (r, S1) from hk)
  obtain ⟨⟨dt, S5⟩, h6, h7⟩ := Option.bind_eq_some_iff.mp h5
  cases dt <;> first | exact no2 h7 | skip
  rename_i ds1
  obtain ⟨⟨u, S6⟩, h8, h9⟩ := Option.bind_eq_some_iff.mp (show ((lcL g1 tYes' te [] [] (wipeE e4 vs1) ds1 S5).bind _) = some (r, S1) from h7)
  simp only at h9
  split at h9
  case isFalse => cases h9
  rename_i hgs
  obtain ⟨⟨r', S7⟩, h10, h11⟩ := Option.map_eq_some_iff.mp h9
  simp only [Prod.mk.injEq] at h11
  obtain ⟨hr', hS7⟩ := h11
  have er0 : ER ⟨K, P :: Z⟩ m' (wipeE env vs) (wipe σ vs) := (((er.tr s t0).widen hwz).wipe vs).ex t0.si.bok x'
  refine ⟨P :: Z, m3, wipeE env vs, d, e4, S4, rfl, t3.si, er0.tr s' t3, r3, by rw [e3]; exact h4, fun m4 σ4 q4 t4 er4 ag4 => ⟨wipe_same ag4.1 ag4.2 hsub, ?_⟩⟩
  refine ⟨P :: Z, m4, e4, true, m4.S, rfl, t4.si, er4, rfl, fun m5 q5 t5 => ?_⟩
  show (if (true : Bool) = true then _ else _)
  rw [if_pos rfl]
  refine ⟨P :: Z, m5, e4, .tup ds1, S5, rfl, t5.si, er4.tr t4.si t5, by rw [q5, q4]; exact h6, fun m6 vx q6 t6 rx => ?_⟩
  obtain ⟨a, us, rfl, sq, rl⟩ := rx
  refine ⟨a, rfl, ⟨us, sq⟩, ?_⟩
  have t36 : Tr ⟨K, P :: Z⟩ m' m6 := (t3.trans s' (t4.trans t3.si t5)).trans s' t6
  have hx6 : m6.H P = some (.lst xs) := t36.ex.pr _ _ hx nP trivial
  have nP6 : ¬ Bx m6 P := (t36.si.zs P (List.mem_cons_self ..)).2
  have hs6 : Sim ⟨K, Z⟩ (m6.hide P) := by
   rcases t36.si.hide hx6 with z | z
   ·exact z
   ·exact absurd z hPZ
  have er6 : ER ⟨K, Z⟩ (m6.hide P) (wipeE e4 vs1) (wipe σ4 vs1) := (((er4.tr t4.si t5).tr t5.si t6).hide hx6).wipe vs1
  have rl6 : RepL ⟨K, Z⟩ (m6.hide P) ds1 us := RepL.hide hx6 ds1 us rl
  have sq6 := sqT_hide hx6 sq
  refine ⟨fun j k H => ∃ (m7 : M) (acc1 : List D) (xs1 : List V) (r1 : List D), m7.H = H ∧ Ex m0 m7 ∧ Sim ⟨K, P :: Z⟩ m7 ∧ Tr ⟨K, Z⟩ (m6.hide P) (m7.hide P) ∧ m7.H P = some (.lst xs1) ∧ RepL ⟨K, P :: Z⟩ m7 acc1 xs1 ∧ k = ds1.length - j ∧
   lcL g1 tYes' te [] [] (wipeE e4 vs1) (ds1.drop j) m7.S = some (r1, S6) ∧ acc ++ u = acc1 ++ r1,
   ⟨ds1.length, m6, acc, xs, u, rfl, x'.on s'.bok t36, t36.si, .refl hs6, hx6, t36.repL s' ra, rfl, by rw [q6]; exact h8, rfl⟩, ?_⟩
  rintro j k H7 ⟨m7, acc1, xs1, r1, rfl, y1, y2, y3, y4, y5, rfl, y7, y8⟩
  have nP7 : ¬ Bx m7 P := (y2.zs P (List.mem_cons_self ..)).2
  have sq7 : SqT K m7.H a us := sqT_unhide (y3.ex.sqT hs6.bok sq6)
  cases he : ds1.drop j with
  | nil =>
   rw [he] at y7
   cases y7
   have hl : ds1.length ≤ j := List.drop_eq_nil_iff.mp he
   refine .inl ⟨⟨us, sq7, by rw [rl.len]; exact hl⟩, m7, acc1, xs1, r', rfl, y1, y2, hgs, y4, y5, by rw [← hS7]; exact h10, ?_⟩
   rw [ho, ← hr', ← List.append_assoc, y8, List.append_nil]
  | cons d1 rs1 =>
   rw [he] at y7
   obtain ⟨he1, he2⟩ := drop_cons he
   have hjl : j < ds1.length := (List.getElem?_eq_some_iff.mp he1).1
   obtain ⟨v1, hv1, rv1⟩ := rl6.get he1
   have rv7 : Rep ⟨K, P :: Z⟩ m7 d1 v1 := unhide1 y3.si y4 (y3.rep hs6 rv1)
   have er7 : ER ⟨K, P :: Z⟩ m7 (wipeE e4 vs1) (wipe σ4 vs1) := ER.unhide y3.si y4 (er6.tr hs6 y3)
   refine .inr ⟨⟨us, v1, sq7, hv1⟩, fun H8 => ∃ (m8 : M) (acc1 : List D) (xs1 : List V) (r1 : List D), m8.H = H8 ∧ Ex m0 m8 ∧ Sim ⟨K, P :: Z⟩ m8 ∧ Tr ⟨K, Z⟩ (m6.hide P) (m8.hide P) ∧ m8.H P = some (.lst xs1) ∧ RepL ⟨K, P :: Z⟩ m8 acc1 xs1 ∧
    lcL g1 tYes' te [] [] (wipeE e4 vs1) rs1 m8.S = some (r1, S6) ∧ acc ++ u = acc1 ++ r1, fun H8 ⟨m8, acc2, xs2, r2, a1, a2, a3, a4, a5, a6, a7, a8⟩ => ⟨ds1.length - (j + 1), by omega, m8, acc2, xs2, r2, a1, a2, a3, a4, a5, a6, rfl, by rw [he2]; exact a7, a8⟩, ?_⟩
   rintro x1 H8 ⟨eH, hy1⟩
   subst eH
   have ex1 : v1 = x1 := Option.some.inj (hv1.symm.trans (hy1 us sq7))
   subst ex1
   obtain ⟨⟨e5, S8⟩, h12, h13⟩ := Option.bind_eq_some_iff.mp (show ((g1 d1 (wipeE e4 vs1) m7.S).bind _) = some (r1, S6) from y7)
   obtain ⟨⟨y, S9⟩, h14, h15⟩ := Option.bind_eq_some_iff.mp (show ((te e5 S8).bind _) = some (r1, S6) from h13)
   simp only at h15
   split at h15
   case isFalse hno => exact absurd (fun n (hn : n ∈ ([] : List Nat)) => nomatch hn) hno
   obtain ⟨⟨r2, S10⟩, h16, h17⟩ := Option.map_eq_some_iff.mp h15
   simp only [Prod.mk.injEq] at h17
   obtain ⟨hr2, hS10⟩ := h17
   refine ⟨P :: Z, m7, wipeE e4 vs1, d1, e5, S8, rfl, y2, er7, rv7, h12, fun m8 σ8 q8 t8 er8 ag8 => ⟨wipe_same ag8.1 ag8.2 hsub1, ?_⟩⟩
   refine ⟨P :: Z, m8, e5, true, m8.S, rfl, t8.si, er8, rfl, fun m9 q9 t9 => ?_⟩
   show (if (true : Bool) = true then _ else _)
   rw [if_pos rfl]
   refine ⟨P :: Z, m9, e5, y, S9, rfl, t9.si, er8.tr t8.si t9, by rw [q9, q8]; exact h14, fun m10 vy q10 t10 ry => ?_⟩
   have t710 : Tr ⟨K, P :: Z⟩ m7 m10 := (t8.trans y2 t9).trans y2 t10
   have hx10 : m10.H P = some (.lst xs1) := t710.ex.pr _ _ y4 nP7 trivial
   have ho2 : acc ++ u = acc1 ++ [y] ++ r2 := by rw [y8, ← hr2]; simp
   refine ⟨xs1, hx10, ?_, m10.over P (xs1 ++ [vy]), acc1 ++ [y], xs1 ++ [vy], r2, rfl, Ex.over hP hx10 (y1.on y2.bok t710), Sim.over t10.si hx10 hPZ, ?_, upd_same, ?_, ?_, ho2⟩
   ·rw [y5.len]
    have := szOk_le hz
    rw [ho, ← hr', ← List.append_assoc, ho2] at this
    simp at this
    omega
   ·rw [over_hide]
    exact y3.trans hs6 (t710.hide hPZ y4 hx10 nP7)
   ·exact RepL.over t10.si hx10 hPZ (RepL.app (t710.repL y2 y5) (RepL.one ry))
   ·show lcL g1 tYes' te [] [] (wipeE e4 vs1) rs1 m10.S = some (r2, S6)
    rw [q10, ← hS10]
    exact h16
theorem lj_lc2 {elt tg iter tg1 iter1 : Expr} {scope : Scope} {own : List (Str × Nat)} {vs1 ws ws1 : List Nat} {pos : Pos} {it : IX} {g : GX} {f1 : EX} {g1 : GX} {te : EX} (hc : X.calm = true) (hN : X.N.Nodup) (hi : IJ X tg iter it) (ok : BlkOk X.N X.env.scope scope own) (hv : ∀ i ∈ vs1, i ∈ own.map (·.2))
  (hg : ∀ (s : Shared) (H : Hp) (C : Addr) (cl : List (Str × Addr)) (fp : List Addr), GJ (X.blk s H scope (compEnvC scope cl C X.env) fp) tg ws g)
  (hi1 : ∀ (s : Shared) (H : Hp) (C : Addr) (cl : List (Str × Addr)) (fp : List Addr), EJ (X.blk s H scope (compEnvC scope cl C X.env) fp) iter1 f1)
  (hg1 : ∀ (s : Shared) (H : Hp) (C : Addr) (cl : List (Str × Addr)) (fp : List Addr), GJ (X.blk s H scope (compEnvC scope cl C X.env) fp) tg1 ws1 g1)
  (he : ∀ (s : Shared) (H : Hp) (C : Addr) (cl : List (Str × Addr)) (fp : List Addr), EJ (X.blk s H scope (compEnvC scope cl C X.env) fp) elt te) (hsub : ∀ i, i ∈ ws → i ∈ own.map (·.2)) (hsub1 : ∀ i, i ∈ ws1 → i ∈ vs1)
  (hs : ∀ x, foldedSetIterable iter X.env x = pure x := by intro _; rfl) (hs1 : ∀ env x, foldedSetIterable iter1 env x = pure x := by intro _ _; rfl) :
  LJ X (.ListComp elt [⟨tg, iter, [], 0⟩, ⟨tg1, iter1, [], 0⟩] scope pos) (lLc2 it g f1 g1 te (own.map (·.2)) vs1) :=
 pe_wk (pe_lc2 hc hN hi ok hv hg (fun _ _ _ _ _ => tsj_nil) (fun s H C cl fp => pi_tup (hi1 s H C cl fp)) hg1 (fun _ _ _ _ _ => tsj_nil) he hs hs1) fun _ _ _ h => tl_lc2 hsub hsub1 h
end
section
variable {X : Cx} {K : PySem.W.Frag} {m : M} {tg e : Expr} {f : EX}
end
def LV2 (g : GX) (f1 : EX) (g1 : GX) (te : EX) (vs1 gs : List Nat) (S0 : Sto) (e0 : En) (ds : List D) (S : Sto) (P : List D → Sto → Prop) : Prop := ∃ out S2, lcL2 g f1 g1 te vs1 gs S0 e0 ds S = some (out, S2) ∧ P out S2
theorem LV2_nil {g : GX} {f1 : EX} {g1 : GX} {te : EX} {vs1 gs : List Nat} {S0 S : Sto} {e0 : En} {P : List D → Sto → Prop} : LV2 g f1 g1 te vs1 gs S0 e0 [] S P ↔ P [] S := ⟨fun ⟨v, S', h, q⟩ => by cases h; exact q, fun q => ⟨[], S, rfl, q⟩⟩
theorem LV2_cons {g : GX} {f1 : EX} {g1 : GX} {te : EX} {vs1 gs : List Nat} {S0 S : Sto} {e0 : En} {d : D} {ds : List D} {P : List D → Sto → Prop} : LV2 g f1 g1 te vs1 gs S0 e0 (d :: ds) S P ↔ GV g d e0 S fun e1 S1 => EV f1 e1 S1 fun x S2 => ∃ ds1, x = .tup ds1 ∧ LV g1 tYes' te [] [] (wipeE e1 vs1) ds1 S2 fun u S3 => (∀ n, n ∈ gs → S3[n]? = S0[n]?) ∧ LV2 g f1 g1 te vs1 gs S0 e0 ds S3 fun r S4 => P (u ++ r) S4 := by
 unfold LV2 GV EV LV
 constructor
 ·rintro ⟨out, S2, h, q⟩
  obtain ⟨⟨e1, S1⟩, h1, h⟩ := Option.bind_eq_some_iff.mp (show ((g d e0 S).bind _) = some (out, S2) from h)
  obtain ⟨⟨x, S3⟩, h2, h⟩ := Option.bind_eq_some_iff.mp h
  cases x <;> first | exact no2 h | skip
  rename_i ds1
  obtain ⟨⟨u, S4⟩, h3, h⟩ := Option.bind_eq_some_iff.mp (show ((lcL g1 tYes' te [] [] (wipeE e1 vs1) ds1 S3).bind _) = some (out, S2) from h)
  simp only at h
  split at h
  case isFalse => cases h
  rename_i hg
  obtain ⟨⟨r, S5⟩, h4, h⟩ := Option.map_eq_some_iff.mp h
  simp only [Prod.mk.injEq] at h
  obtain ⟨rfl, rfl⟩ := h
  exact ⟨e1, S1, h1, _, S3, h2, ds1, rfl, u, S4, h3, hg, r, S5, h4, q⟩
 ·rintro ⟨e1, S1, h1, x, S3, h2, ds1, rfl, u, S4, h3, hg, r, S5, h4, q⟩
  refine ⟨u ++ r, S5, ?_, q⟩
  show ((g d e0 S).bind _) = _
  rw [h1]
  show ((f1 e1 S1).bind _) = _
  rw [h2]
  show ((lcL g1 tYes' te [] [] (wipeE e1 vs1) ds1 S3).bind _) = _
  rw [h3, Option.bind_some, if_pos hg, h4]
  rfl
theorem AV_lc2 {it : IX} {g : GX} {f1 : EX} {g1 : GX} {te : EX} {vs vs1 : List Nat} {e : En} {S : Sto} {QL : List D → Sto → Prop} : AV (lLc2 it g f1 g1 te vs vs1) e S QL ↔ IV it e S fun ds gs S1 => LV2 g f1 g1 te vs1 gs S1 (wipeE e vs) ds S1 fun out S2 => szOk out.length = true ∧ QL out S2 := by
 unfold AV IV LV2 lLc2
 constructor
 ·rintro ⟨v, S', h, q⟩
  obtain ⟨⟨ds, gs, S1⟩, h1, h⟩ := Option.bind_eq_some_iff.mp h
  obtain ⟨⟨out, S2⟩, h2, h⟩ := Option.bind_eq_some_iff.mp h
  obtain ⟨hz, h⟩ := ite_some h
  simp only [Prod.mk.injEq] at h
  obtain ⟨rfl, rfl⟩ := h
  exact ⟨ds, gs, S1, h1, out, S2, h2, hz, q⟩
 ·rintro ⟨ds, gs, S1, h1, out, S2, h2, hz, q⟩
  refine ⟨out, S2, ?_, q⟩
  rw [h1]
  show ((lcL2 g f1 g1 te vs1 gs S1 (wipeE e vs) ds S1).bind _) = _
  rw [h2]
  show (if _ then _ else _) = _
  rw [if_pos hz]
def xy : Xp → Yp
 | .fig n => .fig n
 | .reg i => .reg i
 | .shr i => .shr i
 | .tim n a => .tim n (xy a)
 | .byr i a => .byr i (xy a)
 | .whn i f a b => .whn i f (xy a) (xy b)
 | .whr i f a b => .whr i f (xy a) (xy b)
 | .sum a b => .sum (xy a) (xy b)
 | .les a b => .les (xy a) (xy b)
 | .lst a b => .lst (xy a) (xy b)
 | .mst a b => .mst (xy a) (xy b)
def szX (e : Xp) : Nat := siz (xy e)
def nameOk (x : Str) : Bool := decide (1 ≤ x.length) && decide (x.length ≤ 8) && (x.cps.toList.all fun c => !(Builtin.Str.occurrences ("abcdefghijklmnopqrstuvwxyz" : Str) ⟨#[c]⟩ 0 ("abcdefghijklmnopqrstuvwxyz" : Str).length 1).isEmpty)
mutual
def dcnt : De → Nat
 | .whn _ _ a b => 1 + (dcntL a + dcntL b)
 | _ => 1
def dcntL : List De → Nat
 | [] => 0
 | d :: ds => dcnt d + dcntL ds
end
mutual
def dnst : De → Nat
 | .whn _ _ a b => 1 + max (dnstL a) (dnstL b)
 | _ => 1
def dnstL : List De → Nat
 | [] => 0
 | d :: ds => max (dnst d) (dnstL ds)
end
theorem LV_mapG {α : Type} {g : GX} {tt : TX} {te : EX} {gs : List Nat} {S0 S : Sto} {e0 : En} (g0 f : α → D) (hg : ∀ n, n ∈ gs → S[n]? = S0[n]?) : ∀ {xs : List α},
  (∀ a (K : D → Sto → Prop), a ∈ xs → K (f a) S → GV g (g0 a) e0 S fun e1 S1 => TV tt e1 S1 fun b S2 => b = true ∧ EV te e1 S2 K) →
  LV g tt te gs S0 e0 (xs.map g0) S fun out S' => out = xs.map f ∧ S' = S
 | [], _ => LV_nil.mpr ⟨rfl, rfl⟩
 | d :: ds, step => by
  refine LV_cons.mpr ?_
  obtain ⟨e1, S1, h1, b, S2, h2, hb, y, S3, h3, hp, hi⟩ := step d (fun y T => y = f d ∧ T = S) (List.mem_cons_self ..) ⟨rfl, rfl⟩
  subst hb hi hp
  refine ⟨e1, S1, h1, true, S2, h2, ?_⟩
  show (if true = true then _ else _)
  rw [if_pos rfl]
  refine ⟨_, _, h3, hg, (LV_mapG g0 f hg fun d K hd => step d K (List.mem_cons_of_mem _ hd)).imp fun out S' q => ⟨by rw [q.1]; rfl, q.2⟩⟩
structure DbG (many : Nat) (d : Dbt) : Prop where
 nm : nameOk d.name = true
 sc : d.scale < 5
 rl : d.rs.length = 4
 rb : ∀ r, r ∈ d.rs → -1000 ≤ r ∧ r ≤ 1000
 sl : d.stakes.length = many
 st : ∀ e, e ∈ d.stakes → exOk many e ∧ lev e ≤ 7 ∧ szX e ≤ 40 ∧ -(500 * 2 ^ d.scale) ≤ (sp e).1 ∧ (sp e).2 ≤ 500 * 2 ^ d.scale
 dl : d.deeds.length = many
 de : ∀ x, x ∈ d.deeds → deOkL many x ∧ dnstL x ≤ 4 ∧ dcntL x ≤ 20
def Rg (rs : List Int) : Prop := rs.length = 4 ∧ ∀ r, r ∈ rs → -1000 ≤ r ∧ r ≤ 1000
def absI (z : Int) : Int := if z < 0 then -z else z
def ends (d : Dbt) : List Int := (d.stakes.map fun e => [absI (sp e).1, absI (sp e).2]).flatten
def bnd (d : Dbt) : Int := if -((-(maxL (ends d))).fdiv (2 ^ d.scale)) > 1 then -((-(maxL (ends d))).fdiv (2 ^ d.scale)) else 1
theorem LV2_map {α : Type} {g : GX} {f1 : EX} {g1 : GX} {te : EX} {vs1 gs : List Nat} {S0 S : Sto} {e0 : En} (g0 : α → D) (f : α → List D) (hg : ∀ n, n ∈ gs → S[n]? = S0[n]?) : ∀ {xs : List α},
  (∀ a (K : List D → Sto → Prop), a ∈ xs → K (f a) S → GV g (g0 a) e0 S fun e1 S1 => EV f1 e1 S1 fun x S2 => ∃ ds1, x = .tup ds1 ∧ LV g1 tYes' te [] [] (wipeE e1 vs1) ds1 S2 K) →
  LV2 g f1 g1 te vs1 gs S0 e0 (xs.map g0) S fun out S' => out = (xs.map f).flatten ∧ S' = S
 | [], _ => LV2_nil.mpr ⟨rfl, rfl⟩
 | d :: ds, step => by
  refine LV2_cons.mpr ?_
  obtain ⟨e1, S1, h1, x, S2, h2, ds1, hx, u, S3, h3, hu, hi⟩ := step d (fun y T => y = f d ∧ T = S) (List.mem_cons_self ..) ⟨rfl, rfl⟩
  subst hi hu
  refine ⟨e1, S1, h1, x, S2, h2, ds1, hx, _, _, h3, hg, ?_⟩
  obtain ⟨r, S4, h4, q1, q2⟩ := LV2_map g0 f hg fun d K hd => step d K (List.mem_cons_of_mem _ hd)
  exact ⟨r, S4, h4, by rw [q1]; rfl, q2⟩
theorem LV2.imp' {g : GX} {f1 : EX} {g1 : GX} {te : EX} {vs1 gs : List Nat} {S0 S : Sto} {e0 : En} {ds : List D} {Q R : List D → Sto → Prop} (h : LV2 g f1 g1 te vs1 gs S0 e0 ds S Q) (k : ∀ d S1, Q d S1 → R d S1) : LV2 g f1 g1 te vs1 gs S0 e0 ds S R := by obtain ⟨v, S', h1, q⟩ := h; exact ⟨v, S', h1, k _ _ q⟩
abbrev Wm := Xp × Bool
theorem Dbt.dat {many l : Nat} {d : Dbt} (hm : many ≤ 3) (nm : shortB 13 (.str d.name) = true ∧ okD (.str d.name) = true) (sc : d.scale < 5) (rl : d.rs.length = 4) (rb : ∀ r, r ∈ d.rs → -1000 ≤ r ∧ r ≤ 1000) (sl : d.stakes.length = many) (st : ∀ e, e ∈ d.stakes → exOk many e ∧ lev e ≤ l) (dl : d.deeds.length = many) (de : ∀ x, x ∈ d.deeds → DatL 3 90 (deL x)) : Dat (l + 6) (3 * Cn l + 300) (dbD d) := by
 have s1 : Dat (l + 2) ((Cn l + 1) * 3) (.tup (d.stakes.map exD)) := by
  refine (DatL.all (dp := l + 1) (c := Cn l) fun x hx => ?_).tup.mono (Nat.le_refl _) (by rw [List.length_map, sl]; exact Nat.mul_le_mul_left _ hm)
  obtain ⟨e, he, rfl⟩ := List.mem_map.mp hx
  obtain ⟨h1, h2⟩ := st e he
  exact (Dat.ex (by omega) h1).mono (by omega) (Cn_mono h2)
 have s2 : Dat 5 (91 * 3) (.tup (d.deeds.map dsD)) := by
  refine (DatL.all (dp := 4) (c := 90) fun x hx => ?_).tup.mono (Nat.le_refl _) (by rw [List.length_map, dl]; exact Nat.mul_le_mul_left _ hm)
  obtain ⟨e, he, rfl⟩ := List.mem_map.mp hx
  exact (de e he).tup
 have s3 : Dat 1 8 (.tup (d.rs.map D.int)) := (Dat.ints fun n hn => by have := rb n hn; omega).mono (Nat.le_refl _) (by rw [rl]; exact Nat.le_refl _)
 exact ((DatL.cons ((Dat.word nm.1 nm.2).mono (Nat.zero_le _) (Nat.le_refl _)) (DatL.cons ((Dat.int (z := (d.scale : Int)) (by omega)).mono (Nat.zero_le _) (Nat.le_refl _)) (DatL.cons (s3.mono (show 1 ≤ l + 5 by omega) (Nat.le_refl _)) (DatL.cons (s1.mono (show l + 2 ≤ l + 5 by omega) (Nat.le_refl _)) (DatL.cons (s2.mono (by omega) (Nat.le_refl _)) DatL.nil))))).tup).mono (by omega) (by omega)
def byS (many : Nat) : List Xp := (List.range many).map fun i => .les (.reg i) (.shr i)
def bt (k : Nat) (z : Int) : Prop := z.natAbs < 2 ^ k
theorem rgD_nil {a b : Int} (h : b ≤ a) : rgD a b = [] := by
 unfold rgD
 rw [show (b - a).toNat = 0 by omega]
 rfl
theorem rgD_cons {a b : Int} (h : a < b) : rgD a b = .int a :: rgD (a + 1) b := by
 unfold rgD
 rw [show (b - a).toNat = (b - (a + 1)).toNat + 1 by omega, List.range_succ_eq_map, List.map_cons, List.map_map]
 congr 1
 ·congr 1; omega
 ·apply List.map_congr_left
  intro i _
  show D.int (a + ((i + 1 : Nat) : Int)) = _
  congr 1
  omega
theorem rgD_inv {a b : Int} {d : D} {r : List D} (h : d :: r = rgD a b) : a < b ∧ d = .int a ∧ r = rgD (a + 1) b := by
 by_cases hl : a < b
 ·rw [rgD_cons hl] at h
  exact ⟨hl, (List.cons.inj h).1, (List.cons.inj h).2⟩
 ·rw [rgD_nil (by omega)] at h
  cases h
structure OneG (many : Nat) (d : Dbt) : Prop where
 sc : d.scale < 5
 l0 : 0 < d.stakes.length
 l1 : d.stakes.length ≤ 1000
 st : ∀ e, e ∈ d.stakes → exOk many e ∧ lev e ≤ 8
 fa : ∀ e, e ∈ d.stakes → -(500 * 2 ^ d.scale) ≤ (sp e).1 ∧ (sp e).2 ≤ 500 * 2 ^ d.scale
noncomputable def b_more (k_common : Con) : SX := sSeq (sAsg (eTup (aCons (e2 fAdd (e2 fMul (e2 fIx (eVar 0) (eC (.int 0))) (eVar 2)) (e2 fMul (eVar 1) (e2 fIx (eVar 0) (eC (.int 1))))) (aCons (e2 fMul (e2 fIx (eVar 0) (eC (.int 1))) (eVar 2)) (aNil)))) (gN 3)) (sSeq (sAsg (eCall k_common (aCons (eVar 3) (aNil))) (gN 4)) (sRet (eTup (aCons (e2 fDiv (e2 fIx (eVar 3) (eC (.int 0))) (eCB (fn1 gAbs) (aCons (eVar 4) (aNil)))) (aCons (e2 fDiv (e2 fIx (eVar 3) (eC (.int 1))) (eCB (fn1 gAbs) (aCons (eVar 4) (aNil)))) (aNil))))))
noncomputable def c_more : Con := den 3 5 0 (b_more c_common)
namespace Ms
theorem sm4 {a : Int} (h : a.natAbs < 2 ^ 4000) : sm a := Nat.lt_trans h (by decide +kernel)
theorem mul4 {a b : Int} (ha : a.natAbs < 2 ^ 4000) (hb : b.natAbs < 2 ^ 4000) : (a * b).natAbs < 2 ^ 8000 := by
 rw [Int.natAbs_mul]
 exact Nat.lt_of_lt_of_eq (Nat.mul_lt_mul'' ha hb) (by rw [← Nat.pow_add])
theorem sm8 {a : Int} (h : a.natAbs < 2 ^ 8000) : sm a := Nat.lt_trans h (by decide +kernel)
theorem CV_more {S : Sto} {r : Rat} {u d : Int} {Q : D → Sto → Prop} (h0 : 0 ≤ r.num) (hu : 0 ≤ u) (hd : 0 < d) (h1 : r.num.natAbs < 2 ^ 4000) (h2 : r.den < 2 ^ 4000) (h3 : u.natAbs < 2 ^ 4000) (h4 : d.natAbs < 2 ^ 4000) (q : Q (R (r + mkRat u d.toNat)) S) : CV c_more [R r, .int u, .int d] S Q := by
 refine CV_plain rfl ?_
 unfold b_more R
 (simp_arith [])
 have hr := r.den_pos
 have k2 : (r.den : Int).natAbs < 2 ^ 4000 := by omega
 have a3 := mul4 k2 h4
 have p0 : 0 ≤ r.num * d + u * r.den := Int.add_nonneg (Int.mul_nonneg h0 (by omega)) (Int.mul_nonneg hu (by omega))
 have q0 : 0 < (r.den : Int) * d := Int.mul_pos (by omega) hd
 refine ⟨sm_mul (sm4 h1) (sm4 h4), sm_mul (sm4 h3) (sm4 k2), sm_mul (sm4 k2) (sm4 h4), rfl, ?_⟩
 rw [← R_add hd] at q
 generalize r.num * d + u * r.den = p at *
 generalize (r.den : Int) * d = w at *
 refine CV_common (ns := [p, w]) rfl (fun n hn => ?_) ?_
 ·simp only [List.mem_cons, List.not_mem_nil, or_false] at hn
  rcases hn with rfl | rfl <;> omega
 ·rw [gcdF_pair]
  (simp_arith [])
  have g2 := gcd_pos (p := p) q0
  have g3 := gcd_le (p := p) q0
  have s2 : sm (Int.gcd p w : Int) := Nat.lt_of_le_of_lt (by omega : _ ≤ w.natAbs) (sm8 a3)
  rw [if_neg (by omega)]
  refine ⟨sm_div s2 (by omega), sm_div s2 (by omega), rfl, ?_⟩
  rw [R_of q0]
  exact RtP_same rfl q
def sq (ns : List Int) : Int := (ns.map fun n => n * n).sum
def upOf (full : Int) (ns : List Int) (i : Nat) : Int := full * full - 2 * full * ns.getD i 0 + sq ns
def lsum (full : Int) (i : Nat) : Nat → List Int → Int
 | _, [] => 0
 | j, n :: ns => (full * (if j = i then 1 else 0) - n) * (full * (if j = i then 1 else 0) - n) + lsum full i (j + 1) ns
theorem lsum_gt {full : Int} {i : Nat} : ∀ (ns : List Int) (j : Nat), i < j → lsum full i j ns = sq ns
 | [], j, _ => rfl
 | n :: ns, j, h => by
  show _ + lsum full i (j + 1) ns = _
  rw [lsum_gt ns (j + 1) (by omega), if_neg (by omega)]
  show _ = n * n + sq ns
  grind
theorem lsum_eq {full : Int} {i : Nat} : ∀ (ns : List Int) (j : Nat), j ≤ i → i < j + ns.length → lsum full i j ns = upOf full ns (i - j)
 | [], j, h, h2 => by simp at h2; omega
 | n :: ns, j, h, h2 => by
  show _ + lsum full i (j + 1) ns = _
  by_cases e : j = i
  ·subst e
   rw [lsum_gt ns (j + 1) (by omega), if_pos rfl, Nat.sub_self]
   show _ = full * full - 2 * full * n + (n * n + sq ns)
   grind
  ·rw [lsum_eq ns (j + 1) (by omega) (by simp at h2; omega), if_neg e, show i - j = (i - (j + 1)) + 1 by omega]
   show _ + (full * full - 2 * full * ns.getD (i - (j + 1)) 0 + sq ns) = full * full - 2 * full * ns.getD (i - (j + 1)) 0 + (n * n + sq ns)
   grind
theorem lsum_nonneg {full : Int} {i : Nat} : ∀ (ns : List Int) (j : Nat), 0 ≤ lsum full i j ns
 | [], j => Int.le_refl _
 | n :: ns, j => by
  have := lsum_nonneg (full := full) (i := i) ns (j + 1)
  show 0 ≤ _ * _ + lsum full i (j + 1) ns
  generalize full * (if j = i then 1 else 0) - n = z
  have h2 : 0 ≤ z * z := by rcases Int.le_total 0 z with h | h; exact Int.mul_nonneg h h; exact Int.mul_nonneg_of_nonpos_of_nonpos h h
  omega
theorem sum_nonneg' : ∀ ns : List Int, (∀ n, n ∈ ns → 0 ≤ n) → 0 ≤ ns.sum
 | [], _ => by simp
 | n :: ns, h => by
  have := sum_nonneg' ns fun m hm => h m (List.mem_cons_of_mem _ hm)
  have := h n (List.mem_cons_self ..)
  rw [List.sum_cons]; omega
theorem sq_le : ∀ ns : List Int, (∀ n, n ∈ ns → 0 ≤ n) → sq ns ≤ ns.sum * ns.sum
 | [], _ => by decide
 | n :: ns, h => by
  have h1 := sq_le ns fun m hm => h m (List.mem_cons_of_mem _ hm)
  have h2 := h n (List.mem_cons_self ..)
  have h3 := sum_nonneg' ns fun m hm => h m (List.mem_cons_of_mem _ hm)
  have h4 := Int.mul_nonneg h2 h3
  show n * n + sq ns ≤ (n :: ns).sum * (n :: ns).sum
  rw [List.sum_cons]
  have : (n + ns.sum) * (n + ns.sum) = n * n + 2 * (n * ns.sum) + ns.sum * ns.sum := by grind
  omega
structure Row (full : Int) (ns : List Int) : Prop where
 pos : ∀ n, n ∈ ns → 0 ≤ n
 sum : ns.sum = full
 full0 : 0 < full
 full1 : full ≤ 3 * (10 ^ 12 + 8)
structure Rw1 (many : Int) (p : List Int × Nat) : Prop where
 len : (p.1.length : Int) = many
 pos : ∀ n, n ∈ p.1 → 0 ≤ n ∧ n ≤ 10 ^ 12 + 8
 some_ : ∃ n, n ∈ p.1 ∧ n ≠ 0
 sign : (p.2 : Int) < many
structure Rb (k : Nat) (r : Rat) : Prop where
 num0 : 0 ≤ r.num
 num1 : r.num ≤ 2 * (k : Int) * r.den
 den : r.den ≤ 10 ^ (25 * k)
end Ms
structure Sh (many : Nat) (d : Dbt) : Prop where
 nm : nameOk d.name = true ∧ shortB 13 (.str d.name) = true ∧ okD (.str d.name) = true
 sc : d.scale = 4
 rg : Rg d.rs
 st : d.stakes = byS many
 dl : d.deeds.length = many
 de : ∀ x, x ∈ d.deeds → deOkL many x ∧ dnstL x ≤ 1 ∧ dcntL x ≤ 20 ∧ DatL 3 90 (deL x)
structure Bh (many : Nat) (d : Dbt) (lags : Bool) : Prop where
 no : lags = false → ∀ x, x ∈ d.deeds → x = []
 ye : lags = true → ∀ x, x ∈ d.deeds → x = (List.range many).map fun i => De.tld i i
section
variable {X : Cx} {e e2 : Expr} {p pos tp : Pos} {elts : List Expr} {kk : Nat}
end
section
variable {X : Cx} {e e2 : Expr} {p pos tp : Pos} {elts : List Expr} {kk : Nat} {f g : EX}
end
def dot (as bs : List Int) : Int := ((List.zip as bs).map fun p => p.1 * p.2).sum
def zOf (sh W : List Int) (s : Nat) : Int := sh.sum * W.getD s 0 - dot sh W
def fullOf (d : Dbt) (sh : List Int) : Int := 1000 * 2 ^ d.scale * sh.sum * sh.sum
def alike (W : List Int) : Bool := decide ((fm W).length ≤ 1)
theorem SV_cut {f g : SX} {e : En} {S : Sto} {Q : Out → Prop} (h : ∀ G : SX, (∀ e' S', SV g e' S' Q → SV G e' S' Q) → SV f e S (then_ Q fun e1 S1 => SV G e1 S1 Q)) : SV (sSeq f g) e S Q := SV_seq.mpr (h g fun _ _ z => z)
structure DayD (many : Nat) (d : Dbt) : Prop where
 sc : d.scale < 5
 sl : d.stakes.length = many
 st : ∀ e, e ∈ d.stakes → exOk many e ∧ lev e ≤ 8
 dl : d.deeds.length = many
 de : ∀ x, x ∈ d.deeds → deOkL many x ∧ dnstL x ≤ 4
 br : bare (dbD d) = true
def sFail : SX := fun _ _ => none
section
variable {X : Cx}
end
noncomputable def b_take2 : SX := sSeq (sIf (tOf (e2 fGt (e2 fIx (eVar 0) (eC (.int 0))) (eC (.int 0)))) (sSeq (sAsg (e2 fMod (e2 fIx (eVar 0) (eC (.int 0))) (eVar 1)) (gN 5)) (sSeq (sAsg (e2 fDiv (e2 fIx (eVar 0) (eC (.int 0))) (eVar 1)) (gS (eVar 0) (eC (.int 0)))) (sRet (eVar 5)))) (sNil)) (sSeq (sAsg (e2 fAdd (e2 fIx (eVar 0) (eC (.int 2))) (eC (.int 1))) (gS (eVar 0) (eC (.int 2)))) (sSeq (sAsg (eFz (lDisp (aCons (eC (.int 2147483647)) (aCons (eC (.int 2147483629)) (aCons (eC (.int 2147483587)) (aCons (eC (.int 2147483579)) (aCons (eC (.int 2147483563)) (aCons (eC (.int 2147483549)) (aCons (eC (.int 2147483543)) (aCons (eC (.int 2147483497)) (aNil))))))))))) (gN 2)) (sSeq (sAsg (e2 fIx (eVar 2) (e2 fMod (e2 fIx (eVar 0) (eC (.int 2))) (eC (.int 8)))) (gN 3)) (sSeq (sAsg (e2 fAdd (e2 fIx (eVar 0) (eC (.int 1))) (e2 fMul (e2 fMul (eC (.int 69621)) (e2 fIx (eVar 0) (eC (.int 2)))) (e2 fIx (eVar 0) (eC (.int 2))))) (gN 4)) (sSeq (sAsg (e2 fAdd (e2 fMod (e2 fMod (eVar 4) (e2 fPow (eVar 3) (eC (.int 2)))) (eVar 3)) (eC (.int 1))) (gN 4)) (sRet (e2 fMod (e2 fDiv (e2 fMod (e2 fMul (eVar 4) (e2 fAdd (e2 fMod (eVar 4) (eC (.int 1009))) (e2 fIx (eVar 0) (eC (.int 2))))) (eVar 3)) (eC (.int 7))) (eVar 1))))))))
def Lp (f : SX) : Prop := ∀ e S e' S', f e S = some (.nx e' S') → e'.length = e.length
theorem lp_asgN {f : EX} {i : Nat} : Lp (sAsg f (gN i)) := fun e S e' S' h => by
 obtain ⟨⟨x, S1⟩, h1, h⟩ := Option.bind_eq_some_iff.mp h
 obtain ⟨⟨e1, S2⟩, h2, h⟩ := Option.map_eq_some_iff.mp h
 cases h2
 cases h
 rw [List.length_set]
theorem gS_env {a b : EX} {d : D} {e e' : En} {S S' : Sto} (h : gS a b d e S = some (e', S')) : e' = e := by
 unfold gS at h
 obtain ⟨⟨x, S1⟩, h1, ha⟩ := Option.bind_eq_some_iff.mp h
 obtain ⟨⟨y, S2⟩, h2, hb⟩ := Option.bind_eq_some_iff.mp ha
 cases x <;> cases y <;> first | exact no2 hb | skip
 obtain ⟨ds, h3, hc⟩ := Option.bind_eq_some_iff.mp (show (boxAt S2 _).bind _ = _ from hb)
 obtain ⟨j, h4, hd⟩ := Option.map_eq_some_iff.mp hc
 cases hd
 rfl
theorem lp_asgS {f a b : EX} : Lp (sAsg f (gS a b)) := fun e S e' S' h => by
 obtain ⟨⟨x, S1⟩, h1, h⟩ := Option.bind_eq_some_iff.mp h
 obtain ⟨⟨e2, S2⟩, h2, h⟩ := Option.map_eq_some_iff.mp h
 cases h
 rw [gS_env h2]
theorem lp_seq {f g : SX} (hf : Lp f) (hg : Lp g) : Lp (sSeq f g) := fun e S e' S' h => by
 obtain ⟨o, h1, h2⟩ := Option.bind_eq_some_iff.mp h
 cases o with
 | nx e1 S1 => exact (hg e1 S1 e' S' h2).trans (hf e S e1 S1 h1)
 | rt d S1 => cases h2
 | bk e1 S1 => cases h2
 | ct e1 S1 => cases h2
theorem lp_ret {f : EX} : Lp (sRet f) := fun e S e' S' h => by
 obtain ⟨p, h1, h2⟩ := Option.map_eq_some_iff.mp h
 cases h2
theorem lp_nil : Lp sNil := fun e S e' S' h => by cases h; rfl
theorem lp_if {t : TX} {f g : SX} (hf : Lp f) (hg : Lp g) : Lp (sIf t f g) := fun e S e' S' h => by
 obtain ⟨⟨c, S1⟩, h1, h2⟩ := Option.bind_eq_some_iff.mp h
 cases c with
 | true => exact hf e S1 e' S' h2
 | false => exact hg e S1 e' S' h2
theorem seq_eq {f g g' : SX} {e : En} {S : Sto} (hf : Lp f) (h : ∀ e' S', e'.length = e.length → g e' S' = g' e' S') : sSeq f g e S = sSeq f g' e S := by
 unfold sSeq
 cases hx : f e S with
 | none => rfl
 | some o =>
  cases o with
  | nx e1 S1 => exact h e1 S1 (hf e S e1 S1 hx)
  | _ => rfl
theorem den_congr {n N keep : Nat} {b b' : SX} (h : ∀ e S, e.length = N → b e S = b' e S) (hn : n ≤ N) : den n N keep b = den n N keep b' := by
 funext ds S
 unfold den
 by_cases hl : ds.length = n
 ·rw [if_pos hl, if_pos hl, h]
  unfold sE
  simp
  omega
 ·rw [if_neg hl, if_neg hl]
theorem b_take2_eq {e : En} {S : Sto} (he : e.length = 6) : b_take2 e S = b_take e S := by
 unfold b_take2 b_take
 refine seq_eq (lp_if (lp_seq lp_asgN (lp_seq lp_asgS lp_ret)) lp_nil) fun u1 S1 h1 => ?_
 refine seq_eq lp_asgS fun u2 S2 h2 => ?_
 refine seq_eq lp_asgN fun u3 S3 h3 => ?_
 refine seq_eq lp_asgN fun e4 S4 h4 => ?_
 have l4 : 4 < e4.length := by omega
 have k4 : ∀ x : D, (e4.set 4 (some x))[4]? = some (some x) := fun x => List.getElem?_set_self l4
 have k3 : ∀ x : D, (e4.set 4 (some x))[3]? = e4[3]? := fun x => List.getElem?_set_ne (by decide)
 have kk : ∀ x y : D, (e4.set 4 (some x)).set 4 (some y) = e4.set 4 (some y) := fun x y => List.set_set ..
 generalize hF : e2 fAdd (e2 fIx (eVar 0) (eC (.int 1))) (e2 fMul (e2 fMul (eC (.int 69621)) (e2 fIx (eVar 0) (eC (.int 2)))) (e2 fIx (eVar 0) (eC (.int 2)))) = F
 cases hx : F e4 S4 with
 | none =>
  simp only [sSeq, sAsg, e2, hx, Option.bind_none]
 | some p =>
  obtain ⟨x, S5⟩ := p
  have v4 : eVar 4 (e4.set 4 (some x)) S5 = some (x, S5) := by unfold eVar; rw [k4]
  have v3 : ∀ T : Sto, eVar 3 (e4.set 4 (some x)) T = eVar 3 e4 T := fun T => by unfold eVar; rw [k3]
  have hG : e2 fAdd (e2 fMod (e2 fMod (eVar 4) (e2 fPow (eVar 3) (eC (.int 2)))) (eVar 3)) (eC (.int 1)) (e4.set 4 (some x)) S5 = e2 fAdd (e2 fMod (e2 fMod F (e2 fPow (eVar 3) (eC (.int 2)))) (eVar 3)) (eC (.int 1)) e4 S4 := by
   simp only [e2, eC, hx, v4, v3, Option.bind_some]
  generalize e2 fAdd (e2 fMod (e2 fMod (eVar 4) (e2 fPow (eVar 3) (eC (.int 2)))) (eVar 3)) (eC (.int 1)) = g1 at *
  generalize e2 fAdd (e2 fMod (e2 fMod F (e2 fPow (eVar 3) (eC (.int 2)))) (eVar 3)) (eC (.int 1)) = g2 at *
  simp only [sSeq, sAsg, hx, gN, Option.bind_some, Option.map_some, hG]
  cases g2 e4 S4 with
  | none => rfl
  | some r => simp only [Option.bind_some, Option.map_some, kk]
theorem take2_eq : den 2 6 0 b_take2 = c_take := den_congr (fun e S he => b_take2_eq he) (by decide)
def noW : Xp → Prop
 | .fig _ => True
 | .reg _ => True
 | .shr _ => True
 | .tim _ a => noW a
 | .byr _ a => noW a
 | .whn _ _ a b => noW a ∧ noW b
 | .whr _ _ _ _ => False
 | .sum a b => noW a ∧ noW b
 | .les a b => noW a ∧ noW b
 | .lst a b => noW a ∧ noW b
 | .mst a b => noW a ∧ noW b
structure Dr (many l j : Nat) (e : Xp) : Prop where
 ok : exOk many e
 lv : lev e ≤ l
 sz : szX e + 1 ≤ 2 ^ (l + 1)
 nw : j = 0 → noW e
theorem szX_two (a b : Xp) : szX (.sum a b) = 1 + (szX a + szX b) ∧ szX (.les a b) = 1 + (szX a + szX b) ∧ szX (.lst a b) = 1 + (szX a + szX b) ∧ szX (.mst a b) = 1 + (szX a + szX b) := ⟨rfl, rfl, rfl, rfl⟩
theorem pow2 (l : Nat) : 2 ^ (l + 1 + 1) = 2 * 2 ^ (l + 1) := by rw [Nat.pow_succ, Nat.mul_comm]
section
variable {many l j : Nat} {a b : Xp}
theorem Dr.leaf {e : Xp} (h : exOk many e) (hl : lev e = 0) : Dr many l j e := by
 have hp : 2 ≤ 2 ^ (l + 1) := by rw [Nat.pow_succ]; have := Nat.one_le_two_pow (n := l); omega
 cases e <;> first | (simp [lev] at hl; done) | exact ⟨h, by omega, by show 1 + 1 ≤ _; exact hp, fun _ => trivial⟩
theorem Dr.two {e : Xp} (he : e = .sum a b ∨ e = .les a b ∨ e = .lst a b ∨ e = .mst a b) (ha : Dr many l j a) (hb : Dr many l j b) : Dr many (l + 1) j e := by
 have h1 := ha.lv
 have h2 := hb.lv
 have h3 := ha.sz
 have h4 := hb.sz
 have h5 := pow2 l
 obtain ⟨s1, s2, s3, s4⟩ := szX_two a b
 rcases he with rfl | rfl | rfl | rfl
 ·exact ⟨⟨ha.ok, hb.ok⟩, by show max (lev a) (lev b) + 1 ≤ l + 1; omega, by rw [s1]; omega, fun h => ⟨ha.nw h, hb.nw h⟩⟩
 ·exact ⟨⟨ha.ok, hb.ok⟩, by show max (lev a) (lev b) + 1 ≤ l + 1; omega, by rw [s2]; omega, fun h => ⟨ha.nw h, hb.nw h⟩⟩
 ·exact ⟨⟨ha.ok, hb.ok⟩, by show max (lev a) (lev b) + 1 ≤ l + 1; omega, by rw [s3]; omega, fun h => ⟨ha.nw h, hb.nw h⟩⟩
 ·exact ⟨⟨ha.ok, hb.ok⟩, by show max (lev a) (lev b) + 1 ≤ l + 1; omega, by rw [s4]; omega, fun h => ⟨ha.nw h, hb.nw h⟩⟩
theorem Dr.tim {n : Int} (h1 : -9 ≤ n) (h2 : n ≤ 9) (ha : Dr many l j a) : Dr many (l + 1) j (.tim n a) := by
 have h3 := ha.lv
 have h4 := ha.sz
 have h5 := pow2 l
 have : szX (.tim n a) = 1 + szX a := rfl
 exact ⟨⟨h1, h2, ha.ok⟩, by show lev a + 1 ≤ l + 1; omega, by omega, ha.nw⟩
theorem Dr.byr {i : Nat} (h1 : i < 4) (ha : Dr many l j a) : Dr many (l + 1) j (.byr i a) := by
 have h3 := ha.lv
 have h4 := ha.sz
 have h5 := pow2 l
 have : szX (.byr i a) = 1 + szX a := rfl
 exact ⟨⟨h1, ha.ok⟩, by show lev a + 1 ≤ l + 1; omega, by omega, ha.nw⟩
theorem Dr.whn {i : Nat} {f : Int} (h1 : i < 4) (f0 : -1000 ≤ f) (f1 : f ≤ 1000) (ha : Dr many l j a) (hb : Dr many l j b) : Dr many (l + 1) j (.whn i f a b) := by
 have h1' := ha.lv
 have h2 := hb.lv
 have h3 := ha.sz
 have h4 := hb.sz
 have h5 := pow2 l
 have : szX (.whn i f a b) = 1 + (szX a + szX b) := rfl
 exact ⟨⟨h1, f0, f1, ha.ok, hb.ok⟩, by show max (lev a) (lev b) + 1 ≤ l + 1; omega, by omega, fun h => ⟨ha.nw h, hb.nw h⟩⟩
theorem Dr.whr {i : Nat} {f : Int} (hj : j = 1) (h1 : i < many) (f0 : 1 ≤ f) (f1 : f ≤ 1000) (ha : Dr many l j a) (hb : Dr many l j b) : Dr many (l + 1) j (.whr i f a b) := by
 have h1' := ha.lv
 have h2 := hb.lv
 have h3 := ha.sz
 have h4 := hb.sz
 have h5 := pow2 l
 have : szX (.whr i f a b) = 1 + (szX a + szX b) := rfl
 exact ⟨⟨h1, f0, f1, ha.ok, hb.ok⟩, by show max (lev a) (lev b) + 1 ≤ l + 1; omega, by omega, fun h => by omega⟩
end
structure Sk (many l j : Nat) (e : Xp) : Prop where
 ok : exOk many e
 lv : lev e ≤ l + 2
 sz : szX e ≤ 2 ^ (l + 1) + 3
 lo : -500 ≤ (sp e).1
 hi : (sp e).2 ≤ 500
 nw : j = 0 → noW e
 sh : (∃ z : Int, e = .fig z) ∨ ∃ (f : Int) (x : Xp), 1 ≤ f ∧ e = .lst (.fig f) (.mst (.fig (-f)) x)
structure DbJ (many l j : Nat) (d : Dbt) : Prop where
 ok : DbOk many l d
 st : ∀ e, e ∈ d.stakes → Sk many l j e
structure DbH (many : Nat) (d : Dbt) : Prop where
 nm : nameOk d.name = true
 sc : d.scale < 5
 rl : d.rs.length = 4
 rb : ∀ r, r ∈ d.rs → -1000 ≤ r ∧ r ≤ 1000
 sl : d.stakes.length = many
 st : ∀ e, e ∈ d.stakes → exOk many e ∧ lev e ≤ 7 ∧ szX e ≤ 40
 dl : d.deeds.length = many
 de : ∀ x, x ∈ d.deeds → deOkL many x ∧ dnstL x ≤ 4 ∧ dcntL x ≤ 20
structure Row (B w : Int) (n : Nat) (got H : Int) : Prop where
 H0 : 0 ≤ H
 lo : -(1000000000 * B * n) ≤ 500 * got
 ex : ∃ (C : Nat) (a : Int), 0 < C ∧ -((C * n : Nat) : Int) ≤ a ∧ a ≤ ((C * n : Nat) : Int) ∧ 500 * got * C ≤ 1000000000 * B * a ∧ (500 + B) ^ (((C * n : Nat) : Int) + a).toNat * (500 - B) ^ (((C * n : Nat) : Int) - a).toNat * w ^ (2 * C) ≤ 500 ^ (2 * (C * n)) * H ^ (2 * C)
theorem rm_bl (a : Bool) (l : Addr) (items : Array Value) (n : Nat) :
  Meets (Builtin.«int.__rmul__» ⟨[.bool a, .ref l], []⟩) (fun _ R s => s.heap.get? l = some { cls := .type "list", dict := none, data := .seq items n, slots := #[] } ∧ R (.ok (.ret Value.notImplemented)) s) :=
 .of_wp fun prog w A R s h => by obtain ⟨hp, g, d, tk, os⟩ := s; obtain ⟨hl, h⟩ := h; wp_walk; exact ⟨_, rfl, h⟩
theorem mul_bl (l : Addr) (items : Array Value) (n : Nat) (b : Bool) (hc1 : ¬items.size * (if b = true then 1 else 0 : Int).toNat > (2 ^ 63 - 1) / 8) (hc2 : ¬Builtin.List.listTooLong (items.size * (if b = true then 1 else 0 : Int).toNat) = true) :
  Meets (Builtin.«list.__mul__» ⟨[.ref l, .bool b], []⟩) (fun _ R s => s.heap.get? l = some { cls := .type "list", dict := none, data := .seq items n, slots := #[] } ∧ R (.ok (.ret (Value.ref s.heap.objs.size))) { s with heap := s.heap.push { cls := Value.type "list", data := Data.seq (List.foldl (fun x1 x2 => x1 ++ x2) #[] (List.replicate (if items.isEmpty = true then 0 else (if b = true then 1 else 0 : Int).toNat) items)) }, toks := s.toks }) :=
 .of_wp fun prog w A R s h => by
  obtain ⟨hp, g, d, tk, os⟩ := s; obtain ⟨hl, h⟩ := h
  have hsz := AutoListH.joined_fits hc2
  cases b
  ·wp_walk; exact ⟨_, rfl, h⟩
  ·wp_walk
   refine wpAny_ite_false (decide_eq_false hc1) ?_
   wp_walk
   refine wpAny_ite_false (decide_eq_false hc2) ?_
   wp_walk
   refine wpAny_ite_false (decide_eq_false (Nat.not_lt.mpr hsz)) ?_
   wp_walk
   exact ⟨_, rfl, h⟩
section
variable {X : Cx}
def rRepB : R2 := fun x y H Q => ∃ l b xs, x = .ref l ∧ y = .bl b ∧ H l = some (.lst xs) ∧ xs.length ≤ sizeLine ∧
 ∀ p, H p = none → Q (.ref p) (upd H p (.lst (if b = true then xs else [])))
theorem op_repB : OpR X (binaryOp .Mult) rRepB := by
 intro pins s σ H x y v u Q I rx ry h
 obtain ⟨l, b, xs, rfl, rfl, hH, hz, q⟩ := h
 cases rx
 cases ry
 obtain ⟨z, its, n, r, hl, e⟩ := I.lstM hH
 have hk : (if b = true then 1 else 0 : Int).toNat ≤ 1 := by cases b <;> decide
 have hlen : its.toArray.size * (if b = true then 1 else 0 : Int).toNat ≤ sizeLine := by
  rw [List.size_toArray, ← hl]
  exact Nat.le_trans (Nat.mul_le_mul_left _ hk) (by rw [Nat.mul_one]; exact hz)
 have hcap : ¬ its.toArray.size * (if b = true then 1 else 0 : Int).toNat > (2 ^ 63 - 1) / 8 := by
  have : (sizeLine : Nat) ≤ (2 ^ 63 - 1) / 8 := by decide
  omega
 have hlong : ¬ Builtin.List.listTooLong (its.toArray.size * (if b = true then 1 else 0 : Int).toNat) = true := by
  rw [notLongL hlen]
  exact Bool.false_ne_true
 have hnew : List.foldl (fun x1 x2 => x1 ++ x2) #[] (List.replicate (if its.toArray.isEmpty = true then 0 else (if b = true then 1 else 0 : Int).toNat) its.toArray) = (if b = true then its else []).toArray := by
  cases b with
  | false => simp
  | true =>
   cases its with
   | nil => simp
   | cons a r' => rw [if_neg (by simp)]; simp
 refine wpAny_binaryOp_repeat_ref (T := "list") (U := "bool") (by decide) ⟨_, e, rfl⟩ (fun s' => PySem.typeIs_bool s' b) noFill_list_mul F.fills_bool_mul F.slot_bool_rmul repeat_list F.slot_bool_index.lookup
  (call_meets F.slot_bool_rmul (PySem.typeIs_bool s b) F.entry_int_rmul (F.args_int_rmul_2 _ _) (rm_bl b l its.toArray n)
   ⟨e, rfl, ⟨_, e, rfl⟩, call_meets F.slot_list_mul ⟨_, e, rfl⟩ F.entry_list_mul (F.args_list_mul_2 _ _) (mul_bl l its.toArray n b hcap hlong) ⟨e, ?_⟩⟩)
 rw [hnew]
 refine ⟨.ref _, _, I.lnew (t' := s.toks) (ys := if b = true then xs else []) ?_ ?_, rfl, q _ I.fresh⟩
 ·cases b with
  | false => exact .nil
  | true => exact r
 ·cases b with
  | false => exact Nat.zero_le _
  | true => exact hz
def fMulB : F2L := fun S a b => (ownOf S a).bind fun x => match b with
 | .bl k => if szOk x.length = true then some (if k = true then x else []) else none
 | _ => none
theorem o_mulB : OpR X (binaryOp .Mult) (r2L X.K fMulB) := by
 rintro pins s σ H x y v u Q I rx ry ⟨Z, m, a, b, d, rfl, si, ra, rb, hf, q⟩
 obtain ⟨da, h1, hf⟩ := Option.bind_eq_some_iff.mp hf
 cases b <;> first | exact no2 hf | skip
 obtain ⟨hz, rfl⟩ := ite_some hf
 obtain ⟨p1, xs, rfl, e1, l1⟩ := si.own ra h1
 refine op_repB pins s σ m.H _ _ v u Q I rx ry ⟨p1, _, xs, rfl, rb, e1, by rw [l1.len]; exact szOk_le hz, fun p hp => q m p _ rfl (.refl si) ?_ hp⟩
 have hb : ∀ k : Bool, RepL _ m (if k = true then da else []) (if k = true then xs else []) := fun k => by
  cases k
  ·exact rfl
  ·exact l1
 exact hb _
end
theorem r_mulB {S : Sto} {ds : List D} {b : Bool} : fMulB S (.lst ds) (.bl b) = if szOk ds.length = true then some (if b = true then ds else []) else none := rfl
noncomputable def b_exprB (k__law_of k__law_leaf k__law_expression k__law_take k__law_figure : Con) : SX := sSeq (sAsg (eFz (lDisp (aCons (eC (.str "sum")) (aCons (eC (.str "less")) (aCons (eC (.str "least")) (aCons (eC (.str "most")) (aCons (eC (.str "least")) (aCons (eC (.str "most")) (aCons (eC (.str "times")) (aCons (eC (.str "by")) (aCons (eC (.str "when")) (aCons (eC (.str "leaf")) (aNil))))))))))))) (gN 4)) (sSeq (sAsg (eFz (l2 fAddL (eVar 4) (eFz (l2 fMulB (eFz (lDisp (aCons (eC (.str "where")) (aCons (eC (.str "where")) (aNil))))) (eVar 3))))) (gN 4)) (sSeq (sAsg (eIf (tOf (e2 fEq (eVar 2) (eC (.int 0)))) (eC (.str "leaf")) (eCall k__law_of (aCons (eVar 0) (aCons (eVar 4) (aNil))))) (gN 5)) (sSeq (sIf (tOf (e2 fEq (eVar 5) (eC (.str "leaf")))) (sRet (eCall k__law_leaf (aCons (eVar 0) (aCons (eVar 1) (aNil))))) (sNil)) (sSeq (sAsg (eCall k__law_expression (aCons (eVar 0) (aCons (eVar 1) (aCons (e2 fSub (eVar 2) (eC (.int 1))) (aCons (eVar 3) (aNil)))))) (gN 6)) (sSeq (sIf (tOf (e2 fEq (eVar 5) (eC (.str "times")))) (sRet (eTup (aCons (eVar 5) (aCons (e2 fSub (eCall k__law_take (aCons (eVar 0) (aCons (eC (.int 19)) (aNil)))) (eC (.int 9))) (aCons (eVar 6) (aNil)))))) (sNil)) (sSeq (sIf (tOf (e2 fEq (eVar 5) (eC (.str "by")))) (sRet (eTup (aCons (eVar 5) (aCons (eCall k__law_take (aCons (eVar 0) (aCons (eC (.int 4)) (aNil)))) (aCons (eVar 6) (aNil)))))) (sNil)) (sSeq (sAsg (eCall k__law_expression (aCons (eVar 0) (aCons (eVar 1) (aCons (e2 fSub (eVar 2) (eC (.int 1))) (aCons (eVar 3) (aNil)))))) (gN 7)) (sSeq (sIf (tOf (e2 fEq (eVar 5) (eC (.str "when")))) (sRet (eTup (aCons (eVar 5) (aCons (eCall k__law_take (aCons (eVar 0) (aCons (eC (.int 4)) (aNil)))) (aCons (eCall k__law_figure (aCons (eVar 0) (aNil))) (aCons (eVar 6) (aCons (eVar 7) (aNil)))))))) (sNil)) (sSeq (sIf (tOf (e2 fEq (eVar 5) (eC (.str "where")))) (sSeq (sAsg (eCall k__law_of (aCons (eVar 0) (aCons (eFz (lDisp (aCons (eC (.int 1)) (aCons (eC (.int 250)) (aCons (eC (.int 333)) (aCons (eC (.int 500)) (aCons (eC (.int 1000)) (aCons (e2 fAdd (eC (.int 1)) (eCall k__law_take (aCons (eVar 0) (aCons (eC (.int 1000)) (aNil))))) (aNil))))))))) (aNil)))) (gN 8)) (sRet (eTup (aCons (eVar 5) (aCons (eCall k__law_take (aCons (eVar 0) (aCons (eVar 1) (aNil)))) (aCons (eVar 8) (aCons (eVar 6) (aCons (eVar 7) (aNil))))))))) (sNil)) (sRet (eTup (aCons (eVar 5) (aCons (eVar 6) (aCons (eVar 7) (aNil)))))))))))))))
noncomputable def cc_exprB : Nat → Con
 | 0 => fun _ _ => none
 | n + 1 => den 4 9 0 (b_exprB c_of c_leaf (cc_exprB n) c_take c_figure)
noncomputable def c_stakeB : Con := den 4 6 0 (b_stake c_of c_take (cc_exprB 5))
noncomputable def c_doubterB (n : Nat) : Con := den 4 9 0 (b_doubter c_take c_of c_stakeB (cc_deeds n) c_registers)
def jn (j : Bool) : Nat := if j = true then 1 else 0
theorem rep_whereB (j : Bool) : ∃ L : List D, (if j = true then [D.str "where", D.str "where"] else []) = L ∧ (∀ d, d ∈ L → d = .str "where" ∧ jn j = 1) ∧ L.length ≤ 2 := by
 cases j
 ·exact ⟨[], rfl, by simp, by simp⟩
 ·exact ⟨[.str "where", .str "where"], rfl, by simp [jn], by simp⟩
theorem CV_exprB {many : Nat} {j : Bool} (hm : 0 < many) (hm2 : many < 1000) : ∀ (l : Nat) {fuel n h : Nat} {S : Sto} {Q : D → Sto → Prop}, l < fuel → HD n S h → n + Be l ≤ 1000000 → (∀ (e : Xp) S', Dr many l (jn j) e → St h (n + Be l) S S' → Q (exD e) S') →
  CV (cc_exprB fuel) [.ref h, .int many, .int l, .bl j] S Q := by
 intro l
 induction l with
 | zero =>
  intro fuel n h S Q hf H hn q
  cases fuel with
  | zero => omega
  | succ fuel =>
   have hlt := H.lt
   refine CV_hand (h := h) (n := n + 10) hlt rfl ?_
   unfold b_exprB
   have hn : n + 10 ≤ 1000000 := hn
   (simp_arith [r_mulB, sz_2])
   obtain ⟨L, eL, hL, lL⟩ := rep_whereB j
   refine ⟨rfl, sz_le (by rw [eL]; omega), ?_⟩
   rw [if_pos (show ((0 : Nat) : Int) = 0 from rfl)]
   refine CV_leaf H (by omega) hm hm2 fun e S1 he le t1 => ?_
   exact ⟨t1.hd.mono (by omega), t1.up, .inl ⟨exD_bare e, fun S' hS => q e S' (Dr.leaf he le) hS⟩⟩
 | succ l ih =>
  intro fuel n h S Q hf H hn q
  cases fuel with
  | zero => omega
  | succ fuel =>
   have hlt := H.lt
   refine CV_hand (h := h) (n := n + Be (l + 1)) hlt rfl ?_
   unfold b_exprB
   have eB : Be (l + 1) = 2 * Be l + 10 := rfl
   have ez : ¬ ((l + 1 : Nat) : Int) = 0 := by omega
   have el : ((l + 1 : Nat) : Int) - 1 = (l : Int) := by omega
   (simp_arith [ez, el, r_mulB, sz_2])
   obtain ⟨L, eL, hL, lL⟩ := rep_whereB j
   refine ⟨rfl, sz_le (by rw [eL]; omega), ?_⟩
   rw [eL]
   have done : ∀ {e : Xp} {k : Nat} {S2 : Sto}, Dr many (l + 1) (jn j) e → St h k S S2 → k ≤ n + Be (l + 1) → RtH h (n + Be (l + 1)) S Q (Out.rt (exD e) S2) := fun {e k S2} he t hk =>
    ⟨t.hd.mono hk, t.up, .inl ⟨exD_bare e, fun S' hS => q e S' he hS⟩⟩
   have mm : ∀ d, d ∈ D.str "sum" :: .str "less" :: .str "least" :: .str "most" :: .str "least" :: .str "most" :: .str "times" :: .str "by" :: .str "when" :: .str "leaf" :: L → d = .str "sum" ∨ d = .str "less" ∨ d = .str "least" ∨ d = .str "most" ∨ d = .str "times" ∨ d = .str "by" ∨ d = .str "when" ∨ d = .str "leaf" ∨ (d = .str "where" ∧ jn j = 1) := by
    intro d hd
    simp only [List.mem_cons] at hd
    rcases hd with rfl | rfl | rfl | rfl | rfl | rfl | rfl | rfl | rfl | rfl | hd
    all_goals first | simp; done | skip
    obtain ⟨rfl, h1⟩ := hL d hd
    simp [h1]
   refine CV_of H (by omega) (.inr (.inl rfl)) (by simp) (by simp; omega) ?_ fun d S1 hd t1 => ?_
   ·intro d hd
    rcases mm d hd with rfl | rfl | rfl | rfl | rfl | rfl | rfl | rfl | ⟨rfl, _⟩ <;> rfl
   ·have hd2 := mm d hd
    have one : ∀ {K : D → Sto → Prop}, (∀ (a : Xp) S2, Dr many l (jn j) a → St h (n + 1 + Be l) S S2 → K (exD a) S2) → CV (cc_exprB fuel) [.ref h, .int many, .int l, .bl j] S1 K := fun {K} k =>
     ih (by omega) t1.hd (by omega) fun a S2 ha t2 => k a S2 ha (t1.trans t2)
    have two : ∀ {S2 : Sto} {K : D → Sto → Prop}, St h (n + 1 + Be l) S S2 → (∀ (a : Xp) S3, Dr many l (jn j) a → St h (n + 1 + Be l + Be l) S S3 → K (exD a) S3) → CV (cc_exprB fuel) [.ref h, .int many, .int l, .bl j] S2 K := fun {S2 K} t2 k =>
     ih (by omega) t2.hd (by omega) fun a S3 ha t3 => k a S3 ha (t2.trans t3)
    rcases hd2 with rfl | rfl | rfl | rfl | rfl | rfl | rfl | rfl | ⟨rfl, hj1⟩
    ·(simp_arith [Wd])
     refine one fun a S2 ha t2 => two t2 fun b S3 hb t3 => ?_
     exact ⟨rfl, done (e := .sum a b) (Dr.two (.inl rfl) ha hb) t3 (by omega)⟩
    ·(simp_arith [Wd])
     refine one fun a S2 ha t2 => two t2 fun b S3 hb t3 => ?_
     exact ⟨rfl, done (e := .les a b) (Dr.two (.inr (.inl rfl)) ha hb) t3 (by omega)⟩
    ·(simp_arith [Wd])
     refine one fun a S2 ha t2 => two t2 fun b S3 hb t3 => ?_
     exact ⟨rfl, done (e := .lst a b) (Dr.two (.inr (.inr (.inl rfl))) ha hb) t3 (by omega)⟩
    ·(simp_arith [Wd])
     refine one fun a S2 ha t2 => two t2 fun b S3 hb t3 => ?_
     exact ⟨rfl, done (e := .mst a b) (Dr.two (.inr (.inr (.inr rfl))) ha hb) t3 (by omega)⟩
    ·(simp_arith [Wd])
     refine one fun a S2 ha t2 => ?_
     refine CV_take t2.hd (by omega) (by decide) (by decide) fun r S3 r0 r1 t3 => ?_
     (simp_arith [])
     exact ⟨rfl, done (e := .tim (r - 9) a) (Dr.tim (by omega) (by omega) ha) (t2.trans t3) (by omega)⟩
    ·(simp_arith [Wd])
     refine one fun a S2 ha t2 => ?_
     refine CV_take t2.hd (by omega) (by decide) (by decide) fun r S3 r0 r1 t3 => ?_
     have e : r = ((r.toNat : Nat) : Int) := by omega
     rw [e]
     exact ⟨rfl, done (e := .byr r.toNat a) (Dr.byr (by omega) ha) (t2.trans t3) (by omega)⟩
    ·(simp_arith [Wd])
     refine one fun a S2 ha t2 => two t2 fun b S3 hb t3 => ?_
     refine CV_take t3.hd (by omega) (by decide) (by decide) fun r S4 r0 r1 t4 => ?_
     refine CV_figure t4.hd (by omega) fun f S5 f0 f1 t5 => ?_
     have e : r = ((r.toNat : Nat) : Int) := by omega
     rw [e]
     exact ⟨rfl, done (e := .whn r.toNat f a b) (Dr.whn (by omega) f0 f1 ha hb) (t3.trans (t4.trans t5)) (by omega)⟩
    ·(simp_arith [Wd])
     refine CV_leaf t1.hd (by omega) hm hm2 fun e S2 he le t2 => ?_
     exact done (Dr.leaf he le) (t1.trans t2) (by omega)
    ·(simp_arith [Wd])
     refine one fun a S2 ha t2 => two t2 fun b S3 hb t3 => ?_
     refine CV_take t3.hd (by omega) (by decide) (by decide) fun r S4 r0 r1 t4 => ?_
     (simp_arith [])
     refine ⟨rfl, CV_of t4.hd (by omega) (.inr (.inl rfl)) (by simp) (by simp) ?_ fun d S5 hd5 t5 => ?_⟩
     ·intro d hd
      simp only [List.mem_cons, List.not_mem_nil, or_false] at hd
      rcases hd with rfl | rfl | rfl | rfl | rfl | rfl <;> rfl
     have hd6 : ∃ f : Int, d = .int f ∧ 1 ≤ f ∧ f ≤ 1000 := by
      simp only [List.mem_cons, List.not_mem_nil, or_false] at hd5
      rcases hd5 with rfl | rfl | rfl | rfl | rfl | rfl <;> exact ⟨_, rfl, by omega, by omega⟩
     obtain ⟨f, rfl, f0, f1⟩ := hd6
     refine CV_take t5.hd (by omega) (by omega) (by omega) fun s S6 s0 s1 t6 => ?_
     have e : s = ((s.toNat : Nat) : Int) := by omega
     rw [e]
     exact ⟨rfl, done (e := .whr s.toNat f a b) (Dr.whr hj1 (by omega) f0 f1 ha hb) (t3.trans (t4.trans (t5.trans t6))) (by omega)⟩
theorem CV_stakeB {S : Sto} {h n many l : Nat} {j : Bool} {Q : D → Sto → Prop} (hm : 0 < many) (hm2 : many < 1000) (hl : l < 5) (H : HD n S h) (hn : n + 5 + Be l ≤ 1000000)
  (q : ∀ (e : Xp) S', Sk many l (jn j) e → St h (n + 5 + Be l) S S' → Q (exD e) S') : CV c_stakeB [.ref h, .int many, .int l, .bl j] S Q := by
 have hlt := H.lt
 refine CV_hand (h := h) (n := n + 5 + Be l) hlt rfl ?_
 unfold b_stake
 (simp_arith! [])
 refine CV_take H (by omega) (by decide) (by decide) fun r S1 r0 r1 t1 => ?_
 (simp_arith! [])
 refine CV_of t1.hd (by omega) (.inr (.inl rfl)) (by simp) (by simp) ?_ fun d S2 hd t2 => ?_
 ·intro d hd
  simp only [List.mem_cons, List.not_mem_nil, or_false] at hd
  rcases hd with rfl | rfl | rfl | rfl | rfl <;> rfl
 obtain ⟨f, rfl, f0, f1⟩ : ∃ f : Int, d = .int f ∧ 1 ≤ f ∧ f ≤ 500 := by
  simp only [List.mem_cons, List.not_mem_nil, or_false] at hd
  rcases hd with rfl | rfl | rfl | rfl | rfl <;> exact ⟨_, rfl, by omega, by omega⟩
 (simp_arith! [])
 refine CV_take t2.hd (by omega) (by decide) (by decide) fun a S3 a0 a1 t3 => ?_
 have t13 := t1.trans (t2.trans t3)
 (simp_arith! [])
 split
 ·refine CV_of t3.hd (by omega) (.inr (.inl rfl)) (by simp) (by simp) ?_ fun d S4 hd t4 => ?_
  ·intro d hd
   simp only [List.mem_cons, List.not_mem_nil, or_false] at hd
   rcases hd with rfl | rfl | rfl | rfl <;> rfl
  obtain ⟨g, rfl, g0, g1⟩ : ∃ g : Int, d = .int g ∧ -500 ≤ g ∧ g ≤ 500 := by
   simp only [List.mem_cons, List.not_mem_nil, or_false] at hd
   rcases hd with rfl | rfl | rfl | rfl <;> exact ⟨_, rfl, by omega, by omega⟩
  have t := t13.trans t4
  exact ⟨t.hd.mono (by omega), t.up, .inl ⟨rfl, fun S' hS => q (.fig g) S' ⟨⟨by omega, by omega⟩, Nat.zero_le _, (Nat.le_trans (show 1 ≤ 3 by decide) (Nat.le_add_left ..)), g0, g1, fun _ => trivial, .inl ⟨_, rfl⟩⟩ hS⟩⟩
 ·refine CV_exprB hm hm2 l (by omega) t3.hd (by omega) fun e S4 he t4 => ?_
  (simp_arith! [])
  have t := t13.trans t4
  have okx : exOk many (.lst (.fig f) (.mst (.fig (-f)) e)) := ⟨⟨by omega, by omega⟩, ⟨by omega, by omega⟩, he.ok⟩
  have b1 : -500 ≤ (sp (.lst (.fig f) (.mst (.fig (-f)) e))).1 := by
   show -500 ≤ (if (if (sp e).1 > -f then (sp e).1 else -f) < f then (if (sp e).1 > -f then (sp e).1 else -f) else f)
   have := (mx_ge (a := -f) (b := (sp e).1)).1
   split <;> omega
  have b2 : (sp (.lst (.fig f) (.mst (.fig (-f)) e))).2 ≤ 500 := Int.le_trans (mn_le (a := f) (b := (sp (.mst (.fig (-f)) e)).2)).1 f1
  have lv := he.lv
  have sz := he.sz
  have es : szX (.lst (.fig f) (.mst (.fig (-f)) e)) = 1 + (1 + (1 + (1 + szX e))) := rfl
  exact ⟨t.hd.mono (by omega), t.up, .inl ⟨exD_bare (.lst (.fig f) (.mst (.fig (-f)) e)), fun S' hS => q (.lst (.fig f) (.mst (.fig (-f)) e)) S' ⟨okx, by simp only [lev]; omega, by rw [es]; omega, b1, b2, fun h => ⟨trivial, trivial, he.nw h⟩, .inr ⟨_, _, f0, rfl⟩⟩ hS⟩⟩
theorem CV_doubterB {S : Sto} {h n many l fuel : Nat} {j : Bool} {Q : D → Sto → Prop} (hm : many = 2 ∨ many = 3) (hl : l < 5) (hf : 1 < fuel) (H : HD n S h) (hn : n + Bb l ≤ 1000000) (q : ∀ (d : Dbt) S', DbJ many l (jn j) d → St h (n + Bb l) S S' → Q (dbD d) S') : CV (c_doubterB fuel) [.ref h, .int many, .int l, .bl j] S Q := by
 have hlt := H.lt
 have eB : Bb l = 2 + 3 * (5 + Be l) + 3 * 90 + 12 := rfl
 have B1 : Bd 1 = 90 := rfl
 have C1 : Cd 1 = 90 := rfl
 refine CV_hand (h := h) (n := n + Bb l) hlt rfl ?_
 unfold b_doubter
 (simp_arith! [])
 refine CV_of H (by omega) (.inr (.inl rfl)) (by simp) (by simp) ?_ fun d S1 hd t1 => ?_
 ·intro d hd
  simp only [List.mem_cons, List.not_mem_nil, or_false] at hd
  rcases hd with rfl | rfl | rfl | rfl <;> rfl
 obtain ⟨x, rfl, hx⟩ : ∃ x : Str, d = .str x ∧ (x = "a" ∨ x = "doubter" ∨ x = "sceptics" ∨ x = "zz") := by
  simp only [List.mem_cons, List.not_mem_nil, or_false] at hd
  rcases hd with rfl | rfl | rfl | rfl
  ·exact ⟨_, rfl, .inl rfl⟩
  ·exact ⟨_, rfl, .inr (.inl rfl)⟩
  ·exact ⟨_, rfl, .inr (.inr (.inl rfl))⟩
  ·exact ⟨_, rfl, .inr (.inr (.inr rfl))⟩
 refine CV_take t1.hd (by omega) (by decide) (by decide) fun s S2 s0 s1 t2 => ?_
 obtain ⟨s, rfl⟩ : ∃ j : Nat, s = (j : Int) := ⟨s.toNat, by omega⟩
 have t12 := t1.trans t2
 (simp_arith! [])
 refine ⟨rg_ok (by omega) (by omega), ?_⟩
 refine (LV_all (fun i S' => St h (n + 2 + (5 + Be l) * (many - i)) S S' ∧ i ≤ many) (fun y => ∃ e, y = exD e ∧ Sk many l (jn j) e) ⟨t12.mono (by omega), by rw [len_rgD]; omega⟩ ?_).lc ?_
 ·rintro d i S3 K hd ⟨t3, hi⟩ hK
  (simp_arith! [])
  have e2 : (5 + Be l) * (many - i) = (5 + Be l) * (many - (i + 1)) + (5 + Be l) := by
   rw [← Nat.mul_succ]
   congr 1
   omega
  have le2 : (5 + Be l) * (many - i) ≤ (5 + Be l) * 3 := Nat.mul_le_mul_left _ (by omega)
  exact CV_stakeB (by omega) (by omega) hl t3.hd (by omega) fun e S4 h1 t4 => hK _ _ (fun n hn => nomatch hn) ⟨e, rfl, h1⟩ ⟨(t3.trans t4).mono (by omega), by omega⟩
 rintro out S3 ⟨hlo, hpo, t3, _⟩
 obtain ⟨es, rfl, hes⟩ := exs_of' out hpo
 have hle : es.length = many := by rw [List.length_map, len_rgD] at hlo; omega
 have le3 : (5 + Be l) * (many - 0) ≤ (5 + Be l) * 3 := Nat.mul_le_mul_left _ (by omega)
 have t3 := t3.mono (show _ ≤ n + 2 + 3 * (5 + Be l) by omega)
 refine ⟨sz_le (by rw [List.length_map]; omega), ?_⟩
 (simp_arith! [])
 refine ⟨rg_ok (by omega) (by omega), ?_⟩
 refine (LV_all (fun j S' => St h (n + 2 + 3 * (5 + Be l) + 90 * (many - j)) S S' ∧ j ≤ many) (fun y => ∃ e, y = dsD e ∧ deOkL many e ∧ e.length ≤ 4 ∧ DatL 3 90 (deL e)) ⟨t3.mono (by omega), by rw [len_rgD]; omega⟩ ?_).lc ?_
 ·rintro d j S4 K hd ⟨t4, hj⟩ hK
  (simp_arith! [])
  exact CV_deeds (by omega) (by omega) 1 hf t4.hd (by omega) fun e S5 h1 h2 h3 t5 => hK _ _ (fun n hn => nomatch hn) ⟨e, rfl, h1, h2, h3⟩ ⟨(t4.trans t5).mono (by omega), by omega⟩
 rintro out S4 ⟨hlo2, hpo2, t4, _⟩
 obtain ⟨fs, rfl, hfs⟩ := des_of' out hpo2
 have hle2 : fs.length = many := by rw [List.length_map, len_rgD] at hlo2; omega
 refine ⟨sz_le (by rw [List.length_map]; omega), ?_⟩
 (simp_arith! [])
 refine CV_registers t4.hd (by omega) fun rs S5 rl rb t5 => ?_
 have t := t4.trans t5
 have ok : DbOk many l ⟨x, s, rs, es, fs⟩ := ⟨hx, (show s < 5 by omega), rl, rb, hle, fun e he => ⟨(hes e he).ok, (hes e he).lv, (hes e he).lo, (hes e he).hi⟩, hle2, hfs⟩
 (simp_arith! [])
 exact ⟨t.hd.mono (by omega), t.up, .inl ⟨(ok.dat (by omega)).br, fun S' hS => q ⟨x, s, rs, es, fs⟩ S' ⟨ok, hes⟩ hS⟩⟩
inductive Mb where
 | one (d : Dbt) (o : One)
 | home (x : Str) (ms : List Mb)
mutual
def mbD : Mb → D
 | .one d o => onD (dbD d) o
 | .home x ms => .tup [.str "house", .str x, .tup (mbL ms)]
def mbL : List Mb → List D
 | [] => []
 | m :: ms => mbD m :: mbL ms
end
theorem mbL_map : ∀ ms : List Mb, mbL ms = ms.map mbD
 | [] => rfl
 | m :: ms => by rw [mbL, mbL_map ms]; rfl
theorem mbL_len (ms : List Mb) : (mbL ms).length = ms.length := by rw [mbL_map, List.length_map]
mutual
def mbT : Mb → Nat
 | .one _ _ => 0
 | .home _ ms => mbTL ms + 1
def mbTL : List Mb → Nat
 | [] => 0
 | m :: ms => max (mbT m) (mbTL ms)
end
mutual
def mbN : Mb → Nat
 | .one _ _ => 1
 | .home _ ms => mbNL ms + 1
def mbNL : List Mb → Nat
 | [] => 0
 | m :: ms => mbN m + mbNL ms
end
mutual
def wk (p : List Int) (i : Nat) : Mb → List (List Int × Mb)
 | .one d o => [(p ++ [(i : Int)], .one d o)]
 | .home x ms => (p ++ [(i : Int)], .home x ms) :: wkL (p ++ [(i : Int)]) 0 ms
def wkL (p : List Int) (i : Nat) : List Mb → List (List Int × Mb)
 | [] => []
 | m :: ms => wk p i m ++ wkL p (i + 1) ms
end
def ptD (q : List Int × Mb) : D := .tup [.tup (q.1.map D.int), mbD q.2]
mutual
theorem wk_len (p : List Int) (i : Nat) : ∀ m : Mb, (wk p i m).length = mbN m
 | .one _ _ => rfl
 | .home x ms => by
  show (wkL _ 0 ms).length + 1 = mbNL ms + 1
  rw [wkL_len _ 0 ms]
theorem wkL_len (p : List Int) (i : Nat) : ∀ ms : List Mb, (wkL p i ms).length = mbNL ms
 | [] => rfl
 | m :: ms => by
  show (wk p i m ++ wkL p (i + 1) ms).length = mbN m + mbNL ms
  rw [List.length_append, wk_len p i m, wkL_len p (i + 1) ms]
end
mutual
def mbOk : Mb → Prop
 | .one d _ => bare (dbD d) = true
 | .home x ms => (shortB 13 (.str x) = true ∧ okD (.str x) = true) ∧ mbOkL ms
def mbOkL : List Mb → Prop
 | [] => True
 | m :: ms => mbOk m ∧ mbOkL ms
end
theorem onD_bare {d : D} {o : One} (h : bare d = true) : bare (onD d o) = true := by
 show (true && (bare d && (bareL (o.rs.map D.int) && true))) = true
 rw [h, bareL_ints]
 rfl
mutual
theorem mb_bare : ∀ m : Mb, mbOk m → bare (mbD m) = true
 | .one d o, h => onD_bare h
 | .home x ms, h => by
  show (true && (true && (bareL (mbL ms) && true))) = true
  rw [mbL_bare ms h.2]
  rfl
theorem mbL_bare : ∀ ms : List Mb, mbOkL ms → bareL (mbL ms) = true
 | [], _ => rfl
 | m :: ms, h => by
  show (bare (mbD m) && bareL (mbL ms)) = true
  rw [mb_bare m h.1, mbL_bare ms h.2]
  rfl
end
mutual
theorem wk_ok (p : List Int) (i : Nat) : ∀ m : Mb, mbOk m → ∀ q, q ∈ wk p i m → mbOk q.2
 | .one d o, h, q, hq => by rw [List.mem_singleton.mp hq]; exact h
 | .home x ms, h, q, hq => by
  rcases List.mem_cons.mp hq with rfl | hq
  ·exact h
  ·exact wkL_ok _ 0 ms h.2 q hq
theorem wkL_ok (p : List Int) (i : Nat) : ∀ ms : List Mb, mbOkL ms → ∀ q, q ∈ wkL p i ms → mbOk q.2
 | [], _, q, hq => by cases hq
 | m :: ms, h, q, hq => by
  rcases List.mem_append.mp hq with hq | hq
  ·exact wk_ok p i m h.1 q hq
  ·exact wkL_ok p (i + 1) ms h.2 q hq
end
theorem pt_bare {qs : List (List Int × Mb)} (h : ∀ q, q ∈ qs → mbOk q.2) : bareL (qs.map ptD) = true := bareL_iff.mpr fun d hd => by
 obtain ⟨q, hq, rfl⟩ := List.mem_map.mp hd
 show (bareL (q.1.map D.int) && (bare (mbD q.2) && true)) = true
 rw [bareL_ints, mb_bare _ (h q hq)]
 rfl
noncomputable def b_members_in (k_members_in : Con) : SX := sSeq (sAsg (eBx (lDisp (aNil))) (gN 2)) (sSeq (sFor (iEnum' (eVar 0)) (gT 2 (gsCons (gN 3) (gsCons (gN 4) (gsNil)))) (sSeq (sExpr (eMt hAppend (eVar 2) (aCons (eTup (aCons (e2 fAdd (eVar 1) (eTup (aCons (eVar 3) (aNil)))) (aCons (eVar 4) (aNil)))) (aNil)))) (sIf (tOf (e2 fEq (e2 fIx (eVar 4) (eC (.int 0))) (eC (.str "house")))) (sExpr (eMt hExtend (eVar 2) (aCons (eCall k_members_in (aCons (e2 fIx (eVar 4) (eC (.int 2))) (aCons (e2 fAdd (eVar 1) (eTup (aCons (eVar 3) (aNil)))) (aNil)))) (aNil)))) (sNil)))) (sRet (eVar 2)))
noncomputable def b_ones (k_members_in : Con) : SX := sRet (eCB (fn1 gTuple) (aCons (eFz (lLc (iSeq (eCall k_members_in (aCons (e2 fIx (eVar 0) (eC (.int 1))) (aCons (eTup (aNil)) (aNil))))) (gT 2 (gsCons (gN 1) (gsCons (gN 2) (gsNil)))) (tOf (e2 fEq (e2 fIx (eVar 2) (eC (.int 0))) (eC (.str "one")))) (eTup (aCons (eVar 1) (aCons (eVar 2) (aNil)))) [1, 2])) (aNil)))
noncomputable def b_motes (k_ones : Con) : SX := sRet (eCB (fn1 gSum) (aCons (eFz (lLc (iSeq (eCall k_ones (aCons (eVar 0) (aNil)))) (gT 2 (gsCons (gN 2) (gsCons (gN 1) (gsNil)))) (tYes') (e2 fIx (eVar 1) (eC (.int 4))) [2, 1])) (aNil)))
noncomputable def cc_members_in : Nat → Con
 | 0 => fun _ _ => none
 | n + 1 => den 2 5 0 (b_members_in (cc_members_in n))
noncomputable def c_ones (n : Nat) : Con := den 1 3 0 (b_ones (cc_members_in n))
noncomputable def c_motes (n : Nat) : Con := den 1 3 0 (b_motes (c_ones n))
theorem CV_membersin : ∀ (fuel : Nat) (ms : List Mb) (p : List Int) {S : Sto} {Q : D → Sto → Prop}, mbOkL ms → mbTL ms < fuel → p.length + mbTL ms ≤ 1000 → mbNL ms ≤ 100000 → Q (.lst ((wkL p 0 ms).map ptD)) S → CV (cc_members_in fuel) [.tup (mbL ms), .tup (p.map D.int)] S Q := by
 intro fuel
 induction fuel with
 | zero => intro ms p S Q _ h; omega
 | succ fuel ih =>
  intro ms p S Q ok ht hp hn q
  refine CV_plain rfl ?_
  unfold b_members_in
  refine SV_cut fun G hG => ?_
  (simp_arith! [])
  refine hG _ _ ?_
  clear hG G
  refine SV_cut fun G hG => ?_
  (simp_arith! [enumD_eq])
  refine SV_forI (fun r e' S' => ∃ (us vs : List Mb) (i : Nat) (qs : List (List Int × Mb)) (x3 x4 : Option D), r = enumJ i (mbL us) ∧ qs ++ wkL p i us = wkL p 0 ms ∧ mbOkL us ∧ mbTL us ≤ mbTL ms ∧ mbNL us ≤ mbNL ms ∧ S' = S ++ [.lst (qs.map ptD)] ∧ e' = [some (.tup (mbL ms)), some (.tup (p.map D.int)), some (.ref S.length), x3, x4]) ⟨ms, [], 0, [], none, none, rfl, rfl, ok, Nat.le_refl _, Nat.le_refl _, rfl, rfl⟩ ?_ ?_
  ·rintro x r e' S' K ⟨us, vs, i, qs, x3, x4, hr, hq, hok, hmt, hmn, rfl, rfl⟩ hK
   cases us with
   | nil => cases hr
   | cons u us =>
    obtain ⟨rfl, rfl⟩ := List.cons.inj (show _ = D.tup [.int i, mbD u] :: enumJ (i + 1) (mbL us) from hr)
    have hmt : max (mbT u) (mbTL us) ≤ mbTL ms := hmt
    have hmn : mbN u + mbNL us ≤ mbNL ms := hmn
    have hql : qs.length + (mbN u + mbNL us) = mbNL ms := by
     have := congrArg List.length hq
     rw [List.length_append, wkL_len, wkL_len] at this
     exact this
    have ep : D.tup (p.map D.int ++ [.int (i : Int)]) = .tup ((p ++ [(i : Int)]).map D.int) := by rw [List.map_append]; rfl
    have szp : szOk (p.length + 1) = true := sz_le (by omega)
    refine GV_t.mpr ?_
    (simp_arith! [])
    refine ⟨by rw [List.length_map]; exact szp, ?_⟩
    rw [ep]
    refine ⟨_, box_last, ex_append.mpr ⟨sz_le (by rw [List.length_map]; have : 1 ≤ mbN u := (by cases u <;> simp [mbN]); omega), ?_⟩⟩
    rw [set_last]
    cases u with
    | one d o =>
     have f0 : ∀ T : Sto, fIx T (mbD (.one d o)) (.int 0) = some (.str "one") := fun _ => rfl
     have w1 : (("one" : Str) = ("house" : Str)) = False := eq_false (by decide +kernel)
     (simp_arith! [f0, w1])
     refine ⟨(fun n hn => nomatch hn), hK _ _ ⟨us, [], i + 1, qs ++ [(p ++ [(i : Int)], .one d o)], _, _, rfl, ?_, hok.2, by omega, by omega, ?_, rfl⟩⟩
     ·rw [← hq, List.append_assoc]; rfl
     ·rw [List.map_append (f := ptD)]; rfl
    | home x inner =>
     have f0 : ∀ T : Sto, fIx T (mbD (.home x inner)) (.int 0) = some (.str "house") := fun _ => rfl
     have f2 : ∀ T : Sto, fIx T (mbD (.home x inner)) (.int 2) = some (.tup (mbL inner)) := fun _ => rfl
     have e1 : mbT (.home x inner) = mbTL inner + 1 := rfl
     have e2 : mbN (.home x inner) = mbNL inner + 1 := rfl
     (simp_arith! [f0, f2])
     refine ⟨by rw [List.length_map]; exact szp, ?_⟩
     refine ih inner (p ++ [(i : Int)]) hok.1.2 (by omega) (by rw [List.length_append]; simp only [List.length_cons, List.length_nil]; omega) (by omega) ?_
     refine ⟨_, box_last, ex_extend.mpr ⟨sz_le (by rw [List.length_append, List.length_map, List.length_map, wkL_len]; simp only [List.length_cons, List.length_nil]; omega), ?_⟩⟩
     rw [set_last]
     refine ⟨(fun n hn => nomatch hn), hK _ _ ⟨us, [], i + 1, qs ++ wk p i (.home x inner), _, _, rfl, ?_, hok.2, by omega, by omega, ?_, rfl⟩⟩
     ·rw [← hq, List.append_assoc]; rfl
     ·rw [List.map_append (f := ptD), List.append_assoc]; rfl
  ·rintro e' S' ⟨us, vs, i, qs, x3, x4, hr, hq, hok, hmt, hmn, rfl, rfl⟩
   have : us = [] := by cases us with | nil => rfl | cons _ _ => cases hr
   subst this
   rw [show wkL p i [] = [] from rfl, List.append_nil] at hq
   subst hq
   refine hG _ _ ?_
   clear hG G
   (simp_arith! [])
   exact ⟨⟨_, rfl⟩, .inr ⟨_, _, rfl, Nat.le_refl _, get_last, pt_bare (wkL_ok p 0 ms ok), q⟩⟩
theorem LV_filtG {α : Type} {g : GX} {tt : TX} {te : EX} {gs : List Nat} {S0 S : Sto} {e0 : En} (g0 f : α → D) (c : α → Bool) (hg : ∀ n, n ∈ gs → S[n]? = S0[n]?) : ∀ {xs : List α},
  (∀ a (K : D → Sto → Prop), a ∈ xs → (c a = true → K (f a) S) → GV g (g0 a) e0 S fun e1 S1 => TV tt e1 S1 fun b S2 => b = c a ∧ S2 = S ∧ (c a = true → EV te e1 S2 K)) →
  LV g tt te gs S0 e0 (xs.map g0) S fun out S' => out = (xs.filter c).map f ∧ S' = S
 | [], _ => LV_nil.mpr ⟨rfl, rfl⟩
 | d :: ds, step => by
  refine LV_cons.mpr ?_
  have ih := LV_filtG (g := g) (tt := tt) (te := te) (gs := gs) (S0 := S0) (e0 := e0) g0 f c hg fun d K hd => step d K (List.mem_cons_of_mem _ hd)
  obtain ⟨e1, S1, h1, b, S2, h2, hb, hs, he⟩ := step d (fun y T => y = f d ∧ T = S) (List.mem_cons_self ..) (fun _ => ⟨rfl, rfl⟩)
  subst hs
  refine ⟨e1, S1, h1, b, S2, h2, ?_⟩
  cases hc : c d with
  | true =>
   rw [hc] at hb
   subst hb
   obtain ⟨y, S3, h3, hp, hi⟩ := he hc
   subst hi hp
   show (if true = true then _ else _)
   rw [if_pos rfl]
   exact ⟨_, _, h3, hg, ih.imp fun out S' q => ⟨by rw [List.filter_cons_of_pos hc, q.1]; rfl, q.2⟩⟩
  | false =>
   rw [hc] at hb
   subst hb
   show (if false = true then _ else _)
   rw [if_neg Bool.false_ne_true]
   exact ⟨hg, ih.imp fun out S' q => ⟨by rw [List.filter_cons_of_neg (by rw [hc]; exact Bool.false_ne_true), q.1], q.2⟩⟩
def isOne : Mb → Bool
 | .one _ _ => true
 | .home _ _ => false
def onesL (ms : List Mb) : List (List Int × Mb) := (wkL [] 0 ms).filter fun q => isOne q.2
def hsD (many : Nat) (ms : List Mb) : D := .tup [.int many, .tup (mbL ms)]
theorem CV_ones {S : Sto} {n many : Nat} {ms : List Mb} {Q : D → Sto → Prop} (ok : mbOkL ms) (ht : mbTL ms < n) (ht2 : mbTL ms ≤ 1000) (hn : mbNL ms ≤ 100000) (q : Q (.tup ((onesL ms).map ptD)) S) : CV (c_ones n) [hsD many ms] S Q := by
 refine CV_plain rfl ?_
 unfold b_ones
 have i1 : ∀ T : Sto, fIx T (hsD many ms) (.int 1) = some (.tup (mbL ms)) := fun _ => rfl
 (simp_arith! [i1])
 refine CV_membersin n ms [] ok ht (by simpa using ht2) hn ?_
 (simp_arith! [])
 have w1 : (("house" : Str) = ("one" : Str)) = False := eq_false (by decide +kernel)
 refine (LV_filtG ptD ptD (fun q => isOne q.2) (fun n _ => rfl) fun a K ha hK => ?_).imp fun out S2 q2 => ?_
 ·obtain ⟨p, m⟩ := a
  unfold ptD
  cases m with
  | one d o =>
   have f0 : ∀ T : Sto, fIx T (mbD (.one d o)) (.int 0) = some (.str "one") := fun _ => rfl
   (simp_arith! [f0])
   exact ⟨rfl, fun _ => hK rfl⟩
  | home x inner =>
   have f0 : ∀ T : Sto, fIx T (mbD (.home x inner)) (.int 0) = some (.str "house") := fun _ => rfl
   (simp_arith! [f0, w1])
   exact ⟨rfl, fun h => nomatch h⟩
 obtain ⟨rfl, rfl⟩ := q2
 have hl : (((wkL [] 0 ms).filter fun q => isOne q.2).map ptD).length ≤ 100000 := by
  rw [List.length_map]
  have := List.length_filter_le (fun q : List Int × Mb => isOne q.2) (wkL [] 0 ms)
  rw [wkL_len] at this
  omega
 refine ⟨sz_le (by omega), ?_⟩
 exact RtP_same (pt_bare fun q hq => wkL_ok [] 0 ms ok q (List.mem_filter.mp hq).1) q
mutual
def fl : Mb → List (Dbt × One)
 | .one d o => [(d, o)]
 | .home _ ms => flL ms
def flL : List Mb → List (Dbt × One)
 | [] => []
 | m :: ms => fl m ++ flL ms
end
def oneM (q : Dbt × One) : Mb := .one q.1 q.2
mutual
theorem fl_wk (p : List Int) (i : Nat) : ∀ m : Mb, (((wk p i m).filter fun q => isOne q.2).map fun q => q.2) = (fl m).map oneM
 | .one d o => rfl
 | .home x ms => by
  show ((((p ++ [(i : Int)], Mb.home x ms) :: wkL (p ++ [(i : Int)]) 0 ms).filter fun q => isOne q.2).map fun q => q.2) = (flL ms).map oneM
  rw [List.filter_cons_of_neg (by exact Bool.false_ne_true)]
  exact flL_wk _ 0 ms
theorem flL_wk (p : List Int) (i : Nat) : ∀ ms : List Mb, (((wkL p i ms).filter fun q => isOne q.2).map fun q => q.2) = (flL ms).map oneM
 | [] => rfl
 | m :: ms => by
  show (((wk p i m ++ wkL p (i + 1) ms).filter fun q => isOne q.2).map fun q => q.2) = (fl m ++ flL ms).map oneM
  rw [List.filter_append, List.map_append, List.map_append, fl_wk p i m, flL_wk p (i + 1) ms]
end
mutual
theorem fl_len : ∀ m : Mb, (fl m).length ≤ mbN m
 | .one _ _ => Nat.le_refl _
 | .home x ms => Nat.le_trans (flL_len ms) (Nat.le_succ _)
theorem flL_len : ∀ ms : List Mb, (flL ms).length ≤ mbNL ms
 | [] => Nat.le_refl _
 | m :: ms => by
  show (fl m ++ flL ms).length ≤ mbN m + mbNL ms
  rw [List.length_append]
  have := fl_len m
  have := flL_len ms
  omega
end
mutual
theorem fl_ok : ∀ m : Mb, mbOk m → ∀ q, q ∈ fl m → bare (dbD q.1) = true
 | .one d o, h, q, hq => by rw [List.mem_singleton.mp hq]; exact h
 | .home x ms, h, q, hq => flL_ok ms h.2 q hq
theorem flL_ok : ∀ ms : List Mb, mbOkL ms → ∀ q, q ∈ flL ms → bare (dbD q.1) = true
 | [], _, q, hq => by cases hq
 | m :: ms, h, q, hq => by
  rcases List.mem_append.mp hq with hq | hq
  ·exact fl_ok m h.1 q hq
  ·exact flL_ok ms h.2 q hq
end
structure OkO (many : Nat) (q : Dbt × One) : Prop where
 sc : q.1.scale < 5
 sl : q.1.stakes.length = many
 st : ∀ e, e ∈ q.1.stakes → exOk many e ∧ lev e < 9 ∧ lev e ≤ 20
 rg : Rg q.2.rs
 pu : sm (q.2.purse * 16)
def facO (q : Dbt × One) : Int := q.2.purse * 2 ^ (4 - q.1.scale)
def plS (sh : List Int) (acc : List Int) (q : Dbt × One) : List Int := (List.zip acc (q.1.stakes.map (wv q.2.rs sh))).map fun p => p.1 + facO q * p.2
def plL (many : Nat) (ms : List Mb) (sh : List Int) : List Int := (flL ms).foldl (plS sh) (List.replicate many 0)
noncomputable def b_lones (k_all : Con) : SX := sSeq (sAsg (eBx (lDisp (aNil))) (gN 1)) (sSeq (sFor (iSeq (eVar 0)) (gN 2) (sExpr (eMt hExtend (eVar 1) (aCons (eIf (tOf (e2 fEq (e2 fIx (eVar 2) (eC (.int 0))) (eC (.str "one")))) (eFz (lDisp (aCons (eVar 2) (aNil)))) (eCall k_all (aCons (e2 fIx (eVar 2) (eC (.int 2))) (aNil)))) (aNil))))) (sRet (eVar 1)))
noncomputable def cc_lones : Nat → Con
 | 0 => fun _ _ => none
 | n + 1 => den 1 3 0 (b_lones (cc_lones n))
def oqD (q : Dbt × One) : D := onD (dbD q.1) q.2
theorem oq_bare {qs : List (Dbt × One)} (h : ∀ q, q ∈ qs → bare (dbD q.1) = true) : bareL (qs.map oqD) = true := bareL_iff.mpr fun d hd => by
 obtain ⟨q, hq, rfl⟩ := List.mem_map.mp hd
 exact onD_bare (h q hq)
theorem CV_lones : ∀ (fuel : Nat) (ms : List Mb) {S : Sto} {Q : D → Sto → Prop}, mbOkL ms → mbTL ms < fuel → mbNL ms ≤ 100000 → Q (.lst ((flL ms).map oqD)) S → CV (cc_lones fuel) [.tup (mbL ms)] S Q := by
 intro fuel
 induction fuel with
 | zero => intro ms S Q _ h; omega
 | succ fuel ih =>
  intro ms S Q ok ht hn q
  refine CV_plain rfl ?_
  unfold b_lones
  refine SV_cut fun G hG => ?_
  (simp_arith! [])
  refine hG _ _ ?_
  clear hG G
  refine SV_cut fun G hG => ?_
  (simp_arith! [])
  refine SV_forI (fun r e' S' => ∃ (us : List Mb) (qs : List (Dbt × One)) (x2 : Option D), r = mbL us ∧ qs ++ flL us = flL ms ∧ mbOkL us ∧ mbTL us ≤ mbTL ms ∧ mbNL us ≤ mbNL ms ∧ S' = S ++ [.lst (qs.map oqD)] ∧ e' = [some (.tup (mbL ms)), some (.ref S.length), x2]) ⟨ms, [], none, rfl, rfl, ok, Nat.le_refl _, Nat.le_refl _, rfl, rfl⟩ ?_ ?_
  ·rintro x r e' S' K ⟨us, qs, x2, hr, hq, hok, hmt, hmn, rfl, rfl⟩ hK
   cases us with
   | nil => cases hr
   | cons u us =>
    obtain ⟨rfl, rfl⟩ := List.cons.inj (show _ = mbD u :: mbL us from hr)
    have hmt : max (mbT u) (mbTL us) ≤ mbTL ms := hmt
    have hmn : mbN u + mbNL us ≤ mbNL ms := hmn
    have hql : qs.length + (fl u).length ≤ 100000 := by
     have e1 := congrArg List.length hq
     have e2 := flL_len ms
     have e3 : (flL (u :: us)).length = (fl u).length + (flL us).length := by show (fl u ++ flL us).length = _; rw [List.length_append]
     rw [List.length_append, e3] at e1
     omega
    cases u with
    | one d o =>
     have f0 : ∀ T : Sto, fIx T (mbD (.one d o)) (.int 0) = some (.str "one") := fun _ => rfl
     (simp_arith! [f0])
     refine ⟨_, box_last, ex_extend.mpr ⟨sz_le (by rw [List.length_map]; exact Nat.le_trans hql (by decide)), ?_⟩⟩
     rw [set_last]
     refine ⟨(fun n hn => nomatch hn), hK _ _ ⟨us, qs ++ [(d, o)], _, rfl, ?_, hok.2, by omega, by omega, ?_, rfl⟩⟩
     ·rw [← hq, List.append_assoc]; rfl
     ·rw [List.map_append]; rfl
    | home x inner =>
     have f0 : ∀ T : Sto, fIx T (mbD (.home x inner)) (.int 0) = some (.str "house") := fun _ => rfl
     have f2 : ∀ T : Sto, fIx T (mbD (.home x inner)) (.int 2) = some (.tup (mbL inner)) := fun _ => rfl
     have e1 : mbT (.home x inner) = mbTL inner + 1 := rfl
     have e2 : mbN (.home x inner) = mbNL inner + 1 := rfl
     have w1 : (("house" : Str) = ("one" : Str)) = False := eq_false (by decide +kernel)
     (simp_arith! [f0, f2, w1])
     refine ih inner hok.1.2 (by omega) (by omega) ?_
     refine ⟨_, box_last, ex_extend.mpr ⟨sz_le (by rw [List.length_map, List.length_map]; exact Nat.le_trans hql (by decide)), ?_⟩⟩
     rw [set_last]
     refine ⟨(fun n hn => nomatch hn), hK _ _ ⟨us, qs ++ flL inner, _, rfl, ?_, hok.2, by omega, by omega, ?_, rfl⟩⟩
     ·rw [← hq, List.append_assoc]; rfl
     ·rw [List.map_append]
  ·rintro e' S' ⟨us, qs, x2, hr, hq, hok, hmt, hmn, rfl, rfl⟩
   have : us = [] := by cases us with | nil => rfl | cons _ _ => cases hr
   subst this
   rw [show flL [] = [] from rfl, List.append_nil] at hq
   subst hq
   refine hG _ _ ?_
   clear hG G
   (simp_arith! [])
   exact ⟨⟨_, rfl⟩, .inr ⟨_, _, rfl, Nat.le_refl _, get_last, oq_bare (flL_ok ms ok), q⟩⟩
def purM : Mb → Int
 | .one _ o => o.purse
 | .home _ _ => 0
theorem CV_motes {S : Sto} {n many : Nat} {ms : List Mb} {Q : D → Sto → Prop} (ok : mbOkL ms) (ht : mbTL ms < n) (ht2 : mbTL ms ≤ 1000) (hn : mbNL ms ≤ 100000) (q : Q (.int ((flL ms).map fun q => q.2.purse).sum) S) : CV (c_motes n) [hsD many ms] S Q := by
 refine CV_plain rfl ?_
 unfold b_motes
 (simp_arith! [])
 refine CV_ones ok ht ht2 hn ?_
 (simp_arith! [])
 refine (LV_mapG ptD (fun q => .int (purM q.2)) (fun n _ => rfl) fun a K ha hK => ?_).imp fun out S2 q2 => ?_
 ·obtain ⟨p, m⟩ := a
  have h1 : isOne m = true := (List.mem_filter.mp ha).2
  cases m with
  | home x inner => cases h1
  | one d o =>
   have f4 : ∀ T : Sto, fIx T (mbD (.one d o)) (.int 4) = some (.int o.purse) := fun _ => rfl
   unfold ptD
   (simp_arith! [f4])
   exact hK
 obtain ⟨rfl, rfl⟩ := q2
 have hl : (onesL ms).length ≤ 100000 := by
  have := List.length_filter_le (fun q : List Int × Mb => isOne q.2) (wkL [] 0 ms)
  rw [wkL_len] at this
  exact Nat.le_trans this hn
 refine ⟨sz_le (by rw [List.length_map]; omega), ?_⟩
 have e1 : ((onesL ms).map fun q => D.int (purM q.2)) = ((onesL ms).map fun q => purM q.2).map D.int := by rw [List.map_map]; rfl
 have e2 : ((onesL ms).map fun q => purM q.2) = (flL ms).map fun q => q.2.purse := by
  have h := congrArg (List.map purM) (flL_wk [] 0 ms)
  rw [List.map_map, List.map_map] at h
  exact h
 (simp_arith! [e1, e2])
 exact RtP_same rfl q
def col (sh : List Int) (s : Nat) (q : Dbt × One) : Int := facO q * (q.1.stakes.map (wv q.2.rs sh)).getD s 0
structure Hs (many l j : Nat) (ms : List Mb) : Prop where
 tl : mbTL ms ≤ 3
 nl : mbNL ms ≤ 4 * 24
 on : ∀ q, q ∈ flL ms → DbJ many l j q.1 ∧ OnOk q.2
theorem mbL_app : ∀ as bs : List Mb, mbL (as ++ bs) = mbL as ++ mbL bs
 | [], bs => rfl
 | a :: as, bs => by rw [List.cons_append, mbL, mbL, mbL_app as bs]; rfl
theorem flL_app : ∀ as bs : List Mb, flL (as ++ bs) = flL as ++ flL bs
 | [], bs => rfl
 | a :: as, bs => by rw [List.cons_append, flL, flL, flL_app as bs, List.append_assoc]
theorem mbTL_app : ∀ as bs : List Mb, mbTL (as ++ bs) = max (mbTL as) (mbTL bs)
 | [], bs => by show mbTL bs = max 0 (mbTL bs); omega
 | a :: as, bs => by rw [List.cons_append, mbTL, mbTL, mbTL_app as bs]; omega
theorem mbNL_app : ∀ as bs : List Mb, mbNL (as ++ bs) = mbNL as + mbNL bs
 | [], bs => by show mbNL bs = 0 + mbNL bs; omega
 | a :: as, bs => by rw [List.cons_append, mbNL, mbNL, mbNL_app as bs]; omega
theorem mbOkL_app : ∀ {as bs : List Mb}, mbOkL as → mbOkL bs → mbOkL (as ++ bs)
 | [], bs, _, h => h
 | a :: as, bs, h, g => ⟨h.1, mbOkL_app h.2 g⟩
theorem len_mb : ∀ ms : List Mb, ms.length ≤ mbNL ms
 | [] => Nat.le_refl _
 | a :: as => by
  show as.length + 1 ≤ mbN a + mbNL as
  have : 1 ≤ mbN a := by cases a <;> simp [mbN]
  have := len_mb as
  omega
structure Rh (many : Nat) (ms : List Mb) : Prop where
 tl : mbTL ms ≤ 3
 nl : mbNL ms ≤ 100
 ok : mbOkL ms
 on : ∀ q, q ∈ flL ms → DbG many q.1 ∧ OnOk q.2 ∧ Dat 8 852 (dbD q.1)
 fn : (flL ms).length ≤ 4
theorem short_ints {k : Nat} : ∀ {zs : List Int}, (∀ z, z ∈ zs → z.natAbs < 10 ^ k) → shortL k (zs.map D.int) = true
 | [], _ => rfl
 | z :: zs, h => by
  show (decide (z.natAbs < 10 ^ k) && shortL k (zs.map D.int)) = true
  rw [decide_eq_true (h z (List.mem_cons_self ..)), short_ints fun x hx => h x (List.mem_cons_of_mem _ hx)]
  rfl
theorem dep_ints : ∀ zs : List Int, depL (zs.map D.int) = 0
 | [] => rfl
 | z :: zs => by show max 0 (depL (zs.map D.int)) = 0; rw [dep_ints zs]; rfl
noncomputable def b_lawA (m : Int) (k_right k_hand : Con) : SX := sRet (eCB (fn1 gAll) (aCons (eFz (lLc (iRg1 (e2 fAdd (eC (.int 1)) (eCB (fn2 gMin2) (aCons (eC (.int m)) (aCons (eCB (fn1 gLen) (aCons (eVar 0) (aNil))) (aNil)))))) (gN 1) (tYes') (eCall k_right (aCons (eCall k_hand (aCons (eVar 0) (aCons (eVar 1) (aNil)))) (aNil))) [1])) (aNil)))
theorem law_all {m : Int} {k_right : Con} (hm : 0 ≤ m) (hm2 : m ≤ 1000) (hr : ∀ (S : Sto) (h : Nat), HD 0 S h → CV k_right [.ref h] S fun d S' => d = .bl true) (ns : List Int) :
  den 1 2 0 (b_lawA m k_right c_hand) [.rol (ns.map D.int)] [] = some (.bl true, []) := by
 refine CV.eq (CV_den rfl ?_)
 unfold b_lawA
 (simp_arith! [])
 have hb : ∀ z : Nat, 1 ≤ 1 + (if (z : Int) < m then (z : Int) else m) ∧ 1 + (if (z : Int) < m then (z : Int) else m) ≤ 1001 := fun z => by split <;> omega
 obtain ⟨b1, b2⟩ := hb (ns.map D.int).length
 generalize 1 + (if ((ns.map D.int).length : Int) < m then ((ns.map D.int).length : Int) else m) = z at *
 refine ⟨rg_ok (by omega) (by omega), ?_⟩
 refine (LV_all (fun k S' => True) (fun y => y = .bl true) trivial ?_).lc ?_
 ·rintro d k S1 K2 hd _ hK2
  obtain ⟨i, rfl, i0, i1⟩ := mem_rgD hd
  (simp_arith! [])
  refine CV_newhand i0 (by omega) fun o ho => ?_
  have h0 : HD 0 (S1 ++ [o]) S1.length := ⟨o, by simp, ho⟩
  (simp_arith! [])
  exact (hr _ _ h0).imp fun d S' q => hK2 _ _ (fun n hn => nomatch hn) q trivial
 ·rintro out S' ⟨hl, hp, _⟩
  rw [len_rgD] at hl
  refine ⟨sz_le (by omega), ?_⟩
  have ea : gAll S' (.lst out) = some (.bl true) := by
   show (boolsOf out).map _ = _
   rw [all_true hp]
   simp
  rw [ea]
  (simp_arith! [])
  exact ⟨Nat.zero_le _, (fun i ds hi => absurd hi (Nat.not_lt_zero _)), .bl true, rfl, rfl, rfl⟩
section
variable {X : Cx}
end
def dtp (as bs : List Int) : Int := ((List.zip as bs).map fun p => p.1 * p.2).sum
def isR (sh pl : List Int) : Bool := (List.zip sh pl).all fun p => decide (p.1 = 0) || decide (p.2 = maxL pl)
theorem dtp_cons (a b : Int) (as bs : List Int) : dtp (a :: as) (b :: bs) = a * b + dtp as bs := by
 unfold dtp
 rw [List.zip_cons_cons, List.map_cons, List.sum_cons]
structure Hm (many : Nat) (ms : List Mb) : Prop where
 tl : mbTL ms ≤ 3
 nl : mbNL ms ≤ 100
 ok : mbOkL ms
 on : ∀ q, q ∈ flL ms → OkO many q ∧ (0 ≤ q.2.purse ∧ q.2.purse ≤ 4 * 10 ^ 12) ∧ ∀ sh, Ctx many q.2.rs sh → ∀ e, e ∈ q.1.stakes → (wv q.2.rs sh e).natAbs ≤ 8000 * sh.sum.toNat
 fn : (flL ms).length ≤ 4
 dat : Dat 21 4800 (hsD many ms)
theorem on_dat2 {d : Dbt} {o : One} {dp c : Nat} (hdp : 1 ≤ dp) (h : Dat dp c (dbD d)) (rl : o.rs.length = 4) (rb : ∀ r, r ∈ o.rs → -1000 ≤ r ∧ r ≤ 1000) (h1 : o.weight.natAbs < 10 ^ 13) (h2 : o.purse.natAbs < 10 ^ 13) (h3 : o.owed.natAbs < 10 ^ 13) (h4 : o.days.natAbs < 10 ^ 13) (h5 : o.got.natAbs < 10 ^ 13) : Dat (dp + 1) (c + 30) (onD (dbD d) o) := by
 have r : Dat 1 8 (.tup (o.rs.map D.int)) := (Dat.ints fun n hn => by have := rb n hn; omega).mono (Nat.le_refl _) (by rw [rl]; exact Nat.le_refl _)
 have i : ∀ {z : Int}, z.natAbs < 10 ^ 13 → Dat dp 1 (.int z) := fun hz => (Dat.int hz).mono (Nat.zero_le _) (Nat.le_refl _)
 have w : Dat dp 1 (.str "one") := (Dat.word (by decide +kernel) (by decide +kernel)).mono (Nat.zero_le _) (Nat.le_refl _)
 exact (DatL.cons w (DatL.cons h (DatL.cons (r.mono hdp (Nat.le_refl _)) (DatL.cons (i (z := o.weight) h1) (DatL.cons (i (z := o.purse) h2) (DatL.cons (i (z := o.owed) h3) (DatL.cons (i (z := o.days) h4) (DatL.cons (i (z := o.got) h5) DatL.nil)))))))).tup.mono (Nat.le_refl _) (by omega)
end Pv
namespace L2
open PySem PySem.Spec PyProof.Rows
section
variable {X : Cx}
end
end L2
namespace Pv
open PySem PySem.Spec PyProof.Rows L2
section
variable {X : Cx}
end
noncomputable def b_purses (k__law_all_ones : Con) : SX := sRet (eCB (fn1 gSum) (aCons (eFz (lLc (iSeq (eCall k__law_all_ones (aCons (eVar 0) (aNil)))) (gN 1) (tYes') (e2 fIx (eVar 1) (eC (.int 4))) [1])) (aNil)))
noncomputable def c_purses (n : Nat) : Con := den 1 2 0 (b_purses (cc_lones n))
def goP : List Mb → List Nat → Option (List Mb)
 | ms, [] => some ms
 | ms, i :: is => match ms[i]? with
   | some (.home _ ks) => goP ks is
   | _ => none
def AtP (ms : List Mb) (pre : List Int) (q : List Int × Mb) : Prop := ∃ (is : List Nat) (j : Nat) (ks : List Mb), q.1 = pre ++ (is.map (fun i : Nat => (i : Int)) ++ [(j : Int)]) ∧ goP ms is = some ks ∧ ks[j]? = some q.2
mutual
theorem wk_at : ∀ (m : Mb) (pre : List Int) (i : Nat) (all : List Mb), all[i]? = some m → ∀ q, q ∈ wk pre i m → AtP all pre q
 | .one d o, pre, i, all, h, q, hq => by
  have hq : q ∈ [(pre ++ [(i : Int)], Mb.one d o)] := hq
  rw [List.mem_singleton.mp hq]
  exact ⟨[], i, all, rfl, rfl, h⟩
 | .home x ms, pre, i, all, h, q, hq => by
  have hq : q ∈ (pre ++ [(i : Int)], Mb.home x ms) :: wkL (pre ++ [(i : Int)]) 0 ms := hq
  rcases List.mem_cons.mp hq with rfl | hq
  ·exact ⟨[], i, all, rfl, rfl, h⟩
  ·obtain ⟨is, j, ks, h1, h2, h3⟩ := wkL_at ms (pre ++ [(i : Int)]) 0 ms rfl q hq
   refine ⟨i :: is, j, ks, by rw [h1]; simp, ?_, h3⟩
   unfold goP
   rw [h]
   exact h2
theorem wkL_at : ∀ (ms : List Mb) (pre : List Int) (i : Nat) (all : List Mb), all.drop i = ms → ∀ q, q ∈ wkL pre i ms → AtP all pre q
 | [], _, _, _, _, q, hq => nomatch (show q ∈ [] from hq)
 | m :: ms, pre, i, all, h, q, hq => by
  have hq : q ∈ wk pre i m ++ wkL pre (i + 1) ms := hq
  have h0 : all[i]? = some m := by
   have : (all.drop i)[0]? = some m := by rw [h]; rfl
   rw [List.getElem?_drop] at this
   exact this
  rcases List.mem_append.mp hq with hq | hq
  ·exact wk_at m pre i all h0 q hq
  ·refine wkL_at ms pre (i + 1) all ?_ q hq
   rw [← List.drop_drop, h]
   rfl
end
theorem cut_m1 {ds : List D} {x : D} : cutD (ds ++ [x]) none (some (-1)) = ds := by
 unfold cutD HT.sIx
 simp
 rw [show (-1 + ((ds.length : Int) + 1)).toNat = ds.length by omega, List.take_left]
theorem mbL_get {ms : List Mb} {j : Nat} {m : Mb} (h : ms[j]? = some m) : atI (mbL ms) (j : Int) = some (mbD m) := by
 rw [at_nat, mbL_map, List.getElem?_map, h]
 rfl
theorem CV_purses {S : Sto} {n : Nat} {ms : List Mb} {Q : D → Sto → Prop} (ok : mbOkL ms) (ht : mbTL ms < n) (hn : mbNL ms ≤ 100000) (q : Q (.int ((flL ms).map fun q => q.2.purse).sum) S) : CV (c_purses n) [.tup (mbL ms)] S Q := by
 refine CV_plain rfl ?_
 unfold b_purses
 (simp_arith! [])
 refine CV_lones n ms ok ht hn ?_
 (simp_arith! [])
 refine (LV_mapG oqD (fun q => .int q.2.purse) (fun n _ => rfl) fun p K hp hK => ?_).imp fun out S3 q2 => ?_
 ·have i4 : ∀ T : Sto, fIx T (oqD p) (.int 4) = some (.int p.2.purse) := fun _ => rfl
  (simp_arith! [i4])
  exact hK
 obtain ⟨rfl, rfl⟩ := q2
 have := flL_len ms
 refine ⟨sz_le (by rw [List.length_map]; omega), ?_⟩
 have ez : ((flL ms).map fun q => D.int q.2.purse) = ((flL ms).map fun q => q.2.purse).map D.int := by rw [List.map_map]; rfl
 (simp_arith! [ez])
 exact RtP_same rfl q
def row1 (qs : List (Dbt × One)) : List Mb := qs.map oneM
structure Hom (qs : List (Dbt × One)) (k : Nat) (m : Mb) : Prop where
 ok : mbOk m
 fm : ∀ q, q ∈ fl m → q ∈ qs
 fn : (fl m).length ≤ qs.length + k
 tm : mbT m ≤ 1 + k
 nm : mbN m ≤ qs.length + 1 + 2 * k
structure Pth (p : List Int) (i t n : Nat) (q : List Int × Mb) : Prop where
 len : q.1.length ≤ p.length + t + 1
 num : ∀ z, z ∈ q.1 → z ∈ p ∨ (0 ≤ z ∧ z ≤ ((i + n : Nat) : Int))
 t2 : mbT q.2 ≤ t
 n2 : mbN q.2 ≤ n
section
variable {X : Cx}
end
structure DayQ (many : Nat) (q : Dbt × One) : Prop where
 d : DayD many q.1
 rg : Rg q.2.rs
 pu : bt 5000 q.2.purse
 ow : bt 5000 q.2.owed
structure Dq (many : Nat) (q : Dbt × One) : Prop where
 g : DbG many q.1
 o : OnOk q.2
 dt : Dat 8 852 (dbD q.1)
structure Gq (many : Nat) (q : Dbt × One) : Prop where
 ok : OkO many q
 dd : DayD many q.1
 wb : ∀ sh, Ctx many q.2.rs sh → ∀ e, e ∈ q.1.stakes → (wv q.2.rs sh e).natAbs ≤ 8000 * sh.sum.toNat
 pu : 0 ≤ q.2.purse ∧ q.2.purse ≤ 4 * 10 ^ 12
 ow : 0 ≤ q.2.owed ∧ q.2.owed ≤ 98
 br : bare (dbD q.1) = true
theorem r_eq_tups {S : Sto} {as bs : List D} (k : Nat) (h : shortL k as = true) (g : shortL k bs = true) (h1 : depL as ≤ 60) (g1 : depL bs ≤ 60) (hk : 0 < k := by decide) : fEq S (.tup as) (.tup bs) = some (.bl (PyData.eqv (pd (.tup as)) (pd (.tup bs)))) := by
 have h2 := pdS_short (S := S) (d := .tup as) hk h
 have h3 := shaped_short (d := .tup as) hk h (by show depL as + 1 ≤ 64; omega)
 have g2 := pdS_short (S := S) (d := .tup bs) hk g
 have g3 := shaped_short (d := .tup bs) hk g (by show depL bs + 1 ≤ 64; omega)
 show ((pdS S (.tup as)).bind fun p => (pdS S (.tup bs)).bind fun q => if (SeqAt.shaped p && SeqAt.shaped q) = true then some (D.bl (PyData.eqv p q)) else none) = _
 rw [h2, g2]
 show (if (SeqAt.shaped (pd (.tup as)) && SeqAt.shaped (pd (.tup bs))) = true then some (D.bl (PyData.eqv (pd (.tup as)) (pd (.tup bs)))) else none) = _
 rw [h3, g3]
 rfl
structure An (many : Nat) (d : Dbt) : Prop where
 g : DbG many d
 br : bare (dbD d) = true
section
variable {X : Cx}
end
abbrev Vc := List Int
def vcD (v : Vc) : D := .tup (v.map D.int)
def Bv (k : Nat) (v : Vc) : Prop := ∀ x, x ∈ v → bt k x
def val (f p : Vc) : Int := dtp f p
def ngv (f : Vc) : Vc := f.map fun x => -x
def sbv (f g : Vc) : Vc := (f.zip g).map fun p => p.1 - p.2
def adv (f g : Vc) : Vc := (f.zip g).map fun p => p.1 + p.2
def lowV (r : Vc) : Vc := r.map (· / gcdF 0 r)
def mlv (c : Int) (f : Vc) : Vc := f.map fun x => c * x
def bdr (i : Nat) (k : Int) (many : Nat) : Vc := (List.range many).map fun j => 1000 * (if i = j then 1 else 0) - k
def unitV (many i : Nat) : Vc := (List.range many).map fun j => if i = j then 1 else 0
def unitsV (many : Nat) : List Vc := (List.range many).map (unitV many)
theorem eqv_ints (xs ys : List Int) : PyData.eqv (pd (vcD xs)) (pd (vcD ys)) = decide (xs = ys) := by
 show PyData.eqvAll (pdL (xs.map D.int)) (pdL (ys.map D.int)) = _
 induction xs generalizing ys with
 | nil =>
  cases ys with
  | nil => rfl
  | cons y ys => rfl
 | cons x xs ih =>
  cases ys with
  | nil => rfl
  | cons y ys =>
   show (PyData.eqv (.int x) (.int y) && PyData.eqvAll (pdL (xs.map D.int)) (pdL (ys.map D.int))) = _
   rw [ih ys]
   have : PyData.eqv (.int x) (.int y) = decide (x = y) := rfl
   rw [this, ← Bool.decide_and]
   congr 1
   simp
structure Pt (m : Nat) (p : Vc) : Prop where
 len : p.length = m
 pos : ∀ x, x ∈ p → 0 ≤ x
 nz : ∃ x, x ∈ p ∧ x ≠ 0
 bd : Bv 900 p
structure Fm (m : Nat) (f : Vc) : Prop where
 len : f.length = m
 bd : Bv 300 f
def absZ (z : Int) : Int := if z < 0 then -z else z
def crs (f a b : Vc) : Vc := lowV ((a.zip b).map fun p => p.1 * absZ (val f b) + p.2 * absZ (val f a))
def prv (cs : List Vc) (i : Nat) : Vc := cs.getD (if i = 0 then cs.length - 1 else i - 1) []
def kpC (f : Vc) (acc : List Vc) (a b : Vc) : List Vc := if val f a * val f b < 0 then (if crs f a b ∈ acc then acc else acc ++ [crs f a b]) else acc
def kpS (f : Vc) (acc : List Vc) (a b : Vc) : List Vc := if 0 ≤ val f b ∧ b ∉ kpC f acc a b then kpC f acc a b ++ [b] else kpC f acc a b
def kpA (cs : List Vc) (f : Vc) : Nat → List Vc
 | 0 => []
 | i + 1 => kpS f (kpA cs f i) (prv cs i) (cs.getD i [])
def kp (cs : List Vc) (f : Vc) : List Vc := kpA cs f cs.length
theorem SV_cutG {f g : SX} {e : En} {S : Sto} {Q : Out → Prop} (h : ∀ G : En → Sto → Prop, (∀ e' S', SV g e' S' Q → G e' S') → SV f e S (then_ Q G)) : SV (sSeq f g) e S Q := SV_seq.mpr (h _ fun _ _ z => z)
theorem GV_t2 {i j : Nat} {x y : D} {e : En} {S : Sto} {QE : En → Sto → Prop} : GV (gT 2 (gsCons (gN i) (gsCons (gN j) gsNil))) (.tup [x, y]) e S QE ↔ QE ((e.set i (some x)).set j (some y)) S := by
 (simp_arith! [])
def bareC (cs ss : List Vc) : Bool := cs.isEmpty || ss.any fun f => cs.all fun c => decide (val f c ≤ 0)
abbrev Cl := List Vc × List Vc
def hvL (c : Cl) (f : Vc) (j : Bool) : Cl := (kp c.1 (ngv f), c.2 ++ (if j = true then [ngv f] else []))
def hvH (c : Cl) (f : Vc) : Cl := (kp c.1 f, c.2)
def unB (c : Cl) : Option Cl := if bareC c.1 c.2 = true then none else some c
def hvC (c : Cl) (f : Vc) (j : Bool) : Option Cl × Option Cl :=
 if j = false ∧ (c.1.all fun p => decide (0 ≤ val f p)) = true then (none, some c)
 else if j = false ∧ (c.1.all fun p => decide (val f p ≤ 0)) = true then (some c, none)
 else (unB (hvL c f j), unB (hvH c f))
structure CeB (m : Nat) (c : Cl) : Prop where
 pt : ∀ p, p ∈ c.1 → Pt m p
 st : ∀ f, f ∈ c.2 → Fm m f
 l1 : c.1.length ≤ 400000
 l2 : c.2.length ≤ 400000
def cutOf (c : Cl) (f : Vc) (j : Bool) : List Vc := if (hvC c f j).1.isSome = true ∧ (hvC c f j).2.isSome = true then [f] else []
inductive Pw where
 | sum | les | lst | mst
def halfP (o : Option Cl) (f : Vc) : List (Cl × Vc) := match o with
 | none => []
 | some c => [(c, f)]
def chsP (w : Pw) (c : Cl) (a b : Vc) : List (Cl × Vc) := match w with
 | .sum => [(c, adv a b)]
 | .les => [(c, sbv a b)]
 | .lst => halfP (hvC c (sbv a b) false).1 a ++ halfP (hvC c (sbv a b) false).2 b
 | .mst => halfP (hvC c (sbv a b) false).1 b ++ halfP (hvC c (sbv a b) false).2 a
def chsC (w : Pw) (c : Cl) (a b : Vc) : List Vc := match w with
 | .sum => []
 | .les => []
 | .lst => cutOf c (sbv a b) false
 | .mst => cutOf c (sbv a b) false
def shrV (m i : Nat) : Vc := (List.range m).map fun s => 1000 * (if s = i then 1 else 0)
def prsP (w : Pw) (g : Cl → List (Cl × Vc)) (qs : List (Cl × Vc)) : List (Cl × Vc) := qs.flatMap fun q => (g q.1).flatMap fun r => chsP w r.1 q.2 r.2
def prsC (w : Pw) (g : Cl → List (Cl × Vc)) (h : Cl → List Vc) (qs : List (Cl × Vc)) : List Vc := qs.flatMap fun q => h q.1 ++ (g q.1).flatMap fun r => chsC w r.1 q.2 r.2
def onO {α : Type} (g : Cl → List α) : Option Cl → List α
 | none => []
 | some c => g c
def pcsP (rs : List Int) (m : Nat) : Xp → Cl → List (Cl × Vc)
 | .fig n, c => [(c, List.replicate m n)]
 | .reg i, c => [(c, List.replicate m (rs.getD i 0))]
 | .shr i, c => [(c, shrV m i)]
 | .tim n a, c => (pcsP rs m a c).map fun q => (q.1, mlv n q.2)
 | .byr i a, c => (pcsP rs m a c).map fun q => (q.1, mlv (rs.getD i 0) q.2)
 | .whn i f a b, c => if rs.getD i 0 < f then pcsP rs m a c else pcsP rs m b c
 | .whr i k a b, c => onO (pcsP rs m a) (hvC c (bdr i k m) true).1 ++ onO (pcsP rs m b) (hvC c (bdr i k m) true).2
 | .sum a b, c => prsP .sum (pcsP rs m b) (pcsP rs m a c)
 | .les a b, c => prsP .les (pcsP rs m b) (pcsP rs m a c)
 | .lst a b, c => prsP .lst (pcsP rs m b) (pcsP rs m a c)
 | .mst a b, c => prsP .mst (pcsP rs m b) (pcsP rs m a c)
def pcsC (rs : List Int) (m : Nat) : Xp → Cl → List Vc
 | .fig _, _ => []
 | .reg _, _ => []
 | .shr _, _ => []
 | .tim _ a, c => pcsC rs m a c
 | .byr _ a, c => pcsC rs m a c
 | .whn i f a b, c => if rs.getD i 0 < f then pcsC rs m a c else pcsC rs m b c
 | .whr i k a b, c => cutOf c (bdr i k m) true ++ (onO (pcsC rs m a) (hvC c (bdr i k m) true).1 ++ onO (pcsC rs m b) (hvC c (bdr i k m) true).2)
 | .sum a b, c => pcsC rs m a c ++ prsC .sum (pcsP rs m b) (pcsC rs m b) (pcsP rs m a c)
 | .les a b, c => pcsC rs m a c ++ prsC .les (pcsP rs m b) (pcsC rs m b) (pcsP rs m a c)
 | .lst a b, c => pcsC rs m a c ++ prsC .lst (pcsP rs m b) (pcsC rs m b) (pcsP rs m a c)
 | .mst a b, c => pcsC rs m a c ++ prsC .mst (pcsP rs m b) (pcsC rs m b) (pcsP rs m a c)
def ncX : Xp → Nat
 | .fig _ => 0
 | .reg _ => 0
 | .shr _ => 0
 | .tim _ a => ncX a
 | .byr _ a => ncX a
 | .whn _ _ a b => ncX a + ncX b
 | .whr _ _ a b => 1 + (ncX a + ncX b)
 | .sum a b => ncX a + ncX b + 1
 | .les a b => ncX a + ncX b + 1
 | .lst a b => ncX a + ncX b + 1
 | .mst a b => ncX a + ncX b + 1
def npX : Xp → Nat
 | .fig _ => 1
 | .reg _ => 1
 | .shr _ => 1
 | .tim _ a => npX a
 | .byr _ a => npX a
 | .whn _ _ a b => max (npX a) (npX b)
 | .whr _ _ a b => npX a + npX b
 | .sum a b => npX a * npX b
 | .les a b => npX a * npX b
 | .lst a b => 2 * (npX a * npX b)
 | .mst a b => 2 * (npX a * npX b)
structure Geo (m : Nat) (PG : Nat → List Vc → Prop) : Prop where
 hm : m = 2 ∨ m = 3
 pt : ∀ {k : Nat} {cs : List Vc}, PG k cs → (∀ p, p ∈ cs → Pt m p) ∧ cs.length ≤ k
 kp : ∀ {k : Nat} {cs : List Vc} {f : Vc}, PG k cs → Fm m f → PG (k + 1) (kp cs f)
 mo : ∀ {k j : Nat} {cs : List Vc}, PG k cs → k ≤ j → PG j cs
 un : PG 3 (unitsV m)
structure Ce (m : Nat) (PG : Nat → List Vc → Prop) (k : Nat) (c : Cl) : Prop where
 pg : PG k c.1
 st : ∀ f, f ∈ c.2 → Fm m f
 sl : c.2.length ≤ k
 ne : c.1 ≠ []
section
variable {m : Nat} {PG : Nat → List Vc → Prop}
end
section
variable {m : Nat} {PG : Nat → List Vc → Prop}
structure Pf (m l : Nat) (f : Vc) : Prop where
 len : f.length = m
 bd : Bv (10 * (l + 1)) f
end
section
variable {m : Nat} {PG : Nat → List Vc → Prop}
end
section
variable {m : Nat} {PG : Nat → List Vc → Prop}
end
abbrev Fd := Cl × List Vc
structure Tk where
 rs : List Int
 e : Xp
 fac : Int
 s : Nat
def wsQ (m : Nat) (t : Tk) (q : Fd) : List Fd := (pcsP t.rs m t.e q.1).map fun r => (r.1, q.2.set t.s (adv (q.2.getD t.s []) (mlv t.fac r.2)))
def wsP (m : Nat) (t : Tk) (fs : List Fd) : List Fd := fs.flatMap (wsQ m t)
def wsC (m : Nat) (t : Tk) (fs : List Fd) : List Vc := fs.flatMap fun q => pcsC t.rs m t.e q.1
section
variable {m : Nat} {PG : Nat → List Vc → Prop}
structure Fo (m : Nat) (PG : Nat → List Vc → Prop) (k j : Nat) (q : Fd) : Prop where
 ce : Ce m PG k q.1
 pl : q.2.length = m
 pf : ∀ f, f ∈ q.2 → f.length = m ∧ Bv (190 + j) f
structure TkOk (m : Nat) (t : Tk) : Prop where
 rg : Rg t.rs
 ok : exOk m t.e
 lv : lev t.e ≤ 11
 fc : bt 70 t.fac
 sg : t.s < m
end
def tkO (q : Dbt × One) (s : Nat) : Tk := ⟨q.2.rs, q.1.stakes.getD s (.fig 0), facO q, s⟩
def tksQ (m : Nat) (q : Dbt × One) : List Tk := if q.2.purse > 0 then (List.range m).map (tkO q) else []
def tksL (m : Nat) (qs : List (Dbt × One)) : List Tk := qs.flatMap (tksQ m)
def prP (m : Nat) (ts : List Tk) (fs : List Fd) : List Fd := ts.foldl (fun fs t => wsP m t fs) fs
def Fits (m : Nat) : List Tk → List Fd → Nat → Prop
 | [], _, _ => True
 | t :: ts, fs, n => (wsP m t fs).length ≤ 11000000 ∧ n + (wsC m t fs).length + npX t.e ≤ 16000000 ∧ Fits m ts (wsP m t fs) (n + (wsC m t fs).length)
def ncT (ts : List Tk) : Nat := (ts.map fun t => ncX t.e).sum
section
variable {m : Nat} {PG : Nat → List Vc → Prop}
def zerosF (m : Nat) : List Vc := List.replicate m (List.replicate m 0)
end
def sups (m : Nat) : List (List Nat) := if m = 2 then [[0], [1], [0, 1]] else [[0], [1], [2], [0, 1], [0, 2], [1, 2], [0, 1, 2]]
def sumV (m : Nat) (ps : List Vc) : Vc := (List.range m).map fun s => (ps.map fun p => p.getD s 0).sum
def togV (m : Nat) (ps : List Vc) : Vc := lowV (sumV m ps)
def lesF (pulls : List Vc) (t : List Nat) (s : Nat) : Vc := sbv (pulls.getD (t.getD 0 0) []) (pulls.getD s [])
def negU (m s : Nat) : Vc := (List.range m).map fun p => -(if s = p then 1 else 0)
def othF (m : Nat) (pulls : List Vc) (t : List Nat) (s : Nat) : Vc := if s ∈ t then ngv (lesF pulls t s) else negU m s
def riT (m : Nat) (pulls : List Vc) (t : List Nat) (left : List Vc) (s : Nat) : List Vc := kp (kp left (lesF pulls t s)) (othF m pulls t s)
def riL (m : Nat) (cs : List Vc) (pulls : List Vc) (t : List Nat) : List Vc := (List.range m).foldl (riT m pulls t) cs
def riS (m : Nat) (c : Cl) (pulls : List Vc) (t : List Nat) : Option Vc := if riL m c.1 pulls t ≠ [] ∧ bareC (riL m c.1 pulls t) c.2 = false then some (togV m (riL m c.1 pulls t)) else none
def riA (m : Nat) (q : Fd) : Option Vc := (sups m).findSome? (riS m q.1 q.2)
section
variable {m : Nat} {PG : Nat → List Vc → Prop}
def fdA (m : Nat) (ms : List Mb) : Option Vc := (prP m (tksL m (flL ms)) [((unitsV m, []), zerosF m)]).findSome? (riA m)
end
theorem val_cons (a b : Int) (f p : Vc) : val (a :: f) (b :: p) = a * b + val f p := dtp_cons ..
theorem val_ml (c : Int) (f p : Vc) : val (mlv c f) p = c * val f p := by
 induction f generalizing p with
 | nil => show (0 : Int) = c * 0; rw [Int.mul_zero]
 | cons a f ih =>
  cases p with
  | nil => show (0 : Int) = c * 0; rw [Int.mul_zero]
  | cons b p =>
   show val (c * a :: mlv c f) (b :: p) = _
   rw [val_cons, val_cons, ih, Int.mul_add, Int.mul_assoc]
theorem val_ad : ∀ (f g p : Vc), f.length = g.length → val (adv f g) p = val f p + val g p
 | [], [], p, _ => rfl
 | [], _ :: _, _, h => by cases h
 | _ :: _, [], _, h => by cases h
 | a :: f, b :: g, [], _ => rfl
 | a :: f, b :: g, c :: p, h => by
  show val ((a + b) :: adv f g) (c :: p) = _
  rw [val_cons, val_cons, val_cons, val_ad f g p (by simpa using h), Int.add_mul]; omega
theorem val_rep (n : Int) : ∀ (m : Nat) (p : Vc), p.length = m → val (List.replicate m n) p = n * p.sum
 | 0, [], _ => by show (0 : Int) = n * 0; rw [Int.mul_zero]
 | 0, _ :: _, h => by cases h
 | m + 1, [], h => by cases h
 | m + 1, b :: p, h => by
  rw [List.replicate_succ, val_cons, val_rep n m p (by simpa using h), List.sum_cons, Int.mul_add]
structure Px (m : Nat) (x : Vc) : Prop where
 len : x.length = m
 pos : ∀ z, z ∈ x → 0 ≤ z
 nz : ∃ z, z ∈ x ∧ z ≠ 0
theorem Px.sum {m : Nat} {x : Vc} (h : Px m x) : 0 < x.sum := by
 obtain ⟨z, hz, h0⟩ := h.nz
 have := (sum_pos_mem x h.pos).2 z hz
 have := h.pos z hz
 omega
def Inn (m : Nat) (cs : List Vc) (x : Vc) : Prop := ∀ g : Vc, g.length = m → (∀ c, c ∈ cs → 0 ≤ val g c) → 0 ≤ val g x
def InC (m : Nat) (c : Cl) (x : Vc) : Prop := Inn m c.1 x ∧ ∀ f, f ∈ c.2 → 0 < val f x
section
variable {m : Nat} {PG : Nat → List Vc → Prop}
def SN (c : Cl) : Prop := ∀ f, f ∈ c.2 → ∀ p, p ∈ c.1 → 0 ≤ val f p
end
section
variable {m : Nat} {PG : Nat → List Vc → Prop}
end
section
variable {m : Nat} {PG : Nat → List Vc → Prop}
end
def Cov (m : Nat) (PG : Nat → List Vc → Prop) : Prop := ∀ {k : Nat} {cs : List Vc} {f x : Vc}, PG k cs → Fm m f → Inn m cs x → 0 ≤ val f x → Inn m (kp cs f) x
section
variable {m : Nat} {PG : Nat → List Vc → Prop}
theorem val_comm : ∀ f g : Vc, val f g = val g f
 | [], [] => rfl
 | [], _ :: _ => rfl
 | _ :: _, [] => rfl
 | a :: f, b :: g => by rw [val_cons, val_cons, val_comm f g, Int.mul_comm]
end
def dt (a b : Vc) : Int := a.getD 0 0 * b.getD 1 0 - a.getD 1 0 * b.getD 0 0
def SI (p : Vc) (c : List Vc) : Prop := ∃ a, a ∈ c ∧ ∃ b, b ∈ c ∧ 0 < dt a p ∧ 0 < dt p b
def ND (c : List Vc) : Prop := ∃ a, a ∈ c ∧ ∃ b, b ∈ c ∧ 0 < dt a b
open Classical in
noncomputable def pot (p : Vc) (c : Cl) : Nat := if Px 2 p ∧ ND c.1 then (if SI p c.1 then 3 else if InC 2 c p then 1 else 0) else 0
def zr (d : Vc) : Vc := if d.getD 0 0 < 0 then [d.getD 1 0, -d.getD 0 0] else [-d.getD 1 0, d.getD 0 0]
def lvs (rs : List Int) (m : Nat) : Xp → List Vc
 | .fig n => [List.replicate m n]
 | .reg i => [List.replicate m (rs.getD i 0)]
 | .shr i => [shrV m i]
 | .tim n a => (lvs rs m a).map (mlv n)
 | .byr i a => (lvs rs m a).map (mlv (rs.getD i 0))
 | .whn i f a b => if rs.getD i 0 < f then lvs rs m a else lvs rs m b
 | .whr _ _ a b => lvs rs m a ++ lvs rs m b
 | .sum a b => (lvs rs m a).flatMap fun x => (lvs rs m b).map (adv x)
 | .les a b => (lvs rs m a).flatMap fun x => (lvs rs m b).map (sbv x)
 | .lst a b => lvs rs m a ++ lvs rs m b
 | .mst a b => lvs rs m a ++ lvs rs m b
def brs (rs : List Int) (m : Nat) : Xp → List Vc
 | .fig _ => []
 | .reg _ => []
 | .shr _ => []
 | .tim _ a => brs rs m a
 | .byr _ a => brs rs m a
 | .whn i f a b => if rs.getD i 0 < f then brs rs m a else brs rs m b
 | .whr i k a b => bdr i k m :: (brs rs m a ++ brs rs m b)
 | .sum a b => brs rs m a ++ brs rs m b ++ []
 | .les a b => brs rs m a ++ brs rs m b ++ []
 | .lst a b => brs rs m a ++ brs rs m b ++ (lvs rs m a).flatMap fun x => (lvs rs m b).map (sbv x)
 | .mst a b => brs rs m a ++ brs rs m b ++ (lvs rs m a).flatMap fun x => (lvs rs m b).map (sbv x)
noncomputable def potB (fs : List Vc) (c : Cl) : Nat := (fs.map fun f => pot (zr f) c).sum
structure Cnt (rs : List Int) (e : Xp) (c : Cl) : Prop where
 fo : ∀ q, q ∈ pcsP rs 2 e c → q.2 ∈ lvs rs 2 e
 po : ∀ p, ((pcsP rs 2 e c).map fun q => pot p q.1).sum ≤ pot p c
 ln : (pcsP rs 2 e c).length ≤ 1 + potB (brs rs 2 e) c
 cu : (pcsC rs 2 e c).length ≤ potB (brs rs 2 e) c
namespace B
structure Ctx (many : Nat) (rs sh : List Int) : Prop where
 rl : rs.length = 4
 rb : ∀ r, r ∈ rs → -1000 ≤ r ∧ r ≤ 1000
 sl : sh.length = many
 sp : ∀ s, s ∈ sh → 0 ≤ s
 st : sh.sum ≤ 10 ^ 300
section
variable {many : Nat} {rs sh : List Int}
end
end B
namespace B
end B
theorem sq_le {x y : Nat} (hx : 2 ≤ x) (hy : 2 ≤ y) : 4 * (x * x) ≤ x * y * (x * y) ∧ 4 * (y * y) ≤ x * y * (x * y) ∧ 4 * (x * y) ≤ x * y * (x * y) ∧ x + y ≤ x * y := by
 have h1 : 2 * 2 ≤ x * y := Nat.mul_le_mul hx hy
 have h2 : 2 * 2 ≤ x * x := Nat.mul_le_mul hx hx
 have h3 : 2 * 2 ≤ y * y := Nat.mul_le_mul hy hy
 have e : x * y * (x * y) = x * x * (y * y) := by grind
 refine ⟨?_, ?_, Nat.mul_le_mul_right _ h1, ?_⟩
 ·rw [e, Nat.mul_comm 4]; exact Nat.mul_le_mul_left _ h3
 ·rw [e]; exact Nat.mul_le_mul_right _ h2
 ·obtain ⟨a, rfl⟩ : ∃ a, x = a + 2 := ⟨x - 2, by omega⟩
  obtain ⟨b, rfl⟩ : ∃ b, y = b + 2 := ⟨y - 2, by omega⟩
  have : (a + 2) * (b + 2) = a * b + 2 * a + 2 * b + 4 := by grind
  omega
structure Fine (m z : Nat) (q : Dbt × One) : Prop where
 oko : OkO m q
 pu : 0 ≤ q.2.purse
 fc : bt 70 (facO q)
 st : ∀ e, e ∈ q.1.stakes → lev e ≤ 6 ∧ szX e ≤ z
structure KDm (K : PySem.W.Frag) (mg : Str → Option Value) (x : Str) (kvs : List (Int × Int)) : Prop where
 ex : ∃ (a : Addr) (es : Array DictEntry) (n : Nat), mg x = some (.ref a) ∧ K.lookup a = some ⟨.type "dict", none, .dict es n, #[]⟩ ∧ kdEs kvs es.toList = true
theorem kdB_ok {K : PySem.W.Frag} {h : Heap} {mg : Str → Option Value} (X : K.In h) (G : h.Ns mainGlobals mg) {x : Str} {d : List (Int × Int)} (c : kdB K (x, d) = true) : KDm K mg x d := by
 unfold kdB at c
 simp only at c
 split at c
 ·rename_i a e
  split at c
  ·rename_i c' es n sl q
   obtain ⟨h1, h2⟩ := Bool.and_eq_true_iff.mp c
   obtain ⟨h3, h4⟩ := Bool.and_eq_true_iff.mp h2
   have e1 : c' = "dict" := of_decide_eq_true h1
   have e2 : sl = #[] := Array.isEmpty_iff.mp h3
   subst e1 e2
   exact ⟨a, es, n, PySem.W.mg_of X G e, q, h4⟩
  ·cases c
 ·cases c
def kdGet (kvs : List (Int × Int)) (k : Int) : Option Int := (kvs.find? fun z => decide (z.1 = k)).map (·.2)
theorem kd_entry : ∀ (kvs : List (Int × Int)) (es : List DictEntry), kdEs kvs es = true → ∀ e, e ∈ es → ∃ k t, e.key = .int k t ∧ e.hash = hashInt k
 | [], es, h, e, he => by
  have : es = [] := List.isEmpty_iff.mp h
  subst this
  cases he
 | q :: r, [], h, e, he => by cases he
 | q :: r, e0 :: es, h, e, he => by
  obtain ⟨h1, h2⟩ := Bool.and_eq_true_iff.mp (show (_ && _) = true from h)
  obtain ⟨h3, h4⟩ := Bool.and_eq_true_iff.mp h2
  obtain ⟨h5, h6⟩ := Bool.and_eq_true_iff.mp h4
  rcases List.mem_cons.mp he with rfl | he
  ·split at h1
   ·rename_i j t ek
    have : j = q.1 := of_decide_eq_true h1
    subst this
    exact ⟨_, _, ek, of_decide_eq_true h3⟩
   ·cases h1
  ·exact kd_entry r es h6 e he
theorem kd_find : ∀ (kvs : List (Int × Int)) (es : List DictEntry) (k v : Int), kdEs kvs es = true → kdGet kvs k = some v → ∃ (e : DictEntry) (t : Tok), es.find? (fun d => Value.isInt k d.key) = some e ∧ e.val = .int v t
 | [], es, k, v, h, g => by cases g
 | q :: r, [], k, v, h, g => by cases h
 | q :: r, e0 :: es, k, v, h, g => by
  obtain ⟨h1, h2⟩ := Bool.and_eq_true_iff.mp (show (_ && _) = true from h)
  obtain ⟨h3, h4⟩ := Bool.and_eq_true_iff.mp h2
  obtain ⟨h5, h6⟩ := Bool.and_eq_true_iff.mp h4
  split at h1
  ·rename_i j t ek
   have hj : j = q.1 := of_decide_eq_true h1
   subst hj
   split at h5
   ·rename_i j2 t2 ev
    have hj2 : j2 = q.2 := of_decide_eq_true h5
    subst hj2
    by_cases hk : q.1 = k
    ·have : q.2 = v := by simpa [kdGet, hk] using g
     subst this
     exact ⟨e0, t2, by simp [ek, Value.isInt, hk], ev⟩
    ·have g2 : kdGet r k = some v := by simpa [kdGet, hk, List.find?_cons] using g
     obtain ⟨e, t3, f1, f2⟩ := kd_find r es k v h6 g2
     refine ⟨e, t3, ?_, f2⟩
     rw [List.find?_cons_of_neg (by simp [ek, Value.isInt, hk])]
     exact f1
   ·cases h5
  ·cases h1
theorem kd_map {K : PySem.W.Frag} {prog : Program} {w : World} {h : Heap} {a : Addr} {es : Array DictEntry} {n : Nat} {kvs : List (Int × Int)} (X : K.In h) (hl : K.lookup a = some ⟨.type "dict", none, .dict es n, #[]⟩) (hk : kdEs kvs es.toList = true) :
  h.MapOf (intKind prog w) a (fun k => findBy Value.isInt es k) :=
 ⟨_, es, n, X _ _ hl, ⟨rfl, rfl, rfl⟩, rfl, fun e he => by
  obtain ⟨x, t, e1, e2⟩ := kd_entry kvs es.toList hk e (Array.mem_toList_iff.mpr he)
  exact ⟨x, by rw [e1]; exact intKind_is prog w x t, e2⟩, fun _ => rfl⟩
def fKD (kvs : List (Int × Int)) : F1 := fun _ b => match b with
 | .int k => (kdGet kvs k).map .int
 | _ => none
theorem r_kd {kvs : List (Int × Int)} {S : Sto} {k : Int} : fKD kvs S (.int k) = (kdGet kvs k).map .int := rfl
section
variable {X : Cx} {b : Expr} {fb : EX} {pos p : Pos} {x : Str} {kvs : List (Int × Int)}
theorem ej_kd (h : KDm X.K X.mg x kvs) (hg : Gl X x) (hb : EJ X b fb) (hs : NoSl b) (hd : (x == ("__debug__" : Str)) = false := by decide) : EJ X (.Subscript (.Name x p) b pos) (e1 (fKD kvs) fb) := by
 obtain ⟨a, es, n, h1, h2, h3⟩ := h.ex
 refine ⟨fun pins s σ H Q I hh => ?_⟩
 obtain ⟨Z, m, env, v, S', e, si, er, hf, q⟩ := hh
 subst e
 obtain ⟨y, g1, g2⟩ := e1_inv hf
 cases y <;> first | exact no2 g2 | skip
 rename_i k
 obtain ⟨i, g3, g4⟩ := Option.map_eq_some_iff.mp (show (kdGet kvs k).map D.int = some v from g2)
 subst g4
 refine subD_of PySem.F.slot_dict_getitem.lookup hs (thn ((pe_glob hg h1 (v := V.ref a) rfl hd).run pins s σ m.H (fun u H1 => u = .ref a ∧ H1 = m.H) I ⟨rfl, rfl⟩) fun u s1 ⟨x1, H1, I1, rx, e1, e2⟩ => ?_)
 subst e1 e2
 obtain rfl : u = Value.ref a := rx
 refine thn (hb.run pins s1 σ m.H (fun v1 H2 => v1 = .int k ∧ Q (.int i) H2) I1 ⟨Z, m, env, .int k, S', rfl, si, er, g1, fun m' x2 e3 t rx2 => ⟨rx2, q m' _ e3 t rfl⟩⟩) fun iv s2 ⟨y, H2, I2, ry, e5, q2⟩ => ?_
 subst e5
 obtain ⟨t, rfl⟩ := ry
 have hm := kd_map (prog := X.prog) (w := X.w) I2.kIn h2 h3
 obtain ⟨en, t2, f1, f2⟩ := kd_find kvs es.toList k i h3 g3
 have hf2 : findBy Value.isInt es k = some (.int i t2) := by
  unfold findBy
  obtain ⟨l⟩ := es
  rw [List.find?_toArray]
  rw [show l.find? _ = some en from f1]
  exact congrArg some f2
 exact ⟨hm.typeIs, wpAny_getItem_of (intKind_is X.prog X.w k t) hm hf2 ⟨.int i, H2, I2.tok _, ⟨t2, rfl⟩, q2⟩⟩
end
theorem SaysQ.const {fa : List He.Fa} {fn : List He.DefD} {cs : List (Str × D)} {kd : List (Str × List (Int × Int))} {K : PySem.W.Frag} (s : SaysQ fa fn cs kd K) {h : Heap} {mg : Str → Option Value} (X : K.In h) (G : h.Ns mainGlobals mg) (i : Nat) {x : Str} {d : D} (e : cs[i]? = some (x, d) := by rfl) : GC K mg x d :=
 gcB_ok X G (List.all_eq_true.mp (Bool.and_eq_true_iff.mp s.c).1 (x, d) (List.mem_of_getElem? e))
theorem SaysQ.kd {fa : List He.Fa} {fn : List He.DefD} {cs : List (Str × D)} {kd : List (Str × List (Int × Int))} {K : PySem.W.Frag} (s : SaysQ fa fn cs kd K) {h : Heap} {mg : Str → Option Value} (X : K.In h) (G : h.Ns mainGlobals mg) (i : Nat) {x : Str} {d : List (Int × Int)} (e : kd[i]? = some (x, d) := by rfl) : KDm K mg x d :=
 kdB_ok X G (List.all_eq_true.mp (Bool.and_eq_true_iff.mp s.c).2 (x, d) (List.mem_of_getElem? e))
noncomputable def b_bordersN (k_counted : Con) : SX := sRet (e2 fIx (eCall k_counted (aCons (eVar 0) (aNil))) (eC (.int 1)))
noncomputable def b_crowd (k_members_in k_borders : Con) : SX := sSeq (sAsg (eCall k_members_in (aCons (e2 fIx (eVar 0) (eC (.int 1))) (aCons (eTup (aNil)) (aNil)))) (gN 1)) (sSeq (sAsgL false (lLc (iSeq (eVar 1)) (gT 2 (gsCons (gN 5) (gsCons (gN 4) (gsNil)))) (tOf (e2 fEq (e2 fIx (eVar 4) (eC (.int 0))) (eC (.str "one")))) (eVar 4) [5, 4]) 2) (sSeq (sIf (tOf (e2 fGt (eCB (fn1 gLen) (aCons (eVar 2) (aNil))) (eC (.int 12)))) (sRet (eC (.str "ones"))) (sNil)) (sSeq (sIf (tOf (e2 fGt (e2 fSub (eCB (fn1 gLen) (aCons (eVar 1) (aNil))) (eCB (fn1 gLen) (aCons (eVar 2) (aNil)))) (eC (.int 12)))) (sRet (eC (.str "houses"))) (sNil)) (sSeq (sIf (tOf (eCB (fn1 gAny) (aCons (eFz (lLc (iSeq (eVar 1)) (gT 2 (gsCons (gN 5) (gsCons (gN 4) (gsNil)))) (tOf (e2 fEq (e2 fIx (eVar 4) (eC (.int 0))) (eC (.str "house")))) (e2 fGt (eCB (fn1 gLen) (aCons (eVar 5) (aNil))) (eC (.int 3))) [5, 4])) (aNil)))) (sRet (eC (.str "deep"))) (sNil)) (sSeq (sAsg (eCB (fn1 gSum) (aCons (eFz (lLc2 (iSeq (eVar 2)) (gN 4) (e2 fIx (e2 fIx (eVar 4) (eC (.int 1))) (eC (.int 3))) (gN 6) (eCall k_borders (aCons (eVar 6) (aNil))) [4, 6] [6])) (aNil))) (gN 3)) (sRet (eIf (tOf (e2 fGt (eVar 3) (e1 (fKD [(2, 400), (3, 60)]) (e2 fIx (eVar 0) (eC (.int 0)))))) (eC (.str "borders")) (eC .non))))))))
noncomputable def b_is_path (k_is_whole : Con) : SX := sRet (eAnd (e1 (gIs "tuple") (eVar 0)) (eCB (fn1 gAll) (aCons (eFz (lLc (iSeq (eVar 0)) (gN 1) (tYes') (eCall k_is_whole (aCons (eVar 1) (aCons (eC (.int 0)) (aCons (eC .non) (aNil))))) [1])) (aNil))))
noncomputable def b_members_at : SX := sSeq (sAsg (e2 fIx (eVar 0) (eC (.int 1))) (gN 2)) (sSeq (sFor (iSeq (eVar 1)) (gN 3) (sSeq (sIf (tOr' (tOf (e2 fGe (eVar 3) (eCB (fn1 gLen) (aCons (eVar 2) (aNil))))) (tOf (e2 fNe (e2 fIx (e2 fIx (eVar 2) (eVar 3)) (eC (.int 0))) (eC (.str "house"))))) (sRet (eC .non)) (sNil)) (sAsg (e2 fIx (e2 fIx (eVar 2) (eVar 3)) (eC (.int 2))) (gN 2)))) (sRet (eVar 2)))
noncomputable def b_replaced (k_replaced : Con) : SX := sSeq (sIf (tOf (e2 fEq (eVar 1) (eTup (aNil)))) (sRet (eVar 2)) (sNil)) (sSeq (sAsg (e2 fIx (eVar 0) (e2 fIx (eVar 1) (eC (.int 0)))) (gT 3 (gsCons (gN 4) (gsCons (gN 5) (gsCons (gN 6) (gsNil)))))) (sSeq (sAsg (eTup (aCons (eVar 4) (aCons (eVar 5) (aCons (eCall k_replaced (aCons (eVar 6) (aCons (eSl fSlT (eVar 1) (oSome (eC (.int 1))) (oNo)) (aCons (eVar 2) (aNil))))) (aNil))))) (gN 3)) (sRet (e2 fAdd (e2 fAdd (eSl fSlT (eVar 0) (oNo) (oSome (e2 fIx (eVar 1) (eC (.int 0))))) (eTup (aCons (eVar 3) (aNil)))) (eSl fSlT (eVar 0) (oSome (e2 fAdd (e2 fIx (eVar 1) (eC (.int 0))) (eC (.int 1)))) (oNo))))))
noncomputable def b_with_members (k_replaced : Con) : SX := sRet (eTup (aCons (e2 fIx (eVar 0) (eC (.int 0))) (aCons (eCall k_replaced (aCons (e2 fIx (eVar 0) (eC (.int 1))) (aCons (eVar 1) (aCons (eVar 2) (aNil))))) (aNil))))
noncomputable def b_joined (k_is_path k_members_at k_with_members k_crowd : Con) : SX := sSeq (sAsg (eIf (tOf (eCall k_is_path (aCons (eVar 1) (aNil)))) (eCall k_members_at (aCons (eVar 0) (aCons (eVar 1) (aNil)))) (eC .non)) (gN 3)) (sSeq (sIf (tOf (e2 fIs (eVar 3) (eC .non))) (sFail) (sNil)) (sSeq (sAsg (eCall k_with_members (aCons (eVar 0) (aCons (eVar 1) (aCons (e2 fAdd (eVar 3) (eTup (aCons (eVar 2) (aNil)))) (aNil))))) (gN 4)) (sSeq (sAsg (eCall k_crowd (aCons (eVar 4) (aNil))) (gN 5)) (sSeq (sIf (tOf (e2 fIsNot (eVar 5) (eC .non))) (sFail) (sNil)) (sRet (eVar 4))))))
noncomputable def c_bordersN (n : Nat) : Con := den 1 1 0 (b_bordersN (cc_counted n))
noncomputable def c_crowd (k n : Nat) : Con := den 1 7 0 (b_crowd (cc_members_in k) (c_bordersN n))
noncomputable def c_is_path : Con := den 1 2 0 (b_is_path c_is_whole)
noncomputable def c_members_at : Con := den 2 4 0 b_members_at
noncomputable def cc_replaced : Nat → Con
 | 0 => fun _ _ => none
 | n + 1 => den 3 7 0 (b_replaced (cc_replaced n))
noncomputable def c_with_members (r : Nat) : Con := den 3 3 0 (b_with_members (cc_replaced r))
noncomputable def c_joined (r k n : Nat) : Con := den 3 6 0 (b_joined c_is_path c_members_at (c_with_members r) (c_crowd k n))
theorem CV_bordersN {n : Nat} {e : Xp} {S : Sto} {Q : D → Sto → Prop} (hn : lev e < n) (h : lev e ≤ 10) (q : Q (.int (ct e).2) S) : CV (c_bordersN n) [exD e] S Q := by
 refine CV_plain rfl ?_
 unfold b_bordersN
 (simp_arith! [])
 refine CV_counted e hn h ?_
 unfold ctD
 (simp_arith! [])
 exact RtP_same rfl q
def linesL (ms : List Mb) : Int := (((flL ms).map fun q => q.1.stakes.map fun e => (ct e).2).flatten).sum
def deepB (ms : List Mb) : Bool := (wkL [] 0 ms).any fun q => !isOne q.2 && decide (3 < q.1.length)
def crowdD (many : Nat) (ms : List Mb) : D := if 12 < (flL ms).length then .str "ones" else if 12 < (mbNL ms : Int) - (flL ms).length then .str "houses" else if deepB ms = true then .str "deep" else if linesL ms > (if many = 2 then 400 else 60) then .str "borders" else .non
theorem somes_eq (ms : List Mb) : ((wkL [] 0 ms).filter fun q => isOne q.2).map (fun q => mbD q.2) = (flL ms).map oqD := by
 have := congrArg (List.map mbD) (flL_wk [] 0 ms)
 rw [List.map_map, List.map_map] at this
 exact this
theorem any_filt {α : Type} (c p : α → Bool) (xs : List α) : ((xs.filter c).map p).any id = xs.any fun x => c x && p x := by
 rw [List.any_map, List.any_filter]
 rfl
theorem CV_crowd {S : Sto} {kk n many : Nat} {ms : List Mb} {Q : D → Sto → Prop} (hm : many = 2 ∨ many = 3) (ok : mbOkL ms) (ht : mbTL ms < kk) (ht2 : mbTL ms ≤ 1000) (hn : mbNL ms ≤ 100000)
  (hs : ∀ q, q ∈ flL ms → q.1.stakes.length ≤ 3 ∧ ∀ e, e ∈ q.1.stakes → lev e < n ∧ lev e ≤ 10) (q : Q (crowdD many ms) S) : CV (c_crowd kk n) [hsD many ms] S Q := by
 refine CV_plain rfl ?_
 unfold b_crowd
 have i1 : ∀ T : Sto, fIx T (hsD many ms) (.int 1) = some (.tup (mbL ms)) := fun _ => rfl
 have i0 : ∀ T : Sto, fIx T (hsD many ms) (.int 0) = some (.int many) := fun _ => rfl
 refine SV_cut fun G hG => ?_
 (simp_arith! [i1])
 refine CV_membersin kk ms [] ok ht (by simpa using ht2) hn ?_
 refine hG _ _ ?_
 clear hG G
 have fl := flL_len ms
 have w1 : (("house" : Str) = ("one" : Str)) = False := eq_false (by decide +kernel)
 have w2 : (("one" : Str) = ("house" : Str)) = False := eq_false (by decide +kernel)
 refine SV_cut fun G hG => ?_
 (simp_arith! [])
 refine (LV_filtG ptD (fun q => mbD q.2) (fun q => isOne q.2) (fun n _ => rfl) fun a K ha hK => ?_).imp fun out S2 q2 => ?_
 ·obtain ⟨p, m⟩ := a
  unfold ptD
  cases m with
  | one d o =>
   have f0 : ∀ T : Sto, fIx T (mbD (.one d o)) (.int 0) = some (.str "one") := fun _ => rfl
   (simp_arith! [f0])
   exact ⟨rfl, fun _ => hK rfl⟩
  | home x inner =>
   have f0 : ∀ T : Sto, fIx T (mbD (.home x inner)) (.int 0) = some (.str "house") := fun _ => rfl
   (simp_arith! [f0, w1])
   exact ⟨rfl, fun h => nomatch h⟩
 obtain ⟨rfl, rfl⟩ := q2
 rw [somes_eq]
 refine ⟨sz_le (by rw [List.length_map]; omega), ?_⟩
 refine hG _ _ ?_
 clear hG G
 have l1 : ((flL ms).map oqD).length = (flL ms).length := List.length_map ..
 have l2 : ((wkL [] 0 ms).map ptD).length = mbNL ms := by rw [List.length_map, wkL_len]
 refine SV_cut fun G hG => ?_
 (simp_arith! [l1, l2])
 unfold crowdD at q
 split
 ·rename_i h
  rw [if_pos (by omega)] at q
  exact RtP_same rfl q
 rename_i h
 rw [if_neg (by omega)] at q
 refine hG _ _ ?_
 clear hG G
 refine SV_cut fun G hG => ?_
 (simp_arith! [l1, l2])
 split
 ·rename_i h
  rw [if_pos (by omega)] at q
  exact RtP_same rfl q
 rename_i h2
 rw [if_neg (by omega)] at q
 refine hG _ _ ?_
 clear hG G
 refine SV_cut fun G hG => ?_
 (simp_arith! [])
 refine (LV_filtG ptD (fun q => .bl (decide (3 < q.1.length))) (fun q => !isOne q.2) (fun n _ => rfl) fun a K ha hK => ?_).imp fun out S2 q2 => ?_
 ·obtain ⟨p, m⟩ := a
  unfold ptD
  cases m with
  | one d o =>
   have f0 : ∀ T : Sto, fIx T (mbD (.one d o)) (.int 0) = some (.str "one") := fun _ => rfl
   (simp_arith! [f0, w2])
   exact ⟨rfl, fun h => nomatch h⟩
  | home x inner =>
   have f0 : ∀ T : Sto, fIx T (mbD (.home x inner)) (.int 0) = some (.str "house") := fun _ => rfl
   have hK := hK rfl
   (simp_arith! [f0, List.length_map])
   refine ⟨rfl, fun _ => ?_⟩
   have e1 : decide ((3 : Int) < (p.length : Int)) = decide (3 < p.length) := decide_eq_decide.mpr (by omega)
   rw [e1]
   exact hK
 obtain ⟨rfl, rfl⟩ := q2
 have eb : (((wkL [] 0 ms).filter fun q => !isOne q.2).map fun q => D.bl (decide (3 < q.1.length))) = (((wkL [] 0 ms).filter fun q => !isOne q.2).map fun q => decide (3 < q.1.length)).map D.bl := by rw [List.map_map]; rfl
 refine ⟨sz_le (by rw [List.length_map]; have := List.length_filter_le (fun q : List Int × Mb => !isOne q.2) (wkL [] 0 ms); rw [wkL_len] at this; omega), ?_⟩
 rw [eb]
 (simp_arith! [r_anyL, any_filt])
 have ed : ((wkL [] 0 ms).any fun q => !isOne q.2 && decide (3 < q.1.length)) = deepB ms := rfl
 rw [ed]
 split
 ·rename_i h
  rw [if_pos h] at q
  exact RtP_same rfl q
 rename_i h3
 rw [if_neg h3] at q
 refine hG _ _ ?_
 clear hG G
 refine SV_cut fun G hG => ?_
 (simp_arith! [AV_lc2])
 refine (LV2_map oqD (fun q => q.1.stakes.map fun e => .int (ct e).2) (fun n _ => rfl) fun a K ha hK => ?_).imp' fun out S2 q2 => ?_
 ·have f1 : ∀ T : Sto, fIx T (oqD a) (.int 1) = some (dbD a.1) := fun _ => rfl
  have f3 : ∀ T : Sto, fIx T (dbD a.1) (.int 3) = some (.tup (a.1.stakes.map exD)) := fun _ => rfl
  (simp_arith! [f1, f3])
  refine (LV_mapG exD (fun e => .int (ct e).2) (fun (n : Nat) (hn : n ∈ ([] : List Nat)) => nomatch hn) fun e K he hK => ?_).imp fun out S2 q2 => ?_
  ·(simp_arith! [])
   exact CV_bordersN ((hs a ha).2 e he).1 ((hs a ha).2 e he).2 hK
  ·obtain ⟨rfl, rfl⟩ := q2
   exact hK
 obtain ⟨rfl, rfl⟩ := q2
 have e2 : ((flL ms).map fun q => q.1.stakes.map fun e => D.int (ct e).2).flatten = (((flL ms).map fun q => q.1.stakes.map fun e => (ct e).2).flatten).map D.int := by
  rw [List.map_flatten, List.map_map]
  congr 1
  refine List.map_congr_left fun q _ => ?_
  show _ = List.map D.int _
  rw [List.map_map]
  rfl
 rw [e2]
 have e3 : ((((flL ms).map fun q => q.1.stakes.map fun e => (ct e).2).flatten)).length ≤ 3 * (flL ms).length := by
  have : ∀ qs : List (Dbt × One), (∀ q, q ∈ qs → q.1.stakes.length ≤ 3) → ((qs.map fun q => q.1.stakes.map fun e => (ct e).2).flatten).length ≤ 3 * qs.length := by
   intro qs
   induction qs with
   | nil => intro _; exact Nat.zero_le _
   | cons x xs ih =>
    intro h
    have h1 := h x (List.mem_cons_self ..)
    have h2 := ih fun q hq => h q (List.mem_cons_of_mem _ hq)
    rw [List.map_cons, List.flatten_cons, List.length_append, List.length_map, List.length_cons]
    omega
  exact this _ fun q hq => (hs q hq).1
 refine ⟨sz_le (by rw [List.length_map]; omega), ?_⟩
 (simp_arith! [])
 refine hG _ _ ?_
 clear hG G
 have e4 : (((flL ms).map fun q => q.1.stakes.map fun e => (ct e).2).flatten).sum = linesL ms := rfl
 have kg : kdGet [(2, 400), (3, 60)] (many : Int) = some (if many = 2 then 400 else 60) := by
  rcases hm with rfl | rfl <;> rfl
 have r1 : ∀ T : Sto, fKD [(2, 400), (3, 60)] T (.int (many : Int)) = some (.int (if many = 2 then 400 else 60)) := fun T => by
  rw [r_kd, kg]
  rfl
 generalize (if many = 2 then (400 : Int) else 60) = B at *
 (simp_arith! [i0, r1, e4])
 split
 ·rename_i h
  rw [if_pos h] at q
  exact RtP_same rfl q
 ·rename_i h
  rw [if_neg h] at q
  exact RtP_same rfl q
def natP (is : List Nat) : List Int := is.map fun i : Nat => (i : Int)
def pthD (is : List Nat) : D := .tup ((natP is).map D.int)
theorem CV_wholeN {S : Sto} {z lo : Int} {Q : D → Sto → Prop} (q : Q (.bl (decide (lo ≤ z))) S) : CV c_is_whole [.int z, .int lo, .non] S Q := by
 refine CV_plain rfl ?_
 unfold b_is_whole
 (simp_arith [r_isIi, r_isBi, Bool.not_false, isNon])
 split
 ·rename_i h
  rw [decide_eq_true h] at q
  exact RtP_same rfl q
 ·rename_i h
  rw [decide_eq_false h] at q
  exact RtP_same rfl q
theorem CV_ispath {S : Sto} {is : List Nat} {Q : D → Sto → Prop} (hl : is.length ≤ 1000) (q : Q (.bl true) S) : CV c_is_path [pthD is] S Q := by
 refine CV_plain rfl ?_
 unfold b_is_path pthD
 (simp_arith! [])
 refine (LV_mapG D.int (fun _ => .bl true) (fun n _ => rfl) fun z K hz hK => ?_).imp fun out S2 q2 => ?_
 ·obtain ⟨i, _, rfl⟩ := List.mem_map.mp hz
  (simp_arith! [])
  refine CV_wholeN ?_
  rw [decide_eq_true (Int.natCast_nonneg i)]
  exact hK
 obtain ⟨rfl, rfl⟩ := q2
 have e1 : ((natP is).map fun _ => D.bl true) = ((natP is).map fun _ => true).map D.bl := by rw [List.map_map]; rfl
 refine ⟨sz_le (by rw [List.length_map]; unfold natP; rw [List.length_map]; omega), ?_⟩
 rw [e1]
 (simp_arith! [r_allL])
 have e2 : ((natP is).map fun _ => true).all id = true := by
  rw [List.all_map]
  exact List.all_eq_true.mpr fun _ _ => rfl
 rw [e2]
 exact RtP_same rfl q
def moD : Option (List Mb) → D
 | none => .non
 | some ks => .tup (mbL ks)
theorem goP_nil (ms : List Mb) : goP ms [] = some ms := rfl
theorem goP_cons (ms : List Mb) (i : Nat) (is : List Nat) : goP ms (i :: is) = match ms[i]? with
  | some (.home _ ks) => goP ks is
  | _ => none := rfl
theorem mbL_at (ms : List Mb) (i : Nat) : (mbL ms)[i]? = (ms[i]?).map mbD := by rw [mbL_map, List.getElem?_map]
theorem goP_ok : ∀ (is : List Nat) {ms ks : List Mb}, mbOkL ms → goP ms is = some ks → mbOkL ks
 | [], ms, ks, ok, h => by cases h; exact ok
 | i :: is, ms, ks, ok, h => by
  rw [goP_cons] at h
  split at h
  ·rename_i x ks' e
   refine goP_ok is ?_ h
   have : ∀ (ms : List Mb) (i : Nat), mbOkL ms → ms[i]? = some (.home x ks') → mbOkL ks' := by
    intro ms
    induction ms with
    | nil => intro i _ h; cases h
    | cons m ms ih =>
     intro i ok h
     cases i with
     | zero => cases h; exact ok.1.2
     | succ i => exact ih i ok.2 h
   exact this ms i ok e
  ·cases h
theorem moD_bare {o : Option (List Mb)} (h : ∀ ks, o = some ks → mbOkL ks) : bare (moD o) = true := by
 cases o with
 | none => rfl
 | some ks => exact mbL_bare ks (h ks rfl)
theorem CV_membersat {S : Sto} {many : Nat} {ms : List Mb} {is : List Nat} {Q : D → Sto → Prop} (ok : mbOkL ms) (q : Q (moD (goP ms is)) S) : CV c_members_at [hsD many ms, pthD is] S Q := by
 refine CV_plain rfl ?_
 unfold b_members_at pthD
 have i1 : ∀ T : Sto, fIx T (hsD many ms) (.int 1) = some (.tup (mbL ms)) := fun _ => rfl
 have hb := moD_bare (o := goP ms is) fun ks h => goP_ok is ok h
 refine SV_cut fun G hG => ?_
 (simp_arith! [i1])
 refine hG _ _ ?_
 clear hG G
 refine SV_cut fun G hG => ?_
 (simp_arith! [])
 refine SV_forI (fun r e' S' => ∃ (js : List Nat) (ks : List Mb) (x3 : Option D), r = (natP js).map D.int ∧ goP ms is = goP ks js ∧ S' = S ∧ e' = [some (hsD many ms), some (.tup ((natP is).map D.int)), some (.tup (mbL ks)), x3]) ⟨is, ms, none, rfl, rfl, rfl, rfl⟩ ?_ ?_
 ·rintro x r e' S' K ⟨js, ks, x3, hr, hq, rfl, rfl⟩ hK
  cases js with
  | nil => cases hr
  | cons j js =>
   obtain ⟨rfl, rfl⟩ := List.cons.inj (show _ = D.int (j : Int) :: (natP js).map D.int from hr)
   rw [goP_cons] at hq
   (simp_arith! [mbL_len])
   split
   ·rename_i h
    rw [List.getElem?_eq_none (by omega)] at hq
    rw [hq] at q
    have q : Q .non S' := q
    exact (show RtP S' (fun d => Q d S') (Out.rt D.non S') from RtP_same rfl q)
   ·rename_i h
    have hj : j < ks.length := by omega
    have ej : ks[j]? = some ks[j] := List.getElem?_eq_getElem hj
    rw [ej] at hq
    generalize ks[j] = m at *
    cases m with
    | one d o =>
     have f0 : ∀ T : Sto, fIx T (mbD (.one d o)) (.int 0) = some (.str "one") := fun _ => rfl
     have w1 : decide (("one" : Str) = ("house" : Str)) = false := by decide +kernel
     (simp_arith! [mbL_get ej, f0, w1])
     rw [show goP ms is = none from hq] at q
     have q : Q .non S' := q
     exact (show RtP S' (fun d => Q d S') (Out.rt D.non S') from RtP_same rfl q)
    | home x ks' =>
     have f0 : ∀ T : Sto, fIx T (mbD (.home x ks')) (.int 0) = some (.str "house") := fun _ => rfl
     have f2 : ∀ T : Sto, fIx T (mbD (.home x ks')) (.int 2) = some (.tup (mbL ks')) := fun _ => rfl
     (simp_arith! [mbL_get ej, f0, f2])
     exact ⟨(fun n hn => nomatch hn), hK _ _ ⟨js, ks', _, rfl, hq, rfl, rfl⟩⟩
 ·rintro e' S' ⟨js, ks, x3, hr, hq, rfl, rfl⟩
  have : js = [] := by cases js with | nil => rfl | cons j js => cases (show ([] : List D) = D.int (j : Int) :: (natP js).map D.int from hr)
  subst this
  rw [goP_nil] at hq
  rw [hq] at hb q
  refine hG _ _ ?_
  clear hG G
  (simp_arith! [])
  exact RtP_same hb q
def repP : List Mb → List Nat → List Mb → List Mb
 | _, [], o => o
 | ms, i :: is, o => match ms[i]? with
   | some (.home x ks) => ms.take i ++ Mb.home x (repP ks is o) :: ms.drop (i + 1)
   | _ => ms
theorem r_eq_pth {S : Sto} (is : List Nat) (h : ∀ i, i ∈ is → i < 10 ^ 9) : fEq S (pthD is) (.tup []) = some (.bl is.isEmpty) := by
 have h1 : ∀ z, z ∈ natP is → z.natAbs < 10 ^ 12 := fun z hz => by
  obtain ⟨i, hi, rfl⟩ := List.mem_map.mp hz
  have := h i hi
  omega
 have e := r_eq_tups (S := S) (as := (natP is).map D.int) (bs := []) 12 (short_ints h1) rfl (by rw [dep_ints]; decide) (by decide)
 have e2 := eqv_ints (natP is) []
 unfold pthD
 rw [e, show PyData.eqv (pd (.tup ((natP is).map D.int))) (pd (.tup [])) = decide (natP is = []) from e2]
 cases is <;> rfl
theorem mbOkL_iff {ms : List Mb} : mbOkL ms ↔ ∀ m, m ∈ ms → mbOk m := by
 induction ms with
 | nil => exact ⟨fun _ _ h => (nomatch h), fun _ => trivial⟩
 | cons m ms ih =>
  constructor
  ·intro h x hx
   rcases List.mem_cons.mp hx with rfl | hx
   ·exact h.1
   ·exact ih.mp h.2 x hx
  ·intro h
   exact ⟨h m (List.mem_cons_self ..), ih.mpr fun x hx => h x (List.mem_cons_of_mem _ hx)⟩
theorem mbNL_at {ms : List Mb} {m : Mb} (h : m ∈ ms) : mbN m ≤ mbNL ms := by
 induction ms with
 | nil => cases h
 | cons x ms ih =>
  show mbN m ≤ mbN x + mbNL ms
  rcases List.mem_cons.mp h with rfl | h
  ·omega
  ·have := ih h; omega
theorem repP_cons {ms : List Mb} {i : Nat} {is : List Nat} {o : List Mb} {x : Str} {ks : List Mb} (e : ms[i]? = some (.home x ks)) : repP ms (i :: is) o = ms.take i ++ Mb.home x (repP ks is o) :: ms.drop (i + 1) := by
 show (match ms[i]? with | some (.home x ks) => ms.take i ++ Mb.home x (repP ks is o) :: ms.drop (i + 1) | _ => ms) = _
 rw [e]
theorem repP_ok : ∀ (is : List Nat) {ms o : List Mb}, mbOkL ms → mbOkL o → mbOkL (repP ms is o)
 | [], ms, o, _, ho => ho
 | i :: is, ms, o, h, ho => by
  show mbOkL (match ms[i]? with | some (.home x ks) => ms.take i ++ Mb.home x (repP ks is o) :: ms.drop (i + 1) | _ => ms)
  split
  ·rename_i x ks e
   have hm : mbOk (.home x ks) := mbOkL_iff.mp h _ (List.mem_of_getElem? e)
   refine mbOkL_iff.mpr fun m hm2 => ?_
   rcases List.mem_append.mp hm2 with h1 | h1
   ·exact mbOkL_iff.mp h m (List.mem_of_mem_take h1)
   ·rcases List.mem_cons.mp h1 with rfl | h1
    ·exact ⟨hm.1, repP_ok is hm.2 ho⟩
    ·exact mbOkL_iff.mp h m (List.mem_of_mem_drop h1)
  ·exact h
theorem CV_replaced : ∀ (fuel : Nat) (is : List Nat) (ms ks o : List Mb) {S : Sto} {Q : D → Sto → Prop}, is.length < fuel → (∀ i, i ∈ is → i < 10 ^ 9) → mbOkL ms → mbOkL o → mbNL ms ≤ 1000000 → goP ms is = some ks → Q (.tup (mbL (repP ms is o))) S → CV (cc_replaced fuel) [.tup (mbL ms), pthD is, .tup (mbL o)] S Q := by
 intro fuel
 induction fuel with
 | zero => intro is ms ks o S Q h; omega
 | succ fuel ih =>
  intro is ms ks o S Q hf hi ok oko hn hg q
  refine CV_plain rfl ?_
  unfold b_replaced
  refine SV_cut fun G hG => ?_
  have e0 := fun T : Sto => r_eq_pth (S := T) is hi
  cases is with
  | nil =>
   (simp_arith! [e0, List.isEmpty_nil])
   exact RtP_same (mbL_bare o oko) q
  | cons i is =>
   (simp_arith! [e0, List.isEmpty_cons])
   refine hG _ _ ?_
   clear hG G
   rw [goP_cons] at hg
   split at hg
   case h_2 => cases hg
   rename_i x ks' e
   have hlt : i < ms.length := (List.getElem?_eq_some_iff.mp e).1
   have f0 : ∀ T : Sto, fIx T (pthD (i :: is)) (.int 0) = some (.int (i : Int)) := fun _ => at_0
   have f1 : ∀ T : Sto, fSlT T (pthD (i :: is)) (some 1) none = some (pthD is) := fun T => by
    show some (D.tup (cutD _ (some 1) none)) = _
    rw [cut_from (by decide)]
    rfl
   have f2 : ∀ T : Sto, fIx T (.tup (mbL ms)) (.int (i : Int)) = some (mbD (.home x ks')) := fun T => by
    rw [r_ixT, at_nat, mbL_at, e]
    rfl
   have hm : mbOk (.home x ks') := mbOkL_iff.mp ok _ (List.mem_of_getElem? e)
   have hmn := mbNL_at (List.mem_of_getElem? e)
   have hmn2 : mbN (.home x ks') = mbNL ks' + 1 := rfl
   have hk1 := len_mb ms
   have eh : mbD (.home x ks') = .tup [.str "house", .str x, .tup (mbL ks')] := rfl
   refine SV_cut fun G hG => ?_
   (simp_arith! [f0, f2, eh])
   refine hG _ _ ?_
   clear hG G
   refine SV_cut fun G hG => ?_
   (simp_arith! [f1])
   refine ih is ks' ks o (by simp only [List.length_cons] at hf; omega) (fun j hj => hi j (List.mem_cons_of_mem _ hj)) hm.2 oko (by omega) hg ?_
   (simp_arith! [])
   refine hG _ _ ?_
   clear hG G
   have t1 : ∀ T : Sto, fSlT T (.tup (mbL ms)) none (some (i : Int)) = some (.tup (mbL (ms.take i))) := fun T => by
    show some (D.tup (cutD _ none (some (i : Int)))) = _
    rw [cut_to (by omega), mbL_map, mbL_map, List.map_take]
    rfl
   have t2 : ∀ T : Sto, fSlT T (.tup (mbL ms)) (some ((i : Int) + 1)) none = some (.tup (mbL (ms.drop (i + 1)))) := fun T => by
    show some (D.tup (cutD _ (some ((i : Int) + 1)) none)) = _
    rw [cut_from (by omega), mbL_map, mbL_map, List.map_drop]
    rfl
   have er := repP_cons (is := is) (o := o) e
   have ez : D.tup [.str "house", .str x, .tup (mbL (repP ks' is o))] = mbD (.home x (repP ks' is o)) := rfl
   rw [ez]
   (simp_arith! [f0, t1, t2])
   refine ⟨sz_le (by rw [mbL_len, List.length_take]; omega), sz_le (by rw [mbL_len, List.length_append, mbL_len, List.length_take, List.length_drop]; simp only [List.length_cons, List.length_nil]; omega), ?_⟩
   have okr := repP_ok (i :: is) ok oko
   rw [er] at q okr
   rw [mbL_app] at q
   have okb := mbL_bare _ okr
   rw [mbL_app] at okb
   have ea : mbL (ms.take i) ++ [mbD (Mb.home x (repP ks' is o))] ++ mbL (ms.drop (i + 1)) = mbL (ms.take i) ++ mbL (Mb.home x (repP ks' is o) :: ms.drop (i + 1)) := by
    rw [List.append_assoc]
    rfl
   rw [ea]
   exact RtP_same okb q
theorem CV_withmembers {S : Sto} {r many : Nat} {is : List Nat} {ms ks o : List Mb} {Q : D → Sto → Prop} (hf : is.length < r) (hi : ∀ i, i ∈ is → i < 10 ^ 9) (ok : mbOkL ms) (oko : mbOkL o) (hn : mbNL ms ≤ 1000000) (hg : goP ms is = some ks) (q : Q (hsD many (repP ms is o)) S) :
  CV (c_with_members r) [hsD many ms, pthD is, .tup (mbL o)] S Q := by
 refine CV_plain rfl ?_
 unfold b_with_members
 have i1 : ∀ T : Sto, fIx T (hsD many ms) (.int 1) = some (.tup (mbL ms)) := fun _ => rfl
 have i0 : ∀ T : Sto, fIx T (hsD many ms) (.int 0) = some (.int many) := fun _ => rfl
 (simp_arith! [i0, i1])
 refine CV_replaced r is ms ks o hf hi ok oko hn hg ?_
 (simp_arith! [])
 have hb : bare (hsD many (repP ms is o)) = true := by
  show (true && (bareL (mbL (repP ms is o)) && true)) = true
  rw [mbL_bare _ (repP_ok is ok oko)]
  rfl
 exact RtP_same hb q
theorem mbL_snoc (ks : List Mb) (m : Mb) : mbL ks ++ [mbD m] = mbL (ks ++ [m]) := by rw [mbL_app]; rfl
theorem hs_bare {many : Nat} {ms : List Mb} (ok : mbOkL ms) : bare (hsD many ms) = true := by
 show (true && (bareL (mbL ms) && true)) = true
 rw [mbL_bare _ ok]
 rfl
namespace B
end B
theorem three {v : Vc} (h : v.length = 3) : ∃ a b c, v = [a, b, c] := by
 match v, h with
 | [a, b, c], _ => exact ⟨a, b, c, rfl⟩
theorem val3 (a b c x y z : Int) : val [a, b, c] [x, y, z] = a * x + b * y + c * z := by
 unfold val dtp
 simp
 omega
def Par (p q : Vc) : Prop := p.getD 0 0 * q.getD 1 0 = p.getD 1 0 * q.getD 0 0 ∧ p.getD 0 0 * q.getD 2 0 = p.getD 2 0 * q.getD 0 0 ∧ p.getD 1 0 * q.getD 2 0 = p.getD 2 0 * q.getD 1 0
def Nz (f : Vc) : Prop := ∃ x, x ∈ f ∧ x ≠ 0
theorem cancel0 {a b : Int} (h : a * b = 0) (hb : b ≠ 0) : a = 0 := (Int.mul_eq_zero.mp h).resolve_right hb
theorem cross_par {f0 f1 f2 a0 a1 a2 d0 d1 d2 : Int} (h1 : f0 * d0 + f1 * d1 + f2 * d2 = 0) (h2 : a0 * d0 + a1 * d1 + a2 * d2 = 0) :
  d0 * (f2 * a0 - f0 * a2) = d1 * (f1 * a2 - f2 * a1) ∧ d0 * (f0 * a1 - f1 * a0) = d2 * (f1 * a2 - f2 * a1) ∧ d1 * (f0 * a1 - f1 * a0) = d2 * (f2 * a0 - f0 * a2) := by
 refine ⟨?_, ?_, ?_⟩ <;> grind
theorem along2 {w0 w1 w2 d0 d1 d2 z0 z1 z2 : Int} (n : w0 ≠ 0 ∨ w1 ≠ 0 ∨ w2 ≠ 0) (h : d0 * w1 = d1 * w0 ∧ d0 * w2 = d2 * w0 ∧ d1 * w2 = d2 * w1) (g : z0 * w1 = z1 * w0 ∧ z0 * w2 = z2 * w0 ∧ z1 * w2 = z2 * w1) : d0 * z1 = d1 * z0 ∧ d0 * z2 = d2 * z0 ∧ d1 * z2 = d2 * z1 := by
 obtain ⟨h1, h2, h3⟩ := h
 obtain ⟨g1, g2, g3⟩ := g
 rcases n with n | n | n
 ·have k : ∀ a b : Int, a * (w0 * w0) = b * (w0 * w0) → a = b := fun a b g => Int.eq_of_mul_eq_mul_right (Int.mul_ne_zero n n) g
  exact ⟨k _ _ (by grind), k _ _ (by grind), k _ _ (by grind)⟩
 ·have k : ∀ a b : Int, a * (w1 * w1) = b * (w1 * w1) → a = b := fun a b g => Int.eq_of_mul_eq_mul_right (Int.mul_ne_zero n n) g
  exact ⟨k _ _ (by grind), k _ _ (by grind), k _ _ (by grind)⟩
 ·have k : ∀ a b : Int, a * (w2 * w2) = b * (w2 * w2) → a = b := fun a b g => Int.eq_of_mul_eq_mul_right (Int.mul_ne_zero n n) g
  exact ⟨k _ _ (by grind), k _ _ (by grind), k _ _ (by grind)⟩
theorem along_zero {d0 d1 d2 z0 z1 z2 b0 b1 b2 : Int} (h : d0 * z1 = d1 * z0 ∧ d0 * z2 = d2 * z0 ∧ d1 * z2 = d2 * z1) (hd : b0 * d0 + b1 * d1 + b2 * d2 = 0) (hz : b0 * z0 + b1 * z1 + b2 * z2 ≠ 0) : d0 = 0 ∧ d1 = 0 ∧ d2 = 0 := by
 obtain ⟨h1, h2, h3⟩ := h
 have k0 : d0 * (b0 * z0 + b1 * z1 + b2 * z2) = 0 := by grind
 have k1 : d1 * (b0 * z0 + b1 * z1 + b2 * z2) = 0 := by grind
 have k2 : d2 * (b0 * z0 + b1 * z1 + b2 * z2) = 0 := by grind
 exact ⟨cancel0 k0 hz, cancel0 k1 hz, cancel0 k2 hz⟩
theorem comb3 {f0 f1 f2 p0 p1 p2 y0 y1 y2 z0 z1 z2 K L M P Y Z : Int} (hp : f0 * p0 + f1 * p1 + f2 * p2 = P) (hy : f0 * y0 + f1 * y1 + f2 * y2 = Y) (hz : f0 * z0 + f1 * z1 + f2 * z2 = Z) :
  f0 * (p0 * K - (L * y0 + M * z0)) + f1 * (p1 * K - (L * y1 + M * z1)) + f2 * (p2 * K - (L * y2 + M * z2)) = P * K - (L * Y + M * Z) := by
 subst hp hy hz
 grind
theorem nz_or {w0 w1 w2 : Int} (h : ¬ (w0 = 0 ∧ w1 = 0 ∧ w2 = 0)) : w0 ≠ 0 ∨ w1 ≠ 0 ∨ w2 ≠ 0 := by
 by_cases h0 : w0 = 0
 ·by_cases h1 : w1 = 0
  ·exact .inr (.inr fun h2 => h ⟨h0, h1, h2⟩)
  ·exact .inr (.inl h1)
 ·exact .inl h0
theorem nz3 {a b c : Int} (h : Nz [a, b, c]) : ¬ (a = 0 ∧ b = 0 ∧ c = 0) := by
 rintro ⟨rfl, rfl, rfl⟩
 obtain ⟨t, ht, hn⟩ := h
 simp at ht
 exact hn ht
theorem between {f e e' z z' p g : Vc} (lf : f.length = 3) (le : e.length = 3) (le' : e'.length = 3) (lz : z.length = 3) (lz' : z'.length = 3) (lp : p.length = 3) (lg : g.length = 3)
  (fz : val f z = 0) (fz' : val f z' = 0) (fp : val f p = 0) (ez : val e z = 0) (ez' : 0 < val e z') (ep : 0 ≤ val e p) (ez1 : val e' z' = 0) (ez2 : 0 < val e' z) (ep' : 0 ≤ val e' p) (gz : 0 ≤ val g z) (gz' : 0 ≤ val g z') (nf : Nz f) : 0 ≤ val g p := by
 obtain ⟨f0, f1, f2, rfl⟩ := three lf
 obtain ⟨a0, a1, a2, rfl⟩ := three le
 obtain ⟨b0, b1, b2, rfl⟩ := three le'
 obtain ⟨z0, z1, z2, rfl⟩ := three lz
 obtain ⟨y0, y1, y2, rfl⟩ := three lz'
 obtain ⟨p0, p1, p2, rfl⟩ := three lp
 obtain ⟨g0, g1, g2, rfl⟩ := three lg
 simp only [val3] at *
 generalize hA : a0 * y0 + a1 * y1 + a2 * y2 = A at *
 generalize hB : b0 * z0 + b1 * z1 + b2 * z2 = B at *
 generalize hC : a0 * p0 + a1 * p1 + a2 * p2 = C at *
 generalize hD : b0 * p0 + b1 * p1 + b2 * p2 = D at *
 have fd := comb3 (K := A * B) (L := C * B) (M := D * A) fp fz' fz
 have ed := comb3 (K := A * B) (L := C * B) (M := D * A) hC hA ez
 have ed' := comb3 (K := A * B) (L := C * B) (M := D * A) hD ez1 hB
 have gd := comb3 (f0 := g0) (f1 := g1) (f2 := g2) (p0 := p0) (p1 := p1) (p2 := p2) (y0 := y0) (y1 := y1) (y2 := y2) (z0 := z0) (z1 := z1) (z2 := z2) (K := A * B) (L := C * B) (M := D * A) rfl rfl rfl
 have c1 : C * (A * B) - (C * B * A + D * A * 0) = 0 := by rw [Int.mul_zero, Int.add_zero, Int.mul_assoc C B A, Int.mul_comm B A]; omega
 have c2 : D * (A * B) - (C * B * 0 + D * A * B) = 0 := by rw [Int.mul_zero, Int.zero_add, Int.mul_assoc D A B]; omega
 rw [c1] at ed
 rw [c2] at ed'
 rw [show (0 : Int) * (A * B) - (C * B * 0 + D * A * 0) = 0 by simp] at fd
 have U := cross_par fd ed
 have V := cross_par fz ez
 have nu := nz_or (w0 := f1 * a2 - f2 * a1) (w1 := f2 * a0 - f0 * a2) (w2 := f0 * a1 - f1 * a0) fun ⟨h0, h1, h2⟩ => by
  have q : f0 * a1 = f1 * a0 ∧ f0 * a2 = f2 * a0 ∧ f1 * a2 = f2 * a1 := ⟨by omega, by omega, by omega⟩
  exact nz3 nf (along_zero q (b0 := y0) (b1 := y1) (b2 := y2) (by rw [Int.mul_comm y0, Int.mul_comm y1, Int.mul_comm y2]; exact fz') (by rw [Int.mul_comm y0, Int.mul_comm y1, Int.mul_comm y2, hA]; omega))
 have P := along2 nu U V
 obtain ⟨w0, w1, w2⟩ := along_zero P ed' (by rw [hB]; omega)
 rw [w0, w1, w2] at gd
 have fin : (g0 * p0 + g1 * p1 + g2 * p2) * (A * B) = C * B * (g0 * y0 + g1 * y1 + g2 * y2) + D * A * (g0 * z0 + g1 * z1 + g2 * z2) := by simp only [Int.mul_zero, Int.add_zero] at gd; omega
 have m1 := Int.mul_nonneg (Int.mul_nonneg ep (Int.le_of_lt ez2)) gz'
 have m2 := Int.mul_nonneg (Int.mul_nonneg ep' (Int.le_of_lt ez')) gz
 exact Int.nonneg_of_mul_nonneg_left (by rw [fin]; omega) (Int.mul_pos ez' ez2)
def Xp2 (p : Vc) : Prop := ∃ g h, Fm 3 g ∧ Fm 3 h ∧ val g p = 0 ∧ val h p = 0 ∧ ¬ Par g h
theorem flat_sum {α : Type} (f : α → List Int) (B : Int) : ∀ xs : List α, (∀ x, x ∈ xs → (f x).sum ≤ B) → ((xs.map f).flatten).sum ≤ B * xs.length
 | [], _ => by simp
 | x :: xs, h => by
  have h1 := h x (List.mem_cons_self ..)
  have h2 := flat_sum f B xs fun y hy => h y (List.mem_cons_of_mem _ hy)
  rw [List.map_cons, List.flatten_cons, List.sum_append, List.length_cons]
  have e : B * ((xs.length + 1 : Nat) : Int) = B * xs.length + B := by rw [Int.natCast_add, Int.mul_add, Int.natCast_one, Int.mul_one]
  omega
theorem sum_bound {α : Type} (f : α → Int) (B : Int) : ∀ xs : List α, (∀ x, x ∈ xs → f x ≤ B) → (xs.map f).sum ≤ B * xs.length
 | [], _ => by simp
 | x :: xs, h => by
  have h1 := h x (List.mem_cons_self ..)
  have h2 := sum_bound f B xs fun y hy => h y (List.mem_cons_of_mem _ hy)
  rw [List.map_cons, List.sum_cons, List.length_cons]
  have e : B * ((xs.length + 1 : Nat) : Int) = B * xs.length + B := by rw [Int.natCast_add, Int.mul_add, Int.natCast_one, Int.mul_one]
  omega
end Pv
namespace Pv
open PySem
end Pv
namespace Pv
open PySem PySem.Spec PyProof.Rows L2
section
variable {X : Cx}
end
structure Dy (d : Dbt) (wt : Int) (o : One) (j : Nat) : Prop where
 rg : Rg o.rs
 we : o.weight = wt
 pu : 0 ≤ o.purse ∧ o.purse ≤ 2 ^ (60 + j)
 ow : 0 ≤ o.owed ∧ o.owed + 1 ≤ 2 ^ (60 + j)
 da : ∃ n : Nat, o.days = n ∧ n ≤ j ∧ Row (bnd d) wt n o.got (o.purse + o.owed)
theorem mem_at {cs : List Vc} {z : Vc} (h : z ∈ cs) : ∃ i, i < cs.length ∧ cs.getD i [] = z := by
 obtain ⟨i, hi, e⟩ := List.mem_iff_getElem.mp h
 exact ⟨i, hi, by rw [List.getD_eq_getElem?_getD, List.getElem?_eq_getElem hi, ← e]; rfl⟩
def pd1 (n i : Nat) : Nat := if i = 0 then n - 1 else i - 1
theorem prv_eq (cs : List Vc) (i : Nat) : prv cs i = cs.getD (pd1 cs.length i) [] := rfl
def Sup (cs : List Vc) (x y : Vc) : Prop := ∃ e, Fm 3 e ∧ Nz e ∧ val e x = 0 ∧ val e y = 0 ∧ ∀ z, z ∈ cs → 0 ≤ val e z ∧ (val e z = 0 → z = x ∨ z = y)
structure Cvx (cs : List Vc) : Prop where
 nd : cs.Nodup
 pt : ∀ p, p ∈ cs → Px 3 p ∧ gcdF 0 p = 1 ∧ Xp2 p
 sup : ∀ i, i < cs.length → Sup cs (prv cs i) (cs.getD i [])
section
variable {cs : List Vc} {f : Vc}
def On (cs : List Vc) (f : Vc) (j : Nat) (x : Vc) : Prop := x = prv cs j ∨ x = cs.getD j [] ∨ (x = crs f (prv cs j) (cs.getD j []) ∧ val f (prv cs j) * val f (cs.getD j []) < 0)
end
section
variable {cs : List Vc} {f : Vc}
def AP (cs : List Vc) (f x y : Vc) : Prop := (∃ j, j < cs.length ∧ On cs f j x ∧ On cs f j y) ∨ (val f x = 0 ∧ val f y = 0 ∧ ∃ w, w ∈ cs ∧ val f w < 0)
def lastV (A : List Vc) : Vc := A.getD (A.length - 1) []
def Lk (R : Vc → Vc → Prop) (A : List Vc) : Prop := ∀ i, i + 1 < A.length → R (A.getD i []) (A.getD (i + 1) [])
def FC (cs : List Vc) (f h : Vc) : Prop := (0 ≤ val f (prv cs 0) ∧ On cs f 0 h) ∨ (val f h = 0 ∧ (val f (prv cs 0) < 0 ∨ (val f (prv cs 0) = 0 ∧ val f (cs.getD 0 []) < 0)))
structure Scan (cs : List Vc) (f : Vc) (i : Nat) (A : List Vc) : Prop where
 lk : Lk (AP cs f) A
 la : 0 < i → 0 ≤ val f (cs.getD (i - 1) []) → A ≠ [] ∧ lastV A = cs.getD (i - 1) []
 lb : 0 < i → val f (cs.getD (i - 1) []) < 0 → A ≠ [] → val f (lastV A) = 0
 fc : A ≠ [] → FC cs f (A.getD 0 [])
 ne : A = [] → 0 < i → val f (cs.getD 0 []) < 0 ∧ val f (prv cs 0) ≤ 0
end
section
variable {cs : List Vc} {f : Vc}
end
section
variable {cs : List Vc} {f : Vc}
theorem round {P : Vc → Prop} {i : Nat} (hi : i < cs.length) (h0 : P (cs.getD i [])) (hs : ∀ k, k < cs.length → P (prv cs k) → P (cs.getD k [])) : ∀ j, j < cs.length → P (cs.getD j []) := by
 have go : ∀ m, m < cs.length → i + m < cs.length → P (cs.getD (i + m) []) := by
  intro m
  induction m with
  | zero => intro _ _; exact h0
  | succ m ih =>
   intro h1 h2
   refine hs _ h2 ?_
   rw [prv_eq]
   have e : pd1 cs.length (i + (m + 1)) = i + m := by unfold pd1; rw [if_neg (by omega)]; omega
   rw [e]
   exact ih (by omega) (by omega)
 have zero : P (cs.getD 0 []) := by
  refine hs 0 (by omega) ?_
  rw [prv_eq]
  have e : pd1 cs.length 0 = i + (cs.length - 1 - i) := by unfold pd1; rw [if_pos rfl]; omega
  rw [e]
  exact go _ (by omega) (by omega)
 intro j
 induction j with
 | zero => intro _; exact zero
 | succ j ih =>
  intro h
  refine hs _ h ?_
  rw [prv_eq]
  have e : pd1 cs.length (j + 1) = j := by unfold pd1; rw [if_neg (by omega)]; omega
  rw [e]
  exact ih (by omega)
theorem leave (C : Cvx cs) {a b : Vc} (ha : a ∈ cs) (hb : b ∈ cs) (fa : 0 < val f a) (fb : val f b < 0) : ∃ k, k < cs.length ∧ val f (prv cs k) < 0 ∧ 0 ≤ val f (cs.getD k []) := by
 refine Classical.byContradiction fun h => ?_
 obtain ⟨i, hi, rfl⟩ := mem_at ha
 obtain ⟨j, hj, rfl⟩ := mem_at hb
 have := round (P := fun v => val f v < 0) hj fb (fun k hk hp => Int.not_le.mp fun g => h ⟨k, hk, hp, g⟩) i hi
 omega
end
structure FineN (m N : Nat) (q : Dbt × One) : Prop where
 oko : OkO m q
 pu : 0 ≤ q.2.purse
 fc : bt 70 (facO q)
 st : ∀ e, e ∈ q.1.stakes → lev e ≤ 8 ∧ szX e ≤ 100 ∧ npX e ≤ N
section
variable {m N : Nat} {PG : Nat → List Vc → Prop}
end
structure Rivq (m : Nat) (q : Dbt × One) : Prop where
 sc : q.1.scale = 4
 st : q.1.stakes = byS m
structure Off (m : Nat) (x : Vc) (far : Int) (s o : Nat) (r : Vc) : Prop where
 len : r.length = m
 hs : s < m
 ho : o < m
 ne : s ≠ o
 at' : ∀ t, t < m → r.getD t 0 = far * x.getD t 0 + (if t = s then 1 else 0) - (if t = o then 1 else 0)
structure Rw (m : Nat) (M : Int) (R : Vc) (pl : Vc → Vc) : Prop where
 rl : R.length = m
 rp : ∀ z, z ∈ R → 0 ≤ z
 rs : R.sum = 1000 * M
 pe : ∀ x : Vc, x.length = m → pl x = (List.range m).map fun s => R.getD s 0 * x.sum - 1000 * M * x.getD s 0
section
variable {m : Nat} {M : Int} {R : Vc} {pl : Vc → Vc} (w : Rw m M R pl)
include w
end
def rvD (m : Nat) : Dbt := ⟨"rival", 4, [0, 0, 0, 0], byS m, List.replicate m []⟩
structure RV (m : Nat) (q : Dbt × One) : Prop where
 db : q.1 = rvD m
 rl : q.2.rs.length = 4
 rb : ∀ r, r ∈ q.2.rs → 0 ≤ r ∧ r ≤ 1000
 r1 : ((List.range m).map fun s => q.2.rs.getD s 0).sum = 1000
 pu : 0 ≤ q.2.purse ∧ q.2.purse ≤ 10 ^ 12
section
variable {m N : Nat} {PG : Nat → List Vc → Prop}
end
structure Lone (x pl : Vc) (s : Nat) (c : Int) : Prop where
 xl : x.length = 3
 pl' : pl.length = 3
 hs : s < 3
 at' : ∀ j, j < 3 → j ≠ s → pl.getD j 0 = c
section
variable {prog : Program} {w : World} {A : Around} {E : Value → Shared → Prop} {s : Shared}
end
section
variable {X : Cx}
end
structure OneV (o : One) : Prop where
 rg : Rg o.rs
 we : 1 ≤ o.weight ∧ o.weight ≤ 1000000000000
 pu : 0 ≤ o.purse
 ow : 0 ≤ o.owed
 da : 0 ≤ o.days
mutual
def mbV (many : Nat) : Mb → Prop
 | .one d o => DbG many d ∧ OneV o
 | .home x ms => nameOk x = true ∧ ms.length ≤ 24 ∧ mbVL many ms
def mbVL (many : Nat) : List Mb → Prop
 | [] => True
 | m :: ms => mbV many m ∧ mbVL many ms
end
structure Dn (m : Nat) (ms : List Mb) : Prop where
 hm : m = 2 ∨ m = 3
 ok : mbOkL ms
 tl : mbTL ms ≤ 5
 nl : mbNL ms ≤ 500
 on : ∀ q, q ∈ flL ms → DbJ m 1 1 q.1 ∧ OnOk q.2
 ln : (flL ms).length ≤ 12 ∧ (m = 3 → (flL ms).length ≤ 2)
section
variable {m : Nat} {E A B : List Mb} {x : Vc} (f : flL E = flL A ++ flL B) (ha : ∀ q, q ∈ flL A → OkO m q) (hb : ∀ q, q ∈ flL B → OkO m q)
include f ha hb
end
namespace B
end B
structure RiC (m : Nat) (q : Dbt × One) (pw : Int) (rs : Vc) (cc : Vc → Int) : Prop where
 co : ∀ (x : Vc) (s : Nat), x.length = m → s < m → col x s q = pw * (rs.getD s 0 * x.sum - 1000 * x.getD s 0) + cc x
 rl : rs.length = m
 rp : ∀ r, r ∈ rs → 0 ≤ r
 r1 : rs.sum = 1000
 pp : 0 ≤ pw
def r9D (m : Nat) : Dbt := ⟨"rival", 4, [0, 0, 0, 0], byS m, [.tld 3 0] :: List.replicate (m - 1) []⟩
def idD (m : Nat) : Dbt := ⟨"idle", 0, [0, 0, 0, 0], List.replicate m (.fig 9), List.replicate m []⟩
structure R9 (m : Nat) (q : Dbt × One) : Prop where
 db : q.1 = r9D m ∨ q.1 = idD m
 rl : q.2.rs.length = 4
 rb : ∀ r, r ∈ q.2.rs → 0 ≤ r ∧ r ≤ 1000
 r1 : q.1 = r9D m → ((List.range m).map fun s => q.2.rs.getD s 0).sum = 1000
 pu : 0 ≤ q.2.purse ∧ q.2.purse ≤ 10 ^ 10
 we : q.2.weight = 1
 ow : q.2.owed = 0
 da : q.2.days = 0
 go : q.2.got = 0
structure H9 (m : Nat) (ms : List Mb) : Prop where
 hm : m = 2 ∨ m = 3
 ok : mbOkL ms
 tl : mbTL ms ≤ 1
 nl : mbNL ms ≤ 24
 on : ∀ q, q ∈ flL ms → R9 m q
 ln : (flL ms).length ≤ 12
section
variable {m : Nat} {ms : List Mb}
end
section
variable {l : Nat → Nat → Nat} {N : Nat}
end
theorem ml_len (c : Int) (f : Vc) : (mlv c f).length = f.length := by unfold mlv; rw [List.length_map]
theorem ad_len {f g : Vc} (h : f.length = g.length) : (adv f g).length = f.length := by unfold adv; rw [List.length_map, List.length_zip, h, Nat.min_self]
section
variable {m : Nat} {PG : Nat → List Vc → Prop}
end
section
variable {X : Cx}
end
inductive Tre where
 | sg (s : Nat)
 | ct (f : Vc) (lo hi : Tre)
def depT : Tre → Nat
 | .sg _ => 0
 | .ct _ a b => max (depT a) (depT b) + 1
def TreOk (m : Nat) : Tre → Prop
 | .sg s => s < m
 | .ct f a b => Fm m f ∧ TreOk m a ∧ TreOk m b
structure CeP (m : Nat) (c : Cl) (ps : List Vc) : Prop where
 pt : ∀ p, p ∈ c.1 → Pt m p
 fm : ∀ a b, a ∈ ps → b ∈ ps → Fm m (sbv a b)
 ln : ∀ a, a ∈ ps → a.length = m
 pl : ps.length = m
 sz : c.1.length ≤ 1000000
theorem px_of_sum {m : Nat} {l : Vc} (h : l.length = m) (p : ∀ n, n ∈ l → 0 ≤ n) (s : 0 < l.sum) : Px m l := ⟨h, p, Classical.byContradiction fun k => by
 have z : ∀ l : Vc, (∀ n, n ∈ l → n = 0) → l.sum = 0 := fun l => by
  induction l with
  | nil => intro _; rfl
  | cons a l ih =>
   intro h
   rw [List.sum_cons, h a (List.mem_cons_self ..), ih fun n hn => h n (List.mem_cons_of_mem _ hn)]
   rfl
 have := z l fun n hn => Classical.byContradiction fun q => k ⟨n, hn, q⟩
 omega⟩
section
variable {m : Nat} {PG : Nat → List Vc → Prop}
theorem val_adr {f x y : Vc} (h : x.length = y.length) : val f (adv x y) = val f x + val f y := by
 rw [val_comm f, val_ad _ _ _ h, val_comm x, val_comm y]
theorem val_mlr {f x : Vc} {n : Int} : val f (mlv n x) = n * val f x := by
 rw [val_comm f, val_ml, val_comm x]
theorem px_add {x y : Vc} {n : Int} (hn : 0 ≤ n) (hx : Px m x) (hy : Px m y) : Px m (adv x (mlv n y)) := by
 have hl : x.length = (mlv n y).length := by rw [ml_len, hx.len, hy.len]
 refine px_of_sum (by rw [ad_len hl, hx.len]) (fun z hz => ?_) ?_
 ·unfold adv at hz
  obtain ⟨⟨a, b⟩, hab, rfl⟩ := List.mem_map.mp hz
  have h1 := hx.pos _ (List.of_mem_zip hab).1
  obtain ⟨c, hc, e⟩ := List.mem_map.mp (List.of_mem_zip hab).2
  have h2 := Int.mul_nonneg hn (hy.pos c hc)
  show 0 ≤ a + b
  omega
 ·have e : ∀ z : Vc, z.length = m → z.sum = val (List.replicate m 1) z := fun z hz => by rw [val_rep 1 m z hz, Int.one_mul]
  rw [e _ (by rw [ad_len hl, hx.len]), val_adr hl, val_mlr, ← e x hx.len, ← e y hy.len]
  have := hx.sum
  have := Int.mul_nonneg hn (Int.le_of_lt hy.sum)
  omega
theorem inc_add {c : Cl} {x v : Vc} {n : Int} (hn : 0 ≤ n) (sn : SN c) (hx : Px m x) (hv : Px m v) (h : InC m c x) (hm : v ∈ c.1) : InC m c (adv x (mlv n v)) := by
 have hl : x.length = (mlv n v).length := by rw [ml_len, hx.len, hv.len]
 refine ⟨fun g hg hc => ?_, fun f hf => ?_⟩
 ·rw [val_adr hl, val_mlr]
  have a := h.1 g hg hc
  have b := Int.mul_nonneg hn (hc v hm)
  omega
 ·rw [val_adr hl, val_mlr]
  have a := h.2 f hf
  have b := Int.mul_nonneg hn (sn f hf v hm)
  omega
theorem push {c : Cl} {x v f : Vc} (sn : SN c) (hx : Px m x) (hv : Px m v) (h : InC m c x) (hm : v ∈ c.1) : ∃ y, Px m y ∧ InC m c y ∧ (0 < val f v → 0 < val f y) ∧ (val f v < 0 → val f y < 0) := by
 have hn : (0 : Int) ≤ (val f x).natAbs + 1 := by omega
 have hl : x.length = (mlv ((val f x).natAbs + 1 : Int) v).length := by rw [ml_len, hx.len, hv.len]
 refine ⟨_, px_add hn hx hv, inc_add hn sn hx hv h hm, fun k => ?_, fun k => ?_⟩
 ·rw [val_adr hl, val_mlr]
  have := Int.mul_le_mul_of_nonneg_left (show 1 ≤ val f v by omega) hn
  omega
 ·rw [val_adr hl, val_mlr]
  have := Int.mul_le_mul_of_nonneg_left (show val f v ≤ -1 by omega) hn
  omega
def CutB (m : Nat) (c : Cl) (f : Vc) : Prop := (∃ x, Px m x ∧ InC m c x ∧ val f x < 0) ∧ ∃ x, Px m x ∧ InC m c x ∧ 0 ≤ val f x
def brT (m : Nat) (ts : List Tk) : List Vc := ts.flatMap fun t => brs t.rs m t.e
end
inductive Stp where
 | leaf (s : Nat)
 | cut (f : Vc)
structure Hc (m : Nat) (PG : Nat → List Vc → Prop) (kk n0 : Nat) (ms : List Mb) : Prop where
 G : Geo m PG
 C : Cov m PG
 ok : mbOkL ms
 t1 : mbTL ms < kk
 t2 : mbTL ms ≤ 1000
 nl : mbNL ms ≤ 100000
 oko : ∀ q, q ∈ flL ms → OkO m q ∧ 0 ≤ q.2.purse
 tk : ∀ t, t ∈ tksL m (flL ms) → TkOk m t ∧ lev t.e < n0
 nc : ncT (tksL m (flL ms)) ≤ 200000
 tn : (tksL m (flL ms)).length ≤ 60
 fit : ∀ (c : Cl) (k : Nat), Ce m PG k c → k ≤ 1000 → Fits m (tksL m (flL ms)) [(c, zerosF m)] 0
section
variable {m : Nat} {PG : Nat → List Vc → Prop} {kk n0 : Nat} {ms : List Mb}
def PairB (m : Nat) (ms : List Mb) (c : Cl) (p : Nat × Nat) : Prop := (∃ x, Px m x ∧ InC m c x ∧ (plL m ms x).getD p.1 0 < (plL m ms x).getD p.2 0) ∧ ∃ x, Px m x ∧ InC m c x ∧ (plL m ms x).getD p.2 0 < (plL m ms x).getD p.1 0
def prsN (m : Nat) : List (Nat × Nat) := (List.range m).flatMap fun i => ((List.range m).filter fun j => decide (i < j)).map fun j => (i, j)
open Classical in
noncomputable def mu (m : Nat) (ms : List Mb) (c : Cl) : Nat := ((brT m (tksL m (flL ms))).filter fun f => decide (CutB m c f)).length + ((prsN m).filter fun p => decide (PairB m ms c p)).length
structure Cx1 (m : Nat) (PG : Nat → List Vc → Prop) (k : Nat) (c : Cl) : Prop where
 ce : Ce m PG k c
 sn : SN c
 ex : ∃ x, Px m x ∧ InC m c x
structure StC (m : Nat) (ms : List Mb) (c : Cl) (f : Vc) : Prop where
 fm : Fm m f
 pos : 0 < mu m ms c
 lo : ∀ d, (hvC c f true).1 = some d → mu m ms d < mu m ms c
 hi : ∀ d, (hvC c f true).2 = some d → mu m ms d < mu m ms c
end
section
variable {X : Cx}
end
end Pv
namespace L2
open PySem PySem.Spec PyProof.Rows
section
variable {X : Cx}
end
end L2
namespace Pv
open PySem PySem.Spec PyProof.Rows L2
section
variable {X : Cx}
end
section
variable {m : Nat} {PG : Nat → List Vc → Prop} {kk n0 : Nat} {ms : List Mb}
end
section
variable {m : Nat} {PG : Nat → List Vc → Prop} {kk n0 : Nat} {ms : List Mb}
end
abbrev Tc2 := Tre × Cl
section
variable {m : Nat} {PG : Nat → List Vc → Prop} {kk n0 : Nat} {ms : List Mb}
structure Tk2 (m : Nat) (PG : Nat → List Vc → Prop) (D : Nat) (p : Tc2) : Prop where
 ok : TreOk m p.1
 ce : Ce m PG (3 + (D - depT p.1)) p.2
end
def lfT (n : Nat) : Nat := [0, 1, 2, 3, 4, 6, 9, 12].getD n 0
def bdT (n : Nat) : Nat := [0, 0, 1, 3, 6, 10, 16, 25].getD n 0
theorem tab (a : Nat) (ha : a < 8) (b : Nat) (hb : b < 8) (pa : 1 ≤ a) (pb : 1 ≤ b) (h : a + b ≤ 7) : lfT a * lfT b ≤ lfT (a + b) ∧ lfT a + lfT b ≤ lfT (a + b) ∧ bdT a + bdT b + lfT a * lfT b ≤ bdT (a + b) ∧ bdT a + bdT b + 1 ≤ bdT (a + b) ∧ lfT a ≤ lfT (a + b) ∧ lfT b ≤ lfT (a + b) ∧ bdT a ≤ bdT (a + b) ∧ bdT b ≤ bdT (a + b) := by
 have k : ((List.range 8).all fun a => (List.range 8).all fun b => a == 0 || b == 0 || decide (7 < a + b) || (decide (lfT a * lfT b ≤ lfT (a + b)) && decide (lfT a + lfT b ≤ lfT (a + b)) && decide (bdT a + bdT b + lfT a * lfT b ≤ bdT (a + b)) && decide (bdT a + bdT b + 1 ≤ bdT (a + b)) && decide (lfT a ≤ lfT (a + b)) && decide (lfT b ≤ lfT (a + b)) && decide (bdT a ≤ bdT (a + b)) && decide (bdT b ≤ bdT (a + b)))) = true := by decide +kernel
 have k := List.all_eq_true.mp (List.all_eq_true.mp k a (List.mem_range.mpr ha)) b (List.mem_range.mpr hb)
 have e1 : (a == 0) = false := by simp; omega
 have e2 : (b == 0) = false := by simp; omega
 rw [e1, e2, decide_eq_false (by omega : ¬ 7 < a + b)] at k
 simp only [Bool.false_or, Bool.and_eq_true, decide_eq_true_eq] at k
 obtain ⟨⟨⟨⟨⟨⟨⟨k1, k2⟩, k3⟩, k4⟩, k5⟩, k6⟩, k7⟩, k8⟩ := k
 exact ⟨k1, k2, k3, k4, k5, k6, k7, k8⟩
structure Fh (m : Nat) (ms : List Mb) : Prop where
 hm : m = 2 ∨ m = 3
 ok : mbOkL ms
 tl : mbTL ms ≤ 5
 nl : mbNL ms ≤ 500
 fine : ∀ q, q ∈ flL ms → Fine m 13 q
 ln : (flL ms).length ≤ 12
 f3 : m = 3 → ∃ N, 1 ≤ N ∧ N ≤ 4000000 ∧ (∀ q, q ∈ flL ms → FineN 3 N q) ∧ N ^ (3 * (flL ms).length) ≤ 4000000
section
variable {P : Program} {w : World} {K : PySem.W.Frag} {mg : Str → Option Value} {base : Heap} {k : Nat} {x y qual : Str} {ps : List Str} {con : Con} {params : Arguments} {body : List Stmt} {scope : Scope} {f : Addr} {fd : FuncData}
end
def npE : List Xp → Nat
 | [] => 1
 | e :: es => npX e * npE es
def npP (ts : List Tk) : Nat := npE (ts.map fun t => t.e)
section
variable {m N : Nat} {PG : Nat → List Vc → Prop}
end
structure Fp (m : Nat) (ms : List Mb) : Prop where
 hm : m = 2 ∨ m = 3
 ok : mbOkL ms
 tl : mbTL ms ≤ 5
 nl : mbNL ms ≤ 500
 fine : ∀ q, q ∈ flL ms → Fine m 13 q
 ln : (flL ms).length ≤ 12
 f3 : m = 3 → ∃ N, N ≤ 4000000 ∧ (∀ q, q ∈ flL ms → FineN 3 N q) ∧ npP (tksL 3 (flL ms)) ≤ 8000000
section
variable {m : Nat} {PG : Nat → List Vc → Prop} {kk n0 : Nat} {ms : List Mb}
end
section
variable {c : C} {m m0 : M}
end
section
variable {K : PySem.W.Frag} {P : Program} {w : World} {mg : Str → Option Value} {base : Heap} {x qual : Str} {params : Arguments} {body : List Stmt} {scope : Scope} {dvs : List V} {kws : List (Str × V)} {f : Addr} {fd : FuncData} {N ps : List Str} {k : Nat} {con : Con}
end
section
variable {m : Nat} {PG : Nat → List Vc → Prop}
structure WOk (m : Nat) (i : Nat) (k : Int) (a b : Xp) : Prop where
 hi : i < m
 h1 : 1 ≤ k
 h2 : k ≤ 1000
 oa : exOk m a
 ob : exOk m b
 la : lev a ≤ 18
 lb : lev b ≤ 18
end
structure WmJ (m F : Nat) (p : Wm) : Prop where
 is : ∃ i k a b, p.1 = .whr i k a b ∧ WOk m i k a b ∧ ncX a + ncX b ≤ 300000 ∧ npX a ≤ 1000000 ∧ npX b ≤ 1000000 ∧ lev a < F ∧ lev b < F
section
variable {m : Nat} {PG : Nat → List Vc → Prop}
end
namespace B
end B
inductive Od : Nat → List Nat → Prop
 | a : Od 2 [0, 1]
 | b : Od 2 [1, 0]
 | c : Od 3 [0, 1, 2]
 | d : Od 3 [0, 2, 1]
 | e : Od 3 [1, 0, 2]
 | f : Od 3 [1, 2, 0]
 | g : Od 3 [2, 0, 1]
 | h : Od 3 [2, 1, 0]
theorem len2 {α : Type} {r : List α} (h : r.length = 2) : ∃ a b, r = [a, b] := by
 match r, h with
 | [a, b], _ => exact ⟨a, b, rfl⟩
section
variable {m : Nat} {o : List Nat} (od : Od m o)
include od
end
section
variable {X : Cx}
end
structure HV (many : Nat) (ms : List Mb) : Prop where
 v : mbVL many ms
 ln : linesL ms ≤ (if many = 2 then 400 else 60)
 ho : (mbNL ms : Int) ≤ (flL ms).length + 12
 ml : ms.length ≤ 24
structure HW (many : Nat) (ms : List Mb) (room homes : Int) (k : Nat) : Prop where
 v : mbVL many ms
 r0 : 0 ≤ room
 ln : linesL ms + room = (if many = 2 then 400 else 60)
 ho : (mbNL ms : Int) + homes = (flL ms).length + 11
 ml : ms.length + k ≤ 12
mutual
theorem wk_deep (p : List Int) (i : Nat) : ∀ m : Mb, ∀ q, q ∈ wk p i m → isOne q.2 = false → q.1.length ≤ p.length + mbT m
 | .one d o, q, hq, h => by
  rw [List.mem_singleton.mp (show q ∈ [(p ++ [(i : Int)], Mb.one d o)] from hq)] at h
  cases h
 | .home x ms, q, hq, h => by
  rcases List.mem_cons.mp (show q ∈ (p ++ [(i : Int)], Mb.home x ms) :: wkL (p ++ [(i : Int)]) 0 ms from hq) with rfl | hq
  ·rw [List.length_append]
   show p.length + 1 ≤ p.length + (mbTL ms + 1)
   omega
  ·have := wkL_deep (p ++ [(i : Int)]) 0 ms q hq h
   rw [List.length_append] at this
   have : q.1.length ≤ p.length + 1 + mbTL ms := this
   show q.1.length ≤ p.length + (mbTL ms + 1)
   omega
theorem wkL_deep (p : List Int) (i : Nat) : ∀ ms : List Mb, ∀ q, q ∈ wkL p i ms → isOne q.2 = false → q.1.length ≤ p.length + mbTL ms
 | [], q, hq, h => nomatch hq
 | m :: ms, q, hq, h => by
  show q.1.length ≤ p.length + max (mbT m) (mbTL ms)
  rcases List.mem_append.mp (show q ∈ wk p i m ++ wkL p (i + 1) ms from hq) with hq | hq
  ·have := wk_deep p i m q hq h
   omega
  ·have := wkL_deep p (i + 1) ms q hq h
   omega
end
section
variable {X : Cx} {e e2 : Expr} {f g : EX} {p p2 pos pos2 : Pos}
end
section
variable {c : C} {m : M} {k : Nat}
end
section
variable {K : PySem.W.Frag} {P : Program} {w : World} {mg : Str → Option Value} {base : Heap} {x qual : Str} {params : Arguments} {body : List Stmt} {scope : Scope} {dvs : List V} {kws : List (Str × V)} {f : Addr} {fd : FuncData} {N ps : List Str} {k : Nat} {con : Con}
end
structure DbF (many : Nat) (d : Dbt) : Prop where
 nm : nameOk d.name = true
 nb : shortB 13 (.str d.name) = true ∧ okD (.str d.name) = true
 sc : d.scale < 5
 rl : d.rs.length = 4
 rb : ∀ r, r ∈ d.rs → -1000 ≤ r ∧ r ≤ 1000
 sl : d.stakes.length = many
 st : ∀ e, e ∈ d.stakes → exOk many e ∧ lev e ≤ 4 ∧ szX e ≤ 13 ∧ -(500 * 2 ^ d.scale) ≤ (sp e).1 ∧ (sp e).2 ≤ 500 * 2 ^ d.scale ∧ (many = 3 → npX e ≤ 8)
 dl : d.deeds.length = many
 de : ∀ x, x ∈ d.deeds → deOkL many x ∧ dnstL x ≤ 4 ∧ dcntL x ≤ 20 ∧ DatL 3 90 (deL x)
structure Rf (many : Nat) (ms : List Mb) : Prop where
 tl : mbTL ms ≤ 3
 nl : mbNL ms ≤ 100
 ok : mbOkL ms
 on : ∀ q, q ∈ flL ms → DbF many q.1 ∧ OnOk q.2
 fn : (flL ms).length ≤ 4
 f1 : 1 ≤ (flL ms).length
def Sh6 (e : Xp) : Prop := szX e ≤ 3 ∨ ∃ (f g : Int) (x : Xp), szX x ≤ 3 ∧ e = .lst (.fig f) (.mst (.fig g) x)
def Sh7 (e : Xp) : Prop := Sh6 e ∨ ∃ (n : Int) (a : Xp), Sh6 a ∧ e = .tim n a
section
variable {m : Nat} {PG : Nat → List Vc → Prop}
end
structure F6 (m : Nat) (ms : List Mb) : Prop where
 hm : m = 2 ∨ m = 3
 ok : mbOkL ms
 tl : mbTL ms ≤ 5
 nl : mbNL ms ≤ 500
 fine : ∀ q, q ∈ flL ms → Fine m 13 q
 ln : (flL ms).length ≤ 12
 f3 : m = 3 → (∀ q, q ∈ flL ms → FineN 3 8 q ∧ ∀ e, e ∈ q.1.stakes → Sh7 e) ∧ (flL ms).length ≤ 3
section
variable {X : Cx}
end
theorem dIx_none {c : C} {m : M} {k : Key} : ∀ {kvs : List (Key × V)} {vs : List D}, RepL c m vs (kvs.map (·.2)) → dIx (kvs.map (·.1)) vs k = none → valV kvs k = none
 | [], vs, h, e => rfl
 | kv :: kvs, vs, h, e => by
  cases vs with
  | nil =>
   have h : (kv :: kvs).map (·.2) = [] := h
   cases h
  | cons d2 vs =>
   obtain ⟨y, r, e1, h1, h2⟩ := h
   simp only [List.map_cons, List.cons.injEq] at e1
   obtain ⟨rfl, rfl⟩ := e1
   by_cases hk : kv.1 = k
   ·simp [dIx, hk] at e
   ·have : dIx (kvs.map (·.1)) vs k = none := by simpa [dIx, hk, List.find?_cons] using e
    rw [valV_neg hk]
    exact dIx_none h2 this
section
variable {X : Cx} {a b c : Expr} {fa fb fc : EX} {apos cpos : Pos}
end
section
variable {m N : Nat} {PG : Nat → List Vc → Prop}
end
def SysOk (h : Heap) (as : List Addr) : Prop := ∀ b, b ∈ as → b = sysModules → ∃ o, h.get? b = some o ∧ o.cls = .type "list"
theorem SysOk.tl {h : Heap} {a : Addr} {as : List Addr} (x : SysOk h (a :: as)) : SysOk h as := fun b hb => x b (List.mem_cons_of_mem _ hb)
theorem SysOk.l {h : Heap} {as bs : List Addr} (x : SysOk h (as ++ bs)) : SysOk h as := fun b hb => x b (List.mem_append_left _ hb)
theorem SysOk.r {h : Heap} {as bs : List Addr} (x : SysOk h (as ++ bs)) : SysOk h bs := fun b hb => x b (List.mem_append_right _ hb)
theorem SysOk.app {h : Heap} {as bs : List Addr} (x : SysOk h as) (y : SysOk h bs) : SysOk h (as ++ bs) := fun b hb => (List.mem_append.mp hb).elim (x b) (y b)
theorem SysOk.dict {h : Heap} {a : Addr} {as : List Addr} {o : Obj} (x : SysOk h (a :: as)) (e : h.get? a = some o) (hc : o.cls = .type "dict") : (a == sysModules) = false := by
 refine beq_eq_false_iff_ne.mpr fun ea => ?_
 obtain ⟨o', e', c'⟩ := x a (List.mem_cons_self ..) ea
 rw [e] at e'
 cases e'
 rw [hc] at c'
 exact absurd c' (by decide)
section
variable {prog : Program} {w : World} {h₀ : Heap}
mutual
theorem reprQ : ∀ {v : Value} {d : PyData} {as : List Addr}, Reads h₀ v d as → d.showable = true → SysOk h₀ as → d.shown.length ≤ sizeLine → ∃ bs, ReadAtMost h₀ d.depth bs ∧ ReprK prog w bs h₀ d.depth v d.shown
 | _, _, _, .none, _, _, _ => ⟨[], (fun _ h => nomatch h), by simp only [PyData.shown]; exact .of_is ReprIs.none _ _ _⟩
 | _, _, _, .bool b, _, _, _ => ⟨[], (fun _ h => nomatch h), by simp only [PyData.shown]; exact .of_is (ReprIs.bool b) _ _ _⟩
 | _, _, _, .int i t, hs, _, _ => ⟨[], (fun _ h => nomatch h), by simp only [PyData.shown]; exact .of_is (ReprIs.int t (by simpa [PyData.showable] using hs)) _ _ _⟩
 | _, _, _, .str x t, _, _, hz => ⟨[], (fun _ h => nomatch h), by simp only [PyData.shown]; exact .of_is (ReprIs.str x t (by simpa only [PyData.shown] using hz)) _ _ _⟩
 | _, _, _, .list (a := a) (vs := vs) (xs := xs) h1 h2 h3 h4, hs, hq, hz => by
  have hz' : (listText (PyData.shownAll xs)).length ≤ sizeLine := by simpa only [PyData.shown] using hz
  obtain ⟨bs, hb, hk⟩ := reprQA h4 (by simpa [PyData.showable] using hs) hq.tl (fun t ht => Nat.le_trans (listText_mem_le ht) hz')
  have r : Reads h₀ (.ref a) (.list xs) _ := .list h1 h2 h3 h4
  have hna : a ∉ bs := not_mem_of_deeper r (by simp only [PyData.depth]; omega) hb
  refine ⟨a :: bs, ReadAtMost.cons r (by simp only [PyData.depth]; omega) hb, ?_⟩
  simp only [PyData.depth, PyData.shown]
  obtain ⟨l⟩ := vs
  cases l with
  | nil =>
   have h4' : ReadsAll h₀ [] xs _ := h4
   cases h4'
   simp only [PyData.shownAll, listText_nil]
   exact ReprK.listEmpty h1 h2 h3
  | cons x l => exact ReprK.list h1 h2 h3 hna (by simpa using hk.length_eq) (fun i y e => hk.item i y (by simpa using e))
 | _, _, _, .tuple (a := a) (xs := xs) h1 h2 h3 h4, hs, hq, hz => by
  have hz' : (tupleText (PyData.shownAll xs)).length ≤ sizeLine := by simpa only [PyData.shown] using hz
  obtain ⟨bs, hb, hk⟩ := reprQA h4 (by simpa [PyData.showable] using hs) hq (fun t ht => Nat.le_trans (tupleText_mem_le ht) hz')
  have r : Reads h₀ (.ref a) (.tuple xs) _ := .tuple h1 h2 h3 h4
  have hna : a ∉ bs := not_mem_of_deeper r (by simp only [PyData.depth]; omega) hb
  refine ⟨a :: bs, ReadAtMost.cons r (by simp only [PyData.depth]; omega) hb, ?_⟩
  simp only [PyData.depth, PyData.shown]
  exact ReprK.tuple h1 h2 h3 hna hk
 | _, _, _, .dict (a := a) (es := es) (kvs := kvs) (as := as₁) (bs := bs₁) h1 h2 h3 h4 h5, hs, hq, hz => by
  have hz' : (dictText (PyData.shownKv kvs)).length ≤ sizeLine := by simpa only [PyData.shown] using hz
  have hq' : SysOk h₀ (a :: (as₁ ++ bs₁)) := hq
  obtain ⟨hs1, hs2⟩ := PyData.showableKv_split kvs (by simpa [PyData.showable] using hs)
  obtain ⟨b1, hb1, k1⟩ := reprQA h4 hs1 hq'.tl.l (fun t ht => let ⟨p, hp, hl⟩ := PyData.shownKv_key_le kvs t ht; Nat.le_trans hl (Nat.le_trans (dictText_mem_le hp) hz'))
  obtain ⟨b2, hb2, k2⟩ := reprQA h5 hs2 hq'.tl.r (fun t ht => let ⟨p, hp, hl⟩ := PyData.shownKv_val_le kvs t ht; Nat.le_trans hl (Nat.le_trans (dictText_mem_le hp) hz'))
  have r : Reads h₀ (.ref a) (.dict kvs) _ := .dict h1 h2 h3 h4 h5
  have hb : ReadAtMost h₀ (PyData.depthKv kvs) (b1 ++ b2) := (hb1.mono (PyData.depthAll_keys_le kvs)).append (hb2.mono (PyData.depthAll_vals_le kvs))
  have hna : a ∉ b1 ++ b2 := not_mem_of_deeper r (by simp only [PyData.depth]; omega) hb
  refine ⟨a :: (b1 ++ b2), ReadAtMost.cons r (by simp only [PyData.depth]; omega) hb, ?_⟩
  simp only [PyData.depth, PyData.shown, PyData.shownKv_eq]
  exact ReprK.dict h1 h2 h3 (hq'.dict h1 h2) hna (ReprEntriesK.of_two es.toList _ _
   (k1.more_le (fun b hb => List.mem_append_left _ hb) (PyData.depthAll_keys_le kvs)) (k2.more_le (fun b hb => List.mem_append_right _ hb) (PyData.depthAll_vals_le kvs)))
theorem reprQA : ∀ {vs : List Value} {ds : List PyData} {as : List Addr}, ReadsAll h₀ vs ds as → PyData.showableAll ds = true → SysOk h₀ as → (∀ t ∈ PyData.shownAll ds, t.length ≤ sizeLine) →
  ∃ bs, ReadAtMost h₀ (PyData.depthAll ds) bs ∧ ReprAllK prog w bs h₀ (PyData.depthAll ds) vs (PyData.shownAll ds)
 | _, _, _, .nil, _, _, _ => ⟨[], (fun _ h => nomatch h), by simp only [PyData.shownAll]; exact .nil⟩
 | _, _, _, .cons (d := d) (ds := ds) r rs, hs, hq, hz => by
  have hs' : d.showable = true ∧ PyData.showableAll ds = true := by simpa [PyData.showableAll] using hs
  obtain ⟨b1, hb1, k1⟩ := reprQ r hs'.1 hq.l (hz _ (by simp only [PyData.shownAll]; exact List.mem_cons_self ..))
  obtain ⟨b2, hb2, k2⟩ := reprQA rs hs'.2 hq.r (fun t ht => hz t (by simp only [PyData.shownAll]; exact List.mem_cons_of_mem _ ht))
  refine ⟨b1 ++ b2, ?_, ?_⟩
  ·simp only [PyData.depthAll]
   exact (hb1.mono (Nat.le_max_left _ _)).append (hb2.mono (Nat.le_max_right _ _))
  ·simp only [PyData.depthAll, PyData.shownAll]
   exact .cons ((k1.more fun b hb => List.mem_append_left _ hb).level_le (Nat.le_max_left _ _)) (k2.more_le (fun b hb => List.mem_append_right _ hb) (Nat.le_max_right _ _))
end
variable {a : Addr} {d : PyData} {as : List Addr} {A : Around} {E : Value → Shared → Prop} {s : Shared} {Q : Value → Shared → Prop}
theorem repr_readsQ (r : Reads h₀ (.ref a) d as) (hs : d.showable = true) (hq : SysOk h₀ as) (hg : A.guards = some []) (hu : A.units + (d.depth + 1) < cLine) (hk0 : ∀ b o, h₀.get? b = some o → s.heap.get? b = some o)
  (hQ : ∀ h' u tk, (∀ b o, s.heap.get? b = some o → h'.get? b = some o) → Q (.str d.shown u) { s with heap := h', toks := tk })
  (hsz : d.shown.length ≤ sizeLine) : wpAny (model prog w) A (call (.builtin "repr") [.ref a]) Q E s := by
 cases r with
 | list h1 h2 h3 h4 =>
  rename_i o vs n xs bs₀
  have hz' : (listText (PyData.shownAll xs)).length ≤ sizeLine := by simpa only [PyData.shown] using hsz
  obtain ⟨bs, hb, hk⟩ := reprQA (prog := prog) (w := w) h4 (by simpa [PyData.showable] using hs) hq.tl (fun t ht => Nat.le_trans (listText_mem_le ht) hz')
  have hna : a ∉ bs := not_mem_of_deeper (.list h1 h2 h3 h4) (by simp only [PyData.depth]; omega) hb
  simp only [PyData.depth] at hu
  simp only [PyData.shown] at hQ
  refine call_repr_slot (by omega) ⟨o, hk0 _ _ h1, h2⟩ F.slot_list_repr.toG ?_
  obtain ⟨l⟩ := vs
  cases l with
  | nil =>
   have h4' : ReadsAll h₀ [] xs _ := h4
   cases h4'
   simp only [PyData.shownAll, listText_nil] at hQ
   exact call_list_repr_empty ⟨o, hk0 _ _ h1, h2⟩ (hk0 _ _ h1) h3 ⟨_, _, rfl, hQ s.heap _ _ fun _ _ e => e⟩
  | cons x l =>
   exact call_list_reprK h1 h2 h3 hna (by simpa using hk.length_eq) (fun i y e => hk.item i y (by simpa using e)) hg (fun b _ => Clear.nil b) (by show A.units + 1 + _ < cLine; omega) hk0 (fun h' u tk hk' => ⟨_, _, rfl, hQ h' u tk hk'⟩) hz'
 | tuple h1 h2 h3 h4 =>
  rename_i o vs n xs
  have hz' : (tupleText (PyData.shownAll xs)).length ≤ sizeLine := by simpa only [PyData.shown] using hsz
  obtain ⟨bs, hb, hk⟩ := reprQA (prog := prog) (w := w) h4 (by simpa [PyData.showable] using hs) hq (fun t ht => Nat.le_trans (tupleText_mem_le ht) hz')
  have hna : a ∉ bs := not_mem_of_deeper (.tuple h1 h2 h3 h4) (by simp only [PyData.depth]; omega) hb
  simp only [PyData.depth] at hu
  simp only [PyData.shown] at hQ
  refine call_repr_slot (by omega) ⟨o, hk0 _ _ h1, h2⟩ F.slot_tuple_repr ?_
  exact call_tuple_reprK h1 h2 h3 hna hk hg (fun b _ => Clear.nil b) (by show A.units + 1 + _ < cLine; omega) hk0 (fun h' u tk hk' => ⟨_, _, rfl, hQ h' u tk hk'⟩) hz'
 | dict h1 h2 h3 h4 h5 =>
  rename_i o es n kvs as₁ bs₁
  have hz' : (dictText (PyData.shownKv kvs)).length ≤ sizeLine := by simpa only [PyData.shown] using hsz
  have hq' : SysOk h₀ (a :: (as₁ ++ bs₁)) := hq
  obtain ⟨hs1, hs2⟩ := PyData.showableKv_split kvs (by simpa [PyData.showable] using hs)
  obtain ⟨b1, hb1, k1⟩ := reprQA (prog := prog) (w := w) h4 hs1 hq'.tl.l (fun t ht => let ⟨p, hp, hl⟩ := PyData.shownKv_key_le kvs t ht; Nat.le_trans hl (Nat.le_trans (dictText_mem_le hp) hz'))
  obtain ⟨b2, hb2, k2⟩ := reprQA (prog := prog) (w := w) h5 hs2 hq'.tl.r (fun t ht => let ⟨p, hp, hl⟩ := PyData.shownKv_val_le kvs t ht; Nat.le_trans hl (Nat.le_trans (dictText_mem_le hp) hz'))
  have hb : ReadAtMost h₀ (PyData.depthKv kvs) (b1 ++ b2) := (hb1.mono (PyData.depthAll_keys_le kvs)).append (hb2.mono (PyData.depthAll_vals_le kvs))
  have hna : a ∉ b1 ++ b2 := not_mem_of_deeper (.dict h1 h2 h3 h4 h5) (by simp only [PyData.depth]; omega) hb
  simp only [PyData.depth] at hu
  simp only [PyData.shown, PyData.shownKv_eq] at hQ
  refine call_repr_slot (by omega) ⟨o, hk0 _ _ h1, h2⟩ F.slot_dict_repr ?_
  exact call_dict_reprK h1 h2 h3 (hq'.dict h1 h2) hna (ReprEntriesK.of_two es.toList _ _
   (k1.more_le (fun b hb => List.mem_append_left _ hb) (PyData.depthAll_keys_le kvs)) (k2.more_le (fun b hb => List.mem_append_right _ hb) (PyData.depthAll_vals_le kvs))) hg (fun b _ => Clear.nil b) (by show A.units + 1 + _ < cLine; omega) hk0 (fun h' u tk hk' => ⟨_, _, rfl, hQ h' u tk hk'⟩) (by rw [← PyData.shownKv_eq]; exact hz')
end
mutual
def flatE : D → Bool
 | .ref _ => false
 | .dic ks _ => ks.isEmpty
 | .tag _ _ => false
 | .dref _ => false
 | .tup xs => flatEL xs
 | .lst xs => flatEL xs
 | .rol xs => flatEL xs
 | _ => true
def flatEL : List D → Bool
 | [] => true
 | d :: ds => flatE d && flatEL ds
end
def pdSE (S : Sto) (d : D) : Option PyData := match d with
 | .ref n => (boxAt S n).bind fun ds => if flatEL ds = true then some (.list (pdL ds)) else none
 | d => if flatE d = true then some (pd d) else none
section
variable {X : Cx} {pins : List (Addr × Obj)} {σ : L2.St} {c : C} {m : M} {s : Shared}
mutual
theorem Rep.rdE (I : L2.Inv X pins σ m.H s) : ∀ (d : D) (v : V) (u : Value), Rep ⟨X.K, Z⟩ m d v → flatE d = true → RelV v u → ∃ as, Reads s.heap u (pd d) as ∧ SysOk s.heap as
 | .non, v, u, h, _, r => by
  rw [show v = .non from h] at r
  cases r
  exact ⟨_, .none, fun b hb => by cases hb⟩
 | .bl b, v, u, h, _, r => by
  rw [show v = .bl b from h] at r
  cases r
  exact ⟨_, .bool b, fun b hb => by cases hb⟩
 | .int i, v, u, h, _, r => by
  rw [show v = .int i from h] at r
  obtain ⟨t, rfl⟩ := r
  exact ⟨_, .int i t, fun b hb => by cases hb⟩
 | .str x, v, u, h, _, r => by
  rw [show v = .str x from h] at r
  obtain ⟨t, rfl⟩ := r
  exact ⟨_, .str x t, fun b hb => by cases hb⟩
 | .tup ds, v, u, h, b, r => by
  obtain ⟨a, xs, rfl, h1, h2⟩ := h
  cases r
  obtain ⟨its, rv, ⟨o, ho, hc, n, hd⟩, _⟩ := I.tuple h1
  obtain ⟨as, hr, hq⟩ := RepL.rdE I ds xs its h2 (by simpa [flatE] using b) rv
  exact ⟨_, .tuple ho hc hd hr, hq⟩
 | .lst ds, v, u, h, b, r => by
  obtain ⟨a, xs, rfl, h1, h2⟩ := h
  cases r
  obtain ⟨its, rv, ⟨o, n, ho, hc, _, hd⟩, _⟩ := I.list h1.sq
  obtain ⟨as, hr, hq⟩ := RepL.rdE I ds xs its h2 (by simpa [flatE] using b) rv
  refine ⟨_, .list ho hc hd hr, fun b hb e => ?_⟩
  rcases List.mem_cons.mp hb with rfl | hb
  ·exact ⟨o, ho, hc⟩
  ·exact hq b hb e
 | .rol ds, v, u, h, b, r => by
  obtain ⟨a, xs, rfl, h1, h2⟩ := h
  cases r
  obtain ⟨its, rv, ⟨o, n, ho, hc, _, hd⟩, _⟩ := I.list h1.sq
  obtain ⟨as, hr, hq⟩ := RepL.rdE I ds xs its h2 (by simpa [flatE] using b) rv
  refine ⟨_, .list ho hc hd hr, fun b hb e => ?_⟩
  rcases List.mem_cons.mp hb with rfl | hb
  ·exact ⟨o, ho, hc⟩
  ·exact hq b hb e
 | .dic ks vs, v, u, h, b, r => by
  obtain ⟨a, kvs, rfl, ⟨h1, _, _⟩, h2, h3⟩ := h
  cases r
  have e : ks = [] := by simpa [flatE] using b
  subst e
  have ek : kvs = [] := by simpa using h2
  subst ek
  have ev : vs = [] := by
   cases vs with
   | nil => rfl
   | cons d ds =>
    obtain ⟨y, r, e1, _⟩ := h3
    cases e1
  subst ev
  obtain ⟨_, hsy, vs0, r0, o, es, ep, ho, hx, hd, _, hes, _⟩ := dk_of I.hok h1
  cases r0
  have e0 : es.toList = [] := by
   have := hes.length
   simpa using this
  refine ⟨_, Reads.dict (kvs := []) (as := []) (bs := []) ho hx.1 hd (by rw [e0]; exact .nil) (by rw [e0]; exact .nil), fun b hb e => ?_⟩
  have : b = a := by simpa using hb
  subst this
  rw [e] at hsy
  exact absurd hsy (by decide)
 | .ref _, v, u, h, b, r => by simp [flatE] at b
theorem RepL.rdE (I : L2.Inv X pins σ m.H s) : ∀ (ds : List D) (vs : List V) (us : List Value), RepL ⟨X.K, Z⟩ m ds vs → flatEL ds = true → Vals vs us → ∃ as, ReadsAll s.heap us (pdL ds) as ∧ SysOk s.heap as
 | [], vs, us, h, _, r => by
  rw [show vs = [] from h] at r
  cases r
  exact ⟨_, .nil, fun b hb => by cases hb⟩
 | d :: ds, vs, us, h, b, r => by
  obtain ⟨y, vr, rfl, h1, h2⟩ := h
  have b : flatE d = true ∧ flatEL ds = true := by simpa [flatEL] using b
  cases r with
  | cons r1 r2 =>
   obtain ⟨as, q1, s1⟩ := Rep.rdE I d _ _ h1 b.1 r1
   obtain ⟨bs, q2, s2⟩ := RepL.rdE I ds _ _ h2 b.2 r2
   exact ⟨_, .cons q1 q2, s1.app s2⟩
end
end
def reprOkE (p : PyData) : Bool := p.showable && decide (p.depth ≤ 60) && decide (p.shown.length ≤ 16700000)
def gReprE : F1 := fun S d => (pdSE S d).bind fun p => if reprOkE p = true then some (.str p.shown) else none
theorem b_reprE {X : Cx} (hA : ∃ k, RG k X.A) : CallR X (.builtin "repr") (rN X.K (fn1 gReprE)) := by
 rintro pins s σ H xs us Q I r ⟨Z, m, as, d, rfl, si, ra, hf, q⟩
 obtain ⟨a, rfl, hf⟩ := fn1_inv hf
 obtain ⟨x, rfl, rx⟩ := ra.one_inv
 obtain ⟨p, h1, hf⟩ := Option.bind_eq_some_iff.mp hf
 obtain ⟨hz, rfl⟩ := ite_some hf
 obtain ⟨k, hr⟩ := hA
 unfold reprOkE at hz
 simp only [Bool.and_eq_true, decide_eq_true_eq] at hz
 obtain ⟨⟨z1, z2⟩, z4⟩ := hz
 obtain ⟨u, rfl, ru⟩ := vals1 r
 have hsz : p.shown.length ≤ sizeLine := by
  rw [sizeLine_eq]
  omega
 have hun := hr.room.un
 have fin : ∀ {b : Addr} {as : List Addr}, u = .ref b → Reads s.heap u p as → SysOk s.heap as → wpAny (model X.prog X.w) X.A (call (.builtin "repr") [u]) (fun w' s' => ∃ v H', L2.Inv X pins σ H' s' ∧ RelV v w' ∧ Q v H') X.xe s := fun e rd hq => by
  subst e
  exact repr_readsQ rd z1 hq hr.gd (by omega) (fun _ _ e => e) (fun h' u tk hk => ⟨.str _, m.H, I.kept hk, ⟨_, rfl⟩, q m _ rfl (.refl si) rfl⟩) hsz
 cases a with
 | non =>
  cases h1
  rw [show x = .non from rx] at ru
  cases ru
  exact PySem.P.repr_of_none ⟨.str "None", m.H, I.tok _, ⟨_, rfl⟩, q m _ rfl (.refl si) rfl⟩
 | bl b =>
  cases h1
  rw [show x = .bl b from rx] at ru
  cases ru
  exact PySem.P.repr_of_bool ⟨.str _, m.H, I.tok _, ⟨_, rfl⟩, q m _ rfl (.refl si) rfl⟩
 | int i =>
  cases h1
  rw [show x = .int i from rx] at ru
  obtain ⟨t, rfl⟩ := ru
  exact PySem.P.repr_of_int (by simpa [pd, PyData.showable] using z1) ⟨.str _, m.H, I.tok _, ⟨_, rfl⟩, q m _ rfl (.refl si) rfl⟩
 | str y =>
  cases h1
  rw [show x = .str y from rx] at ru
  obtain ⟨t, rfl⟩ := ru
  exact PySem.P.repr_of_str ⟨.str _, m.H, I.tok _, ⟨_, rfl⟩, q m _ rfl (.refl si) rfl⟩ hsz
 | tup ds =>
  obtain ⟨b, e⟩ := ite_some h1
  subst e
  have rx' := rx
  obtain ⟨ad, xs, rfl, _, _⟩ := rx'
  obtain ⟨as, rd, hq⟩ := Rep.rdE I _ _ _ rx b ru
  exact fin ru rd hq
 | lst ds =>
  obtain ⟨b, e⟩ := ite_some h1
  subst e
  have rx' := rx
  obtain ⟨ad, xs, rfl, _, _⟩ := rx'
  obtain ⟨as, rd, hq⟩ := Rep.rdE I _ _ _ rx b ru
  exact fin ru rd hq
 | rol ds =>
  obtain ⟨b, e⟩ := ite_some h1
  subst e
  have rx' := rx
  obtain ⟨ad, xs, rfl, _, _⟩ := rx'
  obtain ⟨as, rd, hq⟩ := Rep.rdE I _ _ _ rx b ru
  exact fin ru rd hq
 | tag j ds =>
  have h1 : (none : Option PyData) = some p := h1
  cases h1
 | dref n =>
  have h1 : (none : Option PyData) = some p := h1
  cases h1
 | dic ks vs =>
  obtain ⟨b, e⟩ := ite_some h1
  subst e
  have rx' := rx
  obtain ⟨ad, xs, rfl, _, _⟩ := rx'
  obtain ⟨as, rd, hq⟩ := Rep.rdE I _ _ _ rx b ru
  exact fin ru rd hq
 | ref n =>
  obtain ⟨ds, hb, h1⟩ := Option.bind_eq_some_iff.mp (show (boxAt m.S n).bind _ = _ from h1)
  obtain ⟨b, rfl⟩ := ite_some h1
  obtain ⟨hl, xs, hx, rl⟩ := si.at hb
  have ex : x = .ref (m.r n) := rx.2
  subst ex
  cases ru
  obtain ⟨its, rv, ⟨o, nn, ho, hc, _, hd⟩, _⟩ := I.list (SqL.of hx)
  obtain ⟨as, hrd, hq⟩ := RepL.rdE I ds xs its rl b rv
  refine fin rfl (.list ho hc hd hrd) fun b hb e => ?_
  rcases List.mem_cons.mp hb with rfl | hb
  ·exact ⟨o, ho, hc⟩
  ·exact hq b hb e
def eDic0 : EX := fun _ S => some (.dic [] [], S)
section
variable {X : Cx} {pos : Pos}
theorem ej_dic0 : EJ X (.Dict [] [] pos) eDic0 := pe_wk pe_dnewK fun σ H Q ⟨Z, m, env, v, S', e, s, er, hf, q⟩ => by
 cases hf
 intro p hp
 subst e
 exact q ⟨m.r, m.S, upd m.H p (.dK [])⟩ (.ref p) rfl (Tr.laid s hp) ⟨p, [], rfl, ⟨upd_same, (s.fresh hp).1, (s.fresh hp).2⟩, rfl, rfl⟩
end
mutual
def shortE (k : Nat) : D → Bool
 | .non => true
 | .bl _ => true
 | .int i => decide (i.natAbs < 10 ^ k)
 | .str x => (x.cps.toList.all fun c => decide (c < 16 ^ 8)) && decide (x.cps.size ≤ 4 * k)
 | .tup xs => shortEL k xs
 | .lst xs => shortEL k xs
 | .rol xs => shortEL k xs
 | .dic ks vs => ks.isEmpty && vs.isEmpty
 | .tag _ _ => false
 | .dref _ => false
 | .ref _ => false
def shortEL (k : Nat) : List D → Bool
 | [] => true
 | d :: ds => shortE k d && shortEL k ds
end
mutual
theorem shortE_pd {k : Nat} (hk : 0 < k) (hk2 : k ≤ 470) : ∀ d : D, shortE k d = true → flatE d = true ∧ (pd d).depth ≤ dep d + 1 ∧ (pd d).showable = true ∧ (pd d).leavesShort 600 = true ∧ (pd d).weight ≤ cnt d * (4 * k) ∧ bare d = true
 | .non, _ => ⟨rfl, Nat.zero_le _, rfl, rfl, Nat.zero_le _, rfl⟩
 | .bl b, _ => ⟨rfl, Nat.zero_le _, rfl, rfl, Nat.zero_le _, rfl⟩
 | .int i, h => by
  have h : i.natAbs < 10 ^ k := of_decide_eq_true h
  have hl : i.natAbs < 2 ^ (4 * k) := Nat.lt_of_lt_of_le h (by rw [Nat.pow_mul]; exact Nat.pow_le_pow_left (by decide) k)
  have hl2 := log2_lt hl (by omega)
  refine ⟨rfl, Nat.zero_le _, decide_eq_true (by omega), ?_, ?_, rfl⟩
  ·have e := int_text_length_le10 hk h
   refine decide_eq_true ?_
   show (Str.ofString (toString i)).length ≤ 600
   rw [PySem.ofString_length]; omega
  ·show (if i == 0 then 0 else i.natAbs.log2 + 1) ≤ 1 * (4 * k)
   split <;> omega
 | .str x, h => by
  obtain ⟨h2, h3⟩ := Bool.and_eq_true_iff.mp h
  have h3 := of_decide_eq_true h3
  exact ⟨rfl, Nat.zero_le _, rfl, h2, by show x.cps.size ≤ 1 * (4 * k); omega, rfl⟩
 | .tup xs, h => by
  obtain ⟨a, b, c, e, f, g⟩ := shortEL_pd hk hk2 xs h
  exact ⟨a, by show _ + 1 ≤ depL xs + 1 + 1; omega, c, e, f, g⟩
 | .lst xs, h => by
  obtain ⟨a, b, c, e, f, g⟩ := shortEL_pd hk hk2 xs h
  exact ⟨a, by show _ + 1 ≤ depL xs + 1 + 1; omega, c, e, f, g⟩
 | .rol xs, h => by
  obtain ⟨a, b, c, e, f, g⟩ := shortEL_pd hk hk2 xs h
  exact ⟨a, by show _ + 1 ≤ depL xs + 1 + 1; omega, c, e, f, g⟩
 | .dic ks vs, h => by
  obtain ⟨h1, h2⟩ := Bool.and_eq_true_iff.mp h
  have e1 : ks = [] := List.isEmpty_iff.mp h1
  have e2 : vs = [] := List.isEmpty_iff.mp h2
  subst e1 e2
  exact ⟨rfl, Nat.le_refl _, rfl, rfl, Nat.zero_le _, rfl⟩
 | .ref _, h => nomatch h
theorem shortEL_pd {k : Nat} (hk : 0 < k) (hk2 : k ≤ 470) : ∀ ds : List D, shortEL k ds = true → flatEL ds = true ∧ PyData.depthAll (pdL ds) ≤ depL ds + 1 ∧ PyData.showableAll (pdL ds) = true ∧ PyData.leavesShortAll 600 (pdL ds) = true ∧ PyData.weightAll (pdL ds) ≤ cntL ds * (4 * k) ∧ bareL ds = true
 | [], _ => ⟨rfl, Nat.zero_le _, rfl, rfl, Nat.zero_le _, rfl⟩
 | d :: ds, h => by
  obtain ⟨h1, h2⟩ := Bool.and_eq_true_iff.mp h
  obtain ⟨a, b, c, e, f, g⟩ := shortE_pd hk hk2 d h1
  obtain ⟨a', b', c', e', f', g'⟩ := shortEL_pd hk hk2 ds h2
  refine ⟨?_, ?_, ?_, ?_, ?_, ?_⟩
  ·show (flatE d && flatEL ds) = true; rw [a, a']; rfl
  ·show max (pd d).depth (PyData.depthAll (pdL ds)) ≤ max (dep d) (depL ds) + 1; omega
  ·show ((pd d).showable && PyData.showableAll (pdL ds)) = true; rw [c, c']; rfl
  ·show ((pd d).leavesShort 600 && PyData.leavesShortAll 600 (pdL ds)) = true; rw [e, e']; rfl
  ·show (pd d).weight + 1 + PyData.weightAll (pdL ds) ≤ (cnt d + 1 + cntL ds) * (4 * k)
   rw [Nat.add_mul, Nat.add_mul]; omega
  ·show (bare d && bareL ds) = true; rw [g, g']; rfl
end
theorem pdSE_short {S : Sto} {k : Nat} {d : D} (hk : 0 < k) (hk2 : k ≤ 470) (h : shortE k d = true) : pdSE S d = some (pd d) := by
 have hf := (shortE_pd hk hk2 d h).1
 unfold pdSE
 split
 ·exact nomatch h
 ·rw [if_pos hf]
theorem r_reprE {S : Sto} {d : D} (k : Nat) (h : shortE k d = true) (h1 : dep d ≤ 59) (h2 : cnt d * (4 * k) ≤ 20000) (hk : 0 < k := by decide) (hk2 : k ≤ 470 := by decide) : gReprE S d = some (.str (pd d).shown) := by
 obtain ⟨a, b, c, e, f, g⟩ := shortE_pd hk hk2 d h
 unfold gReprE
 rw [pdSE_short hk hk2 h, Option.bind_some, if_pos]
 have l := PyData.shown_le 600 (by decide) (pd d) e
 have m : (600 + 2) * (pd d).weight ≤ 602 * 20000 := Nat.mul_le_mul (Nat.le_refl _) (Nat.le_trans f h2)
 unfold reprOkE
 rw [c, decide_eq_true (show (pd d).depth ≤ 60 by omega), decide_eq_true (show (pd d).shown.length ≤ 16700000 by omega)]
 rfl
theorem EV_dic0 {e : En} {S : Sto} {Q : D → Sto → Prop} : EV eDic0 e S Q ↔ Q (.dic [] []) S := by
 unfold EV eDic0
 constructor
 ·rintro ⟨v, S', h, q⟩
  cases h
  exact q
 ·exact fun q => ⟨_, _, rfl, q⟩
def tupB : D → Bool
 | .tup _ => true
 | .tag 0 _ => true
 | _ => false
def intB : D → Bool
 | .int _ => true
 | .bl _ => true
 | _ => false
def blB : D → Bool
 | .bl _ => true
 | _ => false
def natI (d : D) : Bool := match d with
 | .int i => decide (0 ≤ i)
 | _ => false
theorem gs_tup {S : Sto} (d : D) : gIs "tuple" S d = some (.bl (tupB d)) := by
 cases d with
 | tag k xs => cases k <;> rfl
 | _ => rfl
theorem gs_int {S : Sto} (d : D) : gIs "int" S d = some (.bl (intB d)) := by
 cases d with
 | tag k xs => cases k <;> rfl
 | _ => rfl
theorem gs_bool {S : Sto} (d : D) : gIs "bool" S d = some (.bl (blB d)) := by
 cases d with
 | tag k xs => cases k <;> rfl
 | _ => rfl
theorem CV_wholeA {S : Sto} {d : D} {Q : D → Sto → Prop} (q : Q (.bl (natI d)) S) : CV c_is_whole [d, .int 0, .non] S Q := by
 by_cases hi : ∃ i, d = .int i
 ·obtain ⟨i, rfl⟩ := hi
  exact CV_wholeN q
 ·have hn : natI d = false := by
   cases d <;> first | rfl | exact (hi ⟨_, rfl⟩).elim
  rw [hn] at q
  refine CV_plain rfl ?_
  unfold b_is_whole
  cases d with
  | int i => exact (hi ⟨_, rfl⟩).elim
  | bl b =>
   (simp_arith! [gs_int, gs_bool, intB, blB])
   rw [if_neg (show ¬ (true = false) from Bool.noConfusion)]
   exact RtP_same rfl q
  | _ =>
   (simp_arith! [gs_int, gs_bool, intB, blB])
   exact RtP_same rfl q
section
variable {prog : Program} {w : World} {A : Around} {E : Value → Shared → Prop} {s : Shared} {p : Bool} {i : Int} {t : Tok} {Q : Value → Shared → Prop}
end
section
variable {X : Cx}
end
section
variable {prog : Program} {w : World} {A : Around} {E : Value → Shared → Prop} {s : Shared}
end
section
variable {X : Cx}
end
section
variable {X : Cx}
end
end Pv
namespace RZ
open PySem
section
open PySem.Sem (wp)
section
variable {prog : Program} {w : World} {A : Around} {E : Value → Shared → Prop} {s : Shared}
structure ZSt (z TI TO i1 i2 l1 l2 B : Addr) (xs ys : Array Value) (k : Nat) (h : Heap) : Prop where
 t1 : h.IsTupleIter i1 l1 k
 t2 : h.IsTupleIter i2 l2 k
 ti : IsPair h TI (.ref i1) (.ref i2)
 l1 : h.IsTuple l1 xs
 l2 : h.IsTuple l2 ys
 zz : (IsZip h z TI TO .none ∧ ∃ a b, IsPair h TO a b) ∨ ∃ T f o, IsZipHeld h z TI TO T f ∧ h.get? T = some o ∧ B < T
end
structure MadeZ (xs ys : Array Value) (lo : Addr) (h : Heap) (as : List Addr) : Prop where
 rise : as.Pairwise (· < ·)
 above : ∀ a ∈ as, lo < a
 pairs : ∀ (j : Nat) (a : Addr), as[j]? = some a → ∃ x y, xs[j]? = some x ∧ ys[j]? = some y ∧ IsPair h a x y
section
variable {prog : Program} {w : World} {A : Around} {s : Shared} {R : Result → Shared → Prop} {z TI TO i1 i2 l1 l2 : Addr} {xs ys : Array Value}
end
section
variable {prog : Program} {w : World} {A : Around} {s : Shared} {R : Result → Shared → Prop} {z TI TO i1 i2 l1 l2 : Addr} {xs ys : Array Value}
end
section
variable {prog : Program} {w : World} {A : Around} {E : Value → Shared → Prop} {s : Shared} {z TI TO i1 i2 l1 l2 : Addr} {xs ys : Array Value}
end
end
end RZ
namespace Pv
open PySem PySem.Spec PyProof.Rows L2
section
variable {c : C} {m : M}
end
section
variable {X : Cx} {e e2 : Expr} {f g : EX} {p p2 pos pos2 : Pos}
end
section
open PySem.W (EachIs alike alikeAll AllAlike Sortable dataLe dataLt)
section
variable {X : Cx} {K : PySem.W.Frag} {Z : List Addr} {m : M} {pins : List (Addr × Obj)} {σ : L2.St} {s : Shared}
end
end
section
open PySem.W (dataLe dataLt keyToks sortLe sortLe_total toks_eqv lex_pre)
end
section
open PySem.SeqAt AutoSeq1 MeetsSeq
end
def neS (w : Str) : D → Bool
 | .str v => !(v == w)
 | _ => true
def isW (lo hi : Int) : D → Bool
 | .int i => iw i lo hi
 | _ => false
def leafA (m : Int) (w : Str) (x : D) : Bool := if w = "fig" then isW (-1000) 1000 x else if w = "reg" then isW 0 3 x else decide (w = "share") && isW 0 (m - 1) x
def pairW (w : Str) : Bool := decide (w = "sum") || (decide (w = "less") || (decide (w = "least") || decide (w = "most")))
def partsA (m : Int) : List D → Option (List D)
 | [.str w, x] => if leafA m w x = true then some [] else none
 | [.str w, x, y] => if pairW w = true then some [x, y] else if (decide (w = "times") && isW (-9) 9 x || decide (w = "by") && isW 0 3 x) = true then some [y] else none
 | [.str w, a, b, c, d] => if (decide (w = "when") && (isW 0 3 a && isW (-1000) 1000 b) || decide (w = "where") && (isW 0 (m - 1) a && isW 1 1000 b)) = true then some [c, d] else none
 | _ => none
def szA (m : Int) : Nat → D → Nat
 | 0, _ => 99
 | k + 1, .tup ds => match partsA m ds with
   | some ps => 1 + (ps.map (szA m k)).sum
   | none => 99
 | _ + 1, _ => 99
def nmB : D → Bool
 | .str x => nameOk x
 | _ => false
def rgB : D → Bool
 | .tup ds => decide (ds.length = 4) && ds.all (isW (-1000) 1000)
 | _ => false
def pdA (m : Int) : List D → Bool
 | [.str w, a, b] => isW 0 3 a && (if w = "put" ∨ w = "add" then isW (-1000) 1000 b else if w = "copy" ∨ w = "plus" then isW 0 3 b else decide (w = "told") && isW 0 (m - 1) b)
 | _ => false
def dfB (m : Int) (g : D → Nat) : D → Nat
 | .tup [a, b, c] => if pdA m [a, b, c] = true then 1 else 99
 | .tup [w, i, f, a, b] => if (!neS "when" w && (isW 0 3 i && isW (-1000) 1000 f)) = true then 1 + (g a + g b) else 99
 | _ => 99
def dcA (m : Int) : Nat → D → Nat
 | 0, .tup [] => 0
 | r + 1, .tup ds => (ds.map (dfB m (dcA m r))).sum
 | _, _ => 99
open Classical in
noncomputable def unX (d : D) : Xp := if h : ∃ e, exD e = d then h.choose else .fig 0
noncomputable def stkB (m s : Nat) (d : D) : Bool := decide (szA m 8 d ≤ 40) && (decide (-(500 * 2 ^ s) ≤ (sp (unX d)).1) && decide ((sp (unX d)).2 ≤ 500 * 2 ^ s))
structure GdA (m : Nat) (n : D) (s : Nat) (b : D) (st bh : List D) : Prop where
 nm : nmB n = true
 sc : s ≤ 4
 rg : rgB b = true
 sl : st.length = m
 bl : bh.length = m
 sa : ∀ x, x ∈ st → stkB m s x = true
 ba : ∀ x, x ∈ bh → dcA m 4 x ≤ 20
end Pv
namespace L2
open PySem PySem.Spec PyProof.Rows
section
variable {X : Cx} {pins : List (Addr × Obj)} {σ : St} {H : Hp} {s : Shared} {a b : Addr} {kvs more : List (Key × V)} {A : Around} {E : Value → Shared → Prop}
end
section
variable {X : Cx} {o e : Expr} {apos cpos : Pos} {td ty : TE}
end
end L2
namespace Pv
open PySem PySem.Spec PyProof.Rows L2
section
variable {c : C} {m m' : M}
def M.boxO (m : M) (p : Addr) (o : Ob) (xs : List V) : M := ⟨fun i => if i = m.S.length then p else m.r i, m.S ++ [o], upd m.H p (o.ho xs)⟩
theorem Ex.boxO {p : Addr} {o : Ob} {xs : List V} (hp : m.H p = none) : Ex m (m.boxO p o xs) := .all
 (by show m.S.length ≤ (m.S ++ [o]).length; simp)
 (fun i h => by show (if i = m.S.length then p else m.r i) = _; rw [if_neg (by omega)])
 (fun a u h => by show upd m.H p _ a = _; rw [upd_ne (ne_of_none h hp)]; exact h)
 (fun i h1 h2 => by
  have h2 : i < (m.S ++ [o]).length := h2
  rw [List.length_append, List.length_singleton] at h2
  show m.H (if i = m.S.length then p else m.r i) = none
  rw [if_pos (by omega)]
  exact hp)
 (fun i u h => ⟨u, by
  show (m.S ++ [o])[i]? = some u
  rw [List.getElem?_append_left (List.getElem?_eq_some_iff.mp h).1]
  exact h, rfl⟩)
theorem Tr.boxO (s : Sim c m) {p : Addr} {o : Ob} {xs : List V} (hp : m.H p = none) (h : RepL c m o.vs xs) : Tr c m (m.boxO p o xs) where
 ex := .boxO hp
 si := {
  inj := fun i j hi hj e => by
   have hi : i < (m.S ++ [o]).length := hi
   have hj : j < (m.S ++ [o]).length := hj
   rw [List.length_append, List.length_singleton] at hi hj
   have e : (if i = m.S.length then p else m.r i) = (if j = m.S.length then p else m.r j) := e
   by_cases h1 : i = m.S.length <;> by_cases h2 : j = m.S.length
   ·omega
   ·rw [if_pos h1, if_neg h2] at e
    exact ((s.fresh hp).1 ⟨j, by omega, e.symm⟩).elim
   ·rw [if_neg h1, if_pos h2] at e
    exact ((s.fresh hp).1 ⟨i, by omega, e⟩).elim
   ·rw [if_neg h1, if_neg h2] at e
    exact s.inj i j (by omega) (by omega) e
  obj := fun i u e => by
   have e : (m.S ++ [o])[i]? = some u := e
   by_cases hi : i < m.S.length
   ·rw [List.getElem?_append_left hi] at e
    have q := ObR.mono (m' := m.boxO p o xs) s (.boxO hp) (s.obj i u e) fun w hw => by show upd m.H p _ _ = _; rw [upd_ne (ne_of_none hw hp)]; exact hw
    have z : (m.boxO p o xs).r i = m.r i := (Ex.boxO hp).ag i hi
    rw [z]
    exact q
   ·rw [List.getElem?_append_right (by omega)] at e
    have hz : i - m.S.length = 0 := by
     rcases Nat.eq_zero_or_pos (i - m.S.length) with z | z
     ·exact z
     ·rw [List.getElem?_eq_none (by simp; omega)] at e
      cases e
    rw [hz] at e
    cases e
    have z : (m.boxO p o xs).r i = p := by show (if i = m.S.length then p else m.r i) = p; rw [if_pos (by omega)]
    rw [z]
    exact ⟨xs, upd_same, RepL.mono s.bok (.boxO hp) o.vs xs h⟩
  zs := fun z hz => by
   obtain ⟨⟨u, hu⟩, hb⟩ := s.zs z hz
   refine ⟨⟨u, ?_⟩, (Ex.boxO hp).nbx hu hb⟩
   show upd m.H p _ z = _
   rw [upd_ne (ne_of_none hu hp)]
   exact hu
  tabs := fun q hq => (s.tabs q hq).ext fun b u e => by show upd m.H p _ b = _; rw [upd_ne (ne_of_none e hp)]; exact e }
def M.putO (m : M) (n : Nat) (o : Ob) (xs : List V) : M := ⟨m.r, m.S.set n o, upd m.H (m.r n) (o.ho xs)⟩
theorem Ex.putO (s : BoxOk m) {n : Nat} {o o0 : Ob} (hk : m.S[n]? = some o0) (hd : o.kind = o0.kind) {xs : List V} : Ex m (m.putO n o xs) := by
 have hn : n < m.S.length := (List.getElem?_eq_some_iff.mp hk).1
 have k : ∀ a u, m.H a = some u → ¬ Bx m a → (m.putO n o xs).H a = some u := fun a u h nb => by
  show upd m.H (m.r n) _ a = _
  rw [upd_ne (fun e => nb ⟨n, hn, e.symm⟩)]
  exact h
 refine ⟨?_, fun _ _ => rfl, fun a u h n _ => k a u h n, fun a u h n => ⟨u, k a u h n⟩, fun i h1 h2 => ?_, fun i u h => ?_⟩
 ·show m.S.length ≤ (m.S.set n _).length
  simp
 ·have h2 : i < (m.S.set n o).length := h2
  rw [List.length_set] at h2
  omega
 ·by_cases e : n = i
  ·subst e
   rw [hk] at h
   cases h
   exact ⟨o, List.getElem?_set_self hn, hd⟩
  ·exact ⟨u, by rw [show (m.putO n o xs).S = m.S.set n o from rfl, List.getElem?_set_ne e]; exact h, rfl⟩
theorem Tr.putO (s : Sim c m) {n : Nat} {o o0 : Ob} (hk : m.S[n]? = some o0) (hd : o.kind = o0.kind) {xs : List V} (h : RepL c m o.vs xs) : Tr c m (m.putO n o xs) where
 ex := .putO s.bok hk hd
 si := {
  inj := fun i j hi hj e => by
   have hi : i < (m.S.set n o).length := hi
   have hj : j < (m.S.set n o).length := hj
   rw [List.length_set] at hi hj
   exact s.inj i j hi hj e
  obj := fun i u e => by
   have hn : n < m.S.length := (List.getElem?_eq_some_iff.mp hk).1
   have e : (m.S.set n o)[i]? = some u := e
   by_cases hi : n = i
   ·subst hi
    rw [List.getElem?_set_self hn] at e
    cases e
    exact ⟨xs, upd_same, RepL.mono s.bok (.putO s.bok hk hd) o.vs xs h⟩
   ·rw [List.getElem?_set_ne hi] at e
    have hil : i < m.S.length := (List.getElem?_eq_some_iff.mp e).1
    refine ObR.mono (m' := m.putO n o xs) s (.putO s.bok hk hd) (s.obj i u e) fun w hw => ?_
    show upd m.H (m.r n) _ (m.r i) = _
    rw [upd_ne (fun z => hi (s.inj i n hil hn z).symm)]
    exact hw
  zs := fun z hz => by
   have hn : n < m.S.length := (List.getElem?_eq_some_iff.mp hk).1
   obtain ⟨⟨u, hu⟩, hb⟩ := s.zs z hz
   refine ⟨⟨u, ?_⟩, ?_⟩
   ·show upd m.H (m.r n) _ z = _
    rw [upd_ne (fun e => hb ⟨n, hn, e.symm⟩)]
    exact hu
   ·rintro ⟨i, hi, e⟩
    have hi : i < (m.S.set n o).length := hi
    rw [List.length_set] at hi
    exact hb ⟨i, hi, e⟩
  tabs := fun q hq => s.bok.tab (fun a u e nb => by
   show upd m.H (m.r n) _ a = _
   rw [upd_ne (fun z => nb ⟨n, (List.getElem?_eq_some_iff.mp hk).1, z.symm⟩)]
   exact e) (s.tabs q hq) }
end
def dkAt (S : Sto) : D → Option (List Key × List D)
 | .dref n => match S[n]? with
   | some (.dk ks vs) => if ks.length = vs.length then some (ks, vs) else none
   | _ => none
 | _ => none
theorem dkAt_inv {S : Sto} {d : D} {p : List Key × List D} (h : dkAt S d = some p) : ∃ n, d = .dref n ∧ S[n]? = some (.dk p.1 p.2) ∧ p.1.length = p.2.length := by
 unfold dkAt at h
 split at h
 ·split at h
  ·obtain ⟨hl, rfl⟩ := ite_some h
   exact ⟨_, rfl, by assumption, hl⟩
  ·cases h
 ·cases h
theorem Sim.dkAt {c : C} {m : M} (s : Sim c m) {d : D} {v : V} {p : List Key × List D} (r : Rep c m d v) (h : dkAt m.S d = some p) :
  ∃ n us, d = .dref n ∧ v = .ref (m.r n) ∧ n < m.S.length ∧ m.S[n]? = some (.dk p.1 p.2) ∧ m.H (m.r n) = some (.dK (p.1.zip us)) ∧ us.length = p.1.length ∧ RepL c m p.2 us := by
 obtain ⟨n, rfl, h1, h2⟩ := dkAt_inv h
 obtain ⟨us, h3, h4⟩ := s.obj n _ h1
 exact ⟨n, us, rfl, r.ltD.2, r.ltD.1, h1, h3, by rw [h4.len]; exact h2.symm, h4⟩
noncomputable def eDBx (ks : List Key) (ga : AX) : EX := fun e S => (ga e S).bind fun p => if p.1.length = ks.length ∧ ks.length ≤ 15 ∧ ks.Nodup then some (.dref p.2.length, p.2 ++ [.dk ks p.1]) else none
section
variable {X : Cx} {keys : List (Option Expr)} {values : List Expr} {ks : List Key} {ga : AX} {pos : Pos}
theorem ej_dbx (h : PJ X pos keys values ks ga) (h0 : keys ≠ []) (h15 : keys.length ≤ 15) : EJ X (.Dict keys values pos) (eDBx ks ga) := by
 obtain ⟨⟨trs, h1, h2⟩, h3, h4, h5⟩ := h
 refine pe_wk (pe_disp h1 h5 h4 h0 h15) fun σ H Q ⟨Z, m, env, v, S', e, s, er, hf, q⟩ => ?_
 subst e
 intro p hp
 unfold eDBx at hf
 obtain ⟨⟨r, S1⟩, q1, hf⟩ := Option.bind_eq_some_iff.mp hf
 obtain ⟨⟨hl, _, hnd⟩, hf⟩ := ite_some hf
 cases hf
 have hpZ : p ∉ Z := (s.fresh hp).2
 have hwz : ∀ z, z ∈ p :: Z → z ∈ Z ∨ m.H z = none := fun z hz => by
  rcases List.mem_cons.mp hz with e | e
  ·exact .inr (by rw [e]; exact hp)
  ·exact .inl e
 have s1 : Sim ⟨X.K, p :: Z⟩ ⟨m.r, m.S, upd m.H p (.dK [])⟩ := s.apartD hp
 have er1 : ER ⟨X.K, p :: Z⟩ ⟨m.r, m.S, upd m.H p (.dK [])⟩ env σ := (er.widen hwz).ex s.bok (.laid hp)
 refine h2 _ _ _ ⟨p :: Z, ⟨m.r, m.S, upd m.H p (.dK [])⟩, env, r, _, rfl, s1, er1, q1, fun m1 vs e1 t1 rl => ?_⟩
 have hvl : vs.length = ks.length := by rw [rl.len]; exact hl
 have hx : m1.H p = some (.dK []) := t1.ex.pr p _ upd_same (s.fresh hp).1 trivial
 obtain ⟨z1, z2⟩ := zip_keys hvl
 refine ⟨hx, ks.zip vs, ?_, ?_, ?_⟩
 ·exact zip_kV hvl
 ·rw [List.length_zip, hvl, Nat.min_self, ← h3]; exact h15
 ·rw [mergeK_nodup _ _ (by rw [List.nil_append, z1]; exact hnd), List.nil_append]
  have hs : Sim ⟨X.K, Z⟩ (m1.hide p) := t1.si.hideD hx hpZ
  have hn : (m1.hide p).H p = none := by show (if p = p then none else m1.H p) = none; rw [if_pos rfl]
  have tt' : Tr ⟨X.K, Z⟩ m (m1.hide p) := ⟨(Ex.then (m' := ⟨m.r, m.S, upd m.H p (.dK [])⟩) s1.bok (.laid hp) t1).hideR hp hx trivial, hs⟩
  have rl2 := RepL.hideD hx r vs rl
  have eS : (m1.hide p).S = S1 := e1
  have qq := q ((m1.hide p).boxO p (.dk ks r) vs) (.ref p) (by show (m1.hide p).S ++ _ = _; rw [eS]) (tt'.trans s (Tr.boxO hs hn rl2)) ⟨⟨.dk ks r, by
   show ((m1.hide p).S ++ [Ob.dk ks r])[S1.length]? = _
   rw [eS]
   simp, Nat.one_ne_zero⟩, by
   show V.ref p = V.ref (if S1.length = (m1.hide p).S.length then p else (m1.hide p).r S1.length)
   rw [eS, if_pos rfl]⟩
  have e : upd (m1.hide p).H p (.dK (ks.zip vs)) = upd m1.H p (.dK (ks.zip vs)) := by
   funext a
   by_cases h : a = p
   ·subst h; rw [upd_same, upd_same]
   ·rw [upd_ne h, upd_ne h, M.hide_ne h]
  rw [← e]
  exact qq
end
theorem EV_dbx {e : En} {S : Sto} {Q : D → Sto → Prop} {ks : List Key} {ga : AX} : EV (eDBx ks ga) e S Q ↔ AV ga e S fun ds S1 => (ds.length = ks.length ∧ ks.length ≤ 15 ∧ ks.Nodup) ∧ Q (.dref S1.length) (S1 ++ [.dk ks ds]) := by
 unfold EV AV eDBx
 constructor
 ·rintro ⟨v, S', h, q⟩
  obtain ⟨⟨r, S1⟩, q1, h⟩ := Option.bind_eq_some_iff.mp h
  obtain ⟨hz, h⟩ := ite_some h
  cases h
  exact ⟨r, _, q1, hz, q⟩
 ·rintro ⟨r, S1, q1, hz, q⟩
  exact ⟨_, _, by rw [q1]; show (if _ then _ else _) = _; rw [if_pos hz], q⟩
def dAny (S : Sto) : D → Option (List Key × List D)
 | .dic ks vs => if ks.length = vs.length then some (ks, vs) else none
 | .dref n => dkAt S (.dref n)
 | _ => none
theorem Sim.dAny {c : C} {m : M} (s : Sim c m) {d : D} {v : V} {p : List Key × List D} (r : Rep c m d v) (h : dAny m.S d = some p) :
  ∃ a us, v = .ref a ∧ m.H a = some (.dK (p.1.zip us)) ∧ us.length = p.1.length ∧ RepL c m p.2 us ∧ (Bx m a ∨ ¬ Bx m a) := by
 cases d <;> first | exact no2 h | skip
 ·obtain ⟨hl, rfl⟩ := ite_some (show (if _ then _ else _) = _ from h)
  obtain ⟨a, kvs, rfl, ⟨h1, h3, _⟩, rfl, h2⟩ := r
  have e : (kvs.map (·.1)).zip (kvs.map (·.2)) = kvs := by
   rw [List.zip_map', List.map_id']
  exact ⟨a, kvs.map (·.2), rfl, by rw [e]; exact h1, by simp, h2, .inr h3⟩
 ·obtain ⟨n, us, e, rfl, h1, h2, h3, h4, h5⟩ := s.dkAt r h
  exact ⟨_, us, rfl, h3, h4, h5, .inl ⟨n, h1, rfl⟩⟩
def fDIxB : F2 := fun S a b => (dAny S a).bind fun p => (keyOf b).bind fun k => dIx p.1 p.2 k
theorem kV_key {c : C} {m : M} {y : D} {v : V} {k : Key} (h : keyOf y = some k) (r : Rep c m y v) : v = kV k := by
 cases y <;> first | exact no2 h | skip
 all_goals (cases h; exact r)
theorem dIx_zip {c : C} {m : M} {ks : List Key} {vs : List D} {us : List V} {k : Key} (hl : us.length = ks.length) (r : RepL c m vs us) :
  (∀ d, dIx ks vs k = some d → ∃ w, valV (ks.zip us) k = some w ∧ Rep c m d w) ∧ (dIx ks vs k = none → valV (ks.zip us) k = none) := by
 obtain ⟨z1, z2⟩ := zip_keys hl
 constructor
 ·intro d h
  exact dIx_rep (kvs := ks.zip us) (by rw [z2]; exact r) (by rw [z1]; exact h)
 ·intro h
  exact dIx_none (kvs := ks.zip us) (vs := vs) (by rw [z2]; exact r) (by rw [z1]; exact h)
section
variable {X : Cx} {a b : Expr} {fa fb fc : EX} {pos : Pos}
theorem ej_dixB (hu : X.A.units + 64 < cLine) (ha : EJ X a fa) (hb : EJ X b fb) (hs : NoSl b) : EJ X (.Subscript a b pos) (e2 fDIxB fa fb) :=
 pe_wk (pe_dget (by omega) ha hb hs) fun σ H Q ⟨Z, m, env, v, S', e, s, er, hf, q⟩ => by
  unfold e2 at hf
  obtain ⟨⟨x, S1⟩, h1, h⟩ := Option.bind_eq_some_iff.mp hf
  obtain ⟨⟨y, S2⟩, h2, h⟩ := Option.bind_eq_some_iff.mp h
  obtain ⟨d, h3, h⟩ := Option.map_eq_some_iff.mp h
  cases h
  refine ⟨Z, m, env, x, S1, e, s, er, h1, fun m1 vx e1 t1 rx => ?_⟩
  refine ⟨Z, m1, env, y, S2, rfl, t1.si, er.tr s t1, by rw [e1]; exact h2, fun m2 vy e2 t2 ry => ?_⟩
  obtain ⟨p, h4, h5⟩ := Option.bind_eq_some_iff.mp (show (dAny S2 x).bind _ = _ from h3)
  obtain ⟨k, h6, h7⟩ := Option.bind_eq_some_iff.mp h5
  obtain ⟨l, us, rfl, r1, r2, r3, _⟩ := t2.si.dAny (t2.rep t1.si rx) (by rw [e2]; exact h4)
  obtain ⟨w, q1, q2⟩ := (dIx_zip r2 r3).1 _ h7
  obtain rfl := kV_key h6 ry
  exact ⟨l, w, rfl, .inl ⟨_, k, .inl r1, rfl, q1.symm⟩, q m2 w e2 (t1.trans s t2) q2⟩
end
def hasK (ks : List Key) (k : Key) : Bool := ks.any fun j => decide (j = k)
def stK (ks : List Key) (k : Key) : List Key := if hasK ks k = true then ks else ks ++ [k]
def stV {α : Type} (ks : List Key) (vs : List α) (k : Key) (v : α) : List α := if hasK ks k = true then (ks.zip vs).map (fun z => if z.1 = k then v else z.2) else vs ++ [v]
theorem zip_any {α : Type} {k : Key} : ∀ {ks : List Key} {us : List α}, us.length = ks.length → ((ks.zip us).any fun kv => decide (kv.1 = k)) = hasK ks k
 | [], [], _ => rfl
 | [], _ :: _, h => by simp at h
 | _ :: _, [], h => by simp at h
 | j :: ks, u :: us, h => by
  have := zip_any (k := k) (ks := ks) (us := us) (by simpa using h)
  rw [List.zip_cons_cons, List.any_cons, this]
  rfl
theorem zip_put {u : V} {k : Key} : ∀ {ks : List Key} {us : List V}, us.length = ks.length → (ks.zip us).map (fun kv => if kv.1 = k then (kv.1, u) else kv) = ks.zip ((ks.zip us).map fun z => if z.1 = k then u else z.2)
 | [], [], _ => rfl
 | [], _ :: _, h => by simp at h
 | _ :: _, [], h => by simp at h
 | j :: ks, w :: us, h => by
  have := zip_put (u := u) (k := k) (ks := ks) (us := us) (by simpa using h)
  by_cases e : j = k
  ·simp [this, e]
  ·simp [this, e]
theorem st_zip {ks : List Key} {us : List V} {k : Key} {u : V} (h : us.length = ks.length) : putK (ks.zip us) k u = (stK ks k).zip (stV ks us k u) := by
 unfold putK stK stV
 rw [zip_any h]
 by_cases hk : hasK ks k = true
 ·rw [if_pos hk, if_pos hk, if_pos hk]
  exact zip_put h
 ·rw [if_neg hk, if_neg hk, if_neg hk, List.zip_append (by omega)]
  rfl
theorem RepL.zipP {c : C} {m : M} {d : D} {u : V} {k : Key} (r : Rep c m d u) : ∀ {ks : List Key} {vs : List D} {us : List V}, RepL c m vs us → vs.length = ks.length →
  RepL c m ((ks.zip vs).map fun z => if z.1 = k then d else z.2) ((ks.zip us).map fun z => if z.1 = k then u else z.2)
 | ks, [], us, h, _ => by
  cases (show us = [] from h)
  cases ks <;> exact rfl
 | [], _ :: _, _, _, h => by simp at h
 | j :: ks, v :: vs, us, h, hl => by
  obtain ⟨y, w, rfl, h1, h2⟩ := h
  have ih := RepL.zipP (k := k) r (ks := ks) h2 (by simpa using hl)
  refine ⟨_, _, rfl, ?_, ih⟩
  show Rep c m (if j = k then d else v) (if j = k then u else y)
  by_cases e : j = k
  ·rw [if_pos e, if_pos e]; exact r
  ·rw [if_neg e, if_neg e]; exact h1
theorem RepL.st {c : C} {m : M} {d : D} {u : V} {k : Key} {ks : List Key} {vs : List D} {us : List V} (r : Rep c m d u) (h : RepL c m vs us) (hl : vs.length = ks.length) : RepL c m (stV ks vs k d) (stV ks us k u) := by
 unfold stV
 by_cases hk : hasK ks k = true
 ·rw [if_pos hk, if_pos hk]; exact RepL.zipP r h hl
 ·rw [if_neg hk, if_neg hk]; exact h.app (RepL.one r)
def sDP (fv fo fi : EX) : SX := fun e S => (fv e S).bind fun p => (fo e p.2).bind fun q => (fi e q.2).bind fun r => match q.1 with
 | .dref n => (dkAt r.2 (.dref n)).bind fun kv => (keyOf r.1).bind fun k => if szOk (kv.1.length + 1) = true then some (.nx e (r.2.set n (.dk (stK kv.1 k) (stV kv.1 kv.2 k p.1)))) else none
 | _ => none
section
variable {X : Cx} {o i value : Expr} {fv fo fi : EX} {pos pos' : Pos}
theorem sj_dput (hu : X.A.units + 64 < cLine) (hv : EJ X value fv) (ho : EJ X o fo) (hi : EJ X i fi) (hs : swapsWith value (some (.Subscript o i pos')) pos.line X.env = pure false := by rfl) :
  SJ X (.Assign [.Subscript o i pos'] value pos) (sDP fv fo fi) :=
 ps_wk (ps_dput (by omega) ho hi hv hs) fun Dn σ H ⟨Z, m, env, ou, e, s, er, hf, q⟩ => by
  unfold sDP at hf
  obtain ⟨⟨d, S1⟩, h1, hf1⟩ := Option.bind_eq_some_iff.mp hf
  obtain ⟨⟨x, S2⟩, h2, hf2⟩ := Option.bind_eq_some_iff.mp hf1
  obtain ⟨⟨y, S3⟩, h3, hf3⟩ := Option.bind_eq_some_iff.mp hf2
  cases x <;> first | exact no2 hf3 | skip
  rename_i n
  obtain ⟨kv, h4, hf4⟩ := Option.bind_eq_some_iff.mp (show (dkAt S3 (.dref n)).bind _ = _ from hf3)
  obtain ⟨k, h5, hf5⟩ := Option.bind_eq_some_iff.mp hf4
  obtain ⟨hz, hf6⟩ := ite_some hf5
  cases hf6
  refine ⟨Z, m, env, d, S1, e, s, er, h1, fun m1 vd e1 t1 rd => ?_⟩
  refine ⟨Z, m1, env, .dref n, S2, rfl, t1.si, er.tr s t1, by rw [e1]; exact h2, fun m2 vx e2 t2 rx => ?_⟩
  refine ⟨Z, m2, env, y, S3, rfl, t2.si, (er.tr s t1).tr t1.si t2, by rw [e2]; exact h3, fun m3 vy e3 t3 ry => ?_⟩
  have rx3 := t3.rep t2.si rx
  have rd3 := t3.rep t2.si (t2.rep t1.si rd)
  obtain ⟨n', us, en, rfl, hl, hk, hH, hlen, rl⟩ := t3.si.dkAt rx3 (by rw [e3]; exact h4)
  cases en
  obtain rfl := kV_key h5 ry
  have hsz := szOk_le hz
  have hvl : kv.2.length = kv.1.length := by rw [← rl.len]; exact hlen
  refine ⟨m3.r n, upd m3.H (m3.r n) (.dK (putK (kv.1.zip us) k vd)), rfl, .inl ⟨_, k, hH, rfl, ?_, rfl⟩, ?_⟩
  ·rw [List.length_zip, hlen]
   omega
  ·rw [st_zip hlen]
   have t4 : Tr ⟨X.K, Z⟩ m3 (m3.putO n (.dk (stK kv.1 k) (stV kv.1 kv.2 k d)) (stV kv.1 us k vd)) := Tr.putO (o := .dk (stK kv.1 k) (stV kv.1 kv.2 k d)) t3.si hk rfl (RepL.st rd3 rl hvl)
   have tt := (t1.trans s (t2.trans t1.si t3)).trans s t4
   exact q (m3.putO n _ _) σ (by show m3.S.set n _ = _; rw [e3]) tt (er.tr s tt)
end
theorem SV_dput {fv fo fi : EX} {e : En} {S : Sto} {QO : Out → Prop} : SV (sDP fv fo fi) e S QO ↔ EV fv e S fun v S1 => EV fo e S1 fun x S2 => EV fi e S2 fun y S3 =>
  ∃ n kv k, x = .dref n ∧ dkAt S3 (.dref n) = some kv ∧ keyOf y = some k ∧ szOk (kv.1.length + 1) = true ∧ QO (.nx e (S3.set n (.dk (stK kv.1 k) (stV kv.1 kv.2 k v)))) := by
 unfold SV EV sDP
 constructor
 ·rintro ⟨ou, h, q⟩
  obtain ⟨⟨d, S1⟩, h1, h⟩ := Option.bind_eq_some_iff.mp h
  obtain ⟨⟨x, S2⟩, h2, h⟩ := Option.bind_eq_some_iff.mp h
  obtain ⟨⟨y, S3⟩, h3, h⟩ := Option.bind_eq_some_iff.mp h
  cases x <;> first | exact no2 h | skip
  obtain ⟨kv, h4, h⟩ := Option.bind_eq_some_iff.mp (show (dkAt S3 (.dref _)).bind _ = _ from h)
  obtain ⟨k, h5, h⟩ := Option.bind_eq_some_iff.mp h
  obtain ⟨hz, h⟩ := ite_some h
  cases h
  exact ⟨d, S1, h1, _, S2, h2, y, S3, h3, _, kv, k, rfl, h4, h5, hz, q⟩
 ·rintro ⟨v, S1, h1, x, S2, h2, y, S3, h3, n, kv, k, rfl, h4, h5, hz, q⟩
  exact ⟨_, by rw [h1]; show (fo e S1).bind _ = _; rw [h2]; show (fi e S2).bind _ = _; rw [h3]; show (dkAt S3 (.dref n)).bind _ = _; rw [h4]; show (keyOf y).bind _ = _; rw [h5]; show (if _ then _ else _) = _; rw [if_pos hz], q⟩
section
variable {X : Cx} {a b c : Expr} {fa fb fc : EX} {apos cpos : Pos}
end
section
variable {X : Cx}
end
section
variable {X : Cx} {e e2 : Expr} {p pos tp : Pos} {elts : List Expr} {kk : Nat}
end
section
variable {X : Cx} {e e2 : Expr} {p pos tp : Pos} {elts : List Expr} {kk : Nat} {f g : EX}
end
mutual
theorem shortE_ls {k B : Nat} (hk : 0 < k) (hB : k + 1 ≤ B) : ∀ d : D, shortE k d = true → (pd d).leavesShort B = true
 | .non, _ => rfl
 | .bl b, _ => rfl
 | .int i, h => by
  have e := int_text_length_le10 hk (of_decide_eq_true h)
  refine decide_eq_true ?_
  show (Str.ofString (toString i)).length ≤ B
  rw [PySem.ofString_length]; omega
 | .str x, h => (Bool.and_eq_true_iff.mp h).1
 | .tup xs, h => shortEL_ls hk hB xs h
 | .lst xs, h => shortEL_ls hk hB xs h
 | .rol xs, h => shortEL_ls hk hB xs h
 | .dic ks vs, h => by
  obtain ⟨h1, h2⟩ := Bool.and_eq_true_iff.mp h
  have e1 : ks = [] := List.isEmpty_iff.mp h1
  have e2 : vs = [] := List.isEmpty_iff.mp h2
  subst e1 e2
  rfl
 | .ref _, h => nomatch h
theorem shortEL_ls {k B : Nat} (hk : 0 < k) (hB : k + 1 ≤ B) : ∀ ds : List D, shortEL k ds = true → PyData.leavesShortAll B (pdL ds) = true
 | [], _ => rfl
 | d :: ds, h => by
  obtain ⟨h1, h2⟩ := Bool.and_eq_true_iff.mp h
  show ((pd d).leavesShort B && PyData.leavesShortAll B (pdL ds)) = true
  rw [shortE_ls hk hB d h1, shortEL_ls hk hB ds h2]
  rfl
end
mutual
theorem shortE_mono {k j : Nat} (h : k ≤ j) : ∀ d : D, shortE k d = true → shortE j d = true
 | .non, _ => rfl
 | .bl _, _ => rfl
 | .int i, g => decide_eq_true (Nat.lt_of_lt_of_le (of_decide_eq_true (show decide (i.natAbs < 10 ^ k) = true from g)) (Nat.pow_le_pow_right (by decide) h))
 | .str x, g => by
  obtain ⟨h1, h2⟩ := Bool.and_eq_true_iff.mp g
  have h2 := of_decide_eq_true h2
  show ((x.cps.toList.all fun c => decide (c < 16 ^ 8)) && decide (x.cps.size ≤ 4 * j)) = true
  rw [h1, decide_eq_true (show x.cps.size ≤ 4 * j by omega)]
  rfl
 | .tup xs, g => shortEL_mono h xs g
 | .lst xs, g => shortEL_mono h xs g
 | .rol xs, g => shortEL_mono h xs g
 | .dic _ _, g => g
 | .ref _, g => nomatch g
theorem shortEL_mono {k j : Nat} (h : k ≤ j) : ∀ ds : List D, shortEL k ds = true → shortEL j ds = true
 | [], _ => rfl
 | d :: ds, g => by
  obtain ⟨h1, h2⟩ := Bool.and_eq_true_iff.mp g
  show (shortE j d && shortEL j ds) = true
  rw [shortE_mono h d h1, shortEL_mono h ds h2]
  rfl
end
theorem r_reprE4 {S : Sto} {d : D} (k : Nat) (h : shortE k d = true) (h1 : dep d ≤ 59) (h2 : cnt d * (4 * k) ≤ 500000) (hk : 0 < k := by decide) (hk2 : k ≤ 29 := by decide) : gReprE S d = some (.str (pd d).shown) := by
 obtain ⟨a, b, c, e, f, g⟩ := shortE_pd hk (by omega) d h
 unfold gReprE
 rw [pdSE_short hk (by omega) h, Option.bind_some, if_pos]
 have l := PyData.shown_le 30 (by decide) (pd d) (shortE_ls hk (by omega) d h)
 have m : (30 + 2) * (pd d).weight ≤ 32 * 500000 := Nat.mul_le_mul (Nat.le_refl _) (Nat.le_trans f h2)
 unfold reprOkE
 rw [c, decide_eq_true (show (pd d).depth ≤ 60 by omega), decide_eq_true (show (pd d).shown.length ≤ 16700000 by omega)]
 rfl
structure Gd (k : Nat) (d o : D) : Prop where
 sh : shortE (k + 1) o = true
 ct : cnt o ≤ 3 * cnt d + 12
 dp : dep o ≤ dep d + 2
mutual
theorem shE_of {k : Nat} : ∀ {d : D}, shortB k d = true → shortE k d = true
 | .non, _ => rfl
 | .bl _, _ => rfl
 | .int i, h => h
 | .str x, h => by
  obtain ⟨h1, h2⟩ := Bool.and_eq_true_iff.mp (show (PyData.strOk x && (x.cps.toList.all fun c => decide (c < 16 ^ 8)) && decide (x.cps.size ≤ 4 * k)) = true from h)
  show ((x.cps.toList.all fun c => decide (c < 16 ^ 8)) && decide (x.cps.size ≤ 4 * k)) = true
  rw [h2, (Bool.and_eq_true_iff.mp h1).2]
  rfl
 | .tup xs, h => shEL_of (ds := xs) h
 | .lst xs, h => shEL_of (ds := xs) h
 | .rol xs, h => shEL_of (ds := xs) h
 | .dic _ _, h => nomatch h
 | .tag _ _, h => nomatch h
 | .dref _, h => nomatch h
 | .ref _, h => nomatch h
theorem shEL_of {k : Nat} : ∀ {ds : List D}, shortL k ds = true → shortEL k ds = true
 | [], _ => rfl
 | d :: ds, h => by
  obtain ⟨h1, h2⟩ := Bool.and_eq_true_iff.mp (show (shortB k d && shortL k ds) = true from h)
  show (shortE k d && shortEL k ds) = true
  rw [shE_of h1, shEL_of h2]
  rfl
end
section
variable {X : Cx} {a b : Expr} {fa fb : EX} {apos pos : Pos}
end
end Pv
namespace L2
open PySem PySem.Spec PyProof.Rows
section
variable {X : Cx}
variable {o e : Expr} {apos cpos : Pos} {to te : TE}
end
end L2
namespace Pv
open PySem PySem.Spec PyProof.Rows L2
section
variable {X : Cx} {a b : Expr} {fa fb : EX} {apos pos : Pos}
end
def Sm2 (K : Nat) (cs : List Vc) : Prop := ∀ p, p ∈ cs → Px 2 p ∧ Bv K p
structure TkS (F : Nat) (t : Tk) : Prop where
 ok : TkOk 2 t
 lv : lev t.e ≤ 7
 fc : bt F t.fac
structure Fs (K P j : Nat) (q : Fd) : Prop where
 sm : Sm2 K q.1.1
 pl : ∀ f, f ∈ q.2 → Bv (P + j) f
structure Rx (B w : Int) (n : Nat) (Z : Rat) (H : Int) : Prop where
 H0 : 0 ≤ H
 ex : ∃ (C : Nat) (a : Int), 0 < C ∧ -((C * n : Nat) : Int) ≤ a ∧ a ≤ ((C * n : Nat) : Int) ∧ 500 * Z * ((C : Int) : Rat) = (B : Rat) * (a : Rat) ∧ (500 + B) ^ (((C * n : Nat) : Int) + a).toNat * (500 - B) ^ (((C * n : Nat) : Int) - a).toNat * w ^ (2 * C) ≤ 500 ^ (2 * (C * n)) * H ^ (2 * C)
structure Eg (m : Nat) (d : Dbt) : Prop where
 g : DbG m d
 br : bare (dbD d) = true
 fi : ∀ e, e ∈ d.stakes → exOk m e ∧ lev e ≤ 6 ∧ szX e ≤ 15 ∧ noW e
structure Vg (m j : Nat) (q : Dbt × One) : Prop where
 ev : Eg m q.1
 we : 1 ≤ q.2.weight ∧ q.2.weight ≤ 10 ^ 12
 dy : Dy q.1 q.2.weight q.2 j
structure Hg (m : Nat) (qs : List (Dbt × One)) : Prop where
 hm : m = 2 ∨ m = 3
 fi : ∀ q, q ∈ qs → Fine m 15 q ∧ ∀ e, e ∈ q.1.stakes → noW e
 br : ∀ q, q ∈ qs → bare (dbD q.1) = true
 ln : qs.length ≤ 12
 p3 : m = 3 → npP (tksL 3 qs) ≤ 8000000
structure Fdg (m : Nat) (qs : List (Dbt × One)) (v : Vc) : Prop where
 eq : fdA m (row1 qs) = some v
 px : Px m v
 g1 : gcdF 0 v = 1
 bv : Bv 930 v
 rt : isR v (plL m (row1 qs) v) = true
end Pv
namespace L2
open PySem PySem.Spec PyProof.Rows
end L2
namespace Pv
open PySem PySem.Spec PyProof.Rows L2
end Pv
namespace L2
open PySem PySem.Spec PyProof.Rows
end L2
namespace Pv
open PySem PySem.Spec PyProof.Rows L2
namespace Ms2
open Ms (upOf lsum_eq lsum_nonneg sq_le sum_nonneg' CV_more sq)
structure Row (full : Int) (ns : List Int) : Prop where
 pos : ∀ n, n ∈ ns → 0 ≤ n
 sum : ns.sum = full
 full0 : 0 < full
 full1 : full ≤ 10 ^ 18
structure Rw1 (many : Int) (p : List Int × Nat) : Prop where
 len : (p.1.length : Int) = many
 pos : ∀ n, n ∈ p.1 → 0 ≤ n ∧ n ≤ 10 ^ 16
 some_ : ∃ n, n ∈ p.1 ∧ n ≠ 0
 sign : (p.2 : Int) < many
structure Rb (k : Nat) (r : Rat) : Prop where
 num0 : 0 ≤ r.num
 num1 : r.num ≤ 2 * (k : Int) * r.den
 den : r.den ≤ 10 ^ (36 * k)
end Ms2
structure RVg (m : Nat) (q : Dbt × One) : Prop where
 oko : OkO m q
 rv : Rivq m q
 rb : ∀ r, r ∈ q.2.rs → 0 ≤ r ∧ r ≤ 1000
 r1 : ((List.range m).map fun s => q.2.rs.getD s 0).sum = 1000
 pu : 0 ≤ q.2.purse
end Pv
namespace L2
open PySem PySem.Spec PyProof.Rows
end L2
namespace Pv
open PySem PySem.Spec PyProof.Rows L2
section
variable {X : Cx} {a b : Expr} {fa fb : EX} {pos : Pos}
end
structure St3 (h k n : Nat) (S S2 : Sto) (o : Ob) : Prop where
 up : ∀ i, i < S.length → i ≠ h → i ≠ k → S2[i]? = S[i]?
 eq : S2.length = S.length
 hd : HD n S2 h
 at_ : S2[k]? = some o
structure Up3 (h k n : Nat) (S S2 : Sto) (o : Ob) : Prop where
 hd : HD n S2 h
 len : S.length ≤ S2.length
 up : ∀ i, i < S.length → i ≠ h → i ≠ k → S2[i]? = S[i]?
 at_ : S2[k]? = some o
end Pv
namespace L2
open PySem PySem.Spec PyProof.Rows
section
variable {X : Cx} {pins : List (Addr × Obj)} {σ : St} {H : Hp} {s : Shared} {a : Addr} {cls : Value} {d : Option Addr} {oe : Obj} {vs : Array Value}
theorem Inv.know (I : Inv X pins σ H s) (he : s.heap.get? a = some oe) (hz : Zc cls d oe) (hd : oe.data = .fields vs) (na : H a = none) (nL : a ≠ X.env.locals) (n0 : X.s_0.heap.get? a = none) (nc : ∀ x c, X.env.cells.lookup x = some c → c ≠ a) (np : ∀ p ∈ X.pn ++ pins, p.1 ≠ a) :
  Inv X pins σ (upd H a (exK a cls d)) s := by
 have ne : ∀ b u, H b = some u → b ≠ a := fun b u e z => by rw [z, na] at e; cases e
 have at_ : ∀ b u, H b = some u → upd H a (exK a cls d) b = some u := fun b u e => by rw [upd_ne (ne b u e)]; exact e
 refine ⟨I.ok, I.os, I.bare, ⟨I.base.keep, I.base.slot, fun b o e n hx => ?_, I.base.there, fun b xs e => at_ b _ (I.base.tups b xs e), fun b o u e => at_ b _ (I.base.frzs b o u e), fun b ps e => ?_⟩, I.loc, I.cell, ?_, fun x c e => ?_, fun p hp => ?_, fun b u e => ?_, I.len⟩
 ·rw [upd_ne (fun z => by rw [z, n0] at e; cases e)]
  exact I.base.free b o e n hx
 ·obtain ⟨more, q⟩ := I.base.tbls b ps e
  exact ⟨more, at_ b _ q⟩
 ·rw [upd_ne nL.symm]
  exact I.free
 ·rw [upd_ne (nc x c e)]
  exact I.freeC x c e
 ·obtain ⟨p1, p2, p3⟩ := I.pin p hp
  exact ⟨p1, by rw [upd_ne (np p hp)]; exact p2, p3⟩
 ·by_cases hb : b = a
  ·subst hb
   rw [upd_same] at e
   cases e
   exact ⟨⟨oe, vs, he, hz, hd⟩, ⟨oe, he⟩, fun h1 h2 ⟨o, ws, q1, q2, q3⟩ k => ⟨o, ws, k _ q1, q2, q3⟩⟩
  ·rw [upd_ne hb] at e
   refine (I.hok b u e).stay (fun _ _ _ q => q) (fun c q => at_ c _ q) fun c xs q => at_ c _ q
end
def tXk (f : Str) (te : TE) (K : PySem.W.Frag) : TE := fun σ H Q => te σ H fun x H1 => ∃ (a C dd : Addr) (fs : List (Str × V)) (v : V), x = .ref a ∧ H1 a = some (exK a (.ref C) (some dd)) ∧ H1 dd = some (.xd fs) ∧ XfC K C ∧ PySem.W.findIn K (.ref C) f = some none ∧ fs.lookup f = some v ∧ Q v H1
theorem pe_xk {X : Cx} {e : Expr} {te : TE} {pos : Pos} {n : Str} (he : PE X e te) (hb : attributeBase e n X.env (eval e X.env) = eval e X.env := by rfl) : PE X (.Attribute e n pos) (tXk n te X.K) := by
 refine ⟨fun pins s σ H Q I h => ?_⟩
 refine attr_of hb (thn (he.run pins s σ H _ I h) fun u s1 hh => ?_)
 obtain ⟨x, H1, I1, rx, a, C, dd, fs, v, ex, ea0, ea, T, hno, l, q⟩ := hh
 subst ex
 obtain rfl : u = Value.ref a := rx
 obtain ⟨oe, vs, ha, hz, hd⟩ := exK_at I1 ea0
 have hx : ObjOk X.prog X.w H1 s1.heap dd (.xd fs) := I1.hok dd _ ea
 obtain ⟨mA, hns, hr⟩ := hx
 obtain ⟨od, ho, hl⟩ := lookIn_ns hns
 obtain ⟨u, hu, ru⟩ := RelO.some_of (v := v) (o := mA n) (by rw [← l]; exact hr n)
 have J : PySem.W.InstAt s1.heap a oe C (some od) := ⟨ha, hz.1, by unfold PySem.W.notCls; rw [hd] <;> rfl, by rw [hz.2]; exact ho⟩
 exact HandSPX.exc_get I1.kIn J T.ga T.gg T.exC (PySem.W.findObj_own T.hdC hno rfl (by rw [hl, hu])) (handed_of ru) ⟨v, H1, I1.tok _, ru, q⟩
end L2
namespace PySem.HandSPX
open PySem PySem.Spec PyProof.Rows
theorem FlyingZ.keeps {base h h' : Heap} {l : List Env} {e : Addr} {Z : Obj → Prop} (f : FlyingZ base l e Z h) (k : ∀ b o, h.get? b = some o → h'.get? b = some o) : FlyingZ base l e Z h' := by
 obtain ⟨f1, f2, f3, oe, vs, T, oT, ts, he, hz, hd, h1, hnT, hTe, hT, hdT, h3⟩ := f
 exact ⟨fun b o hb => k b o (f1 b o hb), f2, f3.of_keeps fun b o hb _ => ⟨o, k b o hb, rfl⟩, oe, vs, T, oT, ts, k _ _ he, hz, hd, h1, hnT, hTe, k _ _ hT, hdT, h3⟩
end PySem.HandSPX
namespace L2
open PySem PySem.Spec PyProof.Rows
def wKeep (K : PySem.W.Frag) (cs : List Value) (i : Nat) (ts : Addr → Value → Option Addr → TS) (D : Ends) : WX := fun cls d σ H =>
 PySem.W.exmAny K cls cs = some true ∧ ∀ a, H a = none → ts a cls d { nx := fun σ' H' => D.nx (σ'.set i none) (upd H' a (exK a cls d)), rt := fun _ _ => False, bk := fun _ _ => False, ct := fun _ _ => False } (σ.set i (some (.ref a))) H
section
variable {X : Cx} {x1 x2 x3 n : Str} {c1 c2 c3 : Value} {i : Nat} {body suite : List Stmt} {b₀ : Stmt} {q1 q2 q3 np pos pos' : Pos} {tb : WX → TS} {ts : Addr → Value → Option Addr → TS}
theorem ps_try_keep3 {xc} (hs : X.stack = X.env :: X.outer) (hf : X.env.frame = some X.env.locals) (hex : X.ex = []) (hN : X.N.Nodup) (hi : X.N[i]? = some n) (hln : X.env.kindOf n = some .local) (hc1 : Names X x1 c1) (hc2 : Names X x2 c2) (hc3 : Names X x3 c3)
  (hst : backTo np (starEach [.Name x1 q1, .Name x2 q2, .Name x3 q3] X.env) = backTo np [(false, eval (.Name x1 q1) X.env), (false, eval (.Name x2 q2) X.env), (false, eval (.Name x3 q3) X.env)] := by rfl)
  (hb : ∀ (W : WX) (pn : List (Addr × Obj)) (xe : Value → Shared → Prop), Takes (X.tr pn xe) W → PassesOwn (model X.prog X.w) X.A X.env xe → PSs (X.tr pn xe) body (tb W))
  (hsu : ∀ (a : Addr) (oe : Obj) (cls : Value) (d : Option Addr) (pn : List (Addr × Obj)), Zc cls d oe → (∃ vs, oe.data = .fields vs) → PSs (X.suite a ((a, oe) :: pn)) (b₀ :: suite) (ts a cls d)) :
  PS X (.Try body [.ExceptHandler (some (.Tuple [.Name x1 q1, .Name x2 q2, .Name x3 q3] xc np)) (some n) (b₀ :: suite) pos'] [] [] pos) (fun D σ H => tb (wKeep X.K [c1, c2, c3] i ts D) D σ H) := by
 refine ⟨fun pins s σ H D I h => ?_⟩
 have ok := I.ok
 have hfr : X.A.frames = some (X.env :: X.outer) := by rw [ok.frames, hs]
 have hloc : Loc X.env.scope n := .inl hln
 refine wpAny_Try_except ?_
 refine wpAny_mono ((hb (wKeep X.K [c1, c2, c3] i ts D) (X.pn ++ pins) (fun e s₁ => wpAny (model X.prog X.w) X.A (noteFrame e X.env) (fun _ s₂ => wpAny (model X.prog X.w) X.A (setFlight e none) (fun _ s₃ =>
  wpAny (model X.prog X.w) X.A (handleBy e X.env [.ExceptHandler (some (.Tuple [.Name x1 q1, .Name x2 q2, .Name x3 q3] xc np)) (some n) (b₀ :: suite) pos']) (SP X pins D) X.xe s₃) X.xe s₂) X.xe s₁) (fun u s' xx => ?_) PassesOwn.looking).run [] s σ H D (I.toTry _) h) (fun f s1 hsp => ?_) (fun e s1 he => he)
 ·-- the catch
  obtain ⟨a, B, sI, pins', σ', H', cls, d, rfl, J', nb, up, sky, na, os, ag, hb1, hyes⟩ := xx
  have J : Inv X pins σ' H' sI := J'.ofTry ok
  have sky' : Sky B (X.env :: X.outer) a (Zc cls d) X.env.locals s'.heap := by rw [← hs]; exact sky
  show wpAny (model X.prog X.w) X.A (noteFrame (.ref a) X.env) _ _ _
  refine Sky.land Zc.steady hfr hf sky' fun h3 fl3 up3 => ?_
  have J3 : Inv X pins σ' H' { s' with heap := h3 } := J.landed nb fl3.1 (up.trans up3) os ag
  obtain ⟨oe3, vs3, he3, hz3, hd3⟩ := fl3.there
  have notFr : ∀ {h : Heap} {o : Obj} {vs : Array Value}, h.FunFrames B (X.env :: X.outer) → h.get? a = some o → o.data = .fields vs → a ∉ frs (X.env :: X.outer) := fun {h o vs} ff e dd hm => by
   obtain ⟨_, o', e', hnf⟩ := ff.mem hm
   rw [e] at e'; cases e'
   exact hnf _ dd
  have nfr := notFr fl3.2.2.1 he3 hd3
  have nL : a ≠ X.env.locals := fun z => nfr (List.mem_filterMap.mpr ⟨X.env, List.mem_cons_self, by rw [hf, z]⟩)
  have nF : a ∉ X.fs := fun hm => by
   obtain ⟨e, he, q⟩ := List.mem_filterMap.mp hm
   exact nfr (List.mem_filterMap.mpr ⟨e, List.mem_cons_of_mem _ he, q⟩)
  have nfs : a ∉ frs X.stack := by rw [hs]; exact nfr
  -- nothing that stood before is the exception
  have old : ∀ b o, sI.heap.get? b = some o → b ≠ a := fun b o e z => by
   subst z
   have := nb b o e nfs
   rw [fl3.2.1] at this
   cases this
  have n0 : X.s_0.heap.get? a = none := by
   cases e : X.s_0.heap.get? a with
   | none => rfl
   | some o =>
    obtain ⟨o', e'⟩ := J.base.there a o e (by rw [hex]; exact List.not_mem_nil)
    exact absurd rfl (old a o' e')
  have nc : ∀ x c, X.env.cells.lookup x = some c → c ≠ a := fun x c e => by
   obtain ⟨v, o, ho, _⟩ := J.cell x c e
   exact old c o ho
  have npin : ∀ p ∈ X.pn ++ pins, p.1 ≠ a := fun p hp => old p.1 p.2 (J.pin p hp).1
  have S3 := J3.suite he3 hd3 na nL nF
  refine wpAny_handleBy_cons (codeAny_handlers_test ?_) (by intro q; cases q)
  -- the classes
  have tst : ∀ {x : Str} {c : Value} {q : Pos} {Q : Value → Shared → Prop} {E : Value → Shared → Prop}, Names X x c → Q c { s' with heap := h3 } → wpAny (model X.prog X.w) (X.A.mark (some (.ref a))) (eval (.Name x q) X.env) Q E { s' with heap := h3 } := fun {x c q Q E} hc h => by
   obtain ⟨hg, hdbg, hm | ⟨hm, hv, hnn⟩⟩ := hc
   ·exact ld_glob (X := X.suite a ((a, oe3) :: (X.pn ++ pins))) S3 hg hm h hdbg
   ·exact ld_blt (X := X.suite a ((a, oe3) :: (X.pn ++ pins))) S3 hg hm hv h hnn hdbg
  refine wpAny_Tuple_spliced ?_
  rw [hst]
  refine Calls.spliced_cons (tst hc1 ?_)
  refine Calls.spliced_cons (tst hc2 ?_)
  refine Calls.spliced_cons (tst hc3 ?_)
  refine Calls.spliced_nil ⟨(show 3 ≤ sizeLine by decide +kernel), ?_⟩
  have kp : ∀ b o, h3.get? b = some o → (h3.push { cls := .type "tuple", data := .seq [c1, c2, c3].toArray }).get? b = some o := fun b o e => Heap.get?_push_of_some _ e
  have J5 : Inv X pins σ' H' { s' with heap := h3.push { cls := .type "tuple", data := .seq [c1, c2, c3].toArray } } := J3.kept (t' := s'.toks) kp
  have fl5 := fl3.keeps kp
  have tup : (h3.push { cls := .type "tuple", data := .seq [c1, c2, c3].toArray }).get? h3.objs.size = some { cls := .type "tuple", data := .seq [c1, c2, c3].toArray } := Heap.get?_push_size _ rfl
  have he5 := kp _ _ he3
  generalize h3.push { cls := .type "tuple", data := .seq [c1, c2, c3].toArray } = h5 at *
  have LT : PySem.W.Looks (model X.prog X.w) h5 (typeOf (.ref a)) cls := fun A Q E s k q => wpAny_typeOf_ref (k _ _ he5) (by rw [hz3.1]; exact q)
  have LM := PySem.W.exm_tup3 (M := model X.prog X.w) (J5.kIn) LT tup hb1
  refine LM.here ?_
  refine codeAny_handlers_suite_as ?_
  refine HandSPX.lands_againZ fl5 fun h4 fl4 up4 => ?_
  have J4 : Inv X pins σ' H' { s' with heap := h4 } := J.landed nb fl4.1 ((up.trans up3).trans ((Heap.UpToSlots.of_keeps kp).trans up4)) os ag
  obtain ⟨oe4, vs4, he4, hz4, hd4⟩ := fl4.there
  have S4 := J4.suite he4 hd4 na nL nF
  refine store_ok (X := X.suite a ((a, oe4) :: (X.pn ++ pins))) (v := .ref a) S4 hN hi hloc rfl (fun s5 S5 => ?_) (.inr hln)
  refine wpAny_mono ((hsu a oe4 cls d (X.pn ++ pins) hz4 ⟨_, hd4⟩).run [] s5 _ H' _ S5 (hyes a na)) (fun f s6 hsp => ?_) (fun _ _ z => False.elim z)
  cases f with
  | next =>
   obtain ⟨σ6, H6, S6, q6⟩ := hsp
   obtain ⟨p1, p2, p3, p4, p5⟩ := S6.pin (a, oe4) (List.mem_append_left _ List.mem_cons_self)
   have K6 := (S6.unsuite ok).know p1 hz4 hd4 p2 nL n0 nc npin
   exact gone_ok K6 hN hi hln fun s7 J7 => ⟨_, _, J7, q6⟩
  | brk =>
   obtain ⟨σ6, H6, S6, q6⟩ := hsp
   exact q6.elim
  | cont =>
   obtain ⟨σ6, H6, S6, q6⟩ := hsp
   exact q6.elim
  | ret u =>
   obtain ⟨v6, σ6, H6, S6, r6, q6⟩ := hsp
   exact q6.elim
 ·cases f with
  | next =>
   obtain ⟨σ', H', J', q⟩ := hsp
   exact wpAny_execs_nil ⟨σ', H', J'.ofTry ok, q⟩
  | brk =>
   obtain ⟨σ', H', J', q⟩ := hsp
   exact ⟨σ', H', J'.ofTry ok, q⟩
  | cont =>
   obtain ⟨σ', H', J', q⟩ := hsp
   exact ⟨σ', H', J'.ofTry ok, q⟩
  | ret u =>
   obtain ⟨v, σ', H', J', r, q⟩ := hsp
   exact ⟨v, σ', H', J'.ofTry ok, r, q⟩
end
end L2
namespace PySem
namespace OEG
open PySem.W PySem.Calls PyProof.Rows PySem.HandSPX
section
open Builtin Builtin.ObjectAttr
variable {prog : Program} {w : World} {A : Around} {E : Value → Shared → Prop} {R : Result → Shared → Prop} {hp : Heap} {g : Array GenState} {d : Drawn} {t : Nat} {os : OsState}
theorem osa_new {K : W.Frag} {B : String} {bmB : List Value} {name : Str} {tk : Tok} {v : Value} {x C : Addr} {fv : Array Value} {cd : ClassData} {mt : List Value} (SF : StoreFacts B bmB "object.__setattr__" "object")
  (X : K.In hp) (hx : hp.get? x = some { cls := .ref C, data := .fields fv }) (hcd : W.clsIn K C = some cd) (hmt : cd.mro = .ref C :: mt) (hm : W.excTail bmB mt = true) (hh : cd.hasDict = true) (ha : W.findIn K (.ref C) name = some none)
  (hq : ∀ h' tk' dx, (∀ b o, b ≠ x → hp.get? b = some o → h'.get? b = some o) → hp.objs.size ≤ dx → dx ≠ x → h'.get? x = some { cls := .ref C, dict := some dx, data := .fields fv } →
   h'.Ns1 dx (fun y => if y = name then some v else none) → R (.ok (.ret .none)) ⟨h', g, d, tk', os⟩) :
  codeAny (model prog w) A (.call (.builtin "object.__setattr__") ⟨[.ref x, .str name tk, v], []⟩) R ⟨hp, g, d, t, os⟩ := by
 have I : W.InstAt hp x { cls := .ref C, data := .fields fv } C none := ⟨hx, rfl, rfl, trivial⟩
 have ne : cd.mro.isEmpty = false := by rw [hmt]; rfl
 have hob : cd.mro.contains (.type "object") = true := by rw [hmt, List.contains_cons, W.excTail_contains "object" _ hm, SF.hasOwner, Bool.or_true]
 have hxs : x ≠ hp.objs.size := Nat.ne_of_lt (Heap.lt_size hx)
 have sub : W.Looks (model prog w) hp (isInstance (.ref x) (.type "object")) true := I.type.andThen (W.looks_mroIn X (by unfold W.mroIn; rw [hcd, Option.bind_some, if_neg (by rw [ne]; decide), hob]))
 refine codeAny_call_builtin SF.slot.plain SF.entry (@W.check_slot (model prog w) _ _ ⟨hp, g, d, t, os⟩ "object.__setattr__" "object" "__setattr__" (.ref x) [.str name tk, v] [] _ SF.kind SF.split sub (SF.args (.ref x) (.str name tk) v) ?_)
 have hmr : W.Looks (model prog w) hp (mroOf (.ref C)) cd.mro := (W.looks_clsIn X hcd).andThen .now
 have L3 : W.Looks (model prog w) hp (storeTaker? none) none := .now
 have hcls : W.Looks (model prog w) hp (classData C) cd := W.looks_clsIn X hcd
 rw [W.osa_eq, refuse_eq]
 refine wpAny_bind (wpAny_bind (I.type.at (wpAny_bind (hmr.at ?_))))
 rw [hmt, refuseLoop_ref, W.excTail_pass _ (SF.passes _) _ hm]
 refine wpAny_pure (wpAny_bind (I.type.at (wpAny_bind ((W.looks_findIn X ha).at (wpAny_bind (L3.at ?_))))))
 show wpAny _ _ (storeInOwnDict (.ref x) (.ref C) (.str name tk) name v false) _ _ _
 obtain ⟨nm, bs, mro, ns, qn, hd, sn, sb, ab, col, del⟩ := cd
 dsimp only at hh
 subst hh
 unfold storeInOwnDict ownDictForStores
 repeat (first | with_reducible refine store_in_new ?_ ?_ | with_reducible refine wpAny_loadPart_at hx ?_ | with_reducible refine hcls.at ?_ | wp_step)
 ·exact ⟨_, #[], _, (Heap.get?_update_ne _ _ _ _ hxs.symm).trans (Heap.get?_push_at rfl rfl), rfl, fun e he => absurd he (by simp), fun _ => rfl⟩
 ·intro h' tk' hn' hs
  have hx₁ : (hp.push { cls := .type "dict", data := .dict #[] }).get? x = some { cls := .ref C, data := .fields fv } := Heap.get?_push_of_some _ hx
  refine hq h' tk' hp.objs.size (fun b o hb ho => ?_) (Nat.le_refl _) hxs.symm ?_ hn'
  ·exact (hs.2 b (Nat.ne_of_lt (Heap.lt_size ho))).trans ((Heap.get?_update_ne _ _ _ _ hb).trans (Heap.get?_push_of_some _ ho))
  ·exact (hs.2 x hxs).trans (Heap.get?_update_self _ hx₁ rfl)
end
end OEG
end PySem
namespace L2
open PySem PySem.Spec PyProof.Rows
structure OexG (K : PySem.W.Frag) (C : Addr) (B newId initId : String) (bmB : List Value) : Prop where
 cls : ∃ nm q N bs bm sn sub ab col dd k0 k1 k2 k3 k5, K.lookup C = some (excClassObj nm q C N bs bm true sn sub ab col dd k0 k1 k2 k3 k5 newId) ∧ PySem.W.excTail bmB bm = true
 sa : PySem.W.findIn K (.ref C) "__setattr__" = some (some (.builtin "object.__setattr__"))
 exC : PySem.W.subIn K (.ref C) (.type "BaseException") = some true
 tyC : PySem.W.typeIn K (.ref C) = some (.type "type")
 kC : PySem.W.keepIn K (.ref C) = true
section
variable {X : Cx} {pins : List (Addr × Obj)} {σ : St} {H : Hp} {s : Shared} {a C dx : Addr} {f : Str} {y : V} {u : Value} {fs : List (Str × V)} {Q : Unit → Shared → Prop} {E : Value → Shared → Prop} {A : Around} {B newId initId : String} {bmB : List Value}
theorem ost_newG (SF : StoreFacts B bmB "object.__setattr__" "object") (T : OexG X.K C B newId initId bmB) (I : Inv X pins σ H s) (e : H a = some (exo a C none)) (hno : PySem.W.findIn X.K (.ref C) f = some none) (ry : RelV y u)
  (h : ∀ dx s', H dx = none → dx ≠ a → Inv X pins σ (upd (upd H dx (exd dx [(f, y)])) a (exo a C (some dx))) s' → Q () s') : wpAny (model X.prog X.w) A (setAttr (.ref a) f u) Q E s := by
 obtain ⟨nm, q, N, bs, bm, sn, sub, ab, col, dd, k0, k1, k2, k3, k5, hC, hbm⟩ := T.cls
 have hcl : PySem.W.clsIn X.K C = some { name := nm, bases := bs, mro := .ref C :: bm, ns := N, qualname := q, hasDict := true, slotNames := sn, subclasses := sub, abstract := ab, collection := col, hasDel := false } := by unfold PySem.W.clsIn; rw [hC] <;> rfl
 obtain ⟨t1, ho⟩ := exo_at I.hok e
 obtain ⟨hp, g, d, t, os⟩ := s
 refine PySem.W.set_plain I.kIn (ox := { cls := .ref C, dict := none, data := .fields #[.ref t1, .none, .none, .none, .bool false, .none] }) (od := none) ⟨ho, rfl, rfl, trivial⟩ T.sa ?_
 refine PySem.OEG.osa_new SF I.kIn ho hcl rfl hbm rfl hno (fun h' tk' dx k dn dne hx hn => ?_)
 have hnd : H dx = none := I.hok.fresh dn
 have nd : ∀ {b : Addr} {o : Obj}, hp.get? b = some o → b ≠ dx := fun {b o} q => Nat.ne_of_lt (Nat.lt_of_lt_of_le (Heap.lt_size q) dn)
 have na : ∀ {b : Addr}, H b = none → b ≠ a := fun {b} n z => by
  rw [z, e] at n
  cases n
 have Un1 : Un X.fs [] H (upd (upd H dx (exd dx [(f, y)])) a (exo a C (some dx))) hp h' := {
  keep := fun b o q n _ _ => k b o (na n) q
  slot := fun b o q n _ _ => ⟨o.slots, k b o (na n) q⟩
  free := fun b o q n _ => by rw [upd_ne (na n), upd_ne (nd q)]; exact n
  there := fun b o q _ => by
   by_cases hb : b = a
   ·exact ⟨_, by rw [hb]; exact hx⟩
   ·exact ⟨o, k b o hb q⟩
  tups := fun b xs q => by rw [upd_ne (at_ne e q exo_tup), upd_ne (ne_of_none q hnd)]; exact q
  frzs := fun b o v q => by rw [upd_ne (at_ne e q exo_frz), upd_ne (ne_of_none q hnd)]; exact q
  tbls := fun b ps q => ⟨#[], by rw [upd_ne (at_ne e q exo_tbl), upd_ne (ne_of_none q hnd), q]; simp⟩ }
 refine h dx _ hnd dne (I.un (t' := tk') Un1 fun b o q => ?_)
 by_cases hb : b = a
 ·subst hb
  rw [upd_same] at q
  cases q
  exact exo_ok hx
 ·rw [upd_ne hb] at q
  by_cases hd : b = dx
  ·subst hd
   rw [upd_same] at q
   cases q
   exact exd_ok hn (relO_put (fs := []) ry fun g => True.intro)
  ·rw [upd_ne hd] at q
   exact (I.hok b o q).stay (fun c v hc z => k c v (by
     rcases hc with hc | hc
     ·rw [hc]
      exact hb
     ·exact at_ne e hc exo_own) z)
    (fun c hc => by rw [upd_ne (at_ne e hc exo_own), upd_ne (ne_of_none hc hnd)]; exact hc) (fun c xs hc => by rw [upd_ne (at_ne e hc exo_tup), upd_ne (ne_of_none hc hnd)]; exact hc)
theorem oinit_okG {us : List Value} {Q : Value → Shared → Prop} (F : ExcBaseFacts B newId initId bmB) (T : OexG X.K C B newId initId bmB) (I : Inv X pins σ H s) (e : H a = some (exo a C none)) (hl : us.length ≤ sizeLine) (h : ∀ s', Inv X pins σ H s' → Q .none s') :
  wpAny (model X.prog X.w) A (call (.builtin initId) (.ref a :: us)) Q E s := by
 obtain ⟨nm, q, N, bs, bm, sn, sub, ab, col, dd, k0, k1, k2, k3, k5, hC, hbm⟩ := T.cls
 obtain ⟨t1, ho⟩ := exo_at I.hok e
 obtain ⟨hp, g, d, t, os⟩ := s
 refine wpAny_call (PySem.HandSPX.init_base F (fun Y => PySem.W.excTail_contains Y bm hbm) (I.kIn _ _ hC) ho hl fun h' t2 k hx => ?_)
 have J := I.write (t' := t) (x := a) (e := a) (o := exo a C none) (by rw [e]; exact True.intro) (.inl rfl) k ⟨_, hx⟩ (exo_ok hx)
 have eu : upd H a (exo a C none) = H := by
  funext b
  by_cases hb : b = a
  ·rw [hb, upd_same, e]
  ·rw [upd_ne hb]
 rw [eu] at J
 exact h _ J
end
def tVeIG (K : PySem.W.Frag) (C : Addr) (B newId initId : String) (bmB : List Value) (ta : TA) : TE := fun σ H Q => ta σ H fun vs H1 => ∃ (a : Addr) (ws : List V), vs = .ref a :: ws ∧ ws.length ≤ 1000 ∧ OexG K C B newId initId bmB ∧ H1 a = some (exo a C none) ∧ Q .non H1
def tOstG (K : PySem.W.Frag) (C : Addr) (B newId initId : String) (bmB : List Value) (f : Str) (to te : TE) : TS := fun D σ H => te σ H fun y H1 => to σ H1 fun x H2 => ∃ a : Addr, x = .ref a ∧ OexG K C B newId initId bmB ∧ PySem.W.findIn K (.ref C) f = some none ∧
 H2 a = some (exo a C none) ∧ ∀ dx, H2 dx = none → dx ≠ a → D.nx σ (upd (upd H2 dx (exd dx [(f, y)])) a (exo a C (some dx)))
section
variable {X : Cx} {o e : Expr} {es : List Expr} {to te : TE} {ta : TA} {f : Str} {p p' p1 p2 pos : Pos} {C P : Addr} {B newId initId : String} {bmB : List Value} {x : Str}
theorem pe_veinitG {pl : Sem Bool} (F : ExcBaseFacts B newId initId bmB) (hg : Gl X x) (hm : X.mg x = some (.ref P)) (rd : PySem.W.readsIn X.K P (.type "type") = true) (rg : PySem.W.specialIn X.K (.ref P) "__getattribute__" = some (some (.builtin "type.__getattribute__")))
  (vV : PySem.W.findCls X.K (.ref P) (.type "type") "__init__" = some (.val (.builtin initId))) (hh : PySem.W.handedIn (.builtin initId) = true) (ha : PA X (e :: es) ta)
  (hc : eval (.Call (.Attribute (.Name x p1) "__init__" p2) (e :: es) [] pos) X.env = (do
   let ov ← eval (.Name x p1) X.env
   standAt p2.atName
   let (f, first) ← holding [ov] (getMethod ov "__init__" pl)
   callWith pos f first (backTo pos (starEach (e :: es) X.env)) (backToKw pos (keywordEach [] X.env))) := by rfl)
  (hdb : (x == ("__debug__" : Str)) = false := by decide) (he : starEach (e :: es) X.env = (false, eval e X.env) :: starEach es X.env := by rfl) (hpl : (backTo pos (starEach es X.env)).any (·.1) = false := by rfl) :
  PE X (.Call (.Attribute (.Name x p1) "__init__" p2) (e :: es) [] pos) (tVeIG X.K C B newId initId bmB ta) := by
 refine ⟨fun pins s σ H Q I h => ?_⟩
 refine PySem.W.methodCall_KW (ld_glob I hg hm ?_ hdb) hc
 refine PySem.W.method_cls I.kIn rg (PySem.W.cls_value I.kIn rd vV hh ?_)
 show wpAny _ _ (callWith pos (Value.builtin initId) [] (backTo pos (starEach (e :: es) X.env)) []) _ _ _
 refine PyProof.Rows.callWith_method1 (thn (ha.run pos pins _ σ H _ (I.tok _) h) fun us s1 ⟨vs, H1, I1, r1, a, ws, ev, hl, T, ea, q⟩ => ?_) he hpl
 subst ev
 cases r1 with
 | @cons _ u0 _ ur ra rw' =>
  obtain rfl : u0 = Value.ref a := ra
  have hlen : ur.length ≤ sizeLine := by
   rw [← Paired.length rw', sizeLine_eq]
   omega
  exact oinit_okG F T I1 ea hlen fun s' J => ⟨.non, H1, J, rfl, q⟩
theorem ps_ostG (SF : StoreFacts B bmB "object.__setattr__" "object") (ho : PE X o to) (he : PE X e te) (hs : swapsWith e (some (.Attribute o f p')) pos.line X.env = pure false := by rfl) : PS X (.Assign [.Attribute o f p'] e pos) (tOstG X.K C B newId initId bmB f to te) := by
 refine ⟨fun pins s σ H D I h => ?_⟩
 refine plainObj_wpAny_Assign_Attribute (thn (he.run pins s σ H _ I h) fun v s1 ⟨y, H1, I1, r1, q1⟩ => thn (ho.run pins s1 σ H1 _ I1 q1) fun u s2 ⟨x, H2, I2, r2, a, ex, T, hno, ea, q⟩ => ?_) hs
 subst ex
 obtain rfl : u = Value.ref a := r2
 exact ost_newG SF T I2 ea hno r1 fun dx s' n ne J => ⟨σ, _, J, q dx n ne⟩
theorem pmk_oexG {CX : CXT} {fI : Addr} {k : Nat} {fd : FuncData} {ps : List Str} {sp : Sp} (F : ExcBaseFacts B newId initId bmB) (T : OexG X.K C B newId initId bmB) (iC : PySem.W.findIn X.K (.ref C) "__init__" = some (some (.ref fI))) (tI : PySem.W.typeIn X.K (.ref fI) = some (.type "function"))
  (F1 : FnOk X.prog X.w X.K X.mg X.base CX k fI fd ps sp) (hr : Room (k + 1) X.A) (hb : Binds X.K fd ps []) (hx : Passes CX X (fun _ _ _ => False)) (hg : Gl X x) (hm : X.mg x = some (.ref C)) (ha : PA X (e :: es) ta)
  (hdb : (x == ("__debug__" : Str)) = false := by decide) (he : starEach (e :: es) X.env = (false, eval e X.env) :: starEach es X.env := by rfl) (hpl : (backTo pos (starEach es X.env)).any (·.1) = false := by rfl) :
  PMk X (.Call (.Name x p) (e :: es) [] pos) (tMkO C sp [] ta) := by
 intro pins s σ H Q I h
 obtain ⟨nm, q, N, bs, bm, sn, sub, ab, col, dd, k0, k1, k2, k3, k5, hC, hbm⟩ := T.cls
 refine wpAny_Call_Name_kw (ld_glob I hg hm ?_ hdb)
 refine PySem.W.callWith_K (h₀ := X.base) I.ok.mod.kin T.kC (thn (ha.run pos pins s σ H _ I h) fun us s1 ⟨vs, H1, I1, r1, hz, q1⟩ => ⟨I1.kIn, ?_⟩) he hpl
 show wpAny _ _ (call (.ref C) us) _ _ _
 obtain ⟨hp, g, dr, tk, os⟩ := s1
 have hsz : hp.objs.size ≤ hp.objs.size + 1 := Nat.le_succ _
 have hn : H1 (hp.objs.size + 1) = none := I1.hok.fresh hsz
 have hq := q1 (hp.objs.size + 1) hn
 rw [List.append_nil] at hq
 have kk : ∀ b o, hp.get? b = some o → ((hp.push (PySem.W.kdv_tup us)).push (PySem.HandSPX.excO C hp.objs.size)).get? b = some o := fun b o e => Heap.get?_push_of_some _ (Heap.get?_push_of_some _ e)
 have hget : ((hp.push (PySem.W.kdv_tup us)).push (PySem.HandSPX.excO C hp.objs.size)).get? (hp.objs.size + 1) = some (PySem.HandSPX.excO C hp.objs.size) := by heap_get
 have I2 : Inv X pins σ (upd H1 (hp.objs.size + 1) (exo (hp.objs.size + 1) C none)) ⟨(hp.push (PySem.W.kdv_tup us)).push (PySem.HandSPX.excO C hp.objs.size), g, dr, tk, os⟩ :=
  I1.laid (t' := tk) (a := hp.objs.size + 1) (o := exo (hp.objs.size + 1) C none) (h' := (hp.push (PySem.W.kdv_tup us)).push (PySem.HandSPX.excO C hp.objs.size)) kk hsz (exo_ok hget)
 have r2 : Vals (V.ref (hp.objs.size + 1) :: vs) (Value.ref (hp.objs.size + 1) :: us) := .cons rfl r1
 have hl : (Value.ref (hp.objs.size + 1) :: us).length = ps.length := by
  have e := r2.length
  rw [F1.len _ _ _ _ hq] at e
  exact e.symm
 have hus : us.length ≤ sizeLine := by
  rw [← Paired.length r1, sizeLine_eq]
  omega
 have hb' := hb ⟨(hp.push (PySem.W.kdv_tup us)).push (PySem.HandSPX.excO C hp.objs.size), g, dr, tk, os⟩ (Value.ref (hp.objs.size + 1) :: us) I2.kIn (by rw [List.append_nil]; exact hl)
 rw [List.append_nil] at hb'
 refine wpAny_call (PySem.HandSPX.call_own F (fun Y => PySem.W.excTail_contains Y bm hbm) (I1.kIn _ _ hC) (PySem.W.looks_findIn I1.kIn iC) (fun self => PySem.W.bind_fn I1.kIn self tI) hus
  (codeAny_mono (F1.run _ X.stack _ _ ⟨Value.ref (hp.objs.size + 1) :: us, []⟩ (Value.ref (hp.objs.size + 1) :: us) _ _ (fun _ _ _ => False) (hr.make C us []) (I2.env0.make C us []) hb' r2 hq) fun r s' hq' => ?_))
 cases r with
 | error er => exact hx pins σ _ _ er s' I2 hq'
 | ok fl =>
  cases fl with
  | ret u =>
   obtain ⟨v, H2, os2, bare2, un2, hok2, rv, ev, d, fs, ea, ed, hd1, q2⟩ := hq'
   subst ev
   obtain ⟨h2, g2, d2, t2, os'⟩ := s'
   exact ⟨rv, mk_end (raises_own T.exC T.tyC) I1 hsz kk un2 hok2 os2 bare2 ea ed hd1 q2⟩
  | next => exact False.elim hq'
  | brk => exact False.elim hq'
  | cont => exact False.elim hq'
end
def spI (K : PySem.W.Frag) (C : Addr) (B newId initId : String) (bmB : List Value) (f : Str) : Sp := fun vs H Q _ => ∃ (a : Addr) (v : V), vs = [.ref a, v] ∧ OexG K C B newId initId bmB ∧ PySem.W.findIn K (.ref C) f = some none ∧ H a = some (exo a C none) ∧
 ∀ dx, H dx = none → dx ≠ a → Q .non (upd (upd H dx (exd dx [(f, v)])) a (exo a C (some dx)))
theorem init_ok {CX : CXT} {P : Program} {w : World} {K : PySem.W.Frag} {mg : Str → Option Value} {base : Heap} {k : Nat} {fI C Pa : Addr} {fd : FuncData} {qual x y f : Str} {params : Arguments} {scope : Scope} {B newId initId : String} {bmB : List Value} {p1 p2 p3 p4 p5 p6 p7 p8 p9 p10 : Pos}
  (F : FunD K "__init__" qual params [.Expr (.Call (.Attribute (.Name x p1) "__init__" p2) [.Name "self" p3, .Name y p4] [] p5) p6, .Assign [.Attribute (.Name "self" p7) f p8] (.Name y p9) p10] scope [] [] fI fd)
  (S : FnScope ["self", y] ["self", y] scope) (FB : ExcBaseFacts B newId initId bmB) (SF : StoreFacts B bmB "object.__setattr__" "object")
  (hg : scope.names.lookup x = some .globalImplicit) (hm : mg x = some (.ref Pa)) (h0 : scope.names.lookup ("self" : Str) = some .local) (h1 : scope.names.lookup y = some .local)
  (rd : PySem.W.readsIn K Pa (.type "type") = true) (rg : PySem.W.specialIn K (.ref Pa) "__getattribute__" = some (some (.builtin "type.__getattribute__"))) (vV : PySem.W.findCls K (.ref Pa) (.type "type") "__init__" = some (.val (.builtin initId))) (hh : PySem.W.handedIn (.builtin initId) = true)
  (hcall : ∀ env : PySem.Env, ∃ pl : Sem Bool, eval (.Call (.Attribute (.Name x p1) "__init__" p2) [.Name "self" p3, .Name y p4] [] p5) env = (do
   let ov ← eval (.Name x p1) env
   standAt p2.atName
   let (f, first) ← holding [ov] (getMethod ov "__init__" pl)
   callWith p5 f first (backTo p5 (starEach [.Name "self" p3, .Name y p4] env)) (backToKw p5 (keywordEach [] env))))
  (hdx : (x == ("__debug__" : Str)) = false := by decide) (hdy : (y == ("__debug__" : Str)) = false := by decide) (hcy : (y == ("__classdict__" : Str)) = false := by decide) :
  FnOk P w K mg base CX (k + 1) fI fd ["self", y] (spI K C B newId initId bmB f) := by
 refine F.ok S (fun vs H Q E ⟨a, v, e, _⟩ => by rw [e]; rfl) fun cdv A outer s H vs Q E hr ⟨a, v, e, T, hno, ea, q⟩ => ?_
 subst e
 have v0 : ∀ p, PE (cxOf CX P w K mg base ["self", y] qual scope fI cdv A outer s H E) (.Name "self" p) (tVar 0) := fun p => pe_var rfl (.inl h0) (by decide) (by decide)
 have v1 : ∀ p, PE (cxOf CX P w K mg base ["self", y] qual scope fI cdv A outer s H E) (.Name y p) (tVar 1) := fun p => pe_var rfl (.inl h1) hdy hcy
 obtain ⟨pl, hc⟩ := hcall (cxOf CX P w K mg base ["self", y] qual scope fI cdv A outer s H E).env
 refine ⟨_, pss_cons (ps_expr (pe_veinitG (C := C) FB hg hm rd rg vV hh (pa_cons (v0 p3) (pa_cons (v1 p4) pa_nil)) hc (hdb := hdx))) (pss_one (ps_ostG (C := C) (newId := newId) (initId := initId) SF (v0 p7) (v1 p9))), ?_⟩
 refine ⟨.ref a, rfl, v, rfl, a, [v], rfl, by simp, T, ea, ?_⟩
 exact ⟨v, rfl, .ref a, rfl, a, rfl, T, hno, ea, q⟩
end L2
namespace Pv
open PySem PySem.Spec PyProof.Rows L2
def rzOf : D → Option (Nat × List D)
 | .tag (n + 1) ds => if n % 2 = 1 then some (n / 2, ds) else none
 | _ => none
theorem Rep.norz {c : C} {m : M} {d : D} {x : V} (h : Rep c m d x) : rzOf d = none := by
 cases d with
 | tag k ds =>
  cases k with
  | zero => rfl
  | succ n =>
   obtain ⟨a, xs, _, ⟨h0, _⟩, _⟩ := h
   show (if n % 2 = 1 then some (n / 2, ds) else none) = none
   rw [if_neg (by omega)]
 | _ => rfl
def Fld (m : M) (dd : Option Addr) (xs : List V) : Prop := (∃ (a : Addr) (f : Str) (v : V), dd = some a ∧ xs = [.str f, v] ∧ m.H a = some (.xd [(f, v)])) ∨ (dd = none ∧ xs = [])
def RzP (c : C) (m : M) (S : Sto) (i : Nat) (ds : List D) (W : XK) : Prop :=
 ∀ m' xs dd, m'.S = S → Tr c m m' → RepL c m' ds xs → Fld m' dd xs → W (.ref (xA c.K i)) dd m'.H
theorem RzP.tr {c : C} {m m' : M} {S : Sto} {i : Nat} {ds : List D} {W : XK} (s : Sim c m) (t : Tr c m m') (h : RzP c m S i ds W) : RzP c m' S i ds W := fun m2 xs dd e t2 r f => h m2 xs dd e (t.trans s t2) r f
def PostR (c : C) (m : M) (W : WX) (D : Ends) (o : Out) : Prop := match o with
 | .rt d S => (∀ p, rzOf d = some p → RzP c m S p.1 p.2 fun cls dd H => ∀ σ, W cls dd σ H) ∧ ∀ m' x, m'.S = S → Tr c m m' → Rep c m' d x → D.rt x m'.H
 | o => Post c m D o
theorem PostR.post {c : C} {m : M} {W : WX} {D : Ends} {o : Out} (h : PostR c m W D o) : Post c m D o := by
 cases o with
 | rt d S => exact h.2
 | _ => exact h
theorem PostR.tr {c : C} {m m' : M} {W : WX} {D : Ends} {o : Out} (s : Sim c m) (t : Tr c m m') (h : PostR c m W D o) : PostR c m' W D o := by
 cases o with
 | nx e S => exact fun m2 σ2 q2 t2 er => h m2 σ2 q2 (t.trans s t2) er
 | bk e S => exact fun m2 σ2 q2 t2 er => h m2 σ2 q2 (t.trans s t2) er
 | ct e S => exact fun m2 σ2 q2 t2 er => h m2 σ2 q2 (t.trans s t2) er
 | rt d S => exact ⟨fun p e => (h.1 p e).tr s t, fun m2 σ2 q2 t2 er => h.2 m2 σ2 q2 (t.trans s t2) er⟩
def tSR (K : PySem.W.Frag) (W : WX) (b : SX) : TS := fun D σ H => ∃ (Z : List Addr) (m : M) (env : En) (o : Out), m.H = H ∧ Sim ⟨K, Z⟩ m ∧ ER ⟨K, Z⟩ m env σ ∧ b env m.S = some o ∧ PostR ⟨K, Z⟩ m W D o
abbrev SJR (X : Cx) (W : WX) (s : Stmt) (b : SX) : Prop := PS X s (tSR X.K W b)
abbrev BJR (X : Cx) (W : WX) (s : List Stmt) (b : SX) : Prop := PSs X s (tSR X.K W b)
section
variable {X : Cx} {W : WX} {st : Stmt} {rest : List Stmt} {f g : SX} {a : Expr} {pos : Pos}
theorem tsr_ts {K : PySem.W.Frag} {b : SX} {D : Ends} {σ : L2.St} {H : Hp} (h : tSR K W b D σ H) : tS K b D σ H := by
 obtain ⟨Z, m, env, o, e, s, er, hf, q⟩ := h
 exact ⟨Z, m, env, o, e, s, er, hf, q.post⟩
theorem sjr_of (h : SJ X st f) : SJR X W st f := ps_wk h fun D σ H => tsr_ts
theorem bjr_of (h : BJ X rest f) : BJR X W rest f := pss_wk h fun D σ H => tsr_ts
theorem ps_nox {t : TS} (h : PS X.nox st t) : PS X st t := ⟨fun pins s σ H D I hw => wpAny_mono (h.run pins s σ H D (I.wish _) hw) (fun _ _ q => q.unwish) fun _ _ z => False.elim z⟩
theorem sjr_nox (h : SJ X.nox st f) : SJR X W st f := sjr_of (ps_nox h)
theorem bjr_nox (h : BJ X.nox rest f) : BJR X W rest f := bjr_of (PSs.nox h)
theorem bjr_cons (h : SJR X W st f) (k : BJR X W rest g) : BJR X W (st :: rest) (sSeq f g) := pss_wk (pss_cons h k) fun D σ H ⟨Z, m, env, o, e, s, er, hf, q⟩ => by
 unfold sSeq at hf
 obtain ⟨o1, h1, h2⟩ := Option.bind_eq_some_iff.mp hf
 refine ⟨Z, m, env, o1, e, s, er, h1, ?_⟩
 cases o1 with
 | nx e' S' => exact fun m1 σ1 q1 t1 er1 => ⟨Z, m1, e', o, rfl, t1.si, er1, by rw [q1]; exact h2, q.tr s t1⟩
 | rt d S' => cases h2; exact q
 | bk d S' => cases h2; exact q
 | ct d S' => cases h2; exact q
theorem bjr_one (h : SJR X W st f) : BJR X W [st] f := pss_one h
theorem sjr_if {t : TX} {l r : List Stmt} (hc : TJ X a t) (h : BJR X W l f) (k : BJR X W r g) : SJR X W (.If a l r pos) (sIf t f g) := ps_wk (ps_if hc h k) fun D σ H ⟨Z, m, env, o, e, s, er, hf, q⟩ => by
 unfold sIf at hf
 obtain ⟨⟨x, S1⟩, h1, h⟩ := Option.bind_eq_some_iff.mp hf
 refine ⟨Z, m, env, x, S1, e, s, er, h1, fun m1 e1 t1 => ?_⟩
 cases x with
 | true => exact ⟨Z, m1, env, o, rfl, t1.si, er.tr s t1, by rw [e1]; exact h, q.tr s t1⟩
 | false => exact ⟨Z, m1, env, o, rfl, t1.si, er.tr s t1, by rw [e1]; exact h, q.tr s t1⟩
def sRaise (i : Nat) (f : Str) (g : EX) : SX := fun e S => (g e S).map fun p => .rt (.tag (2 * i + 2) [.str f, p.1]) p.2
theorem rz_tag (i : Nat) (ds : List D) : rzOf (.tag (2 * i + 2) ds) = some (i, ds) := by
 show (if (2 * i + 1) % 2 = 1 then some ((2 * i + 1) / 2, ds) else none) = _
 rw [if_pos (by omega)]
 congr 2
 omega
structure ExcI (P : Program) (w : World) (K : PySem.W.Frag) (mg : Str → Option Value) (base : Heap) (i : Nat) (f : Str) : Prop where
 ex : ∃ (B newId initId : String) (bmB : List Value) (fI : Addr) (fd : FuncData) (y : Str), OexG K (xA K i) B newId initId bmB ∧ ExcBaseFacts B newId initId bmB ∧ PySem.W.findIn K (.ref (xA K i)) "__init__" = some (some (.ref fI)) ∧ PySem.W.typeIn K (.ref fI) = some (.type "function") ∧
  FnOk P w K mg base CX0 1 fI fd ["self", y] (spI K (xA K i) B newId initId bmB f) ∧ Binds K fd ["self", y] []
 no : PySem.W.findIn K (.ref (xA K i)) f = some none
 at_ : mg (exN i) = some (.ref (xA K i))
 p : ExcP K (xA K i)
theorem sjr_raise {i : Nat} {f x : Str} {fa : EX} {p pos' : Pos} (hI : ExcI X.prog X.w X.K X.mg X.base i f) (hr : Room 2 X.A) (hc : X.calm = true) (tk : Takes X W) (hg : Gl X x) (hx : exN i = x) (ha : EJ X a fa)
  (hdb : (x == ("__debug__" : Str)) = false := by decide) (he : starEach [a] X.env = (false, eval a X.env) :: starEach [] X.env := by rfl) (hpl : (backTo pos (starEach [] X.env)).any (·.1) = false := by rfl) :
  SJR X W (.Raise (some (.Call (.Name x p) [a] [] pos)) none pos') (sRaise i f fa) := by
 obtain ⟨⟨B, newId, initId, bmB, fI, fd, y, T, FB, iC, tI, F1, hb⟩, no, at_, hp⟩ := hI
 refine ps_wk (ps_raise hc tk (pmk_oexG (CX := CX0) FB T iC tI F1 hr hb (fun _ _ _ _ _ _ _ z => z.elim) hg (by rw [← hx]; exact at_) (aj_cons ha aj_nil he) hdb he hpl)) fun D σ H ⟨Z, m, env, o, e, s, er, hf, q⟩ => ?_
 obtain ⟨⟨x1, S1⟩, h1, h2⟩ := Option.map_eq_some_iff.mp hf
 cases h2
 refine ⟨Z, m, env, [x1], S1, e, s, er, by
  show aCons fa aNil env m.S = _
  unfold aCons
  rw [h1]
  rfl, fun m1 vs e1 t1 rv => ?_⟩
 obtain ⟨vx, r, ev, rx, er0⟩ := rv
 obtain rfl : r = [] := er0
 subst ev
 refine ⟨by simp, fun a0 ha0 => ?_⟩
 refine ⟨a0, vx, by simp, T, no, upd_same, fun dx hdx hne => ?_⟩
 have hdx1 : m1.H dx = none := by
  rw [upd_ne hne] at hdx
  exact hdx
 refine ⟨rfl, dx, [(f, vx)], upd_same, by rw [upd_ne hne, upd_same], hdx1, ?_⟩
 have eH : upd (L2.del (upd (upd (upd m1.H a0 (exo a0 (xA X.K i) none)) dx (exd dx [(f, vx)])) a0 (exo a0 (xA X.K i) (some dx))) a0) dx (.xd [(f, vx)]) = upd m1.H dx (.xd [(f, vx)]) := by
  funext b
  by_cases hb : b = dx
  ·rw [hb, upd_same, upd_same]
  ·rw [upd_ne hb, upd_ne hb]
   by_cases hba : b = a0
   ·rw [hba, L2.del_same, ha0]
   ·rw [L2.del_ne hba, upd_ne hba, upd_ne hb, upd_ne hba]
 rw [eH]
 have t2 : Tr ⟨X.K, Z⟩ m1 ⟨m1.r, m1.S, upd m1.H dx (.xd [(f, vx)])⟩ := Tr.laid t1.si hdx1
 exact (q.1 (i, _) (rz_tag i _)) ⟨m1.r, m1.S, upd m1.H dx (.xd [(f, vx)])⟩ [.str f, vx] (some dx) e1 (t1.trans s t2) ⟨.str f, [vx], rfl, rfl, vx, [], rfl, t2.rep t1.si rx, rfl⟩ (.inl ⟨dx, f, vx, rfl, rfl, upd_same⟩) σ
end
def spX (K : PySem.W.Frag) (con : Con) : Sp := fun vs H Q E => ∃ (Z : List Addr) (m : M) (ds : List D) (v : D) (S' : Sto), m.H = H ∧ Sim ⟨K, Z⟩ m ∧ RepL ⟨K, Z⟩ m ds vs ∧ con ds m.S = some (v, S') ∧
 (∀ p, rzOf v = some p → RzP ⟨K, Z⟩ m S' p.1 p.2 E) ∧ ∀ m' x, m'.S = S' → Tr ⟨K, Z⟩ m m' → Rep ⟨K, Z⟩ m' v x → Q x m'.H
structure FnX (P : Program) (w : World) (K : PySem.W.Frag) (mg : Str → Option Value) (base : Heap) (k : Nat) (f : Addr) (fd : FuncData) (ps : List Str) (con : Con) : Prop where
 len : ∀ ds S r, con ds S = some r → ds.length = ps.length
 run : ∀ (A : Around) (out : List PySem.Env) (s : Shared) (H : Hp) (args : Args) (us : List Value) (vs : List V) (Q : VK) (E : XK), RG k A → Env0 P w K mg base A out s H → BindsTo s fd args (ps.zip us) → Vals vs us →
  spX K con vs H Q E → codeAny (model P w) A (.call (.ref f) args) (CR (L2.CX P w) out P w H s Q E) s
section
variable {K : PySem.W.Frag} {P : Program} {w : World} {mg : Str → Option Value} {base : Heap} {x qual : Str} {params : Arguments} {body : List Stmt} {scope : Scope} {dvs : List V} {kws : List (Str × V)} {f : Addr} {fd : FuncData} {N ps : List Str} {k : Nat} {con : Con}
theorem RepL.cutz {c : C} {m : M} {k : Nat} {d : D} {n : Nat} {ds : List D} {xs : List V} (hd : d = .tag n ds) (h : Pv.below k d = true) (r : RepL c m ds xs) : RepL c (m.cut k) ds xs := by
 subst hd
 exact RepL.cut ds xs r (by simpa [Pv.below] using h)
theorem rz_inv {d : D} {p : Nat × List D} (h : rzOf d = some p) : ∃ n, d = .tag n p.2 := by
 cases d with
 | tag k ds =>
  cases k with
  | zero => cases h
  | succ n =>
   have h : (if n % 2 = 1 then some (n / 2, ds) else none) = some p := h
   split at h
   ·cases h
    exact ⟨_, rfl⟩
   ·cases h
 | _ => cases h
theorem fn_okX {b : SX} (F : FunD K x qual params body scope dvs kws f fd) (S : FnScope N ps scope) (len : ∀ ds S r, con ds S = some r → ds.length = ps.length)
  (hb : ∀ (cdv : Value) (A : Around) (outer : List PySem.Env) (s : Shared) (H : Hp) (E : XK), RG k (A.deeper (envOfC qual scope s.heap.objs.size f cdv)) → Takes (cxOf (L2.CX P w) P w K mg base N qual scope f cdv A outer s H E) (fun cls d _ H => E cls d H) →
   PassesOwn (model P w) (A.deeper (envOfC qual scope s.heap.objs.size f cdv)) (envOfC qual scope s.heap.objs.size f cdv) (cxOf (L2.CX P w) P w K mg base N qual scope f cdv A outer s H E).xe →
   BJR (cxOf (L2.CX P w) P w K mg base N qual scope f cdv A outer s H E) (fun cls d _ H => E cls d H) body b)
  (real : ∀ ds S v S', WfS S → belowL S.length ds = true → con ds S = some (v, S') → ∃ o, b (sE N.length ds) S = some o ∧ Fin o v S' ∧ WfS S' ∧ S.length ≤ S'.length) : FnX P w K mg base (k + 1) f fd ps con := by
 obtain ⟨oc, od, dV, kV, doc, pm, an, cdv, ct, osl, rfl, lk, hcd, _, _⟩ := F.ex
 refine ⟨len, fun A out s H args us vs Q E hr e0 hbd rv hsp => ?_⟩
 have hlen : vs.length = ps.length := by
  obtain ⟨Z, m, ds, v, S', _, _, r, e, _⟩ := hsp
  rw [r.len]
  exact len _ _ _ e
 have hK : K.In s.heap := e0.mod.kin.keeps fun b o e => (e0.bs b o e).1
 have hkd : ∀ y ∈ ps.zip us, scope.names.lookup y.1 = some .local ∨ (scope.names.lookup y.1 = some .cell ∧ ((cellsFrom (s.heap.objs.size + 1) scope.names []).lookup y.1).isSome = true) := by
  rintro ⟨n, v⟩ hy
  rcases S.par n (List.of_mem_zip hy).1 with q | q
  ·exact .inl q
  ·exact .inr ⟨q, PySem.W.cellsFrom_some _ _ _ (.inl q)⟩
 refine codeAny_call_function hr.room.depth (hK _ _ lk) rfl S.co S.gen rfl (PySem.W.codeRec_of hK hcd) (hbd _ _ _ _ (wpAny_newFunctionEnv_cells S.kind hkd fun env he s1 ic => ?_))
 subst he
 refine ⟨(e0.mod.nolimit.keeps fun b o e => (e0.bs b o e).1).keeps ic.toInCall.keep, codeAny_func ?_⟩
 have I : Inv (cxOf (L2.CX P w) P w K mg base N qual scope f cdv A out s H E) [] (L2.start N vs) H s1 := inv_start S hr.room.hd e0 hlen rv ic
 have body' := hb cdv A out s H E ⟨hr.room.deeper _, hr.gd⟩ (takes_of rfl rfl rfl rfl) (passes_of (X := cxOf (L2.CX P w) P w K mg base N qual scope f cdv A out s H E) rfl)
 obtain ⟨Z, m, ds, v, S', e, si, r, ef, qx, q⟩ := hsp
 obtain ⟨o, ho, fi, wf, hle⟩ := real ds m.S v S' si.wf (RepL.below ds vs r) ef
 have want : tSR K (fun cls d _ H => E cls d H) b { nx := fun _ H' => Q .non H', rt := Q } (L2.start N vs) H := by
  refine ⟨Z, m, sE N.length ds, o, e, si, ER.start r, ho, ?_⟩
  cases o with
  | nx e2 S2 =>
   obtain ⟨⟨t, et⟩, rfl⟩ := fi
   intro m2 σ2 q2 t2 er2
   subst q2
   exact q (m2.cut S'.length) .non (by show m2.S.take S'.length = S'; rw [← et]; simp) (t2.cut et wf hle) rfl
  | rt d S2 =>
   obtain ⟨⟨t, et⟩, fz⟩ := fi
   refine ⟨fun p hp m2 xs dd q2 t2 r2 fl σ2 => ?_, fun m2 x2 q2 t2 r2 => ?_⟩
   ·subst q2
    obtain ⟨n, hn⟩ := rz_inv hp
    have hv : d = v ∧ below S'.length v = true := by
     rcases fz with z | ⟨_, _, z, _⟩ | ⟨_, _, _, z, _⟩
     ·exact z
     ·rw [hn] at z; cases z
     ·rw [hn] at z; cases z
    obtain ⟨rfl, hbl⟩ := hv
    exact qx p hp (m2.cut S'.length) xs dd (by show m2.S.take S'.length = S'; rw [← et]; simp) (t2.cut et wf hle) (RepL.cutz hn hbl r2) fl
   ·subst q2
    exact q (m2.cut S'.length) x2 (by show m2.S.take S'.length = S'; rw [← et]; simp) (t2.cut et wf hle) (Rep.fz t2.si r2 fz)
  | bk _ _ => exact fi.elim
  | ct _ _ => exact fi.elim
 refine wpAny_mono (body'.run [] s1 (L2.start N vs) H _ I want) (fun fl s' hs => ?_) fun e s' hs => hs
 cases fl with
 | ret u =>
  obtain ⟨v, σ', H', J, rv, q⟩ := hs
  exact ⟨v, H', J.os, J.bare, J.base, J.hok, rv, q⟩
 | next =>
  obtain ⟨σ', H', J, q⟩ := hs
  exact ⟨.non, H', J.os, J.bare, J.base, J.hok, rfl, q⟩
 | brk =>
  obtain ⟨_, _, _, q⟩ := hs
  exact q.elim
 | cont =>
  obtain ⟨_, _, _, q⟩ := hs
  exact q.elim
def conN (con : Con) : Con := fun ds S => (con ds S).bind fun p => if (rzOf p.1).isSome = true then none else some p
theorem conN_inv {con : Con} {ds : List D} {S : Sto} {p : D × Sto} (h : conN con ds S = some p) : con ds S = some p ∧ rzOf p.1 = none := by
 unfold conN at h
 obtain ⟨p1, h1, h2⟩ := Option.bind_eq_some_iff.mp h
 split at h2
 ·cases h2
 ·rename_i hz
  cases h2
  exact ⟨h1, by simpa using hz⟩
theorem FnX.toG (F : FnX P w K mg base k f fd ps con) : FnG P w K mg base k f fd ps (conN con) := by
 refine ⟨fun ds S r h => F.len ds S r (conN_inv h).1, fun A out s H args us vs Q E hr e0 hb r hs => ?_⟩
 obtain ⟨Z, m, ds, v, S', e, si, rp, ef, q⟩ := hs
 obtain ⟨ec, ez⟩ := conN_inv ef
 refine codeAny_mono (F.run A out s H args us vs Q (fun _ _ _ => False) hr e0 hb r ⟨Z, m, ds, v, S', e, si, rp, ec, (fun p hp => absurd (hp.symm.trans (show rzOf v = none from ez)) (by simp)), q⟩) fun rr s' hq => ?_
 cases rr with
 | error er =>
  obtain ⟨_, _, _, _, _, _, _, _, _, _, _, _, z⟩ := hq
  exact z.elim
 | ok fl => cases fl <;> exact hq
end
def tER (K : PySem.W.Frag) (W : WX) (f : EX) : TE := fun σ H Q => ∃ (Z : List Addr) (m : M) (env : En) (v : D) (S' : Sto), m.H = H ∧ Sim ⟨K, Z⟩ m ∧ ER ⟨K, Z⟩ m env σ ∧ f env m.S = some (v, S') ∧
 (∀ p, rzOf v = some p → RzP ⟨K, Z⟩ m S' p.1 p.2 fun cls dd H => W cls dd σ H) ∧ ∀ m' x, m'.S = S' → Tr ⟨K, Z⟩ m m' → Rep ⟨K, Z⟩ m' v x → Q x m'.H
abbrev EJR (X : Cx) (W : WX) (e : Expr) (f : EX) : Prop := PE X e (tER X.K W f)
structure CalX (P : Program) (w : World) (K : PySem.W.Frag) (mg : Str → Option Value) (base : Heap) (k : Nat) (x : Str) (ps : List Str) (con : Con) : Prop where
 ex : ∃ (f : Addr) (fd : FuncData), mg x = some (.ref f) ∧ PySem.W.keepIn K (.ref f) = true ∧ Binds K fd ps [] ∧ FnX P w K mg base k f fd ps con
structure CalXK (P : Program) (w : World) (K : PySem.W.Frag) (mg : Str → Option Value) (base : Heap) (k : Nat) (x : Str) (ps ks : List Str) (ix : List Nat) (con : Con) : Prop where
 ex : ∃ (f : Addr) (fd : FuncData), mg x = some (.ref f) ∧ PySem.W.keepIn K (.ref f) = true ∧ KBd K fd ps ks (perm ix) ∧ FnX P w K mg base k f fd ps con
section
variable {P : Program} {w : World} {K : PySem.W.Frag} {mg : Str → Option Value} {base : Heap} {k : Nat} {x qual : Str} {ps : List Str} {con : Con} {params : Arguments} {body : List Stmt} {scope : Scope} {f : Addr} {fd : FuncData}
theorem CalX.of (F : FunD K x qual params body scope [] [] f fd) (hm : mg x = some (.ref f)) (G : FnX P w K mg base k f fd ps con)
  (h : ∀ (kV doc pm : Value) (an : Option Addr) (cdv ct : Value) (us : List Value), us.length = ps.length → bindArgs (PySem.W.fnOf x qual params body scope .none kV doc pm an cdv ct) ⟨us, []⟩ = pure (ps.zip us)) : CalX P w K mg base k x ps con :=
 ⟨f, fd, hm, F.kp, F.bindsN h, G⟩
theorem CalX.toCal (C : CalX P w K mg base k x ps con) : Cal P w K mg base k x ps (conN con) := by
 obtain ⟨f, fd, hm, hk, hb, F⟩ := C.ex
 exact ⟨f, fd, hm, hk, hb, F.toG⟩
theorem CalXK.toCal {ks : List Str} {ix : List Nat} (C : CalXK P w K mg base k x ps ks ix con) : CalK P w K mg base k x ps ks ix (conN con) := by
 obtain ⟨f, fd, hm, hk, hb, F⟩ := C.ex
 exact ⟨f, fd, hm, hk, hb, F.toG⟩
end
section
variable {X : Cx} {W : WX} {a : Expr} {es : List Expr} {ga gk : AX} {pos p : Pos} {k : Nat} {ps : List Str} {con : Con} {x : Str}
theorem run_conX {f : Addr} {fd : FuncData} {pins : List (Addr × Obj)} {σ : L2.St} {H : Hp} {s : Shared} {Q : VK} {us : List Value} {vs : List V} {args : Args} (F : FnX X.prog X.w X.K X.mg X.base k f fd ps con) (hr : RG k X.A) (tk : Takes X W)
  (I : Inv X pins σ H s) (r : Vals vs us) (hb : BindsTo s fd args (ps.zip us)) (h : spX X.K con vs H Q fun cls d H => W cls d σ H) : codeAny (model X.prog X.w) X.A (.call (.ref f) args) (fun r s' => match r with
   | .ok (.ret u) => EP X pins σ Q u s'
   | .ok _ => False
   | .error e => X.xe e s') s := by
 refine codeAny_mono (F.run X.A X.stack s H args us vs Q _ hr I.env0 hb r h) fun r s' hq => ?_
 cases r with
 | error e => exact tk e s' (XE.of_call I (fun _ _ _ h => h) hq)
 | ok fl =>
  cases fl with
  | ret u => exact I.after hq
  | next => exact False.elim hq
  | brk => exact False.elim hq
  | cont => exact False.elim hq
theorem ejr_call (C : CalX X.prog X.w X.K X.mg X.base k x ps con) (hr : RG k X.A) (tk : Takes X W) (hg : Gl X x)
  (ha : AJ X (a :: es) ga) (hdb : (x == ("__debug__" : Str)) = false := by decide) (he : starEach (a :: es) X.env = (false, eval a X.env) :: starEach es X.env := by rfl) (hpl : (backTo pos (starEach es X.env)).any (·.1) = false := by rfl) :
  EJR X W (.Call (.Name x p) (a :: es) [] pos) (eCall con ga) := ⟨fun pins s σ H Q I ⟨Z, m, env, v, S', e, si, er, hf, qx, q⟩ => by
 obtain ⟨f, fd, hm, hk, hb, F⟩ := C.ex
 obtain ⟨⟨y, S1⟩, h1, h2⟩ := Option.bind_eq_some_iff.mp hf
 have hA : tA X.K ga σ H (fun vs H1 => spX X.K con vs H1 Q fun cls d H => W cls d σ H) := ⟨Z, m, env, y, S1, e, si, er, h1, fun m1 vx e1 t1 rx => ⟨Z, m1, y, v, S', rfl, t1.si, rx, by rw [e1]; exact h2, fun p hp => (qx p hp).tr si t1, fun m2 w e2 t2 rw => q m2 w e2 (t1.trans si t2) rw⟩⟩
 refine wpAny_Call_Name_kw (ld_glob I hg hm ?_ hdb)
 refine PySem.W.callWith_K (h₀ := X.base) I.ok.mod.kin hk (thn (ha.run pos pins s σ H _ I hA) fun us s1 ⟨vs, H1, I1, r, q1⟩ => ⟨I1.kIn, ?_⟩) he hpl
 have hl : (us ++ []).length = ps.length := by
  rw [List.append_nil, ← r.length]
  obtain ⟨_, _, ds, v, _, _, _, r2, e2, _⟩ := q1
  rw [r2.len]
  exact F.len _ _ _ e2
 refine wpAny_call (codeAny_mono (run_conX F hr tk I1 r (by simpa using hb s1 us I1.kIn hl) q1) fun r s' hq => ?_)
 cases r with
 | error e => exact hq
 | ok fl => cases fl <;> exact hq⟩
end
def gIsO (tbl : List (Nat × Bool)) : F1 := fun _ d => match d with
 | .tag (n + 1) _ => if n % 2 = 0 then (tbl.lookup (n / 2)).map .bl else none
 | _ => none
def gFld (f : Str) (ks : List Nat) : F1 := fun _ d => match d with
 | .tag (n + 1) [.str g, v] => if n % 2 = 0 ∧ g = f ∧ n / 2 ∈ ks then some v else none
 | _ => none
section
variable {X : Cx} {a : Expr} {f : EX} {t : Str} {p p2 pos : Pos}
theorem lookup_mem {tbl : List (Nat × Bool)} {i : Nat} {b : Bool} (h : tbl.lookup i = some b) : (i, b) ∈ tbl := by
 induction tbl with
 | nil => cases h
 | cons q l ih =>
  obtain ⟨j, c⟩ := q
  unfold List.lookup at h
  split at h
  ·rename_i e
   cases h
   rw [beq_iff_eq.mp e]
   exact List.mem_cons_self ..
  ·exact List.mem_cons_of_mem _ (ih h)
theorem isO_row {tbl : List (Nat × Bool)} {cv : Value} {c : V} {K : PySem.W.Frag} {σ : L2.St} {H : Hp} {Q : VK} (hcv : ∀ u, RelV c u → u = cv) (ht : ∀ q, q ∈ tbl → PySem.W.kitOne K (.ref (xA K q.1)) cv = some q.2) (h : tE K (e1 (gIsO tbl) f) σ H Q) :
  tE K f σ H fun x H1 => rIsA K [x, c] H1 Q := by
 obtain ⟨Z, m, env, v, S', e, s, er, hf, q⟩ := h
 obtain ⟨x, h1, h2⟩ := e1_inv hf
 refine ⟨Z, m, env, x, S', e, s, er, h1, fun m1 vx e1 t1 rx => .inr ?_⟩
 cases x with
 | tag k ds =>
  cases k with
  | zero => cases h2
  | succ n =>
   have h2 : (if n % 2 = 0 then (tbl.lookup (n / 2)).map D.bl else none) = some v := h2
   split at h2
   ·obtain ⟨b, hb, rfl⟩ := Option.map_eq_some_iff.mp h2
    have ek := ht _ (lookup_mem hb)
    obtain ⟨a0, us, rfl, ⟨h0, hk, hx⟩, _⟩ := rx
    rcases hx with ⟨dd, g, w, _, g1, g2⟩ | ⟨_, g1⟩
    ·exact .inl ⟨a0, xA K (n / 2), dd, _, c, cv, b, rfl, g1, g2, hk.c, hcv, ek, q m1 _ e1 t1 rfl⟩
    ·exact .inr ⟨a0, xA K (n / 2), c, cv, b, rfl, g1, hk.c, hcv, ek, q m1 _ e1 t1 rfl⟩
   ·cases h2
 | _ => cases h2
theorem ej_isO {R : Addr} (tbl : List (Nat × Bool)) (hg : Gl X "isinstance") (hm : X.mg "isinstance" = none) (hgt : Gl X t) (hmt : X.mg t = some (.ref R)) (ht : ∀ q, q ∈ tbl → PySem.W.kitOne X.K (.ref (xA X.K q.1)) (.ref R) = some q.2) (ha : EJ X a f)
  (hdt : (t == ("__debug__" : Str)) = false := by decide)
  (hs : starEach [a, .Name t p2] X.env = (false, eval a X.env) :: starEach [.Name t p2] X.env := by rfl) (hpl : (backTo pos (starEach [.Name t p2] X.env)).any (·.1) = false := by rfl)
  (hs2 : starEach [.Name t p2] X.env = (false, eval (.Name t p2) X.env) :: starEach [] X.env := by rfl) :
  EJ X (.Call (.Name "isinstance" p) [a, .Name t p2] [] pos) (e1 (gIsO tbl) f) :=
 pe_wk (pe_callB call_isA hg hm (by decide +kernel) (pa_cons ha (pa_cons (pe_glob (v := .ref R) hgt hmt rfl hdt) pa_nil hs2) hs) (by decide) (by decide) hs hpl) fun σ H Q h => isO_row (fun u z => z) ht h
theorem ej_isOB {T : String} (tbl : List (Nat × Bool)) (hg : Gl X "isinstance") (hm : X.mg "isinstance" = none) (hgt : Gl X t) (hmt : X.mg t = none) (hvt : bootBuiltins t = some (.type T)) (ht : ∀ q, q ∈ tbl → PySem.W.kitOne X.K (.ref (xA X.K q.1)) (.type T) = some q.2) (ha : EJ X a f)
  (hnt : t ≠ "__name__" := by decide) (hdt : (t == ("__debug__" : Str)) = false := by decide)
  (hs : starEach [a, .Name t p2] X.env = (false, eval a X.env) :: starEach [.Name t p2] X.env := by rfl) (hpl : (backTo pos (starEach [.Name t p2] X.env)).any (·.1) = false := by rfl)
  (hs2 : starEach [.Name t p2] X.env = (false, eval (.Name t p2) X.env) :: starEach [] X.env := by rfl) :
  EJ X (.Call (.Name "isinstance" p) [a, .Name t p2] [] pos) (e1 (gIsO tbl) f) :=
 pe_wk (pe_callB call_isA hg hm (by decide +kernel) (pa_cons ha (pa_cons (pe_bltn (v := .ty T) hgt hmt hvt rfl hnt hdt) pa_nil hs2) hs) (by decide) (by decide) hs hpl) fun σ H Q h => isO_row (fun u z => z) ht h
theorem ej_fld {n : Str} (ks : List Nat) (hks : ∀ c, c ∈ ks → XfC X.K (xA X.K c) ∧ PySem.W.findIn X.K (.ref (xA X.K c)) n = some none) (ha : EJ X a f) (hb : attributeBase a n X.env (eval a X.env) = eval a X.env := by rfl) : EJ X (.Attribute a n pos) (e1 (gFld n ks) f) :=
 pe_wk (pe_xk ha hb) fun σ H Q ⟨Z, m, env, v, S', e, s, er, hf, q⟩ => by
 obtain ⟨x, h1, h2⟩ := e1_inv hf
 refine ⟨Z, m, env, x, S', e, s, er, h1, fun m1 vx e1 t1 rx => ?_⟩
 obtain ⟨k, g, w, rfl, hc⟩ : ∃ k g w, x = .tag (k + 1) [.str g, w] ∧ (if k % 2 = 0 ∧ g = n ∧ k / 2 ∈ ks then some w else none) = some v := by
  unfold gFld at h2
  split at h2
  ·exact ⟨_, _, _, rfl, h2⟩
  ·cases h2
 split at hc
 ·rename_i hh
  cases hc
  obtain ⟨_, rfl, hin⟩ := hh
  obtain ⟨a0, us, rfl, ⟨h0, hk, hx⟩, rr⟩ := rx
  obtain ⟨u1, r1, rfl, e3, u2, r2, rfl, e4, e5⟩ := rr
  rcases hx with ⟨dd, g2, w2, e6, g1, g3⟩ | ⟨e6, _⟩
  ·obtain ⟨rfl, rfl⟩ : u1 = .str g2 ∧ u2 = w2 := by
    have z := List.cons.inj e6
    exact ⟨z.1, (List.cons.inj z.2).1⟩
   have eg : g = g2 := by
    have z : V.str g2 = V.str g := e3
    cases z
    rfl
   subst eg
   exact ⟨a0, xA X.K (k / 2), dd, [(g, u2)], u2, rfl, g1, g3, (hks _ hin).1, (hks _ hin).2, by simp [List.lookup], q m1 u2 e1 t1 e4⟩
  ·cases e6
 ·cases hc
end
def sTryK (ks : List Nat) (i j : Nat) (f : EX) : SX := fun e S => (f e S).bind fun p => match rzOf p.1 with
 | some (c, ds) => if c ∈ ks ∧ i < e.length then some (.nx ((e.set j (some (.tag (2 * c + 1) ds))).set i none) p.2) else none
 | none => some (.nx e p.2)
theorem hx_rep {K : PySem.W.Frag} {Z : List Addr} {m : M} {c : Nat} {ds : List D} {xs : List V} {dd : Option Addr} {a : Addr} (hp : ExcP K (xA K c)) (s : Sim ⟨K, Z⟩ m) (r : RepL ⟨K, Z⟩ m ds xs) (fl : Fld m dd xs) (ha : m.H a = none) :
  Rep ⟨K, Z⟩ ⟨m.r, m.S, upd m.H a (exK a (.ref (xA K c)) dd)⟩ (.tag (2 * c + 1) ds) (.ref a) := by
 have t : Tr ⟨K, Z⟩ m ⟨m.r, m.S, upd m.H a (exK a (.ref (xA K c)) dd)⟩ := Tr.laid s ha
 have e2 : 2 * c / 2 = c := by omega
 refine ⟨a, xs, rfl, ⟨by omega, by rw [e2]; exact hp, ?_⟩, t.repL s r⟩
 rcases fl with ⟨d, f, v, rfl, rfl, hd⟩ | ⟨rfl, rfl⟩
 ·refine .inl ⟨d, f, v, rfl, ?_, ?_⟩
  ·rw [e2]; exact upd_same
  ·show upd m.H a _ d = _
   rw [upd_ne (ne_of_none hd ha)]
   exact hd
 ·refine .inr ⟨rfl, ?_⟩
  rw [e2]; exact upd_same
theorem try_step {K : PySem.W.Frag} {Z : List Addr} {m m' : M} {env : En} {σ : L2.St} {i j c : Nat} {ds : List D} {xs : List V} {dd : Option Addr} {S' : Sto} {D : Ends} (hp : ExcP K (xA K c)) (s : Sim ⟨K, Z⟩ m) (er : ER ⟨K, Z⟩ m env σ) (hij : i ≠ j) (hi : i < env.length)
  (q : Post ⟨K, Z⟩ m D (.nx ((env.set j (some (.tag (2 * c + 1) ds))).set i none) S')) (e' : m'.S = S') (t' : Tr ⟨K, Z⟩ m m') (r : RepL ⟨K, Z⟩ m' ds xs) (fl : Fld m' dd xs) {a : Addr} (ha : m'.H a = none) :
  ∃ v, (σ.set i (some (.ref a)))[i]? = some (some v) ∧ D.nx (((σ.set i (some (.ref a))).set j (some v)).set i none) (upd m'.H a (exK a (.ref (xA K c)) dd)) := by
 refine ⟨.ref a, List.getElem?_set_self (by rw [← er.1]; exact hi), ?_⟩
 have t2 : Tr ⟨K, Z⟩ m' ⟨m'.r, m'.S, upd m'.H a (exK a (.ref (xA K c)) dd)⟩ := Tr.laid t'.si ha
 have er2 := ((er.tr s t').tr t'.si t2).set (hx_rep hp t'.si r fl ha) j
 have e1 : ((σ.set i (some (.ref a))).set j (some (.ref a))).set i none = (σ.set j (some (.ref a))).set i none := by
  rw [List.set_comm _ _ hij, List.set_set]
 rw [e1]
 exact q ⟨m'.r, m'.S, upd m'.H a (exK a (.ref (xA K c)) dd)⟩ _ e' (t'.trans s t2) (er2.setN i)
section
variable {X : Cx} {e : Expr} {f : EX} {x1 x2 x3 n y : Str} {c1 c2 c3 : Value} {i j : Nat} {q1 q2 q3 np pos pos' pe p1 p2 p3 : Pos}
end
end Pv
namespace LamX
open PySem PySem.Spec PyProof.Rows L2
section
variable {X : Cx} {pins : List (Addr × Obj)} {σ : L2.St} {H HZ : Hp} {s s1 : Shared}
theorem lam_make3 {T : List (Addr × Str)} {c P : Addr} {params : Arguments} {body : Expr} {scope : Scope} {pos : Pos} {E : Value → Shared → Prop} {Q : Value → Shared → Prop} (I : Inv X pins σ H s) (TB : TabB X.base X.mg c P) (hcode : X.env.code = .ref c)
  (hm : (P, X.env.qual ++ "<lambda>") ∈ T) (hu : ∀ p ∈ T, p.1 = P → p.2 = X.env.qual ++ "<lambda>") (hT : Tabs T H) (hdef : defaultsOf params X.env = ([], [])) (hfree : ∀ y ∈ scope.names, y.2 = .free → ∃ c, X.env.cells.lookup y.1 = some c)
  (h : ∀ (f c' : Addr) (pm ctv : Value) (H1 : Hp) (s' : Shared), Inv X pins σ H1 s' → ExtN H H1 → (∀ b o, H b = some o → ∃ o', H1 b = some o') → Tabs T H1 →
   s'.heap.get? f = some (PySem.W.kla_obj "<lambda>" (X.env.qual ++ "<lambda>") params body scope (cloFrom X.env.cells scope.names []) pm c' ctv) → H1 f = none → f ∉ frs X.stack → H1 c' = some (CodeO c' (X.env.qual ++ "<lambda>")) → Q (.ref f) s') :
  wpAny (model X.prog X.w) X.A (eval (.Lambda params body scope pos) X.env) Q E s := by
 obtain ⟨ps, hP, ht, ha⟩ := hT _ hm
 refine PySem.W.kla_eval hdef ?_
 have bP : s.heap.BuiltinsAt X.mg P := TB.bm.keeps I.bk
 have hP' : s.heap.get? P = some { cls := .none, data := .fields ps } := I.hok P _ hP
 have nofr : ∀ f, s.heap.objs.size ≤ f → f ∉ frs X.stack := fun f hf z => by
  rcases List.mem_cons.mp (I.stkSub _ z) with e | e
  ·have h1 := I.lt
   rw [← e] at h1
   exact Nat.lt_irrefl _ (Nat.lt_of_lt_of_le h1 hf)
  ·exact I.nofs hf e
 cases hc : codeAmong pos ps.toList with
 | none =>
  refine PySem.W.kla_makeFunction (mg := X.mg) (c := c) (P := P) (ps := ps) (closure_ok hfree) I.ok.glob (I.mod.glob.keeps I.bk) hcode (TB.code.keeps I.bk) hP' ht hc TB.gP bP fun c' ctv h' tk hx hge hlt hrec htb => ?_
  obtain ⟨c2, oc, vs, t, e2, hoc, hd, hv⟩ := hrec
  cases e2
  have hsz : s.heap.objs.size ≤ h'.objs.size := Nat.le_trans hge (Nat.le_of_lt hlt)
  have nC : H c' = none := I.hok.fresh hge
  have I1 := inv_table (t' := tk) (more := #[rawInt pos.line, rawInt pos.col, .ref c']) (h' := h'.push (PySem.W.kla_obj "<lambda>" (X.env.qual ++ "<lambda>") params body scope (cloFrom X.env.cells scope.names []) ((X.mg "__name__").getD .none) c' ctv)) I hP
   (fun b o hb e => Heap.get?_push_of_some _ (hx b o hb e)) (Heap.get?_push_of_some _ htb) hge ⟨oc, vs, t, Heap.get?_push_of_some _ hoc, hd, hv⟩
  have hE : ExtN H (upd (upd H P (.tbl (ps ++ #[rawInt pos.line, rawInt pos.col, .ref c']))) c' (CodeO c' (X.env.qual ++ "<lambda>"))) := fun b o e n => by
   rw [upd_ne (ne_of_none e nC), upd_ne (fun z => n ps (Option.some.inj (e.symm.trans (by rw [z]; exact hP))))]
   exact e
  have eL : (ps ++ #[rawInt pos.line, rawInt pos.col, .ref c']).toList = ps.toList ++ [rawInt pos.line, rawInt pos.col, .ref c'] := by simp
  refine h h'.objs.size c' ((X.mg "__name__").getD .none) ctv _ _ I1 hE (fun b o e => by
   by_cases hb : b = c'
   ·exact ⟨_, by rw [hb]; exact upd_same⟩
   ·by_cases hb2 : b = P
    ·exact ⟨_, by rw [upd_ne hb, hb2]; exact upd_same⟩
    ·exact ⟨o, by rw [upd_ne hb, upd_ne hb2]; exact e⟩) (fun p hp => ?_) (Heap.get?_push_size _ rfl) ?_ (nofr _ hsz) upd_same
  ·by_cases hb : p.1 = P
   ·rw [hu p hp hb, hb]
    refine ⟨_, by rw [upd_ne (ne_of_none hP nC), upd_same], by rw [eL]; exact PySem.TriplesOk_snoc _ _ _ _ ht, fun p' cv hcv => ?_⟩
    rw [eL] at hcv
    rcases among_app _ ht hcv with z | z
    ·obtain ⟨c0, e1, e2⟩ := ha p' cv z
     exact ⟨c0, e1, hE _ _ e2 codeO_ne⟩
    ·exact ⟨c', z, upd_same⟩
   ·obtain ⟨ps', a1, a2, a3⟩ := hT p hp
    refine ⟨ps', by rw [upd_ne (ne_of_none a1 nC), upd_ne hb]; exact a1, a2, fun p' cv hcv => ?_⟩
    obtain ⟨c0, e1, e2⟩ := a3 p' cv hcv
    exact ⟨c0, e1, hE _ _ e2 codeO_ne⟩
  ·have n1 : h'.objs.size ≠ c' := Nat.ne_of_gt hlt
   have n2 : h'.objs.size ≠ P := Nat.ne_of_gt (Nat.lt_of_lt_of_le (Heap.lt_size hP') hsz)
   rw [upd_ne n1, upd_ne n2]
   exact I.hok.fresh hsz
 | some cv =>
  obtain ⟨c', e, hco⟩ := ha pos cv hc
  subst e
  refine PySem.W.kla_makeFunctionHit (mg := X.mg) (c := c) (P := P) (ps := ps) (closure_ok hfree) I.ok.glob (I.mod.glob.keeps I.bk) hcode (TB.code.keeps I.bk) hP' ht hc bP fun ctv h' tk hx hsz => ?_
  have I1 : Inv X pins σ H { s with heap := h'.push (PySem.W.kla_obj "<lambda>" (X.env.qual ++ "<lambda>") params body scope (cloFrom X.env.cells scope.names []) ((X.mg "__name__").getD .none) c' ctv), toks := tk } := I.kept fun b o e => Heap.get?_push_of_some _ (hx b o e)
  exact h h'.objs.size c' ((X.mg "__name__").getD .none) ctv H _ I1 (ExtN.refl H) (fun b o e => ⟨o, e⟩) hT (Heap.get?_push_size _ rfl) (I.hok.fresh hsz) (nofr _ hsz) hco
theorem pe_actR {CXg : CXT} {Eg : XK} {Ng : List Str} {qg : Str} {sg : Scope} {g f c' : Addr} {cdg pm ctv : Value} {params : Arguments} {body : Expr} {scope : Scope} {k i : Nat} {a : Str} {pn : List (Addr × Obj)} {xe : Value → Shared → Prop} {W : WX} {tb : XK → TE} {p1 p2 : Pos}
  (I : Inv X pins σ H s) (L : LamS X.env.scope scope) (hf : s.heap.get? f = some (PySem.W.kla_obj "<lambda>" (X.env.qual ++ "<lambda>") params body scope (cloFrom X.env.cells scope.names []) pm c' ctv)) (hfn : H f = none) (hfr : f ∉ frs X.stack)
  (hbind : bindArgs (PySem.W.kla_fn "<lambda>" (X.env.qual ++ "<lambda>") params body scope (cloFrom X.env.cells scope.names []) pm (.ref c') ctv) ⟨[], []⟩ = pure [])
  (tk : Takes ((cxOf CXg X.prog X.w X.K X.mg X.base Ng qg sg g cdg X.A X.stack s H Eg).tr pn xe) W) (hr : Room (k + 1) (X.A.deeper (envOfC qg sg s.heap.objs.size g cdg))) (hgd : X.A.guards = some [])
  (hbody : ∀ (A : Around) (outer : List Env) (s : Shared) (H : Hp) (E : XK), Pv.RG k (A.deeper (lamEnv X scope s.heap.objs.size f c')) → PE (lamCx X A outer s H E scope f c') body (tb E))
  (hN : Ng[i]? = some a) (hv : Vis sg a) (hd : (a == ("__debug__" : Str)) = false := by decide) (hcd : (a == ("__classdict__" : Str)) = false := by decide) :
  PE ((cxOf CXg X.prog X.w X.K X.mg X.base Ng qg sg g cdg X.A X.stack s H Eg).tr pn xe) (.Call (.Name a p1) [] [] p2)
   (fun σZ HZ Q => σZ[i]? = some (some (.ref f)) ∧ HZ c' = some (CodeO c' (X.env.qual ++ "<lambda>")) ∧ tb (fun cls d H' => W cls d σZ H') σ HZ Q) := by
 refine ⟨fun pinsZ sZ σZ HZ Q IZ h => ?_⟩
 obtain ⟨hs, hc, ht⟩ := h
 refine wpAny_Call_Name_kw (thn ((pe_var (pos := p1) (i := i) hN hv hd hcd).run pinsZ sZ σZ HZ (fun v H1 => v = .ref f ∧ H1 = HZ) IZ ⟨.ref f, hs, rfl, rfl⟩) fun u s1 ⟨v, H1, I1, r1, q1⟩ => ?_)
 obtain ⟨ev, eH⟩ := q1
 subst ev
 rw [eH] at I1
 obtain rfl : u = Value.ref f := r1
 have of1 : s1.heap.get? f = some (PySem.W.kla_obj "<lambda>" (X.env.qual ++ "<lambda>") params body scope (cloFrom X.env.cells scope.names []) pm c' ctv) := I1.base.keep f _ hf hfn hfr (fun z => nomatch (show f ∈ ([] : List Addr) from z))
 refine PySem.W.callWith_F0 ⟨_, _, _, _, of1⟩ ?_
 have un : Un (frs X.stack) [] H HZ s.heap s1.heap := I1.base
 obtain ⟨⟨oc, vs, t, hoc, hdc, hvc⟩, _, _⟩ := I1.hok c' _ hc
 have rc : codeAny (model X.prog X.w) (X.A.deeper (envOfC qg sg s.heap.objs.size g cdg)) (.call (.ref f) ⟨[], []⟩) (CR (L2.CX X.prog X.w) (envOfC qg sg s.heap.objs.size g cdg :: X.stack) X.prog X.w HZ s1 Q (fun cls d H' => W cls d σZ H')) s1 := by
  refine PySem.W.kla_callFunE hr.depth of1 rfl L.co L.gen rfl ⟨c', oc, vs, t, rfl, hoc, hdc, hvc⟩ ?_
  rw [hbind]
  refine wpAny_pure (wpAny_newFunctionEnv (fun y hy => (L.own y hy).2) (fun y hy => absurd hy (by simp)) (fun h₁ hns hsb => ⟨I1.nolimit.fresh _ hsb, ?_⟩) L.kind)
  show codeAny _ _ (.expr body (lamEnv X scope s1.heap.objs.size f c')) _ _
  have kp : ∀ b o, s1.heap.get? b = some o → h₁.get? b = some o := fun b o e => hsb.extBut b o (Nat.ne_of_lt (Heap.lt_size e)) (Heap.get?_push_of_some _ e)
  have J : Inv (lamCx X (X.A.deeper (envOfC qg sg s.heap.objs.size g cdg)) (envOfC qg sg s.heap.objs.size g cdg :: X.stack) s1 HZ (fun cls d H' => W cls d σZ H') scope f c') [] σ HZ { s1 with heap := h₁, toks := s1.toks + ([] : List (Str × Value)).length } :=
   lam_start2 I L I1.env0 hr.hd un hns kp
  refine PySem.W.kla_codeExpr (wpAny_mono ((hbody _ _ s1 HZ _ ⟨hr.deeper _, hgd⟩).run [] _ _ HZ Q J ht) (fun v s' hq => ?_) fun e s' hq => hq)
  obtain ⟨w', H', J', rv, q⟩ := hq
  exact ⟨w', H', J'.os, J'.bare, J'.base, J'.hok, rv, q⟩
 refine wpAny_call (codeAny_mono rc fun r s' hq => ?_)
 cases r with
 | error e => exact tk e s' (XE.of_call I1 (fun _ _ _ h => h) hq)
 | ok fl =>
  cases fl with
  | ret u => exact I1.after hq
  | next => exact False.elim hq
  | brk => exact False.elim hq
  | cont => exact False.elim hq
end
end LamX
namespace Pv
open PySem PySem.Spec PyProof.Rows L2
def bLam (ks : List Nat) (i j : Nat) (b : SX) (r : Sto → Option (D × Sto)) : SX := fun e S => sSeq (sAsg (eC .non) (gN j)) (sSeq (sTryK ks i j fun _ S => r S) b) (e.set 0 none) S
noncomputable def cLam (n N keep : Nat) (ks : List Nat) (i j : Nat) (b : SX) (r : Sto → Option (D × Sto)) : Con := fun ds S => den n N keep (bLam ks i j b r) (.non :: ds) S
def eLam (c : (Sto → Option (D × Sto)) → Con) (fb : EX) (gs : AX) : EX := fun e S => (gs e S).bind fun p => c (fun S => fb e S) p.1 p.2
theorem ER.hideAt {c : C} {m : M} {env : En} {σ : L2.St} (h : ER c m env σ) (i : Nat) (w : Option V) : ER c m (env.set i none) (σ.set i w) := by
 refine ⟨by rw [List.length_set, List.length_set]; exact h.1, fun j d q => ?_⟩
 by_cases hj : i = j
 ·subst hj
  by_cases hl : i < env.length
  ·rw [List.getElem?_set_self hl] at q; cases q
  ·rw [List.getElem?_eq_none (by rw [List.length_set]; omega)] at q; cases q
 ·rw [List.getElem?_set_ne hj] at q
  obtain ⟨x, h1, h2⟩ := h.2 j d q
  exact ⟨x, by rw [List.getElem?_set_ne hj]; exact h1, h2⟩
theorem fin_post {K : PySem.W.Frag} {Z : List Addr} {m : M} {o : Out} {v : D} {S' : Sto} {Q : VK} (fi : Fin o v S') (wf : WfS S') (hle : m.S.length ≤ S'.length) (q : ∀ m' x, m'.S = S' → Tr ⟨K, Z⟩ m m' → Rep ⟨K, Z⟩ m' v x → Q x m'.H) :
  Post ⟨K, Z⟩ m { nx := fun _ H' => Q .non H', rt := Q } o := by
 cases o with
 | nx e2 S2 =>
  obtain ⟨⟨t, et⟩, rfl⟩ := fi
  intro m2 σ2 q2 t2 er2
  subst q2
  exact q (m2.cut S'.length) .non (by show m2.S.take S'.length = S'; rw [← et]; simp) (t2.cut et wf hle) rfl
 | rt d S2 =>
  obtain ⟨⟨t, et⟩, fz⟩ := fi
  intro m2 x2 q2 t2 r2
  subst q2
  exact q (m2.cut S'.length) x2 (by show m2.S.take S'.length = S'; rw [← et]; simp) (t2.cut et wf hle) (Rep.fz t2.si r2 fz)
 | bk _ _ => exact fi.elim
 | ct _ _ => exact fi.elim
section
variable {X : Cx}
theorem ej_lam {x a y n x1 x2 x3 : Str} {g c P : Addr} {k i j nn keep : Nat} {pg : Arguments} {rest : List Stmt} {sg : Scope} {fd : FuncData} {Ng ps : List Str} {c1 c2 c3 : Value} {xc jc : Nat} {py pc pas p1 p2 pe q1 q2 q3 np p3 p4 p5 pos' ptry : Pos}
  {params : Arguments} {body : Expr} {scope : Scope} {fb : EX} {es : List Expr} {gs : AX} {b : SX} {p lpos pos : Pos} (hg : Gl X x) (hm : X.mg x = some (.ref g))
  (F : FunD X.K x x pg (.Assign [.Name y py] (.Constant .none jc pc) pas :: .Try [.Expr (.Call (.Name a p1) [] [] p2) pe] [.ExceptHandler (some (.Tuple [.Name x1 q1, .Name x2 q2, .Name x3 q3] xc np)) (some n) [.Assign [.Name y p3] (.Name n p4) p5] pos'] [] [] ptry :: rest) sg [] [] g fd)
  (hb : L2.Binds X.K fd (a :: ps) []) (Sg : FnScope Ng (a :: ps) sg) (hNg : Ng[0]? = some a) (hi : Ng[i]? = some n) (hj : Ng[j]? = some y) (hj0 : j ≠ 0) (hij : i ≠ j) (hva : sg.names.lookup a = some .local) (hln : sg.names.lookup n = some .local) (hly : sg.names.lookup y = some .local)
  (hc1 : sg.names.lookup x1 = some .globalImplicit) (hc2 : sg.names.lookup x2 = some .globalImplicit) (hc3 : sg.names.lookup x3 = some .globalImplicit) (m1 : X.mg x1 = some c1) (m2' : X.mg x2 = some c2) (m3 : X.mg x3 = some c3)
  (ks : List Nat) (hk : ∀ c, c ∈ ks → PySem.W.exmAny X.K (.ref (xA X.K c)) [c1, c2, c3] = some true ∧ ExcP X.K (xA X.K c))
  (hrest : ∀ (cdv : Value) (A : Around) (outer : List PySem.Env) (s : Shared) (H : Hp), RG (k + 1) (A.deeper (envOfC x sg s.heap.objs.size g cdv)) → BJ (cxOf CX0 X.prog X.w X.K X.mg X.base Ng x sg g cdv A outer s H E0).nox rest b)
  (hlen : nn = (a :: ps).length) (hNN : Ng.length = Ng.length)
  (TB : LamX.TabB X.base X.mg c P) (hcode : X.env.code = .ref c) (hmT : (P, X.env.qual ++ "<lambda>") ∈ TBL X.K) (hu : ∀ p ∈ TBL X.K, p.1 = P → p.2 = X.env.qual ++ "<lambda>") (hr : RG (k + 2) X.A) (L : LamX.LamS X.env.scope scope) (hdef : defaultsOf params X.env = ([], []))
  (hbind : ∀ (q : Str) (cl : List (Str × Addr)) (pm cv ctv : Value), bindArgs (PySem.W.kla_fn "<lambda>" q params body scope cl pm cv ctv) ⟨[], []⟩ = pure [])
  (hbody : ∀ (A : Around) (outer : List PySem.Env) (s : Shared) (H : Hp) (E : XK) (f c' : Addr), RG k (A.deeper (LamX.lamEnv X scope s.heap.objs.size f c')) → Takes (LamX.lamCx X A outer s H E scope f c') (fun cls d _ H => E cls d H) → EJR (LamX.lamCx X A outer s H E scope f c') (fun cls d _ H => E cls d H) body fb)
  (ha : AJ X es gs)
  (hst : ∀ env : PySem.Env, backTo np (starEach [.Name x1 q1, .Name x2 q2, .Name x3 q3] env) = backTo np [(false, eval (.Name x1 q1) env), (false, eval (.Name x2 q2) env), (false, eval (.Name x3 q3) env)])
  (hs0 : ∀ env : PySem.Env, swapsWith (.Constant .none jc pc) (some (.Name y py)) pas.line env = pure false) (hs1 : ∀ env : PySem.Env, swapsWith (.Call (.Name a p1) [] [] p2) none pe.line env = pure false) (hs2 : ∀ env : PySem.Env, swapsWith (.Name n p4) (some (.Name y p3)) p5.line env = pure false)
  (he : starEach (.Lambda params body scope lpos :: es) X.env = (false, eval (.Lambda params body scope lpos) X.env) :: starEach es X.env := by rfl) (hpl : (backTo pos (starEach es X.env)).any (·.1) = false := by rfl)
  (hdb : (x == ("__debug__" : Str)) = false := by decide) (hda : (a == ("__debug__" : Str)) = false := by decide) (hca : (a == ("__classdict__" : Str)) = false := by decide) (hdn : (n == ("__debug__" : Str)) = false := by decide) (hcn : (n == ("__classdict__" : Str)) = false := by decide)
  (hd1 : (x1 == ("__debug__" : Str)) = false := by decide) (hd2 : (x2 == ("__debug__" : Str)) = false := by decide) (hd3 : (x3 == ("__debug__" : Str)) = false := by decide) :
  EJ X (.Call (.Name x p) (.Lambda params body scope lpos :: es) [] pos) (eLam (cLam nn Ng.length keep ks i j b) fb gs) := ⟨fun pins s σ H Q I ⟨Z, m, env, v, S', em, si, er, hf, q⟩ => by
 obtain ⟨⟨y1, S1⟩, h1, h2⟩ := Option.bind_eq_some_iff.mp hf
 subst em
 obtain ⟨oc, od, dV, kV, doc, pm, an, cdv, ct, osl, rfl, lk, hcd, _, _⟩ := F.ex
 refine wpAny_Call_Name_kw (ld_glob I hg hm ?_ hdb)
 refine PySem.W.callWith_K (h₀ := X.base) I.ok.mod.kin F.kp ?_ he hpl
 rw [he]
 show wpAny _ _ (spliced ((false, eval (.Lambda params body scope lpos) X.env) :: backTo pos (starEach es X.env))) _ _ s
 refine Calls.spliced_cons (LamX.lam_make3 (T := TBL X.K) I TB hcode hmT hu si.tabs hdef (L.has I.ok) fun f c' pm' ctv H1 s' I1 eN eT T1 hfo hfn hfr hco => ?_)
 -- the state behind the lambda's making
 have x1' : Ex m ⟨m.r, m.S, H1⟩ := ⟨Nat.le_refl _, fun _ _ => rfl, fun a o h _ nt => eN a o h fun ps z => by subst z; exact nt, fun a o h _ => eT a o h, fun i h1 h2 => by have h2 : i < m.S.length := h2; omega, fun i o h => ⟨o, h, rfl⟩⟩
 have s1' : Sim ⟨X.K, Z⟩ ⟨m.r, m.S, H1⟩ := {
  inj := si.inj
  obj := fun i o h => ObR.mono si x1' (si.obj i o h) fun w hw => by
   obtain ⟨us, hu1, _⟩ := si.obj i o h
   rw [hu1] at hw
   cases hw
   exact eN _ _ hu1 fun ps z => by
    have hb1 := Ob.bx o us
    rw [z] at hb1
    exact hb1
  zs := fun z hz => by
   obtain ⟨⟨u, hu1⟩, hb1⟩ := si.zs z hz
   exact ⟨eT _ _ hu1, hb1⟩
  tabs := T1 }
 have t1 : Tr ⟨X.K, Z⟩ m ⟨m.r, m.S, H1⟩ := ⟨x1', s1'⟩
 -- the function object, pinned while the other arguments are told
 have fL : f ≠ X.env.locals := fun z => by
  obtain ⟨mm, ⟨oL, es, ep, e1, e2, _⟩, _⟩ := I1.loc
  rw [← z, hfo] at e1
  cases e1
  cases e2
 have fS : f ∉ X.fs := fun hm2 => hfr (by
  obtain ⟨e, he1, he2⟩ := List.mem_filterMap.mp hm2
  rcases I1.ok.stk with z | ⟨z, _⟩
  ·exact List.mem_filterMap.mpr ⟨e, by rw [z]; exact he1, he2⟩
  ·exact List.mem_filterMap.mpr ⟨e, by rw [z]; exact List.mem_cons_of_mem _ he1, he2⟩)
 have I1' : Inv X ((f, PySem.W.kla_obj "<lambda>" (X.env.qual ++ "<lambda>") params body scope (cloFrom X.env.cells scope.names []) pm' c' ctv) :: pins) σ H1 s' := ⟨I1.ok, I1.os, I1.bare, I1.base, I1.loc, I1.cell, I1.free, I1.freeC, fun p1 hp1 => by
  rcases List.mem_append.mp hp1 with z | z
  ·exact I1.pin p1 (List.mem_append_left _ z)
  ·rcases List.mem_cons.mp z with rfl | z
   ·exact ⟨hfo, hfn, fL, fS, fun v z => by cases z⟩
   ·exact I1.pin p1 (List.mem_append_right _ z), I1.hok, I1.len⟩
 refine thn (ha.run pos _ s' σ H1 (fun vs H2 => ∃ m2 : M, m2.H = H2 ∧ m2.S = S1 ∧ Tr ⟨X.K, Z⟩ ⟨m.r, m.S, H1⟩ m2 ∧ RepL ⟨X.K, Z⟩ m2 y1 vs) I1' ⟨Z, ⟨m.r, m.S, H1⟩, env, y1, S1, rfl, s1', er.tr si t1, h1, fun m2 vs e2 t2 rv => ⟨m2, rfl, e2, t2, rv⟩⟩) fun us s2 ⟨ws, H2, I2, r2, m2, e2, eS, t2, rv⟩ => ⟨I2.kIn, ?_⟩
 subst e2
 subst eS
 have J2 := ClX.unpin I2
 have hf2 := ClX.pin_at I2
 have hfn2 := ClX.pin_un I2
 have hco2 : m2.H c' = some (LamX.CodeO c' (X.env.qual ++ "<lambda>")) := t2.ex.pr c' _ hco (s1'.bok.no hco fun z => z) trivial
 have t02 := t1.trans si t2
 -- the body's end
 obtain ⟨o, ho, fi, wf, hle⟩ := den_real (.non :: y1) m2.S v S' t2.si.wf (by
  show (below m2.S.length .non && belowL m2.S.length y1) = true
  rw [RepL.below y1 ws rv]
  rfl) h2
 have hyl : y1.length = ps.length := by
  have z := den_len _ _ _ h2
  rw [hlen] at z
  simpa using z
 have hpost : Post ⟨X.K, Z⟩ m2 { nx := fun _ H' => Q .non H', rt := Q } o := fin_post fi wf hle fun m' x0 e' t' r' => q m' x0 e' (t02.trans si t') r'
 have hwl : (V.ref f :: ws).length = (a :: ps).length := by
  rw [List.length_cons, List.length_cons, rv.len, hyl]
 have rc : codeAny (model X.prog X.w) X.A (.call (.ref g) ⟨.ref f :: us, []⟩) (CR CX0 X.stack X.prog X.w m2.H s2 Q E0) s2 := by
  refine LamX.run_ofS (N := Ng) (ps := a :: ps) (us := .ref f :: us) (vs := .ref f :: ws) lk hcd Sg (k := k + 1) hr.room J2.env0 ?_ (.cons rfl r2) hwl fun hr' => ?_
  ·have hl2 : (Value.ref f :: us).length = (a :: ps).length := by
    rw [← hwl]
    simp [Paired.length r2]
   have z := hb s2 (.ref f :: us) J2.kIn (by simpa using hl2)
   simpa using z
  have act := fun (W : WX) (pn : List (Addr × Obj)) (xe : Value → Shared → Prop) (tk : Takes ((cxOf CX0 X.prog X.w X.K X.mg X.base Ng x sg g cdv X.A X.stack s2 m2.H E0).tr pn xe) W) => LamX.pe_actR (i := 0) (tb := fun E => tER X.K (fun cls d _ H => E cls d H) fb) (p1 := p1) (p2 := p2) J2 L hf2 hfn2 hfr (hbind _ _ _ _ _) tk hr' hr.gd
   (fun A outer s H E hg2 => hbody A outer s H E f c' hg2 (takes_of rfl rfl rfl rfl)) hNg (.inl hva) hda hca
  refine ⟨_, PSs.nox (pss_cons (ps_set (i := j) (te := tC .non) Sg.nd hj (.inl hly) pe_non (hs0 _)) (pss_cons (ps_try_keep3 (X := (cxOf CX0 X.prog X.w X.K X.mg X.base Ng x sg g cdv X.A X.stack s2 m2.H E0).nox) (i := i) (c1 := c1) (c2 := c2) (c3 := c3) (ts := fun a cls d => fun D σ H => ∃ v, σ[i]? = some (some v) ∧ D.nx (σ.set j (some v)) H) rfl rfl rfl Sg.nd hi hln
   ⟨hc1, hd1, .inl m1⟩ ⟨hc2, hd2, .inl m2'⟩ ⟨hc3, hd3, .inl m3⟩ (hst _) (fun W pn xe tk hp => pss_one (ps_expr (act W pn xe tk) (hs1 _))) (fun a0 oe cls d pn hz hv => pss_one (ps_set (X := (cxOf CX0 X.prog X.w X.K X.mg X.base Ng x sg g cdv X.A X.stack s2 m2.H E0).nox.suite a0 ((a0, oe) :: pn)) Sg.nd hj (.inl hly) (pe_var (X := (cxOf CX0 X.prog X.w X.K X.mg X.base Ng x sg g cdv X.A X.stack s2 m2.H E0).nox.suite a0 ((a0, oe) :: pn)) hi (.inl hln) hdn hcn) (hs2 _) (.inr hly))))
   (hrest cdv X.A X.stack s2 m2.H ⟨hr', hr.gd⟩))), ?_⟩
  have er0 : ER ⟨X.K, Z⟩ m2 ((sE Ng.length (.non :: y1)).set 0 none) (L2.start Ng (.ref f :: ws)) := (ER.start (N := Ng) (show RepL ⟨X.K, Z⟩ m2 (.non :: y1) (.non :: ws) from ⟨.non, ws, rfl, rfl, rv⟩)).hideAt 0 (some (.ref f))
  have er1 : ER ⟨X.K, Z⟩ m2 (((sE Ng.length (.non :: y1)).set 0 none).set j (some .non)) ((L2.start Ng (.ref f :: ws)).set j (some .non)) := er0.set (d := .non) (x := .non) rfl j
  have ho' : (sTryK ks i j (fun _ S => fb env S) (((sE Ng.length (.non :: y1)).set 0 none).set j (some .non)) m2.S).bind (fun o1 => match o1 with
   | .nx e' S' => b e' S'
   | .rt d S' => some (.rt d S')
   | .bk e' S' => some (.bk e' S')
   | .ct e' S' => some (.ct e' S')) = some o := ho
  obtain ⟨o1, ht, hb1⟩ := Option.bind_eq_some_iff.mp ho'
  obtain ⟨⟨v1, S2⟩, h3, h4⟩ := Option.bind_eq_some_iff.mp (show ((fb env m2.S).bind _) = some o1 from ht)
  refine ⟨by rw [List.getElem?_set_ne hj0]; rfl, hco2, Z, m2, env, v1, S2, rfl, t2.si, er.tr si t02, h3, fun p hp m' xs dd e' t' r fl => ?_, fun m' x e' t' r => ?_⟩
  ·obtain ⟨c0, ds⟩ := p
   simp only [hp] at h4
   split at h4
   ·rename_i hh
    cases h4
    refine ⟨(hk c0 hh.1).1, fun a0 ha0 => ?_⟩
    exact try_step (D := { nx := tS X.K b { nx := fun _ H' => Q .non H', rt := Q }, rt := Q }) (hk c0 hh.1).2 t2.si er1 hij hh.2 (fun m3 σ3 e3 t3 er3 => ⟨Z, m3, _, o, rfl, t3.si, er3, by rw [e3]; exact hb1, hpost.tr t2.si t3⟩) e' t' r fl ha0
   ·cases h4
  ·simp only [r.norz] at h4
   cases h4
   exact ⟨Z, m', _, o, rfl, t'.si, er1.tr t2.si t', by rw [e']; exact hb1, hpost.tr t2.si t'⟩
 refine wpAny_call (codeAny_mono rc fun r s3 hq => ?_)
 cases r with
 | error e => exact False.elim hq
 | ok fl =>
  cases fl with
  | ret u => exact J2.after hq
  | next => exact False.elim hq
  | brk => exact False.elim hq
  | cont => exact False.elim hq⟩
end
section
variable {K : PySem.W.Frag} {P : Program} {w : World} {mg : Str → Option Value} {base : Heap} {x qual : Str} {params : Arguments} {body : List Stmt} {scope : Scope} {dvs : List V} {kws : List (Str × V)} {f : Addr} {fd : FuncData} {N ps : List Str} {k : Nat} {con : Con}
theorem fn_okC {b : SX} (F : FunD K x qual params body scope dvs kws f fd) (S : FnScope N ps scope) (len : ∀ ds S r, con ds S = some r → ds.length = ps.length)
  (hb : ∀ (cdv : Value) (hcd : fd.code = cdv) (A : Around) (outer : List PySem.Env) (s : Shared) (H : Hp) (E : XK), RG k (A.deeper (envOfC qual scope s.heap.objs.size f cdv)) → BJ (cxOf CX0 P w K mg base N qual scope f cdv A outer s H E).nox body b)
  (real : ∀ ds S v S', WfS S → belowL S.length ds = true → con ds S = some (v, S') → ∃ o, b (sE N.length ds) S = some o ∧ Fin o v S' ∧ WfS S' ∧ S.length ≤ S'.length) : FnG P w K mg base (k + 1) f fd ps con := by
 obtain ⟨oc, od, dV, kV, doc, pm, an, cdv, ct, osl, rfl, lk, hcd, _, _⟩ := F.ex
 refine ⟨len, fun A out s H args us vs Q E hr e0 hbd rv hsp => ?_⟩
 have hlen := sp_len len hsp
 have hK : K.In s.heap := e0.mod.kin.keeps fun b o e => (e0.bs b o e).1
 have hkd : ∀ y ∈ ps.zip us, scope.names.lookup y.1 = some .local ∨ (scope.names.lookup y.1 = some .cell ∧ ((cellsFrom (s.heap.objs.size + 1) scope.names []).lookup y.1).isSome = true) := by
  rintro ⟨n, v⟩ hy
  rcases S.par n (List.of_mem_zip hy).1 with q | q
  ·exact .inl q
  ·exact .inr ⟨q, PySem.W.cellsFrom_some _ _ _ (.inl q)⟩
 refine codeAny_call_function hr.room.depth (hK _ _ lk) rfl S.co S.gen rfl (PySem.W.codeRec_of hK hcd) (hbd _ _ _ _ (wpAny_newFunctionEnv_cells S.kind hkd fun env he s1 ic => ?_))
 subst he
 refine ⟨(e0.mod.nolimit.keeps fun b o e => (e0.bs b o e).1).keeps ic.toInCall.keep, codeAny_func ?_⟩
 have I : Inv (cxOf CX0 P w K mg base N qual scope f cdv A out s H E) [] (L2.start N vs) H s1 := inv_start S hr.room.hd e0 hlen rv ic
 have body' := PSs.nox (hb cdv rfl A out s H E ⟨hr.room.deeper _, hr.gd⟩)
 obtain ⟨Z, m, ds, v, S', e, si, r, ef, q⟩ := hsp
 obtain ⟨o, ho, fi, wf, hle⟩ := real ds m.S v S' si.wf (RepL.below ds vs r) ef
 have want : tS K b { nx := fun _ H' => Q .non H', rt := Q } (L2.start N vs) H := by
  refine ⟨Z, m, sE N.length ds, o, e, si, ER.start r, ho, ?_⟩
  cases o with
  | nx e2 S2 =>
   obtain ⟨⟨t, et⟩, rfl⟩ := fi
   intro m2 σ2 q2 t2 er2
   subst q2
   exact q (m2.cut S'.length) .non (by show m2.S.take S'.length = S'; rw [← et]; simp) (t2.cut et wf hle) rfl
  | rt d S2 =>
   obtain ⟨⟨t, et⟩, fz⟩ := fi
   intro m2 x2 q2 t2 r2
   subst q2
   exact q (m2.cut S'.length) x2 (by show m2.S.take S'.length = S'; rw [← et]; simp) (t2.cut et wf hle) (Rep.fz t2.si r2 fz)
  | bk _ _ => exact fi.elim
  | ct _ _ => exact fi.elim
 refine wpAny_mono (body'.run [] s1 (L2.start N vs) H _ I want) (fun fl s' hs => ?_) fun e s' hs => hs
 cases fl with
 | ret u =>
  obtain ⟨v, σ', H', J, rv, q⟩ := hs
  exact ⟨v, H', J.os, J.bare, J.base, J.hok, rv, q⟩
 | next =>
  obtain ⟨σ', H', J, q⟩ := hs
  exact ⟨.non, H', J.os, J.bare, J.base, J.hok, rfl, q⟩
 | brk =>
  obtain ⟨_, _, _, q⟩ := hs
  exact q.elim
 | cont =>
  obtain ⟨_, _, _, q⟩ := hs
  exact q.elim
end
end Pv
namespace LamX
open PySem PySem.Spec PyProof.Rows L2 Pv
theorem law_runT {P : Program} {w : World} {K : PySem.W.Frag} {mg mb : Str → Option Value} {con : Con} {k : Nat} {fa a : Addr} {cs : List (Addr × Addr)} {fd : FuncData} {x : Str} {s₁ : Shared} {vs : List Value} {ns : List Int}
  (KX : K.In s₁.heap) (hns : s₁.heap.Ns mainGlobals mg) (hb : s₁.heap.Ns builtinsNs mb) (hbb : ∀ x : Str, x ≠ "__name__" → mb x = bootBuiltins x) (hlim : s₁.heap.NoLimit) (hg : s₁.gens = #[])
  (hT : ∀ p ∈ cs, s₁.heap.get? p.2 = some { cls := .none, data := .fields #[] }) (nT : ∀ p ∈ cs, K.lookup p.2 = none) (C : ∀ p ∈ cs, PySem.W.CodeHd s₁.heap p.1 p.2)
  (hbm : ∃ (bm : Addr) (ob : Obj), mg "__builtins__" = some (.ref bm) ∧ bm ≠ builtinsNs ∧ s₁.heap.get? bm = some ob ∧ ob.cls = .type "module" ∧ ob.dict = some builtinsNs ∧ ob.data = .plain)
  (ha : s₁.heap.get? a = some { cls := .type "list", data := .seq vs.toArray }) (hi : IntsAre vs ns) (hl : ns.length ≤ sizeLine) (hr : Room k callerA)
  (F : ∀ base : Heap, K.In base → base.Ns mainGlobals mg → (∀ p ∈ cs, TabB base mg p.1 p.2) → FnG P w K mg base k fa fd [x] con) (hbind : ∀ (s : Shared) (u : Value), BindsTo s fd ⟨[u], []⟩ [(x, u)])
  (hcon : con [.rol (ns.map D.int)] [] = some (.bl true, [])) (hTB : ∀ q, q ∈ TBL K → ∃ p, p ∈ cs ∧ p.2 = q.1) :
  codeAny (model P w) callerA (.call (.ref fa) ⟨[.ref a], []⟩) (fun r s' => r = .ok (.ret (.bool true)) ∧ OldK s₁.heap s'.heap ∧ s'.os = s₁.os ∧ AllBare s'.gens) s₁ := by
 have rv := vals_ints hi
 have lenV := hi.length
 have isT : ∀ b : Addr, b ∈ cs.map (·.2) → s₁.heap.get? b = some { cls := .none, data := .fields #[] } := fun b hb => by
  obtain ⟨p, hp, e⟩ := List.mem_map.mp hb
  rw [← e]
  exact hT p hp
 have aT : a ∉ cs.map (·.2) := fun z => by
  have q := isT a z
  rw [ha] at q
  have z' : Data.seq vs.toArray _ = Data.fields #[] := congrArg Obj.data (Option.some.inj q)
  cases z'
 have memT : ∀ p ∈ cs, p.2 ∈ cs.map (·.2) := fun p hp => List.mem_map.mpr ⟨p, hp, rfl⟩
 -- from an abstract heap in which nothing but the script and the tables may be tracked
 have core : ∀ H : Hp, (∀ p ∈ cs, H p.2 = some (.tbl #[])) → (∀ b, H b = none ∨ b ∈ cs.map (·.2) ∨ ∃ o xs, H b = some (.frz o (.lst xs))) → RoL ⟨K, []⟩ ⟨fun _ => 0, [], H⟩ a (ns.map V.int) → HOk P w H s₁.heap → (∀ b, H b ≠ none → b = a ∨ b ∈ cs.map (·.2)) → (H a ≠ none → K.lookup a = none) →
   codeAny (model P w) callerA (.call (.ref fa) ⟨[.ref a], []⟩) (fun r s' => r = .ok (.ret (.bool true)) ∧ OldK s₁.heap s'.heap ∧ s'.os = s₁.os ∧ AllBare s'.gens) s₁ := by
  intro H hH hO hS hok hA hK
  have base_of : ∀ {b : Addr} {o : Obj}, s₁.heap.get? b = some o → H b = none → (hidT s₁.heap H).get? b = some o := fun e n => hidT_get e n
  have noD : ∀ {b : Addr} {o : Obj}, s₁.heap.get? b = some o → (∀ vs n, o.data ≠ .seq vs n) → o.data ≠ .fields #[] → H b = none := fun {b o} e h1 h2 => by
   cases q : H b with
   | none => rfl
   | some u =>
    rcases hA b (by rw [q]; simp) with e' | e'
    ·rw [e', ha] at e
     cases e
     exact (h1 _ _ rfl).elim
    ·rw [isT b e'] at e
     cases e
     exact (h2 rfl).elim
  have noA : ∀ {b : Addr} {o : Obj} {es : Array DictEntry} {ep : Nat}, s₁.heap.get? b = some o → o.data = .dict es ep → H b = none := fun {b o es ep} e d => by
   refine noD e (fun vs n z => ?_) fun z => ?_
   ·rw [d] at z
    cases z
   ·rw [d] at z
    cases z
  have nsK : ∀ {b : Addr} {m : Str → Option Value}, s₁.heap.Ns b m → (hidT s₁.heap H).Ns b m := fun {b m} ⟨o, es, ep, e, d, r⟩ => ⟨o, es, ep, base_of e (noA e d), d, r⟩
  have hKb : K.In (hidT s₁.heap H) := fun b o e => base_of (KX b o e) (by
   cases q : H b with
   | none => rfl
   | some u =>
    rcases hA b (by rw [q]; simp) with e' | e'
    ·rw [e'] at e q
     rw [hK (by rw [q]; simp)] at e
     cases e
    ·obtain ⟨p, hp, ep⟩ := List.mem_map.mp e'
     rw [← ep, nT p hp] at e
     cases e)
  have hM : L2.Mod K mg (hidT s₁.heap H) := ⟨hKb, nsK hns, ⟨mb, nsK hb, hbb⟩, let ⟨mc, h1, h2⟩ := hlim; ⟨mc, nsK h1, h2⟩⟩
  have TB : ∀ p ∈ cs, TabB (hidT s₁.heap H) mg p.1 p.2 := fun p hp => by
   have hTp := hT p hp
   refine ⟨?_, ?_, fun z => ?_⟩
   ·obtain ⟨o, us, file, tf, flags, tg, inF, text, tt, e1, r1, r2, r3, r4, r5, r6, r7, r8, hne⟩ := C p hp
    refine ⟨o, us, file, tf, flags, tg, inF, text, tt, base_of e1 (noD e1 (fun vs n z => ?_) fun z => ?_), r1, r2, r3, r4, r5, r6, r7, r8, hne⟩
    ·rw [r2] at z
     cases z
    ·rw [r2] at z
     cases z
     simp at r3
   ·obtain ⟨bm, ob, b1, b2, b3, b4, b5, b6⟩ := hbm
    have nG : bm ≠ mainGlobals := fun q => by
     obtain ⟨o, es, ep, e, hd, _⟩ := hns
     rw [q, e] at b3
     cases b3
     rw [hd] at b6
     cases b6
    have nP : bm ≠ p.2 := fun q => by
     rw [q, hTp] at b3
     cases b3
     cases b6
    refine ⟨bm, ob, b1, b2, nG, nP, base_of b3 (noD b3 (fun vs n z => ?_) fun z => ?_), b4, b5, b6⟩
    ·rw [b6] at z
     cases z
    ·rw [b6] at z
     cases z
   ·obtain ⟨o, es, ep, e, hd, _⟩ := hns
    rw [z, hTp] at e
    cases e
    cases hd
  have e0 : Env0 P w K mg (hidT s₁.heap H) callerA [] s₁ H := ⟨rfl, hM, fun b o e => of_hidT e, Nat.le_of_eq (hidT_size _ _), trivial, fun b hb => absurd (show b ∈ ([] : List Addr) from hb) (by simp), hok, .of_eq hg⟩
  have sim : Sim ⟨K, []⟩ ⟨fun _ => 0, [], H⟩ := ⟨fun i j h => absurd h (Nat.not_lt_zero _), fun i o h => (by cases h), fun z hz => (by cases hz), fun q hq => by
   obtain ⟨p, hp, e⟩ := hTB q hq
   rw [← e]
   exact TabS.nil (hH p hp)⟩
  have prom : spD K con [.ref a] H (fun v _ => v = .bl true) E0 := ⟨[], ⟨fun _ => 0, [], H⟩, [.rol (ns.map D.int)], .bl true, [], rfl, sim, ⟨.ref a, [], rfl, ⟨a, ns.map V.int, rfl, hS, RepL.ofInts ns⟩, rfl⟩, hcon, fun m' y _ _ ry => ry⟩
  refine codeAny_mono ((F _ hKb (nsK hns) TB).run callerA [] s₁ H ⟨[.ref a], []⟩ [.ref a] [.ref a] _ E0 ⟨hr, rfl⟩ e0 (hbind s₁ (.ref a)) (.cons rfl .nil) prom) fun r s' h => ?_
  cases r with
  | error e => exact h.elim
  | ok fl =>
   cases fl with
   | next => exact False.elim h
   | brk => exact False.elim h
   | cont => exact False.elim h
   | ret u =>
    obtain ⟨v, H', os, bare, un, hok', r', q⟩ := h
    have q' : v = .bl true := q
    subst q'
    obtain rfl : u = Value.bool true := r'
    have key : ∀ b o, b ∉ cs.map (·.2) → s₁.heap.get? b = some o → s'.heap.get? b = some o := fun b o nb e => by
     cases q : H b with
     | none => exact un.keep b o e q (by intro z; exact absurd (show b ∈ ([] : List Addr) from z) (by simp)) (by simp)
     | some u =>
      rcases hO b with z | z | ⟨ob, xs, z⟩
      ·rw [q] at z; cases z
      ·exact absurd z nb
      ·have z2 := un.frzs b ob _ z
       obtain ⟨e1, _⟩ := hok b _ z
       obtain ⟨e2, _⟩ := hok' b _ z2
       rw [e] at e1; cases e1
       exact e2
    have grown : ∀ p ∈ cs, ∃ more : Array Value, s'.heap.get? p.2 = some { cls := .none, data := .fields more } := fun p hp => by
     obtain ⟨more, z⟩ := un.tbls p.2 #[] (hH p hp)
     exact ⟨_, hok' p.2 _ z⟩
    refine ⟨rfl, ⟨fun b o e => ?_, fun b o e => ?_⟩, os, bare⟩
    ·by_cases hb : b ∈ cs.map (·.2)
     ·obtain ⟨p, hp, ep⟩ := List.mem_map.mp hb
      obtain ⟨more, hm⟩ := grown p hp
      rw [← ep] at e ⊢
      rw [hT p hp] at e
      cases e
      exact .inr (.inl ⟨((C p hp).tab (hT p hp)).isCodeTable, rfl, #[], more, rfl, by rw [Array.empty_append]; exact hm⟩)
     ·exact .inl (key b o hb e)
    ·by_cases hb : b ∈ cs.map (·.2)
     ·obtain ⟨p, hp, ep⟩ := List.mem_map.mp hb
      obtain ⟨more, hm⟩ := grown p hp
      rw [← ep]
      exact ⟨_, hm⟩
     ·exact ⟨o, key b o hb e⟩
 cases hk : K.lookup a with
 | some o =>
  have e := KX a o hk
  rw [ha] at e
  cases e
  refine core (fun b => if b ∈ cs.map (·.2) then some (.tbl #[]) else none) (fun p hp => if_pos (memT p hp)) (fun b => ?_) (.inr ⟨_, vs.toArray, _, hk, rfl, rfl, rfl, by rw [List.size_toArray, lenV]; exact hl, by simpa using rv⟩) (fun b u z => ?_) (fun b z => ?_) fun z => absurd (show (if a ∈ cs.map (·.2) then some (HO.tbl #[]) else none) = none from if_neg aT) z
  ·by_cases hb : b ∈ cs.map (·.2)
   ·exact .inr (.inl hb)
   ·exact .inl (if_neg hb)
  ·by_cases hb : b ∈ cs.map (·.2)
   ·have z' := (if_pos hb).symm.trans z
    cases z'
    exact isT b hb
   ·have z' := (if_neg hb).symm.trans z
    cases z'
  ·by_cases hb : b ∈ cs.map (·.2)
   ·exact .inr hb
   ·exact absurd (if_neg hb) z
 | none =>
  refine core (fun b => if b = a then some (.frz { cls := .type "list", data := .seq vs.toArray } (.lst (ns.map V.int))) else if b ∈ cs.map (·.2) then some (.tbl #[]) else none) (fun p hp => (if_neg (show ¬ p.2 = a from fun z => aT (by rw [← z]; exact memT p hp))).trans (if_pos (memT p hp))) (fun b => ?_)
   (.inl ⟨{ cls := .type "list", data := .seq vs.toArray }, if_pos rfl⟩) (fun b u z => ?_) (fun b z => ?_) fun _ => hk
  ·by_cases hb : b = a
   ·exact .inr (.inr ⟨_, _, if_pos hb⟩)
   ·by_cases hb2 : b ∈ cs.map (·.2)
    ·exact .inr (.inl hb2)
    ·exact .inl ((if_neg hb).trans (if_neg hb2))
  ·by_cases hb : b = a
   ·have z' := (if_pos hb).symm.trans z
    cases z'
    rw [hb]
    exact ⟨ha, by rw [List.length_map]; exact hl, vs, _, rv, ha⟩
   ·have z1 := (if_neg hb).symm.trans z
    by_cases hb2 : b ∈ cs.map (·.2)
    ·have z' := (if_pos hb2).symm.trans z1
     cases z'
     exact isT b hb2
    ·have z' := (if_neg hb2).symm.trans z1
     cases z'
  ·by_cases hb : b = a
   ·exact .inl hb
   ·by_cases hb2 : b ∈ cs.map (·.2)
    ·exact .inr hb2
    ·exact absurd ((if_neg hb).trans (if_neg hb2)) z
end LamX
namespace Pv
open PySem PySem.Spec PyProof.Rows L2
section
open PySem.W (OpenLaw)
theorem law_endT {l : PySem.W.OpenLaw} {n k : Nat} {q : Program} {loose : List Str} {XP : (Str → Option Value) → Heap → Prop} {YP : World → Heap → Prop} {d : DefRec} {x : Str} {con : Con}
  (hn : l.most = some n) (hn2 : n ≤ sizeLine) (hdf : d.params.defaults = []) (hr : Room k callerA)
  (F : ∀ (w : World) (mg : Str → Option Value) (fa : Addr) (h : Heap), YP w h → h.Ns mainGlobals mg → mg d.name = some (.ref fa) →
   ∃ (K : PySem.W.Frag) (fd : FuncData) (cs : List (Addr × Addr)), K.In h ∧ (∀ (s : Shared) (u : Value), BindsTo s fd ⟨[u], []⟩ [(x, u)]) ∧ (∀ p ∈ cs, h.get? p.2 = some { cls := .none, data := .fields #[] }) ∧ (∀ p ∈ cs, K.lookup p.2 = none) ∧ (∀ p ∈ cs, PySem.W.CodeHd h p.1 p.2) ∧
    (∀ q, q ∈ TBL K → ∃ p, p ∈ cs ∧ p.2 = q.1) ∧ ∀ base : Heap, K.In base → base.Ns mainGlobals mg → (∀ p ∈ cs, LamX.TabB base mg p.1 p.2) → FnG l.prog w K mg base k fa fd [x] con)
  (hcon : ∀ ns : List Int, ns.length ≤ n → con [.rol (ns.map D.int)] [] = some (.bl true, [])) :
  PySem.W.WalkO q loose XP YP l.row.toRowW d [] (fun f vs => PySem.call f vs) := by
 refine Att.attach_call hn hdf fun w s₀ s₁ mg mb fa o pm cd doc a vs ns G Y ho hd hcd hmg hobj hints hlen hg => ?_
 obtain ⟨K, fd, cs, KX, hb, hT, nT, C, hTB, hF⟩ := F w mg fa _ Y G.T.g hmg
 exact LamX.law_runT KX G.T.g G.T.b G.T.builtins G.T.nolimit hg hT nT C G.T.bmain hobj hints (Nat.le_trans hlen hn2) hr hF hb (hcon ns hlen) hTB
end
theorem fcB_ok {K : PySem.W.Frag} {Pa : Addr} {n : String} (h : fcB K Pa n = true) : PySem.W.findCls K (.ref Pa) (.type "type") "__init__" = some (.val (.builtin n)) := by
 unfold fcB at h
 split at h
 ·rename_i m e
  rw [e, of_decide_eq_true h]
 ·cases h
section
variable {K : PySem.W.Frag} {d : XD}
theorem oexB_ok {C : Addr} {bmB : List Value} {newId : String} (h : oexB K C bmB newId = true) : ∃ nm q N bs bm sn sub ab col dd k0 k1 k2 k3 k5, K.lookup C = some (excClassObj nm q C N bs bm true sn sub ab col dd k0 k1 k2 k3 k5 newId) ∧ PySem.W.excTail bmB bm = true := by
 unfold oexB at h
 split at h
 ·rename_i dd cd sl ho
  split at h
  ·rename_i C' bm k0 k1 k2 k3 n k5 hm hs
   simp only [Bool.and_eq_true, beq_iff_eq, Bool.not_eq_true'] at h
   obtain ⟨⟨⟨⟨rfl, rfl⟩, hdel⟩, hdc⟩, ht⟩ := h
   obtain ⟨nm, bs, mro, ns, qn, hd, sn, sub, ab, col, del⟩ := cd
   dsimp only at hm hdel hdc
   subst hm hdel hdc
   have hsl : sl = #[k0, k1, k2, k3, some (.builtin n), k5] := by
    obtain ⟨l⟩ := sl
    simp only at hs
    rw [hs]
   subst hsl
   exact ⟨nm, qn, ns, bs, bm, sn, sub, ab, col, dd, k0, k1, k2, k3, k5, ho, ht⟩
  ·cases h
 ·cases h
theorem excPB_ok {C : Addr} (h : excPB K C = true) : ExcP K C := by
 obtain ⟨h1, h⟩ := He.ba h
 obtain ⟨h2, h⟩ := He.ba h
 obtain ⟨h3, h⟩ := He.ba h
 obtain ⟨h4, h⟩ := He.ba h
 obtain ⟨h5, h⟩ := He.ba h
 obtain ⟨h6, h⟩ := He.ba h
 obtain ⟨h7, h⟩ := He.ba h
 obtain ⟨h8, h⟩ := He.ba h
 exact ⟨⟨of_decide_eq_true h1, of_decide_eq_true h2, of_decide_eq_true h3, h4, of_decide_eq_true h5, of_decide_eq_true h6, of_decide_eq_true h7, of_decide_eq_true h8⟩, fun T hT => of_decide_eq_true (List.all_eq_true.mp h T hT)⟩
structure XCls (K : PySem.W.Frag) (d : XD) : Prop where
 o : OexG K (xA K d.i) d.B d.newId d.initId d.bmB
 p : ExcP K (xA K d.i)
 ini : PySem.W.findIn K (.ref (xA K d.i)) "__init__" = some (some (.ref (He.ma K (xA K d.i) "__init__")))
 tI : PySem.W.typeIn K (.ref (He.ma K (xA K d.i) "__init__")) = some (.type "function")
 no : PySem.W.findIn K (.ref (xA K d.i)) d.f = some none
 xf : XfC K (xA K d.i)
 rd : PySem.W.readsIn K (He.ga K d.par) (.type "type") = true
 rg : PySem.W.specialIn K (.ref (He.ga K d.par)) "__getattribute__" = some (some (.builtin "type.__getattribute__"))
 vV : PySem.W.findCls K (.ref (He.ga K d.par)) (.type "type") "__init__" = some (.val (.builtin d.initId))
theorem xcls_ok (h : (XF.cls d).ok K = true) : XCls K d := by
 obtain ⟨h1, h⟩ := He.ba h
 obtain ⟨h2, h⟩ := He.ba h
 obtain ⟨h3, h⟩ := He.ba h
 obtain ⟨h4, h⟩ := He.ba h
 obtain ⟨h5, h⟩ := He.ba h
 obtain ⟨h6, h⟩ := He.ba h
 obtain ⟨h7, h⟩ := He.ba h
 obtain ⟨h8, h⟩ := He.ba h
 obtain ⟨h9, h⟩ := He.ba h
 obtain ⟨h10, h⟩ := He.ba h
 obtain ⟨h11, h12⟩ := He.ba h
 have hp := excPB_ok h2
 exact ⟨⟨oexB_ok h1, of_decide_eq_true h3, hp.c.hs, of_decide_eq_true h4, h5⟩, hp, of_decide_eq_true h6, of_decide_eq_true h7, of_decide_eq_true h8, xfB_ok h9, h10, of_decide_eq_true h11, fcB_ok h12⟩
theorem xis_ok {i : Nat} {R : Str} {b : Bool} (h : (XF.isO i R b).ok K = true) : PySem.W.kitOne K (.ref (xA K i)) (.ref (He.ga K R)) = some b := of_decide_eq_true h
theorem xisB_ok {i : Nat} {T : String} {b : Bool} (h : (XF.isB i T b).ok K = true) : PySem.W.kitOne K (.ref (xA K i)) (.type T) = some b := of_decide_eq_true h
theorem xexm_ok {i : Nat} {cs : List Str} (h : (XF.exm i cs).ok K = true) : PySem.W.exmAny K (.ref (xA K i)) (cs.map (clsV K)) = some true := of_decide_eq_true h
theorem ve_facts : ExcBaseFacts "ValueError" "ValueError.__new__" "ValueError.__init__" [.type "ValueError", .type "Exception", .type "BaseException", .type "object"] := PySem.F.excBase_ValueError
theorem le_facts : ExcBaseFacts "LookupError" "LookupError.__new__" "LookupError.__init__" [.type "LookupError", .type "Exception", .type "BaseException", .type "object"] := PySem.F.excBase_LookupError
theorem XCls.exc {P : Program} {w : World} {mg : Str → Option Value} {base : Heap} {fd : FuncData} {qual x y : Str} {params : Arguments} {scope : Scope} {p1 p2 p3 p4 p5 p6 p7 p8 p9 p10 : Pos} (c : XCls K d) (FB : ExcBaseFacts d.B d.newId d.initId d.bmB) (SF : StoreFacts d.B d.bmB "object.__setattr__" "object") (hx : x = d.par)
  (F : FunD K "__init__" qual params [.Expr (.Call (.Attribute (.Name x p1) "__init__" p2) [.Name "self" p3, .Name y p4] [] p5) p6, .Assign [.Attribute (.Name "self" p7) d.f p8] (.Name y p9) p10] scope [] [] (He.ma K (xA K d.i) "__init__") fd)
  (S : FnScope ["self", y] ["self", y] scope) (hm0 : mg (exN d.i) = some (.ref (xA K d.i))) (hm : mg d.par = some (.ref (He.ga K d.par)))
  (hg : scope.names.lookup x = some .globalImplicit) (h0 : scope.names.lookup ("self" : Str) = some .local) (h1 : scope.names.lookup y = some .local) (hh : PySem.W.handedIn (.builtin d.initId) = true)
  (hbd : ∀ (kV doc pm : Value) (an : Option Addr) (cdv ct : Value) (us : List Value), us.length = (["self", y] : List Str).length → bindArgs (PySem.W.fnOf "__init__" qual params [.Expr (.Call (.Attribute (.Name x p1) "__init__" p2) [.Name "self" p3, .Name y p4] [] p5) p6, .Assign [.Attribute (.Name "self" p7) d.f p8] (.Name y p9) p10] scope .none kV doc pm an cdv ct) ⟨us, []⟩ = pure ((["self", y] : List Str).zip us))
  (hcall : ∀ env : PySem.Env, ∃ pl : Sem Bool, eval (.Call (.Attribute (.Name x p1) "__init__" p2) [.Name "self" p3, .Name y p4] [] p5) env = (do
   let ov ← eval (.Name x p1) env
   standAt p2.atName
   let (f, first) ← holding [ov] (getMethod ov "__init__" pl)
   callWith p5 f first (backTo p5 (starEach [.Name "self" p3, .Name y p4] env)) (backToKw p5 (keywordEach [] env))))
  (hdx : (x == ("__debug__" : Str)) = false := by decide) (hdy : (y == ("__debug__" : Str)) = false := by decide) (hcy : (y == ("__classdict__" : Str)) = false := by decide) : ExcI P w K mg base d.i d.f := by
 subst hx
 exact ⟨⟨d.B, d.newId, d.initId, d.bmB, _, fd, y, c.o, FB, c.ini, c.tI, init_ok F S FB SF hg hm h0 h1 c.rd c.rg c.vV hh hcall hdx hdy hcy, F.bindsN hbd⟩, c.no, hm0, c.p⟩
end
theorem obsY_eq {n : Nat} {fa : List He.Fa} {fn : List He.DefD} {cs : List (Str × D)} {kd : List (Str × List (Int × Int))} {xf : List XF} {tf : List He.Defn} {g : Addr → Option Obj} {s : Shared} (h : ∀ a, g a = s.heap.get? a) : obsY n fa fn cs kd xf tf g = (hookY n fa fn cs kd xf tf).obs s := by
 have e : g = s.heap.get? := funext h
 rw [e] <;> rfl
theorem SaysY.fact {fa : List He.Fa} {fn : List He.DefD} {cs : List (Str × D)} {kd : List (Str × List (Int × Int))} {xf : List XF} {tf : List He.Defn} {h : Heap} {K : PySem.W.Frag} (c : SaysY fa fn cs kd xf tf h K) (i : Nat) {f : XF} (e : xf[i]? = some f := by rfl) : f.ok K = true :=
 List.all_eq_true.mp c.x f (List.mem_of_getElem? e)
theorem cd_at {K : PySem.W.Frag} {x qual : Str} {params : Arguments} {body : List Stmt} {scope : Scope} {p : He.Defn} {fd : FuncData} (F : FunD K x qual params body scope [] [] (He.fAd K p) fd) : fd.code = .ref (He.cT K p).1 := by
 obtain ⟨oc, od, dV, kV, doc, pm, an, cdv, ct, osl, rfl, lk, hcd, _, _⟩ := F.ex
 obtain ⟨c, rfl⟩ := He.codeIn_ref hcd
 show Value.ref c = _
 rw [show (He.cT K p).1 = He.codeOf K p from rfl, He.codeOf_eq lk rfl]
end Pv
namespace L2
open PySem PySem.Spec PyProof.Rows
def wKeep1 (K : PySem.W.Frag) (c : Value) (i : Nat) (ts : Addr → Value → Option Addr → TS) (D : Ends) : WX := fun cls d σ H =>
 PySem.W.exmOne K cls c = some true ∧ ∀ a, H a = none → ts a cls d { nx := fun σ' H' => D.nx (σ'.set i none) (upd H' a (exK a cls d)), rt := fun _ _ => False, bk := fun _ _ => False, ct := fun _ _ => False } (σ.set i (some (.ref a))) H
section
variable {X : Cx} {x1 n : Str} {c1 : Value} {i : Nat} {body suite : List Stmt} {b₀ : Stmt} {q1 pos pos' : Pos} {tb : WX → TS} {ts : Addr → Value → Option Addr → TS}
theorem ps_try_keep1 (hs : X.stack = X.env :: X.outer) (hf : X.env.frame = some X.env.locals) (hex : X.ex = []) (hN : X.N.Nodup) (hi : X.N[i]? = some n) (hln : X.env.kindOf n = some .local) (hc1 : Names X x1 c1)
  (hb : ∀ (W : WX) (pn : List (Addr × Obj)) (xe : Value → Shared → Prop), Takes (X.tr pn xe) W → PassesOwn (model X.prog X.w) X.A X.env xe → PSs (X.tr pn xe) body (tb W))
  (hsu : ∀ (a : Addr) (oe : Obj) (cls : Value) (d : Option Addr) (pn : List (Addr × Obj)), Zc cls d oe → (∃ vs, oe.data = .fields vs) → PSs (X.suite a ((a, oe) :: pn)) (b₀ :: suite) (ts a cls d)) :
  PS X (.Try body [.ExceptHandler (some (.Name x1 q1)) (some n) (b₀ :: suite) pos'] [] [] pos) (fun D σ H => tb (wKeep1 X.K c1 i ts D) D σ H) := by
 refine ⟨fun pins s σ H D I h => ?_⟩
 have ok := I.ok
 have hfr : X.A.frames = some (X.env :: X.outer) := by rw [ok.frames, hs]
 have hloc : Loc X.env.scope n := .inl hln
 refine wpAny_Try_except ?_
 refine wpAny_mono ((hb (wKeep1 X.K c1 i ts D) (X.pn ++ pins) (fun e s₁ => wpAny (model X.prog X.w) X.A (noteFrame e X.env) (fun _ s₂ => wpAny (model X.prog X.w) X.A (setFlight e none) (fun _ s₃ =>
  wpAny (model X.prog X.w) X.A (handleBy e X.env [.ExceptHandler (some (.Name x1 q1)) (some n) (b₀ :: suite) pos']) (SP X pins D) X.xe s₃) X.xe s₂) X.xe s₁) (fun u s' xx => ?_) PassesOwn.looking).run [] s σ H D (I.toTry _) h) (fun f s1 hsp => ?_) (fun e s1 he => he)
 ·-- the catch
  obtain ⟨a, B, sI, pins', σ', H', cls, d, rfl, J', nb, up, sky, na, os, ag, hb1, hyes⟩ := xx
  have J : Inv X pins σ' H' sI := J'.ofTry ok
  have sky' : Sky B (X.env :: X.outer) a (Zc cls d) X.env.locals s'.heap := by rw [← hs]; exact sky
  show wpAny (model X.prog X.w) X.A (noteFrame (.ref a) X.env) _ _ _
  refine Sky.land Zc.steady hfr hf sky' fun h3 fl3 up3 => ?_
  have J3 : Inv X pins σ' H' { s' with heap := h3 } := J.landed nb fl3.1 (up.trans up3) os ag
  obtain ⟨oe3, vs3, he3, hz3, hd3⟩ := fl3.there
  have notFr : ∀ {h : Heap} {o : Obj} {vs : Array Value}, h.FunFrames B (X.env :: X.outer) → h.get? a = some o → o.data = .fields vs → a ∉ frs (X.env :: X.outer) := fun {h o vs} ff e dd hm => by
   obtain ⟨_, o', e', hnf⟩ := ff.mem hm
   rw [e] at e'; cases e'
   exact hnf _ dd
  have nfr := notFr fl3.2.2.1 he3 hd3
  have nL : a ≠ X.env.locals := fun z => nfr (List.mem_filterMap.mpr ⟨X.env, List.mem_cons_self, by rw [hf, z]⟩)
  have nF : a ∉ X.fs := fun hm => by
   obtain ⟨e, he, q⟩ := List.mem_filterMap.mp hm
   exact nfr (List.mem_filterMap.mpr ⟨e, List.mem_cons_of_mem _ he, q⟩)
  have nfs : a ∉ frs X.stack := by rw [hs]; exact nfr
  -- nothing that stood before is the exception
  have old : ∀ b o, sI.heap.get? b = some o → b ≠ a := fun b o e z => by
   subst z
   have := nb b o e nfs
   rw [fl3.2.1] at this
   cases this
  have n0 : X.s_0.heap.get? a = none := by
   cases e : X.s_0.heap.get? a with
   | none => rfl
   | some o =>
    obtain ⟨o', e'⟩ := J.base.there a o e (by rw [hex]; exact List.not_mem_nil)
    exact absurd rfl (old a o' e')
  have nc : ∀ x c, X.env.cells.lookup x = some c → c ≠ a := fun x c e => by
   obtain ⟨v, o, ho, _⟩ := J.cell x c e
   exact old c o ho
  have npin : ∀ p ∈ X.pn ++ pins, p.1 ≠ a := fun p hp => old p.1 p.2 (J.pin p hp).1
  have S3 := J3.suite he3 hd3 na nL nF
  refine wpAny_handleBy_cons (codeAny_handlers_test ?_) (by intro q; cases q)
  -- the classes
  have tst : ∀ {x : Str} {c : Value} {q : Pos} {Q : Value → Shared → Prop} {E : Value → Shared → Prop}, Names X x c → Q c { s' with heap := h3 } → wpAny (model X.prog X.w) (X.A.mark (some (.ref a))) (eval (.Name x q) X.env) Q E { s' with heap := h3 } := fun {x c q Q E} hc h => by
   obtain ⟨hg, hdbg, hm | ⟨hm, hv, hnn⟩⟩ := hc
   ·exact ld_glob (X := X.suite a ((a, oe3) :: (X.pn ++ pins))) S3 hg hm h hdbg
   ·exact ld_blt (X := X.suite a ((a, oe3) :: (X.pn ++ pins))) S3 hg hm hv h hnn hdbg
  refine tst hc1 ?_
  have LT : PySem.W.Looks (model X.prog X.w) h3 (typeOf (.ref a)) cls := fun A Q E s k q => wpAny_typeOf_ref (k _ _ he3) (by rw [hz3.1]; exact q)
  have LM := PySem.W.exm_one (M := model X.prog X.w) (J3.kIn) LT hb1
  refine LM.here ?_
  refine codeAny_handlers_suite_as ?_
  refine HandSPX.lands_againZ fl3 fun h4 fl4 up4 => ?_
  have J4 : Inv X pins σ' H' { s' with heap := h4 } := J.landed nb fl4.1 ((up.trans up3).trans up4) os ag
  obtain ⟨oe4, vs4, he4, hz4, hd4⟩ := fl4.there
  have S4 := J4.suite he4 hd4 na nL nF
  refine store_ok (X := X.suite a ((a, oe4) :: (X.pn ++ pins))) (v := .ref a) S4 hN hi hloc rfl (fun s5 S5 => ?_) (.inr hln)
  refine wpAny_mono ((hsu a oe4 cls d (X.pn ++ pins) hz4 ⟨_, hd4⟩).run [] s5 _ H' _ S5 (hyes a na)) (fun f s6 hsp => ?_) (fun _ _ z => False.elim z)
  cases f with
  | next =>
   obtain ⟨σ6, H6, S6, q6⟩ := hsp
   obtain ⟨p1, p2, p3, p4, p5⟩ := S6.pin (a, oe4) (List.mem_append_left _ List.mem_cons_self)
   have K6 := (S6.unsuite ok).know p1 hz4 hd4 p2 nL n0 nc npin
   exact gone_ok K6 hN hi hln fun s7 J7 => ⟨_, _, J7, q6⟩
  | brk =>
   obtain ⟨σ6, H6, S6, q6⟩ := hsp
   exact q6.elim
  | cont =>
   obtain ⟨σ6, H6, S6, q6⟩ := hsp
   exact q6.elim
  | ret u =>
   obtain ⟨v6, σ6, H6, S6, r6, q6⟩ := hsp
   exact q6.elim
 ·cases f with
  | next =>
   obtain ⟨σ', H', J', q⟩ := hsp
   exact wpAny_execs_nil ⟨σ', H', J'.ofTry ok, q⟩
  | brk =>
   obtain ⟨σ', H', J', q⟩ := hsp
   exact ⟨σ', H', J'.ofTry ok, q⟩
  | cont =>
   obtain ⟨σ', H', J', q⟩ := hsp
   exact ⟨σ', H', J'.ofTry ok, q⟩
  | ret u =>
   obtain ⟨v, σ', H', J', r, q⟩ := hsp
   exact ⟨v, σ', H', J'.ofTry ok, r, q⟩
end
def rCntB (K : PySem.W.Frag) : V → List V → Hp → VK → Prop := fun x xs H Q => ∃ (p : Addr) (bs : List Bool) (k : Bool), x = .ref p ∧ xs = [.bl k] ∧ SqL K H p (bs.map V.bl) ∧ Q (.int (bs.count k : Nat)) H
theorem bools_of_vals : ∀ {bs : List Bool} {its : List Value}, Vals (bs.map V.bl) its → its = bs.map Value.bool
 | [], _, r => by cases r; rfl
 | b :: bs, _, r => by
  cases r with
  | cons h r => rw [List.map_cons, show _ = Value.bool b from h, bools_of_vals r]
theorem countP_bools (k : Bool) : ∀ bs : List Bool, (bs.map Value.bool).countP (isBoolOf k) = bs.count k
 | [] => rfl
 | b :: bs => by
  rw [List.map_cons, List.countP_cons, List.count_cons, countP_bools k bs]
  rfl
theorem mt_lcountB {X : Cx} : MtR X "list.count" (rCntB X.K) := by
 intro pins s σ H x xs v us Q I rx rxs h
 obtain ⟨p, bs, k, rfl, rfl, hs, q⟩ := h
 cases rx
 obtain ⟨u, rfl, ru⟩ := rxs.one
 obtain rfl : u = Value.bool k := ru
 obtain ⟨its, rv, ⟨⟨cls, dd, data, sl⟩, n, ho, hc, hdn, hd⟩, hlen⟩ := I.list hs
 simp only at hc hd
 subst hc hd
 have hi := bools_of_vals rv
 refine call_meets PySem.F.slot_list_count ⟨_, ho, rfl⟩ PySem.F.entry_list_count (PySem.F.args_list_count_2 _ _)
  (SeqAt.list_countAt p its.toArray n dd sl (.bool k) (isBoolOf k)) ⟨ho, fun y hy => by
   have hy : y ∈ its := by simpa using hy
   rw [hi] at hy
   obtain ⟨b, _, rfl⟩ := List.mem_map.mp hy
   exact SeqAt.EqAt.bool_bool b k, ?_⟩
 have ec : its.toArray.toList.countP (isBoolOf k) = bs.count k := by
  show its.countP (isBoolOf k) = _
  rw [hi]
  exact countP_bools k bs
 refine ⟨.int (bs.count k : Nat), H, I.tok _, ⟨s.toks, ?_⟩, q⟩
 show Value.int ((its.toArray.toList.countP (isBoolOf k) : Nat) : Int) s.toks = Value.int ((bs.count k : Nat) : Int) s.toks
 rw [ec]
end L2
namespace Pv
open PySem PySem.Spec PyProof.Rows L2
section
variable {X : Cx} {e : Expr} {f : EX} {x1 n y : Str} {c1 : Value} {i j : Nat} {q1 pos pos' pe p1 p2 p3 : Pos}
theorem sj_try_keep1 (hs : X.stack = X.env :: X.outer) (hf : X.env.frame = some X.env.locals) (hex : X.ex = []) (hN : X.N.Nodup) (hi : X.N[i]? = some n) (hln : X.env.kindOf n = some .local) (hj : X.N[j]? = some y) (hlj : X.env.scope.names.lookup y = some .local) (hij : i ≠ j)
  (hc1 : Names X x1 c1) (ks : List Nat) (hk : ∀ c, c ∈ ks → PySem.W.exmOne X.K (.ref (xA X.K c)) c1 = some true ∧ ExcP X.K (xA X.K c))
  (he : ∀ (W : WX) (pn : List (Addr × Obj)) (xe : Value → Shared → Prop), Takes (X.tr pn xe) W → EJR (X.tr pn xe) W e f)
  (hsw : swapsWith e none pe.line X.env = pure false := by rfl) (hsw2 : swapsWith (.Name n p2) (some (.Name y p1)) p3.line X.env = pure false := by rfl) (hdn : (n == ("__debug__" : Str)) = false := by decide) (hdc : (n == ("__classdict__" : Str)) = false := by decide) :
  SJ X (.Try [.Expr e pe] [.ExceptHandler (some (.Name x1 q1)) (some n) [.Assign [.Name y p1] (.Name n p2) p3] pos'] [] [] pos) (sTryK ks i j f) := by
 refine ps_wk (ps_try_keep1 (i := i) (tb := fun W => tDrop (tER X.K W f)) (ts := fun a cls d => fun D σ H => ∃ v, σ[i]? = some (some v) ∧ D.nx (σ.set j (some v)) H) hs hf hex hN hi hln hc1
  (fun W pn xe tk hp => pss_one (ps_expr (he W pn xe tk) hsw)) (fun a oe cls d pn hz hv => pss_one ?_)) fun D σ H ⟨Z, m, env, o, em, s, er, hb, q⟩ => ?_
 ·exact ps_set (X := X.suite a ((a, oe) :: pn)) hN hj (.inl hlj) (pe_var (X := X.suite a ((a, oe) :: pn)) hi (.inl hln) hdn hdc) hsw2 (.inr hlj)
 ·unfold sTryK at hb
  obtain ⟨⟨v, S1⟩, h1, h2⟩ := Option.bind_eq_some_iff.mp hb
  refine ⟨Z, m, env, v, S1, em, s, er, h1, fun p hp m' xs dd e' t' r fl => ?_, fun m' x e' t' r => ?_⟩
  ·obtain ⟨c, ds⟩ := p
   simp only [hp] at h2
   split at h2
   ·rename_i hh
    cases h2
    exact ⟨(hk c hh.1).1, fun a ha => try_step (hk c hh.1).2 s er hij hh.2 q e' t' r fl ha⟩
   ·cases h2
  ·simp only [r.norz] at h2
   cases h2
   exact q m' σ e' t' (er.tr s t')
end
def fCntB : F2 := fun _ a b => match a, b with
 | .lst ds, .bl k => (boolsOf ds).map fun bs => .int (bs.count k : Nat)
 | _, _ => none
section
variable {X : Cx} {a b : Expr} {fa fb : EX} {apos pos : Pos}
theorem ej_cntB (ha : EJ X a fa) (hb : EJ X b fb)
  (hbase : attributeBase a "count" X.env (eval a X.env) = eval a X.env := by rfl)
  (hfew : ((backTo pos (starEach [b] X.env)).all (fun x => !x.1) && (backToKw pos (keywordEach [] X.env)).all (fun x => x.1.isSome)
   && decide ([b].length + ([] : List Keyword).length + (if ([] : List Keyword).isEmpty then 0 else 1) < 30)) = true := by rfl)
  (hline : (apos.endLine == pos.line) = true := by rfl) (hs : starEach [b] X.env = (false, eval b X.env) :: starEach [] X.env := by rfl) (hplain : (backTo pos (starEach [] X.env)).any (·.1) = false := by rfl) :
  EJ X (.Call (.Attribute a "count" apos) [b] [] pos) (e2 fCntB fa fb) :=
 pe_wk (pe_bm PySem.F.plainAttrs_list PySem.F.slot_list_count PySem.F.type_list_count mt_lcountB ha (pa_cons hb pa_nil hs) hbase hfew hline hs hplain) fun σ H Q ⟨Z, m, env, v, S', em, s, er, hf, q⟩ => by
  obtain ⟨x, S1, y, h1, h2, h3⟩ := e2_inv hf
  refine ⟨Z, m, env, x, S1, em, s, er, h1, fun m1 vx e1 t1 rx => ?_⟩
  obtain ⟨ds, k, bs, rfl, rfl, hb2, rfl⟩ : ∃ ds k bs, x = .lst ds ∧ y = .bl k ∧ boolsOf ds = some bs ∧ v = .int (bs.count k : Nat) := by
   unfold fCntB at h3
   split at h3
   ·obtain ⟨bs, h4, h5⟩ := Option.map_eq_some_iff.mp h3
    exact ⟨_, _, bs, rfl, rfl, h4, h5.symm⟩
   ·cases h3
  obtain ⟨p, xs, rfl, hs1, _⟩ := t1.si.list rx (show listOf m1.S (.lst ds) = some ds from rfl)
  refine ⟨.inl ⟨rfl, xs, hs1⟩, Z, m1, env, .bl k, S', rfl, t1.si, er.tr s t1, by rw [e1]; exact h2, fun m2 vy e2 t2 ry => ?_⟩
  obtain rfl : vy = .bl k := ry
  have rx2 := t2.rep t1.si rx
  obtain ⟨p2, xs2, hp2, hs2, rl2⟩ := t2.si.list rx2 (show listOf m2.S (.lst ds) = some ds from rfl)
  cases hp2
  refine ⟨p, bs, k, rfl, rfl, ?_, q m2 _ e2 (t1.trans s t2) rfl⟩
  have ex : xs2 = bs.map V.bl := by
   rw [boolsOf_inv hb2] at rl2
   exact rl2.bools
  rw [← ex]
  exact hs2
end
theorem CalXK.of {P : Program} {w : World} {K : PySem.W.Frag} {mg : Str → Option Value} {base : Heap} {k : Nat} {x qual : Str} {ps : List Str} {con : Con} {params : Arguments} {body : List Stmt} {scope : Scope} {f : Addr} {fd : FuncData} {ks : List Str} {ix : List Nat} (F : FunD K x qual params body scope [] [] f fd) (hm : mg x = some (.ref f)) (G : FnX P w K mg base k f fd ps con)
  (h : ∀ (kV doc pm : Value) (an : Option Addr) (cdv ct : Value) (ws : List Value), ws.length = ks.length → bindArgs (PySem.W.fnOf x qual params body scope .none kV doc pm an cdv ct) ⟨[], ks.zip ws⟩ = pure (ps.zip (perm ix ws))) : CalXK P w K mg base k x ps ks ix con := by
 refine ⟨f, fd, hm, F.kp, ⟨fun s ws _ hl => ?_, fun r => perm_vals r ix, fun r => perm_rep r ix⟩, G⟩
 obtain ⟨oc, od, dV, kV, doc, pm, an, cdv, ct, osl, rfl, lk, hcd, hD, hK⟩ := F.ex
 rcases hD with ⟨_, rfl⟩ | ⟨e, _⟩
 ·exact .of_eq (h kV doc pm an cdv ct ws hl)
 ·exact absurd rfl e
theorem exm1_of {K : PySem.W.Frag} {c d : Value} (h : PySem.W.exmAny K c [d] = some true) : PySem.W.exmOne K c d = some true := by
 obtain ⟨b1, d1, e1, e2, e3⟩ := PySem.W.exmAny_cons h
 cases e2
 rw [e1, e3, Bool.or_false]
abbrev LCon := (Sto → Option (D × Sto)) → Con
structure LamT (K : PySem.W.Frag) (mg : Str → Option Value) (base : Heap) (fd : FuncData) (q : Str) : Prop where
 ex : ∃ c P, fd.code = .ref c ∧ LamX.TabB base mg c P ∧ (P, q) ∈ TBL K ∧ ∀ p ∈ TBL K, p.1 = P → p.2 = q
structure LamCal (P : Program) (w : World) (K : PySem.W.Frag) (mg : Str → Option Value) (base : Heap) (k : Nat) (x : Str) (con : (Sto → Option (D × Sto)) → Con) : Prop where
 run : ∀ (X : Cx) (params : Arguments) (body : Expr) (scope : Scope) (fb : EX) (es : List Expr) (gs : AX) (p lpos pos : Pos) (fd0 : FuncData), X.prog = P → X.w = w → X.K = K → X.mg = mg → X.base = base → ∀ (hg : Gl X x) (T : LamT X.K X.mg X.base fd0 (X.env.qual ++ "<lambda>")) (hcd : X.env.code = fd0.code) (hr : RG (k + 2) X.A) (L : LamX.LamS X.env.scope scope)
  (hdef : defaultsOf params X.env = ([], [])) (hbind : ∀ (q : Str) (cl : List (Str × Addr)) (pm cv ctv : Value), bindArgs (PySem.W.kla_fn "<lambda>" q params body scope cl pm cv ctv) ⟨[], []⟩ = pure [])
  (hbody : ∀ (A : Around) (outer : List PySem.Env) (s : Shared) (H : Hp) (E : XK) (f c' : Addr), RG k (A.deeper (LamX.lamEnv X scope s.heap.objs.size f c')) → Takes (LamX.lamCx X A outer s H E scope f c') (fun cls d _ H => E cls d H) → EJR (LamX.lamCx X A outer s H E scope f c') (fun cls d _ H => E cls d H) body fb)
  (ha : AJ X es gs)
  (he : starEach (.Lambda params body scope lpos :: es) X.env = (false, eval (.Lambda params body scope lpos) X.env) :: starEach es X.env) (hpl : (backTo pos (starEach es X.env)).any (·.1) = false),
  EJ X (.Call (.Name x p) (.Lambda params body scope lpos :: es) [] pos) (eLam con fb gs)
theorem ej_lamc {X : Cx} {x : Str} {k : Nat} {con : (Sto → Option (D × Sto)) → Con} {params : Arguments} {body : Expr} {scope : Scope} {fb : EX} {es : List Expr} {gs : AX} {p lpos pos : Pos} {fd0 : FuncData} (C : LamCal X.prog X.w X.K X.mg X.base k x con) (hg : Gl X x) (T : LamT X.K X.mg X.base fd0 (X.env.qual ++ "<lambda>")) (hcd : X.env.code = fd0.code) (hr : RG (k + 2) X.A) (L : LamX.LamS X.env.scope scope)
  (hdef : defaultsOf params X.env = ([], [])) (hbind : ∀ (q : Str) (cl : List (Str × Addr)) (pm cv ctv : Value), bindArgs (PySem.W.kla_fn "<lambda>" q params body scope cl pm cv ctv) ⟨[], []⟩ = pure [])
  (hbody : ∀ (A : Around) (outer : List PySem.Env) (s : Shared) (H : Hp) (E : XK) (f c' : Addr), RG k (A.deeper (LamX.lamEnv X scope s.heap.objs.size f c')) → Takes (LamX.lamCx X A outer s H E scope f c') (fun cls d _ H => E cls d H) → EJR (LamX.lamCx X A outer s H E scope f c') (fun cls d _ H => E cls d H) body fb)
  (ha : AJ X es gs)
  (he : starEach (.Lambda params body scope lpos :: es) X.env = (false, eval (.Lambda params body scope lpos) X.env) :: starEach es X.env := by rfl) (hpl : (backTo pos (starEach es X.env)).any (·.1) = false := by rfl) :
  EJ X (.Call (.Name x p) (.Lambda params body scope lpos :: es) [] pos) (eLam con fb gs) := C.run X params body scope fb es gs p lpos pos fd0 rfl rfl rfl rfl rfl hg T hcd hr L hdef hbind hbody ha he hpl
theorem lamcal_of {P0 : Program} {w : World} {K : PySem.W.Frag} {mg : Str → Option Value} {base : Heap} {x a y n x1 x2 x3 : Str} {g : Addr} {k i j nn keep : Nat} {pg : Arguments} {rest : List Stmt} {sg : Scope} {fd : FuncData} {Ng ps : List Str} {c1 c2 c3 : Value} {xc jc : Nat} {py pc pas p1 p2 pe q1 q2 q3 np p3 p4 p5 pos' ptry : Pos} {b : SX}
  (hm : mg x = some (.ref g))
  (F : FunD K x x pg (.Assign [.Name y py] (.Constant .none jc pc) pas :: .Try [.Expr (.Call (.Name a p1) [] [] p2) pe] [.ExceptHandler (some (.Tuple [.Name x1 q1, .Name x2 q2, .Name x3 q3] xc np)) (some n) [.Assign [.Name y p3] (.Name n p4) p5] pos'] [] [] ptry :: rest) sg [] [] g fd)
  (hb : L2.Binds K fd (a :: ps) []) (Sg : FnScope Ng (a :: ps) sg) (hNg : Ng[0]? = some a) (hi : Ng[i]? = some n) (hj : Ng[j]? = some y) (hj0 : j ≠ 0) (hij : i ≠ j) (hva : sg.names.lookup a = some .local) (hln : sg.names.lookup n = some .local) (hly : sg.names.lookup y = some .local)
  (hc1 : sg.names.lookup x1 = some .globalImplicit) (hc2 : sg.names.lookup x2 = some .globalImplicit) (hc3 : sg.names.lookup x3 = some .globalImplicit) (m1 : mg x1 = some c1) (m2' : mg x2 = some c2) (m3 : mg x3 = some c3)
  (ks : List Nat) (hk : ∀ c, c ∈ ks → PySem.W.exmAny K (.ref (xA K c)) [c1, c2, c3] = some true ∧ ExcP K (xA K c))
  (hrest : ∀ (cdv : Value) (A : Around) (outer : List PySem.Env) (s : Shared) (H : Hp), RG (k + 1) (A.deeper (envOfC x sg s.heap.objs.size g cdv)) → BJ (cxOf CX0 P0 w K mg base Ng x sg g cdv A outer s H E0).nox rest b)
  (hlen : nn = (a :: ps).length) (hNN : Ng.length = Ng.length)
  (hst : ∀ env : PySem.Env, backTo np (starEach [.Name x1 q1, .Name x2 q2, .Name x3 q3] env) = backTo np [(false, eval (.Name x1 q1) env), (false, eval (.Name x2 q2) env), (false, eval (.Name x3 q3) env)])
  (hs0 : ∀ env : PySem.Env, swapsWith (.Constant .none jc pc) (some (.Name y py)) pas.line env = pure false) (hs1 : ∀ env : PySem.Env, swapsWith (.Call (.Name a p1) [] [] p2) none pe.line env = pure false) (hs2 : ∀ env : PySem.Env, swapsWith (.Name n p4) (some (.Name y p3)) p5.line env = pure false)
  (hdb : (x == ("__debug__" : Str)) = false := by decide) (hda : (a == ("__debug__" : Str)) = false := by decide) (hca : (a == ("__classdict__" : Str)) = false := by decide) (hdn : (n == ("__debug__" : Str)) = false := by decide) (hcn : (n == ("__classdict__" : Str)) = false := by decide)
  (hd1 : (x1 == ("__debug__" : Str)) = false := by decide) (hd2 : (x2 == ("__debug__" : Str)) = false := by decide) (hd3 : (x3 == ("__debug__" : Str)) = false := by decide) :
  LamCal P0 w K mg base k x (cLam nn Ng.length keep ks i j b) := ⟨fun X params body scope fb es gs p lpos pos fd0 h1 h2 h3 h4 h5 hg T hcd hr L hdef hbind hbody ha he hpl => by
 subst h1 h2 h3 h4 h5
 obtain ⟨c, P, e1, TB, hmT, hu⟩ := T.ex
 exact ej_lam hg hm F hb Sg hNg hi hj hj0 hij hva hln hly hc1 hc2 hc3 m1 m2' m3 ks hk hrest hlen hNN TB (hcd.trans e1) hmT hu hr L hdef hbind hbody ha hst hs0 hs1 hs2 he hpl hdb hda hca hdn hcn hd1 hd2 hd3⟩
theorem SV_raise {i : Nat} {f : Str} {g : EX} {e : En} {S : Sto} {Q : Out → Prop} : SV (sRaise i f g) e S Q ↔ EV g e S fun d S1 => Q (.rt (.tag (2 * i + 2) [.str f, d]) S1) := by
 unfold SV EV sRaise
 constructor
 ·rintro ⟨o, h, q⟩
  obtain ⟨⟨d, S1⟩, h1, h2⟩ := Option.map_eq_some_iff.mp h
  cases h2
  exact ⟨_, _, h1, q⟩
 ·rintro ⟨d, S1, h, q⟩
  exact ⟨_, by rw [h]; rfl, q⟩
theorem CV_rz {k N i : Nat} {f : Str} {d : D} {b : SX} {ds : List D} {S : Sto} {Q : D → Sto → Prop} (hn : ds.length = k) (hb : below S.length d = true) (H : SV b (sE N ds) S fun o => ∃ T, o = .rt (.tag (2 * i + 2) [.str f, d]) (S ++ T)) (q : Q (.tag (2 * i + 2) [.str f, d]) S) : CV (den k N 0 b) ds S Q := by
 refine CV_den hn (H.imp fun o ho => ?_)
 obtain ⟨T, rfl⟩ := ho
 have e : (S ++ T).take (S.length + 0) = S := by simp
 refine ⟨by simp, fun j es hj z => .inl ?_, .tag (2 * i + 2) [.str f, d], ?_, by rw [e]; exact q⟩
 ·rw [List.getElem?_append_left (by omega)] at z; exact z
 ·unfold handed
  rw [if_pos]
  show (below S.length (.str f) && (below S.length d && true)) = true
  rw [hb]
  rfl
theorem CV_conN {k : Con} {ds : List D} {S : Sto} {Q : D → Sto → Prop} (h : CV k ds S fun v S' => rzOf v = none ∧ Q v S') : CV (conN k) ds S Q := by
 obtain ⟨v, S', h1, h2, h3⟩ := h
 refine ⟨v, S', ?_, h3⟩
 unfold conN
 rw [h1, Option.bind_some, if_neg (by rw [h2]; simp)]
theorem rz_bare {d : D} (h : bare d = true) : rzOf d = none := by
 cases d with
 | tag k ds => cases h
 | _ => rfl
theorem EV_lam {c : (Sto → Option (D × Sto)) → Con} {fb : EX} {gs : AX} {e : En} {S : Sto} {Q : D → Sto → Prop} : EV (eLam c fb gs) e S Q ↔ AV gs e S fun ds S1 => CV (c fun T => fb e T) ds S1 Q := by
 unfold EV AV eLam CV
 constructor
 ·rintro ⟨v, S', h, q⟩
  obtain ⟨⟨ds, S1⟩, h1, h2⟩ := Option.bind_eq_some_iff.mp h
  exact ⟨_, _, h1, _, _, h2, q⟩
 ·rintro ⟨ds, S1, h1, v, S', h2, q⟩
  exact ⟨v, S', by rw [h1]; exact h2, q⟩
theorem CV_lam {n N i j c : Nat} {ks : List Nat} {b : SX} {r : Sto → Option (D × Sto)} {ds es : List D} {S : Sto} {Q : D → Sto → Prop} (hn : ds.length + 1 = n) (hr : r S = some (.tag (2 * c + 2) es, S)) (hk : c ∈ ks) (hi : i < N) (hN : n ≤ N)
  (hb : SV b (((((sE N (.non :: ds)).set 0 none).set j (some .non)).set j (some (.tag (2 * c + 1) es))).set i none) S (RtP S fun d => Q d S)) : CV (cLam n N 0 ks i j b r) ds S Q := by
 refine CV_plain (b := bLam ks i j b r) (ds := .non :: ds) (by rw [List.length_cons]; exact hn) ?_
 obtain ⟨o, h1, h2⟩ := hb
 refine ⟨o, ?_, h2⟩
 have hl : (((sE N (.non :: ds)).set 0 none).set j (some .non)).length = N := by
  rw [List.length_set, List.length_set]
  unfold sE
  rw [List.length_append, List.length_map, List.length_replicate, List.length_cons]
  omega
 show (sTryK ks i j (fun _ S => r S) (((sE N (.non :: ds)).set 0 none).set j (some .non)) S).bind _ = _
 have e1 : sTryK ks i j (fun _ S => r S) (((sE N (.non :: ds)).set 0 none).set j (some .non)) S = some (.nx (((((sE N (.non :: ds)).set 0 none).set j (some .non)).set j (some (.tag (2 * c + 1) es))).set i none) S) := by
  show ((r S).bind _) = _
  rw [hr, Option.bind_some]
  show (match rzOf (.tag (2 * c + 2) es) with
   | some (c, ds) => _
   | none => _) = _
  rw [rz_tag]
  show (if c ∈ ks ∧ i < _ then _ else none) = _
  rw [if_pos ⟨hk, by rw [hl]; exact hi⟩]
 rw [e1]
 exact h1
structure Zq (m : Nat) (q : Dbt × One) : Prop where
 oko : OkO m q
 dd : DayD m q.1
 on : OnOk q.2
 zb : ∀ {sh : Vc}, B.Ctx m q.2.rs sh → 0 < sh.sum → ∀ s, s < m → -(fullOf q.1 sh) ≤ zOf sh (q.1.stakes.map (wv q.2.rs sh)) s ∧ zOf sh (q.1.stakes.map (wv q.2.rs sh)) s ≤ fullOf q.1 sh
 dt : Dat 9 880 (dbD q.1)
structure Hz (m : Nat) (ms : List Mb) : Prop where
 hm : m = 2 ∨ m = 3
 ok : mbOkL ms
 tl : mbTL ms ≤ 5
 nl : mbNL ms ≤ 98
 ln : (flL ms).length ≤ 4
 on : ∀ q, q ∈ flL ms → Zq m q
structure Hf (m : Nat) (ms : List Mb) : Prop where
 hz : Hz m ms
 fn : ∀ q, q ∈ flL ms → Fine m 13 q
 f3 : m = 3 → (flL ms).length ≤ 2 ∧ ∀ q, q ∈ flL ms → FineN 3 8 q
structure Dw (dp c : Nat) (d : D) : Prop where
 sh : shortE 24 d = true
 dp : dep d ≤ dp
 ct : cnt d ≤ c
structure DwL (dp c : Nat) (ds : List D) : Prop where
 sh : shortEL 24 ds = true
 dp : depL ds ≤ dp
 ct : cntL ds ≤ c
theorem DwL.nil {dp : Nat} : DwL dp 0 [] := ⟨rfl, Nat.zero_le _, Nat.le_refl _⟩
theorem DwL.cons {dp c k : Nat} {d : D} {ds : List D} (h : Dw dp c d) (g : DwL dp k ds) : DwL dp (c + 1 + k) (d :: ds) := by
 have a := h.dp
 have b := h.ct
 have e := g.dp
 have f := g.ct
 refine ⟨?_, ?_, ?_⟩
 ·show (shortE 24 d && shortEL 24 ds) = true; rw [h.sh, g.sh]; rfl
 ·show max (dep d) (depL ds) ≤ dp; omega
 ·show cnt d + 1 + cntL ds ≤ c + 1 + k; omega
theorem DwL.tup {dp c : Nat} {ds : List D} (h : DwL dp c ds) : Dw (dp + 1) c (.tup ds) := ⟨h.sh, by show depL ds + 1 ≤ dp + 1; have := h.dp; omega, h.ct⟩
theorem DwL.mono {dp c e k : Nat} {ds : List D} (h : DwL dp c ds) (h1 : dp ≤ e) (h2 : c ≤ k) : DwL e k ds := ⟨h.sh, Nat.le_trans h.dp h1, Nat.le_trans h.ct h2⟩
theorem Dw.mono {dp c e k : Nat} {d : D} (h : Dw dp c d) (h1 : dp ≤ e) (h2 : c ≤ k) : Dw e k d := ⟨h.sh, Nat.le_trans h.dp h1, Nat.le_trans h.ct h2⟩
theorem Dw.of13 {dp c : Nat} {d : D} (h : Dat dp c d) : Dw dp c d := ⟨shortE_mono (by decide) d (shE_of h.sh), h.dp, h.ct⟩
theorem Dw.int {i : Int} (h : i.natAbs < 10 ^ 24) : Dw 0 1 (.int i) := ⟨decide_eq_true h, Nat.le_refl _, Nat.le_refl _⟩
theorem Dw.repr {S : Sto} {dp c : Nat} {d : D} (h : Dw dp c d) (h1 : dp ≤ 59) (h2 : c ≤ 5200) : gReprE S d = some (.str (pd d).shown) := r_reprE4 24 h.sh (Nat.le_trans h.dp h1) (by have := h.ct; omega)
mutual
theorem mb_de {b c : Nat} (hb : 0 < b) (hc : 0 < c) : ∀ m : Mb, mbOk m → (∀ q, q ∈ fl m → Dw b c (oqD q)) → Dw (b + 2 * mbT m) ((c + 1) * (fl m).length + 10 * mbN m - 1) (mbD m)
 | .one d o, _, h => (h (d, o) (List.mem_cons_self ..)).mono (Nat.le_refl _) (by show c ≤ (c + 1) * 1 + 10 * 1 - 1; omega)
 | .home x ms, ok, h => by
  have ih := mbL_de hb hc ms ok.2 h
  have w : ∀ {s : Str}, shortB 13 (.str s) = true → okD (.str s) = true → Dw (b + 2 * mbTL ms + 1) 1 (.str s) := fun a b => Dw.of13 ((Dat.word a b).mono (Nat.zero_le _) (Nat.le_refl _))
  refine (DwL.cons (w (s := "house") (by decide +kernel) (by decide +kernel)) (DwL.cons (w ok.1.1 ok.1.2) (DwL.cons ih.tup DwL.nil))).tup.mono ?_ ?_
  ·show b + 2 * mbTL ms + 1 + 1 ≤ b + 2 * (mbTL ms + 1); omega
  ·show _ ≤ (c + 1) * (flL ms).length + 10 * (mbNL ms + 1) - 1; omega
theorem mbL_de {b c : Nat} (hb : 0 < b) (hc : 0 < c) : ∀ ms : List Mb, mbOkL ms → (∀ q, q ∈ flL ms → Dw b c (oqD q)) → DwL (b + 2 * mbTL ms) ((c + 1) * (flL ms).length + 10 * mbNL ms) (mbL ms)
 | [], _, _ => DwL.nil.mono (Nat.zero_le _) (Nat.zero_le _)
 | m :: ms, ok, h => by
  have i1 := mb_de hb hc m ok.1 fun q hq => h q (List.mem_append_left _ hq)
  have i2 := mbL_de hb hc ms ok.2 fun q hq => h q (List.mem_append_right _ hq)
  have e1 : (flL (m :: ms)).length = (fl m).length + (flL ms).length := by show (fl m ++ flL ms).length = _; rw [List.length_append]
  have e2 : mbTL (m :: ms) = max (mbT m) (mbTL ms) := rfl
  have e3 : mbNL (m :: ms) = mbN m + mbNL ms := rfl
  have e4 : 1 ≤ mbN m := by cases m <;> simp [mbN]
  rw [e1, e2, e3, Nat.mul_add]
  exact (DwL.cons (i1.mono (by omega) (Nat.le_refl _)) (i2.mono (by omega) (Nat.le_refl _))).mono (Nat.le_refl _) (by omega)
end
structure Zt (m t : Nat) (q : Dbt × One) : Prop where
 sc : q.1.scale < 5
 sl : q.1.stakes.length = m
 st : ∀ e, e ∈ q.1.stakes → exOk m e ∧ lev e < 9 ∧ lev e ≤ 20
 dd : DayD m q.1
 rg : Rg q.2.rs
 we : 1 ≤ q.2.weight ∧ q.2.weight ≤ 10 ^ 12
 pu : 0 ≤ q.2.purse ∧ q.2.purse ≤ 3 * 10 ^ 12 * 2 ^ t
 ow : 0 ≤ q.2.owed ∧ q.2.owed + 1 ≤ 99 * 2 ^ t
 da : 0 ≤ q.2.days ∧ q.2.days < 40 + t
 go : -(5000000000 + 1000000000 * t) ≤ q.2.got ∧ q.2.got ≤ 10 ^ 10 + 1000000000 * t
 zb : ∀ {rs : List Int} {sh : Vc}, B.Ctx m rs sh → 0 < sh.sum → ∀ s, s < m → -(fullOf q.1 sh) ≤ zOf sh (q.1.stakes.map (wv rs sh)) s ∧ zOf sh (q.1.stakes.map (wv rs sh)) s ≤ fullOf q.1 sh
 dt : Dat 9 880 (dbD q.1)
structure Ht (m t : Nat) (ms : List Mb) : Prop where
 hm : m = 2 ∨ m = 3
 ok : mbOkL ms
 tl : mbTL ms ≤ 5
 nl : mbNL ms ≤ 98
 ln : (flL ms).length ≤ 4
 on : ∀ q, q ∈ flL ms → Zt m t q
structure Sx (m : Nat) (x : List Int) : Prop where
 od : Odds m x
 c : ∀ rs, Rg rs → Ctx m rs x
 sp : 0 < x.sum
 ln : x.length = m
theorem names_g {X : Cx} {x : Str} {c : Value} (hk : X.env.kindOf x = some .globalImplicit) (hm : X.mg x = some c) (hd : (x == ("__debug__" : Str)) = false := by decide) : Names X x c := ⟨hk, hd, .inl hm⟩
theorem rep_split : ∀ (is : List Nat) {ms ks : List Mb}, goP ms is = some ks → ∃ (A B : List (Dbt × One)) (a : Nat), flL ms = A ++ flL ks ++ B ∧ mbNL ms = a + mbNL ks ∧ is.length + mbTL ks ≤ mbTL ms ∧ ∀ o : List Mb, flL (repP ms is o) = A ++ flL o ++ B ∧ mbNL (repP ms is o) = a + mbNL o ∧ mbTL (repP ms is o) ≤ max (mbTL ms) (is.length + mbTL o)
 | [], ms, ks, h => by
  cases h
  refine ⟨[], [], 0, by simp, by simp, by simp, fun o => ?_⟩
  have e : repP ms [] o = o := rfl
  rw [e]
  exact ⟨by simp, by simp, by show mbTL o ≤ max (mbTL ms) (0 + mbTL o); omega⟩
 | i :: is, ms, ks, h => by
  rw [goP_cons] at h
  split at h
  ·rename_i x ks' e
   obtain ⟨A, B, a, h1, h2, h3, h4⟩ := rep_split is h
   have hi := (List.getElem?_eq_some_iff.mp e).1
   have em : ms = ms.take i ++ Mb.home x ks' :: ms.drop (i + 1) := by
    have := (List.getElem?_eq_some_iff.mp e).2
    rw [← this, List.getElem_cons_drop, List.take_append_drop]
   have f1 : ∀ z : List Mb, flL (ms.take i ++ Mb.home x z :: ms.drop (i + 1)) = flL (ms.take i) ++ (flL z ++ flL (ms.drop (i + 1))) := fun z => by rw [flL_app]; rfl
   have f2 : ∀ z : List Mb, mbNL (ms.take i ++ Mb.home x z :: ms.drop (i + 1)) = mbNL (ms.take i) + (mbNL z + 1 + mbNL (ms.drop (i + 1))) := fun z => by rw [mbNL_app]; rfl
   have f3 : ∀ z : List Mb, mbTL (ms.take i ++ Mb.home x z :: ms.drop (i + 1)) = max (mbTL (ms.take i)) (max (mbTL z + 1) (mbTL (ms.drop (i + 1)))) := fun z => by rw [mbTL_app]; rfl
   have g1 := f1 ks'
   have g2 := f2 ks'
   have g3 := f3 ks'
   rw [← em] at g1 g2 g3
   refine ⟨flL (ms.take i) ++ A, B ++ flL (ms.drop (i + 1)), mbNL (ms.take i) + a + 1 + mbNL (ms.drop (i + 1)), by rw [g1, h1]; simp, by omega, by rw [List.length_cons]; omega, fun o => ?_⟩
   obtain ⟨k1, k2, k3⟩ := h4 o
   rw [repP_cons e]
   refine ⟨by rw [f1, k1]; simp, by rw [f2, k2]; omega, ?_⟩
   rw [f3, List.length_cons, g3]
   omega
  ·cases h
theorem fl_le : ∀ m : Mb, (fl m).length ≤ mbN m
 | .one _ _ => Nat.le_refl _
 | .home _ ms => Nat.le_trans (flL_len ms) (Nat.le_succ _)
def pthB : D → Bool
 | .tup xs => xs.all natI
 | _ => false
theorem CV_ispathA {S : Sto} {d : D} {Q : D → Sto → Prop} (hb : bare d = true) (hl : ∀ xs, d = .tup xs → xs.length ≤ 1000) (q : Q (.bl (pthB d)) S) : CV c_is_path [d] S Q := by
 refine CV_plain rfl ?_
 unfold b_is_path
 cases ht : tupB d with
 | true =>
  have ⟨xs, ex⟩ : ∃ xs, d = .tup xs := by
   cases d with
   | tup xs => exact ⟨xs, rfl⟩
   | tag k xs => cases hb
   | _ => cases ht
  subst ex
  (simp_arith! [gs_tup, ht])
  have key : LV (gN 1) tYes' (eCall c_is_whole (aCons (eVar 1) (aCons (eC (.int 0)) (aCons (eC .non) (aNil))))) [] S [some (.tup xs), none] (xs.map id) S fun out S' => out = xs.map (fun x => D.bl (natI x)) ∧ S' = S := by
   refine LV_mapG id (fun x => D.bl (natI x)) (fun n _ => rfl) fun z K hz hK => ?_
   (simp_arith! [])
   exact CV_wholeA hK
  rw [List.map_id] at key
  refine key.imp fun out S2 q2 => ?_
  obtain ⟨rfl, rfl⟩ := q2
  have e1 : (xs.map fun x => D.bl (natI x)) = (xs.map natI).map D.bl := by rw [List.map_map]; rfl
  refine ⟨sz_le (by rw [List.length_map]; have := hl xs rfl; omega), ?_⟩
  rw [e1]
  (simp_arith! [r_allL])
  have e2 : (xs.map natI).all id = xs.all natI := by rw [List.all_map]; rfl
  rw [e2]
  exact RtP_same rfl q
 | false =>
  have e : pthB d = false := by
   cases d with
   | tup xs => cases ht
   | _ => rfl
  rw [e] at q
  (simp_arith! [gs_tup, ht])
  exact RtP_same rfl q
noncomputable def b_stands : SX := sSeq (sFor (iSeq (eVar 1)) (gN 2) (sSeq (sIf (tOr' (tOf (e2 fGe (eVar 2) (eCB (fn1 gLen) (aCons (eVar 0) (aNil))))) (tOf (e2 fNe (e2 fIx (e2 fIx (eVar 0) (eVar 2)) (eC (.int 0))) (eC (.str "house"))))) (sRet (eC .non)) (sNil)) (sAsg (e2 fIx (e2 fIx (eVar 0) (eVar 2)) (eC (.int 2))) (gN 0)))) (sRet (eVar 0))
noncomputable def c_stands : Con := den 2 3 0 b_stands
theorem CV_stands {S : Sto} {ms : List Mb} {is : List Nat} {Q : D → Sto → Prop} (ok : mbOkL ms) (q : Q (moD (goP ms is)) S) : CV c_stands [.tup (mbL ms), pthD is] S Q := by
 refine CV_plain rfl ?_
 unfold b_stands pthD
 have hb := moD_bare (o := goP ms is) fun ks h => goP_ok is ok h
 refine SV_cut fun G hG => ?_
 (simp_arith! [])
 refine SV_forI (fun r e' S' => ∃ (js : List Nat) (ks : List Mb) (x3 : Option D), r = (natP js).map D.int ∧ goP ms is = goP ks js ∧ S' = S ∧ e' = [some (.tup (mbL ks)), some (.tup ((natP is).map D.int)), x3]) ⟨is, ms, none, rfl, rfl, rfl, rfl⟩ ?_ ?_
 ·rintro x r e' S' K ⟨js, ks, x3, hr, hq, rfl, rfl⟩ hK
  cases js with
  | nil => cases hr
  | cons j js =>
   obtain ⟨rfl, rfl⟩ := List.cons.inj (show _ = D.int (j : Int) :: (natP js).map D.int from hr)
   rw [goP_cons] at hq
   (simp_arith! [mbL_len])
   split
   ·rename_i h
    rw [List.getElem?_eq_none (by omega)] at hq
    rw [hq] at q
    have q : Q .non S' := q
    exact (show RtP S' (fun d => Q d S') (Out.rt D.non S') from RtP_same rfl q)
   ·rename_i h
    have hj : j < ks.length := by omega
    have ej : ks[j]? = some ks[j] := List.getElem?_eq_getElem hj
    rw [ej] at hq
    generalize ks[j] = m at *
    cases m with
    | one d o =>
     have f0 : ∀ T : Sto, fIx T (mbD (.one d o)) (.int 0) = some (.str "one") := fun _ => rfl
     have w1 : decide (("one" : Str) = ("house" : Str)) = false := by decide +kernel
     (simp_arith! [mbL_get ej, f0, w1])
     rw [show goP ms is = none from hq] at q
     have q : Q .non S' := q
     exact (show RtP S' (fun d => Q d S') (Out.rt D.non S') from RtP_same rfl q)
    | home x ks' =>
     have f0 : ∀ T : Sto, fIx T (mbD (.home x ks')) (.int 0) = some (.str "house") := fun _ => rfl
     have f2 : ∀ T : Sto, fIx T (mbD (.home x ks')) (.int 2) = some (.tup (mbL ks')) := fun _ => rfl
     (simp_arith! [mbL_get ej, f0, f2])
     exact ⟨(fun n hn => nomatch hn), hK _ _ ⟨js, ks', _, rfl, hq, rfl, rfl⟩⟩
 ·rintro e' S' ⟨js, ks, x3, hr, hq, rfl, rfl⟩
  have : js = [] := by cases js with | nil => rfl | cons j js => cases (show ([] : List D) = D.int (j : Int) :: (natP js).map D.int from hr)
  subst this
  rw [goP_nil] at hq
  rw [hq] at hb q
  refine hG _ _ ?_
  clear hG G
  (simp_arith! [])
  exact RtP_same hb q
noncomputable def b_set (k__law_set : Con) : SX := sSeq (sIf (tOf (e2 fEq (eVar 1) (eTup (aNil)))) (sRet (eVar 2)) (sNil)) (sSeq (sAsg (e2 fIx (eVar 0) (e2 fIx (eVar 1) (eC (.int 0)))) (gN 3)) (sSeq (sAsg (e2 fAdd (eSl fSlT (eVar 3) (oNo) (oSome (eC (.int 2)))) (eTup (aCons (eCall k__law_set (aCons (e2 fIx (eVar 3) (eC (.int 2))) (aCons (eSl fSlT (eVar 1) (oSome (eC (.int 1))) (oNo)) (aCons (eVar 2) (aNil))))) (aNil)))) (gN 3)) (sRet (e2 fAdd (e2 fAdd (eSl fSlT (eVar 0) (oNo) (oSome (e2 fIx (eVar 1) (eC (.int 0))))) (eTup (aCons (eVar 3) (aNil)))) (eSl fSlT (eVar 0) (oSome (e2 fAdd (e2 fIx (eVar 1) (eC (.int 0))) (eC (.int 1)))) (oNo))))))
noncomputable def cc_set : Nat → Con
 | 0 => fun _ _ => none
 | n + 1 => den 3 4 0 (b_set (cc_set n))
theorem CV_set : ∀ (fuel : Nat) (is : List Nat) (ms ks o : List Mb) {S : Sto} {Q : D → Sto → Prop}, is.length < fuel → (∀ i, i ∈ is → i < 10 ^ 9) → mbOkL ms → mbOkL o → mbNL ms ≤ 1000000 → goP ms is = some ks → Q (.tup (mbL (repP ms is o))) S → CV (cc_set fuel) [.tup (mbL ms), pthD is, .tup (mbL o)] S Q := by
 intro fuel
 induction fuel with
 | zero => intro is ms ks o S Q h; omega
 | succ fuel ih =>
  intro is ms ks o S Q hf hi ok oko hn hg q
  refine CV_plain rfl ?_
  unfold b_set
  refine SV_cut fun G hG => ?_
  have e0 := fun T : Sto => r_eq_pth (S := T) is hi
  cases is with
  | nil =>
   (simp_arith! [e0, List.isEmpty_nil])
   exact RtP_same (mbL_bare o oko) q
  | cons i is =>
   (simp_arith! [e0, List.isEmpty_cons])
   refine hG _ _ ?_
   clear hG G
   rw [goP_cons] at hg
   split at hg
   case h_2 => cases hg
   rename_i x ks' e
   have hlt : i < ms.length := (List.getElem?_eq_some_iff.mp e).1
   have f0 : ∀ T : Sto, fIx T (pthD (i :: is)) (.int 0) = some (.int (i : Int)) := fun _ => at_0
   have f1 : ∀ T : Sto, fSlT T (pthD (i :: is)) (some 1) none = some (pthD is) := fun T => by
    show some (D.tup (cutD _ (some 1) none)) = _
    rw [cut_from (by decide)]
    rfl
   have f2 : ∀ T : Sto, fIx T (.tup (mbL ms)) (.int (i : Int)) = some (mbD (.home x ks')) := fun T => by
    rw [r_ixT, at_nat, mbL_at, e]
    rfl
   have hm : mbOk (.home x ks') := mbOkL_iff.mp ok _ (List.mem_of_getElem? e)
   have hmn := mbNL_at (List.mem_of_getElem? e)
   have hmn2 : mbN (.home x ks') = mbNL ks' + 1 := rfl
   have hk1 := len_mb ms
   have eh : mbD (.home x ks') = .tup [.str "house", .str x, .tup (mbL ks')] := rfl
   refine SV_cut fun G hG => ?_
   (simp_arith! [f0, f2, eh])
   refine hG _ _ ?_
   clear hG G
   refine SV_cut fun G hG => ?_
   have c2 : ∀ a b c : D, cutD [a, b, c] none (some 2) = [a, b] := fun a b c => by rw [cut_to (by decide)]; rfl
   (simp_arith! [f1, c2])
   refine ih is ks' ks o (by simp only [List.length_cons] at hf; omega) (fun j hj => hi j (List.mem_cons_of_mem _ hj)) hm.2 oko (by omega) hg ?_
   (simp_arith! [c2])
   refine hG _ _ ?_
   clear hG G
   have t1 : ∀ T : Sto, fSlT T (.tup (mbL ms)) none (some (i : Int)) = some (.tup (mbL (ms.take i))) := fun T => by
    show some (D.tup (cutD _ none (some (i : Int)))) = _
    rw [cut_to (by omega), mbL_map, mbL_map, List.map_take]
    rfl
   have t2 : ∀ T : Sto, fSlT T (.tup (mbL ms)) (some ((i : Int) + 1)) none = some (.tup (mbL (ms.drop (i + 1)))) := fun T => by
    show some (D.tup (cutD _ (some ((i : Int) + 1)) none)) = _
    rw [cut_from (by omega), mbL_map, mbL_map, List.map_drop]
    rfl
   have er := repP_cons (is := is) (o := o) e
   have ez : D.tup [.str "house", .str x, .tup (mbL (repP ks' is o))] = mbD (.home x (repP ks' is o)) := rfl
   rw [ez]
   (simp_arith! [f0, t1, t2])
   refine ⟨sz_le (by rw [mbL_len, List.length_take]; omega), sz_le (by rw [mbL_len, List.length_append, mbL_len, List.length_take, List.length_drop]; simp only [List.length_cons, List.length_nil]; omega), ?_⟩
   have okr := repP_ok (i :: is) ok oko
   rw [er] at q okr
   rw [mbL_app] at q
   have okb := mbL_bare _ okr
   rw [mbL_app] at okb
   have ea : mbL (ms.take i) ++ [mbD (Mb.home x (repP ks' is o))] ++ mbL (ms.drop (i + 1)) = mbL (ms.take i) ++ mbL (Mb.home x (repP ks' is o) :: ms.drop (i + 1)) := by
    rw [List.append_assoc]
    rfl
   rw [ea]
   exact RtP_same okb q
noncomputable def b_homes (k__law_one k__law_take : Con) : SX := sSeq (sAsg (eTup (aCons (eC (.str "plain")) (aCons (eC (.int 0)) (aCons (eTup (aCons (eC (.int 0)) (aCons (eC (.int 0)) (aCons (eC (.int 0)) (aCons (eC (.int 0)) (aNil)))))) (aCons (e2 fMul (eTup (aCons (eTup (aCons (eC (.str "fig")) (aCons (eC (.int 0)) (aNil)))) (aNil))) (eVar 1)) (aCons (e2 fMul (eTup (aCons (eTup (aNil)) (aNil))) (eVar 1)) (aNil))))))) (gN 2)) (sSeq (sPar 5 6 (aCons (eCall k__law_one (aCons (eVar 0) (aCons (eVar 2) (aNil)))) (aCons (eCall k__law_one (aCons (eVar 0) (aCons (eVar 2) (aNil)))) (aNil)))) (sSeq (sAsg (eBx (lDisp (aCons (eTup (aCons (eC (.str "house")) (aCons (eC (.str "a")) (aCons (e2 fMul (eTup (aCons (eVar 5) (aNil))) (eCall k__law_take (aCons (eVar 0) (aCons (eC (.int 2)) (aNil))))) (aNil))))) (aCons (eTup (aCons (eC (.str "house")) (aCons (eC (.str "b")) (aCons (eTup (aNil)) (aNil))))) (aCons (eVar 5) (aCons (eVar 6) (aNil))))))) (gN 3)) (sSeq (sExpr (eMt hAppend (eVar 3) (aCons (eTup (aCons (eC (.str "house")) (aCons (eC (.str "c")) (aCons (eTup (aCons (e2 fIx (eVar 3) (eC (.int 1))) (aCons (eVar 5) (aCons (eTup (aCons (eC (.str "house")) (aCons (eC (.str "d")) (aCons (eTup (aCons (eVar 6) (aNil))) (aNil))))) (aNil))))) (aNil))))) (aNil)))) (sSeq (sAsgL false (lLc (iRg1 (eCall k__law_take (aCons (eVar 0) (aCons (eC (.int 4)) (aNil))))) (gN 7) (tYes') (e2 fIx (eVar 3) (eCall k__law_take (aCons (eVar 0) (aCons (eC (.int 5)) (aNil))))) [7]) 4) (sRet (eTup (aCons (eVar 1) (aCons (eCB (fn1 gTuple) (aCons (eVar 4) (aNil))) (aNil)))))))))
noncomputable def c_homes : Con := den 2 8 0 (b_homes c_one c_take)
noncomputable def b_nopaths (k__law_walk k__law_of : Con) : SX := sSeq (sAsg (eBx (lDisp (aCons (eC .non) (aCons (eC (.bl true)) (aCons (eC (.int 0)) (aCons (e1 fNeg (eC (.int 1))) (aCons (eC (.str "")) (aCons (eC (.str "0")) (aCons (eFz (lDisp (aNil))) (aCons (eFz (lDisp (aCons (eC (.int 0)) (aNil)))) (aCons (eDic0) (aCons (eTup (aCons (eC .non) (aNil))) (aCons (eTup (aCons (eC (.bl true)) (aNil))) (aCons (eTup (aCons (eC (.bl false)) (aNil))) (aCons (eTup (aCons (eC (.str "0")) (aNil))) (aCons (eTup (aCons (eTup (aCons (eC (.int 0)) (aNil))) (aNil))) (aCons (eTup (aCons (e1 fNeg (eC (.int 1))) (aNil))) (aCons (eTup (aCons (eC (.int 0)) (aCons (e1 fNeg (eC (.int 1))) (aNil)))) (aNil))))))))))))))))))) (gN 2)) (sSeq (sAsg (eBx (l2 fAddL (eVar 2) (eFz (lDisp (aCons (eTup (aCons (eCB (fn1 gLen) (aCons (eVar 1) (aNil))) (aNil))) (aCons (eTup (aCons (eCB (fn1 gLen) (aCons (eVar 1) (aNil))) (aCons (eC (.int 0)) (aNil)))) (aCons (eTup (aCons (e2 fPow (eC (.int 10)) (eC (.int 30))) (aNil))) (aNil)))))))) (gN 2)) (sSeq (sFor (iSeq (eCall k__law_walk (aCons (eVar 1) (aCons (eTup (aNil)) (aNil))))) (gT 2 (gsCons (gN 5) (gsCons (gN 6) (gsNil)))) (sExpr (eMt hExtend (eVar 2) (aCons (eIf (tOf (e2 fEq (e2 fIx (eVar 6) (eC (.int 0))) (eC (.str "one")))) (eFz (lDisp (aCons (eVar 5) (aCons (e2 fAdd (eVar 5) (eTup (aCons (eC (.int 0)) (aNil)))) (aNil))))) (eFz (lDisp (aCons (e2 fAdd (eVar 5) (eTup (aCons (eCB (fn1 gLen) (aCons (e2 fIx (eVar 6) (eC (.int 2))) (aNil))) (aNil)))) (aNil))))) (aNil))))) (sSeq (sAsg (eTup (aNil)) (gN 3)) (sSeq (sFor (iRg1 (eCall k__law_of (aCons (eVar 0) (aCons (eFz (lDisp (aCons (eC (.int 1)) (aCons (eC (.int 2)) (aCons (eC (.int 25)) (aNil)))))) (aNil))))) (gN 4) (sAsg (eTup (aCons (eVar 3) (aNil))) (gN 3))) (sRet (eFz (l2 fAddL (eVar 2) (eFz (lDisp (aCons (eVar 3) (aNil)))))))))))
noncomputable def c_nopaths (n : Nat) : Con := den 2 7 0 (b_nopaths (cc_members_in n) c_of)
def plD (m : Nat) : Dbt := ⟨"plain", 0, [0, 0, 0, 0], List.replicate m (.fig 0), List.replicate m []⟩
theorem plD_bare {m : Nat} (hm : m = 2 ∨ m = 3) : bare (dbD (plD m)) = true := by
 rcases hm with rfl | rfl <;> rfl
structure Mhh (m : Nat) (b : Mb) : Prop where
 ok : mbOk b
 t : mbT b ≤ 2
 n : mbN b ≤ 5
 l : (fl b).length ≤ 2
 h : mbN b ≤ (fl b).length + 3
 on : ∀ q, q ∈ fl b → q.1 = plD m ∧ OnOk q.2
structure Hmm (m : Nat) (ms : List Mb) : Prop where
 ok : mbOkL ms
 tl : mbTL ms ≤ 2
 nl : mbNL ms ≤ 15
 ho : mbNL ms ≤ (flL ms).length + 9
 ln : (flL ms).length ≤ 6
 on : ∀ q, q ∈ flL ms → q.1 = plD m ∧ OnOk q.2
theorem hm_of {m : Nat} {bs : List Mb} (hl : bs.length ≤ 3) (hb : ∀ b, b ∈ bs → Mhh m b) : Hmm m bs := by
 have key : ∀ bs : List Mb, (∀ b, b ∈ bs → Mhh m b) → mbOkL bs ∧ mbTL bs ≤ 2 ∧ mbNL bs ≤ 5 * bs.length ∧ mbNL bs ≤ (flL bs).length + 3 * bs.length ∧ (flL bs).length ≤ 2 * bs.length ∧ ∀ q, q ∈ flL bs → q.1 = plD m ∧ OnOk q.2 := by
  intro bs
  induction bs with
  | nil => intro _; exact ⟨trivial, Nat.zero_le _, Nat.le_refl _, Nat.le_refl _, Nat.le_refl _, fun q hq => nomatch hq⟩
  | cons b bs ih =>
   intro hb
   obtain ⟨i1, i2, i3, i4, i5, i6⟩ := ih fun c hc => hb c (List.mem_cons_of_mem _ hc)
   have c := hb b (List.mem_cons_self ..)
   have h1 := c.ok
   have h2 := c.t
   have h3 := c.n
   have h4 := c.l
   have h5 := c.h
   have e1 : mbTL (b :: bs) = max (mbT b) (mbTL bs) := rfl
   have e2 : mbNL (b :: bs) = mbN b + mbNL bs := rfl
   have e3 : (flL (b :: bs)).length = (fl b).length + (flL bs).length := by show (fl b ++ flL bs).length = _; rw [List.length_append]
   rw [List.length_cons]
   refine ⟨⟨c.ok, i1⟩, by omega, by omega, by omega, by omega, fun q hq => ?_⟩
   rcases List.mem_append.mp hq with z | z
   ·exact c.on q z
   ·exact i6 q z
 obtain ⟨i1, i2, i3, i4, i5, i6⟩ := key bs hb
 exact ⟨i1, i2, by omega, by omega, by omega, i6⟩
theorem list_of {α : Type} {f : α → D} {P : α → Prop} : ∀ {ds : List D}, (∀ d, d ∈ ds → ∃ a, d = f a ∧ P a) → ∃ as : List α, ds = as.map f ∧ ∀ a, a ∈ as → P a
 | [], _ => ⟨[], rfl, fun _ h => nomatch h⟩
 | d :: ds, h => by
  obtain ⟨a, rfl, ha⟩ := h d (List.mem_cons_self ..)
  obtain ⟨as, rfl, h2⟩ := list_of fun e he => h e (List.mem_cons_of_mem _ he)
  exact ⟨a :: as, rfl, fun b hb => by
   rcases List.mem_cons.mp hb with rfl | hb
   ·exact ha
   ·exact h2 b hb⟩
theorem CV_homes {S : Sto} {h n m : Nat} {Q : D → Sto → Prop} (hm : m = 2 ∨ m = 3) (H : HD n S h) (hn : n + 60 ≤ 1000000) (q : ∀ ms S', Hmm m ms → St h (n + 60) S S' → Q (hsD m ms) S') : CV c_homes [.ref h, .int m] S Q := by
 refine CV_hand (h := h) (n := n + 60) H.lt rfl ?_
 unfold b_homes
 have mu : ∀ (T : Sto) (d : D), fMul T (.tup [d]) (.int (m : Int)) = some (.tup (List.replicate m d)) := fun T d => by
  rcases hm with rfl | rfl <;> rfl
 have mu2 : ∀ (T : Sto) (d : D) (w : Int), 0 ≤ w → w < 2 → fMul T (.tup [d]) (.int w) = some (.tup (List.replicate w.toNat d)) := fun T d w w0 w1 => by
  have : w = 0 ∨ w = 1 := by omega
  rcases this with rfl | rfl <;> rfl
 have ep : D.tup [.str "plain", .int 0, .tup [.int 0, .int 0, .int 0, .int 0], .tup (List.replicate m (.tup [.str "fig", .int 0])), .tup (List.replicate m (.tup []))] = dbD (plD m) := by
  rcases hm with rfl | rfl <;> rfl
 refine SV_cutG fun G hG => ?_
 (simp_arith! [mu])
 rw [ep]
 refine hG _ _ ?_
 clear hG G
 have pb := plD_bare hm
 refine SV_cutG fun G hG => ?_
 (simp_arith! [])
 refine CV_one pb H (by omega) fun o1 S1 k1 t1 => ?_
 refine CV_one pb t1.hd (by omega) fun o2 S2 k2 t2 => ?_
 refine hG _ _ ?_
 clear hG G
 refine SV_cutG fun G hG => ?_
 (simp_arith! [])
 refine CV_take t2.hd (by omega) (by decide) (by decide) fun w S3 w0 w1 t3 => ?_
 (simp_arith! [mu2 _ _ _ w0 w1])
 have mb1 : onD (dbD (plD m)) o1 = mbD (.one (plD m) o1) := rfl
 have mb2 : onD (dbD (plD m)) o2 = mbD (.one (plD m) o2) := rfl
 have ma : D.tup [.str "house", .str "a", .tup (List.replicate w.toNat (mbD (.one (plD m) o1)))] = mbD (.home "a" (List.replicate w.toNat (.one (plD m) o1))) := by
  have : w = 0 ∨ w = 1 := by omega
  rcases this with rfl | rfl <;> rfl
 have mbb : D.tup [.str "house", .str "b", .tup []] = mbD (.home "b" []) := rfl
 rw [mb1, mb2, ma, mbb]
 refine hG _ _ ?_
 clear hG G
 have t := (t1.trans t2).trans t3
 have hl3 : S3.length ≠ h := by have := t.hd.lt; omega
 have at4 : (S3 ++ [Ob.lst [mbD (.home "a" (List.replicate w.toNat (.one (plD m) o1))), mbD (.home "b" []), mbD (.one (plD m) o1), mbD (.one (plD m) o2)]])[S3.length]? = some (.lst [mbD (.home "a" (List.replicate w.toNat (.one (plD m) o1))), mbD (.home "b" []), mbD (.one (plD m) o1), mbD (.one (plD m) o2)]) := get_last
 have up4 : Up h S (S3 ++ [Ob.lst [mbD (.home "a" (List.replicate w.toNat (.one (plD m) o1))), mbD (.home "b" []), mbD (.one (plD m) o1), mbD (.one (plD m) o2)]]) := t.up.trans .app
 have hd4 : HD (n + 43) (S3 ++ [Ob.lst [mbD (.home "a" (List.replicate w.toNat (.one (plD m) o1))), mbD (.home "b" []), mbD (.one (plD m) o1), mbD (.one (plD m) o2)]]) h := t.hd.app.mono (by omega)
 have lk : S.length ≤ S3.length := t.up.len
 generalize S3 ++ [Ob.lst [mbD (.home "a" (List.replicate w.toNat (.one (plD m) o1))), mbD (.home "b" []), mbD (.one (plD m) o1), mbD (.one (plD m) o2)]] = S4 at *
 generalize S3.length = k at *
 have ib : ∀ a b c d : D, atI [a, b, c, d] 1 = some b := fun _ _ _ _ => rfl
 refine SV_cutG fun G hG => ?_
 (simp_arith! [box_of at4, ib])
 have mc : D.tup [.str "house", .str "c", .tup [mbD (.home "b" []), mbD (.one (plD m) o1), .tup [.str "house", .str "d", .tup [mbD (.one (plD m) o2)]]]] = mbD (.home "c" [.home "b" [], .one (plD m) o1, .home "d" [.one (plD m) o2]]) := rfl
 refine ex_append.mpr ⟨sz_le (show 4 + 1 ≤ 16777216 by decide), ?_⟩
 rw [mc]
 refine hG _ _ ?_
 clear hG G
 have kl : k < S4.length := (List.getElem?_eq_some_iff.mp at4).1
 generalize hL : [Mb.home "a" (List.replicate w.toNat (.one (plD m) o1)), .home "b" [], .one (plD m) o1, .one (plD m) o2, .home "c" [.home "b" [], .one (plD m) o1, .home "d" [.one (plD m) o2]]] = L
 have eL : [mbD (.home "a" (List.replicate w.toNat (.one (plD m) o1))), mbD (.home "b" []), mbD (.one (plD m) o1), mbD (.one (plD m) o2)] ++ [mbD (.home "c" [.home "b" [], .one (plD m) o1, .home "d" [.one (plD m) o2]])] = L.map mbD := by rw [← hL]; rfl
 have LL : L.length = 5 := by rw [← hL]; rfl
 have hML : ∀ b, b ∈ L → Mhh m b := fun b hb => by
  have nm : ∀ {x : Str}, x = "a" ∨ x = "b" ∨ x = "c" ∨ x = "d" → shortB 13 (.str x) = true ∧ okD (.str x) = true := fun {x} hx => by
   rcases hx with rfl | rfl | rfl | rfl <;> exact ⟨by decide +kernel, by decide +kernel⟩
  have c1 : ∀ q : Dbt × One, q = (plD m, o1) ∨ q = (plD m, o2) → q.1 = plD m ∧ OnOk q.2 := fun q hq => by
   rcases hq with rfl | rfl
   ·exact ⟨rfl, k1⟩
   ·exact ⟨rfl, k2⟩
  rw [← hL] at hb
  have w01 : w.toNat = 0 ∨ w.toNat = 1 := by omega
  simp only [List.mem_cons, List.not_mem_nil, or_false] at hb
  rcases hb with rfl | rfl | rfl | rfl | rfl
  ·rcases w01 with e | e <;> rw [e]
   ·exact ⟨⟨nm (.inl rfl), trivial⟩, Nat.le_of_ble_eq_true rfl, Nat.le_of_ble_eq_true rfl, Nat.le_of_ble_eq_true rfl, Nat.le_of_ble_eq_true rfl, fun q hq => nomatch hq⟩
   ·exact ⟨⟨nm (.inl rfl), pb, trivial⟩, Nat.le_of_ble_eq_true rfl, Nat.le_of_ble_eq_true rfl, Nat.le_of_ble_eq_true rfl, Nat.le_of_ble_eq_true rfl, fun q hq => c1 q (.inl (List.mem_singleton.mp hq))⟩
  ·exact ⟨⟨nm (.inr (.inl rfl)), trivial⟩, by decide, by decide, by decide, by decide, fun q hq => nomatch hq⟩
  ·exact ⟨pb, Nat.le_of_ble_eq_true rfl, Nat.le_of_ble_eq_true rfl, Nat.le_of_ble_eq_true rfl, Nat.le_of_ble_eq_true rfl, fun q hq => c1 q (.inl (List.mem_singleton.mp hq))⟩
  ·exact ⟨pb, Nat.le_of_ble_eq_true rfl, Nat.le_of_ble_eq_true rfl, Nat.le_of_ble_eq_true rfl, Nat.le_of_ble_eq_true rfl, fun q hq => c1 q (.inr (List.mem_singleton.mp hq))⟩
  ·refine ⟨⟨nm (.inr (.inr (.inl rfl))), ⟨nm (.inr (.inl rfl)), trivial⟩, pb, ⟨nm (.inr (.inr (.inr rfl))), pb, trivial⟩, trivial⟩, Nat.le_of_ble_eq_true rfl, Nat.le_of_ble_eq_true rfl, Nat.le_of_ble_eq_true rfl, Nat.le_of_ble_eq_true rfl, fun q hq => c1 q ?_⟩
   have hq : q ∈ [(plD m, o1), (plD m, o2)] := hq
   simpa using hq
 clear hL
 rw [eL]
 have at5 : (S4.set k (.lst (L.map mbD)))[k]? = some (.lst (L.map mbD)) := List.getElem?_set_self kl
 have hd5 : HD (n + 43) (S4.set k (.lst (L.map mbD))) h := hd4.setNe hl3
 have up5 : Up h S (S4.set k (.lst (L.map mbD))) := up4.setNew lk
 generalize S4.set k (.lst (L.map mbD)) = S5 at *
 refine SV_cutG fun G hG => ?_
 (simp_arith! [])
 refine CV_take hd5 (by omega) (by decide) (by decide) fun v S6 v0 v1 t6 => ?_
 (simp_arith! [])
 have at6 := St.box t6 hl3 at5
 have up6 := up5.trans t6.up
 refine ⟨rg_ok (by omega) (by omega), ?_⟩
 refine (LV_all (fun c S' => HD (n + 47 - c) S' h ∧ Up h S S' ∧ c ≤ 3 ∧ S'[k]? = some (.lst (L.map mbD))) (fun d => ∃ b, d = mbD b ∧ b ∈ L) ⟨t6.hd.mono (by rw [len_rgD]; omega), up6, by rw [len_rgD]; omega, at6⟩ ?_).imp fun out S7 q2 => ?_
 ·rintro d c S' K hd ⟨hd7, up7, hc, at7⟩ hK
  (simp_arith! [])
  refine CV_take hd7 (by omega) (by decide) (by decide) fun u S8 u0 u1 t8 => ?_
  have at8 := St.box t8 hl3 at7
  obtain ⟨j, rfl⟩ : ∃ j : Nat, u = (j : Int) := ⟨u.toNat, by omega⟩
  have hj : j < L.length := by omega
  have ix : atI (L.map mbD) (j : Int) = some (mbD L[j]) := by
   rw [at_nat, List.getElem?_map, List.getElem?_eq_getElem hj]
   rfl
  (simp_arith! [box_of at8, ix])
  refine hK _ _ (fun n hn => nomatch hn) ⟨_, rfl, List.getElem_mem hj⟩ ⟨t8.hd.mono (by omega), up7.trans t8.up, by omega, at8⟩
 obtain ⟨ol, og, hd7, up7, _, _⟩ := q2
 rw [len_rgD] at ol
 refine ⟨sz_le (by omega), ?_⟩
 refine hG _ _ ?_
 clear hG G
 obtain ⟨bs, rfl, hbs⟩ := list_of og
 rw [List.length_map] at ol
 have hh := hm_of (by omega) fun b hb => hML b (hbs b hb)
 (simp_arith! [])
 have eh : D.tup [.int m, .tup (bs.map mbD)] = hsD m bs := by
  unfold hsD
  rw [mbL_map]
 rw [eh]
 exact ⟨hd7.mono (by omega), up7, .inl ⟨hs_bare hh.ok, fun S' t' => q bs S' hh t'⟩⟩
structure Npp (ms : List Mb) (d : D) : Prop where
 br : bare d = true
 sh : shortE 40 d = true
 dp : dep d ≤ 40
 ct : cnt d ≤ 100
 ln : ∀ xs, d = .tup xs → xs.length ≤ 100
 no : pthB d = true → ∃ is, d = pthD is ∧ goP ms is = none
theorem goP_app : ∀ (is js : List Nat) (ms : List Mb), goP ms (is ++ js) = (goP ms is).bind fun ks => goP ks js
 | [], js, ms => rfl
 | i :: is, js, ms => by
  rw [List.cons_append, goP_cons, goP_cons]
  split
  ·exact goP_app is js _
  ·rfl
theorem mbTL_at {ms : List Mb} {m : Mb} (h : m ∈ ms) : mbT m ≤ mbTL ms := by
 induction ms with
 | nil => cases h
 | cons b ms ih =>
  have e : mbTL (b :: ms) = max (mbT b) (mbTL ms) := rfl
  rcases List.mem_cons.mp h with rfl | h
  ·omega
  ·have := ih h
   omega
theorem goP_lt : ∀ (is : List Nat) {ms ks : List Mb}, goP ms is = some ks → (∀ i, i ∈ is → i < mbNL ms) ∧ ks.length ≤ mbNL ms ∧ is.length ≤ mbTL ms
 | [], ms, ks, h => by
  cases h
  exact ⟨(fun i hi => nomatch hi), by have := len_mb ms; omega, Nat.zero_le _⟩
 | i :: is, ms, ks, h => by
  rw [goP_cons] at h
  split at h
  ·rename_i x ks' e
   obtain ⟨h1, h2, h3⟩ := goP_lt is h
   have hi := (List.getElem?_eq_some_iff.mp e).1
   have hn := mbNL_at (List.mem_of_getElem? e)
   have e2 : mbN (.home x ks') = mbNL ks' + 1 := rfl
   have l := len_mb ms
   have ht : mbT (.home x ks') ≤ mbTL ms := mbTL_at (List.mem_of_getElem? e)
   have e3 : mbT (.home x ks') = mbTL ks' + 1 := rfl
   refine ⟨fun j hj => ?_, by omega, by rw [List.length_cons]; omega⟩
   rcases List.mem_cons.mp hj with rfl | hj
   ·omega
   ·have := h1 j hj
    omega
  ·cases h
theorem npp_pth {ms : List Mb} {is : List Nat} (hl : is.length ≤ 40) (hi : ∀ i, i ∈ is → i < 10 ^ 35) (h : goP ms is = none) : Npp ms (pthD is) := by
 have e : cntL ((natP is).map D.int) = 2 * is.length := by
  unfold natP
  clear hl hi h
  induction is with
  | nil => rfl
  | cons i is ih =>
   show 1 + 1 + cntL ((is.map _).map D.int) = _
   rw [ih, List.length_cons]
   omega
 refine ⟨bareL_ints _, ?_, ?_, ?_, ?_, fun _ => ⟨is, rfl, h⟩⟩
 ·show shortEL 40 ((natP is).map D.int) = true
  unfold natP
  clear hl h e
  induction is with
  | nil => rfl
  | cons i is ih =>
   show (decide (((i : Int)).natAbs < 10 ^ 40) && shortEL 40 ((is.map _).map D.int)) = true
   rw [ih fun j hj => hi j (List.mem_cons_of_mem _ hj), decide_eq_true (by have := hi i (List.mem_cons_self ..); omega)]
   rfl
 ·show depL ((natP is).map D.int) + 1 ≤ 40
  rw [dep_ints]
  decide
 ·show cntL _ ≤ 100
  omega
 ·intro xs hx
  cases hx
  unfold natP
  rw [List.length_map, List.length_map]
  omega
def nestD : Nat → D
 | 0 => .tup []
 | k + 1 => .tup [nestD k]
theorem npp_nest {ms : List Mb} {k : Nat} (h0 : 0 < k) (h1 : k ≤ 30) : Npp ms (nestD k) := by
 have a : ∀ k, bare (nestD k) = true := fun k => by induction k with | zero => rfl | succ k ih => show (bare (nestD k) && true) = true; rw [ih]; rfl
 have b : ∀ k, shortE 40 (nestD k) = true := fun k => by induction k with | zero => rfl | succ k ih => show (shortE 40 (nestD k) && true) = true; rw [ih]; rfl
 have c : ∀ k, dep (nestD k) = k + 1 := fun k => by induction k with | zero => rfl | succ k ih => show max (dep (nestD k)) 0 + 1 = _; rw [ih]; omega
 have d : ∀ k, cnt (nestD k) = k := fun k => by induction k with | zero => rfl | succ k ih => show cnt (nestD k) + 1 + 0 = _; rw [ih]
 refine ⟨a k, b k, by rw [c]; omega, by rw [d]; omega, ?_, ?_⟩
 ·intro xs hx
  cases k with
  | zero => cases hx; decide
  | succ k => cases hx; exact Nat.le_of_ble_eq_true rfl
 ·intro h
  match k, h0 with
  | 1, _ => cases h
  | k + 2, _ => cases h
theorem npp_fix (ms : List Mb) : ∀ d, d ∈ ([.non, .bl true, .int 0, .int (-1), .str "", .str "0", .lst [], .lst [.int 0], .dic [] [], .tup [.non], .tup [.bl true], .tup [.bl false], .tup [.str "0"], .tup [.tup [.int 0]], .tup [.int (-1)], .tup [.int 0, .int (-1)]] : List D) → Npp ms d := by
 have key : ∀ d : D, bare d = true ∧ shortE 40 d = true ∧ decide (dep d ≤ 40) = true ∧ decide (cnt d ≤ 100) = true ∧ pthB d = false → (∀ xs, d = .tup xs → xs.length ≤ 100) → Npp ms d := fun d h hl => ⟨h.1, h.2.1, of_decide_eq_true h.2.2.1, of_decide_eq_true h.2.2.2.1, hl, fun z => by rw [h.2.2.2.2] at z; cases z⟩
 intro d hd
 simp only [List.mem_cons, List.not_mem_nil, or_false] at hd
 rcases hd with rfl | rfl | rfl | rfl | rfl | rfl | rfl | rfl | rfl | rfl | rfl | rfl | rfl | rfl | rfl | rfl <;> exact key _ ⟨by decide +kernel, by decide +kernel, by decide +kernel, by decide +kernel, by decide +kernel⟩ fun xs hx => by cases hx <;> decide
theorem pth_snoc (is : List Nat) (j : Nat) : pthD (is ++ [j]) = .tup ((natP is).map D.int ++ [.int (j : Int)]) := by
 unfold pthD natP
 rw [List.map_append, List.map_append]
 rfl
theorem add_rl {S : Sto} {k : Nat} {ds es : List D} (h : S[k]? = some (.lst ds)) (hz : szOk (ds.length + es.length) = true) : fAddL S (.ref k) (.lst es) = some (ds ++ es) := by
 show (boxAt S k).bind _ = _
 rw [box_of h, Option.bind_some]
 show (if szOk (ds.length + es.length) = true then some (ds ++ es) else none) = _
 rw [if_pos hz]
theorem CV_nopaths {S : Sto} {h n : Nat} {ms : List Mb} {Q : D → Sto → Prop} (ok : mbOkL ms) (tl : mbTL ms ≤ 2) (nl : mbNL ms ≤ 15) (H : HD n S h) (hn : n + 2 ≤ 1000000) (q : ∀ xs S', (∀ d, d ∈ xs → Npp ms d) → xs.length ≤ 60 → St h (n + 2) S S' → Q (.lst xs) S') : CV (c_nopaths 12) [.ref h, .tup (mbL ms)] S Q := by
 refine CV_hand (h := h) (n := n + 2) H.lt rfl ?_
 unfold b_nopaths
 have hlt := H.lt
 have ln := mbL_len ms
 have l0 := len_mb ms
 refine SV_cutG fun G hG => ?_
 have ng : ∀ T : Sto, fNeg T (.int 1) = some (.int (-1)) := fun _ => rfl
 (simp_arith! [EV_dic0, ng])
 refine ⟨sz_le (by decide), ?_⟩
 refine hG _ _ ?_
 clear hG G
 generalize hF : ([.non, .bl true, .int 0, .int (-1), .str "", .str "0", .lst [], .lst [.int 0], .dic [] [], .tup [.non], .tup [.bl true], .tup [.bl false], .tup [.str "0"], .tup [.tup [.int 0]], .tup [.int (-1)], .tup [.int 0, .int (-1)]] : List D) = F
 have nF : ∀ d, d ∈ F → Npp ms d := by rw [← hF]; exact npp_fix ms
 have lF : F.length = 16 := by rw [← hF]; rfl
 have pw : ∀ T : Sto, fPow T (.int 10) (.int 30) = some (.int (10 ^ 30)) := fun _ => rfl
 have at1 : (S ++ [Ob.lst F])[S.length]? = some (.lst F) := get_last
 have up1 : Up h S (S ++ [Ob.lst F]) := .app
 have hd1 : HD n (S ++ [Ob.lst F]) h := H.app
 have le1 : (S ++ [Ob.lst F]).length = S.length + 1 := by rw [List.length_append]; rfl
 generalize S ++ [Ob.lst F] = S1 at *
 clear hF
 refine SV_cutG fun G hG => ?_
 have ad : ∀ a b c : D, fAddL S1 (.ref S.length) (.lst [a, b, c]) = some (F ++ [a, b, c]) := fun a b c => add_rl at1 (by rw [lF]; exact sz_le (show 16 + 3 ≤ 16777216 by decide))
 (simp_arith! [pw, ln, ad])
 refine hG _ _ ?_
 clear hG G
 have p1 : Npp ms (.tup [.int (ms.length : Nat)]) := npp_pth (is := [ms.length]) (Nat.le_of_ble_eq_true rfl) (fun i hi => by rw [List.mem_singleton.mp hi]; omega) (by rw [goP_cons, List.getElem?_eq_none (Nat.le_refl _)])
 have p2 : Npp ms (.tup [.int (ms.length : Nat), .int 0]) := npp_pth (is := [ms.length, 0]) (Nat.le_of_ble_eq_true rfl) (fun i hi => by
  rcases List.mem_cons.mp hi with rfl | hi
  ·omega
  ·rw [List.mem_singleton.mp hi]; decide) (by rw [goP_cons, List.getElem?_eq_none (Nat.le_refl _)])
 have p3 : Npp ms (.tup [.int (10 ^ 30)]) := npp_pth (is := [10 ^ 30]) (by decide) (fun i hi => by rw [List.mem_singleton.mp hi]; decide) (by rw [goP_cons, List.getElem?_eq_none (by omega)])
 generalize hF2 : F ++ [D.tup [.int (ms.length : Nat)], .tup [.int (ms.length : Nat), .int 0], .tup [.int (10 ^ 30)]] = F2
 have nF2 : ∀ d, d ∈ F2 → Npp ms d := by
  rw [← hF2]
  intro d hd
  rcases List.mem_append.mp hd with hd | hd
  ·exact nF d hd
  ·simp only [List.mem_cons, List.not_mem_nil, or_false] at hd
   rcases hd with rfl | rfl | rfl
   ·exact p1
   ·exact p2
   ·exact p3
 have lF2 : F2.length = 19 := by rw [← hF2, List.length_append, lF]; rfl
 have at2 : (S1 ++ [Ob.lst F2])[S1.length]? = some (.lst F2) := get_last
 have up2 : Up h S (S1 ++ [Ob.lst F2]) := up1.trans .app
 have hd2 : HD n (S1 ++ [Ob.lst F2]) h := hd1.app
 have lk : S.length ≤ S1.length := by omega
 have hk : S1.length ≠ h := by omega
 generalize S1 ++ [Ob.lst F2] = S2 at *
 generalize S1.length = k at *
 refine SV_cutG fun G hG => ?_
 (simp_arith! [])
 have e0 : D.tup ([] : List D) = .tup (([] : List Int).map D.int) := rfl
 rw [e0]
 refine CV_membersin 12 ms [] ok (by omega) (by rw [List.length_nil]; omega) (by omega) ?_
 (simp_arith! [])
 refine SV_forI (fun r e' S' => ∃ (ws : List (List Int × Mb)) (xs : List D) (x5 x6 : Option D), r = ws.map ptD ∧ (∀ w, w ∈ ws → w ∈ wkL [] 0 ms) ∧ (∀ d, d ∈ xs → Npp ms d) ∧ xs.length + 2 * ws.length ≤ 19 + 2 * mbNL ms ∧ HD n S' h ∧ Up h S S' ∧ S'[k]? = some (.lst xs) ∧ e' = [some (.ref h), some (.tup (mbL ms)), some (.ref k), none, none, x5, x6]) ⟨wkL [] 0 ms, F2, none, none, rfl, fun w hw => hw, nF2, by rw [lF2, wkL_len]; exact Nat.le_refl _, hd2, up2, at2, rfl⟩ ?_ ?_
 ·rintro d r e' S' K ⟨ws, xs, x5, x6, hr, hw, hx, hl, hd', up', at', rfl⟩ hK
  cases ws with
  | nil => cases hr
  | cons w ws =>
   obtain ⟨rfl, rfl⟩ := List.cons.inj (show _ = ptD w :: ws.map ptD from hr)
   obtain ⟨is, j, ks, a1, a2, a3⟩ := wkL_at ms [] 0 ms rfl w (hw w (List.mem_cons_self ..))
   obtain ⟨g1, g2, g3⟩ := goP_lt is a2
   have hj := (List.getElem?_eq_some_iff.mp a3).1
   have et : D.tup (w.1.map D.int) = pthD (is ++ [j]) := by
    rw [a1, pth_snoc, List.nil_append, List.map_append]
    rfl
   have bnd : ∀ (t : Nat), t < 10 ^ 35 → ∀ i, i ∈ is ++ [j] ++ [t] → i < 10 ^ 35 := fun t ht i hi => by
    rcases List.mem_append.mp hi with hi | hi
    ·rcases List.mem_append.mp hi with hi | hi
     ·have := g1 i hi
      omega
     ·rw [List.mem_singleton.mp hi]; omega
    ·rw [List.mem_singleton.mp hi]; exact ht
   have gk : ∀ js, goP ms (is ++ [j] ++ js) = goP ks ([j] ++ js) := fun js => by rw [List.append_assoc, goP_app, a2]; rfl
   rw [List.length_cons] at hl
   unfold ptD
   rw [et]
   have pl : ∀ (T : Sto) (t : Nat), fAdd T (pthD (is ++ [j])) (.tup [.int (t : Int)]) = some (pthD (is ++ [j] ++ [t])) := fun T t => by
    rw [pth_snoc (is ++ [j]) t]
    unfold pthD
    rw [r_addT, if_pos]
    exact sz_le (by unfold natP; simp only [List.length_map, List.length_append, List.length_cons, List.length_nil]; omega)
   have pl0 : ∀ T : Sto, fAdd T (pthD (is ++ [j])) (.tup [.int 0]) = some (pthD (is ++ [j] ++ [0])) := fun T => pl T 0
   have kl : k < S'.length := (List.getElem?_eq_some_iff.mp at').1
   have ii : (is ++ [j]).length ≤ 4 := by rw [List.length_append, List.length_singleton]; omega
   have bnd0 : ∀ i, i ∈ is ++ [j] → i < 10 ^ 35 := fun i hi => bnd 0 (by decide) i (List.mem_append_left _ hi)
   obtain ⟨wp, wm⟩ := w
   have a3 : ks[j]? = some wm := a3
   cases wm with
   | one d o =>
    have f0 : ∀ T : Sto, fIx T (mbD (.one d o)) (.int 0) = some (.str "one") := fun _ => rfl
    have gn : ∀ js, goP ms (is ++ [j] ++ js) = none := fun js => by
     rw [gk]
     show (match ks[j]? with | some (.home _ ks) => goP ks js | _ => none) = none
     rw [a3]
    have n1 : Npp ms (pthD (is ++ [j])) := npp_pth (by omega) bnd0 (by have := gn []; rw [List.append_nil] at this; exact this)
    have n2 : Npp ms (pthD (is ++ [j] ++ [0])) := npp_pth (by rw [List.length_append, List.length_singleton]; omega) (bnd 0 (by decide)) (gn _)
    (simp_arith! [f0, pl0, box_of at'])
    refine ex_extend.mpr ⟨sz_le (by simp only [List.length_cons, List.length_nil]; omega), ?_⟩
    refine ⟨(fun n hn => nomatch hn), hK _ _ ⟨ws, xs ++ [pthD (is ++ [j]), pthD (is ++ [j] ++ [0])], _, _, rfl, fun w hw2 => hw w (List.mem_cons_of_mem _ hw2), fun d hd => ?_, by simp only [List.length_append, List.length_cons, List.length_nil]; omega, hd'.setNe hk, up'.setNew lk, List.getElem?_set_self kl, rfl⟩⟩
    rcases List.mem_append.mp hd with hd | hd
    ·exact hx d hd
    ·simp only [List.mem_cons, List.not_mem_nil, or_false] at hd
     rcases hd with rfl | rfl
     ·exact n1
     ·exact n2
   | home x ks' =>
    have f0 : ∀ T : Sto, fIx T (mbD (.home x ks')) (.int 0) = some (.str "house") := fun _ => rfl
    have f2 : ∀ T : Sto, fIx T (mbD (.home x ks')) (.int 2) = some (.tup (mbL ks')) := fun _ => rfl
    have hn := mbNL_at (List.mem_of_getElem? a3)
    have e2 : mbN (.home x ks') = mbNL ks' + 1 := rfl
    have l2 := len_mb ks'
    obtain ⟨A, B, a, _, e4, _⟩ := rep_split is a2
    have n1 : Npp ms (pthD (is ++ [j] ++ [ks'.length])) := npp_pth (by rw [List.length_append, List.length_singleton]; omega) (bnd _ (by omega)) (by
     rw [gk]
     show (match ks[j]? with | some (.home _ ks) => goP ks [ks'.length] | _ => none) = none
     rw [a3]
     show goP ks' [ks'.length] = none
     rw [goP_cons, List.getElem?_eq_none (Nat.le_refl _)])
    have w1 : decide (("house" : Str) = ("one" : Str)) = false := by decide +kernel
    (simp_arith! [f0, f2, w1, mbL_len, pl, box_of at'])
    refine ex_extend.mpr ⟨sz_le (by simp only [List.length_cons, List.length_nil]; omega), ?_⟩
    refine ⟨(fun n hn => nomatch hn), hK _ _ ⟨ws, xs ++ [pthD (is ++ [j] ++ [ks'.length])], _, _, rfl, fun w hw2 => hw w (List.mem_cons_of_mem _ hw2), fun d hd => ?_, by simp only [List.length_append, List.length_cons, List.length_nil]; omega, hd'.setNe hk, up'.setNew lk, List.getElem?_set_self kl, rfl⟩⟩
    rcases List.mem_append.mp hd with hd | hd
    ·exact hx d hd
    ·rw [List.mem_singleton.mp hd]
     exact n1
 rintro e' S3 ⟨ws, xs, x5, x6, hr, hw, hx, hl, hd3, up3, at3, rfl⟩
 refine hG _ _ ?_
 clear hG G
 refine SV_cutG fun G hG => ?_
 (simp_arith! [])
 refine hG _ _ ?_
 clear hG G
 refine SV_cutG fun G hG => ?_
 (simp_arith! [])
 refine CV_of (ds := [.int 1, .int 2, .int 25]) hd3 (by omega) (.inr (.inl rfl)) (by decide) (by decide +kernel) (by decide) fun d S4 hd t4 => ?_
 have at4 := St.box t4 hk at3
 have up4 := up3.trans t4.up
 obtain ⟨c, rfl, c0, c1⟩ : ∃ c : Nat, d = .int (c : Int) ∧ 0 < c ∧ c ≤ 25 := by
  simp only [List.mem_cons, List.not_mem_nil, or_false] at hd
  rcases hd with rfl | rfl | rfl
  ·exact ⟨1, rfl, by decide, by decide⟩
  ·exact ⟨2, rfl, by decide, by decide⟩
  ·exact ⟨25, rfl, by decide, by decide⟩
 refine ⟨_, rfl, rg_ok (by omega) (by omega), ?_⟩
 refine SV_forI (fun r e' S' => ∃ (j : Nat) (x4 : Option D), r = rgD (j : Int) c ∧ j ≤ c ∧ S' = S4 ∧ e' = [some (.ref h), some (.tup (mbL ms)), some (.ref k), some (nestD j), x4, x5, x6]) ⟨0, none, rfl, Nat.zero_le _, rfl, rfl⟩ ?_ ?_
 ·rintro d r e' S' K ⟨j, x4, hr2, hj, rfl, rfl⟩ hK
  obtain ⟨hj2, rfl, rfl⟩ := rgD_inv hr2
  (simp_arith! [])
  exact ⟨(fun n hn => nomatch hn), hK _ _ ⟨j + 1, _, rfl, by omega, rfl, rfl⟩⟩
 rintro e' S5 ⟨j, x4, hr2, hj, rfl, rfl⟩
 have hjc : j = c := by
  have z := congrArg List.length hr2
  rw [len_rgD] at z
  have z : 0 = ((c : Int) - (j : Int)).toNat := z
  omega
 subst hjc
 refine hG _ _ ?_
 clear hG G
 have ad : ∀ a : D, fAddL S5 (.ref k) (.lst [a]) = some (xs ++ [a]) := fun a => add_rl at4 (sz_le (by simp only [List.length_cons, List.length_nil]; omega))
 (simp_arith! [ad])
 have nall : ∀ d, d ∈ xs ++ [nestD j] → Npp ms d := fun d hd => by
  rcases List.mem_append.mp hd with hd | hd
  ·exact hx d hd
  ·rw [List.mem_singleton.mp hd]
   exact npp_nest c0 (by omega)
 exact ⟨t4.hd.mono (by omega), up4, .inl ⟨bareL_iff.mpr fun d hd => (nall d hd).br, fun S' t' => q _ S' nall (by rw [List.length_append, List.length_singleton]; omega) t'⟩⟩
end Pv
namespace Q30
open PySem PySem.Spec PyProof.Rows L2 Pv
def tb_Crowded : List (Nat × Bool) := [(0, true), (1, false)]
def tb_Halted : List (Nat × Bool) := [(0, false), (1, false)]
def tb_LookupError : List (Nat × Bool) := [(0, false), (1, true)]
def tb_Missing : List (Nat × Bool) := [(0, false), (1, true)]
def tb_NoPlace : List (Nat × Bool) := [(0, false), (1, true)]
def tb_NotRight : List (Nat × Bool) := [(0, false), (1, false)]
def tb_Refused : List (Nat × Bool) := [(0, true), (1, false)]
noncomputable def b__law_hand : SX := sSeq (sAsg (eIf (tOf (e2 fLt (eVar 1) (eCB (fn1 gLen) (aCons (eVar 0) (aNil))))) (e2 fIx (eVar 0) (eVar 1)) (eC (.int 0))) (gN 2)) (sSeq (sAsg (e2 fMul (e2 fMod (eCB (fn1 gAbs) (aCons (eVar 2) (aNil))) (e2 fMul (e2 fPow (eC (.int 10)) (eC (.int 60))) (e2 fPow (eC (.int 10)) (eC (.int 60))))) (eCB (fn1 gInt) (aCons (e2 fGe (eCB (fn1 gAbs) (aCons (eVar 2) (aNil))) (e2 fPow (eC (.int 10)) (eC (.int 18)))) (aNil)))) (gN 3)) (sRet (eBx (lDisp (aCons (eVar 3) (aCons (e2 fAdd (e2 fAdd (e2 fMod (eVar 2) (eC (.int 2305843009213693951))) (e2 fMul (eC (.int 104729)) (eVar 1))) (eC (.int 7))) (aCons (eC (.int 0)) (aNil))))))))
noncomputable def b_counted (k_counted : Con) : SX := sSeq (sAsg (e2 fIx (eVar 0) (eC (.int 0))) (gN 1)) (sSeq (sIf (tOf (e2 fIn (eVar 1) (eTup (aCons (eC (.str "fig")) (aCons (eC (.str "reg")) (aCons (eC (.str "share")) (aNil))))))) (sRet (eTup (aCons (eC (.int 1)) (aCons (eC (.int 0)) (aNil))))) (sNil)) (sSeq (sIf (tOf (e2 fIn (eVar 1) (eTup (aCons (eC (.str "times")) (aCons (eC (.str "by")) (aNil)))))) (sRet (eCall k_counted (aCons (e2 fIx (eVar 0) (eC (.int 2))) (aNil)))) (sNil)) (sSeq (sPar 2 3 (aCons (eCall k_counted (aCons (e2 fIx (eVar 0) (e1 fNeg (eC (.int 2)))) (aNil))) (aCons (eCall k_counted (aCons (e2 fIx (eVar 0) (e1 fNeg (eC (.int 1)))) (aNil))) (aNil)))) (sSeq (sIf (tOf (e2 fIn (eVar 1) (eTup (aCons (eC (.str "sum")) (aCons (eC (.str "less")) (aNil)))))) (sRet (eTup (aCons (e2 fMul (e2 fIx (eVar 2) (eC (.int 0))) (e2 fIx (eVar 3) (eC (.int 0)))) (aCons (e2 fAdd (e2 fIx (eVar 2) (eC (.int 1))) (e2 fIx (eVar 3) (eC (.int 1)))) (aNil))))) (sNil)) (sSeq (sIf (tOf (e2 fIn (eVar 1) (eTup (aCons (eC (.str "least")) (aCons (eC (.str "most")) (aNil)))))) (sRet (eTup (aCons (e2 fAdd (e2 fIx (eVar 2) (eC (.int 0))) (e2 fIx (eVar 3) (eC (.int 0)))) (aCons (e2 fAdd (e2 fAdd (e2 fIx (eVar 2) (eC (.int 1))) (e2 fIx (eVar 3) (eC (.int 1)))) (e2 fMul (e2 fIx (eVar 2) (eC (.int 0))) (e2 fIx (eVar 3) (eC (.int 0))))) (aNil))))) (sNil)) (sSeq (sIf (tOf (e2 fEq (eVar 1) (eC (.str "where")))) (sRet (eTup (aCons (e2 fAdd (e2 fIx (eVar 2) (eC (.int 0))) (e2 fIx (eVar 3) (eC (.int 0)))) (aCons (e2 fAdd (e2 fAdd (e2 fIx (eVar 2) (eC (.int 1))) (e2 fIx (eVar 3) (eC (.int 1)))) (eC (.int 1))) (aNil))))) (sNil)) (sRet (eTup (aCons (eCB (fn2 gMax2) (aCons (e2 fIx (eVar 2) (eC (.int 0))) (aCons (e2 fIx (eVar 3) (eC (.int 0))) (aNil)))) (aCons (eCB (fn2 gMax2) (aCons (e2 fIx (eVar 2) (eC (.int 1))) (aCons (e2 fIx (eVar 3) (eC (.int 1))) (aNil)))) (aNil)))))))))))
noncomputable def b_borders (k_counted : Con) : SX := sRet (e2 fIx (eCall k_counted (aCons (eVar 0) (aNil))) (eC (.int 1)))
noncomputable def b_members_in (k_members_in : Con) : SX := sSeq (sAsg (eBx (lDisp (aNil))) (gN 2)) (sSeq (sFor (iEnum' (eVar 0)) (gT 2 (gsCons (gN 3) (gsCons (gN 4) (gsNil)))) (sSeq (sExpr (eMt hAppend (eVar 2) (aCons (eTup (aCons (e2 fAdd (eVar 1) (eTup (aCons (eVar 3) (aNil)))) (aCons (eVar 4) (aNil)))) (aNil)))) (sIf (tOf (e2 fEq (e2 fIx (eVar 4) (eC (.int 0))) (eC (.str "house")))) (sExpr (eMt hExtend (eVar 2) (aCons (eCall k_members_in (aCons (e2 fIx (eVar 4) (eC (.int 2))) (aCons (e2 fAdd (eVar 1) (eTup (aCons (eVar 3) (aNil)))) (aNil)))) (aNil)))) (sNil)))) (sRet (eVar 2)))
noncomputable def b_crowd (k_members_in k_borders : Con) : SX := sSeq (sAsg (eCall k_members_in (aCons (e2 fIx (eVar 0) (eC (.int 1))) (aCons (eTup (aNil)) (aNil)))) (gN 1)) (sSeq (sAsgL false (lLc (iSeq (eVar 1)) (gT 2 (gsCons (gN 5) (gsCons (gN 4) (gsNil)))) (tOf (e2 fEq (e2 fIx (eVar 4) (eC (.int 0))) (eC (.str "one")))) (eVar 4) [5, 4]) 2) (sSeq (sIf (tOf (e2 fGt (eCB (fn1 gLen) (aCons (eVar 2) (aNil))) (eC d_MOST_ONES))) (sRet (eC (.str "ones"))) (sNil)) (sSeq (sIf (tOf (e2 fGt (e2 fSub (eCB (fn1 gLen) (aCons (eVar 1) (aNil))) (eCB (fn1 gLen) (aCons (eVar 2) (aNil)))) (eC d_MOST_HOUSES))) (sRet (eC (.str "houses"))) (sNil)) (sSeq (sIf (tOf (eCB (fn1 gAny) (aCons (eFz (lLc (iSeq (eVar 1)) (gT 2 (gsCons (gN 5) (gsCons (gN 4) (gsNil)))) (tOf (e2 fEq (e2 fIx (eVar 4) (eC (.int 0))) (eC (.str "house")))) (e2 fGt (eCB (fn1 gLen) (aCons (eVar 5) (aNil))) (eC d_MOST_DEEP)) [5, 4])) (aNil)))) (sRet (eC (.str "deep"))) (sNil)) (sSeq (sAsg (eCB (fn1 gSum) (aCons (eFz (lLc2 (iSeq (eVar 2)) (gN 4) (e2 fIx (e2 fIx (eVar 4) (eC (.int 1))) (eC (.int 3))) (gN 6) (eCall k_borders (aCons (eVar 6) (aNil))) [4, 6] [6])) (aNil))) (gN 3)) (sRet (eIf (tOf (e2 fGt (eVar 3) (e1 (fKD kd_MOST_BORDERS) (e2 fIx (eVar 0) (eC (.int 0)))))) (eC (.str "borders")) (eC .non))))))))
noncomputable def b_is_whole : SX := sRet (eAnd (e1 (gIs "int") (eVar 0)) (eAnd (e1 fNot (e1 (gIs "bool") (eVar 0))) (eAnd (e2 fLe (eVar 1) (eVar 0)) (eOr (e2 fIs (eVar 2) (eC .non)) (e2 fLe (eVar 0) (eVar 2))))))
noncomputable def b_is_path (k_is_whole : Con) : SX := sRet (eAnd (e1 (gIs "tuple") (eVar 0)) (eCB (fn1 gAll) (aCons (eFz (lLc (iSeq (eVar 0)) (gN 1) (tYes') (eCall k_is_whole (aCons (eVar 1) (aCons (eC (.int 0)) (aCons (eC .non) (aNil))))) [1])) (aNil))))
noncomputable def b_members_at : SX := sSeq (sAsg (e2 fIx (eVar 0) (eC (.int 1))) (gN 2)) (sSeq (sFor (iSeq (eVar 1)) (gN 3) (sSeq (sIf (tOr' (tOf (e2 fGe (eVar 3) (eCB (fn1 gLen) (aCons (eVar 2) (aNil))))) (tOf (e2 fNe (e2 fIx (e2 fIx (eVar 2) (eVar 3)) (eC (.int 0))) (eC (.str "house"))))) (sRet (eC .non)) (sNil)) (sAsg (e2 fIx (e2 fIx (eVar 2) (eVar 3)) (eC (.int 2))) (gN 2)))) (sRet (eVar 2)))
noncomputable def b_replaced (k_replaced : Con) : SX := sSeq (sIf (tOf (e2 fEq (eVar 1) (eTup (aNil)))) (sRet (eVar 2)) (sNil)) (sSeq (sAsg (e2 fIx (eVar 0) (e2 fIx (eVar 1) (eC (.int 0)))) (gT 3 (gsCons (gN 4) (gsCons (gN 5) (gsCons (gN 6) (gsNil)))))) (sSeq (sAsg (eTup (aCons (eVar 4) (aCons (eVar 5) (aCons (eCall k_replaced (aCons (eVar 6) (aCons (eSl fSlT (eVar 1) (oSome (eC (.int 1))) (oNo)) (aCons (eVar 2) (aNil))))) (aNil))))) (gN 3)) (sRet (e2 fAdd (e2 fAdd (eSl fSlT (eVar 0) (oNo) (oSome (e2 fIx (eVar 1) (eC (.int 0))))) (eTup (aCons (eVar 3) (aNil)))) (eSl fSlT (eVar 0) (oSome (e2 fAdd (e2 fIx (eVar 1) (eC (.int 0))) (eC (.int 1)))) (oNo))))))
noncomputable def b_with_members (k_replaced : Con) : SX := sRet (eTup (aCons (e2 fIx (eVar 0) (eC (.int 0))) (aCons (eCall k_replaced (aCons (e2 fIx (eVar 0) (eC (.int 1))) (aCons (eVar 1) (aCons (eVar 2) (aNil))))) (aNil))))
noncomputable def b_joined (k_is_path k_members_at k_with_members k_crowd : Con) : SX := sSeq (sAsg (eIf (tOf (eCall k_is_path (aCons (eVar 1) (aNil)))) (eCall k_members_at (aCons (eVar 0) (aCons (eVar 1) (aNil)))) (eC .non)) (gN 3)) (sSeq (sIf (tOf (e2 fIs (eVar 3) (eC .non))) (sRaise 1 "path" (eVar 1)) (sNil)) (sSeq (sAsg (eCall k_with_members (aCons (eVar 0) (aCons (eVar 1) (aCons (e2 fAdd (eVar 3) (eTup (aCons (eVar 2) (aNil)))) (aNil))))) (gN 4)) (sSeq (sAsg (eCall k_crowd (aCons (eVar 4) (aNil))) (gN 5)) (sSeq (sIf (tOf (e2 fIsNot (eVar 5) (eC .non))) (sRaise 0 "what" (eVar 5)) (sNil)) (sRet (eVar 4))))))
noncomputable def b_ones (k_members_in : Con) : SX := sRet (eCB (fn1 gTuple) (aCons (eFz (lLc (iSeq (eCall k_members_in (aCons (e2 fIx (eVar 0) (eC (.int 1))) (aCons (eTup (aNil)) (aNil))))) (gT 2 (gsCons (gN 1) (gsCons (gN 2) (gsNil)))) (tOf (e2 fEq (e2 fIx (eVar 2) (eC (.int 0))) (eC (.str "one")))) (eTup (aCons (eVar 1) (aCons (eVar 2) (aNil)))) [1, 2])) (aNil)))
noncomputable def b_motes (k_ones : Con) : SX := sRet (eCB (fn1 gSum) (aCons (eFz (lLc (iSeq (eCall k_ones (aCons (eVar 0) (aNil)))) (gT 2 (gsCons (gN 2) (gsCons (gN 1) (gsNil)))) (tYes') (e2 fIx (eVar 1) (eC (.int 4))) [2, 1])) (aNil)))
noncomputable def b__law_take : SX := sSeq (sIf (tOf (e2 fGt (e2 fIx (eVar 0) (eC (.int 0))) (eC (.int 0)))) (sSeq (sAsg (e2 fMod (e2 fIx (eVar 0) (eC (.int 0))) (eVar 1)) (gN 5)) (sSeq (sAsg (e2 fDiv (e2 fIx (eVar 0) (eC (.int 0))) (eVar 1)) (gS (eVar 0) (eC (.int 0)))) (sRet (eVar 5)))) (sNil)) (sSeq (sAsg (e2 fAdd (e2 fIx (eVar 0) (eC (.int 2))) (eC (.int 1))) (gS (eVar 0) (eC (.int 2)))) (sSeq (sAsg (eFz (lDisp (aCons (eC (.int 2147483647)) (aCons (eC (.int 2147483629)) (aCons (eC (.int 2147483587)) (aCons (eC (.int 2147483579)) (aCons (eC (.int 2147483563)) (aCons (eC (.int 2147483549)) (aCons (eC (.int 2147483543)) (aCons (eC (.int 2147483497)) (aNil))))))))))) (gN 2)) (sSeq (sAsg (e2 fIx (eVar 2) (e2 fMod (e2 fIx (eVar 0) (eC (.int 2))) (eC (.int 8)))) (gN 3)) (sSeq (sAsg (e2 fAdd (e2 fIx (eVar 0) (eC (.int 1))) (e2 fMul (e2 fMul (eC (.int 69621)) (e2 fIx (eVar 0) (eC (.int 2)))) (e2 fIx (eVar 0) (eC (.int 2))))) (gN 4)) (sSeq (sAsg (e2 fAdd (e2 fMod (e2 fMod (eVar 4) (e2 fPow (eVar 3) (eC (.int 2)))) (eVar 3)) (eC (.int 1))) (gN 4)) (sRet (e2 fMod (e2 fDiv (e2 fMod (e2 fMul (eVar 4) (e2 fAdd (e2 fMod (eVar 4) (eC (.int 1009))) (e2 fIx (eVar 0) (eC (.int 2))))) (eVar 3)) (eC (.int 7))) (eVar 1))))))))
noncomputable def b__law_walk (k__law_walk : Con) : SX := sSeq (sAsg (eBx (lDisp (aNil))) (gN 2)) (sSeq (sFor (iEnum' (eVar 0)) (gT 2 (gsCons (gN 3) (gsCons (gN 4) (gsNil)))) (sSeq (sExpr (eMt hAppend (eVar 2) (aCons (eTup (aCons (e2 fAdd (eVar 1) (eTup (aCons (eVar 3) (aNil)))) (aCons (eVar 4) (aNil)))) (aNil)))) (sIf (tOf (e2 fEq (e2 fIx (eVar 4) (eC (.int 0))) (eC (.str "house")))) (sExpr (eMt hExtend (eVar 2) (aCons (eCall k__law_walk (aCons (e2 fIx (eVar 4) (eC (.int 2))) (aCons (e2 fAdd (eVar 1) (eTup (aCons (eVar 3) (aNil)))) (aNil)))) (aNil)))) (sNil)))) (sRet (eVar 2)))
noncomputable def b__law_all_ones (k__law_all_ones : Con) : SX := sSeq (sAsg (eBx (lDisp (aNil))) (gN 1)) (sSeq (sFor (iSeq (eVar 0)) (gN 2) (sExpr (eMt hExtend (eVar 1) (aCons (eIf (tOf (e2 fEq (e2 fIx (eVar 2) (eC (.int 0))) (eC (.str "one")))) (eFz (lDisp (aCons (eVar 2) (aNil)))) (eCall k__law_all_ones (aCons (e2 fIx (eVar 2) (eC (.int 2))) (aNil)))) (aNil))))) (sRet (eVar 1)))
noncomputable def b__law_purses (k__law_all_ones : Con) : SX := sRet (eCB (fn1 gSum) (aCons (eFz (lLc (iSeq (eCall k__law_all_ones (aCons (eVar 0) (aNil)))) (gN 1) (tYes') (e2 fIx (eVar 1) (eC (.int 4))) [1])) (aNil)))
noncomputable def b__law_named : SX := sSeq (sIf (tOf (e1 (gIsO tb_Crowded) (eVar 0))) (sRet (e1 (gFld "what" [0]) (eVar 0))) (sNil)) (sRet (eIf (tOf (e1 (gIsO tb_NoPlace) (eVar 0))) (e1 (gFld "path" [1]) (eVar 0)) (e1 (gFld "number" []) (eVar 0))))
noncomputable def b__law_lost (k__law_named : Con) : SX := sSeq (sAsg (eFz (lDisp (aCons (e1 (gIsO tb_Refused) (eVar 3)) (aCons (e1 (gIsO tb_Missing) (eVar 3)) (aCons (e1 (gIsO tb_Halted) (eVar 3)) (aNil)))))) (gN 4)) (sSeq (sAsg (eDBx [Sum.inr "Crowded", Sum.inr "NoPlace"] (aCons (e1 (gIsO tb_Crowded) (eVar 3)) (aCons (e1 (gIsO tb_NoPlace) (eVar 3)) (aNil)))) (gN 5)) (sSeq (sDP (e1 (gIsO tb_NotRight) (eVar 3)) (eVar 5) (eC (.str "NotRight"))) (sRet (eAnd (e2 fDIxB (eVar 5) (eVar 1)) (eAnd (e2 fEq (e2 fCntB (eVar 4) (eC (.bl true))) (eC (.int 1))) (e2 fEq (eCB (fn1 gReprE) (aCons (eCall k__law_named (aCons (eVar 3) (aNil))) (aNil))) (eCB (fn1 gReprE) (aCons (eVar 2) (aNil)))))))))
noncomputable def b__law_of (k__law_take : Con) : SX := sRet (e2 fIx (eVar 1) (eCall k__law_take (aCons (eVar 0) (aCons (eCB (fn1 gLen) (aCons (eVar 1) (aNil))) (aNil)))))
noncomputable def b__law_figure (k__law_of k__law_take : Con) : SX := sSeq (sAsg (eFz (lDisp (aCons (eC (.int 0)) (aCons (eC (.int 1)) (aCons (e1 fNeg (eC (.int 1))) (aCons (eC (.int 50)) (aCons (eC (.int 100)) (aCons (eC (.int 250)) (aCons (eC (.int 500)) (aCons (e1 fNeg (eC (.int 500))) (aCons (eC (.int 1000)) (aCons (e1 fNeg (eC (.int 1000))) (aNil))))))))))))) (gN 1)) (sRet (eCall k__law_of (aCons (eVar 0) (aCons (eFz (l2 fAddL (eVar 1) (eFz (lDisp (aCons (e2 fSub (eCall k__law_take (aCons (eVar 0) (aCons (eC (.int 2001)) (aNil)))) (eC (.int 1000))) (aCons (e2 fSub (eCall k__law_take (aCons (eVar 0) (aCons (eC (.int 201)) (aNil)))) (eC (.int 100))) (aNil))))))) (aNil)))))
noncomputable def b__law_registers (k__law_figure : Con) : SX := sRet (eCB (fn1 gTuple) (aCons (eFz (lLc (iRg1 (eC (.int 4))) (gN 1) (tYes') (eCall k__law_figure (aCons (eVar 0) (aNil))) [1])) (aNil)))
noncomputable def b__law_one (k__law_of k__law_take k__law_registers : Con) : SX := sSeq (sAsg (eCall k__law_of (aCons (eVar 0) (aCons (eFz (lDisp (aCons (eC (.int 1)) (aCons (eC (.int 2)) (aCons (eC (.int 10)) (aCons (eC (.int 1000)) (aCons (e2 fPow (eC (.int 10)) (eC (.int 12))) (aCons (e2 fAdd (eC (.int 1)) (eCall k__law_take (aCons (eVar 0) (aCons (e2 fPow (eC (.int 10)) (eC (.int 6))) (aNil))))) (aNil))))))))) (aNil)))) (gN 2)) (sSeq (sAsg (eCall k__law_of (aCons (eVar 0) (aCons (eFz (lDisp (aCons (eVar 2) (aCons (eC (.int 0)) (aCons (eC (.int 1)) (aCons (eC (.int 7)) (aCons (e2 fMul (eC (.int 3)) (eVar 2)) (aCons (eCall k__law_take (aCons (eVar 0) (aCons (e2 fPow (eC (.int 10)) (eC (.int 12))) (aNil)))) (aNil))))))))) (aNil)))) (gN 3)) (sSeq (sPar 5 6 (aCons (eCall k__law_of (aCons (eVar 0) (aCons (eFz (lDisp (aCons (eC (.int 0)) (aCons (eC (.int 1)) (aCons (eCall k__law_take (aCons (eVar 0) (aCons (eC (.int 99)) (aNil)))) (aNil)))))) (aNil)))) (aCons (eCall k__law_take (aCons (eVar 0) (aCons (eC (.int 40)) (aNil)))) (aNil)))) (sSeq (sAsg (eCall k__law_of (aCons (eVar 0) (aCons (eFz (lDisp (aCons (eC (.int 0)) (aCons (e1 fNeg (eC (.int 1))) (aCons (e2 fPow (eC (.int 10)) (eC (.int 9))) (aCons (e2 fSub (eCall k__law_take (aCons (eVar 0) (aCons (e2 fPow (eC (.int 10)) (eC (.int 10))) (aNil)))) (e2 fMul (eC (.int 5)) (e2 fPow (eC (.int 10)) (eC (.int 9))))) (aNil))))))) (aNil)))) (gN 4)) (sRet (eTup (aCons (eC (.str "one")) (aCons (eVar 1) (aCons (eCall k__law_registers (aCons (eVar 0) (aNil))) (aCons (eVar 2) (aCons (eVar 3) (aCons (eVar 5) (aCons (eVar 6) (aCons (eVar 4) (aNil))))))))))))))
noncomputable def b__law_homes (k__law_one k__law_take : Con) : SX := sSeq (sAsg (eTup (aCons (eC (.str "plain")) (aCons (eC (.int 0)) (aCons (eTup (aCons (eC (.int 0)) (aCons (eC (.int 0)) (aCons (eC (.int 0)) (aCons (eC (.int 0)) (aNil)))))) (aCons (e2 fMul (eTup (aCons (eTup (aCons (eC (.str "fig")) (aCons (eC (.int 0)) (aNil)))) (aNil))) (eVar 1)) (aCons (e2 fMul (eTup (aCons (eTup (aNil)) (aNil))) (eVar 1)) (aNil))))))) (gN 2)) (sSeq (sPar 5 6 (aCons (eCall k__law_one (aCons (eVar 0) (aCons (eVar 2) (aNil)))) (aCons (eCall k__law_one (aCons (eVar 0) (aCons (eVar 2) (aNil)))) (aNil)))) (sSeq (sAsg (eBx (lDisp (aCons (eTup (aCons (eC (.str "house")) (aCons (eC (.str "a")) (aCons (e2 fMul (eTup (aCons (eVar 5) (aNil))) (eCall k__law_take (aCons (eVar 0) (aCons (eC (.int 2)) (aNil))))) (aNil))))) (aCons (eTup (aCons (eC (.str "house")) (aCons (eC (.str "b")) (aCons (eTup (aNil)) (aNil))))) (aCons (eVar 5) (aCons (eVar 6) (aNil))))))) (gN 3)) (sSeq (sExpr (eMt hAppend (eVar 3) (aCons (eTup (aCons (eC (.str "house")) (aCons (eC (.str "c")) (aCons (eTup (aCons (e2 fIx (eVar 3) (eC (.int 1))) (aCons (eVar 5) (aCons (eTup (aCons (eC (.str "house")) (aCons (eC (.str "d")) (aCons (eTup (aCons (eVar 6) (aNil))) (aNil))))) (aNil))))) (aNil))))) (aNil)))) (sSeq (sAsgL false (lLc (iRg1 (eCall k__law_take (aCons (eVar 0) (aCons (eC (.int 4)) (aNil))))) (gN 7) (tYes') (e2 fIx (eVar 3) (eCall k__law_take (aCons (eVar 0) (aCons (eC (.int 5)) (aNil))))) [7]) 4) (sRet (eTup (aCons (eVar 1) (aCons (eCB (fn1 gTuple) (aCons (eVar 4) (aNil))) (aNil)))))))))
noncomputable def b__law_stands : SX := sSeq (sFor (iSeq (eVar 1)) (gN 2) (sSeq (sIf (tOr' (tOf (e2 fGe (eVar 2) (eCB (fn1 gLen) (aCons (eVar 0) (aNil))))) (tOf (e2 fNe (e2 fIx (e2 fIx (eVar 0) (eVar 2)) (eC (.int 0))) (eC (.str "house"))))) (sRet (eC .non)) (sNil)) (sAsg (e2 fIx (e2 fIx (eVar 0) (eVar 2)) (eC (.int 2))) (gN 0)))) (sRet (eVar 0))
noncomputable def b__law_set (k__law_set : Con) : SX := sSeq (sIf (tOf (e2 fEq (eVar 1) (eTup (aNil)))) (sRet (eVar 2)) (sNil)) (sSeq (sAsg (e2 fIx (eVar 0) (e2 fIx (eVar 1) (eC (.int 0)))) (gN 3)) (sSeq (sAsg (e2 fAdd (eSl fSlT (eVar 3) (oNo) (oSome (eC (.int 2)))) (eTup (aCons (eCall k__law_set (aCons (e2 fIx (eVar 3) (eC (.int 2))) (aCons (eSl fSlT (eVar 1) (oSome (eC (.int 1))) (oNo)) (aCons (eVar 2) (aNil))))) (aNil)))) (gN 3)) (sRet (e2 fAdd (e2 fAdd (eSl fSlT (eVar 0) (oNo) (oSome (e2 fIx (eVar 1) (eC (.int 0))))) (eTup (aCons (eVar 3) (aNil)))) (eSl fSlT (eVar 0) (oSome (e2 fAdd (e2 fIx (eVar 1) (eC (.int 0))) (eC (.int 1)))) (oNo))))))
noncomputable def b__law_no_paths (k__law_walk k__law_of : Con) : SX := sSeq (sAsg (eBx (lDisp (aCons (eC .non) (aCons (eC (.bl true)) (aCons (eC (.int 0)) (aCons (e1 fNeg (eC (.int 1))) (aCons (eC (.str "")) (aCons (eC (.str "0")) (aCons (eFz (lDisp (aNil))) (aCons (eFz (lDisp (aCons (eC (.int 0)) (aNil)))) (aCons (eDic0) (aCons (eTup (aCons (eC .non) (aNil))) (aCons (eTup (aCons (eC (.bl true)) (aNil))) (aCons (eTup (aCons (eC (.bl false)) (aNil))) (aCons (eTup (aCons (eC (.str "0")) (aNil))) (aCons (eTup (aCons (eTup (aCons (eC (.int 0)) (aNil))) (aNil))) (aCons (eTup (aCons (e1 fNeg (eC (.int 1))) (aNil))) (aCons (eTup (aCons (eC (.int 0)) (aCons (e1 fNeg (eC (.int 1))) (aNil)))) (aNil))))))))))))))))))) (gN 2)) (sSeq (sAsg (eBx (l2 fAddL (eVar 2) (eFz (lDisp (aCons (eTup (aCons (eCB (fn1 gLen) (aCons (eVar 1) (aNil))) (aNil))) (aCons (eTup (aCons (eCB (fn1 gLen) (aCons (eVar 1) (aNil))) (aCons (eC (.int 0)) (aNil)))) (aCons (eTup (aCons (e2 fPow (eC (.int 10)) (eC (.int 30))) (aNil))) (aNil)))))))) (gN 2)) (sSeq (sFor (iSeq (eCall k__law_walk (aCons (eVar 1) (aCons (eTup (aNil)) (aNil))))) (gT 2 (gsCons (gN 5) (gsCons (gN 6) (gsNil)))) (sExpr (eMt hExtend (eVar 2) (aCons (eIf (tOf (e2 fEq (e2 fIx (eVar 6) (eC (.int 0))) (eC (.str "one")))) (eFz (lDisp (aCons (eVar 5) (aCons (e2 fAdd (eVar 5) (eTup (aCons (eC (.int 0)) (aNil)))) (aNil))))) (eFz (lDisp (aCons (e2 fAdd (eVar 5) (eTup (aCons (eCB (fn1 gLen) (aCons (e2 fIx (eVar 6) (eC (.int 2))) (aNil))) (aNil)))) (aNil))))) (aNil))))) (sSeq (sAsg (eTup (aNil)) (gN 3)) (sSeq (sFor (iRg1 (eCall k__law_of (aCons (eVar 0) (aCons (eFz (lDisp (aCons (eC (.int 1)) (aCons (eC (.int 2)) (aCons (eC (.int 25)) (aNil)))))) (aNil))))) (gN 4) (sAsg (eTup (aCons (eVar 3) (aNil))) (gN 3))) (sRet (eFz (l2 fAddL (eVar 2) (eFz (lDisp (aCons (eVar 3) (aNil)))))))))))
noncomputable def b__law_leaf (k__law_take k__law_figure : Con) : SX := sSeq (sAsg (eCall k__law_take (aCons (eVar 0) (aCons (eC (.int 4)) (aNil)))) (gN 2)) (sSeq (sIf (tOf (e2 fEq (eVar 2) (eC (.int 0)))) (sRet (eTup (aCons (eC (.str "reg")) (aCons (eCall k__law_take (aCons (eVar 0) (aCons (eC (.int 4)) (aNil)))) (aNil))))) (sNil)) (sRet (eIf (tOf (e2 fEq (eVar 2) (eC (.int 1)))) (eTup (aCons (eC (.str "fig")) (aCons (eCall k__law_figure (aCons (eVar 0) (aNil))) (aNil)))) (eTup (aCons (eC (.str "share")) (aCons (eCall k__law_take (aCons (eVar 0) (aCons (eVar 1) (aNil)))) (aNil)))))))
noncomputable def b__law_expression (k__law_of k__law_leaf k__law_expression k__law_take k__law_figure : Con) : SX := sSeq (sAsg (eFz (lDisp (aCons (eC (.str "sum")) (aCons (eC (.str "less")) (aCons (eC (.str "least")) (aCons (eC (.str "most")) (aCons (eC (.str "least")) (aCons (eC (.str "most")) (aCons (eC (.str "times")) (aCons (eC (.str "by")) (aCons (eC (.str "when")) (aCons (eC (.str "leaf")) (aNil))))))))))))) (gN 4)) (sSeq (sAsg (eFz (l2 fAddL (eVar 4) (eFz (l2 fMulB (eFz (lDisp (aCons (eC (.str "where")) (aCons (eC (.str "where")) (aNil))))) (eVar 3))))) (gN 4)) (sSeq (sAsg (eIf (tOf (e2 fEq (eVar 2) (eC (.int 0)))) (eC (.str "leaf")) (eCall k__law_of (aCons (eVar 0) (aCons (eVar 4) (aNil))))) (gN 5)) (sSeq (sIf (tOf (e2 fEq (eVar 5) (eC (.str "leaf")))) (sRet (eCall k__law_leaf (aCons (eVar 0) (aCons (eVar 1) (aNil))))) (sNil)) (sSeq (sAsg (eCall k__law_expression (aCons (eVar 0) (aCons (eVar 1) (aCons (e2 fSub (eVar 2) (eC (.int 1))) (aCons (eVar 3) (aNil)))))) (gN 6)) (sSeq (sIf (tOf (e2 fEq (eVar 5) (eC (.str "times")))) (sRet (eTup (aCons (eVar 5) (aCons (e2 fSub (eCall k__law_take (aCons (eVar 0) (aCons (eC (.int 19)) (aNil)))) (eC (.int 9))) (aCons (eVar 6) (aNil)))))) (sNil)) (sSeq (sIf (tOf (e2 fEq (eVar 5) (eC (.str "by")))) (sRet (eTup (aCons (eVar 5) (aCons (eCall k__law_take (aCons (eVar 0) (aCons (eC (.int 4)) (aNil)))) (aCons (eVar 6) (aNil)))))) (sNil)) (sSeq (sAsg (eCall k__law_expression (aCons (eVar 0) (aCons (eVar 1) (aCons (e2 fSub (eVar 2) (eC (.int 1))) (aCons (eVar 3) (aNil)))))) (gN 7)) (sSeq (sIf (tOf (e2 fEq (eVar 5) (eC (.str "when")))) (sRet (eTup (aCons (eVar 5) (aCons (eCall k__law_take (aCons (eVar 0) (aCons (eC (.int 4)) (aNil)))) (aCons (eCall k__law_figure (aCons (eVar 0) (aNil))) (aCons (eVar 6) (aCons (eVar 7) (aNil)))))))) (sNil)) (sSeq (sIf (tOf (e2 fEq (eVar 5) (eC (.str "where")))) (sSeq (sAsg (eCall k__law_of (aCons (eVar 0) (aCons (eFz (lDisp (aCons (eC (.int 1)) (aCons (eC (.int 250)) (aCons (eC (.int 333)) (aCons (eC (.int 500)) (aCons (eC (.int 1000)) (aCons (e2 fAdd (eC (.int 1)) (eCall k__law_take (aCons (eVar 0) (aCons (eC (.int 1000)) (aNil))))) (aNil))))))))) (aNil)))) (gN 8)) (sRet (eTup (aCons (eVar 5) (aCons (eCall k__law_take (aCons (eVar 0) (aCons (eVar 1) (aNil)))) (aCons (eVar 8) (aCons (eVar 6) (aCons (eVar 7) (aNil))))))))) (sNil)) (sRet (eTup (aCons (eVar 5) (aCons (eVar 6) (aCons (eVar 7) (aNil)))))))))))))))
noncomputable def b__law_stake (k__law_of k__law_take k__law_expression : Con) : SX := sSeq (sAsg (eCall k__law_of (aCons (eVar 0) (aCons (eFz (lDisp (aCons (eC (.int 500)) (aCons (eC (.int 125)) (aCons (eC (.int 50)) (aCons (eC (.int 1)) (aCons (e2 fAdd (eC (.int 1)) (eCall k__law_take (aCons (eVar 0) (aCons (eC (.int 500)) (aNil))))) (aNil)))))))) (aNil)))) (gN 4)) (sSeq (sIf (tOf (e2 fEq (eCall k__law_take (aCons (eVar 0) (aCons (eC (.int 4)) (aNil)))) (eC (.int 0)))) (sRet (eTup (aCons (eC (.str "fig")) (aCons (eCall k__law_of (aCons (eVar 0) (aCons (eFz (lDisp (aCons (eC (.int 0)) (aCons (eC (.int 0)) (aCons (eVar 4) (aCons (e1 fNeg (eVar 4)) (aNil))))))) (aNil)))) (aNil))))) (sNil)) (sSeq (sAsg (eTup (aCons (eC (.str "most")) (aCons (eTup (aCons (eC (.str "fig")) (aCons (e1 fNeg (eVar 4)) (aNil)))) (aCons (eCall k__law_expression (aCons (eVar 0) (aCons (eVar 1) (aCons (eVar 2) (aCons (eVar 3) (aNil)))))) (aNil))))) (gN 5)) (sRet (eTup (aCons (eC (.str "least")) (aCons (eTup (aCons (eC (.str "fig")) (aCons (eVar 4) (aNil)))) (aCons (eVar 5) (aNil))))))))
noncomputable def b__law_deeds (k__law_take k__law_of k__law_figure k__law_deeds : Con) : SX := sSeq (sAsg (eBx (lDisp (aNil))) (gN 3)) (sSeq (sFor (iRg1 (eCall k__law_take (aCons (eVar 0) (aCons (eC (.int 4)) (aNil))))) (gN 4) (sSeq (sPar 6 7 (aCons (eCall k__law_take (aCons (eVar 0) (aCons (eC (.int 4)) (aNil)))) (aCons (eCall k__law_of (aCons (eVar 0) (aCons (eFz (lDisp (aCons (eC (.str "put")) (aCons (eC (.str "add")) (aCons (eC (.str "copy")) (aCons (eC (.str "plus")) (aCons (eC (.str "told")) (aCons (eC (.str "add")) (aNil))))))))) (aNil)))) (aNil)))) (sIf (tOf (e2 fIn (eVar 7) (eTup (aCons (eC (.str "put")) (aCons (eC (.str "add")) (aNil)))))) (sExpr (eMt hAppend (eVar 3) (aCons (eTup (aCons (eVar 7) (aCons (eVar 6) (aCons (eCall k__law_figure (aCons (eVar 0) (aNil))) (aNil))))) (aNil)))) (sIf (tOf (e2 fIn (eVar 7) (eTup (aCons (eC (.str "copy")) (aCons (eC (.str "plus")) (aNil)))))) (sExpr (eMt hAppend (eVar 3) (aCons (eTup (aCons (eVar 7) (aCons (eVar 6) (aCons (eCall k__law_take (aCons (eVar 0) (aCons (eC (.int 4)) (aNil)))) (aNil))))) (aNil)))) (sExpr (eMt hAppend (eVar 3) (aCons (eTup (aCons (eVar 7) (aCons (eVar 6) (aCons (eCall k__law_take (aCons (eVar 0) (aCons (eVar 1) (aNil)))) (aNil))))) (aNil)))))))) (sSeq (sIf (tAnd' (tOf (e2 fGt (eVar 2) (eC (.int 0)))) (tOf (e2 fEq (eCall k__law_take (aCons (eVar 0) (aCons (eC (.int 3)) (aNil)))) (eC (.int 0))))) (sSeq (sAsgL false (lLc (iRg1 (eC (.int 2))) (gN 4) (tYes') (eCall k__law_deeds (aCons (eVar 0) (aCons (eVar 1) (aCons (e2 fSub (eVar 2) (eC (.int 1))) (aNil))))) [4]) 5) (sExpr (eMt hAppend (eVar 3) (aCons (eTup (aCons (eC (.str "when")) (aCons (eCall k__law_take (aCons (eVar 0) (aCons (eC (.int 4)) (aNil)))) (aCons (eCall k__law_figure (aCons (eVar 0) (aNil))) (aCons (e2 fIx (eVar 5) (eC (.int 0))) (aCons (e2 fIx (eVar 5) (eC (.int 1))) (aNil))))))) (aNil))))) (sNil)) (sRet (eCB (fn1 gTuple) (aCons (eVar 3) (aNil))))))
noncomputable def b__law_doubter (k__law_take k__law_of k__law_stake k__law_deeds k__law_registers : Con) : SX := sSeq (sPar 6 7 (aCons (eCall k__law_of (aCons (eVar 0) (aCons (eFz (lDisp (aCons (eC (.str "a")) (aCons (eC (.str "doubter")) (aCons (eC (.str "sceptics")) (aCons (eC (.str "zz")) (aNil))))))) (aNil)))) (aCons (eCall k__law_take (aCons (eVar 0) (aCons (eC (.int 5)) (aNil)))) (aNil)))) (sSeq (sAsg (eCB (fn1 gTuple) (aCons (eFz (lLc (iRg1 (eVar 1)) (gN 8) (tYes') (eCall k__law_stake (aCons (eVar 0) (aCons (eVar 1) (aCons (eVar 2) (aCons (eVar 3) (aNil)))))) [8])) (aNil))) (gN 4)) (sSeq (sAsg (eCB (fn1 gTuple) (aCons (eFz (lLc (iRg1 (eVar 1)) (gN 8) (tYes') (eCall k__law_deeds (aCons (eVar 0) (aCons (eVar 1) (aCons (eC (.int 1)) (aNil))))) [8])) (aNil))) (gN 5)) (sRet (eTup (aCons (eVar 6) (aCons (eVar 7) (aCons (eCall k__law_registers (aCons (eVar 0) (aNil))) (aCons (eVar 4) (aCons (eVar 5) (aNil))))))))))
noncomputable def b__law_new (k__law_doubter k__law_one k__law_of : Con) : SX := sSeq (sAsg (eCall k__law_doubter (aCons (eVar 0) (aCons (eVar 1) (aCons (eC (.int 0)) (aCons (eC (.bl true)) (aNil)))))) (gN 2)) (sSeq (sAsg (eCall k__law_one (aCons (eVar 0) (aCons (eIf (tOf (e2 fEq (eVar 1) (eC (.int 2)))) (eVar 2) (e2 fAdd (eSl fSlT (eVar 2) (oNo) (oSome (eC (.int 3)))) (eTup (aCons (e2 fMul (eTup (aCons (eTup (aCons (eC (.str "fig")) (aCons (eC (.int 1)) (aNil)))) (aNil))) (eVar 1)) (aCons (e2 fIx (eVar 2) (eC (.int 4))) (aNil)))))) (aNil)))) (gN 3)) (sRet (eCall k__law_of (aCons (eVar 0) (aCons (eFz (lDisp (aCons (eVar 3) (aCons (eTup (aCons (eC (.str "house")) (aCons (eC (.str "new")) (aCons (eTup (aNil)) (aNil))))) (aCons (eTup (aCons (eC (.str "house")) (aCons (eC (.str "new")) (aCons (eTup (aCons (eVar 3) (aCons (eVar 3) (aNil)))) (aNil))))) (aNil)))))) (aNil))))))
noncomputable def b__law_built_anew (k__law_walk k_joined : Con) : SX := sSeq (sAsg (eTup (aCons (e2 fIx (eVar 0) (eC (.int 0))) (aCons (eTup (aNil)) (aNil)))) (gN 1)) (sSeq (sFor (iSeq (eCall k__law_walk (aCons (e2 fIx (eVar 0) (eC (.int 1))) (aCons (eTup (aNil)) (aNil))))) (gT 2 (gsCons (gN 2) (gsCons (gN 3) (gsNil)))) (sAsg (eCall (conN k_joined) (aCons (eVar 1) (aCons (eSl fSlT (eVar 2) (oNo) (oSome (e1 fNeg (eC (.int 1))))) (aCons (eIf (tOf (e2 fEq (e2 fIx (eVar 3) (eC (.int 0))) (eC (.str "one")))) (eVar 3) (e2 fAdd (eSl fSlT (eVar 3) (oNo) (oSome (eC (.int 2)))) (eTup (aCons (eTup (aNil)) (aNil))))) (aNil))))) (gN 1))) (sRet (eVar 1)))
noncomputable def b__law_caught (k_joined : Con) : SX := sSeq (sAsg (eC .non) (gN 3)) (sSeq (sTryK [1] 4 3 (eCall k_joined (aCons (eVar 0) (aCons (eVar 1) (aCons (eVar 2) (aNil)))))) (sRet (eVar 3)))
noncomputable def b__law_right (k__law_take : Con) (k__law_new : Con) (k__law_homes : Con) (k__law_walk : Con) (k__law_set : Con) (k__law_stands : Con) (k_joined : Con) (k_motes : Con) (k__law_purses : Con) (k__law_no_paths : Con) (k__law_lost : LCon) (k__law_caught : Con) (k__law_built_anew : Con) : SX := sSeq (sAsg (e2 fAdd (eC (.int 2)) (eCall k__law_take (aCons (eVar 0) (aCons (eC (.int 2)) (aNil))))) (gN 1)) (sSeq (sAsg (eTup (aCons (eCall k__law_homes (aCons (eVar 0) (aCons (eVar 1) (aNil)))) (aCons (eCall k__law_new (aCons (eVar 0) (aCons (eVar 1) (aNil)))) (aNil)))) (gT 2 (gsCons (gN 5) (gsCons (gN 6) (gsNil))))) (sSeq (sAsg (eCB (fn1 gReprE) (aCons (eTup (aCons (eVar 5) (aCons (eVar 6) (aNil)))) (aNil))) (gN 2)) (sSeq (sAsg (eFz (l2 fAddL (eFz (lDisp (aCons (eTup (aNil)) (aNil)))) (eFz (lLc (iSeq (eCall k__law_walk (aCons (e2 fIx (eVar 5) (eC (.int 1))) (aCons (eTup (aNil)) (aNil))))) (gT 2 (gsCons (gN 4) (gsCons (gN 9) (gsNil)))) (tOf (e2 fEq (e2 fIx (eVar 9) (eC (.int 0))) (eC (.str "house")))) (eVar 4) [4, 9])))) (gN 3)) (sSeq (sFor (iSeq (eVar 3)) (gN 4) (sIf (tOr' (tOf (e2 fLt (eCB (fn1 gLen) (aCons (eVar 4) (aNil))) (eC (.int 3)))) (tOf (e2 fEq (e2 fIx (eVar 6) (eC (.int 0))) (eC (.str "one"))))) (sSeq (sAsg (eTup (aCons (eVar 1) (aCons (eCall k__law_set (aCons (e2 fIx (eVar 5) (eC (.int 1))) (aCons (eVar 4) (aCons (e2 fAdd (eCall k__law_stands (aCons (e2 fIx (eVar 5) (eC (.int 1))) (aCons (eVar 4) (aNil)))) (eTup (aCons (eVar 6) (aNil)))) (aNil))))) (aNil)))) (gN 7)) (sSeq (sAsg (eCall (conN k_joined) (aCons (eVar 5) (aCons (eVar 4) (aCons (eVar 6) (aNil))))) (gN 8)) (sSeq (sIf (tOr' (tOf (e2 fNe (eCB (fn1 gReprE) (aCons (eVar 8) (aNil))) (eCB (fn1 gReprE) (aCons (eVar 7) (aNil))))) (tOf (e2 fNe (eCB (fn1 gReprE) (aCons (eCallK (conN k_joined) (perm [2, 1, 0]) (aCons (eVar 6) (aCons (eVar 4) (aCons (eVar 5) (aNil))))) (aNil))) (eCB (fn1 gReprE) (aCons (eVar 7) (aNil)))))) (sRet (eC (.bl false))) (sNil)) (sIf (tOf (e2 fNe (eCall k_motes (aCons (eVar 8) (aNil))) (e2 fAdd (eCall k_motes (aCons (eVar 5) (aNil))) (eCall k__law_purses (aCons (eTup (aCons (eVar 6) (aNil))) (aNil)))))) (sRet (eC (.bl false))) (sNil))))) (sNil))) (sSeq (sFor (iSeq (eCall k__law_no_paths (aCons (eVar 0) (aCons (e2 fIx (eVar 5) (eC (.int 1))) (aNil))))) (gN 4) (sSeq (sIf (tNot' (tOf (eLam k__law_lost (eCall k_joined (aCons (eVar 5) (aCons (eVar 4) (aCons (eVar 6) (aNil))))) (aCons (eC (.str "NoPlace")) (aCons (eVar 4) (aNil)))))) (sRet (eC (.bl false))) (sNil)) (sIf (tNot' (tOf (e1 (gIsO tb_LookupError) (eCall k__law_caught (aCons (eVar 5) (aCons (eVar 4) (aCons (eVar 6) (aNil)))))))) (sRet (eC (.bl false))) (sNil)))) (sRet (eAnd (e2 fEq (eCB (fn1 gReprE) (aCons (eTup (aCons (eVar 5) (aCons (eVar 6) (aNil)))) (aNil))) (eVar 2)) (e2 fEq (eCB (fn1 gReprE) (aCons (eCall k__law_built_anew (aCons (eVar 5) (aNil))) (aNil))) (eCB (fn1 gReprE) (aCons (eVar 5) (aNil)))))))))))
noncomputable def b_law (k__law_right k__law_hand : Con) : SX := sRet (eCB (fn1 gAll) (aCons (eFz (lLc (iRg1 (e2 fAdd (eC (.int 1)) (eCB (fn2 gMin2) (aCons (eC (.int 3)) (aCons (eCB (fn1 gLen) (aCons (eVar 0) (aNil))) (aNil)))))) (gN 1) (tYes') (eCall k__law_right (aCons (eCall k__law_hand (aCons (eVar 0) (aCons (eVar 1) (aNil)))) (aNil))) [1])) (aNil)))
noncomputable def c__law_hand : Con := den 2 4 1 b__law_hand
noncomputable def cc_counted : Nat → Con
 | 0 => fun _ _ => none
 | n + 1 => den 1 4 0 (b_counted (cc_counted n))
noncomputable def c_counted : Con := cc_counted 9
noncomputable def c_borders : Con := den 1 1 0 (b_borders c_counted)
noncomputable def cc_members_in : Nat → Con
 | 0 => fun _ _ => none
 | n + 1 => den 2 5 0 (b_members_in (cc_members_in n))
noncomputable def c_members_in : Con := cc_members_in 6
noncomputable def c_crowd : Con := den 1 7 0 (b_crowd c_members_in c_borders)
noncomputable def c_is_whole : Con := den 3 3 0 b_is_whole
noncomputable def c_is_path : Con := den 1 2 0 (b_is_path c_is_whole)
noncomputable def c_members_at : Con := den 2 4 0 b_members_at
noncomputable def cc_replaced : Nat → Con
 | 0 => fun _ _ => none
 | n + 1 => den 3 7 0 (b_replaced (cc_replaced n))
noncomputable def c_replaced : Con := cc_replaced 12
noncomputable def c_with_members : Con := den 3 3 0 (b_with_members c_replaced)
noncomputable def c_joined : Con := den 3 6 0 (b_joined c_is_path c_members_at c_with_members c_crowd)
noncomputable def c_ones : Con := den 1 3 0 (b_ones c_members_in)
noncomputable def c_motes : Con := den 1 3 0 (b_motes c_ones)
noncomputable def c__law_take : Con := den 2 6 0 b__law_take
noncomputable def cc__law_walk : Nat → Con
 | 0 => fun _ _ => none
 | n + 1 => den 2 5 0 (b__law_walk (cc__law_walk n))
noncomputable def c__law_walk : Con := cc__law_walk 12
noncomputable def cc__law_all_ones : Nat → Con
 | 0 => fun _ _ => none
 | n + 1 => den 1 3 0 (b__law_all_ones (cc__law_all_ones n))
noncomputable def c__law_all_ones : Con := cc__law_all_ones 6
noncomputable def c__law_purses : Con := den 1 2 0 (b__law_purses c__law_all_ones)
noncomputable def c__law_named : Con := den 1 1 0 b__law_named
noncomputable def c__law_lost : LCon := cLam 3 7 0 [0, 1] 6 3 (b__law_lost c__law_named)
noncomputable def c__law_of : Con := den 2 2 0 (b__law_of c__law_take)
noncomputable def c__law_figure : Con := den 1 2 0 (b__law_figure c__law_of c__law_take)
noncomputable def c__law_registers : Con := den 1 2 0 (b__law_registers c__law_figure)
noncomputable def c__law_one : Con := den 2 7 0 (b__law_one c__law_of c__law_take c__law_registers)
noncomputable def c__law_homes : Con := den 2 8 0 (b__law_homes c__law_one c__law_take)
noncomputable def c__law_stands : Con := den 2 3 0 b__law_stands
noncomputable def cc__law_set : Nat → Con
 | 0 => fun _ _ => none
 | n + 1 => den 3 4 0 (b__law_set (cc__law_set n))
noncomputable def c__law_set : Con := cc__law_set 12
noncomputable def c__law_no_paths : Con := den 2 7 0 (b__law_no_paths c__law_walk c__law_of)
noncomputable def c__law_leaf : Con := den 2 3 0 (b__law_leaf c__law_take c__law_figure)
noncomputable def cc__law_expression : Nat → Con
 | 0 => fun _ _ => none
 | n + 1 => den 4 9 0 (b__law_expression c__law_of c__law_leaf (cc__law_expression n) c__law_take c__law_figure)
noncomputable def c__law_expression : Con := cc__law_expression 5
noncomputable def c__law_stake : Con := den 4 6 0 (b__law_stake c__law_of c__law_take c__law_expression)
noncomputable def cc__law_deeds : Nat → Con
 | 0 => fun _ _ => none
 | n + 1 => den 3 8 0 (b__law_deeds c__law_take c__law_of c__law_figure (cc__law_deeds n))
noncomputable def c__law_deeds : Con := cc__law_deeds 3
noncomputable def c__law_doubter : Con := den 4 9 0 (b__law_doubter c__law_take c__law_of c__law_stake c__law_deeds c__law_registers)
noncomputable def c__law_new : Con := den 2 4 0 (b__law_new c__law_doubter c__law_one c__law_of)
noncomputable def c__law_built_anew : Con := den 1 4 0 (b__law_built_anew c__law_walk c_joined)
noncomputable def c__law_caught : Con := den 3 5 0 (b__law_caught c_joined)
noncomputable def c__law_right : Con := den 1 10 0 (b__law_right c__law_take c__law_new c__law_homes c__law_walk c__law_set c__law_stands c_joined c_motes c__law_purses c__law_no_paths c__law_lost c__law_caught c__law_built_anew)
noncomputable def c_law : Con := den 1 2 0 (b_law c__law_right c__law_hand)
section
variable {P : Program} {w : World} {K : PySem.W.Frag} {mg : Str → Option Value} {base : Heap}
theorem ex_Crowded {fd : FuncData} (c : XCls K (veD 0 "what" "Refused")) (F : FunD K "__init__" "Crowded.__init__" (defArgs s_Crowded) (defBody s_Crowded) (defScope s_Crowded) [] [] (He.ma K (xA K 0) "__init__") fd) (n0 : mg "Crowded" = some (.ref (xA K 0))) (n1 : mg "Refused" = some (.ref (He.ga K "Refused"))) : ExcI P w K mg base 0 "what" :=
 XCls.exc c ve_facts PySem.F.store_ValueError rfl F ⟨rfl, rfl, rfl, by decide +kernel, rfl, by decide +kernel, by decide +kernel⟩ n0 n1 rfl rfl rfl rfl (fun _ _ _ _ _ _ us hl => match us, hl with | [_, _], _ => rfl) (fun _ => ⟨_, rfl⟩)
theorem ex_NoPlace {fd : FuncData} (c : XCls K (leD 1 "path" "Missing")) (F : FunD K "__init__" "NoPlace.__init__" (defArgs s_NoPlace) (defBody s_NoPlace) (defScope s_NoPlace) [] [] (He.ma K (xA K 1) "__init__") fd) (n0 : mg "NoPlace" = some (.ref (xA K 1))) (n1 : mg "Missing" = some (.ref (He.ga K "Missing"))) : ExcI P w K mg base 1 "path" :=
 XCls.exc c le_facts PySem.F.store_LookupError rfl F ⟨rfl, rfl, rfl, by decide +kernel, rfl, by decide +kernel, by decide +kernel⟩ n0 n1 rfl rfl rfl rfl (fun _ _ _ _ _ _ us hl => match us, hl with | [_, _], _ => rfl) (fun _ => ⟨_, rfl⟩)
abbrev N__law_hand : List Str := ["_law_script", "_law_k", "_law_cell", "_law_great"]
theorem sc__law_hand : FnScope N__law_hand ["_law_script", "_law_k"] (defScope s__law_hand) := ⟨rfl, rfl, rfl, by decide +kernel, rfl, by decide +kernel, by decide +kernel⟩
theorem ok__law_hand {f : Addr} {fd : FuncData} {con : Con} (F : FunD K "_law_hand" "_law_hand" (defArgs s__law_hand) (defBody s__law_hand) (defScope s__law_hand) [] [] f fd) (m_len : mg "len" = none) (m_abs : mg "abs" = none) (m_int : mg "int" = none) (len : ∀ ds S r, con ds S = some r → ds.length = 2)
  (real : ∀ ds S v S', WfS S → belowL S.length ds = true → con ds S = some (v, S') → ∃ o, b__law_hand (sE 4 ds) S = some o ∧ Fin o v S' ∧ WfS S' ∧ S.length ≤ S'.length) : FnG P w K mg base (0 + 1) f fd ["_law_script", "_law_k"] con :=
 fn_ok (b := b__law_hand) F sc__law_hand len (fun cdv A outer s H E hr => (bj_cons (sj_set (i := 2) sc__law_hand.nd rfl (Or.inl rfl) (ej_if (tj_cmp o_lt (ej_v 1 (hv := Or.inl rfl)) (ej_callB b_len rfl m_len (by decide +kernel) (aj_cons (ej_v 0 (hv := Or.inl rfl)) aj_nil)) (nomark _)) (ej_ix o_ix (ej_v 0 (hv := Or.inl rfl)) (ej_v 1 (hv := Or.inl rfl)) (fun _ _ => rfl)) ej_int)) (bj_cons (sj_set (i := 3) sc__law_hand.nd rfl (Or.inl rfl) (ej_op o_mul (ej_op o_mod (ej_callB b_abs rfl m_abs (by decide +kernel) (aj_cons (ej_v 2 (hv := Or.inl rfl)) aj_nil)) (ej_op o_mul (ej_op o_pow ej_int ej_int) (ej_op o_pow ej_int ej_int))) (ej_callT b_int rfl m_int (by decide +kernel) (aj_cons (ej_cmp o_ge (ej_callB b_abs rfl m_abs (by decide +kernel) (aj_cons (ej_v 2 (hv := Or.inl rfl)) aj_nil)) (ej_op o_pow ej_int ej_int) (nomark _)) aj_nil)))) (bj_one (sj_ret (ej_bx (lj_disp (aj_cons (ej_v 3 (hv := Or.inl rfl)) (aj_cons (ej_op o_add (ej_op o_add (ej_op o_mod (ej_v 2 (hv := Or.inl rfl)) ej_int) (ej_op o_mul ej_int (ej_v 1 (hv := Or.inl rfl)))) ej_int) (aj_cons ej_int aj_nil)))))))))) real
abbrev N_counted : List Str := ["expression", "word", "one", "other"]
theorem sc_counted : FnScope N_counted ["expression"] (defScope s_counted) := ⟨rfl, rfl, rfl, by decide +kernel, rfl, by decide +kernel, by decide +kernel⟩
theorem ok_counted {f : Addr} {fd : FuncData} {k : Nat} {con k_counted : Con} (F : FunD K "counted" "counted" (defArgs s_counted) (defBody s_counted) (defScope s_counted) [] [] f fd) (h_counted : Cal P w K mg base k "counted" ["expression"] k_counted) (m_max : mg "max" = none) (len : ∀ ds S r, con ds S = some r → ds.length = 1)
  (real : ∀ ds S v S', WfS S → belowL S.length ds = true → con ds S = some (v, S') → ∃ o, b_counted k_counted (sE 4 ds) S = some o ∧ Fin o v S' ∧ WfS S' ∧ S.length ≤ S'.length) : FnG P w K mg base (k + 1) f fd ["expression"] con :=
 fn_ok (b := b_counted k_counted) F sc_counted len (fun cdv A outer s H E hr => (bj_cons (sj_set (i := 1) sc_counted.nd rfl (Or.inl rfl) (ej_ix o_ix (ej_v 0 (hv := Or.inl rfl)) ej_int (fun _ _ => rfl))) (bj_cons (sj_if (tj_cmp (o_in hr.u65) (ej_v 1 (hv := Or.inl rfl)) (ej_tup (aj_cons ej_str (aj_cons ej_str (aj_cons ej_str aj_nil)))) rfl) (bj_one (sj_ret (ej_tup (aj_cons ej_int (aj_cons ej_int aj_nil))))) bj_nil) (bj_cons (sj_if (tj_cmp (o_in hr.u65) (ej_v 1 (hv := Or.inl rfl)) (ej_tup (aj_cons ej_str (aj_cons ej_str aj_nil))) rfl) (bj_one (sj_ret (ej_own h_counted hr rfl (aj_cons (ej_ix o_ix (ej_v 0 (hv := Or.inl rfl)) ej_int (fun _ _ => rfl)) aj_nil)))) bj_nil) (bj_cons (sj_par (i := 2) (j := 3) rfl sc_counted.nd rfl rfl (by decide) rfl rfl (aj_cons (ej_own h_counted hr rfl (aj_cons (ej_ix o_ix (ej_v 0 (hv := Or.inl rfl)) (ej_un o_neg ej_int) (fun _ _ => rfl)) aj_nil)) (aj_cons (ej_own h_counted hr rfl (aj_cons (ej_ix o_ix (ej_v 0 (hv := Or.inl rfl)) (ej_un o_neg ej_int) (fun _ _ => rfl)) aj_nil)) aj_nil)) rfl) (bj_cons (sj_if (tj_cmp (o_in hr.u65) (ej_v 1 (hv := Or.inl rfl)) (ej_tup (aj_cons ej_str (aj_cons ej_str aj_nil))) rfl) (bj_one (sj_ret (ej_tup (aj_cons (ej_op o_mul (ej_ix o_ix (ej_v 2 (hv := Or.inl rfl)) ej_int (fun _ _ => rfl)) (ej_ix o_ix (ej_v 3 (hv := Or.inl rfl)) ej_int (fun _ _ => rfl))) (aj_cons (ej_op o_add (ej_ix o_ix (ej_v 2 (hv := Or.inl rfl)) ej_int (fun _ _ => rfl)) (ej_ix o_ix (ej_v 3 (hv := Or.inl rfl)) ej_int (fun _ _ => rfl))) aj_nil))))) bj_nil) (bj_cons (sj_if (tj_cmp (o_in hr.u65) (ej_v 1 (hv := Or.inl rfl)) (ej_tup (aj_cons ej_str (aj_cons ej_str aj_nil))) rfl) (bj_one (sj_ret (ej_tup (aj_cons (ej_op o_add (ej_ix o_ix (ej_v 2 (hv := Or.inl rfl)) ej_int (fun _ _ => rfl)) (ej_ix o_ix (ej_v 3 (hv := Or.inl rfl)) ej_int (fun _ _ => rfl))) (aj_cons (ej_op o_add (ej_op o_add (ej_ix o_ix (ej_v 2 (hv := Or.inl rfl)) ej_int (fun _ _ => rfl)) (ej_ix o_ix (ej_v 3 (hv := Or.inl rfl)) ej_int (fun _ _ => rfl))) (ej_op o_mul (ej_ix o_ix (ej_v 2 (hv := Or.inl rfl)) ej_int (fun _ _ => rfl)) (ej_ix o_ix (ej_v 3 (hv := Or.inl rfl)) ej_int (fun _ _ => rfl)))) aj_nil))))) bj_nil) (bj_cons (sj_if (tj_cmp (o_eq hr.u64) (ej_v 1 (hv := Or.inl rfl)) ej_str (nomark _)) (bj_one (sj_ret (ej_tup (aj_cons (ej_op o_add (ej_ix o_ix (ej_v 2 (hv := Or.inl rfl)) ej_int (fun _ _ => rfl)) (ej_ix o_ix (ej_v 3 (hv := Or.inl rfl)) ej_int (fun _ _ => rfl))) (aj_cons (ej_op o_add (ej_op o_add (ej_ix o_ix (ej_v 2 (hv := Or.inl rfl)) ej_int (fun _ _ => rfl)) (ej_ix o_ix (ej_v 3 (hv := Or.inl rfl)) ej_int (fun _ _ => rfl))) ej_int) aj_nil))))) bj_nil) (bj_one (sj_ret (ej_tup (aj_cons (ej_callB (b_max2 rfl) rfl m_max (by decide +kernel) (aj_cons (ej_ix o_ix (ej_v 2 (hv := Or.inl rfl)) ej_int (fun _ _ => rfl)) (aj_cons (ej_ix o_ix (ej_v 3 (hv := Or.inl rfl)) ej_int (fun _ _ => rfl)) aj_nil))) (aj_cons (ej_callB (b_max2 rfl) rfl m_max (by decide +kernel) (aj_cons (ej_ix o_ix (ej_v 2 (hv := Or.inl rfl)) ej_int (fun _ _ => rfl)) (aj_cons (ej_ix o_ix (ej_v 3 (hv := Or.inl rfl)) ej_int (fun _ _ => rfl)) aj_nil))) aj_nil))))))))))))) real
abbrev N_borders : List Str := ["expression"]
theorem sc_borders : FnScope N_borders ["expression"] (defScope s_borders) := ⟨rfl, rfl, rfl, by decide +kernel, rfl, by decide +kernel, by decide +kernel⟩
theorem ok_borders {f : Addr} {fd : FuncData} {con k_counted : Con} (F : FunD K "borders" "borders" (defArgs s_borders) (defBody s_borders) (defScope s_borders) [] [] f fd) (h_counted : Cal P w K mg base 9 "counted" ["expression"] k_counted) (len : ∀ ds S r, con ds S = some r → ds.length = 1)
  (real : ∀ ds S v S', WfS S → belowL S.length ds = true → con ds S = some (v, S') → ∃ o, b_borders k_counted (sE 1 ds) S = some o ∧ Fin o v S' ∧ WfS S' ∧ S.length ≤ S'.length) : FnG P w K mg base (9 + 1) f fd ["expression"] con :=
 fn_ok (b := b_borders k_counted) F sc_borders len (fun cdv A outer s H E hr => (bj_one (sj_ret (ej_ix o_ix (ej_own h_counted (hr.mono (by decide)) rfl (aj_cons (ej_v 0 (hv := Or.inl rfl)) aj_nil)) ej_int (fun _ _ => rfl))))) real
abbrev N_members_in : List Str := ["members", "path", "found", "number", "member"]
theorem sc_members_in : FnScope N_members_in ["members", "path"] (defScope s_members_in) := ⟨rfl, rfl, rfl, by decide +kernel, rfl, by decide +kernel, by decide +kernel⟩
theorem ok_members_in {f : Addr} {fd : FuncData} {k : Nat} {con k_members_in : Con} (F : FunD K "members_in" "members_in" (defArgs s_members_in) (defBody s_members_in) (defScope s_members_in) [] [] f fd) (h_members_in : Cal P w K mg base k "members_in" ["members", "path"] k_members_in) (m_enumerate : mg "enumerate" = none) (len : ∀ ds S r, con ds S = some r → ds.length = 2)
  (real : ∀ ds S v S', WfS S → belowL S.length ds = true → con ds S = some (v, S') → ∃ o, b_members_in k_members_in (sE 5 ds) S = some o ∧ Fin o v S' ∧ WfS S' ∧ S.length ≤ S'.length) : FnG P w K mg base (k + 1) f fd ["members", "path"] con :=
 fn_ok (b := b_members_in k_members_in) F sc_members_in len (fun cdv A outer s H E hr => (bj_cons (sj_set (i := 2) sc_members_in.nd rfl (Or.inl rfl) (ej_bx (lj_disp aj_nil))) (bj_cons (sj_for PassesOwn.never rfl (ij_enum rfl m_enumerate (ej_v 0 (hv := Or.inl rfl))) (gj_tup rfl (gsj_cons (gj_name (i := 3) sc_members_in.nd rfl (Or.inl rfl)) (gsj_cons (gj_name (i := 4) sc_members_in.nd rfl (Or.inl rfl)) gsj_nil))) (bj_cons (sj_expr (ej_bm PySem.F.plainAttrs_list PySem.F.slot_list_append PySem.F.type_list_append m_append (ej_v 2 (hv := Or.inl rfl)) (aj_cons (ej_tup (aj_cons (ej_op o_add (ej_v 1 (hv := Or.inl rfl)) (ej_tup (aj_cons (ej_v 3 (hv := Or.inl rfl)) aj_nil))) (aj_cons (ej_v 4 (hv := Or.inl rfl)) aj_nil))) aj_nil))) (bj_one (sj_if (tj_cmp (o_eq hr.u64) (ej_ix o_ix (ej_v 4 (hv := Or.inl rfl)) ej_int (fun _ _ => rfl)) ej_str (nomark _)) (bj_one (sj_expr (ej_bm PySem.F.plainAttrs_list PySem.F.slot_list_extend PySem.F.type_list_extend m_extend (ej_v 2 (hv := Or.inl rfl)) (aj_cons (ej_own h_members_in hr rfl (aj_cons (ej_ix o_ix (ej_v 4 (hv := Or.inl rfl)) ej_int (fun _ _ => rfl)) (aj_cons (ej_op o_add (ej_v 1 (hv := Or.inl rfl)) (ej_tup (aj_cons (ej_v 3 (hv := Or.inl rfl)) aj_nil))) aj_nil))) aj_nil)))) bj_nil)))) (bj_one (sj_ret (ej_v 2 (hv := Or.inl rfl))))))) real
abbrev N_crowd : List Str := ["house", "found", "some", "lines", "member", "path", "stake"]
theorem sc_crowd : FnScope N_crowd ["house"] (defScope s_crowd) := ⟨rfl, rfl, rfl, by decide +kernel, rfl, by decide +kernel, by decide +kernel⟩
theorem ok_crowd {f : Addr} {fd : FuncData} {con k_members_in k_borders : Con} (F : FunD K "crowd" "crowd" (defArgs s_crowd) (defBody s_crowd) (defScope s_crowd) [] [] f fd) (h_members_in : Cal P w K mg base 6 "members_in" ["members", "path"] k_members_in) (h_borders : Cal P w K mg base 10 "borders" ["expression"] k_borders) (m_len : mg "len" = none) (m_any : mg "any" = none) (m_sum : mg "sum" = none) (g_MOST_ONES : GC K mg "MOST_ONES" d_MOST_ONES) (g_MOST_HOUSES : GC K mg "MOST_HOUSES" d_MOST_HOUSES) (g_MOST_DEEP : GC K mg "MOST_DEEP" d_MOST_DEEP) (q_MOST_BORDERS : KDm K mg "MOST_BORDERS" kd_MOST_BORDERS) (len : ∀ ds S r, con ds S = some r → ds.length = 1)
  (real : ∀ ds S v S', WfS S → belowL S.length ds = true → con ds S = some (v, S') → ∃ o, b_crowd k_members_in k_borders (sE 7 ds) S = some o ∧ Fin o v S' ∧ WfS S' ∧ S.length ≤ S'.length) : FnG P w K mg base (10 + 1) f fd ["house"] con :=
 fn_ok (b := b_crowd k_members_in k_borders) F sc_crowd len (fun cdv A outer s H E hr => (bj_cons (sj_set (i := 1) sc_crowd.nd rfl (Or.inl rfl) (ej_own h_members_in (hr.mono (by decide)) rfl (aj_cons (ej_ix o_ix (ej_v 0 (hv := Or.inl rfl)) ej_int (fun _ _ => rfl)) (aj_cons (ej_tup aj_nil) aj_nil)))) (bj_cons (sj_setLc (i := 2) (own := [("path", 5), ("member", 4)]) false rfl sc_crowd.nd rfl rfl (sw_true rfl rfl rfl (by decide +kernel)) (ij_seq (ej_v 1 (hv := Or.inl rfl))) (blkOk_by (N := N_crowd) (sc := defScope s_crowd) (by decide +kernel)) (fun _ _ _ _ _ => (gj_tup rfl (gsj_cons (gj_name (i := 5) sc_crowd.nd rfl (Or.inl rfl)) (gsj_cons (gj_name (i := 4) sc_crowd.nd rfl (Or.inl rfl)) gsj_nil)))) (fun _ _ _ _ _ => (tsj_one (tj_cmp (o_eq hr.u64) (ej_ix o_ix (ej_v 4 (hv := Or.inl rfl)) ej_int (fun _ _ => rfl)) ej_str (nomark _)))) (fun _ _ _ _ _ => (ej_v 4 (hv := Or.inl rfl))) (by decide)) (bj_cons (sj_if (tj_cmp o_gt (ej_callB b_len rfl m_len (by decide +kernel) (aj_cons (ej_v 2 (hv := Or.inl rfl)) aj_nil)) (ej_gc g_MOST_ONES rfl) (nomark _)) (bj_one (sj_ret ej_str)) bj_nil) (bj_cons (sj_if (tj_cmp o_gt (ej_op o_sub (ej_callB b_len rfl m_len (by decide +kernel) (aj_cons (ej_v 1 (hv := Or.inl rfl)) aj_nil)) (ej_callB b_len rfl m_len (by decide +kernel) (aj_cons (ej_v 2 (hv := Or.inl rfl)) aj_nil))) (ej_gc g_MOST_HOUSES rfl) (nomark _)) (bj_one (sj_ret ej_str)) bj_nil) (bj_cons (sj_if (tj_val (ej_callB (b_any rfl) rfl m_any (by decide +kernel) (aj_cons (ej_fz (lj_lc (own := [("path", 5), ("member", 4)]) rfl sc_crowd.nd (ij_seq (ej_v 1 (hv := Or.inl rfl))) (blkOk_by (N := N_crowd) (sc := defScope s_crowd) (by decide +kernel)) (fun _ _ _ _ _ => (gj_tup rfl (gsj_cons (gj_name (i := 5) sc_crowd.nd rfl (Or.inl rfl)) (gsj_cons (gj_name (i := 4) sc_crowd.nd rfl (Or.inl rfl)) gsj_nil)))) (fun _ _ _ _ _ => (tsj_one (tj_cmp (o_eq hr.u64) (ej_ix o_ix (ej_v 4 (hv := Or.inl rfl)) ej_int (fun _ _ => rfl)) ej_str (nomark _)))) (fun _ _ _ _ _ => (ej_cmp o_gt (ej_callB b_len rfl m_len (by decide +kernel) (aj_cons (ej_v 5 (hv := Or.inl rfl)) aj_nil)) (ej_gc g_MOST_DEEP rfl) (nomark _))) (by decide))) aj_nil))) (bj_one (sj_ret ej_str)) bj_nil) (bj_cons (sj_set (i := 3) sc_crowd.nd rfl (Or.inl rfl) (ej_callB (b_sum rfl) rfl m_sum (by decide +kernel) (aj_cons (ej_fz (lj_lc2 (own := [("member", 4), ("stake", 6)]) (vs1 := [6]) rfl sc_crowd.nd (ij_seq (ej_v 2 (hv := Or.inl rfl))) (blkOk_by (N := N_crowd) (sc := defScope s_crowd) (by decide +kernel)) (by decide) (fun _ _ _ _ _ => (gj_name (i := 4) sc_crowd.nd rfl (Or.inl rfl))) (fun _ _ _ _ _ => (ej_ix o_ix (ej_ix o_ix (ej_v 4 (hv := Or.inl rfl)) ej_int (fun _ _ => rfl)) ej_int (fun _ _ => rfl))) (fun _ _ _ _ _ => (gj_name (i := 6) sc_crowd.nd rfl (Or.inl rfl))) (fun _ _ _ _ _ => (ej_own h_borders (hr.mono (by decide)) rfl (aj_cons (ej_v 6 (hv := Or.inl rfl)) aj_nil))) (by decide) (by decide))) aj_nil))) (bj_one (sj_ret (ej_if (tj_cmp o_gt (ej_v 3 (hv := Or.inl rfl)) (ej_kd q_MOST_BORDERS rfl (ej_ix o_ix (ej_v 0 (hv := Or.inl rfl)) ej_int (fun _ _ => rfl)) (fun _ _ => rfl)) (nomark _)) ej_str ej_non)))))))))) real
abbrev N_is_whole : List Str := ["thing", "low", "high"]
theorem sc_is_whole : FnScope N_is_whole ["thing", "low", "high"] (defScope s_is_whole) := ⟨rfl, rfl, rfl, by decide +kernel, rfl, by decide +kernel, by decide +kernel⟩
theorem ok_is_whole {f : Addr} {fd : FuncData} {con : Con} (F : FunD K "is_whole" "is_whole" (defArgs s_is_whole) (defBody s_is_whole) (defScope s_is_whole) [] [] f fd) (m_isinstance : mg "isinstance" = none) (m_int : mg "int" = none) (m_bool : mg "bool" = none) (len : ∀ ds S r, con ds S = some r → ds.length = 3)
  (real : ∀ ds S v S', WfS S → belowL S.length ds = true → con ds S = some (v, S') → ∃ o, b_is_whole (sE 3 ds) S = some o ∧ Fin o v S' ∧ WfS S' ∧ S.length ≤ S'.length) : FnG P w K mg base (0 + 1) f fd ["thing", "low", "high"] con :=
 fn_ok (b := b_is_whole) F sc_is_whole len (fun cdv A outer s H E hr => (bj_one (sj_ret (ej_and (ej_isi (T := "int") rfl m_isinstance rfl m_int (by decide +kernel) (ej_v 0 (hv := Or.inl rfl))) (ej_and (ej_not (ej_isi (T := "bool") rfl m_isinstance rfl m_bool (by decide +kernel) (ej_v 0 (hv := Or.inl rfl)))) (ej_and (ej_cmp o_le (ej_v 1 (hv := Or.inl rfl)) (ej_v 0 (hv := Or.inl rfl)) (nomark _)) (ej_one (ej_or (ej_cmp o_is (ej_v 2 (hv := Or.inl rfl)) ej_non (nomark _)) (ej_one (ej_cmp o_le (ej_v 0 (hv := Or.inl rfl)) (ej_v 2 (hv := Or.inl rfl)) (nomark _))))))))))) real
abbrev N_is_path : List Str := ["thing", "part"]
theorem sc_is_path : FnScope N_is_path ["thing"] (defScope s_is_path) := ⟨rfl, rfl, rfl, by decide +kernel, rfl, by decide +kernel, by decide +kernel⟩
theorem ok_is_path {f : Addr} {fd : FuncData} {con k_is_whole : Con} (F : FunD K "is_path" "is_path" (defArgs s_is_path) (defBody s_is_path) (defScope s_is_path) [] [] f fd) (h_is_whole : Cal P w K mg base 1 "is_whole" ["thing", "low", "high"] k_is_whole) (m_isinstance : mg "isinstance" = none) (m_tuple : mg "tuple" = none) (m_all : mg "all" = none) (len : ∀ ds S r, con ds S = some r → ds.length = 1)
  (real : ∀ ds S v S', WfS S → belowL S.length ds = true → con ds S = some (v, S') → ∃ o, b_is_path k_is_whole (sE 2 ds) S = some o ∧ Fin o v S' ∧ WfS S' ∧ S.length ≤ S'.length) : FnG P w K mg base (1 + 1) f fd ["thing"] con :=
 fn_ok (b := b_is_path k_is_whole) F sc_is_path len (fun cdv A outer s H E hr => (bj_one (sj_ret (ej_and (ej_isi (T := "tuple") rfl m_isinstance rfl m_tuple (by decide +kernel) (ej_v 0 (hv := Or.inl rfl))) (ej_one (ej_callB (b_all rfl) rfl m_all (by decide +kernel) (aj_cons (ej_fz (lj_lc (own := [("part", 1)]) rfl sc_is_path.nd (ij_seq (ej_v 0 (hv := Or.inl rfl))) (blkOk_by (N := N_is_path) (sc := defScope s_is_path) (by decide +kernel)) (fun _ _ _ _ _ => (gj_name (i := 1) sc_is_path.nd rfl (Or.inl rfl))) (fun _ _ _ _ _ => tsj_nil) (fun _ _ _ _ _ => (ej_own h_is_whole (hr.mono (by decide)) rfl (aj_cons (ej_v 1 (hv := Or.inl rfl)) (aj_cons ej_int (aj_cons ej_non aj_nil))))) (by decide))) aj_nil))))))) real
abbrev N_members_at : List Str := ["house", "path", "members", "number"]
theorem sc_members_at : FnScope N_members_at ["house", "path"] (defScope s_members_at) := ⟨rfl, rfl, rfl, by decide +kernel, rfl, by decide +kernel, by decide +kernel⟩
theorem ok_members_at {f : Addr} {fd : FuncData} {con : Con} (F : FunD K "members_at" "members_at" (defArgs s_members_at) (defBody s_members_at) (defScope s_members_at) [] [] f fd) (m_len : mg "len" = none) (len : ∀ ds S r, con ds S = some r → ds.length = 2)
  (real : ∀ ds S v S', WfS S → belowL S.length ds = true → con ds S = some (v, S') → ∃ o, b_members_at (sE 4 ds) S = some o ∧ Fin o v S' ∧ WfS S' ∧ S.length ≤ S'.length) : FnG P w K mg base (0 + 1) f fd ["house", "path"] con :=
 fn_ok (b := b_members_at) F sc_members_at len (fun cdv A outer s H E hr => (bj_cons (sj_set (i := 2) sc_members_at.nd rfl (Or.inl rfl) (ej_ix o_ix (ej_v 0 (hv := Or.inl rfl)) ej_int (fun _ _ => rfl))) (bj_cons (sj_for PassesOwn.never rfl (ij_seq (ej_v 1 (hv := Or.inl rfl))) (gj_name (i := 3) sc_members_at.nd rfl (Or.inl rfl)) (bj_cons (sj_if (wj_pt (wj_or (tj_cmp o_ge (ej_v 3 (hv := Or.inl rfl)) (ej_callB b_len rfl m_len (by decide +kernel) (aj_cons (ej_v 2 (hv := Or.inl rfl)) aj_nil)) (nomark _)) (wj_or1 (tj_cmp (o_ne hr.u64) (ej_ix o_ix (ej_ix o_ix (ej_v 2 (hv := Or.inl rfl)) (ej_v 3 (hv := Or.inl rfl)) (fun _ _ => rfl)) ej_int (fun _ _ => rfl)) ej_str (nomark _))))) (bj_one (sj_ret ej_non)) bj_nil) (bj_one (sj_set (i := 2) sc_members_at.nd rfl (Or.inl rfl) (ej_ix o_ix (ej_ix o_ix (ej_v 2 (hv := Or.inl rfl)) (ej_v 3 (hv := Or.inl rfl)) (fun _ _ => rfl)) ej_int (fun _ _ => rfl)))))) (bj_one (sj_ret (ej_v 2 (hv := Or.inl rfl))))))) real
abbrev N_replaced : List Str := ["members", "path", "other", "made", "word", "name", "inner"]
theorem sc_replaced : FnScope N_replaced ["members", "path", "other"] (defScope s_replaced) := ⟨rfl, rfl, rfl, by decide +kernel, rfl, by decide +kernel, by decide +kernel⟩
theorem ok_replaced {f : Addr} {fd : FuncData} {k : Nat} {con k_replaced : Con} (F : FunD K "replaced" "replaced" (defArgs s_replaced) (defBody s_replaced) (defScope s_replaced) [] [] f fd) (h_replaced : Cal P w K mg base k "replaced" ["members", "path", "other"] k_replaced) (len : ∀ ds S r, con ds S = some r → ds.length = 3)
  (real : ∀ ds S v S', WfS S → belowL S.length ds = true → con ds S = some (v, S') → ∃ o, b_replaced k_replaced (sE 7 ds) S = some o ∧ Fin o v S' ∧ WfS S' ∧ S.length ≤ S'.length) : FnG P w K mg base (k + 1) f fd ["members", "path", "other"] con :=
 fn_ok (b := b_replaced k_replaced) F sc_replaced len (fun cdv A outer s H E hr => (bj_cons (sj_if (tj_cmp (o_eq hr.u64) (ej_v 1 (hv := Or.inl rfl)) (ej_tup aj_nil) (nomark _)) (bj_one (sj_ret (ej_v 2 (hv := Or.inl rfl)))) bj_nil) (bj_cons (sj_asg (ej_ix o_ix (ej_v 0 (hv := Or.inl rfl)) (ej_ix o_ix (ej_v 1 (hv := Or.inl rfl)) ej_int (fun _ _ => rfl)) (fun _ _ => rfl)) (gj_tup rfl (gsj_cons (gj_name (i := 4) sc_replaced.nd rfl (Or.inl rfl)) (gsj_cons (gj_name (i := 5) sc_replaced.nd rfl (Or.inl rfl)) (gsj_cons (gj_name (i := 6) sc_replaced.nd rfl (Or.inl rfl)) gsj_nil))))) (bj_cons (sj_set (i := 3) sc_replaced.nd rfl (Or.inl rfl) (ej_tup (aj_cons (ej_v 4 (hv := Or.inl rfl)) (aj_cons (ej_v 5 (hv := Or.inl rfl)) (aj_cons (ej_own h_replaced hr rfl (aj_cons (ej_v 6 (hv := Or.inl rfl)) (aj_cons (ej_slice s_tup (ej_v 1 (hv := Or.inl rfl)) (oj_some ej_int) oj_no) (aj_cons (ej_v 2 (hv := Or.inl rfl)) aj_nil)))) aj_nil))))) (bj_one (sj_ret (ej_op o_add (ej_op o_add (ej_slice s_tup (ej_v 0 (hv := Or.inl rfl)) oj_no (oj_some (ej_ix o_ix (ej_v 1 (hv := Or.inl rfl)) ej_int (fun _ _ => rfl)))) (ej_tup (aj_cons (ej_v 3 (hv := Or.inl rfl)) aj_nil))) (ej_slice s_tup (ej_v 0 (hv := Or.inl rfl)) (oj_some (ej_op o_add (ej_ix o_ix (ej_v 1 (hv := Or.inl rfl)) ej_int (fun _ _ => rfl)) ej_int)) oj_no)))))))) real
abbrev N_with_members : List Str := ["house", "path", "members"]
theorem sc_with_members : FnScope N_with_members ["house", "path", "members"] (defScope s_with_members) := ⟨rfl, rfl, rfl, by decide +kernel, rfl, by decide +kernel, by decide +kernel⟩
theorem ok_with_members {f : Addr} {fd : FuncData} {con k_replaced : Con} (F : FunD K "with_members" "with_members" (defArgs s_with_members) (defBody s_with_members) (defScope s_with_members) [] [] f fd) (h_replaced : Cal P w K mg base 12 "replaced" ["members", "path", "other"] k_replaced) (len : ∀ ds S r, con ds S = some r → ds.length = 3)
  (real : ∀ ds S v S', WfS S → belowL S.length ds = true → con ds S = some (v, S') → ∃ o, b_with_members k_replaced (sE 3 ds) S = some o ∧ Fin o v S' ∧ WfS S' ∧ S.length ≤ S'.length) : FnG P w K mg base (12 + 1) f fd ["house", "path", "members"] con :=
 fn_ok (b := b_with_members k_replaced) F sc_with_members len (fun cdv A outer s H E hr => (bj_one (sj_ret (ej_tup (aj_cons (ej_ix o_ix (ej_v 0 (hv := Or.inl rfl)) ej_int (fun _ _ => rfl)) (aj_cons (ej_own h_replaced (hr.mono (by decide)) rfl (aj_cons (ej_ix o_ix (ej_v 0 (hv := Or.inl rfl)) ej_int (fun _ _ => rfl)) (aj_cons (ej_v 1 (hv := Or.inl rfl)) (aj_cons (ej_v 2 (hv := Or.inl rfl)) aj_nil)))) aj_nil)))))) real
abbrev N_joined : List Str := ["house", "path", "member", "members", "found", "what"]
theorem sc_joined : FnScope N_joined ["house", "path", "member"] (defScope s_joined) := ⟨rfl, rfl, rfl, by decide +kernel, rfl, by decide +kernel, by decide +kernel⟩
theorem ok_joined {f : Addr} {fd : FuncData} {con k_is_path k_members_at k_with_members k_crowd : Con} (F : FunD K "joined" "joined" (defArgs s_joined) (defBody s_joined) (defScope s_joined) [] [] f fd) (h_is_path : Cal P w K mg base 2 "is_path" ["thing"] k_is_path) (h_members_at : Cal P w K mg base 1 "members_at" ["house", "path"] k_members_at) (h_with_members : Cal P w K mg base 13 "with_members" ["house", "path", "members"] k_with_members) (h_crowd : Cal P w K mg base 11 "crowd" ["house"] k_crowd) (x_NoPlace : ExcI P w K mg base 1 "path") (x_Crowded : ExcI P w K mg base 0 "what") (len : ∀ ds S r, con ds S = some r → ds.length = 3)
  (real : ∀ ds S v S', WfS S → belowL S.length ds = true → con ds S = some (v, S') → ∃ o, b_joined k_is_path k_members_at k_with_members k_crowd (sE 6 ds) S = some o ∧ Fin o v S' ∧ WfS S' ∧ S.length ≤ S'.length) : FnX P w K mg base (13 + 1) f fd ["house", "path", "member"] con :=
 fn_okX (b := b_joined k_is_path k_members_at k_with_members k_crowd) F sc_joined len (fun cdv A outer s H E hr tk hp => (bjr_cons (sjr_nox (sj_set (i := 3) sc_joined.nd rfl (Or.inl rfl) (ej_if (tj_val (ej_own h_is_path (hr.mono (by decide)) rfl (aj_cons (ej_v 1 (hv := Or.inl rfl)) aj_nil))) (ej_own h_members_at (hr.mono (by decide)) rfl (aj_cons (ej_v 0 (hv := Or.inl rfl)) (aj_cons (ej_v 1 (hv := Or.inl rfl)) aj_nil))) ej_non))) (bjr_cons (sjr_if (tj_cmp o_is (ej_v 3 (hv := Or.inl rfl)) ej_non (nomark _)) (bjr_one (sjr_raise (i := 1) x_NoPlace (hr.room.mono (by decide)) rfl tk rfl rfl (ej_v 1 (hv := Or.inl rfl)))) (bjr_nox bj_nil)) (bjr_cons (sjr_nox (sj_set (i := 4) sc_joined.nd rfl (Or.inl rfl) (ej_own h_with_members (hr.mono (by decide)) rfl (aj_cons (ej_v 0 (hv := Or.inl rfl)) (aj_cons (ej_v 1 (hv := Or.inl rfl)) (aj_cons (ej_op o_add (ej_v 3 (hv := Or.inl rfl)) (ej_tup (aj_cons (ej_v 2 (hv := Or.inl rfl)) aj_nil))) aj_nil)))))) (bjr_cons (sjr_nox (sj_set (i := 5) sc_joined.nd rfl (Or.inl rfl) (ej_own h_crowd (hr.mono (by decide)) rfl (aj_cons (ej_v 4 (hv := Or.inl rfl)) aj_nil)))) (bjr_cons (sjr_if (tj_cmp o_isNot (ej_v 5 (hv := Or.inl rfl)) ej_non (nomark _)) (bjr_one (sjr_raise (i := 0) x_Crowded (hr.room.mono (by decide)) rfl tk rfl rfl (ej_v 5 (hv := Or.inl rfl)))) (bjr_nox bj_nil)) (bjr_one (sjr_nox (sj_ret (ej_v 4 (hv := Or.inl rfl))))))))))) real
abbrev N_ones : List Str := ["house", "path", "member"]
theorem sc_ones : FnScope N_ones ["house"] (defScope s_ones) := ⟨rfl, rfl, rfl, by decide +kernel, rfl, by decide +kernel, by decide +kernel⟩
theorem ok_ones {f : Addr} {fd : FuncData} {con k_members_in : Con} (F : FunD K "ones" "ones" (defArgs s_ones) (defBody s_ones) (defScope s_ones) [] [] f fd) (h_members_in : Cal P w K mg base 6 "members_in" ["members", "path"] k_members_in) (m_tuple : mg "tuple" = none) (len : ∀ ds S r, con ds S = some r → ds.length = 1)
  (real : ∀ ds S v S', WfS S → belowL S.length ds = true → con ds S = some (v, S') → ∃ o, b_ones k_members_in (sE 3 ds) S = some o ∧ Fin o v S' ∧ WfS S' ∧ S.length ≤ S'.length) : FnG P w K mg base (6 + 1) f fd ["house"] con :=
 fn_ok (b := b_ones k_members_in) F sc_ones len (fun cdv A outer s H E hr => (bj_one (sj_ret (ej_callT b_tuple rfl m_tuple (by decide +kernel) (aj_cons (ej_fz (lj_lc (own := [("path", 1), ("member", 2)]) rfl sc_ones.nd (ij_seq (ej_own h_members_in (hr.mono (by decide)) rfl (aj_cons (ej_ix o_ix (ej_v 0 (hv := Or.inl rfl)) ej_int (fun _ _ => rfl)) (aj_cons (ej_tup aj_nil) aj_nil)))) (blkOk_by (N := N_ones) (sc := defScope s_ones) (by decide +kernel)) (fun _ _ _ _ _ => (gj_tup rfl (gsj_cons (gj_name (i := 1) sc_ones.nd rfl (Or.inl rfl)) (gsj_cons (gj_name (i := 2) sc_ones.nd rfl (Or.inl rfl)) gsj_nil)))) (fun _ _ _ _ _ => (tsj_one (tj_cmp (o_eq hr.u64) (ej_ix o_ix (ej_v 2 (hv := Or.inl rfl)) ej_int (fun _ _ => rfl)) ej_str (nomark _)))) (fun _ _ _ _ _ => (ej_tup (aj_cons (ej_v 1 (hv := Or.inl rfl)) (aj_cons (ej_v 2 (hv := Or.inl rfl)) aj_nil)))) (by decide))) aj_nil))))) real
abbrev N_motes : List Str := ["house", "one", "path"]
theorem sc_motes : FnScope N_motes ["house"] (defScope s_motes) := ⟨rfl, rfl, rfl, by decide +kernel, rfl, by decide +kernel, by decide +kernel⟩
theorem ok_motes {f : Addr} {fd : FuncData} {con k_ones : Con} (F : FunD K "motes" "motes" (defArgs s_motes) (defBody s_motes) (defScope s_motes) [] [] f fd) (h_ones : Cal P w K mg base 7 "ones" ["house"] k_ones) (m_sum : mg "sum" = none) (len : ∀ ds S r, con ds S = some r → ds.length = 1)
  (real : ∀ ds S v S', WfS S → belowL S.length ds = true → con ds S = some (v, S') → ∃ o, b_motes k_ones (sE 3 ds) S = some o ∧ Fin o v S' ∧ WfS S' ∧ S.length ≤ S'.length) : FnG P w K mg base (7 + 1) f fd ["house"] con :=
 fn_ok (b := b_motes k_ones) F sc_motes len (fun cdv A outer s H E hr => (bj_one (sj_ret (ej_callB (b_sum rfl) rfl m_sum (by decide +kernel) (aj_cons (ej_fz (lj_lc (own := [("path", 2), ("one", 1)]) rfl sc_motes.nd (ij_seq (ej_own h_ones (hr.mono (by decide)) rfl (aj_cons (ej_v 0 (hv := Or.inl rfl)) aj_nil))) (blkOk_by (N := N_motes) (sc := defScope s_motes) (by decide +kernel)) (fun _ _ _ _ _ => (gj_tup rfl (gsj_cons (gj_name (i := 2) sc_motes.nd rfl (Or.inl rfl)) (gsj_cons (gj_name (i := 1) sc_motes.nd rfl (Or.inl rfl)) gsj_nil)))) (fun _ _ _ _ _ => tsj_nil) (fun _ _ _ _ _ => (ej_ix o_ix (ej_v 1 (hv := Or.inl rfl)) ej_int (fun _ _ => rfl))) (by decide))) aj_nil))))) real
abbrev N__law_take : List Str := ["_law_hand_here", "_law_many", "_law_primes", "_law_prime", "_law_drawn", "_law_digit"]
theorem sc__law_take : FnScope N__law_take ["_law_hand_here", "_law_many"] (defScope s__law_take) := ⟨rfl, rfl, rfl, by decide +kernel, rfl, by decide +kernel, by decide +kernel⟩
theorem ok__law_take {f : Addr} {fd : FuncData} {con : Con} (F : FunD K "_law_take" "_law_take" (defArgs s__law_take) (defBody s__law_take) (defScope s__law_take) [] [] f fd) (len : ∀ ds S r, con ds S = some r → ds.length = 2)
  (real : ∀ ds S v S', WfS S → belowL S.length ds = true → con ds S = some (v, S') → ∃ o, b__law_take (sE 6 ds) S = some o ∧ Fin o v S' ∧ WfS S' ∧ S.length ≤ S'.length) : FnG P w K mg base (0 + 1) f fd ["_law_hand_here", "_law_many"] con :=
 fn_ok (b := b__law_take) F sc__law_take len (fun cdv A outer s H E hr => (bj_cons (sj_if (tj_cmp o_gt (ej_ix o_ix (ej_v 0 (hv := Or.inl rfl)) ej_int (fun _ _ => rfl)) ej_int (nomark _)) (bj_cons (sj_set (i := 5) sc__law_take.nd rfl (Or.inl rfl) (ej_op o_mod (ej_ix o_ix (ej_v 0 (hv := Or.inl rfl)) ej_int (fun _ _ => rfl)) (ej_v 1 (hv := Or.inl rfl)))) (bj_cons (sj_asg (ej_op o_div (ej_ix o_ix (ej_v 0 (hv := Or.inl rfl)) ej_int (fun _ _ => rfl)) (ej_v 1 (hv := Or.inl rfl))) (gj_sub (ej_v 0 (hv := Or.inl rfl)) ej_int)) (bj_one (sj_ret (ej_v 5 (hv := Or.inl rfl)))))) bj_nil) (bj_cons (sj_asg (ej_op o_add (ej_ix o_ix (ej_v 0 (hv := Or.inl rfl)) ej_int (fun _ _ => rfl)) ej_int) (gj_sub (ej_v 0 (hv := Or.inl rfl)) ej_int)) (bj_cons (sj_set (i := 2) sc__law_take.nd rfl (Or.inl rfl) (ej_fz (lj_disp (aj_cons ej_int (aj_cons ej_int (aj_cons ej_int (aj_cons ej_int (aj_cons ej_int (aj_cons ej_int (aj_cons ej_int (aj_cons ej_int aj_nil))))))))))) (bj_cons (sj_set (i := 3) sc__law_take.nd rfl (Or.inl rfl) (ej_ix o_ix (ej_v 2 (hv := Or.inl rfl)) (ej_op o_mod (ej_ix o_ix (ej_v 0 (hv := Or.inl rfl)) ej_int (fun _ _ => rfl)) ej_int) (fun _ _ => rfl))) (bj_cons (sj_set (i := 4) sc__law_take.nd rfl (Or.inl rfl) (ej_op o_add (ej_ix o_ix (ej_v 0 (hv := Or.inl rfl)) ej_int (fun _ _ => rfl)) (ej_op o_mul (ej_op o_mul ej_int (ej_ix o_ix (ej_v 0 (hv := Or.inl rfl)) ej_int (fun _ _ => rfl))) (ej_ix o_ix (ej_v 0 (hv := Or.inl rfl)) ej_int (fun _ _ => rfl))))) (bj_cons (sj_set (i := 4) sc__law_take.nd rfl (Or.inl rfl) (ej_op o_add (ej_op o_mod (ej_op o_mod (ej_v 4 (hv := Or.inl rfl)) (ej_op o_pow (ej_v 3 (hv := Or.inl rfl)) ej_int)) (ej_v 3 (hv := Or.inl rfl))) ej_int)) (bj_one (sj_ret (ej_op o_mod (ej_op o_div (ej_op o_mod (ej_op o_mul (ej_v 4 (hv := Or.inl rfl)) (ej_op o_add (ej_op o_mod (ej_v 4 (hv := Or.inl rfl)) ej_int) (ej_ix o_ix (ej_v 0 (hv := Or.inl rfl)) ej_int (fun _ _ => rfl)))) (ej_v 3 (hv := Or.inl rfl))) ej_int) (ej_v 1 (hv := Or.inl rfl)))))))))))) real
abbrev N__law_walk : List Str := ["_law_members", "_law_trail", "_law_told", "_law_number", "_law_lodger"]
theorem sc__law_walk : FnScope N__law_walk ["_law_members", "_law_trail"] (defScope s__law_walk) := ⟨rfl, rfl, rfl, by decide +kernel, rfl, by decide +kernel, by decide +kernel⟩
theorem ok__law_walk {f : Addr} {fd : FuncData} {k : Nat} {con k__law_walk : Con} (F : FunD K "_law_walk" "_law_walk" (defArgs s__law_walk) (defBody s__law_walk) (defScope s__law_walk) [] [] f fd) (h__law_walk : Cal P w K mg base k "_law_walk" ["_law_members", "_law_trail"] k__law_walk) (m_enumerate : mg "enumerate" = none) (len : ∀ ds S r, con ds S = some r → ds.length = 2)
  (real : ∀ ds S v S', WfS S → belowL S.length ds = true → con ds S = some (v, S') → ∃ o, b__law_walk k__law_walk (sE 5 ds) S = some o ∧ Fin o v S' ∧ WfS S' ∧ S.length ≤ S'.length) : FnG P w K mg base (k + 1) f fd ["_law_members", "_law_trail"] con :=
 fn_ok (b := b__law_walk k__law_walk) F sc__law_walk len (fun cdv A outer s H E hr => (bj_cons (sj_set (i := 2) sc__law_walk.nd rfl (Or.inl rfl) (ej_bx (lj_disp aj_nil))) (bj_cons (sj_for PassesOwn.never rfl (ij_enum rfl m_enumerate (ej_v 0 (hv := Or.inl rfl))) (gj_tup rfl (gsj_cons (gj_name (i := 3) sc__law_walk.nd rfl (Or.inl rfl)) (gsj_cons (gj_name (i := 4) sc__law_walk.nd rfl (Or.inl rfl)) gsj_nil))) (bj_cons (sj_expr (ej_bm PySem.F.plainAttrs_list PySem.F.slot_list_append PySem.F.type_list_append m_append (ej_v 2 (hv := Or.inl rfl)) (aj_cons (ej_tup (aj_cons (ej_op o_add (ej_v 1 (hv := Or.inl rfl)) (ej_tup (aj_cons (ej_v 3 (hv := Or.inl rfl)) aj_nil))) (aj_cons (ej_v 4 (hv := Or.inl rfl)) aj_nil))) aj_nil))) (bj_one (sj_if (tj_cmp (o_eq hr.u64) (ej_ix o_ix (ej_v 4 (hv := Or.inl rfl)) ej_int (fun _ _ => rfl)) ej_str (nomark _)) (bj_one (sj_expr (ej_bm PySem.F.plainAttrs_list PySem.F.slot_list_extend PySem.F.type_list_extend m_extend (ej_v 2 (hv := Or.inl rfl)) (aj_cons (ej_own h__law_walk hr rfl (aj_cons (ej_ix o_ix (ej_v 4 (hv := Or.inl rfl)) ej_int (fun _ _ => rfl)) (aj_cons (ej_op o_add (ej_v 1 (hv := Or.inl rfl)) (ej_tup (aj_cons (ej_v 3 (hv := Or.inl rfl)) aj_nil))) aj_nil))) aj_nil)))) bj_nil)))) (bj_one (sj_ret (ej_v 2 (hv := Or.inl rfl))))))) real
abbrev N__law_all_ones : List Str := ["_law_members", "_law_found", "_law_lodger"]
theorem sc__law_all_ones : FnScope N__law_all_ones ["_law_members"] (defScope s__law_all_ones) := ⟨rfl, rfl, rfl, by decide +kernel, rfl, by decide +kernel, by decide +kernel⟩
theorem ok__law_all_ones {f : Addr} {fd : FuncData} {k : Nat} {con k__law_all_ones : Con} (F : FunD K "_law_all_ones" "_law_all_ones" (defArgs s__law_all_ones) (defBody s__law_all_ones) (defScope s__law_all_ones) [] [] f fd) (h__law_all_ones : Cal P w K mg base k "_law_all_ones" ["_law_members"] k__law_all_ones) (len : ∀ ds S r, con ds S = some r → ds.length = 1)
  (real : ∀ ds S v S', WfS S → belowL S.length ds = true → con ds S = some (v, S') → ∃ o, b__law_all_ones k__law_all_ones (sE 3 ds) S = some o ∧ Fin o v S' ∧ WfS S' ∧ S.length ≤ S'.length) : FnG P w K mg base (k + 1) f fd ["_law_members"] con :=
 fn_ok (b := b__law_all_ones k__law_all_ones) F sc__law_all_ones len (fun cdv A outer s H E hr => (bj_cons (sj_set (i := 1) sc__law_all_ones.nd rfl (Or.inl rfl) (ej_bx (lj_disp aj_nil))) (bj_cons (sj_for PassesOwn.never rfl (ij_seq (ej_v 0 (hv := Or.inl rfl))) (gj_name (i := 2) sc__law_all_ones.nd rfl (Or.inl rfl)) (bj_one (sj_expr (ej_bm PySem.F.plainAttrs_list PySem.F.slot_list_extend PySem.F.type_list_extend m_extend (ej_v 1 (hv := Or.inl rfl)) (aj_cons (ej_if (tj_cmp (o_eq hr.u64) (ej_ix o_ix (ej_v 2 (hv := Or.inl rfl)) ej_int (fun _ _ => rfl)) ej_str (nomark _)) (ej_fz (lj_disp (aj_cons (ej_v 2 (hv := Or.inl rfl)) aj_nil))) (ej_own h__law_all_ones hr rfl (aj_cons (ej_ix o_ix (ej_v 2 (hv := Or.inl rfl)) ej_int (fun _ _ => rfl)) aj_nil))) aj_nil))))) (bj_one (sj_ret (ej_v 1 (hv := Or.inl rfl))))))) real
abbrev N__law_purses : List Str := ["_law_members", "_law_one_here"]
theorem sc__law_purses : FnScope N__law_purses ["_law_members"] (defScope s__law_purses) := ⟨rfl, rfl, rfl, by decide +kernel, rfl, by decide +kernel, by decide +kernel⟩
theorem ok__law_purses {f : Addr} {fd : FuncData} {con k__law_all_ones : Con} (F : FunD K "_law_purses" "_law_purses" (defArgs s__law_purses) (defBody s__law_purses) (defScope s__law_purses) [] [] f fd) (h__law_all_ones : Cal P w K mg base 6 "_law_all_ones" ["_law_members"] k__law_all_ones) (m_sum : mg "sum" = none) (len : ∀ ds S r, con ds S = some r → ds.length = 1)
  (real : ∀ ds S v S', WfS S → belowL S.length ds = true → con ds S = some (v, S') → ∃ o, b__law_purses k__law_all_ones (sE 2 ds) S = some o ∧ Fin o v S' ∧ WfS S' ∧ S.length ≤ S'.length) : FnG P w K mg base (6 + 1) f fd ["_law_members"] con :=
 fn_ok (b := b__law_purses k__law_all_ones) F sc__law_purses len (fun cdv A outer s H E hr => (bj_one (sj_ret (ej_callB (b_sum rfl) rfl m_sum (by decide +kernel) (aj_cons (ej_fz (lj_lc (own := [("_law_one_here", 1)]) rfl sc__law_purses.nd (ij_seq (ej_own h__law_all_ones (hr.mono (by decide)) rfl (aj_cons (ej_v 0 (hv := Or.inl rfl)) aj_nil))) (blkOk_by (N := N__law_purses) (sc := defScope s__law_purses) (by decide +kernel)) (fun _ _ _ _ _ => (gj_name (i := 1) sc__law_purses.nd rfl (Or.inl rfl))) (fun _ _ _ _ _ => tsj_nil) (fun _ _ _ _ _ => (ej_ix o_ix (ej_v 1 (hv := Or.inl rfl)) ej_int (fun _ _ => rfl))) (by decide))) aj_nil))))) real
abbrev N__law_named : List Str := ["_law_caught_here"]
theorem sc__law_named : FnScope N__law_named ["_law_caught_here"] (defScope s__law_named) := ⟨rfl, rfl, rfl, by decide +kernel, rfl, by decide +kernel, by decide +kernel⟩
theorem ok__law_named {f : Addr} {fd : FuncData} {con : Con} (F : FunD K "_law_named" "_law_named" (defArgs s__law_named) (defBody s__law_named) (defScope s__law_named) [] [] f fd) (m_isinstance : mg "isinstance" = none) (n_Crowded : mg "Crowded" = some (.ref (He.ga K "Crowded"))) (n_NoPlace : mg "NoPlace" = some (.ref (He.ga K "NoPlace"))) (is_Crowded : ∀ q, q ∈ tb_Crowded → PySem.W.kitOne K (.ref (xA K q.1)) (.ref (He.ga K "Crowded")) = some q.2) (is_NoPlace : ∀ q, q ∈ tb_NoPlace → PySem.W.kitOne K (.ref (xA K q.1)) (.ref (He.ga K "NoPlace")) = some q.2) (xf_what : ∀ c, c ∈ ([0] : List Nat) → XfC K (xA K c) ∧ PySem.W.findIn K (.ref (xA K c)) "what" = some none) (xf_path : ∀ c, c ∈ ([1] : List Nat) → XfC K (xA K c) ∧ PySem.W.findIn K (.ref (xA K c)) "path" = some none) (xf_number : ∀ c, c ∈ ([] : List Nat) → XfC K (xA K c) ∧ PySem.W.findIn K (.ref (xA K c)) "number" = some none) (len : ∀ ds S r, con ds S = some r → ds.length = 1)
  (real : ∀ ds S v S', WfS S → belowL S.length ds = true → con ds S = some (v, S') → ∃ o, b__law_named (sE 1 ds) S = some o ∧ Fin o v S' ∧ WfS S' ∧ S.length ≤ S'.length) : FnG P w K mg base (0 + 1) f fd ["_law_caught_here"] con :=
 fn_ok (b := b__law_named) F sc__law_named len (fun cdv A outer s H E hr => (bj_cons (sj_if (tj_val (ej_isO tb_Crowded rfl m_isinstance rfl n_Crowded is_Crowded (ej_v 0 (hv := Or.inl rfl)))) (bj_one (sj_ret (ej_fld [0] xf_what (ej_v 0 (hv := Or.inl rfl))))) bj_nil) (bj_one (sj_ret (ej_if (tj_val (ej_isO tb_NoPlace rfl m_isinstance rfl n_NoPlace is_NoPlace (ej_v 0 (hv := Or.inl rfl)))) (ej_fld [1] xf_path (ej_v 0 (hv := Or.inl rfl))) (ej_fld [] xf_number (ej_v 0 (hv := Or.inl rfl)))))))) real
abbrev N__law_lost : List Str := ["_law_make", "_law_kind", "_law_due", "_law_caught_here", "_law_some", "_law_kinds", "error"]
theorem sc__law_lost : FnScope N__law_lost ["_law_make", "_law_kind", "_law_due"] (defScope s__law_lost) := ⟨rfl, rfl, rfl, by decide +kernel, rfl, by decide +kernel, by decide +kernel⟩
theorem ok__law_lost {f : Addr} {fd : FuncData} {k__law_named : Con} (F : FunD K "_law_lost" "_law_lost" (defArgs s__law_lost) (defBody s__law_lost) (defScope s__law_lost) [] [] f fd) (hm : mg "_law_lost" = some (.ref f)) (h__law_named : Cal P w K mg base 1 "_law_named" ["_law_caught_here"] k__law_named) (m_isinstance : mg "isinstance" = none) (m_repr : mg "repr" = none) (n_Halted : mg "Halted" = some (.ref (He.ga K "Halted"))) (n_Missing : mg "Missing" = some (.ref (He.ga K "Missing"))) (n_Refused : mg "Refused" = some (.ref (He.ga K "Refused"))) (n_NoPlace : mg "NoPlace" = some (.ref (He.ga K "NoPlace"))) (n_Crowded : mg "Crowded" = some (.ref (He.ga K "Crowded"))) (n_NotRight : mg "NotRight" = some (.ref (He.ga K "NotRight"))) (is_Halted : ∀ q, q ∈ tb_Halted → PySem.W.kitOne K (.ref (xA K q.1)) (.ref (He.ga K "Halted")) = some q.2) (is_Missing : ∀ q, q ∈ tb_Missing → PySem.W.kitOne K (.ref (xA K q.1)) (.ref (He.ga K "Missing")) = some q.2) (is_Refused : ∀ q, q ∈ tb_Refused → PySem.W.kitOne K (.ref (xA K q.1)) (.ref (He.ga K "Refused")) = some q.2) (is_NoPlace : ∀ q, q ∈ tb_NoPlace → PySem.W.kitOne K (.ref (xA K q.1)) (.ref (He.ga K "NoPlace")) = some q.2) (is_Crowded : ∀ q, q ∈ tb_Crowded → PySem.W.kitOne K (.ref (xA K q.1)) (.ref (He.ga K "Crowded")) = some q.2) (is_NotRight : ∀ q, q ∈ tb_NotRight → PySem.W.kitOne K (.ref (xA K q.1)) (.ref (He.ga K "NotRight")) = some q.2) (ex3 : ∀ c, c ∈ ([0, 1] : List Nat) → PySem.W.exmAny K (.ref (xA K c)) [.ref (He.ga K "Refused"), .ref (He.ga K "Missing"), .ref (He.ga K "Halted")] = some true ∧ ExcP K (xA K c)) : LamCal P w K mg base 14 "_law_lost" (cLam 3 N__law_lost.length 0 [0, 1] 6 3 (b__law_lost k__law_named)) :=
 lamcal_of (k := 14) (i := 6) (j := 3) (nn := 3) (keep := 0) (b := (b__law_lost k__law_named)) (ps := ["_law_kind", "_law_due"]) hm F (F.bindsN fun _ _ _ _ _ _ us hl => match us, hl with | [_, _, _], _ => rfl) sc__law_lost rfl rfl rfl (by decide) (by decide) rfl rfl rfl rfl rfl rfl n_Refused n_Missing n_Halted [0, 1] ex3 (fun cdv A outer s H hr => (bj_cons (sj_set (i := 4) sc__law_lost.nd rfl (Or.inl rfl) (ej_fz (lj_disp (aj_cons (ej_isO tb_Refused rfl m_isinstance rfl n_Refused is_Refused (ej_v 3 (hv := Or.inl rfl))) (aj_cons (ej_isO tb_Missing rfl m_isinstance rfl n_Missing is_Missing (ej_v 3 (hv := Or.inl rfl))) (aj_cons (ej_isO tb_Halted rfl m_isinstance rfl n_Halted is_Halted (ej_v 3 (hv := Or.inl rfl))) aj_nil)))))) (bj_cons (sj_set (i := 5) sc__law_lost.nd rfl (Or.inl rfl) (ej_dbx (ks := [Sum.inr "Crowded", Sum.inr "NoPlace"]) (pj_cons ej_str (ej_isO tb_Crowded rfl m_isinstance rfl n_Crowded is_Crowded (ej_v 3 (hv := Or.inl rfl))) (pj_cons ej_str (ej_isO tb_NoPlace rfl m_isinstance rfl n_NoPlace is_NoPlace (ej_v 3 (hv := Or.inl rfl))) pj_nil)) (by decide) (by decide))) (bj_cons (sj_dput hr.u64 (ej_isO tb_NotRight rfl m_isinstance rfl n_NotRight is_NotRight (ej_v 3 (hv := Or.inl rfl))) (ej_v 5 (hv := Or.inl rfl)) ej_str) (bj_one (sj_ret (ej_and (ej_dixB hr.u64 (ej_v 5 (hv := Or.inl rfl)) (ej_v 1 (hv := Or.inl rfl)) (fun _ _ => rfl)) (ej_and (ej_cmp (o_eq hr.u64) (ej_cntB (ej_v 4 (hv := Or.inl rfl)) ej_bl) ej_int (nomark _)) (ej_one (ej_cmp (o_eq hr.u64) (ej_callB (b_reprE ⟨_, hr⟩) rfl m_repr (by decide +kernel) (aj_cons (ej_own h__law_named (hr.mono (by decide)) rfl (aj_cons (ej_v 3 (hv := Or.inl rfl)) aj_nil)) aj_nil)) (ej_callB (b_reprE ⟨_, hr⟩) rfl m_repr (by decide +kernel) (aj_cons (ej_v 2 (hv := Or.inl rfl)) aj_nil)) (nomark _))))))))))) rfl rfl (fun _ => rfl) (fun _ => rfl) (fun _ => rfl) (fun _ => rfl)
abbrev N__law_of : List Str := ["_law_hand_here", "_law_some"]
theorem sc__law_of : FnScope N__law_of ["_law_hand_here", "_law_some"] (defScope s__law_of) := ⟨rfl, rfl, rfl, by decide +kernel, rfl, by decide +kernel, by decide +kernel⟩
theorem ok__law_of {f : Addr} {fd : FuncData} {con k__law_take : Con} (F : FunD K "_law_of" "_law_of" (defArgs s__law_of) (defBody s__law_of) (defScope s__law_of) [] [] f fd) (h__law_take : Cal P w K mg base 1 "_law_take" ["_law_hand_here", "_law_many"] k__law_take) (m_len : mg "len" = none) (len : ∀ ds S r, con ds S = some r → ds.length = 2)
  (real : ∀ ds S v S', WfS S → belowL S.length ds = true → con ds S = some (v, S') → ∃ o, b__law_of k__law_take (sE 2 ds) S = some o ∧ Fin o v S' ∧ WfS S' ∧ S.length ≤ S'.length) : FnG P w K mg base (1 + 1) f fd ["_law_hand_here", "_law_some"] con :=
 fn_ok (b := b__law_of k__law_take) F sc__law_of len (fun cdv A outer s H E hr => (bj_one (sj_ret (ej_ix o_ix (ej_v 1 (hv := Or.inl rfl)) (ej_own h__law_take (hr.mono (by decide)) rfl (aj_cons (ej_v 0 (hv := Or.inl rfl)) (aj_cons (ej_callB b_len rfl m_len (by decide +kernel) (aj_cons (ej_v 1 (hv := Or.inl rfl)) aj_nil)) aj_nil))) (fun _ _ => rfl))))) real
abbrev N__law_figure : List Str := ["_law_hand_here", "_law_some"]
theorem sc__law_figure : FnScope N__law_figure ["_law_hand_here"] (defScope s__law_figure) := ⟨rfl, rfl, rfl, by decide +kernel, rfl, by decide +kernel, by decide +kernel⟩
theorem ok__law_figure {f : Addr} {fd : FuncData} {con k__law_of k__law_take : Con} (F : FunD K "_law_figure" "_law_figure" (defArgs s__law_figure) (defBody s__law_figure) (defScope s__law_figure) [] [] f fd) (h__law_of : Cal P w K mg base 2 "_law_of" ["_law_hand_here", "_law_some"] k__law_of) (h__law_take : Cal P w K mg base 1 "_law_take" ["_law_hand_here", "_law_many"] k__law_take) (len : ∀ ds S r, con ds S = some r → ds.length = 1)
  (real : ∀ ds S v S', WfS S → belowL S.length ds = true → con ds S = some (v, S') → ∃ o, b__law_figure k__law_of k__law_take (sE 2 ds) S = some o ∧ Fin o v S' ∧ WfS S' ∧ S.length ≤ S'.length) : FnG P w K mg base (2 + 1) f fd ["_law_hand_here"] con :=
 fn_ok (b := b__law_figure k__law_of k__law_take) F sc__law_figure len (fun cdv A outer s H E hr => (bj_cons (sj_set (i := 1) sc__law_figure.nd rfl (Or.inl rfl) (ej_fz (lj_disp (aj_cons ej_int (aj_cons ej_int (aj_cons (ej_un o_neg ej_int) (aj_cons ej_int (aj_cons ej_int (aj_cons ej_int (aj_cons ej_int (aj_cons (ej_un o_neg ej_int) (aj_cons ej_int (aj_cons (ej_un o_neg ej_int) aj_nil))))))))))))) (bj_one (sj_ret (ej_own h__law_of (hr.mono (by decide)) rfl (aj_cons (ej_v 0 (hv := Or.inl rfl)) (aj_cons (ej_fz (lj_op o_addL (ej_v 1 (hv := Or.inl rfl)) (ej_fz (lj_disp (aj_cons (ej_op o_sub (ej_own h__law_take (hr.mono (by decide)) rfl (aj_cons (ej_v 0 (hv := Or.inl rfl)) (aj_cons ej_int aj_nil))) ej_int) (aj_cons (ej_op o_sub (ej_own h__law_take (hr.mono (by decide)) rfl (aj_cons (ej_v 0 (hv := Or.inl rfl)) (aj_cons ej_int aj_nil))) ej_int) aj_nil)))))) aj_nil))))))) real
abbrev N__law_registers : List Str := ["_law_hand_here", "_law_turn"]
theorem sc__law_registers : FnScope N__law_registers ["_law_hand_here"] (defScope s__law_registers) := ⟨rfl, rfl, rfl, by decide +kernel, rfl, by decide +kernel, by decide +kernel⟩
theorem ok__law_registers {f : Addr} {fd : FuncData} {con k__law_figure : Con} (F : FunD K "_law_registers" "_law_registers" (defArgs s__law_registers) (defBody s__law_registers) (defScope s__law_registers) [] [] f fd) (h__law_figure : Cal P w K mg base 3 "_law_figure" ["_law_hand_here"] k__law_figure) (m_tuple : mg "tuple" = none) (m_range : mg "range" = none) (len : ∀ ds S r, con ds S = some r → ds.length = 1)
  (real : ∀ ds S v S', WfS S → belowL S.length ds = true → con ds S = some (v, S') → ∃ o, b__law_registers k__law_figure (sE 2 ds) S = some o ∧ Fin o v S' ∧ WfS S' ∧ S.length ≤ S'.length) : FnG P w K mg base (3 + 1) f fd ["_law_hand_here"] con :=
 fn_ok (b := b__law_registers k__law_figure) F sc__law_registers len (fun cdv A outer s H E hr => (bj_one (sj_ret (ej_callT b_tuple rfl m_tuple (by decide +kernel) (aj_cons (ej_fz (lj_lc (own := [("_law_turn", 1)]) rfl sc__law_registers.nd (ij_rg1 rfl m_range ej_int) (blkOk_by (N := N__law_registers) (sc := defScope s__law_registers) (by decide +kernel)) (fun _ _ _ _ _ => (gj_name (i := 1) sc__law_registers.nd rfl (Or.inl rfl))) (fun _ _ _ _ _ => tsj_nil) (fun _ _ _ _ _ => (ej_own h__law_figure (hr.mono (by decide)) rfl (aj_cons (ej_v 0 (hv := Or.inr (Or.inl rfl))) aj_nil))) (by decide))) aj_nil))))) real
abbrev N__law_one : List Str := ["_law_hand_here", "_law_doubter_here", "_law_weight", "_law_purse_told", "_law_got", "_law_owed", "_law_lasted"]
theorem sc__law_one : FnScope N__law_one ["_law_hand_here", "_law_doubter_here"] (defScope s__law_one) := ⟨rfl, rfl, rfl, by decide +kernel, rfl, by decide +kernel, by decide +kernel⟩
theorem ok__law_one {f : Addr} {fd : FuncData} {con k__law_of k__law_take k__law_registers : Con} (F : FunD K "_law_one" "_law_one" (defArgs s__law_one) (defBody s__law_one) (defScope s__law_one) [] [] f fd) (h__law_of : Cal P w K mg base 2 "_law_of" ["_law_hand_here", "_law_some"] k__law_of) (h__law_take : Cal P w K mg base 1 "_law_take" ["_law_hand_here", "_law_many"] k__law_take) (h__law_registers : Cal P w K mg base 4 "_law_registers" ["_law_hand_here"] k__law_registers) (len : ∀ ds S r, con ds S = some r → ds.length = 2)
  (real : ∀ ds S v S', WfS S → belowL S.length ds = true → con ds S = some (v, S') → ∃ o, b__law_one k__law_of k__law_take k__law_registers (sE 7 ds) S = some o ∧ Fin o v S' ∧ WfS S' ∧ S.length ≤ S'.length) : FnG P w K mg base (4 + 1) f fd ["_law_hand_here", "_law_doubter_here"] con :=
 fn_ok (b := b__law_one k__law_of k__law_take k__law_registers) F sc__law_one len (fun cdv A outer s H E hr => (bj_cons (sj_set (i := 2) sc__law_one.nd rfl (Or.inl rfl) (ej_own h__law_of (hr.mono (by decide)) rfl (aj_cons (ej_v 0 (hv := Or.inl rfl)) (aj_cons (ej_fz (lj_disp (aj_cons ej_int (aj_cons ej_int (aj_cons ej_int (aj_cons ej_int (aj_cons (ej_op o_pow ej_int ej_int) (aj_cons (ej_op o_add ej_int (ej_own h__law_take (hr.mono (by decide)) rfl (aj_cons (ej_v 0 (hv := Or.inl rfl)) (aj_cons (ej_op o_pow ej_int ej_int) aj_nil)))) aj_nil)))))))) aj_nil)))) (bj_cons (sj_set (i := 3) sc__law_one.nd rfl (Or.inl rfl) (ej_own h__law_of (hr.mono (by decide)) rfl (aj_cons (ej_v 0 (hv := Or.inl rfl)) (aj_cons (ej_fz (lj_disp (aj_cons (ej_v 2 (hv := Or.inl rfl)) (aj_cons ej_int (aj_cons ej_int (aj_cons ej_int (aj_cons (ej_op o_mul ej_int (ej_v 2 (hv := Or.inl rfl))) (aj_cons (ej_own h__law_take (hr.mono (by decide)) rfl (aj_cons (ej_v 0 (hv := Or.inl rfl)) (aj_cons (ej_op o_pow ej_int ej_int) aj_nil))) aj_nil)))))))) aj_nil)))) (bj_cons (sj_par (i := 5) (j := 6) rfl sc__law_one.nd rfl rfl (by decide) rfl rfl (aj_cons (ej_own h__law_of (hr.mono (by decide)) rfl (aj_cons (ej_v 0 (hv := Or.inl rfl)) (aj_cons (ej_fz (lj_disp (aj_cons ej_int (aj_cons ej_int (aj_cons (ej_own h__law_take (hr.mono (by decide)) rfl (aj_cons (ej_v 0 (hv := Or.inl rfl)) (aj_cons ej_int aj_nil))) aj_nil))))) aj_nil))) (aj_cons (ej_own h__law_take (hr.mono (by decide)) rfl (aj_cons (ej_v 0 (hv := Or.inl rfl)) (aj_cons ej_int aj_nil))) aj_nil)) rfl) (bj_cons (sj_set (i := 4) sc__law_one.nd rfl (Or.inl rfl) (ej_own h__law_of (hr.mono (by decide)) rfl (aj_cons (ej_v 0 (hv := Or.inl rfl)) (aj_cons (ej_fz (lj_disp (aj_cons ej_int (aj_cons (ej_un o_neg ej_int) (aj_cons (ej_op o_pow ej_int ej_int) (aj_cons (ej_op o_sub (ej_own h__law_take (hr.mono (by decide)) rfl (aj_cons (ej_v 0 (hv := Or.inl rfl)) (aj_cons (ej_op o_pow ej_int ej_int) aj_nil))) (ej_op o_mul ej_int (ej_op o_pow ej_int ej_int))) aj_nil)))))) aj_nil)))) (bj_one (sj_ret (ej_tup (aj_cons ej_str (aj_cons (ej_v 1 (hv := Or.inl rfl)) (aj_cons (ej_own h__law_registers (hr.mono (by decide)) rfl (aj_cons (ej_v 0 (hv := Or.inl rfl)) aj_nil)) (aj_cons (ej_v 2 (hv := Or.inl rfl)) (aj_cons (ej_v 3 (hv := Or.inl rfl)) (aj_cons (ej_v 5 (hv := Or.inl rfl)) (aj_cons (ej_v 6 (hv := Or.inl rfl)) (aj_cons (ej_v 4 (hv := Or.inl rfl)) aj_nil)))))))))))))))) real
abbrev N__law_homes : List Str := ["_law_hand_here", "_law_many", "_law_plain", "_law_some", "_law_members", "_law_one_here", "_law_other", "_law_turn"]
theorem sc__law_homes : FnScope N__law_homes ["_law_hand_here", "_law_many"] (defScope s__law_homes) := ⟨rfl, rfl, rfl, by decide +kernel, rfl, by decide +kernel, by decide +kernel⟩
theorem ok__law_homes {f : Addr} {fd : FuncData} {con k__law_one k__law_take : Con} (F : FunD K "_law_homes" "_law_homes" (defArgs s__law_homes) (defBody s__law_homes) (defScope s__law_homes) [] [] f fd) (h__law_one : Cal P w K mg base 5 "_law_one" ["_law_hand_here", "_law_doubter_here"] k__law_one) (h__law_take : Cal P w K mg base 1 "_law_take" ["_law_hand_here", "_law_many"] k__law_take) (m_range : mg "range" = none) (m_tuple : mg "tuple" = none) (len : ∀ ds S r, con ds S = some r → ds.length = 2)
  (real : ∀ ds S v S', WfS S → belowL S.length ds = true → con ds S = some (v, S') → ∃ o, b__law_homes k__law_one k__law_take (sE 8 ds) S = some o ∧ Fin o v S' ∧ WfS S' ∧ S.length ≤ S'.length) : FnG P w K mg base (5 + 1) f fd ["_law_hand_here", "_law_many"] con :=
 fn_ok (b := b__law_homes k__law_one k__law_take) F sc__law_homes len (fun cdv A outer s H E hr => (bj_cons (sj_set (i := 2) sc__law_homes.nd rfl (Or.inl rfl) (ej_tup (aj_cons ej_str (aj_cons ej_int (aj_cons (ej_tup (aj_cons ej_int (aj_cons ej_int (aj_cons ej_int (aj_cons ej_int aj_nil))))) (aj_cons (ej_op o_mul (ej_tup (aj_cons (ej_tup (aj_cons ej_str (aj_cons ej_int aj_nil))) aj_nil)) (ej_v 1 (hv := Or.inl rfl))) (aj_cons (ej_op o_mul (ej_tup (aj_cons (ej_tup aj_nil) aj_nil)) (ej_v 1 (hv := Or.inl rfl))) aj_nil))))))) (bj_cons (sj_par (i := 5) (j := 6) rfl sc__law_homes.nd rfl rfl (by decide) rfl rfl (aj_cons (ej_own h__law_one (hr.mono (by decide)) rfl (aj_cons (ej_v 0 (hv := Or.inr (Or.inl rfl))) (aj_cons (ej_v 2 (hv := Or.inl rfl)) aj_nil))) (aj_cons (ej_own h__law_one (hr.mono (by decide)) rfl (aj_cons (ej_v 0 (hv := Or.inr (Or.inl rfl))) (aj_cons (ej_v 2 (hv := Or.inl rfl)) aj_nil))) aj_nil)) rfl) (bj_cons (sj_set (i := 3) sc__law_homes.nd rfl (Or.inr rfl) (ej_bx (lj_disp (aj_cons (ej_tup (aj_cons ej_str (aj_cons ej_str (aj_cons (ej_op o_mul (ej_tup (aj_cons (ej_v 5 (hv := Or.inl rfl)) aj_nil)) (ej_own h__law_take (hr.mono (by decide)) rfl (aj_cons (ej_v 0 (hv := Or.inr (Or.inl rfl))) (aj_cons ej_int aj_nil)))) aj_nil)))) (aj_cons (ej_tup (aj_cons ej_str (aj_cons ej_str (aj_cons (ej_tup aj_nil) aj_nil)))) (aj_cons (ej_v 5 (hv := Or.inl rfl)) (aj_cons (ej_v 6 (hv := Or.inl rfl)) aj_nil))))))) (bj_cons (sj_expr (ej_bm PySem.F.plainAttrs_list PySem.F.slot_list_append PySem.F.type_list_append m_append (ej_v 3 (hv := Or.inr (Or.inl rfl))) (aj_cons (ej_tup (aj_cons ej_str (aj_cons ej_str (aj_cons (ej_tup (aj_cons (ej_ix o_ix (ej_v 3 (hv := Or.inr (Or.inl rfl))) ej_int (fun _ _ => rfl)) (aj_cons (ej_v 5 (hv := Or.inl rfl)) (aj_cons (ej_tup (aj_cons ej_str (aj_cons ej_str (aj_cons (ej_tup (aj_cons (ej_v 6 (hv := Or.inl rfl)) aj_nil)) aj_nil)))) aj_nil)))) aj_nil)))) aj_nil))) (bj_cons (sj_setLc (i := 4) (own := [("_law_turn", 7)]) false rfl sc__law_homes.nd rfl rfl (sw_true rfl rfl rfl (by decide +kernel)) (ij_rg1 rfl m_range (ej_own h__law_take (hr.mono (by decide)) rfl (aj_cons (ej_v 0 (hv := Or.inr (Or.inl rfl))) (aj_cons ej_int aj_nil)))) (blkOk_by (N := N__law_homes) (sc := defScope s__law_homes) (by decide +kernel)) (fun _ _ _ _ _ => (gj_name (i := 7) sc__law_homes.nd rfl (Or.inl rfl))) (fun _ _ _ _ _ => tsj_nil) (fun _ _ _ _ _ => (ej_ix o_ix (ej_v 3 (hv := Or.inr (Or.inl rfl))) (ej_own h__law_take (hr.mono (by decide)) rfl (aj_cons (ej_v 0 (hv := Or.inr (Or.inl rfl))) (aj_cons ej_int aj_nil))) (fun _ _ => rfl))) (by decide)) (bj_one (sj_ret (ej_tup (aj_cons (ej_v 1 (hv := Or.inl rfl)) (aj_cons (ej_callT b_tuple rfl m_tuple (by decide +kernel) (aj_cons (ej_v 4 (hv := Or.inl rfl)) aj_nil)) aj_nil))))))))))) real
abbrev N__law_stands : List Str := ["_law_members", "_law_trail", "_law_number"]
theorem sc__law_stands : FnScope N__law_stands ["_law_members", "_law_trail"] (defScope s__law_stands) := ⟨rfl, rfl, rfl, by decide +kernel, rfl, by decide +kernel, by decide +kernel⟩
theorem ok__law_stands {f : Addr} {fd : FuncData} {con : Con} (F : FunD K "_law_stands" "_law_stands" (defArgs s__law_stands) (defBody s__law_stands) (defScope s__law_stands) [] [] f fd) (m_len : mg "len" = none) (len : ∀ ds S r, con ds S = some r → ds.length = 2)
  (real : ∀ ds S v S', WfS S → belowL S.length ds = true → con ds S = some (v, S') → ∃ o, b__law_stands (sE 3 ds) S = some o ∧ Fin o v S' ∧ WfS S' ∧ S.length ≤ S'.length) : FnG P w K mg base (0 + 1) f fd ["_law_members", "_law_trail"] con :=
 fn_ok (b := b__law_stands) F sc__law_stands len (fun cdv A outer s H E hr => (bj_cons (sj_for PassesOwn.never rfl (ij_seq (ej_v 1 (hv := Or.inl rfl))) (gj_name (i := 2) sc__law_stands.nd rfl (Or.inl rfl)) (bj_cons (sj_if (wj_pt (wj_or (tj_cmp o_ge (ej_v 2 (hv := Or.inl rfl)) (ej_callB b_len rfl m_len (by decide +kernel) (aj_cons (ej_v 0 (hv := Or.inl rfl)) aj_nil)) (nomark _)) (wj_or1 (tj_cmp (o_ne hr.u64) (ej_ix o_ix (ej_ix o_ix (ej_v 0 (hv := Or.inl rfl)) (ej_v 2 (hv := Or.inl rfl)) (fun _ _ => rfl)) ej_int (fun _ _ => rfl)) ej_str (nomark _))))) (bj_one (sj_ret ej_non)) bj_nil) (bj_one (sj_set (i := 0) sc__law_stands.nd rfl (Or.inl rfl) (ej_ix o_ix (ej_ix o_ix (ej_v 0 (hv := Or.inl rfl)) (ej_v 2 (hv := Or.inl rfl)) (fun _ _ => rfl)) ej_int (fun _ _ => rfl)))))) (bj_one (sj_ret (ej_v 0 (hv := Or.inl rfl)))))) real
abbrev N__law_set : List Str := ["_law_members", "_law_trail", "_law_inner", "_law_home"]
theorem sc__law_set : FnScope N__law_set ["_law_members", "_law_trail", "_law_inner"] (defScope s__law_set) := ⟨rfl, rfl, rfl, by decide +kernel, rfl, by decide +kernel, by decide +kernel⟩
theorem ok__law_set {f : Addr} {fd : FuncData} {k : Nat} {con k__law_set : Con} (F : FunD K "_law_set" "_law_set" (defArgs s__law_set) (defBody s__law_set) (defScope s__law_set) [] [] f fd) (h__law_set : Cal P w K mg base k "_law_set" ["_law_members", "_law_trail", "_law_inner"] k__law_set) (len : ∀ ds S r, con ds S = some r → ds.length = 3)
  (real : ∀ ds S v S', WfS S → belowL S.length ds = true → con ds S = some (v, S') → ∃ o, b__law_set k__law_set (sE 4 ds) S = some o ∧ Fin o v S' ∧ WfS S' ∧ S.length ≤ S'.length) : FnG P w K mg base (k + 1) f fd ["_law_members", "_law_trail", "_law_inner"] con :=
 fn_ok (b := b__law_set k__law_set) F sc__law_set len (fun cdv A outer s H E hr => (bj_cons (sj_if (tj_cmp (o_eq hr.u64) (ej_v 1 (hv := Or.inl rfl)) (ej_tup aj_nil) (nomark _)) (bj_one (sj_ret (ej_v 2 (hv := Or.inl rfl)))) bj_nil) (bj_cons (sj_set (i := 3) sc__law_set.nd rfl (Or.inl rfl) (ej_ix o_ix (ej_v 0 (hv := Or.inl rfl)) (ej_ix o_ix (ej_v 1 (hv := Or.inl rfl)) ej_int (fun _ _ => rfl)) (fun _ _ => rfl))) (bj_cons (sj_set (i := 3) sc__law_set.nd rfl (Or.inl rfl) (ej_op o_add (ej_slice s_tup (ej_v 3 (hv := Or.inl rfl)) oj_no (oj_some ej_int)) (ej_tup (aj_cons (ej_own h__law_set hr rfl (aj_cons (ej_ix o_ix (ej_v 3 (hv := Or.inl rfl)) ej_int (fun _ _ => rfl)) (aj_cons (ej_slice s_tup (ej_v 1 (hv := Or.inl rfl)) (oj_some ej_int) oj_no) (aj_cons (ej_v 2 (hv := Or.inl rfl)) aj_nil)))) aj_nil)))) (bj_one (sj_ret (ej_op o_add (ej_op o_add (ej_slice s_tup (ej_v 0 (hv := Or.inl rfl)) oj_no (oj_some (ej_ix o_ix (ej_v 1 (hv := Or.inl rfl)) ej_int (fun _ _ => rfl)))) (ej_tup (aj_cons (ej_v 3 (hv := Or.inl rfl)) aj_nil))) (ej_slice s_tup (ej_v 0 (hv := Or.inl rfl)) (oj_some (ej_op o_add (ej_ix o_ix (ej_v 1 (hv := Or.inl rfl)) ej_int (fun _ _ => rfl)) ej_int)) oj_no)))))))) real
abbrev N__law_no_paths : List Str := ["_law_hand_here", "_law_members", "_law_some", "_law_deep", "_law_turn", "_law_trail", "_law_lodger"]
theorem sc__law_no_paths : FnScope N__law_no_paths ["_law_hand_here", "_law_members"] (defScope s__law_no_paths) := ⟨rfl, rfl, rfl, by decide +kernel, rfl, by decide +kernel, by decide +kernel⟩
theorem ok__law_no_paths {f : Addr} {fd : FuncData} {con k__law_walk k__law_of : Con} (F : FunD K "_law_no_paths" "_law_no_paths" (defArgs s__law_no_paths) (defBody s__law_no_paths) (defScope s__law_no_paths) [] [] f fd) (h__law_walk : Cal P w K mg base 12 "_law_walk" ["_law_members", "_law_trail"] k__law_walk) (h__law_of : Cal P w K mg base 2 "_law_of" ["_law_hand_here", "_law_some"] k__law_of) (m_len : mg "len" = none) (m_range : mg "range" = none) (len : ∀ ds S r, con ds S = some r → ds.length = 2)
  (real : ∀ ds S v S', WfS S → belowL S.length ds = true → con ds S = some (v, S') → ∃ o, b__law_no_paths k__law_walk k__law_of (sE 7 ds) S = some o ∧ Fin o v S' ∧ WfS S' ∧ S.length ≤ S'.length) : FnG P w K mg base (12 + 1) f fd ["_law_hand_here", "_law_members"] con :=
 fn_ok (b := b__law_no_paths k__law_walk k__law_of) F sc__law_no_paths len (fun cdv A outer s H E hr => (bj_cons (sj_set (i := 2) sc__law_no_paths.nd rfl (Or.inl rfl) (ej_bx (lj_disp (aj_cons ej_non (aj_cons ej_bl (aj_cons ej_int (aj_cons (ej_un o_neg ej_int) (aj_cons ej_str (aj_cons ej_str (aj_cons (ej_fz (lj_disp aj_nil)) (aj_cons (ej_fz (lj_disp (aj_cons ej_int aj_nil))) (aj_cons ej_dic0 (aj_cons (ej_tup (aj_cons ej_non aj_nil)) (aj_cons (ej_tup (aj_cons ej_bl aj_nil)) (aj_cons (ej_tup (aj_cons ej_bl aj_nil)) (aj_cons (ej_tup (aj_cons ej_str aj_nil)) (aj_cons (ej_tup (aj_cons (ej_tup (aj_cons ej_int aj_nil)) aj_nil)) (aj_cons (ej_tup (aj_cons (ej_un o_neg ej_int) aj_nil)) (aj_cons (ej_tup (aj_cons ej_int (aj_cons (ej_un o_neg ej_int) aj_nil))) aj_nil))))))))))))))))))) (bj_cons (sj_set (i := 2) sc__law_no_paths.nd rfl (Or.inl rfl) (ej_bx (lj_op o_addL (ej_v 2 (hv := Or.inl rfl)) (ej_fz (lj_disp (aj_cons (ej_tup (aj_cons (ej_callB b_len rfl m_len (by decide +kernel) (aj_cons (ej_v 1 (hv := Or.inl rfl)) aj_nil)) aj_nil)) (aj_cons (ej_tup (aj_cons (ej_callB b_len rfl m_len (by decide +kernel) (aj_cons (ej_v 1 (hv := Or.inl rfl)) aj_nil)) (aj_cons ej_int aj_nil))) (aj_cons (ej_tup (aj_cons (ej_op o_pow ej_int ej_int) aj_nil)) aj_nil)))))))) (bj_cons (sj_for PassesOwn.never rfl (ij_seq (ej_own h__law_walk (hr.mono (by decide)) rfl (aj_cons (ej_v 1 (hv := Or.inl rfl)) (aj_cons (ej_tup aj_nil) aj_nil)))) (gj_tup rfl (gsj_cons (gj_name (i := 5) sc__law_no_paths.nd rfl (Or.inl rfl)) (gsj_cons (gj_name (i := 6) sc__law_no_paths.nd rfl (Or.inl rfl)) gsj_nil))) (bj_one (sj_expr (ej_bm PySem.F.plainAttrs_list PySem.F.slot_list_extend PySem.F.type_list_extend m_extend (ej_v 2 (hv := Or.inl rfl)) (aj_cons (ej_if (tj_cmp (o_eq hr.u64) (ej_ix o_ix (ej_v 6 (hv := Or.inl rfl)) ej_int (fun _ _ => rfl)) ej_str (nomark _)) (ej_fz (lj_disp (aj_cons (ej_v 5 (hv := Or.inl rfl)) (aj_cons (ej_op o_add (ej_v 5 (hv := Or.inl rfl)) (ej_tup (aj_cons ej_int aj_nil))) aj_nil)))) (ej_fz (lj_disp (aj_cons (ej_op o_add (ej_v 5 (hv := Or.inl rfl)) (ej_tup (aj_cons (ej_callB b_len rfl m_len (by decide +kernel) (aj_cons (ej_ix o_ix (ej_v 6 (hv := Or.inl rfl)) ej_int (fun _ _ => rfl)) aj_nil)) aj_nil))) aj_nil)))) aj_nil))))) (bj_cons (sj_set (i := 3) sc__law_no_paths.nd rfl (Or.inl rfl) (ej_tup aj_nil)) (bj_cons (sj_for PassesOwn.never rfl (ij_rg1 rfl m_range (ej_own h__law_of (hr.mono (by decide)) rfl (aj_cons (ej_v 0 (hv := Or.inl rfl)) (aj_cons (ej_fz (lj_disp (aj_cons ej_int (aj_cons ej_int (aj_cons ej_int aj_nil))))) aj_nil)))) (gj_name (i := 4) sc__law_no_paths.nd rfl (Or.inl rfl)) (bj_one (sj_set (i := 3) sc__law_no_paths.nd rfl (Or.inl rfl) (ej_tup (aj_cons (ej_v 3 (hv := Or.inl rfl)) aj_nil))))) (bj_one (sj_ret (ej_fz (lj_op o_addL (ej_v 2 (hv := Or.inl rfl)) (ej_fz (lj_disp (aj_cons (ej_v 3 (hv := Or.inl rfl)) aj_nil))))))))))))) real
abbrev N__law_leaf : List Str := ["_law_hand_here", "_law_many", "_law_sort"]
theorem sc__law_leaf : FnScope N__law_leaf ["_law_hand_here", "_law_many"] (defScope s__law_leaf) := ⟨rfl, rfl, rfl, by decide +kernel, rfl, by decide +kernel, by decide +kernel⟩
theorem ok__law_leaf {f : Addr} {fd : FuncData} {con k__law_take k__law_figure : Con} (F : FunD K "_law_leaf" "_law_leaf" (defArgs s__law_leaf) (defBody s__law_leaf) (defScope s__law_leaf) [] [] f fd) (h__law_take : Cal P w K mg base 1 "_law_take" ["_law_hand_here", "_law_many"] k__law_take) (h__law_figure : Cal P w K mg base 3 "_law_figure" ["_law_hand_here"] k__law_figure) (len : ∀ ds S r, con ds S = some r → ds.length = 2)
  (real : ∀ ds S v S', WfS S → belowL S.length ds = true → con ds S = some (v, S') → ∃ o, b__law_leaf k__law_take k__law_figure (sE 3 ds) S = some o ∧ Fin o v S' ∧ WfS S' ∧ S.length ≤ S'.length) : FnG P w K mg base (3 + 1) f fd ["_law_hand_here", "_law_many"] con :=
 fn_ok (b := b__law_leaf k__law_take k__law_figure) F sc__law_leaf len (fun cdv A outer s H E hr => (bj_cons (sj_set (i := 2) sc__law_leaf.nd rfl (Or.inl rfl) (ej_own h__law_take (hr.mono (by decide)) rfl (aj_cons (ej_v 0 (hv := Or.inl rfl)) (aj_cons ej_int aj_nil)))) (bj_cons (sj_if (tj_cmp (o_eq hr.u64) (ej_v 2 (hv := Or.inl rfl)) ej_int (nomark _)) (bj_one (sj_ret (ej_tup (aj_cons ej_str (aj_cons (ej_own h__law_take (hr.mono (by decide)) rfl (aj_cons (ej_v 0 (hv := Or.inl rfl)) (aj_cons ej_int aj_nil))) aj_nil))))) bj_nil) (bj_one (sj_ret (ej_if (tj_cmp (o_eq hr.u64) (ej_v 2 (hv := Or.inl rfl)) ej_int (nomark _)) (ej_tup (aj_cons ej_str (aj_cons (ej_own h__law_figure (hr.mono (by decide)) rfl (aj_cons (ej_v 0 (hv := Or.inl rfl)) aj_nil)) aj_nil))) (ej_tup (aj_cons ej_str (aj_cons (ej_own h__law_take (hr.mono (by decide)) rfl (aj_cons (ej_v 0 (hv := Or.inl rfl)) (aj_cons (ej_v 1 (hv := Or.inl rfl)) aj_nil))) aj_nil))))))))) real
abbrev N__law_expression : List Str := ["_law_hand_here", "_law_many", "_law_level", "_law_jumps", "_law_words", "_law_word", "_law_one_here", "_law_other", "_law_parting"]
theorem sc__law_expression : FnScope N__law_expression ["_law_hand_here", "_law_many", "_law_level", "_law_jumps"] (defScope s__law_expression) := ⟨rfl, rfl, rfl, by decide +kernel, rfl, by decide +kernel, by decide +kernel⟩
theorem ok__law_expression {f : Addr} {fd : FuncData} {k : Nat} {con k__law_of k__law_leaf k__law_expression k__law_take k__law_figure : Con} (F : FunD K "_law_expression" "_law_expression" (defArgs s__law_expression) (defBody s__law_expression) (defScope s__law_expression) [] [] f fd) (h__law_of : Cal P w K mg base 2 "_law_of" ["_law_hand_here", "_law_some"] k__law_of) (h__law_leaf : Cal P w K mg base 4 "_law_leaf" ["_law_hand_here", "_law_many"] k__law_leaf) (h__law_expression : Cal P w K mg base k "_law_expression" ["_law_hand_here", "_law_many", "_law_level", "_law_jumps"] k__law_expression) (h__law_take : Cal P w K mg base 1 "_law_take" ["_law_hand_here", "_law_many"] k__law_take) (h__law_figure : Cal P w K mg base 3 "_law_figure" ["_law_hand_here"] k__law_figure) (hk : 4 ≤ k) (len : ∀ ds S r, con ds S = some r → ds.length = 4)
  (real : ∀ ds S v S', WfS S → belowL S.length ds = true → con ds S = some (v, S') → ∃ o, b__law_expression k__law_of k__law_leaf k__law_expression k__law_take k__law_figure (sE 9 ds) S = some o ∧ Fin o v S' ∧ WfS S' ∧ S.length ≤ S'.length) : FnG P w K mg base (k + 1) f fd ["_law_hand_here", "_law_many", "_law_level", "_law_jumps"] con :=
 fn_ok (b := b__law_expression k__law_of k__law_leaf k__law_expression k__law_take k__law_figure) F sc__law_expression len (fun cdv A outer s H E hr => (bj_cons (sj_set (i := 4) sc__law_expression.nd rfl (Or.inl rfl) (ej_fz (lj_disp (aj_cons ej_str (aj_cons ej_str (aj_cons ej_str (aj_cons ej_str (aj_cons ej_str (aj_cons ej_str (aj_cons ej_str (aj_cons ej_str (aj_cons ej_str (aj_cons ej_str aj_nil))))))))))))) (bj_cons (sj_set (i := 4) sc__law_expression.nd rfl (Or.inl rfl) (ej_fz (lj_op o_addL (ej_v 4 (hv := Or.inl rfl)) (ej_fz (lj_op o_mulB (ej_fz (lj_disp (aj_cons ej_str (aj_cons ej_str aj_nil)))) (ej_v 3 (hv := Or.inl rfl))))))) (bj_cons (sj_set (i := 5) sc__law_expression.nd rfl (Or.inl rfl) (ej_if (tj_cmp (o_eq hr.u64) (ej_v 2 (hv := Or.inl rfl)) ej_int (nomark _)) ej_str (ej_own h__law_of (hr.mono (by omega)) rfl (aj_cons (ej_v 0 (hv := Or.inl rfl)) (aj_cons (ej_v 4 (hv := Or.inl rfl)) aj_nil))))) (bj_cons (sj_if (tj_cmp (o_eq hr.u64) (ej_v 5 (hv := Or.inl rfl)) ej_str (nomark _)) (bj_one (sj_ret (ej_own h__law_leaf (hr.mono (by omega)) rfl (aj_cons (ej_v 0 (hv := Or.inl rfl)) (aj_cons (ej_v 1 (hv := Or.inl rfl)) aj_nil))))) bj_nil) (bj_cons (sj_set (i := 6) sc__law_expression.nd rfl (Or.inl rfl) (ej_own h__law_expression hr rfl (aj_cons (ej_v 0 (hv := Or.inl rfl)) (aj_cons (ej_v 1 (hv := Or.inl rfl)) (aj_cons (ej_op o_sub (ej_v 2 (hv := Or.inl rfl)) ej_int) (aj_cons (ej_v 3 (hv := Or.inl rfl)) aj_nil)))))) (bj_cons (sj_if (tj_cmp (o_eq hr.u64) (ej_v 5 (hv := Or.inl rfl)) ej_str (nomark _)) (bj_one (sj_ret (ej_tup (aj_cons (ej_v 5 (hv := Or.inl rfl)) (aj_cons (ej_op o_sub (ej_own h__law_take (hr.mono (by omega)) rfl (aj_cons (ej_v 0 (hv := Or.inl rfl)) (aj_cons ej_int aj_nil))) ej_int) (aj_cons (ej_v 6 (hv := Or.inl rfl)) aj_nil)))))) bj_nil) (bj_cons (sj_if (tj_cmp (o_eq hr.u64) (ej_v 5 (hv := Or.inl rfl)) ej_str (nomark _)) (bj_one (sj_ret (ej_tup (aj_cons (ej_v 5 (hv := Or.inl rfl)) (aj_cons (ej_own h__law_take (hr.mono (by omega)) rfl (aj_cons (ej_v 0 (hv := Or.inl rfl)) (aj_cons ej_int aj_nil))) (aj_cons (ej_v 6 (hv := Or.inl rfl)) aj_nil)))))) bj_nil) (bj_cons (sj_set (i := 7) sc__law_expression.nd rfl (Or.inl rfl) (ej_own h__law_expression hr rfl (aj_cons (ej_v 0 (hv := Or.inl rfl)) (aj_cons (ej_v 1 (hv := Or.inl rfl)) (aj_cons (ej_op o_sub (ej_v 2 (hv := Or.inl rfl)) ej_int) (aj_cons (ej_v 3 (hv := Or.inl rfl)) aj_nil)))))) (bj_cons (sj_if (tj_cmp (o_eq hr.u64) (ej_v 5 (hv := Or.inl rfl)) ej_str (nomark _)) (bj_one (sj_ret (ej_tup (aj_cons (ej_v 5 (hv := Or.inl rfl)) (aj_cons (ej_own h__law_take (hr.mono (by omega)) rfl (aj_cons (ej_v 0 (hv := Or.inl rfl)) (aj_cons ej_int aj_nil))) (aj_cons (ej_own h__law_figure (hr.mono (by omega)) rfl (aj_cons (ej_v 0 (hv := Or.inl rfl)) aj_nil)) (aj_cons (ej_v 6 (hv := Or.inl rfl)) (aj_cons (ej_v 7 (hv := Or.inl rfl)) aj_nil)))))))) bj_nil) (bj_cons (sj_if (tj_cmp (o_eq hr.u64) (ej_v 5 (hv := Or.inl rfl)) ej_str (nomark _)) (bj_cons (sj_set (i := 8) sc__law_expression.nd rfl (Or.inl rfl) (ej_own h__law_of (hr.mono (by omega)) rfl (aj_cons (ej_v 0 (hv := Or.inl rfl)) (aj_cons (ej_fz (lj_disp (aj_cons ej_int (aj_cons ej_int (aj_cons ej_int (aj_cons ej_int (aj_cons ej_int (aj_cons (ej_op o_add ej_int (ej_own h__law_take (hr.mono (by omega)) rfl (aj_cons (ej_v 0 (hv := Or.inl rfl)) (aj_cons ej_int aj_nil)))) aj_nil)))))))) aj_nil)))) (bj_one (sj_ret (ej_tup (aj_cons (ej_v 5 (hv := Or.inl rfl)) (aj_cons (ej_own h__law_take (hr.mono (by omega)) rfl (aj_cons (ej_v 0 (hv := Or.inl rfl)) (aj_cons (ej_v 1 (hv := Or.inl rfl)) aj_nil))) (aj_cons (ej_v 8 (hv := Or.inl rfl)) (aj_cons (ej_v 6 (hv := Or.inl rfl)) (aj_cons (ej_v 7 (hv := Or.inl rfl)) aj_nil))))))))) bj_nil) (bj_one (sj_ret (ej_tup (aj_cons (ej_v 5 (hv := Or.inl rfl)) (aj_cons (ej_v 6 (hv := Or.inl rfl)) (aj_cons (ej_v 7 (hv := Or.inl rfl)) aj_nil))))))))))))))))) real
abbrev N__law_stake : List Str := ["_law_hand_here", "_law_many", "_law_level", "_law_jumps", "_law_far", "_law_inner"]
theorem sc__law_stake : FnScope N__law_stake ["_law_hand_here", "_law_many", "_law_level", "_law_jumps"] (defScope s__law_stake) := ⟨rfl, rfl, rfl, by decide +kernel, rfl, by decide +kernel, by decide +kernel⟩
theorem ok__law_stake {f : Addr} {fd : FuncData} {con k__law_of k__law_take k__law_expression : Con} (F : FunD K "_law_stake" "_law_stake" (defArgs s__law_stake) (defBody s__law_stake) (defScope s__law_stake) [] [] f fd) (h__law_of : Cal P w K mg base 2 "_law_of" ["_law_hand_here", "_law_some"] k__law_of) (h__law_take : Cal P w K mg base 1 "_law_take" ["_law_hand_here", "_law_many"] k__law_take) (h__law_expression : Cal P w K mg base 9 "_law_expression" ["_law_hand_here", "_law_many", "_law_level", "_law_jumps"] k__law_expression) (len : ∀ ds S r, con ds S = some r → ds.length = 4)
  (real : ∀ ds S v S', WfS S → belowL S.length ds = true → con ds S = some (v, S') → ∃ o, b__law_stake k__law_of k__law_take k__law_expression (sE 6 ds) S = some o ∧ Fin o v S' ∧ WfS S' ∧ S.length ≤ S'.length) : FnG P w K mg base (9 + 1) f fd ["_law_hand_here", "_law_many", "_law_level", "_law_jumps"] con :=
 fn_ok (b := b__law_stake k__law_of k__law_take k__law_expression) F sc__law_stake len (fun cdv A outer s H E hr => (bj_cons (sj_set (i := 4) sc__law_stake.nd rfl (Or.inl rfl) (ej_own h__law_of (hr.mono (by decide)) rfl (aj_cons (ej_v 0 (hv := Or.inl rfl)) (aj_cons (ej_fz (lj_disp (aj_cons ej_int (aj_cons ej_int (aj_cons ej_int (aj_cons ej_int (aj_cons (ej_op o_add ej_int (ej_own h__law_take (hr.mono (by decide)) rfl (aj_cons (ej_v 0 (hv := Or.inl rfl)) (aj_cons ej_int aj_nil)))) aj_nil))))))) aj_nil)))) (bj_cons (sj_if (tj_cmp (o_eq hr.u64) (ej_own h__law_take (hr.mono (by decide)) rfl (aj_cons (ej_v 0 (hv := Or.inl rfl)) (aj_cons ej_int aj_nil))) ej_int (nomark _)) (bj_one (sj_ret (ej_tup (aj_cons ej_str (aj_cons (ej_own h__law_of (hr.mono (by decide)) rfl (aj_cons (ej_v 0 (hv := Or.inl rfl)) (aj_cons (ej_fz (lj_disp (aj_cons ej_int (aj_cons ej_int (aj_cons (ej_v 4 (hv := Or.inl rfl)) (aj_cons (ej_un o_neg (ej_v 4 (hv := Or.inl rfl))) aj_nil)))))) aj_nil))) aj_nil))))) bj_nil) (bj_cons (sj_set (i := 5) sc__law_stake.nd rfl (Or.inl rfl) (ej_tup (aj_cons ej_str (aj_cons (ej_tup (aj_cons ej_str (aj_cons (ej_un o_neg (ej_v 4 (hv := Or.inl rfl))) aj_nil))) (aj_cons (ej_own h__law_expression (hr.mono (by decide)) rfl (aj_cons (ej_v 0 (hv := Or.inl rfl)) (aj_cons (ej_v 1 (hv := Or.inl rfl)) (aj_cons (ej_v 2 (hv := Or.inl rfl)) (aj_cons (ej_v 3 (hv := Or.inl rfl)) aj_nil))))) aj_nil))))) (bj_one (sj_ret (ej_tup (aj_cons ej_str (aj_cons (ej_tup (aj_cons ej_str (aj_cons (ej_v 4 (hv := Or.inl rfl)) aj_nil))) (aj_cons (ej_v 5 (hv := Or.inl rfl)) aj_nil)))))))))) real
abbrev N__law_deeds : List Str := ["_law_hand_here", "_law_many", "_law_deep", "_law_found", "_law_turn", "_law_parts", "_law_i", "_law_word"]
theorem sc__law_deeds : FnScope N__law_deeds ["_law_hand_here", "_law_many", "_law_deep"] (defScope s__law_deeds) := ⟨rfl, rfl, rfl, by decide +kernel, rfl, by decide +kernel, by decide +kernel⟩
theorem ok__law_deeds {f : Addr} {fd : FuncData} {k : Nat} {con k__law_take k__law_of k__law_figure k__law_deeds : Con} (F : FunD K "_law_deeds" "_law_deeds" (defArgs s__law_deeds) (defBody s__law_deeds) (defScope s__law_deeds) [] [] f fd) (h__law_take : Cal P w K mg base 1 "_law_take" ["_law_hand_here", "_law_many"] k__law_take) (h__law_of : Cal P w K mg base 2 "_law_of" ["_law_hand_here", "_law_some"] k__law_of) (h__law_figure : Cal P w K mg base 3 "_law_figure" ["_law_hand_here"] k__law_figure) (h__law_deeds : Cal P w K mg base k "_law_deeds" ["_law_hand_here", "_law_many", "_law_deep"] k__law_deeds) (m_range : mg "range" = none) (m_tuple : mg "tuple" = none) (hk : 3 ≤ k) (len : ∀ ds S r, con ds S = some r → ds.length = 3)
  (real : ∀ ds S v S', WfS S → belowL S.length ds = true → con ds S = some (v, S') → ∃ o, b__law_deeds k__law_take k__law_of k__law_figure k__law_deeds (sE 8 ds) S = some o ∧ Fin o v S' ∧ WfS S' ∧ S.length ≤ S'.length) : FnG P w K mg base (k + 1) f fd ["_law_hand_here", "_law_many", "_law_deep"] con :=
 fn_ok (b := b__law_deeds k__law_take k__law_of k__law_figure k__law_deeds) F sc__law_deeds len (fun cdv A outer s H E hr => (bj_cons (sj_set (i := 3) sc__law_deeds.nd rfl (Or.inl rfl) (ej_bx (lj_disp aj_nil))) (bj_cons (sj_for PassesOwn.never rfl (ij_rg1 rfl m_range (ej_own h__law_take (hr.mono (by omega)) rfl (aj_cons (ej_v 0 (hv := Or.inr (Or.inl rfl))) (aj_cons ej_int aj_nil)))) (gj_name (i := 4) sc__law_deeds.nd rfl (Or.inl rfl)) (bj_cons (sj_par (i := 6) (j := 7) rfl sc__law_deeds.nd rfl rfl (by decide) rfl rfl (aj_cons (ej_own h__law_take (hr.mono (by omega)) rfl (aj_cons (ej_v 0 (hv := Or.inr (Or.inl rfl))) (aj_cons ej_int aj_nil))) (aj_cons (ej_own h__law_of (hr.mono (by omega)) rfl (aj_cons (ej_v 0 (hv := Or.inr (Or.inl rfl))) (aj_cons (ej_fz (lj_disp (aj_cons ej_str (aj_cons ej_str (aj_cons ej_str (aj_cons ej_str (aj_cons ej_str (aj_cons ej_str aj_nil)))))))) aj_nil))) aj_nil)) rfl) (bj_one (sj_if (tj_cmp (o_in hr.u65) (ej_v 7 (hv := Or.inl rfl)) (ej_tup (aj_cons ej_str (aj_cons ej_str aj_nil))) rfl) (bj_one (sj_expr (ej_bm PySem.F.plainAttrs_list PySem.F.slot_list_append PySem.F.type_list_append m_append (ej_v 3 (hv := Or.inl rfl)) (aj_cons (ej_tup (aj_cons (ej_v 7 (hv := Or.inl rfl)) (aj_cons (ej_v 6 (hv := Or.inl rfl)) (aj_cons (ej_own h__law_figure (hr.mono (by omega)) rfl (aj_cons (ej_v 0 (hv := Or.inr (Or.inl rfl))) aj_nil)) aj_nil)))) aj_nil)))) (bj_one (sj_if (tj_cmp (o_in hr.u65) (ej_v 7 (hv := Or.inl rfl)) (ej_tup (aj_cons ej_str (aj_cons ej_str aj_nil))) rfl) (bj_one (sj_expr (ej_bm PySem.F.plainAttrs_list PySem.F.slot_list_append PySem.F.type_list_append m_append (ej_v 3 (hv := Or.inl rfl)) (aj_cons (ej_tup (aj_cons (ej_v 7 (hv := Or.inl rfl)) (aj_cons (ej_v 6 (hv := Or.inl rfl)) (aj_cons (ej_own h__law_take (hr.mono (by omega)) rfl (aj_cons (ej_v 0 (hv := Or.inr (Or.inl rfl))) (aj_cons ej_int aj_nil))) aj_nil)))) aj_nil)))) (bj_one (sj_expr (ej_bm PySem.F.plainAttrs_list PySem.F.slot_list_append PySem.F.type_list_append m_append (ej_v 3 (hv := Or.inl rfl)) (aj_cons (ej_tup (aj_cons (ej_v 7 (hv := Or.inl rfl)) (aj_cons (ej_v 6 (hv := Or.inl rfl)) (aj_cons (ej_own h__law_take (hr.mono (by omega)) rfl (aj_cons (ej_v 0 (hv := Or.inr (Or.inl rfl))) (aj_cons (ej_v 1 (hv := Or.inr (Or.inl rfl))) aj_nil))) aj_nil)))) aj_nil)))))))))) (bj_cons (sj_if (wj_pt (wj_and (tj_cmp o_gt (ej_v 2 (hv := Or.inr (Or.inl rfl))) ej_int (nomark _)) (wj_and1 (tj_cmp (o_eq hr.u64) (ej_own h__law_take (hr.mono (by omega)) rfl (aj_cons (ej_v 0 (hv := Or.inr (Or.inl rfl))) (aj_cons ej_int aj_nil))) ej_int (nomark _))))) (bj_cons (sj_setLc (i := 5) (own := [("_law_turn", 4)]) false rfl sc__law_deeds.nd rfl rfl (sw_true rfl rfl rfl (by decide +kernel)) (ij_rg1 rfl m_range ej_int) (blkOk_by (N := N__law_deeds) (sc := defScope s__law_deeds) (by decide +kernel)) (fun _ _ _ _ _ => (gj_name (i := 4) sc__law_deeds.nd rfl (Or.inl rfl))) (fun _ _ _ _ _ => tsj_nil) (fun _ _ _ _ _ => (ej_own h__law_deeds hr rfl (aj_cons (ej_v 0 (hv := Or.inr (Or.inl rfl))) (aj_cons (ej_v 1 (hv := Or.inr (Or.inl rfl))) (aj_cons (ej_op o_sub (ej_v 2 (hv := Or.inr (Or.inl rfl))) ej_int) aj_nil))))) (by decide)) (bj_one (sj_expr (ej_bm PySem.F.plainAttrs_list PySem.F.slot_list_append PySem.F.type_list_append m_append (ej_v 3 (hv := Or.inl rfl)) (aj_cons (ej_tup (aj_cons ej_str (aj_cons (ej_own h__law_take (hr.mono (by omega)) rfl (aj_cons (ej_v 0 (hv := Or.inr (Or.inl rfl))) (aj_cons ej_int aj_nil))) (aj_cons (ej_own h__law_figure (hr.mono (by omega)) rfl (aj_cons (ej_v 0 (hv := Or.inr (Or.inl rfl))) aj_nil)) (aj_cons (ej_ix o_ix (ej_v 5 (hv := Or.inl rfl)) ej_int (fun _ _ => rfl)) (aj_cons (ej_ix o_ix (ej_v 5 (hv := Or.inl rfl)) ej_int (fun _ _ => rfl)) aj_nil)))))) aj_nil))))) bj_nil) (bj_one (sj_ret (ej_callT b_tuple rfl m_tuple (by decide +kernel) (aj_cons (ej_v 3 (hv := Or.inl rfl)) aj_nil)))))))) real
abbrev N__law_doubter : List Str := ["_law_hand_here", "_law_many", "_law_level", "_law_jumps", "_law_stakes", "_law_behinds", "_law_name", "_law_scale", "_law_mark"]
theorem sc__law_doubter : FnScope N__law_doubter ["_law_hand_here", "_law_many", "_law_level", "_law_jumps"] (defScope s__law_doubter) := ⟨rfl, rfl, rfl, by decide +kernel, rfl, by decide +kernel, by decide +kernel⟩
theorem ok__law_doubter {f : Addr} {fd : FuncData} {con k__law_take k__law_of k__law_stake k__law_deeds k__law_registers : Con} (F : FunD K "_law_doubter" "_law_doubter" (defArgs s__law_doubter) (defBody s__law_doubter) (defScope s__law_doubter) [] [] f fd) (h__law_take : Cal P w K mg base 1 "_law_take" ["_law_hand_here", "_law_many"] k__law_take) (h__law_of : Cal P w K mg base 2 "_law_of" ["_law_hand_here", "_law_some"] k__law_of) (h__law_stake : Cal P w K mg base 10 "_law_stake" ["_law_hand_here", "_law_many", "_law_level", "_law_jumps"] k__law_stake) (h__law_deeds : Cal P w K mg base 6 "_law_deeds" ["_law_hand_here", "_law_many", "_law_deep"] k__law_deeds) (h__law_registers : Cal P w K mg base 4 "_law_registers" ["_law_hand_here"] k__law_registers) (m_tuple : mg "tuple" = none) (m_range : mg "range" = none) (len : ∀ ds S r, con ds S = some r → ds.length = 4)
  (real : ∀ ds S v S', WfS S → belowL S.length ds = true → con ds S = some (v, S') → ∃ o, b__law_doubter k__law_take k__law_of k__law_stake k__law_deeds k__law_registers (sE 9 ds) S = some o ∧ Fin o v S' ∧ WfS S' ∧ S.length ≤ S'.length) : FnG P w K mg base (10 + 1) f fd ["_law_hand_here", "_law_many", "_law_level", "_law_jumps"] con :=
 fn_ok (b := b__law_doubter k__law_take k__law_of k__law_stake k__law_deeds k__law_registers) F sc__law_doubter len (fun cdv A outer s H E hr => (bj_cons (sj_par (i := 6) (j := 7) rfl sc__law_doubter.nd rfl rfl (by decide) rfl rfl (aj_cons (ej_own h__law_of (hr.mono (by decide)) rfl (aj_cons (ej_v 0 (hv := Or.inr (Or.inl rfl))) (aj_cons (ej_fz (lj_disp (aj_cons ej_str (aj_cons ej_str (aj_cons ej_str (aj_cons ej_str aj_nil)))))) aj_nil))) (aj_cons (ej_own h__law_take (hr.mono (by decide)) rfl (aj_cons (ej_v 0 (hv := Or.inr (Or.inl rfl))) (aj_cons ej_int aj_nil))) aj_nil)) rfl) (bj_cons (sj_set (i := 4) sc__law_doubter.nd rfl (Or.inl rfl) (ej_callT b_tuple rfl m_tuple (by decide +kernel) (aj_cons (ej_fz (lj_lc (own := [("_law_mark", 8)]) rfl sc__law_doubter.nd (ij_rg1 rfl m_range (ej_v 1 (hv := Or.inr (Or.inl rfl)))) (blkOk_by (N := N__law_doubter) (sc := defScope s__law_doubter) (by decide +kernel)) (fun _ _ _ _ _ => (gj_name (i := 8) sc__law_doubter.nd rfl (Or.inl rfl))) (fun _ _ _ _ _ => tsj_nil) (fun _ _ _ _ _ => (ej_own h__law_stake (hr.mono (by decide)) rfl (aj_cons (ej_v 0 (hv := Or.inr (Or.inl rfl))) (aj_cons (ej_v 1 (hv := Or.inr (Or.inl rfl))) (aj_cons (ej_v 2 (hv := Or.inr (Or.inl rfl))) (aj_cons (ej_v 3 (hv := Or.inr (Or.inl rfl))) aj_nil)))))) (by decide))) aj_nil))) (bj_cons (sj_set (i := 5) sc__law_doubter.nd rfl (Or.inl rfl) (ej_callT b_tuple rfl m_tuple (by decide +kernel) (aj_cons (ej_fz (lj_lc (own := [("_law_mark", 8)]) rfl sc__law_doubter.nd (ij_rg1 rfl m_range (ej_v 1 (hv := Or.inr (Or.inl rfl)))) (blkOk_by (N := N__law_doubter) (sc := defScope s__law_doubter) (by decide +kernel)) (fun _ _ _ _ _ => (gj_name (i := 8) sc__law_doubter.nd rfl (Or.inl rfl))) (fun _ _ _ _ _ => tsj_nil) (fun _ _ _ _ _ => (ej_own h__law_deeds (hr.mono (by decide)) rfl (aj_cons (ej_v 0 (hv := Or.inr (Or.inl rfl))) (aj_cons (ej_v 1 (hv := Or.inr (Or.inl rfl))) (aj_cons ej_int aj_nil))))) (by decide))) aj_nil))) (bj_one (sj_ret (ej_tup (aj_cons (ej_v 6 (hv := Or.inl rfl)) (aj_cons (ej_v 7 (hv := Or.inl rfl)) (aj_cons (ej_own h__law_registers (hr.mono (by decide)) rfl (aj_cons (ej_v 0 (hv := Or.inr (Or.inl rfl))) aj_nil)) (aj_cons (ej_v 4 (hv := Or.inl rfl)) (aj_cons (ej_v 5 (hv := Or.inl rfl)) aj_nil)))))))))))) real
abbrev N__law_new : List Str := ["_law_hand_here", "_law_many", "_law_doubter_here", "_law_one_here"]
theorem sc__law_new : FnScope N__law_new ["_law_hand_here", "_law_many"] (defScope s__law_new) := ⟨rfl, rfl, rfl, by decide +kernel, rfl, by decide +kernel, by decide +kernel⟩
theorem ok__law_new {f : Addr} {fd : FuncData} {con k__law_doubter k__law_one k__law_of : Con} (F : FunD K "_law_new" "_law_new" (defArgs s__law_new) (defBody s__law_new) (defScope s__law_new) [] [] f fd) (h__law_doubter : Cal P w K mg base 11 "_law_doubter" ["_law_hand_here", "_law_many", "_law_level", "_law_jumps"] k__law_doubter) (h__law_one : Cal P w K mg base 5 "_law_one" ["_law_hand_here", "_law_doubter_here"] k__law_one) (h__law_of : Cal P w K mg base 2 "_law_of" ["_law_hand_here", "_law_some"] k__law_of) (len : ∀ ds S r, con ds S = some r → ds.length = 2)
  (real : ∀ ds S v S', WfS S → belowL S.length ds = true → con ds S = some (v, S') → ∃ o, b__law_new k__law_doubter k__law_one k__law_of (sE 4 ds) S = some o ∧ Fin o v S' ∧ WfS S' ∧ S.length ≤ S'.length) : FnG P w K mg base (11 + 1) f fd ["_law_hand_here", "_law_many"] con :=
 fn_ok (b := b__law_new k__law_doubter k__law_one k__law_of) F sc__law_new len (fun cdv A outer s H E hr => (bj_cons (sj_set (i := 2) sc__law_new.nd rfl (Or.inl rfl) (ej_own h__law_doubter (hr.mono (by decide)) rfl (aj_cons (ej_v 0 (hv := Or.inl rfl)) (aj_cons (ej_v 1 (hv := Or.inl rfl)) (aj_cons ej_int (aj_cons ej_bl aj_nil)))))) (bj_cons (sj_set (i := 3) sc__law_new.nd rfl (Or.inl rfl) (ej_own h__law_one (hr.mono (by decide)) rfl (aj_cons (ej_v 0 (hv := Or.inl rfl)) (aj_cons (ej_if (tj_cmp (o_eq hr.u64) (ej_v 1 (hv := Or.inl rfl)) ej_int (nomark _)) (ej_v 2 (hv := Or.inl rfl)) (ej_op o_add (ej_slice s_tup (ej_v 2 (hv := Or.inl rfl)) oj_no (oj_some ej_int)) (ej_tup (aj_cons (ej_op o_mul (ej_tup (aj_cons (ej_tup (aj_cons ej_str (aj_cons ej_int aj_nil))) aj_nil)) (ej_v 1 (hv := Or.inl rfl))) (aj_cons (ej_ix o_ix (ej_v 2 (hv := Or.inl rfl)) ej_int (fun _ _ => rfl)) aj_nil))))) aj_nil)))) (bj_one (sj_ret (ej_own h__law_of (hr.mono (by decide)) rfl (aj_cons (ej_v 0 (hv := Or.inl rfl)) (aj_cons (ej_fz (lj_disp (aj_cons (ej_v 3 (hv := Or.inl rfl)) (aj_cons (ej_tup (aj_cons ej_str (aj_cons ej_str (aj_cons (ej_tup aj_nil) aj_nil)))) (aj_cons (ej_tup (aj_cons ej_str (aj_cons ej_str (aj_cons (ej_tup (aj_cons (ej_v 3 (hv := Or.inl rfl)) (aj_cons (ej_v 3 (hv := Or.inl rfl)) aj_nil))) aj_nil)))) aj_nil))))) aj_nil)))))))) real
abbrev N__law_built_anew : List Str := ["_law_entire", "_law_told", "_law_trail", "_law_lodger"]
theorem sc__law_built_anew : FnScope N__law_built_anew ["_law_entire"] (defScope s__law_built_anew) := ⟨rfl, rfl, rfl, by decide +kernel, rfl, by decide +kernel, by decide +kernel⟩
theorem ok__law_built_anew {f : Addr} {fd : FuncData} {con k__law_walk k_joined : Con} (F : FunD K "_law_built_anew" "_law_built_anew" (defArgs s__law_built_anew) (defBody s__law_built_anew) (defScope s__law_built_anew) [] [] f fd) (h__law_walk : Cal P w K mg base 12 "_law_walk" ["_law_members", "_law_trail"] k__law_walk) (h_joined : CalX P w K mg base 14 "joined" ["house", "path", "member"] k_joined) (len : ∀ ds S r, con ds S = some r → ds.length = 1)
  (real : ∀ ds S v S', WfS S → belowL S.length ds = true → con ds S = some (v, S') → ∃ o, b__law_built_anew k__law_walk k_joined (sE 4 ds) S = some o ∧ Fin o v S' ∧ WfS S' ∧ S.length ≤ S'.length) : FnG P w K mg base (14 + 1) f fd ["_law_entire"] con :=
 fn_ok (b := b__law_built_anew k__law_walk k_joined) F sc__law_built_anew len (fun cdv A outer s H E hr => (bj_cons (sj_set (i := 1) sc__law_built_anew.nd rfl (Or.inl rfl) (ej_tup (aj_cons (ej_ix o_ix (ej_v 0 (hv := Or.inl rfl)) ej_int (fun _ _ => rfl)) (aj_cons (ej_tup aj_nil) aj_nil)))) (bj_cons (sj_for PassesOwn.never rfl (ij_seq (ej_own h__law_walk (hr.mono (by decide)) rfl (aj_cons (ej_ix o_ix (ej_v 0 (hv := Or.inl rfl)) ej_int (fun _ _ => rfl)) (aj_cons (ej_tup aj_nil) aj_nil)))) (gj_tup rfl (gsj_cons (gj_name (i := 2) sc__law_built_anew.nd rfl (Or.inl rfl)) (gsj_cons (gj_name (i := 3) sc__law_built_anew.nd rfl (Or.inl rfl)) gsj_nil))) (bj_one (sj_set (i := 1) sc__law_built_anew.nd rfl (Or.inl rfl) (ej_own h_joined.toCal (hr.mono (by decide)) rfl (aj_cons (ej_v 1 (hv := Or.inl rfl)) (aj_cons (ej_slice s_tup (ej_v 2 (hv := Or.inl rfl)) oj_no (oj_some (ej_un o_neg ej_int))) (aj_cons (ej_if (tj_cmp (o_eq hr.u64) (ej_ix o_ix (ej_v 3 (hv := Or.inl rfl)) ej_int (fun _ _ => rfl)) ej_str (nomark _)) (ej_v 3 (hv := Or.inl rfl)) (ej_op o_add (ej_slice s_tup (ej_v 3 (hv := Or.inl rfl)) oj_no (oj_some ej_int)) (ej_tup (aj_cons (ej_tup aj_nil) aj_nil)))) aj_nil))))))) (bj_one (sj_ret (ej_v 1 (hv := Or.inl rfl))))))) real
abbrev N__law_caught : List Str := ["_law_entire", "_law_trail", "_law_lodger", "_law_caught_here", "error"]
theorem sc__law_caught : FnScope N__law_caught ["_law_entire", "_law_trail", "_law_lodger"] (defScope s__law_caught) := ⟨rfl, rfl, rfl, by decide +kernel, rfl, by decide +kernel, by decide +kernel⟩
theorem ok__law_caught {f : Addr} {fd : FuncData} {con k_joined : Con} (F : FunD K "_law_caught" "_law_caught" (defArgs s__law_caught) (defBody s__law_caught) (defScope s__law_caught) [] [] f fd) (h_joined : CalX P w K mg base 14 "joined" ["house", "path", "member"] k_joined) (n_Missing : mg "Missing" = some (.ref (He.ga K "Missing"))) (ex1_Missing : ∀ c, c ∈ ([1] : List Nat) → PySem.W.exmOne K (.ref (xA K c)) (.ref (He.ga K "Missing")) = some true ∧ ExcP K (xA K c)) (len : ∀ ds S r, con ds S = some r → ds.length = 3)
  (real : ∀ ds S v S', WfS S → belowL S.length ds = true → con ds S = some (v, S') → ∃ o, b__law_caught k_joined (sE 5 ds) S = some o ∧ Fin o v S' ∧ WfS S' ∧ S.length ≤ S'.length) : FnG P w K mg base (14 + 1) f fd ["_law_entire", "_law_trail", "_law_lodger"] con :=
 fn_ok (b := b__law_caught k_joined) F sc__law_caught len (fun cdv A outer s H E hr => (bj_cons (sj_set (i := 3) sc__law_caught.nd rfl (Or.inl rfl) ej_non) (bj_cons (sj_try_keep1 (i := 4) (j := 3) rfl rfl rfl sc__law_caught.nd rfl rfl rfl rfl (by decide) (names_g rfl n_Missing) [1] ex1_Missing (fun W pn xe tk => (ejr_call h_joined (hr.mono (by decide)) tk rfl (aj_cons (ej_v 0 (hv := Or.inl rfl)) (aj_cons (ej_v 1 (hv := Or.inl rfl)) (aj_cons (ej_v 2 (hv := Or.inl rfl)) aj_nil)))))) (bj_one (sj_ret (ej_v 3 (hv := Or.inl rfl))))))) real
abbrev N__law_right : List Str := ["_law_hand_here", "_law_many", "_law_noted", "_law_homes_here", "_law_trail", "_law_entire", "_law_lodger", "_law_due", "_law_told", "_law_home"]
theorem sc__law_right : FnScope N__law_right ["_law_hand_here"] (defScope s__law_right) := ⟨rfl, rfl, rfl, by decide +kernel, rfl, by decide +kernel, by decide +kernel⟩
theorem ok__law_right {f : Addr} {fd : FuncData} {con k__law_take k__law_new k__law_homes k__law_walk k__law_set k__law_stands k_joined k_motes k__law_purses k__law_no_paths k__law_caught k__law_built_anew : Con} {k__law_lost : LCon} (F : FunD K "_law_right" "_law_right" (defArgs s__law_right) (defBody s__law_right) (defScope s__law_right) [] [] f fd) (h__law_take : Cal P w K mg base 1 "_law_take" ["_law_hand_here", "_law_many"] k__law_take) (h__law_new : Cal P w K mg base 12 "_law_new" ["_law_hand_here", "_law_many"] k__law_new) (h__law_homes : Cal P w K mg base 6 "_law_homes" ["_law_hand_here", "_law_many"] k__law_homes) (h__law_walk : Cal P w K mg base 12 "_law_walk" ["_law_members", "_law_trail"] k__law_walk) (h__law_set : Cal P w K mg base 12 "_law_set" ["_law_members", "_law_trail", "_law_inner"] k__law_set) (h__law_stands : Cal P w K mg base 1 "_law_stands" ["_law_members", "_law_trail"] k__law_stands) (h_joined : CalX P w K mg base 14 "joined" ["house", "path", "member"] k_joined) (h_motes : Cal P w K mg base 8 "motes" ["house"] k_motes) (h__law_purses : Cal P w K mg base 7 "_law_purses" ["_law_members"] k__law_purses) (h__law_no_paths : Cal P w K mg base 13 "_law_no_paths" ["_law_hand_here", "_law_members"] k__law_no_paths) (h__law_lost : LamCal P w K mg base 14 "_law_lost" k__law_lost) (h__law_caught : Cal P w K mg base 15 "_law_caught" ["_law_entire", "_law_trail", "_law_lodger"] k__law_caught) (h__law_built_anew : Cal P w K mg base 15 "_law_built_anew" ["_law_entire"] k__law_built_anew) (h_joined_member_path_house : CalXK P w K mg base 14 "joined" ["house", "path", "member"] ["member", "path", "house"] [2, 1, 0] k_joined) (m_repr : mg "repr" = none) (m_len : mg "len" = none) (m_isinstance : mg "isinstance" = none) (m_LookupError : mg "LookupError" = none) (is_LookupError : ∀ q, q ∈ tb_LookupError → PySem.W.kitOne K (.ref (xA K q.1)) (.type "LookupError") = some q.2) (lt : LamT K mg base fd (("_law_right" : Str) ++ ".<locals>." ++ "<lambda>")) (len : ∀ ds S r, con ds S = some r → ds.length = 1)
  (real : ∀ ds S v S', WfS S → belowL S.length ds = true → con ds S = some (v, S') → ∃ o, b__law_right k__law_take k__law_new k__law_homes k__law_walk k__law_set k__law_stands k_joined k_motes k__law_purses k__law_no_paths k__law_lost k__law_caught k__law_built_anew (sE 10 ds) S = some o ∧ Fin o v S' ∧ WfS S' ∧ S.length ≤ S'.length) : FnG P w K mg base (16 + 1) f fd ["_law_hand_here"] con :=
 fn_okC (b := b__law_right k__law_take k__law_new k__law_homes k__law_walk k__law_set k__law_stands k_joined k_motes k__law_purses k__law_no_paths k__law_lost k__law_caught k__law_built_anew) F sc__law_right len (fun cdv hcd A outer s H E hr => (bj_cons (sj_set (i := 1) sc__law_right.nd rfl (Or.inl rfl) (ej_op o_add ej_int (ej_own h__law_take (hr.mono (by decide)) rfl (aj_cons (ej_v 0 (hv := Or.inl rfl)) (aj_cons ej_int aj_nil))))) (bj_cons (sj_asg (ej_tup (aj_cons (ej_own h__law_homes (hr.mono (by decide)) rfl (aj_cons (ej_v 0 (hv := Or.inl rfl)) (aj_cons (ej_v 1 (hv := Or.inl rfl)) aj_nil))) (aj_cons (ej_own h__law_new (hr.mono (by decide)) rfl (aj_cons (ej_v 0 (hv := Or.inl rfl)) (aj_cons (ej_v 1 (hv := Or.inl rfl)) aj_nil))) aj_nil))) (gj_tup rfl (gsj_cons (gj_name (i := 5) sc__law_right.nd rfl (Or.inr rfl)) (gsj_cons (gj_name (i := 6) sc__law_right.nd rfl (Or.inr rfl)) gsj_nil)))) (bj_cons (sj_set (i := 2) sc__law_right.nd rfl (Or.inl rfl) (ej_callB (b_reprE ⟨_, hr⟩) rfl m_repr (by decide +kernel) (aj_cons (ej_tup (aj_cons (ej_v 5 (hv := Or.inr (Or.inl rfl))) (aj_cons (ej_v 6 (hv := Or.inr (Or.inl rfl))) aj_nil))) aj_nil))) (bj_cons (sj_set (i := 3) sc__law_right.nd rfl (Or.inl rfl) (ej_fz (lj_op o_addL (ej_fz (lj_disp (aj_cons (ej_tup aj_nil) aj_nil))) (ej_fz (lj_lc (own := [("_law_trail", 4), ("_law_home", 9)]) rfl sc__law_right.nd (ij_seq (ej_own h__law_walk (hr.mono (by decide)) rfl (aj_cons (ej_ix o_ix (ej_v 5 (hv := Or.inr (Or.inl rfl))) ej_int (fun _ _ => rfl)) (aj_cons (ej_tup aj_nil) aj_nil)))) (blkOk_by (N := N__law_right) (sc := defScope s__law_right) (by decide +kernel)) (fun _ _ _ _ _ => (gj_tup rfl (gsj_cons (gj_name (i := 4) sc__law_right.nd rfl (Or.inl rfl)) (gsj_cons (gj_name (i := 9) sc__law_right.nd rfl (Or.inl rfl)) gsj_nil)))) (fun _ _ _ _ _ => (tsj_one (tj_cmp (o_eq hr.u64) (ej_ix o_ix (ej_v 9 (hv := Or.inl rfl)) ej_int (fun _ _ => rfl)) ej_str (nomark _)))) (fun _ _ _ _ _ => (ej_v 4 (hv := Or.inl rfl))) (by decide)))))) (bj_cons (sj_for PassesOwn.never rfl (ij_seq (ej_v 3 (hv := Or.inl rfl))) (gj_name (i := 4) sc__law_right.nd rfl (Or.inr rfl)) (bj_one (sj_if (wj_pt (wj_or (tj_cmp o_lt (ej_callB b_len rfl m_len (by decide +kernel) (aj_cons (ej_v 4 (hv := Or.inr (Or.inl rfl))) aj_nil)) ej_int (nomark _)) (wj_or1 (tj_cmp (o_eq hr.u64) (ej_ix o_ix (ej_v 6 (hv := Or.inr (Or.inl rfl))) ej_int (fun _ _ => rfl)) ej_str (nomark _))))) (bj_cons (sj_set (i := 7) sc__law_right.nd rfl (Or.inl rfl) (ej_tup (aj_cons (ej_v 1 (hv := Or.inl rfl)) (aj_cons (ej_own h__law_set (hr.mono (by decide)) rfl (aj_cons (ej_ix o_ix (ej_v 5 (hv := Or.inr (Or.inl rfl))) ej_int (fun _ _ => rfl)) (aj_cons (ej_v 4 (hv := Or.inr (Or.inl rfl))) (aj_cons (ej_op o_add (ej_own h__law_stands (hr.mono (by decide)) rfl (aj_cons (ej_ix o_ix (ej_v 5 (hv := Or.inr (Or.inl rfl))) ej_int (fun _ _ => rfl)) (aj_cons (ej_v 4 (hv := Or.inr (Or.inl rfl))) aj_nil))) (ej_tup (aj_cons (ej_v 6 (hv := Or.inr (Or.inl rfl))) aj_nil))) aj_nil)))) aj_nil)))) (bj_cons (sj_set (i := 8) sc__law_right.nd rfl (Or.inl rfl) (ej_own h_joined.toCal (hr.mono (by decide)) rfl (aj_cons (ej_v 5 (hv := Or.inr (Or.inl rfl))) (aj_cons (ej_v 4 (hv := Or.inr (Or.inl rfl))) (aj_cons (ej_v 6 (hv := Or.inr (Or.inl rfl))) aj_nil))))) (bj_cons (sj_if (wj_pt (wj_or (tj_cmp (o_ne hr.u64) (ej_callB (b_reprE ⟨_, hr⟩) rfl m_repr (by decide +kernel) (aj_cons (ej_v 8 (hv := Or.inl rfl)) aj_nil)) (ej_callB (b_reprE ⟨_, hr⟩) rfl m_repr (by decide +kernel) (aj_cons (ej_v 7 (hv := Or.inl rfl)) aj_nil)) (nomark _)) (wj_or1 (tj_cmp (o_ne hr.u64) (ej_callB (b_reprE ⟨_, hr⟩) rfl m_repr (by decide +kernel) (aj_cons (ej_ownK h_joined_member_path_house.toCal (hr.mono (by decide)) rfl (kj_cons (ej_v 6 (hv := Or.inr (Or.inl rfl))) (kj_cons (ej_v 4 (hv := Or.inr (Or.inl rfl))) (kj_cons (ej_v 5 (hv := Or.inr (Or.inl rfl))) kj_nil))) (ls_cons (ls_cons (ls_cons ls_nil)))) aj_nil)) (ej_callB (b_reprE ⟨_, hr⟩) rfl m_repr (by decide +kernel) (aj_cons (ej_v 7 (hv := Or.inl rfl)) aj_nil)) (nomark _))))) (bj_one (sj_ret ej_bl)) bj_nil) (bj_one (sj_if (tj_cmp (o_ne hr.u64) (ej_own h_motes (hr.mono (by decide)) rfl (aj_cons (ej_v 8 (hv := Or.inl rfl)) aj_nil)) (ej_op o_add (ej_own h_motes (hr.mono (by decide)) rfl (aj_cons (ej_v 5 (hv := Or.inr (Or.inl rfl))) aj_nil)) (ej_own h__law_purses (hr.mono (by decide)) rfl (aj_cons (ej_tup (aj_cons (ej_v 6 (hv := Or.inr (Or.inl rfl))) aj_nil)) aj_nil))) (nomark _)) (bj_one (sj_ret ej_bl)) bj_nil))))) bj_nil))) (bj_cons (sj_for PassesOwn.never rfl (ij_seq (ej_own h__law_no_paths (hr.mono (by decide)) rfl (aj_cons (ej_v 0 (hv := Or.inl rfl)) (aj_cons (ej_ix o_ix (ej_v 5 (hv := Or.inr (Or.inl rfl))) ej_int (fun _ _ => rfl)) aj_nil)))) (gj_name (i := 4) sc__law_right.nd rfl (Or.inr rfl)) (bj_cons (sj_if (tj_not (tj_val (ej_lamc h__law_lost rfl lt hcd.symm (hr.mono (by decide)) (LamX.lamS_by (sc := defScope s__law_right) (by decide +kernel)) rfl (fun _ _ _ _ _ => rfl) (fun A outer s H E f c2 hr tk => (ejr_call h_joined (hr.mono (by decide)) tk rfl (aj_cons (ej_v 5 (hv := Or.inr (Or.inr rfl))) (aj_cons (ej_v 4 (hv := Or.inr (Or.inr rfl))) (aj_cons (ej_v 6 (hv := Or.inr (Or.inr rfl))) aj_nil))))) (aj_cons ej_str (aj_cons (ej_v 4 (hv := Or.inr (Or.inl rfl))) aj_nil))))) (bj_one (sj_ret ej_bl)) bj_nil) (bj_one (sj_if (tj_not (tj_val (ej_isOB (T := "LookupError") tb_LookupError rfl m_isinstance rfl m_LookupError (by decide +kernel) is_LookupError (ej_own h__law_caught (hr.mono (by decide)) rfl (aj_cons (ej_v 5 (hv := Or.inr (Or.inl rfl))) (aj_cons (ej_v 4 (hv := Or.inr (Or.inl rfl))) (aj_cons (ej_v 6 (hv := Or.inr (Or.inl rfl))) aj_nil))))))) (bj_one (sj_ret ej_bl)) bj_nil)))) (bj_one (sj_ret (ej_and (ej_cmp (o_eq hr.u64) (ej_callB (b_reprE ⟨_, hr⟩) rfl m_repr (by decide +kernel) (aj_cons (ej_tup (aj_cons (ej_v 5 (hv := Or.inr (Or.inl rfl))) (aj_cons (ej_v 6 (hv := Or.inr (Or.inl rfl))) aj_nil))) aj_nil)) (ej_v 2 (hv := Or.inl rfl)) (nomark _)) (ej_one (ej_cmp (o_eq hr.u64) (ej_callB (b_reprE ⟨_, hr⟩) rfl m_repr (by decide +kernel) (aj_cons (ej_own h__law_built_anew (hr.mono (by decide)) rfl (aj_cons (ej_v 5 (hv := Or.inr (Or.inl rfl))) aj_nil)) aj_nil)) (ej_callB (b_reprE ⟨_, hr⟩) rfl m_repr (by decide +kernel) (aj_cons (ej_v 5 (hv := Or.inr (Or.inl rfl))) aj_nil)) (nomark _))))))))))))) real
abbrev N_law : List Str := ["_law_script", "_law_k"]
theorem sc_law : FnScope N_law ["_law_script"] (defScope s_law) := ⟨rfl, rfl, rfl, by decide +kernel, rfl, by decide +kernel, by decide +kernel⟩
theorem ok_law {f : Addr} {fd : FuncData} {con k__law_right k__law_hand : Con} (F : FunD K "law" "law" (defArgs s_law) (defBody s_law) (defScope s_law) [] [] f fd) (h__law_right : Cal P w K mg base 17 "_law_right" ["_law_hand_here"] k__law_right) (h__law_hand : Cal P w K mg base 1 "_law_hand" ["_law_script", "_law_k"] k__law_hand) (m_all : mg "all" = none) (m_range : mg "range" = none) (m_min : mg "min" = none) (m_len : mg "len" = none) (len : ∀ ds S r, con ds S = some r → ds.length = 1)
  (real : ∀ ds S v S', WfS S → belowL S.length ds = true → con ds S = some (v, S') → ∃ o, b_law k__law_right k__law_hand (sE 2 ds) S = some o ∧ Fin o v S' ∧ WfS S' ∧ S.length ≤ S'.length) : FnG P w K mg base (17 + 1) f fd ["_law_script"] con :=
 fn_ok (b := b_law k__law_right k__law_hand) F sc_law len (fun cdv A outer s H E hr => (bj_one (sj_ret (ej_callB (b_all rfl) rfl m_all (by decide +kernel) (aj_cons (ej_fz (lj_lc (own := [("_law_k", 1)]) rfl sc_law.nd (ij_rg1 rfl m_range (ej_op o_add ej_int (ej_callB (b_min2 rfl) rfl m_min (by decide +kernel) (aj_cons ej_int (aj_cons (ej_callB b_len rfl m_len (by decide +kernel) (aj_cons (ej_v 0 (hv := Or.inr (Or.inl rfl))) aj_nil)) aj_nil))))) (blkOk_by (N := N_law) (sc := defScope s_law) (by decide +kernel)) (fun _ _ _ _ _ => (gj_name (i := 1) sc_law.nd rfl (Or.inl rfl))) (fun _ _ _ _ _ => tsj_nil) (fun _ _ _ _ _ => (ej_own h__law_right (hr.mono (by decide)) rfl (aj_cons (ej_own h__law_hand (hr.mono (by decide)) rfl (aj_cons (ej_v 0 (hv := Or.inr (Or.inl rfl))) (aj_cons (ej_v 1 (hv := Or.inl rfl)) aj_nil))) aj_nil))) (by decide))) aj_nil))))) real
end
def tblL (K : PySem.W.Frag) : List (Addr × Str) := ([("_law_right", none)] : List He.Defn).map fun p => ((He.cT K p).2, (p.1 ++ ".<locals>.") ++ "<lambda>")
theorem tbl_is (K : PySem.W.Frag) : TBL K = tblL K := by
 unfold TBL
 rfl
theorem tabs_in (K : PySem.W.Frag) : ∀ q, q ∈ TBL K → ∃ p, p ∈ tfL.map (He.cT K) ∧ p.2 = q.1 := fun q hq => by
 rw [tbl_is] at hq
 obtain ⟨p, hp, rfl⟩ := List.mem_map.mp hq
 exact ⟨He.cT K p, List.mem_map.mpr ⟨p, hp, rfl⟩, rfl⟩
theorem obP_eq (s : PySem.W.SharedT) : obP s = hkP.obs s.abs := obsY_eq (HandSHeadRun.getT_eq s)
section
open PySem.W PySem.Calls HandSHeadRun
end
theorem factsP {P : Program} {w : World} {K : PySem.W.Frag} {h : Heap} {mg : Str → Option Value} {f : Addr} (X : K.In h) (G : h.Ns mainGlobals mg) (hfa : mg ("law" : Str) = some (.ref f)) (c0 : SaysY faL fnL csL kdL xfL tfL h K) :
  ∃ fd : FuncData, (∀ (s : Shared) (v : Value), BindsTo s fd ⟨[v], []⟩ [("_law_script", v)]) ∧ ∀ base : Heap, K.In base → base.Ns mainGlobals mg → (∀ p ∈ tfL.map (He.cT K), LamX.TabB base mg p.1 p.2) → FnG P w K mg base 18 f fd ["_law_script"] c_law := by
 have c := c0.q
 obtain ⟨fd__law_hand, F__law_hand⟩ := c.d.def_ 0 (d := ⟨("_law_hand", none), "_law_hand", "_law_hand", defArgs s__law_hand, defBody s__law_hand, defScope s__law_hand, [], []⟩) rfl
 have n__law_hand := He.glo_ok X G (c.d.fact 0 (f := .glo "_law_hand") rfl)
 obtain ⟨fd_counted, F_counted⟩ := c.d.def_ 1 (d := ⟨("counted", none), "counted", "counted", defArgs s_counted, defBody s_counted, defScope s_counted, [], []⟩) rfl
 have n_counted := He.glo_ok X G (c.d.fact 1 (f := .glo "counted") rfl)
 obtain ⟨fd_borders, F_borders⟩ := c.d.def_ 2 (d := ⟨("borders", none), "borders", "borders", defArgs s_borders, defBody s_borders, defScope s_borders, [], []⟩) rfl
 have n_borders := He.glo_ok X G (c.d.fact 2 (f := .glo "borders") rfl)
 obtain ⟨fd_members_in, F_members_in⟩ := c.d.def_ 3 (d := ⟨("members_in", none), "members_in", "members_in", defArgs s_members_in, defBody s_members_in, defScope s_members_in, [], []⟩) rfl
 have n_members_in := He.glo_ok X G (c.d.fact 3 (f := .glo "members_in") rfl)
 obtain ⟨fd_crowd, F_crowd⟩ := c.d.def_ 4 (d := ⟨("crowd", none), "crowd", "crowd", defArgs s_crowd, defBody s_crowd, defScope s_crowd, [], []⟩) rfl
 have n_crowd := He.glo_ok X G (c.d.fact 4 (f := .glo "crowd") rfl)
 obtain ⟨fd_is_whole, F_is_whole⟩ := c.d.def_ 5 (d := ⟨("is_whole", none), "is_whole", "is_whole", defArgs s_is_whole, defBody s_is_whole, defScope s_is_whole, [], []⟩) rfl
 have n_is_whole := He.glo_ok X G (c.d.fact 5 (f := .glo "is_whole") rfl)
 obtain ⟨fd_is_path, F_is_path⟩ := c.d.def_ 6 (d := ⟨("is_path", none), "is_path", "is_path", defArgs s_is_path, defBody s_is_path, defScope s_is_path, [], []⟩) rfl
 have n_is_path := He.glo_ok X G (c.d.fact 6 (f := .glo "is_path") rfl)
 obtain ⟨fd_members_at, F_members_at⟩ := c.d.def_ 7 (d := ⟨("members_at", none), "members_at", "members_at", defArgs s_members_at, defBody s_members_at, defScope s_members_at, [], []⟩) rfl
 have n_members_at := He.glo_ok X G (c.d.fact 7 (f := .glo "members_at") rfl)
 obtain ⟨fd_replaced, F_replaced⟩ := c.d.def_ 8 (d := ⟨("replaced", none), "replaced", "replaced", defArgs s_replaced, defBody s_replaced, defScope s_replaced, [], []⟩) rfl
 have n_replaced := He.glo_ok X G (c.d.fact 8 (f := .glo "replaced") rfl)
 obtain ⟨fd_with_members, F_with_members⟩ := c.d.def_ 9 (d := ⟨("with_members", none), "with_members", "with_members", defArgs s_with_members, defBody s_with_members, defScope s_with_members, [], []⟩) rfl
 have n_with_members := He.glo_ok X G (c.d.fact 9 (f := .glo "with_members") rfl)
 obtain ⟨fd_joined, F_joined⟩ := c.d.def_ 10 (d := ⟨("joined", none), "joined", "joined", defArgs s_joined, defBody s_joined, defScope s_joined, [], []⟩) rfl
 have n_joined := He.glo_ok X G (c.d.fact 10 (f := .glo "joined") rfl)
 obtain ⟨fd_ones, F_ones⟩ := c.d.def_ 11 (d := ⟨("ones", none), "ones", "ones", defArgs s_ones, defBody s_ones, defScope s_ones, [], []⟩) rfl
 have n_ones := He.glo_ok X G (c.d.fact 11 (f := .glo "ones") rfl)
 obtain ⟨fd_motes, F_motes⟩ := c.d.def_ 12 (d := ⟨("motes", none), "motes", "motes", defArgs s_motes, defBody s_motes, defScope s_motes, [], []⟩) rfl
 have n_motes := He.glo_ok X G (c.d.fact 12 (f := .glo "motes") rfl)
 obtain ⟨fd__law_take, F__law_take⟩ := c.d.def_ 13 (d := ⟨("_law_take", none), "_law_take", "_law_take", defArgs s__law_take, defBody s__law_take, defScope s__law_take, [], []⟩) rfl
 have n__law_take := He.glo_ok X G (c.d.fact 13 (f := .glo "_law_take") rfl)
 obtain ⟨fd__law_walk, F__law_walk⟩ := c.d.def_ 14 (d := ⟨("_law_walk", none), "_law_walk", "_law_walk", defArgs s__law_walk, defBody s__law_walk, defScope s__law_walk, [], []⟩) rfl
 have n__law_walk := He.glo_ok X G (c.d.fact 14 (f := .glo "_law_walk") rfl)
 obtain ⟨fd__law_all_ones, F__law_all_ones⟩ := c.d.def_ 15 (d := ⟨("_law_all_ones", none), "_law_all_ones", "_law_all_ones", defArgs s__law_all_ones, defBody s__law_all_ones, defScope s__law_all_ones, [], []⟩) rfl
 have n__law_all_ones := He.glo_ok X G (c.d.fact 15 (f := .glo "_law_all_ones") rfl)
 obtain ⟨fd__law_purses, F__law_purses⟩ := c.d.def_ 16 (d := ⟨("_law_purses", none), "_law_purses", "_law_purses", defArgs s__law_purses, defBody s__law_purses, defScope s__law_purses, [], []⟩) rfl
 have n__law_purses := He.glo_ok X G (c.d.fact 16 (f := .glo "_law_purses") rfl)
 obtain ⟨fd__law_named, F__law_named⟩ := c.d.def_ 17 (d := ⟨("_law_named", none), "_law_named", "_law_named", defArgs s__law_named, defBody s__law_named, defScope s__law_named, [], []⟩) rfl
 have n__law_named := He.glo_ok X G (c.d.fact 17 (f := .glo "_law_named") rfl)
 obtain ⟨fd__law_lost, F__law_lost⟩ := c.d.def_ 18 (d := ⟨("_law_lost", none), "_law_lost", "_law_lost", defArgs s__law_lost, defBody s__law_lost, defScope s__law_lost, [], []⟩) rfl
 have n__law_lost := He.glo_ok X G (c.d.fact 18 (f := .glo "_law_lost") rfl)
 obtain ⟨fd__law_of, F__law_of⟩ := c.d.def_ 19 (d := ⟨("_law_of", none), "_law_of", "_law_of", defArgs s__law_of, defBody s__law_of, defScope s__law_of, [], []⟩) rfl
 have n__law_of := He.glo_ok X G (c.d.fact 19 (f := .glo "_law_of") rfl)
 obtain ⟨fd__law_figure, F__law_figure⟩ := c.d.def_ 20 (d := ⟨("_law_figure", none), "_law_figure", "_law_figure", defArgs s__law_figure, defBody s__law_figure, defScope s__law_figure, [], []⟩) rfl
 have n__law_figure := He.glo_ok X G (c.d.fact 20 (f := .glo "_law_figure") rfl)
 obtain ⟨fd__law_registers, F__law_registers⟩ := c.d.def_ 21 (d := ⟨("_law_registers", none), "_law_registers", "_law_registers", defArgs s__law_registers, defBody s__law_registers, defScope s__law_registers, [], []⟩) rfl
 have n__law_registers := He.glo_ok X G (c.d.fact 21 (f := .glo "_law_registers") rfl)
 obtain ⟨fd__law_one, F__law_one⟩ := c.d.def_ 22 (d := ⟨("_law_one", none), "_law_one", "_law_one", defArgs s__law_one, defBody s__law_one, defScope s__law_one, [], []⟩) rfl
 have n__law_one := He.glo_ok X G (c.d.fact 22 (f := .glo "_law_one") rfl)
 obtain ⟨fd__law_homes, F__law_homes⟩ := c.d.def_ 23 (d := ⟨("_law_homes", none), "_law_homes", "_law_homes", defArgs s__law_homes, defBody s__law_homes, defScope s__law_homes, [], []⟩) rfl
 have n__law_homes := He.glo_ok X G (c.d.fact 23 (f := .glo "_law_homes") rfl)
 obtain ⟨fd__law_stands, F__law_stands⟩ := c.d.def_ 24 (d := ⟨("_law_stands", none), "_law_stands", "_law_stands", defArgs s__law_stands, defBody s__law_stands, defScope s__law_stands, [], []⟩) rfl
 have n__law_stands := He.glo_ok X G (c.d.fact 24 (f := .glo "_law_stands") rfl)
 obtain ⟨fd__law_set, F__law_set⟩ := c.d.def_ 25 (d := ⟨("_law_set", none), "_law_set", "_law_set", defArgs s__law_set, defBody s__law_set, defScope s__law_set, [], []⟩) rfl
 have n__law_set := He.glo_ok X G (c.d.fact 25 (f := .glo "_law_set") rfl)
 obtain ⟨fd__law_no_paths, F__law_no_paths⟩ := c.d.def_ 26 (d := ⟨("_law_no_paths", none), "_law_no_paths", "_law_no_paths", defArgs s__law_no_paths, defBody s__law_no_paths, defScope s__law_no_paths, [], []⟩) rfl
 have n__law_no_paths := He.glo_ok X G (c.d.fact 26 (f := .glo "_law_no_paths") rfl)
 obtain ⟨fd__law_leaf, F__law_leaf⟩ := c.d.def_ 27 (d := ⟨("_law_leaf", none), "_law_leaf", "_law_leaf", defArgs s__law_leaf, defBody s__law_leaf, defScope s__law_leaf, [], []⟩) rfl
 have n__law_leaf := He.glo_ok X G (c.d.fact 27 (f := .glo "_law_leaf") rfl)
 obtain ⟨fd__law_expression, F__law_expression⟩ := c.d.def_ 28 (d := ⟨("_law_expression", none), "_law_expression", "_law_expression", defArgs s__law_expression, defBody s__law_expression, defScope s__law_expression, [], []⟩) rfl
 have n__law_expression := He.glo_ok X G (c.d.fact 28 (f := .glo "_law_expression") rfl)
 obtain ⟨fd__law_stake, F__law_stake⟩ := c.d.def_ 29 (d := ⟨("_law_stake", none), "_law_stake", "_law_stake", defArgs s__law_stake, defBody s__law_stake, defScope s__law_stake, [], []⟩) rfl
 have n__law_stake := He.glo_ok X G (c.d.fact 29 (f := .glo "_law_stake") rfl)
 obtain ⟨fd__law_deeds, F__law_deeds⟩ := c.d.def_ 30 (d := ⟨("_law_deeds", none), "_law_deeds", "_law_deeds", defArgs s__law_deeds, defBody s__law_deeds, defScope s__law_deeds, [], []⟩) rfl
 have n__law_deeds := He.glo_ok X G (c.d.fact 30 (f := .glo "_law_deeds") rfl)
 obtain ⟨fd__law_doubter, F__law_doubter⟩ := c.d.def_ 31 (d := ⟨("_law_doubter", none), "_law_doubter", "_law_doubter", defArgs s__law_doubter, defBody s__law_doubter, defScope s__law_doubter, [], []⟩) rfl
 have n__law_doubter := He.glo_ok X G (c.d.fact 31 (f := .glo "_law_doubter") rfl)
 obtain ⟨fd__law_new, F__law_new⟩ := c.d.def_ 32 (d := ⟨("_law_new", none), "_law_new", "_law_new", defArgs s__law_new, defBody s__law_new, defScope s__law_new, [], []⟩) rfl
 have n__law_new := He.glo_ok X G (c.d.fact 32 (f := .glo "_law_new") rfl)
 obtain ⟨fd__law_built_anew, F__law_built_anew⟩ := c.d.def_ 33 (d := ⟨("_law_built_anew", none), "_law_built_anew", "_law_built_anew", defArgs s__law_built_anew, defBody s__law_built_anew, defScope s__law_built_anew, [], []⟩) rfl
 have n__law_built_anew := He.glo_ok X G (c.d.fact 33 (f := .glo "_law_built_anew") rfl)
 obtain ⟨fd__law_caught, F__law_caught⟩ := c.d.def_ 34 (d := ⟨("_law_caught", none), "_law_caught", "_law_caught", defArgs s__law_caught, defBody s__law_caught, defScope s__law_caught, [], []⟩) rfl
 have n__law_caught := He.glo_ok X G (c.d.fact 34 (f := .glo "_law_caught") rfl)
 obtain ⟨fd__law_right, F__law_right⟩ := c.d.def_ 35 (d := ⟨("_law_right", none), "_law_right", "_law_right", defArgs s__law_right, defBody s__law_right, defScope s__law_right, [], []⟩) rfl
 have n__law_right := He.glo_ok X G (c.d.fact 35 (f := .glo "_law_right") rfl)
 obtain ⟨fd_law, F_law⟩ := c.d.def_ 36 (d := ⟨("law", none), "law", "law", defArgs s_law, defBody s_law, defScope s_law, [], []⟩) rfl
 have n_law := He.glo_ok X G (c.d.fact 36 (f := .glo "law") rfl)
 have m_LookupError := He.free_ok X G (c.d.fact 37 (f := .free "LookupError") rfl)
 have m_abs := He.free_ok X G (c.d.fact 38 (f := .free "abs") rfl)
 have m_all := He.free_ok X G (c.d.fact 39 (f := .free "all") rfl)
 have m_any := He.free_ok X G (c.d.fact 40 (f := .free "any") rfl)
 have m_bool := He.free_ok X G (c.d.fact 41 (f := .free "bool") rfl)
 have m_enumerate := He.free_ok X G (c.d.fact 42 (f := .free "enumerate") rfl)
 have m_int := He.free_ok X G (c.d.fact 43 (f := .free "int") rfl)
 have m_isinstance := He.free_ok X G (c.d.fact 44 (f := .free "isinstance") rfl)
 have m_len := He.free_ok X G (c.d.fact 45 (f := .free "len") rfl)
 have m_max := He.free_ok X G (c.d.fact 46 (f := .free "max") rfl)
 have m_min := He.free_ok X G (c.d.fact 47 (f := .free "min") rfl)
 have m_range := He.free_ok X G (c.d.fact 48 (f := .free "range") rfl)
 have m_repr := He.free_ok X G (c.d.fact 49 (f := .free "repr") rfl)
 have m_sum := He.free_ok X G (c.d.fact 50 (f := .free "sum") rfl)
 have m_tuple := He.free_ok X G (c.d.fact 51 (f := .free "tuple") rfl)
 have n_Crowded := He.glo_ok X G (c.d.fact 52 (f := .glo "Crowded") rfl)
 have n_NoPlace := He.glo_ok X G (c.d.fact 53 (f := .glo "NoPlace") rfl)
 have n_Halted := He.glo_ok X G (c.d.fact 54 (f := .glo "Halted") rfl)
 have n_Missing := He.glo_ok X G (c.d.fact 55 (f := .glo "Missing") rfl)
 have n_Refused := He.glo_ok X G (c.d.fact 56 (f := .glo "Refused") rfl)
 have n_NotRight := He.glo_ok X G (c.d.fact 57 (f := .glo "NotRight") rfl)
 obtain ⟨fd_i_Crowded, F_i_Crowded⟩ := c.d.def_ 37 (d := ⟨("Crowded", some "__init__"), "__init__", "Crowded.__init__", defArgs s_Crowded, defBody s_Crowded, defScope s_Crowded, [], []⟩) rfl
 have xc_Crowded := xcls_ok (c0.fact 0 rfl)
 obtain ⟨fd_i_NoPlace, F_i_NoPlace⟩ := c.d.def_ 38 (d := ⟨("NoPlace", some "__init__"), "__init__", "NoPlace.__init__", defArgs s_NoPlace, defBody s_NoPlace, defScope s_NoPlace, [], []⟩) rfl
 have xc_NoPlace := xcls_ok (c0.fact 1 rfl)
 have is_Crowded : ∀ q, q ∈ tb_Crowded → PySem.W.kitOne K (.ref (xA K q.1)) (.ref (He.ga K "Crowded")) = some q.2 := by
  intro q hq
  rcases List.mem_cons.mp hq with rfl | hq
  ·exact xis_ok (c0.fact 2 rfl)
  rcases List.mem_cons.mp hq with rfl | hq
  ·exact xis_ok (c0.fact 3 rfl)
  cases hq
 have is_Halted : ∀ q, q ∈ tb_Halted → PySem.W.kitOne K (.ref (xA K q.1)) (.ref (He.ga K "Halted")) = some q.2 := by
  intro q hq
  rcases List.mem_cons.mp hq with rfl | hq
  ·exact xis_ok (c0.fact 4 rfl)
  rcases List.mem_cons.mp hq with rfl | hq
  ·exact xis_ok (c0.fact 5 rfl)
  cases hq
 have is_LookupError : ∀ q, q ∈ tb_LookupError → PySem.W.kitOne K (.ref (xA K q.1)) (.type "LookupError") = some q.2 := by
  intro q hq
  rcases List.mem_cons.mp hq with rfl | hq
  ·exact xisB_ok (c0.fact 6 rfl)
  rcases List.mem_cons.mp hq with rfl | hq
  ·exact xisB_ok (c0.fact 7 rfl)
  cases hq
 have is_Missing : ∀ q, q ∈ tb_Missing → PySem.W.kitOne K (.ref (xA K q.1)) (.ref (He.ga K "Missing")) = some q.2 := by
  intro q hq
  rcases List.mem_cons.mp hq with rfl | hq
  ·exact xis_ok (c0.fact 8 rfl)
  rcases List.mem_cons.mp hq with rfl | hq
  ·exact xis_ok (c0.fact 9 rfl)
  cases hq
 have is_NoPlace : ∀ q, q ∈ tb_NoPlace → PySem.W.kitOne K (.ref (xA K q.1)) (.ref (He.ga K "NoPlace")) = some q.2 := by
  intro q hq
  rcases List.mem_cons.mp hq with rfl | hq
  ·exact xis_ok (c0.fact 10 rfl)
  rcases List.mem_cons.mp hq with rfl | hq
  ·exact xis_ok (c0.fact 11 rfl)
  cases hq
 have is_NotRight : ∀ q, q ∈ tb_NotRight → PySem.W.kitOne K (.ref (xA K q.1)) (.ref (He.ga K "NotRight")) = some q.2 := by
  intro q hq
  rcases List.mem_cons.mp hq with rfl | hq
  ·exact xis_ok (c0.fact 12 rfl)
  rcases List.mem_cons.mp hq with rfl | hq
  ·exact xis_ok (c0.fact 13 rfl)
  cases hq
 have is_Refused : ∀ q, q ∈ tb_Refused → PySem.W.kitOne K (.ref (xA K q.1)) (.ref (He.ga K "Refused")) = some q.2 := by
  intro q hq
  rcases List.mem_cons.mp hq with rfl | hq
  ·exact xis_ok (c0.fact 14 rfl)
  rcases List.mem_cons.mp hq with rfl | hq
  ·exact xis_ok (c0.fact 15 rfl)
  cases hq
 have xf_number : ∀ c, c ∈ ([] : List Nat) → XfC K (xA K c) ∧ PySem.W.findIn K (.ref (xA K c)) "number" = some none := by
  intro q hq
  cases hq
 have xf_path : ∀ c, c ∈ ([1] : List Nat) → XfC K (xA K c) ∧ PySem.W.findIn K (.ref (xA K c)) "path" = some none := by
  intro q hq
  rcases List.mem_cons.mp hq with rfl | hq
  ·exact ⟨xc_NoPlace.xf, xc_NoPlace.no⟩
  cases hq
 have xf_what : ∀ c, c ∈ ([0] : List Nat) → XfC K (xA K c) ∧ PySem.W.findIn K (.ref (xA K c)) "what" = some none := by
  intro q hq
  rcases List.mem_cons.mp hq with rfl | hq
  ·exact ⟨xc_Crowded.xf, xc_Crowded.no⟩
  cases hq
 have ex1_Missing : ∀ c, c ∈ ([1] : List Nat) → PySem.W.exmOne K (.ref (xA K c)) (.ref (He.ga K "Missing")) = some true ∧ ExcP K (xA K c) := by
  intro q hq
  rcases List.mem_cons.mp hq with rfl | hq
  ·exact ⟨exm1_of (xexm_ok (c0.fact 16 rfl)), xc_NoPlace.p⟩
  cases hq
 have ex3 : ∀ c, c ∈ ([0, 1] : List Nat) → PySem.W.exmAny K (.ref (xA K c)) [.ref (He.ga K "Refused"), .ref (He.ga K "Missing"), .ref (He.ga K "Halted")] = some true ∧ ExcP K (xA K c) := by
  intro q hq
  rcases List.mem_cons.mp hq with rfl | hq
  ·exact ⟨xexm_ok (c0.fact 17 rfl), xc_Crowded.p⟩
  rcases List.mem_cons.mp hq with rfl | hq
  ·exact ⟨xexm_ok (c0.fact 18 rfl), xc_NoPlace.p⟩
  cases hq
 have g_MOST_ONES := SaysQ.const c X G 0 (x := "MOST_ONES") (d := d_MOST_ONES)
 have g_MOST_HOUSES := SaysQ.const c X G 1 (x := "MOST_HOUSES") (d := d_MOST_HOUSES)
 have g_MOST_DEEP := SaysQ.const c X G 2 (x := "MOST_DEEP") (d := d_MOST_DEEP)
 have q_MOST_BORDERS := SaysQ.kd c X G 0 (x := "MOST_BORDERS") (d := kd_MOST_BORDERS)
 have e := hfa.symm.trans n_law
 cases e
 have b := FunD.bindsA (ps := ["_law_script"]) F_law fun _ _ _ _ _ _ us hl => match us, hl with | [_], _ => rfl
 refine ⟨fd_law, fun s v => b s [v] rfl, fun base hK hG hT => ?_⟩
 have x_Crowded : ExcI P w K mg base 0 "what" := ex_Crowded xc_Crowded F_i_Crowded n_Crowded n_Refused
 have x_NoPlace : ExcI P w K mg base 1 "path" := ex_NoPlace xc_NoPlace F_i_NoPlace n_NoPlace n_Missing
 have lt__law_right : LamT K mg base fd__law_right (("_law_right" : Str) ++ ".<locals>." ++ "<lambda>") := ⟨_, _, cd_at (p := ("_law_right", none)) F__law_right, hT (He.cT K ("_law_right", none)) (List.mem_map.mpr ⟨_, by simp [tfL], rfl⟩), by
  rw [tbl_is]
  exact List.mem_map.mpr ⟨("_law_right", none), by simp, rfl⟩, fun p hp e0 => by
  rw [tbl_is] at hp
  obtain ⟨p0, h0, rfl⟩ := List.mem_map.mp hp
  rcases List.mem_cons.mp h0 with rfl | h0
  ·rfl
  cases h0⟩
 have k__law_hand : FnG P w K mg base 1 _ _ ["_law_script", "_law_k"] c__law_hand := ok__law_hand F__law_hand m_len m_abs m_int den_len den_real
 have h__law_hand : Cal P w K mg base 1 "_law_hand" ["_law_script", "_law_k"] c__law_hand := Cal.of F__law_hand n__law_hand k__law_hand fun _ _ _ _ _ _ us hl => match us, hl with | [_, _], _ => rfl
 have kk_counted : ∀ n, FnG P w K mg base (0 + n) _ _ ["expression"] (cc_counted n) := fun n => by
  induction n with
  | zero => exact FnG.none_
  | succ n ih => exact ok_counted (k := 0 + n) F_counted (Cal.of F_counted n_counted ih fun _ _ _ _ _ _ us hl => match us, hl with | [_], _ => rfl) m_max den_len den_real
 have k_counted : FnG P w K mg base 9 _ _ ["expression"] c_counted := kk_counted 9
 have h_counted : Cal P w K mg base 9 "counted" ["expression"] c_counted := Cal.of F_counted n_counted k_counted fun _ _ _ _ _ _ us hl => match us, hl with | [_], _ => rfl
 have k_borders : FnG P w K mg base 10 _ _ ["expression"] c_borders := ok_borders F_borders h_counted den_len den_real
 have h_borders : Cal P w K mg base 10 "borders" ["expression"] c_borders := Cal.of F_borders n_borders k_borders fun _ _ _ _ _ _ us hl => match us, hl with | [_], _ => rfl
 have kk_members_in : ∀ n, FnG P w K mg base (0 + n) _ _ ["members", "path"] (cc_members_in n) := fun n => by
  induction n with
  | zero => exact FnG.none_
  | succ n ih => exact ok_members_in (k := 0 + n) F_members_in (Cal.of F_members_in n_members_in ih fun _ _ _ _ _ _ us hl => match us, hl with | [_, _], _ => rfl) m_enumerate den_len den_real
 have k_members_in : FnG P w K mg base 6 _ _ ["members", "path"] c_members_in := kk_members_in 6
 have h_members_in : Cal P w K mg base 6 "members_in" ["members", "path"] c_members_in := Cal.of F_members_in n_members_in k_members_in fun _ _ _ _ _ _ us hl => match us, hl with | [_, _], _ => rfl
 have k_crowd : FnG P w K mg base 11 _ _ ["house"] c_crowd := ok_crowd F_crowd h_members_in h_borders m_len m_any m_sum g_MOST_ONES g_MOST_HOUSES g_MOST_DEEP q_MOST_BORDERS den_len den_real
 have h_crowd : Cal P w K mg base 11 "crowd" ["house"] c_crowd := Cal.of F_crowd n_crowd k_crowd fun _ _ _ _ _ _ us hl => match us, hl with | [_], _ => rfl
 have k_is_whole : FnG P w K mg base 1 _ _ ["thing", "low", "high"] c_is_whole := ok_is_whole F_is_whole m_isinstance m_int m_bool den_len den_real
 have h_is_whole : Cal P w K mg base 1 "is_whole" ["thing", "low", "high"] c_is_whole := Cal.of F_is_whole n_is_whole k_is_whole fun _ _ _ _ _ _ us hl => match us, hl with | [_, _, _], _ => rfl
 have k_is_path : FnG P w K mg base 2 _ _ ["thing"] c_is_path := ok_is_path F_is_path h_is_whole m_isinstance m_tuple m_all den_len den_real
 have h_is_path : Cal P w K mg base 2 "is_path" ["thing"] c_is_path := Cal.of F_is_path n_is_path k_is_path fun _ _ _ _ _ _ us hl => match us, hl with | [_], _ => rfl
 have k_members_at : FnG P w K mg base 1 _ _ ["house", "path"] c_members_at := ok_members_at F_members_at m_len den_len den_real
 have h_members_at : Cal P w K mg base 1 "members_at" ["house", "path"] c_members_at := Cal.of F_members_at n_members_at k_members_at fun _ _ _ _ _ _ us hl => match us, hl with | [_, _], _ => rfl
 have kk_replaced : ∀ n, FnG P w K mg base (0 + n) _ _ ["members", "path", "other"] (cc_replaced n) := fun n => by
  induction n with
  | zero => exact FnG.none_
  | succ n ih => exact ok_replaced (k := 0 + n) F_replaced (Cal.of F_replaced n_replaced ih fun _ _ _ _ _ _ us hl => match us, hl with | [_, _, _], _ => rfl) den_len den_real
 have k_replaced : FnG P w K mg base 12 _ _ ["members", "path", "other"] c_replaced := kk_replaced 12
 have h_replaced : Cal P w K mg base 12 "replaced" ["members", "path", "other"] c_replaced := Cal.of F_replaced n_replaced k_replaced fun _ _ _ _ _ _ us hl => match us, hl with | [_, _, _], _ => rfl
 have k_with_members : FnG P w K mg base 13 _ _ ["house", "path", "members"] c_with_members := ok_with_members F_with_members h_replaced den_len den_real
 have h_with_members : Cal P w K mg base 13 "with_members" ["house", "path", "members"] c_with_members := Cal.of F_with_members n_with_members k_with_members fun _ _ _ _ _ _ us hl => match us, hl with | [_, _, _], _ => rfl
 have k_joined : FnX P w K mg base 14 _ _ ["house", "path", "member"] c_joined := ok_joined F_joined h_is_path h_members_at h_with_members h_crowd x_NoPlace x_Crowded den_len den_real
 have h_joined : CalX P w K mg base 14 "joined" ["house", "path", "member"] c_joined := CalX.of F_joined n_joined k_joined fun _ _ _ _ _ _ us hl => match us, hl with | [_, _, _], _ => rfl
 have h_joined_member_path_house : CalXK P w K mg base 14 "joined" ["house", "path", "member"] ["member", "path", "house"] [2, 1, 0] c_joined := CalXK.of F_joined n_joined k_joined fun _ _ _ _ _ _ us hl => match us, hl with | [_, _, _], _ => rfl
 have k_ones : FnG P w K mg base 7 _ _ ["house"] c_ones := ok_ones F_ones h_members_in m_tuple den_len den_real
 have h_ones : Cal P w K mg base 7 "ones" ["house"] c_ones := Cal.of F_ones n_ones k_ones fun _ _ _ _ _ _ us hl => match us, hl with | [_], _ => rfl
 have k_motes : FnG P w K mg base 8 _ _ ["house"] c_motes := ok_motes F_motes h_ones m_sum den_len den_real
 have h_motes : Cal P w K mg base 8 "motes" ["house"] c_motes := Cal.of F_motes n_motes k_motes fun _ _ _ _ _ _ us hl => match us, hl with | [_], _ => rfl
 have k__law_take : FnG P w K mg base 1 _ _ ["_law_hand_here", "_law_many"] c__law_take := ok__law_take F__law_take den_len den_real
 have h__law_take : Cal P w K mg base 1 "_law_take" ["_law_hand_here", "_law_many"] c__law_take := Cal.of F__law_take n__law_take k__law_take fun _ _ _ _ _ _ us hl => match us, hl with | [_, _], _ => rfl
 have kk__law_walk : ∀ n, FnG P w K mg base (0 + n) _ _ ["_law_members", "_law_trail"] (cc__law_walk n) := fun n => by
  induction n with
  | zero => exact FnG.none_
  | succ n ih => exact ok__law_walk (k := 0 + n) F__law_walk (Cal.of F__law_walk n__law_walk ih fun _ _ _ _ _ _ us hl => match us, hl with | [_, _], _ => rfl) m_enumerate den_len den_real
 have k__law_walk : FnG P w K mg base 12 _ _ ["_law_members", "_law_trail"] c__law_walk := kk__law_walk 12
 have h__law_walk : Cal P w K mg base 12 "_law_walk" ["_law_members", "_law_trail"] c__law_walk := Cal.of F__law_walk n__law_walk k__law_walk fun _ _ _ _ _ _ us hl => match us, hl with | [_, _], _ => rfl
 have kk__law_all_ones : ∀ n, FnG P w K mg base (0 + n) _ _ ["_law_members"] (cc__law_all_ones n) := fun n => by
  induction n with
  | zero => exact FnG.none_
  | succ n ih => exact ok__law_all_ones (k := 0 + n) F__law_all_ones (Cal.of F__law_all_ones n__law_all_ones ih fun _ _ _ _ _ _ us hl => match us, hl with | [_], _ => rfl) den_len den_real
 have k__law_all_ones : FnG P w K mg base 6 _ _ ["_law_members"] c__law_all_ones := kk__law_all_ones 6
 have h__law_all_ones : Cal P w K mg base 6 "_law_all_ones" ["_law_members"] c__law_all_ones := Cal.of F__law_all_ones n__law_all_ones k__law_all_ones fun _ _ _ _ _ _ us hl => match us, hl with | [_], _ => rfl
 have k__law_purses : FnG P w K mg base 7 _ _ ["_law_members"] c__law_purses := ok__law_purses F__law_purses h__law_all_ones m_sum den_len den_real
 have h__law_purses : Cal P w K mg base 7 "_law_purses" ["_law_members"] c__law_purses := Cal.of F__law_purses n__law_purses k__law_purses fun _ _ _ _ _ _ us hl => match us, hl with | [_], _ => rfl
 have k__law_named : FnG P w K mg base 1 _ _ ["_law_caught_here"] c__law_named := ok__law_named F__law_named m_isinstance n_Crowded n_NoPlace is_Crowded is_NoPlace xf_what xf_path xf_number den_len den_real
 have h__law_named : Cal P w K mg base 1 "_law_named" ["_law_caught_here"] c__law_named := Cal.of F__law_named n__law_named k__law_named fun _ _ _ _ _ _ us hl => match us, hl with | [_], _ => rfl
 have h__law_lost : LamCal P w K mg base 14 "_law_lost" c__law_lost := ok__law_lost F__law_lost n__law_lost h__law_named m_isinstance m_repr n_Halted n_Missing n_Refused n_NoPlace n_Crowded n_NotRight is_Halted is_Missing is_Refused is_NoPlace is_Crowded is_NotRight ex3
 have k__law_of : FnG P w K mg base 2 _ _ ["_law_hand_here", "_law_some"] c__law_of := ok__law_of F__law_of h__law_take m_len den_len den_real
 have h__law_of : Cal P w K mg base 2 "_law_of" ["_law_hand_here", "_law_some"] c__law_of := Cal.of F__law_of n__law_of k__law_of fun _ _ _ _ _ _ us hl => match us, hl with | [_, _], _ => rfl
 have k__law_figure : FnG P w K mg base 3 _ _ ["_law_hand_here"] c__law_figure := ok__law_figure F__law_figure h__law_of h__law_take den_len den_real
 have h__law_figure : Cal P w K mg base 3 "_law_figure" ["_law_hand_here"] c__law_figure := Cal.of F__law_figure n__law_figure k__law_figure fun _ _ _ _ _ _ us hl => match us, hl with | [_], _ => rfl
 have k__law_registers : FnG P w K mg base 4 _ _ ["_law_hand_here"] c__law_registers := ok__law_registers F__law_registers h__law_figure m_tuple m_range den_len den_real
 have h__law_registers : Cal P w K mg base 4 "_law_registers" ["_law_hand_here"] c__law_registers := Cal.of F__law_registers n__law_registers k__law_registers fun _ _ _ _ _ _ us hl => match us, hl with | [_], _ => rfl
 have k__law_one : FnG P w K mg base 5 _ _ ["_law_hand_here", "_law_doubter_here"] c__law_one := ok__law_one F__law_one h__law_of h__law_take h__law_registers den_len den_real
 have h__law_one : Cal P w K mg base 5 "_law_one" ["_law_hand_here", "_law_doubter_here"] c__law_one := Cal.of F__law_one n__law_one k__law_one fun _ _ _ _ _ _ us hl => match us, hl with | [_, _], _ => rfl
 have k__law_homes : FnG P w K mg base 6 _ _ ["_law_hand_here", "_law_many"] c__law_homes := ok__law_homes F__law_homes h__law_one h__law_take m_range m_tuple den_len den_real
 have h__law_homes : Cal P w K mg base 6 "_law_homes" ["_law_hand_here", "_law_many"] c__law_homes := Cal.of F__law_homes n__law_homes k__law_homes fun _ _ _ _ _ _ us hl => match us, hl with | [_, _], _ => rfl
 have k__law_stands : FnG P w K mg base 1 _ _ ["_law_members", "_law_trail"] c__law_stands := ok__law_stands F__law_stands m_len den_len den_real
 have h__law_stands : Cal P w K mg base 1 "_law_stands" ["_law_members", "_law_trail"] c__law_stands := Cal.of F__law_stands n__law_stands k__law_stands fun _ _ _ _ _ _ us hl => match us, hl with | [_, _], _ => rfl
 have kk__law_set : ∀ n, FnG P w K mg base (0 + n) _ _ ["_law_members", "_law_trail", "_law_inner"] (cc__law_set n) := fun n => by
  induction n with
  | zero => exact FnG.none_
  | succ n ih => exact ok__law_set (k := 0 + n) F__law_set (Cal.of F__law_set n__law_set ih fun _ _ _ _ _ _ us hl => match us, hl with | [_, _, _], _ => rfl) den_len den_real
 have k__law_set : FnG P w K mg base 12 _ _ ["_law_members", "_law_trail", "_law_inner"] c__law_set := kk__law_set 12
 have h__law_set : Cal P w K mg base 12 "_law_set" ["_law_members", "_law_trail", "_law_inner"] c__law_set := Cal.of F__law_set n__law_set k__law_set fun _ _ _ _ _ _ us hl => match us, hl with | [_, _, _], _ => rfl
 have k__law_no_paths : FnG P w K mg base 13 _ _ ["_law_hand_here", "_law_members"] c__law_no_paths := ok__law_no_paths F__law_no_paths h__law_walk h__law_of m_len m_range den_len den_real
 have h__law_no_paths : Cal P w K mg base 13 "_law_no_paths" ["_law_hand_here", "_law_members"] c__law_no_paths := Cal.of F__law_no_paths n__law_no_paths k__law_no_paths fun _ _ _ _ _ _ us hl => match us, hl with | [_, _], _ => rfl
 have k__law_leaf : FnG P w K mg base 4 _ _ ["_law_hand_here", "_law_many"] c__law_leaf := ok__law_leaf F__law_leaf h__law_take h__law_figure den_len den_real
 have h__law_leaf : Cal P w K mg base 4 "_law_leaf" ["_law_hand_here", "_law_many"] c__law_leaf := Cal.of F__law_leaf n__law_leaf k__law_leaf fun _ _ _ _ _ _ us hl => match us, hl with | [_, _], _ => rfl
 have kk__law_expression : ∀ n, FnG P w K mg base (4 + n) _ _ ["_law_hand_here", "_law_many", "_law_level", "_law_jumps"] (cc__law_expression n) := fun n => by
  induction n with
  | zero => exact FnG.none_
  | succ n ih => exact ok__law_expression (k := 4 + n) F__law_expression h__law_of h__law_leaf (Cal.of F__law_expression n__law_expression ih fun _ _ _ _ _ _ us hl => match us, hl with | [_, _, _, _], _ => rfl) h__law_take h__law_figure (by omega) den_len den_real
 have k__law_expression : FnG P w K mg base 9 _ _ ["_law_hand_here", "_law_many", "_law_level", "_law_jumps"] c__law_expression := kk__law_expression 5
 have h__law_expression : Cal P w K mg base 9 "_law_expression" ["_law_hand_here", "_law_many", "_law_level", "_law_jumps"] c__law_expression := Cal.of F__law_expression n__law_expression k__law_expression fun _ _ _ _ _ _ us hl => match us, hl with | [_, _, _, _], _ => rfl
 have k__law_stake : FnG P w K mg base 10 _ _ ["_law_hand_here", "_law_many", "_law_level", "_law_jumps"] c__law_stake := ok__law_stake F__law_stake h__law_of h__law_take h__law_expression den_len den_real
 have h__law_stake : Cal P w K mg base 10 "_law_stake" ["_law_hand_here", "_law_many", "_law_level", "_law_jumps"] c__law_stake := Cal.of F__law_stake n__law_stake k__law_stake fun _ _ _ _ _ _ us hl => match us, hl with | [_, _, _, _], _ => rfl
 have kk__law_deeds : ∀ n, FnG P w K mg base (3 + n) _ _ ["_law_hand_here", "_law_many", "_law_deep"] (cc__law_deeds n) := fun n => by
  induction n with
  | zero => exact FnG.none_
  | succ n ih => exact ok__law_deeds (k := 3 + n) F__law_deeds h__law_take h__law_of h__law_figure (Cal.of F__law_deeds n__law_deeds ih fun _ _ _ _ _ _ us hl => match us, hl with | [_, _, _], _ => rfl) m_range m_tuple (by omega) den_len den_real
 have k__law_deeds : FnG P w K mg base 6 _ _ ["_law_hand_here", "_law_many", "_law_deep"] c__law_deeds := kk__law_deeds 3
 have h__law_deeds : Cal P w K mg base 6 "_law_deeds" ["_law_hand_here", "_law_many", "_law_deep"] c__law_deeds := Cal.of F__law_deeds n__law_deeds k__law_deeds fun _ _ _ _ _ _ us hl => match us, hl with | [_, _, _], _ => rfl
 have k__law_doubter : FnG P w K mg base 11 _ _ ["_law_hand_here", "_law_many", "_law_level", "_law_jumps"] c__law_doubter := ok__law_doubter F__law_doubter h__law_take h__law_of h__law_stake h__law_deeds h__law_registers m_tuple m_range den_len den_real
 have h__law_doubter : Cal P w K mg base 11 "_law_doubter" ["_law_hand_here", "_law_many", "_law_level", "_law_jumps"] c__law_doubter := Cal.of F__law_doubter n__law_doubter k__law_doubter fun _ _ _ _ _ _ us hl => match us, hl with | [_, _, _, _], _ => rfl
 have k__law_new : FnG P w K mg base 12 _ _ ["_law_hand_here", "_law_many"] c__law_new := ok__law_new F__law_new h__law_doubter h__law_one h__law_of den_len den_real
 have h__law_new : Cal P w K mg base 12 "_law_new" ["_law_hand_here", "_law_many"] c__law_new := Cal.of F__law_new n__law_new k__law_new fun _ _ _ _ _ _ us hl => match us, hl with | [_, _], _ => rfl
 have k__law_built_anew : FnG P w K mg base 15 _ _ ["_law_entire"] c__law_built_anew := ok__law_built_anew F__law_built_anew h__law_walk h_joined den_len den_real
 have h__law_built_anew : Cal P w K mg base 15 "_law_built_anew" ["_law_entire"] c__law_built_anew := Cal.of F__law_built_anew n__law_built_anew k__law_built_anew fun _ _ _ _ _ _ us hl => match us, hl with | [_], _ => rfl
 have k__law_caught : FnG P w K mg base 15 _ _ ["_law_entire", "_law_trail", "_law_lodger"] c__law_caught := ok__law_caught F__law_caught h_joined n_Missing ex1_Missing den_len den_real
 have h__law_caught : Cal P w K mg base 15 "_law_caught" ["_law_entire", "_law_trail", "_law_lodger"] c__law_caught := Cal.of F__law_caught n__law_caught k__law_caught fun _ _ _ _ _ _ us hl => match us, hl with | [_, _, _], _ => rfl
 have k__law_right : FnG P w K mg base 17 _ _ ["_law_hand_here"] c__law_right := ok__law_right F__law_right h__law_take h__law_new h__law_homes h__law_walk h__law_set h__law_stands h_joined h_motes h__law_purses h__law_no_paths h__law_lost h__law_caught h__law_built_anew h_joined_member_path_house m_repr m_len m_isinstance m_LookupError is_LookupError lt__law_right den_len den_real
 have h__law_right : Cal P w K mg base 17 "_law_right" ["_law_hand_here"] c__law_right := Cal.of F__law_right n__law_right k__law_right fun _ _ _ _ _ _ us hl => match us, hl with | [_], _ => rfl
 exact ok_law F_law h__law_right h__law_hand m_all m_range m_min m_len den_len den_real
end Q30
namespace Pv
open PySem PySem.Spec PyProof.Rows L2
theorem take_at {ms : List Mb} {i : Nat} {b : Mb} (hi : i < ms.length) (b2 : Mb) : (ms.take i ++ b2 :: ms.drop (i + 1))[i]? = some b2 := by
 rw [List.getElem?_append_right (by rw [List.length_take]; omega), List.length_take, Nat.min_eq_left (by omega), Nat.sub_self]
 rfl
theorem goP_rep : ∀ (is : List Nat) {ms ks : List Mb} (o : List Mb), goP ms is = some ks → goP (repP ms is o) is = some o
 | [], ms, ks, o, _ => rfl
 | i :: is, ms, ks, o, h => by
  rw [goP_cons] at h
  split at h
  ·rename_i x ks' e
   have hi := (List.getElem?_eq_some_iff.mp e).1
   rw [repP_cons e, goP_cons, take_at (b := .home x ks') hi]
   exact goP_rep is o h
  ·cases h
structure Hms (m : Nat) (ms : List Mb) : Prop where
 hm : m = 2 ∨ m = 3
 ok : mbOkL ms
 tl : mbTL ms ≤ 2
 nl : mbNL ms ≤ 15
 ln : (flL ms).length ≤ 6
 on : ∀ q, q ∈ flL ms → q.1 = plD m ∧ OnOk q.2
theorem Hmm.hms {m : Nat} {ms : List Mb} (hm : m = 2 ∨ m = 3) (h : Hmm m ms) : Hms m ms := ⟨hm, h.ok, h.tl, h.nl, h.ln, h.on⟩
theorem plD_dat {m : Nat} (hm : m = 2 ∨ m = 3) : Dat 3 40 (dbD (plD m)) := by
 rcases hm with rfl | rfl <;> exact ⟨rfl, by decide +kernel, by decide +kernel, by decide +kernel, by decide +kernel⟩
theorem Hms.one {m : Nat} {ms : List Mb} (h : Hms m ms) : ∀ q, q ∈ flL ms → Dw 4 70 (oqD q) := fun q hq => by
 obtain ⟨e, o⟩ := h.on q hq
 have we := o.we
 have pu := o.pu
 have ow := o.ow
 have da := o.da
 have go := o.go
 obtain ⟨d, o'⟩ := q
 cases e
 exact Dw.of13 (on_dat2 (dp := 3) (c := 40) (by decide) (plD_dat h.hm) o.rl o.rb (by omega) (by omega) (by omega) (by omega) (by omega))
theorem dw_house {m : Nat} {ms : List Mb} (hm : m = 2 ∨ m = 3) (ok : mbOkL ms) (h : ∀ q, q ∈ flL ms → Dw 4 70 (oqD q)) (tl : mbTL ms ≤ 4) (nl : mbNL ms ≤ 30) (ln : (flL ms).length ≤ 12) : Dw 14 1200 (hsD m ms) := by
 have h1 := mbL_de (b := 4) (c := 70) (by decide) (by decide) ms ok h
 have k : (70 + 1) * (flL ms).length ≤ 71 * 12 := Nat.mul_le_mul_left _ ln
 exact (DwL.cons ((Dw.int (i := (m : Int)) (by omega)).mono (Nat.zero_le _) (Nat.le_refl _)) (DwL.cons h1.tup DwL.nil)).tup.mono (by omega) (by omega)
theorem Hms.dw {m : Nat} {ms : List Mb} (h : Hms m ms) : Dw 14 1200 (hsD m ms) := by
 have t := h.tl
 have n := h.nl
 have l := h.ln
 exact dw_house h.hm h.ok h.one (by omega) (by omega) (by omega)
def tbX_Crowded : List (Nat × Bool) := [(0, true), (1, false)]
def tbX_Halted : List (Nat × Bool) := [(0, false), (1, false)]
def tbX_Missing : List (Nat × Bool) := [(0, false), (1, true)]
def tbX_NoPlace : List (Nat × Bool) := [(0, false), (1, true)]
def tbX_NotRight : List (Nat × Bool) := [(0, false), (1, false)]
def tbX_Refused : List (Nat × Bool) := [(0, true), (1, false)]
noncomputable def b_namedX : SX := sSeq (sIf (tOf (e1 (gIsO tbX_Crowded) (eVar 0))) (sRet (e1 (gFld "what" [0]) (eVar 0))) (sNil)) (sRet (eIf (tOf (e1 (gIsO tbX_NoPlace) (eVar 0))) (e1 (gFld "path" [1]) (eVar 0)) (e1 (gFld "number" []) (eVar 0))))
noncomputable def c_namedX : Con := den 1 1 0 b_namedX
noncomputable def b_lostX (k__law_named : Con) : SX := sSeq (sAsg (eFz (lDisp (aCons (e1 (gIsO tbX_Refused) (eVar 3)) (aCons (e1 (gIsO tbX_Missing) (eVar 3)) (aCons (e1 (gIsO tbX_Halted) (eVar 3)) (aNil)))))) (gN 4)) (sSeq (sAsg (eDBx [Sum.inr "Crowded", Sum.inr "NoPlace"] (aCons (e1 (gIsO tbX_Crowded) (eVar 3)) (aCons (e1 (gIsO tbX_NoPlace) (eVar 3)) (aNil)))) (gN 5)) (sSeq (sDP (e1 (gIsO tbX_NotRight) (eVar 3)) (eVar 5) (eC (.str "NotRight"))) (sRet (eAnd (e2 fDIxB (eVar 5) (eVar 1)) (eAnd (e2 fEq (e2 fCntB (eVar 4) (eC (.bl true))) (eC (.int 1))) (e2 fEq (eCB (fn1 gReprE) (aCons (eCall k__law_named (aCons (eVar 3) (aNil))) (aNil))) (eCB (fn1 gReprE) (aCons (eVar 2) (aNil)))))))))
noncomputable def c_lostX : LCon := cLam 3 7 0 [0, 1] 6 3 (b_lostX c_namedX)
theorem lostX_np {r : Sto → Option (D × Sto)} {S : Sto} {d : D} {z : Str} {Q : D → Sto → Prop} (hb : bare d = true) (rp : ∀ T, gReprE T d = some (.str z)) (hr : r S = some (.tag (2 * 1 + 2) [.str "path", d], S)) (q : Q (.bl true) S) : CV (c_lostX r) [.str "NoPlace", d] S Q := by
 refine CV_lam (c := 1) (es := [.str "path", d]) rfl hr (by decide) (by decide) (by decide) ?_
 have g1 : ∀ T, gIsO tbX_Refused T (D.tag (2 * 1 + 1) [.str "path", d]) = some (.bl false) := fun _ => rfl
 have g2 : ∀ T, gIsO tbX_Missing T (D.tag (2 * 1 + 1) [.str "path", d]) = some (.bl true) := fun _ => rfl
 have g3 : ∀ T, gIsO tbX_Halted T (D.tag (2 * 1 + 1) [.str "path", d]) = some (.bl false) := fun _ => rfl
 have g4 : ∀ T, gIsO tbX_Crowded T (D.tag (2 * 1 + 1) [.str "path", d]) = some (.bl false) := fun _ => rfl
 have g5 : ∀ T, gIsO tbX_NoPlace T (D.tag (2 * 1 + 1) [.str "path", d]) = some (.bl true) := fun _ => rfl
 have g6 : ∀ T, gIsO tbX_NotRight T (D.tag (2 * 1 + 1) [.str "path", d]) = some (.bl false) := fun _ => rfl
 have g7 : ∀ T, gFld "path" [1] T (D.tag (2 * 1 + 1) [.str "path", d]) = some d := fun _ => rfl
 generalize D.tag (2 * 1 + 1) [.str "path", d] = v at *
 have nm : ∀ {T : Sto} {Q : D → Sto → Prop}, Q d T → CV c_namedX [v] T Q := fun {T Q} q => by
  refine CV_plain rfl ?_
  unfold b_namedX
  (simp_arith! [g4, g5, g7])
  exact RtP_same hb q
 have fc : ∀ T, fCntB T (.lst [.bl false, .bl true, .bl false]) (.bl true) = some (.int 1) := fun _ => rfl
 unfold b_lostX
 refine SV_cut fun G hG => ?_
 (simp_arith! [g1, g2, g3])
 refine hG _ _ ?_
 clear hG G
 refine SV_cut fun G hG => ?_
 (simp_arith! [EV_dbx, g4, g5])
 refine ⟨by decide, by decide +kernel, ?_⟩
 refine hG _ _ ?_
 clear hG G
 have dk : dkAt (S ++ [.dk [Sum.inr "Crowded", Sum.inr "NoPlace"] [.bl false, .bl true]]) (.dref S.length) = some (([Sum.inr "Crowded", Sum.inr "NoPlace"], [D.bl false, D.bl true]) : List Key × List D) := by
  show (match (S ++ [Ob.dk [Sum.inr "Crowded", Sum.inr "NoPlace"] [.bl false, .bl true]])[S.length]? with | some (.dk ks vs) => _ | _ => _) = _
  rw [get_last]
  rfl
 have k1 : Pv.stK [Sum.inr "Crowded", Sum.inr "NoPlace"] (Sum.inr "NotRight") = ([Sum.inr "Crowded", Sum.inr "NoPlace", Sum.inr "NotRight"] : List Key) := by decide +kernel
 have k2 : Pv.stV [Sum.inr "Crowded", Sum.inr "NoPlace"] [D.bl false, D.bl true] (Sum.inr "NotRight") (D.bl false) = [D.bl false, D.bl true, D.bl false] := by
  unfold Pv.stV
  rw [if_neg (by decide +kernel)]
  rfl
 refine SV_cut fun G hG => ?_
 (simp_arith! [SV_dput, g6])
 refine ⟨_, rfl, _, dk, _, rfl, sz_le (by decide), ?_⟩
 rw [k1, k2, set_last]
 refine hG _ _ ?_
 clear hG G
 have dx : fDIxB (S ++ [.dk ([Sum.inr "Crowded", Sum.inr "NoPlace", Sum.inr "NotRight"] : List Key) [.bl false, .bl true, .bl false]]) (.dref S.length) (.str "NoPlace") = some (.bl true) := by
  have e : dAny (S ++ [.dk ([Sum.inr "Crowded", Sum.inr "NoPlace", Sum.inr "NotRight"] : List Key) [.bl false, .bl true, .bl false]]) (.dref S.length) = some (([Sum.inr "Crowded", Sum.inr "NoPlace", Sum.inr "NotRight"], [D.bl false, D.bl true, D.bl false]) : List Key × List D) := by
   show (match (S ++ [Ob.dk ([Sum.inr "Crowded", Sum.inr "NoPlace", Sum.inr "NotRight"] : List Key) [.bl false, .bl true, .bl false]])[S.length]? with | some (.dk ks vs) => _ | _ => _) = _
   rw [get_last]
   rfl
  unfold fDIxB
  rw [e]
  rfl
 have eq : ∀ (T : Sto) (u : PySem.Str), fEq T (.str u) (.str u) = some (.bl true) := fun T u => by
  show some (D.bl (decide (u = u))) = _
  rw [decide_eq_true rfl]
 (simp_arith! [dx, fc])
 refine nm ?_
 (simp_arith! [rp, eq])
 exact ⟨⟨_, rfl⟩, .inl ⟨rfl, q⟩⟩
noncomputable def b_joinedX (k_is_path k_members_at k_with_members k_crowd : Con) : SX := sSeq (sAsg (eIf (tOf (eCall k_is_path (aCons (eVar 1) (aNil)))) (eCall k_members_at (aCons (eVar 0) (aCons (eVar 1) (aNil)))) (eC .non)) (gN 3)) (sSeq (sIf (tOf (e2 fIs (eVar 3) (eC .non))) (sRaise 1 "path" (eVar 1)) (sNil)) (sSeq (sAsg (eCall k_with_members (aCons (eVar 0) (aCons (eVar 1) (aCons (e2 fAdd (eVar 3) (eTup (aCons (eVar 2) (aNil)))) (aNil))))) (gN 4)) (sSeq (sAsg (eCall k_crowd (aCons (eVar 4) (aNil))) (gN 5)) (sSeq (sIf (tOf (e2 fIsNot (eVar 5) (eC .non))) (sRaise 0 "what" (eVar 5)) (sNil)) (sRet (eVar 4))))))
noncomputable def c_joinedX (r k n : Nat) : Con := den 3 6 0 (b_joinedX c_is_path c_members_at (c_with_members r) (c_crowd k n))
theorem CV_joinedX {S : Sto} {r kk n many : Nat} {is : List Nat} {ms ks : List Mb} {m : Mb} {Q : D → Sto → Prop} (hm : many = 2 ∨ many = 3) (hf : is.length < r) (hr : is.length ≤ 1000) (hi : ∀ i, i ∈ is → i < 10 ^ 9) (ok : mbOkL ms) (okm : mbOk m) (hn : mbNL ms ≤ 100000) (hg : goP ms is = some ks) (hkl : ks.length ≤ 100000)
  (ht : mbTL (repP ms is (ks ++ [m])) < kk) (ht2 : mbTL (repP ms is (ks ++ [m])) ≤ 1000) (hn2 : mbNL (repP ms is (ks ++ [m])) ≤ 100000) (hs : ∀ q, q ∈ flL (repP ms is (ks ++ [m])) → q.1.stakes.length ≤ 3 ∧ ∀ e, e ∈ q.1.stakes → lev e < n ∧ lev e ≤ 10)
  (hc : crowdD many (repP ms is (ks ++ [m])) = .non) (q : Q (hsD many (repP ms is (ks ++ [m]))) S) : CV (conN (c_joinedX r kk n)) [hsD many ms, pthD is, mbD m] S Q := by
 have okk := goP_ok is ok hg
 have okn : mbOkL (ks ++ [m]) := mbOkL_app okk ⟨okm, trivial⟩
 have okr := repP_ok is ok okn
 refine CV_conN ?_
 refine CV_plain rfl ?_
 unfold b_joinedX
 refine SV_cut fun G hG => ?_
 (simp_arith! [])
 refine CV_ispath hr ?_
 (simp_arith! [])
 refine CV_membersat ok ?_
 rw [hg]
 refine hG _ _ ?_
 clear hG G
 unfold moD
 refine SV_cut fun G hG => ?_
 (simp_arith! [isNon])
 refine hG _ _ ?_
 clear hG G
 refine SV_cut fun G hG => ?_
 (simp_arith! [])
 refine ⟨sz_le (by rw [mbL_len]; omega), ?_⟩
 rw [mbL_snoc]
 refine CV_withmembers hf hi ok okn (by omega) hg ?_
 refine hG _ _ ?_
 clear hG G
 refine SV_cut fun G hG => ?_
 (simp_arith! [])
 refine CV_crowd hm okr ht ht2 hn2 hs ?_
 rw [hc]
 refine hG _ _ ?_
 clear hG G
 (simp_arith! [isNon])
 rw [if_neg (fun h => nomatch h)]
 exact RtP_same (hs_bare okr) ⟨rz_bare (hs_bare okr), q⟩
theorem joinedX_np {S : Sto} {many r kk n : Nat} {ms : List Mb} {d x : D} (ok : mbOkL ms) (hb : bare d = true) (hl : ∀ xs, d = .tup xs → xs.length ≤ 100) (h : pthB d = true → ∃ is, d = pthD is ∧ goP ms is = none) : c_joinedX r kk n [hsD many ms, d, x] S = some (.tag (2 * 1 + 2) [.str "path", d], S) := by
 have z : CV (c_joinedX r kk n) [hsD many ms, d, x] S fun v S' => v = .tag (2 * 1 + 2) [.str "path", d] ∧ S' = S := by
  refine CV_rz (i := 1) (f := "path") (d := d) rfl (bare_below d hb) ?_ ⟨rfl, rfl⟩
  unfold b_joinedX
  refine SV_cut fun G hG => ?_
  (simp_arith! [])
  refine CV_ispathA hb (fun xs hx => by have := hl xs hx; omega) ?_
  cases hp : pthB d with
  | false =>
   (simp_arith! [])
   refine hG _ _ ?_
   clear hG G
   refine SV_cut fun G hG => ?_
   (simp_arith! [SV_raise, isNon])
   exact ⟨[], by rw [List.append_nil]⟩
  | true =>
   obtain ⟨is, rfl, hg⟩ := h hp
   (simp_arith! [])
   refine CV_membersat ok ?_
   rw [hg]
   refine hG _ _ ?_
   clear hG G
   unfold moD
   refine SV_cut fun G hG => ?_
   (simp_arith! [SV_raise, isNon])
   exact ⟨[], by rw [List.append_nil]⟩
 obtain ⟨v, S', e, rfl, rfl⟩ := z
 exact e
end Pv
namespace Q30
open PySem PySem.Spec PyProof.Rows L2 Pv
theorem e__law_hand : c__law_hand = Pv.c_hand := rfl
theorem ee_counted : ∀ n, cc_counted n = Pv.cc_counted n
 | 0 => rfl
 | n + 1 => by
  rw [cc_counted, Pv.cc_counted, ← ee_counted n]
  rfl
theorem e_counted : c_counted = Pv.cc_counted 9 := ee_counted 9
theorem e_borders : c_borders = Pv.c_bordersN 9 := by
 rw [c_borders, e_counted]
 rfl
theorem ee_members_in : ∀ n, cc_members_in n = Pv.cc_members_in n
 | 0 => rfl
 | n + 1 => by
  rw [cc_members_in, Pv.cc_members_in, ← ee_members_in n]
  rfl
theorem e_members_in : c_members_in = Pv.cc_members_in 6 := ee_members_in 6
theorem e_crowd : c_crowd = Pv.c_crowd 6 9 := by
 rw [c_crowd, e_members_in, e_borders]
 rfl
theorem ee_replaced : ∀ n, cc_replaced n = Pv.cc_replaced n
 | 0 => rfl
 | n + 1 => by
  rw [cc_replaced, Pv.cc_replaced, ← ee_replaced n]
  rfl
theorem e_replaced : c_replaced = Pv.cc_replaced 12 := ee_replaced 12
theorem e_with_members : c_with_members = Pv.c_with_members 12 := by
 rw [c_with_members, e_replaced]
 rfl
theorem e_joined : c_joined = Pv.c_joinedX 12 6 9 := by
 rw [c_joined, e_with_members, e_crowd]
 rfl
theorem e_ones : c_ones = Pv.c_ones 6 := by
 rw [c_ones, e_members_in]
 rfl
theorem e_motes : c_motes = Pv.c_motes 6 := by
 rw [c_motes, e_ones]
 rfl
theorem e__law_take : c__law_take = Pv.c_take := Pv.take2_eq
theorem ee__law_walk : ∀ n, cc__law_walk n = Pv.cc_members_in n
 | 0 => rfl
 | n + 1 => by
  rw [cc__law_walk, Pv.cc_members_in, ← ee__law_walk n]
  rfl
theorem e__law_walk : c__law_walk = Pv.cc_members_in 12 := ee__law_walk 12
theorem ee__law_all_ones : ∀ n, cc__law_all_ones n = Pv.cc_lones n
 | 0 => rfl
 | n + 1 => by
  rw [cc__law_all_ones, Pv.cc_lones, ← ee__law_all_ones n]
  rfl
theorem e__law_all_ones : c__law_all_ones = Pv.cc_lones 6 := ee__law_all_ones 6
theorem e__law_purses : c__law_purses = Pv.c_purses 6 := by
 rw [c__law_purses, e__law_all_ones]
 rfl
theorem e__law_of : c__law_of = Pv.c_of := by
 rw [c__law_of, e__law_take]
 rfl
theorem e__law_figure : c__law_figure = Pv.c_figure := by
 rw [c__law_figure, e__law_of, e__law_take]
 rfl
theorem e__law_registers : c__law_registers = Pv.c_registers := by
 rw [c__law_registers, e__law_figure]
 rfl
theorem e__law_one : c__law_one = Pv.c_one := by
 rw [c__law_one, e__law_of, e__law_take, e__law_registers]
 rfl
theorem e__law_homes : c__law_homes = Pv.c_homes := by
 rw [c__law_homes, e__law_one, e__law_take]
 rfl
theorem e__law_stands : c__law_stands = Pv.c_stands := rfl
theorem ee__law_set : ∀ n, cc__law_set n = Pv.cc_set n
 | 0 => rfl
 | n + 1 => by
  rw [cc__law_set, Pv.cc_set, ← ee__law_set n]
  rfl
theorem e__law_set : c__law_set = Pv.cc_set 12 := ee__law_set 12
theorem e__law_no_paths : c__law_no_paths = Pv.c_nopaths 12 := by
 rw [c__law_no_paths, e__law_walk, e__law_of]
 rfl
theorem e__law_leaf : c__law_leaf = Pv.c_leaf := by
 rw [c__law_leaf, e__law_take, e__law_figure]
 rfl
theorem ee__law_expression : ∀ n, cc__law_expression n = Pv.cc_exprB n
 | 0 => rfl
 | n + 1 => by
  rw [cc__law_expression, Pv.cc_exprB, e__law_of, e__law_leaf, e__law_take, e__law_figure, ← ee__law_expression n]
  rfl
theorem e__law_expression : c__law_expression = Pv.cc_exprB 5 := ee__law_expression 5
theorem e__law_stake : c__law_stake = Pv.c_stakeB := by
 rw [c__law_stake, e__law_of, e__law_take, e__law_expression]
 rfl
theorem ee__law_deeds : ∀ n, cc__law_deeds n = Pv.cc_deeds n
 | 0 => rfl
 | n + 1 => by
  rw [cc__law_deeds, Pv.cc_deeds, e__law_take, e__law_of, e__law_figure, ← ee__law_deeds n]
  rfl
theorem e__law_deeds : c__law_deeds = Pv.cc_deeds 3 := ee__law_deeds 3
theorem e__law_doubter : c__law_doubter = Pv.c_doubterB 3 := by
 rw [c__law_doubter, e__law_take, e__law_of, e__law_stake, e__law_deeds, e__law_registers]
 rfl
theorem e_lost : c__law_lost = Pv.c_lostX := rfl
theorem ct_0 : ∀ e : Xp, lev e ≤ 0 → ct e = (1, 0) := fun e h => by
 cases e <;> first | rfl | exact absurd h (Nat.not_succ_le_zero _)
theorem ct_sk {m j : Nat} {e : Xp} (h : Sk m 0 j e) : (ct e).2 ≤ 6 := by
 rcases h.sh with ⟨z, rfl⟩ | ⟨f, x, _, rfl⟩
 ·show (0 : Int) ≤ 6
  decide
 ·have lv : max 0 (max 0 (lev x) + 1) + 1 ≤ 2 := h.lv
  have k := ct_0 x (by omega)
  have e1 : ct (Xp.mst (.fig (-f)) x) = ((1 : Int) + (ct x).1, (0 : Int) + (ct x).2 + 1 * (ct x).1) := rfl
  rw [k] at e1
  have e2 : (ct (Xp.lst (.fig f) (.mst (.fig (-f)) x))).2 = (0 : Int) + (ct (Xp.mst (.fig (-f)) x)).2 + 1 * (ct (Xp.mst (.fig (-f)) x)).1 := rfl
  rw [e2, e1]
  decide
structure N1 (m : Nat) (q : Dbt × One) : Prop where
 sl : q.1.stakes.length ≤ 3
 lv : ∀ e, e ∈ q.1.stakes → lev e ≤ 2
 ln : (q.1.stakes.map fun e => (ct e).2).sum ≤ if m = 2 then 12 else 0
 dt : Dat 9 470 (oqD q)
 br : bare (dbD q.1) = true
structure Nw (m : Nat) (b : Mb) : Prop where
 ok : mbOk b
 t : mbT b ≤ 1
 n : mbN b ≤ 3
 l : (fl b).length ≤ 2
 h : mbN b ≤ (fl b).length + 1
 on : ∀ q, q ∈ fl b → N1 m q
theorem nw_of {m : Nat} {d : Dbt} {o : One} (h : N1 m (d, o)) : ∀ b, b ∈ [Mb.one d o, Mb.home "new" [], Mb.home "new" [.one d o, .one d o]] → Nw m b := fun b hb => by
 have nm : shortB 13 (.str "new") = true ∧ okD (.str "new") = true := ⟨by decide +kernel, by decide +kernel⟩
 simp only [List.mem_cons, List.not_mem_nil, or_false] at hb
 rcases hb with rfl | rfl | rfl
 ·exact ⟨h.br, Nat.le_of_ble_eq_true rfl, Nat.le_of_ble_eq_true rfl, Nat.le_of_ble_eq_true rfl, Nat.le_of_ble_eq_true rfl, fun q hq => by rw [List.mem_singleton.mp hq]; exact h⟩
 ·exact ⟨⟨nm, trivial⟩, Nat.le_of_ble_eq_true rfl, Nat.le_of_ble_eq_true rfl, Nat.le_of_ble_eq_true rfl, Nat.le_of_ble_eq_true rfl, fun q hq => nomatch hq⟩
 ·refine ⟨⟨nm, h.br, h.br, trivial⟩, Nat.le_of_ble_eq_true rfl, Nat.le_of_ble_eq_true rfl, Nat.le_of_ble_eq_true rfl, Nat.le_of_ble_eq_true rfl, fun q hq => ?_⟩
  have hq : q ∈ [(d, o), (d, o)] := hq
  have : q = (d, o) := by simpa using hq
  rw [this]
  exact h
theorem new_ok {S : Sto} {h n m : Nat} {Q : D → Sto → Prop} (hm : m = 2 ∨ m = 3) (H : HD n S h) (hn : n + 600 ≤ 1000000) (q : ∀ b S', Nw m b → St h (n + 600) S S' → Q (mbD b) S') : CV c__law_new [.ref h, .int m] S Q := by
 rw [c__law_new, e__law_doubter, e__law_one, e__law_of]
 refine CV_hand (h := h) (n := n + 600) H.lt rfl ?_
 unfold b__law_new
 have hB : Bb 0 ≤ 509 := by decide
 have i0 : (0 : Int) = ((0 : Nat) : Int) := rfl
 refine SV_cutG fun G hG => ?_
 (simp_arith! [])
 rw [i0]
 refine CV_doubterB (l := 0) (j := true) hm (by decide) (by decide) H (by omega) fun d S1 dj t1 => ?_
 have da : Dat 8 435 (dbD d) := (dj.ok.dat (by omega)).mono (by decide) (by decide)
 refine hG _ _ ?_
 clear hG G
 have fin : ∀ (d2 : Dbt) (o : One) (S2 : Sto) (x2 : Option D) (G : En → Sto → Prop), N1 m (d2, o) → St h (n + 540) S S2 → SV (sRet (eCall Pv.c_of (aCons (eVar 0) (aCons (eFz (lDisp (aCons (eVar 3) (aCons (eTup (aCons (eC (.str "house")) (aCons (eC (.str "new")) (aCons (eTup (aNil)) (aNil))))) (aCons (eTup (aCons (eC (.str "house")) (aCons (eC (.str "new")) (aCons (eTup (aCons (eVar 3) (aCons (eVar 3) (aNil)))) (aNil))))) (aNil)))))) (aNil))))) [some (.ref h), some (.int m), x2, some (oqD (d2, o))] S2 (RtH h (n + 600) S Q) := fun d2 o S2 x2 G h1 t2 => by
  (simp_arith! [])
  have nw := nw_of h1
  have em : D.lst [oqD (d2, o), .tup [.str "house", .str "new", .tup []], .tup [.str "house", .str "new", .tup [oqD (d2, o), oqD (d2, o)]]] = .lst ([Mb.one d2 o, Mb.home "new" [], Mb.home "new" [.one d2 o, .one d2 o]].map mbD) := rfl
  rw [em]
  refine CV_of (ds := [Mb.one d2 o, Mb.home "new" [], Mb.home "new" [.one d2 o, .one d2 o]].map mbD) t2.hd (by omega) (.inr (.inl rfl)) (Nat.le_of_ble_eq_true rfl) (by show (3 : Nat) < 10 ^ 100; decide +kernel) (fun x hx => ?_) fun x S3 hx t3 => ?_
  ·obtain ⟨b, hb, rfl⟩ := List.mem_map.mp hx
   exact mb_bare _ (nw b hb).ok
  ·obtain ⟨b, hb, rfl⟩ := List.mem_map.mp hx
   have t := t2.trans t3
   exact ⟨t.hd.mono (by omega), t.up, .inl ⟨mb_bare _ (nw b hb).ok, fun S' t' => q b S' (nw b hb) t'⟩⟩
 have pu : ∀ (d2 : Dbt) (o : One), OnOk o → Dat 8 435 (dbD d2) → Dat 9 470 (oqD (d2, o)) := fun d2 o ho hd => by
  have we := ho.we
  have pu := ho.pu
  have ow := ho.ow
  have da := ho.da
  have go := ho.go
  exact (on_dat2 (dp := 8) (c := 435) (by decide) hd ho.rl ho.rb (by omega) (by omega) (by omega) (by omega) (by omega)).mono (Nat.le_refl _) (by decide)
 refine SV_cutG fun G hG => ?_
 rcases hm with rfl | rfl
 ·have c1 : (((2 : Nat) : Int) = 2) = True := eq_true rfl
  (simp_arith! [c1])
  refine CV_one da.br t1.hd (by omega) fun o S2 oo t2 => ?_
  have t := t1.trans t2
  refine hG _ _ ?_
  refine fin d o S2 _ G ⟨by rw [dj.ok.sl]; decide, fun e he => (dj.st e he).lv, ?_, pu d o oo da, da.br⟩ ⟨t.up, t.eq, t.hd.mono (by omega)⟩
  have b := sum_bound (fun e => (ct e).2) 6 d.stakes fun e he => ct_sk (dj.st e he)
  rw [dj.ok.sl] at b
  rw [if_pos rfl]
  show (d.stakes.map fun e => (ct e).2).sum ≤ 12
  omega
 ·have c1 : (((3 : Nat) : Int) = 2) = False := eq_false (by decide)
  have s3 : ∀ T : Sto, fSlT T (dbD d) none (some 3) = some (.tup [.str d.name, .int d.scale, .tup (d.rs.map D.int)]) := fun T => by
   show some (D.tup (cutD _ none (some 3))) = _
   rw [cut_to (by decide)]
   rfl
  have i4 : ∀ T : Sto, fIx T (dbD d) (.int 4) = some (.tup (d.deeds.map dsD)) := fun _ => rfl
  have mu : ∀ (T : Sto) (x : D), fMul T (.tup [x]) (.int ((3 : Nat) : Int)) = some (.tup [x, x, x]) := fun _ _ => rfl
  (simp_arith! [c1, s3, i4, mu])
  have ed : D.tup [.str d.name, .int d.scale, .tup (d.rs.map D.int), .tup [.tup [.str "fig", .int 1], .tup [.str "fig", .int 1], .tup [.str "fig", .int 1]], .tup (d.deeds.map dsD)] = dbD ⟨d.name, d.scale, d.rs, [.fig 1, .fig 1, .fig 1], d.deeds⟩ := rfl
  rw [ed]
  have ok := dj.ok
  have nm : shortB 13 (.str d.name) = true ∧ okD (.str d.name) = true := by
   rcases ok.nm with e | e | e | e <;> rw [e] <;> decide +kernel
  have st1 : ∀ e, e ∈ [Xp.fig 1, .fig 1, .fig 1] → e = .fig 1 := fun e he => by simpa using he
  have d2 : Dat 8 435 (dbD ⟨d.name, d.scale, d.rs, [.fig 1, .fig 1, .fig 1], d.deeds⟩) := (Dbt.dat (d := ⟨d.name, d.scale, d.rs, [.fig 1, .fig 1, .fig 1], d.deeds⟩) (many := 3) (l := 0) (by decide) nm ok.sc ok.rl ok.rb rfl (fun e he => by rw [st1 e he]; exact ⟨⟨by decide, by decide⟩, by decide⟩) ok.dl fun x hx => (ok.de x hx).2.2).mono (by decide) (by decide)
  refine CV_one d2.br t1.hd (by omega) fun o S2 oo t2 => ?_
  have t := t1.trans t2
  refine hG _ _ ?_
  refine fin _ o S2 _ G ⟨(Nat.le_of_ble_eq_true rfl), fun e he => by rw [st1 e he]; decide, ?_, pu _ o oo d2, d2.br⟩ ⟨t.up, t.eq, t.hd.mono (by omega)⟩
  show ([Xp.fig 1, .fig 1, .fig 1].map fun e => (ct e).2).sum ≤ if (3 : Nat) = 2 then 12 else 0
  decide
theorem CV_tg {k N i : Nat} {f : Str} {d : D} {b : SX} {ds : List D} {S : Sto} {Q : D → Sto → Prop} (hn : ds.length = k) (hb : below S.length d = true) (H : SV b (sE N ds) S fun o => ∃ T, o = .rt (.tag (i + 1) [.str f, d]) (S ++ T)) (q : Q (.tag (i + 1) [.str f, d]) S) : CV (den k N 0 b) ds S Q := by
 refine CV_den hn (H.imp fun o ho => ?_)
 obtain ⟨T, rfl⟩ := ho
 have e : (S ++ T).take (S.length + 0) = S := by simp
 refine ⟨by simp, fun j es hj z => .inl ?_, .tag (i + 1) [.str f, d], ?_, by rw [e]; exact q⟩
 ·rw [List.getElem?_append_left (by omega)] at z; exact z
 ·unfold handed
  rw [if_pos]
  show (below S.length (.str f) && (below S.length d && true)) = true
  rw [hb]
  rfl
theorem SV_tryK {ks : List Nat} {i j c : Nat} {f : EX} {e : En} {ds : List D} {S : Sto} {Q : Out → Prop} (hr : f e S = some (.tag (2 * c + 2) ds, S)) (hc : c ∈ ks) (hi : i < e.length) (q : Q (.nx ((e.set j (some (.tag (2 * c + 1) ds))).set i none) S)) : SV (sTryK ks i j f) e S Q := by
 refine ⟨_, ?_, q⟩
 unfold sTryK
 rw [hr, Option.bind_some]
 show (match rzOf (.tag (2 * c + 2) ds) with
  | some (c, ds) => _
  | none => _) = _
 rw [rz_tag]
 show (if c ∈ ks ∧ i < _ then _ else none) = _
 rw [if_pos ⟨hc, hi⟩]
theorem caught_ok {S : Sto} {a d x : D} {Q : D → Sto → Prop} (hb : bare d = true) (hr : c_joined [a, d, x] S = some (.tag (2 * 1 + 2) [.str "path", d], S)) (q : Q (.tag (2 * 1 + 1) [.str "path", d]) S) : CV c__law_caught [a, d, x] S Q := by
 rw [c__law_caught]
 refine CV_tg (i := 2) (f := "path") (d := d) rfl (bare_below d hb) ?_ q
 unfold b__law_caught
 refine SV_cut fun G hG => ?_
 (simp_arith! [])
 refine hG _ _ ?_
 clear hG G
 refine SV_cut fun G hG => ?_
 refine SV_tryK (c := 1) (ds := [.str "path", d]) (by show c_joined [a, d, x] S = _; exact hr) (by decide) (show 4 < 5 by decide) ?_
 (simp_arith! [])
 refine hG _ _ ?_
 (simp_arith! [])
 exact ⟨[], by rw [List.append_nil]⟩
theorem crowd_non {m : Nat} {ms : List Mb} (hm : m = 2 ∨ m = 3) (h1 : (flL ms).length ≤ 12) (h2 : mbNL ms ≤ (flL ms).length + 12) (h3 : mbTL ms ≤ 3) (h4 : ∀ q, q ∈ flL ms → (q.1.stakes.map fun e => (ct e).2).sum ≤ if m = 2 then 12 else 0) : crowdD m ms = .non := by
 have d : deepB ms = false := by
  unfold deepB
  refine List.any_eq_false.mpr fun q hq => ?_
  cases o : isOne q.2 with
  | true => simp
  | false =>
   have h3 : q.1.length ≤ 0 + mbTL _ := wkL_deep [] 0 _ q hq o
   have : ¬ 3 < q.1.length := by omega
   simp [this]
 have L := flat_sum (fun q : Dbt × One => q.1.stakes.map fun e => (ct e).2) (if m = 2 then 12 else 0) (flL ms) h4
 unfold crowdD
 rw [if_neg (by omega), if_neg (by omega), d, if_neg Bool.false_ne_true]
 refine if_neg ?_
 unfold linesL
 generalize (((flL ms).map fun q => q.1.stakes.map fun e => (ct e).2).flatten).sum = z at *
 rcases hm with rfl | rfl
 ·rw [if_pos rfl] at L ⊢
  omega
 ·rw [if_neg (by decide)] at L ⊢
  omega
theorem plD_ln {m : Nat} (hm : m = 2 ∨ m = 3) : ((plD m).stakes.map fun e => (ct e).2).sum ≤ if m = 2 then 12 else 0 := by
 rcases hm with rfl | rfl <;> decide
theorem plD_st {m : Nat} (hm : m = 2 ∨ m = 3) : (plD m).stakes.length ≤ 3 ∧ ∀ e, e ∈ (plD m).stakes → lev e < 9 ∧ lev e ≤ 10 := by
 refine ⟨by show (List.replicate m _).length ≤ 3; rw [List.length_replicate]; omega, fun e he => ?_⟩
 rw [List.eq_of_mem_replicate he]
 exact ⟨by decide, by decide⟩
theorem rep_rep2 : ∀ (is : List Nat) {ms ks : List Mb} (o o2 : List Mb), goP ms is = some ks → repP (repP ms is o) is o2 = repP ms is o2
 | [], ms, ks, o, o2, h => rfl
 | i :: is, ms, ks, o, o2, h => by
  rw [goP_cons] at h
  split at h
  ·rename_i x ks' e
   have hi := (List.getElem?_eq_some_iff.mp e).1
   rw [repP_cons e, repP_cons (take_at (b := .home x ks') hi _), rep_rep2 is o o2 h, repP_cons e]
   have l : (ms.take i).length = i := by rw [List.length_take]; omega
   have e1 : (ms.take i ++ Mb.home x (repP ks' is o) :: ms.drop (i + 1)).take i = ms.take i := by rw [List.take_left' l]
   have e2 : (ms.take i ++ Mb.home x (repP ks' is o) :: ms.drop (i + 1)).drop (i + 1) = ms.drop (i + 1) := by
    rw [← List.drop_drop, List.drop_left' l]
    rfl
   rw [e1, e2]
  ·cases h
theorem repP_snoc : ∀ (p : List Nat) {T pre : List Mb} (i : Nat) (o : List Mb), goP T p = some pre → repP T (p ++ [i]) o = repP T p (repP pre [i] o)
 | [], T, pre, i, o, h => by
  cases h
  rfl
 | j :: p, T, pre, i, o, h => by
  rw [goP_cons] at h
  split at h
  ·rename_i x ks' e
   rw [List.cons_append, repP_cons e, repP_cons e, repP_snoc p i o h]
  ·cases h
theorem fill {T pre ks : List Mb} {p : List Nat} {x : Str} (h : goP T p = some pre) : repP (repP T p (pre ++ [.home x []])) (p ++ [pre.length]) ks = repP T p (pre ++ [.home x ks]) ∧ goP (repP T p (pre ++ [.home x []])) (p ++ [pre.length]) = some [] := by
 have g := goP_rep p (pre ++ [.home x []]) h
 have a : (pre ++ [Mb.home x []])[pre.length]? = some (.home x []) := by
  rw [List.getElem?_append_right (Nat.le_refl _), Nat.sub_self]
  rfl
 have t1 : (pre ++ [Mb.home x []]).take pre.length = pre := List.take_left' rfl
 have t2 : (pre ++ [Mb.home x []]).drop (pre.length + 1) = [] := List.drop_of_length_le (by rw [List.length_append, List.length_singleton]; omega)
 refine ⟨?_, ?_⟩
 ·rw [repP_snoc p pre.length ks g, repP_cons a, t1, t2, rep_rep2 p _ _ h]
  rfl
 ·rw [goP_app, g]
  show goP (pre ++ [Mb.home x []]) [pre.length] = _
  rw [goP_cons, a]
  rfl
noncomputable def bodyB : SX := sAsg (eCall (conN (Pv.c_joinedX 12 6 9)) (aCons (eVar 1) (aCons (eSl fSlT (eVar 2) (oNo) (oSome (e1 fNeg (eC (.int 1))))) (aCons (eIf (tOf (e2 fEq (e2 fIx (eVar 3) (eC (.int 0))) (eC (.str "one")))) (eVar 3) (e2 fAdd (eSl fSlT (eVar 3) (oNo) (oSome (eC (.int 2)))) (eTup (aCons (eTup (aNil)) (aNil))))) (aNil))))) (gN 1)
structure Bs (m : Nat) (T ms : List Mb) (p : List Nat) : Prop where
 okT : mbOkL T
 okm : mbOkL ms
 tT : mbTL T ≤ 2
 tm : p.length + mbTL ms ≤ 2
 nn : mbNL T + mbNL ms ≤ 15
 nh : mbNL T + mbNL ms ≤ (flL T).length + (flL ms).length + 9
 nf : (flL T).length + (flL ms).length ≤ 6
 oT : ∀ q, q ∈ flL T → q.1 = plD m
 om : ∀ q, q ∈ flL ms → q.1 = plD m
theorem put_sz {T pre : List Mb} {p : List Nat} {b : Mb} (h : goP T p = some pre) : ∃ A B, flL T = A ++ B ∧ flL (repP T p (pre ++ [b])) = A ++ fl b ++ B ∧ mbNL (repP T p (pre ++ [b])) = mbNL T + mbN b ∧ mbTL (repP T p (pre ++ [b])) ≤ max (mbTL T) (p.length + mbT b) ∧ p.length ≤ mbTL T := by
 obtain ⟨A, B, a, e1, e2, e3, e4⟩ := rep_split p h
 obtain ⟨f1, f2, f3⟩ := e4 (pre ++ [b])
 have k1 : flL (pre ++ [b]) = flL pre ++ fl b := by rw [flL_app]; show flL pre ++ (fl b ++ []) = _; rw [List.append_nil]
 have k2 : mbNL (pre ++ [b]) = mbNL pre + mbN b := by rw [mbNL_app]; rfl
 have k3 : mbTL (pre ++ [b]) = max (mbTL pre) (mbT b) := by rw [mbTL_app]; show max (mbTL pre) (max (mbT b) 0) = _; omega
 exact ⟨A ++ flL pre, B, e1, by rw [f1, k1]; simp, by omega, by omega, by omega⟩
theorem step_ok {m : Nat} {h0 : Option D} {T pre : List Mb} {p : List Nat} {b b0 : Mb} {S : Sto} {Q : Out → Prop} (hm : m = 2 ∨ m = 3) (h : goP T p = some pre) (okT : mbOkL T) (tT : mbTL T ≤ 2) (nT : mbNL T ≤ 14) (nh : mbNL T + mbN b0 ≤ (flL T).length + (fl b0).length + 9) (nf : (flL T).length + (fl b0).length ≤ 6) (n0 : mbN b0 = 1) (t0 : p.length + mbT b0 ≤ 2) (ok0 : mbOk b0) (oT : ∀ q, q ∈ flL T → q.1 = plD m) (o0 : ∀ q, q ∈ fl b0 → q.1 = plD m)
  (hb : (∃ d o, b = .one d o ∧ b0 = .one d o) ∨ ∃ x ks, b = .home x ks ∧ b0 = .home x []) (q : Q (.nx [h0, some (hsD m (repP T p (pre ++ [b0]))), some (pthD (p ++ [pre.length])), some (mbD b)] S)) : SV bodyB [h0, some (hsD m T), some (pthD (p ++ [pre.length])), some (mbD b)] S Q := by
 unfold bodyB
 have ng : ∀ T : Sto, fNeg T (.int 1) = some (.int (-1)) := fun _ => rfl
 have s1 : ∀ U : Sto, fSlT U (pthD (p ++ [pre.length])) none (some (-1)) = some (pthD p) := fun U => by
  rw [pth_snoc]
  show some (D.tup (cutD _ none (some (-1)))) = _
  rw [cut_m1]
  rfl
 obtain ⟨A, B, a1, a2, a3, a4, a5⟩ := put_sz (b := b0) h
 obtain ⟨g1, g2, g3⟩ := goP_lt p h
 have fm := fl_le b0
 have lf : (flL (repP T p (pre ++ [b0]))).length = (flL T).length + (fl b0).length := by rw [a2, a1]; simp; omega
 have on : ∀ q, q ∈ flL (repP T p (pre ++ [b0])) → q.1 = plD m := fun q hq => by
  rw [a2] at hq
  simp only [List.mem_append] at hq
  rcases hq with (hq | hq) | hq
  ·exact oT q (by rw [a1]; exact List.mem_append_left _ hq)
  ·exact o0 q hq
  ·exact oT q (by rw [a1]; exact List.mem_append_right _ hq)
 have jn : CV (conN (Pv.c_joinedX 12 6 9)) [hsD m T, pthD p, mbD b0] S fun d S' => Q (.nx [h0, some d, some (pthD (p ++ [pre.length])), some (mbD b)] S') :=
  CV_joinedX hm (by omega) (by omega) (fun i hi => by have := g1 i hi; omega) okT ok0 (by omega) h (by omega) (by omega) (by omega) (by omega) (fun q hq => by rw [on q hq]; exact plD_st hm) (crowd_non hm (by omega) (by omega) (by omega) fun q hq => by rw [on q hq]; exact plD_ln hm) q
 rcases hb with ⟨d, o, rfl, rfl⟩ | ⟨x, ks, rfl, rfl⟩
 ·have f0 : ∀ T : Sto, fIx T (mbD (.one d o)) (.int 0) = some (.str "one") := fun _ => rfl
  (simp_arith! [ng, s1, f0])
  exact jn
 ·have f0 : ∀ T : Sto, fIx T (mbD (.home x ks)) (.int 0) = some (.str "house") := fun _ => rfl
  have w1 : decide (("house" : Str) = ("one" : Str)) = false := by decide +kernel
  have s2 : ∀ T : Sto, fSlT T (mbD (.home x ks)) none (some 2) = some (.tup [.str "house", .str x]) := fun T => by
   show some (D.tup (cutD _ none (some 2))) = _
   rw [cut_to (by decide)]
   rfl
  have eb : D.tup [.str "house", .str x, .tup []] = mbD (.home x []) := rfl
  (simp_arith! [ng, s1, f0, w1, s2, eb])
  exact jn
theorem rep_self : ∀ (p : List Nat) {T pre : List Mb}, goP T p = some pre → repP T p pre = T
 | [], T, pre, h => by
  cases h
  rfl
 | i :: p, T, pre, h => by
  rw [goP_cons] at h
  split at h
  ·rename_i x ks' e
   rw [repP_cons e, rep_self p h]
   have := (List.getElem?_eq_some_iff.mp e).2
   rw [← this, List.getElem_cons_drop, List.take_append_drop]
  ·cases h
theorem GV_t2 {i j : Nat} {a b : D} {e : En} {S : Sto} {Q : En → Sto → Prop} (q : Q ((e.set i (some a)).set j (some b)) S) : GV (gT 2 (gsCons (gN i) (gsCons (gN j) gsNil))) (.tup [a, b]) e S Q :=
 GV_t.mpr ⟨_, rfl, rfl, GsV_cons.mpr ⟨_, _, rfl, GV_n.mpr (GsV_cons.mpr ⟨_, _, rfl, GV_n.mpr (GsV_nil.mpr ⟨rfl, q⟩)⟩)⟩⟩
theorem pt_is (p : List Nat) (i : Nat) (b : Mb) : ptD (natP p ++ [(i : Int)], b) = .tup [pthD (p ++ [i]), mbD b] := by
 unfold ptD
 rw [pth_snoc, List.map_append]
 rfl
theorem build {m : Nat} (hm : m = 2 ∨ m = 3) : ∀ (n : Nat) (ms T pre : List Mb) (p : List Nat) (rest : List D) {h0 x2 x3 : Option D} {S : Sto} {Q : Out → Prop}, mbNL ms ≤ n → goP T p = some pre → Bs m T ms p →
  (∀ x2 x3, SV (forL (gT 2 (gsCons (gN 2) (gsCons (gN 3) (gsNil)))) bodyB [] S rest) [h0, some (hsD m (repP T p (pre ++ ms))), x2, x3] S Q) →
  SV (forL (gT 2 (gsCons (gN 2) (gsCons (gN 3) (gsNil)))) bodyB [] S ((wkL (natP p) pre.length ms).map ptD ++ rest)) [h0, some (hsD m T), x2, x3] S Q := by
 intro n
 induction n with
 | zero =>
  intro ms T pre p rest h0 x2 x3 S Q hn hg B fin
  cases ms with
  | nil =>
   rw [List.append_nil, rep_self p hg] at fin
   exact fin x2 x3
  | cons b ms =>
   have e : mbNL (b :: ms) = mbN b + mbNL ms := rfl
   have : 1 ≤ mbN b := by cases b <;> simp [mbN]
   omega
 | succ n ih =>
  intro ms T pre p rest h0 x2 x3 S Q hn hg B fin
  cases ms with
  | nil =>
   rw [List.append_nil, rep_self p hg] at fin
   exact fin x2 x3
  | cons b tl =>
   have eN : mbNL (b :: tl) = mbN b + mbNL tl := rfl
   have eT : mbTL (b :: tl) = max (mbT b) (mbTL tl) := rfl
   have eF : flL (b :: tl) = fl b ++ flL tl := rfl
   have eL : (flL (b :: tl)).length = (fl b).length + (flL tl).length := by rw [eF, List.length_append]
   have b1 : 1 ≤ mbN b := by cases b <;> simp [mbN]
   have ft := flL_len tl
   have nn := B.nn
   have nh := B.nh
   have nf := B.nf
   have tm := B.tm
   have tT := B.tT
   have okb : mbOk b := B.okm.1
   have okt : mbOkL tl := B.okm.2
   have ob : ∀ q, q ∈ fl b → q.1 = plD m := fun q hq => B.om q (by rw [eF]; exact List.mem_append_left _ hq)
   have ot : ∀ q, q ∈ flL tl → q.1 = plD m := fun q hq => B.om q (by rw [eF]; exact List.mem_append_right _ hq)
   -- what comes behind b
   have after : ∀ x2 x3, SV (forL (gT 2 (gsCons (gN 2) (gsCons (gN 3) (gsNil)))) bodyB [] S ((wkL (natP p) (pre.length + 1) tl).map ptD ++ rest)) [h0, some (hsD m (repP T p (pre ++ [b]))), x2, x3] S Q := fun x2 x3 => by
    obtain ⟨A, C, a1, a2, a3, a4, a5⟩ := put_sz (b := b) hg
    have lf : (flL (repP T p (pre ++ [b]))).length = (flL T).length + (fl b).length := by rw [a2, a1]; simp; omega
    have k := ih tl (repP T p (pre ++ [b])) (pre ++ [b]) p rest (h0 := h0) (x2 := x2) (x3 := x3) (S := S) (Q := Q) (by omega) (goP_rep p _ hg) ⟨repP_ok p B.okT (mbOkL_app (goP_ok p B.okT hg) ⟨okb, trivial⟩), okt, by omega, by omega, by omega, by omega, by omega, fun q hq => ?_, ot⟩ (fun y2 y3 => by
     rw [rep_rep2 p _ _ hg, List.append_assoc]
     exact fin y2 y3)
    ·rw [List.length_append, List.length_singleton] at k
     exact k
    ·rw [a2] at hq
     simp only [List.mem_append] at hq
     rcases hq with (hq | hq) | hq
     ·exact B.oT q (by rw [a1]; exact List.mem_append_left _ hq)
     ·exact ob q hq
     ·exact B.oT q (by rw [a1]; exact List.mem_append_right _ hq)
   have ew : wkL (natP p) pre.length (b :: tl) = wk (natP p) pre.length b ++ wkL (natP p) (pre.length + 1) tl := rfl
   rw [ew, List.map_append, List.append_assoc]
   cases b with
   | one d o =>
    have e1 : wk (natP p) pre.length (.one d o) = [(natP p ++ [(pre.length : Int)], .one d o)] := rfl
    rw [e1, List.map_cons, List.map_nil, pt_is]
    refine SV_for_cons.mpr (GV_t2 ?_)
    refine step_ok (b0 := .one d o) hm hg B.okT tT (by omega) (by omega) (by omega) rfl (by omega) okb B.oT ob (.inl ⟨d, o, rfl, rfl⟩) ?_
    exact ⟨(fun n hn => nomatch hn), after (some (pthD (p ++ [pre.length]))) (some (mbD (.one d o)))⟩
   | home x ks =>
    have e1 : wk (natP p) pre.length (.home x ks) = (natP p ++ [(pre.length : Int)], .home x ks) :: wkL (natP p ++ [(pre.length : Int)]) 0 ks := rfl
    have n1 : mbN (.home x ks) = mbNL ks + 1 := rfl
    have t1 : mbT (.home x ks) = mbTL ks + 1 := rfl
    have f1 : fl (.home x ks) = flL ks := rfl
    rw [f1] at eL
    have fk := flL_len ks
    have z1 : mbN (.home x []) = 1 := rfl
    have z2 : mbT (.home x []) = 1 := rfl
    have z3 : (fl (.home x [])).length = 0 := rfl
    rw [e1, List.map_cons, pt_is, List.cons_append]
    refine SV_for_cons.mpr (GV_t2 ?_)
    refine step_ok (b0 := .home x []) hm hg B.okT tT (by omega) (by omega) (by omega) rfl (by omega) ⟨okb.1, trivial⟩ B.oT (fun q hq => nomatch hq) (.inr ⟨x, ks, rfl, rfl⟩) ?_
    refine ⟨(fun n hn => nomatch hn), ?_⟩
    obtain ⟨A, C, a1, a2, a3, a4, a5⟩ := put_sz (b := .home x []) hg
    have lf : (flL (repP T p (pre ++ [.home x []]))).length = (flL T).length := by
     rw [a2, a1, show fl (Mb.home x []) = [] from rfl]
     simp
    obtain ⟨fi, fg⟩ := fill (x := x) (ks := ks) hg
    have en : natP (p ++ [pre.length]) = natP p ++ [(pre.length : Int)] := by unfold natP; simp
    have k := ih ks (repP T p (pre ++ [.home x []])) [] (p ++ [pre.length]) ((wkL (natP p) (pre.length + 1) tl).map ptD ++ rest) (h0 := h0) (x2 := some (pthD (p ++ [pre.length]))) (x3 := some (mbD (.home x ks))) (S := S) (Q := Q) (by omega) fg ⟨repP_ok p B.okT (mbOkL_app (goP_ok p B.okT hg) (show mbOkL [Mb.home x []] from ⟨⟨okb.1, trivial⟩, trivial⟩)), okb.2, by omega, by rw [List.length_append, List.length_singleton]; omega, by omega, by omega, by omega, fun q hq => ?_, ob⟩ (fun y2 y3 => by
     rw [List.nil_append, fi]
     exact after y2 y3)
    ·rw [en] at k
     exact k
    ·rw [a2] at hq
     simp only [List.mem_append] at hq
     rcases hq with (hq | hq) | hq
     ·exact B.oT q (by rw [a1]; exact List.mem_append_left _ hq)
     ·exact nomatch hq
     ·exact B.oT q (by rw [a1]; exact List.mem_append_right _ hq)
theorem anew_ok {S : Sto} {m : Nat} {ms : List Mb} {Q : D → Sto → Prop} (hm : m = 2 ∨ m = 3) (hh : Hmm m ms) (q : Q (hsD m ms) S) : CV c__law_built_anew [hsD m ms] S Q := by
 rw [c__law_built_anew, e__law_walk, e_joined]
 refine CV_plain rfl ?_
 unfold b__law_built_anew
 have i0 : ∀ T : Sto, fIx T (hsD m ms) (.int 0) = some (.int m) := fun _ => rfl
 have i1 : ∀ T : Sto, fIx T (hsD m ms) (.int 1) = some (.tup (mbL ms)) := fun _ => rfl
 have e0 : D.tup ([] : List D) = .tup (([] : List Int).map D.int) := rfl
 have eh : D.tup [.int m, .tup []] = hsD m [] := rfl
 have tl := hh.tl
 have nl := hh.nl
 have ho := hh.ho
 have ln := hh.ln
 refine SV_cut fun G hG => ?_
 (simp_arith! [i0])
 rw [eh]
 refine hG _ _ ?_
 clear hG G
 refine SV_cut fun G hG => ?_
 (simp_arith! [i1])
 rw [e0]
 refine CV_membersin 12 ms [] hh.ok (by omega) (by rw [List.length_nil]; omega) (by omega) ?_
 (simp_arith! [])
 have k := build hm 15 ms [] [] [] [] (h0 := some (hsD m ms)) (x2 := none) (x3 := none) (S := S) (Q := then_ (RtP S fun d => Q d S) fun e1 S1 => SV G e1 S1 (RtP S fun d => Q d S)) (by omega) rfl ⟨trivial, hh.ok, by decide, by show 0 + mbTL ms ≤ 2; omega, by show 0 + mbNL ms ≤ 15; omega, by show 0 + mbNL ms ≤ 0 + (flL ms).length + 9; omega, by show 0 + (flL ms).length ≤ 6; omega, (fun q hq => nomatch hq), fun q hq => (hh.on q hq).1⟩ (fun x2 x3 => by
  refine SV_for_nil.mpr ?_
  refine hG _ _ ?_
  (simp_arith! [])
  have e : repP [] [] ms = ms := rfl
  rw [e]
  exact RtP_same (hs_bare hh.ok) q)
 rw [List.append_nil] at k
 exact k
theorem eqS (T : Sto) (u : PySem.Str) : fEq T (.str u) (.str u) = some (.bl true) := by
 show some (D.bl (decide (u = u))) = _
 rw [decide_eq_true rfl]
theorem dw_mix {m : Nat} {ms : List Mb} (hm : m = 2 ∨ m = 3) (ok : mbOkL ms) (h : ∀ q, q ∈ flL ms → Dw 9 470 (oqD q)) (few : (flL ms).length ≤ 8) (tl : mbTL ms ≤ 4) (nl : mbNL ms ≤ 30) : Dw 22 4100 (hsD m ms) := by
 have h1 := mbL_de (b := 9) (c := 470) (by decide) (by decide) ms ok h
 have k : (470 + 1) * (flL ms).length ≤ 471 * 8 := Nat.mul_le_mul_left _ few
 exact (DwL.cons ((Dw.int (i := (m : Int)) (by omega)).mono (Nat.zero_le _) (Nat.le_refl _)) (DwL.cons h1.tup DwL.nil)).tup.mono (by omega) (by omega)
def Hp (ms : List Mb) (d : D) : Prop := ∃ is ks, d = pthD is ∧ goP ms is = some ks
theorem put_more {m : Nat} {ms ks : List Mb} {is : List Nat} {b : Mb} (hm : m = 2 ∨ m = 3) (hh : Hmm m ms) (hb : Nw m b) (hg : goP ms is = some ks) : mbOkL (repP ms is (ks ++ [b])) ∧ mbTL (repP ms is (ks ++ [b])) ≤ 3 ∧ mbNL (repP ms is (ks ++ [b])) ≤ 18 ∧ crowdD m (repP ms is (ks ++ [b])) = .non ∧ (∀ q, q ∈ flL (repP ms is (ks ++ [b])) → q.1.stakes.length ≤ 3 ∧ ∀ e, e ∈ q.1.stakes → lev e < 9 ∧ lev e ≤ 10) ∧ Dw 22 4100 (hsD m (repP ms is (ks ++ [b]))) ∧ ((flL (repP ms is (ks ++ [b]))).map fun q => q.2.purse).sum = ((flL ms).map fun q => q.2.purse).sum + ((fl b).map fun q => q.2.purse).sum ∧ is.length ≤ 2 := by
 obtain ⟨A, B, a1, a2, a3, a4, a5⟩ := put_sz (b := b) hg
 have tl := hh.tl
 have nl := hh.nl
 have ho := hh.ho
 have ln := hh.ln
 have bt := hb.t
 have bn := hb.n
 have bl := hb.l
 have bh := hb.h
 have lf : (flL (repP ms is (ks ++ [b]))).length = (flL ms).length + (fl b).length := by rw [a2, a1]; simp; omega
 have mem : ∀ q, q ∈ flL (repP ms is (ks ++ [b])) → q ∈ flL ms ∨ q ∈ fl b := fun q hq => by
  rw [a2] at hq
  simp only [List.mem_append] at hq
  rcases hq with (hq | hq) | hq
  ·exact .inl (by rw [a1]; exact List.mem_append_left _ hq)
  ·exact .inr hq
  ·exact .inl (by rw [a1]; exact List.mem_append_right _ hq)
 have okr : mbOkL (repP ms is (ks ++ [b])) := repP_ok is hh.ok (mbOkL_app (goP_ok is hh.ok hg) (show mbOkL [b] from ⟨hb.ok, trivial⟩))
 have E := hh.hms hm
 refine ⟨okr, by omega, by omega, crowd_non hm (by omega) (by omega) (by omega) fun q hq => ?_, fun q hq => ?_, dw_mix hm okr (fun q hq => ?_) (by omega) (by omega) (by omega), ?_, by omega⟩
 ·rcases mem q hq with hq | hq
  ·rw [(hh.on q hq).1]; exact plD_ln hm
  ·exact (hb.on q hq).ln
 ·rcases mem q hq with hq | hq
  ·rw [(hh.on q hq).1]; exact plD_st hm
  ·have k := hb.on q hq
   exact ⟨k.sl, fun e he => by have := k.lv e he; omega⟩
 ·rcases mem q hq with hq | hq
  ·exact (E.one q hq).mono (by decide) (by decide)
  ·exact Dw.of13 (hb.on q hq).dt
 ·rw [a2, a1]
  simp only [List.map_append, List.sum_append]
  omega
theorem dw_new {m : Nat} {b : Mb} (h : Nw m b) : Dw 12 980 (mbD b) := by
 have k := mb_de (b := 9) (c := 470) (by decide) (by decide) b h.ok fun q hq => Dw.of13 (h.on q hq).dt
 have t := h.t
 have n := h.n
 have l := h.l
 have : (470 + 1) * (fl b).length ≤ 471 * 2 := Nat.mul_le_mul_left _ l
 exact k.mono (by omega) (by omega)
theorem right_ok {S : Sto} {h n : Nat} (H : HD n S h) (hn : n + 800 ≤ 1000000) : CV c__law_right [.ref h] S fun d S' => d = .bl true := by
 rw [c__law_right, e__law_take, e__law_homes, e__law_walk, e__law_set, e__law_stands, e_joined, e_motes, e__law_purses, e__law_no_paths, e_lost]
 refine CV_hand (h := h) (n := n + 800) H.lt rfl ?_
 unfold b__law_right
 refine SV_cutG fun G hG => ?_
 (simp_arith! [])
 refine CV_take H (by omega) (by decide) (by decide) fun z S1 z0 z1 t1 => ?_
 (simp_arith! [])
 obtain ⟨m, em, hm⟩ : ∃ m : Nat, 2 + z = (m : Int) ∧ (m = 2 ∨ m = 3) := ⟨(2 + z).toNat, by omega, by omega⟩
 rw [em]
 refine hG _ _ ?_
 clear hG G
 refine SV_cutG fun G hG => ?_
 (simp_arith! [])
 refine CV_homes hm t1.hd (by omega) fun ms S2 hh t2 => ?_
 refine new_ok hm t2.hd (by omega) fun b S3 hb t3 => ?_
 (simp_arith! [])
 refine hG _ _ ?_
 clear hG G
 have E := hh.hms hm
 have tl := E.tl
 have nl := E.nl
 have ho := hh.ho
 have ln := E.ln
 have t := (t1.trans t2).trans t3
 have i1 : ∀ T : Sto, fIx T (hsD m ms) (.int 1) = some (.tup (mbL ms)) := fun _ => rfl
 have rp : ∀ T, gReprE T (hsD m ms) = some (.str (pd (hsD m ms)).shown) := fun T => E.dw.repr (by decide) (by decide)
 have rp2 : ∀ T, gReprE T (.tup [hsD m ms, mbD b]) = some (.str (pd (.tup [hsD m ms, mbD b])).shown) := fun T => (DwL.cons (E.dw.mono (by decide) (Nat.le_refl _)) (DwL.cons (dw_new hb |>.mono (show 12 ≤ 14 by decide) (Nat.le_refl _)) DwL.nil)).tup.repr (by decide) (by decide)
 have e0 : D.tup ([] : List D) = .tup (([] : List Int).map D.int) := rfl
 have en : ∀ (T : Sto) (z : Str), fNe T (.str z) (.str z) = some (.bl false) := fun T z => r_neSs
 have ln0 := len_mb ms
 refine SV_cutG fun G hG => ?_
 (simp_arith! [rp2])
 refine hG _ _ ?_
 clear hG G
 generalize hN : (pd (.tup [hsD m ms, mbD b])).shown = N at *
 refine SV_cutG fun G hG => ?_
 (simp_arith! [i1])
 rw [e0]
 refine CV_membersin 12 ms [] E.ok (by omega) (by rw [List.length_nil]; omega) (by omega) ?_
 (simp_arith! [])
 refine (LV_filtG ptD (fun w => .tup (w.1.map D.int)) (fun w => !isOne w.2) (fun n _ => rfl) fun w K2 hw2 hK2 => ?_).imp fun out S4 q2 => ?_
 ·obtain ⟨wp, wm⟩ := w
  unfold ptD
  cases wm with
  | one d o =>
   have f0 : ∀ T : Sto, fIx T (mbD (.one d o)) (.int 0) = some (.str "one") := fun _ => rfl
   have w1 : decide (("one" : Str) = ("house" : Str)) = false := by decide +kernel
   have o1 : isOne (.one d o) = true := rfl
   (simp_arith! [f0, w1, o1])
   exact ⟨rfl, fun z => nomatch z⟩
  | home x ks =>
   have f0 : ∀ T : Sto, fIx T (mbD (.home x ks)) (.int 0) = some (.str "house") := fun _ => rfl
   have o1 : isOne (.home x ks) = false := rfl
   (simp_arith! [f0, o1])
   exact ⟨rfl, fun _ => hK2 rfl⟩
 obtain ⟨rfl, rfl⟩ := q2
 have lf : ((wkL [] 0 ms).filter fun w => !isOne w.2).length ≤ 15 := Nat.le_trans (List.length_filter_le ..) (by rw [wkL_len]; exact nl)
 have hps : ∀ d, d ∈ D.tup [] :: ((wkL [] 0 ms).filter fun w => !isOne w.2).map (fun w => D.tup (w.1.map D.int)) → Hp ms d := fun d hd => by
  rcases List.mem_cons.mp hd with rfl | hd
  ·exact ⟨[], ms, rfl, rfl⟩
  ·obtain ⟨w, hw, rfl⟩ := List.mem_map.mp hd
   obtain ⟨hw1, hw2⟩ := List.mem_filter.mp hw
   obtain ⟨is, j, ks, a1, a2, a3⟩ := wkL_at ms [] 0 ms rfl w hw1
   obtain ⟨wp, wm⟩ := w
   cases wm with
   | one d o => cases hw2
   | home x ks' =>
    refine ⟨is ++ [j], ks', ?_, ?_⟩
    ·show D.tup (wp.map D.int) = _
     rw [show wp = _ from a1, pth_snoc, List.nil_append, List.map_append]
     rfl
    ·rw [goP_app, a2]
     show (match ks[j]? with | some (.home _ ks) => goP ks [] | _ => none) = _
     rw [show ks[j]? = some (.home x ks') from a3]
     rfl
 have lh : (((wkL [] 0 ms).filter fun w => !isOne w.2).map (fun w => D.tup (w.1.map D.int))).length ≤ 15 := by rw [List.length_map]; exact lf
 generalize ((wkL [] 0 ms).filter fun w => !isOne w.2).map (fun w => D.tup (w.1.map D.int)) = hs at *
 have z1 : szOk hs.length = true := sz_le (by omega)
 have z2 : szOk (1 + hs.length) = true := sz_le (by omega)
 refine ⟨z1, ?_⟩
 (simp_arith! [z2])
 refine hG _ _ ?_
 clear hG G
 have up4 := t.up
 refine SV_cutG fun G hG => ?_
 (simp_arith! [])
 refine SV_forI (fun r e' S' => ∃ (x4 x7 x8 : Option D), (∀ d, d ∈ r → Hp ms d) ∧ S' = S4 ∧ e' = [some (.ref h), some (.int m), some (.str N), some (.lst (D.tup [] :: hs)), x4, some (hsD m ms), some (mbD b), x7, x8, none]) ⟨_, _, _, hps, rfl, rfl⟩ ?_ ?_
 ·rintro d r e' S' K ⟨x4, x7, x8, hr, rfl, rfl⟩ hK
  obtain ⟨is, ks, rfl, hg⟩ := hr d (List.mem_cons_self ..)
  obtain ⟨m1, m2, m3, m4, m5, m6, m7, m8⟩ := put_more hm hh hb hg
  obtain ⟨g1, g2, g3⟩ := goP_lt is hg
  have b9 : ∀ i, i ∈ is → i < 10 ^ 9 := fun i hi => by have := g1 i hi; omega
  have lnp : ∀ T : Sto, gLen T (pthD is) = some (.int (is.length : Nat)) := fun T => by
   unfold pthD natP
   rw [r_lenT, List.length_map, List.length_map]
  have okb1 : mbOkL [b] := ⟨hb.ok, trivial⟩
  have okk := goP_ok is E.ok hg
  have rpt : ∀ T, gReprE T (hsD m (repP ms is (ks ++ [b]))) = some (.str (pd (hsD m (repP ms is (ks ++ [b])))).shown) := fun T => m6.repr (by decide) (by decide)
  have jn : ∀ T, CV (conN (Pv.c_joinedX 12 6 9)) [hsD m ms, pthD is, mbD b] T fun d T' => d = hsD m (repP ms is (ks ++ [b])) ∧ T' = T := fun T => CV_joinedX hm (by omega) (by omega) b9 E.ok hb.ok (by omega) hg (by omega) (by omega) (by omega) (by omega) m5 m4 ⟨rfl, rfl⟩
  have bn := hb.n
  have bt := hb.t
  refine GV_n.mpr ?_
  simp only [List.set_cons_succ, List.set_cons_zero]
  have c3 : ((is.length : Int) < 3) = True := eq_true (by omega)
  (simp_arith! [lnp, c3, i1])
  refine CV_stands E.ok ?_
  rw [hg]
  have em : moD (some ks) = .tup (mbL ks) := rfl
  have zk : szOk ((mbL ks).length + 1) = true := sz_le (by rw [mbL_len]; omega)
  rw [em]
  (simp_arith! [zk, mbL_snoc])
  refine CV_set 12 is ms ks (ks ++ [b]) (by omega) b9 E.ok (mbOkL_app okk okb1) (by omega) hg ?_
  have eh : D.tup [.int m, .tup (mbL (repP ms is (ks ++ [b])))] = hsD m (repP ms is (ks ++ [b])) := rfl
  (simp_arith! [eh])
  refine (jn S').imp fun d T zz => ?_
  obtain ⟨rfl, rfl⟩ := zz
  (simp_arith! [rpt])
  show CV (conN (Pv.c_joinedX 12 6 9)) [hsD m ms, pthD is, mbD b] T _
  refine (jn T).imp fun d T2 zz => ?_
  obtain ⟨rfl, rfl⟩ := zz
  (simp_arith! [rpt, en])
  refine CV_motes m1 (by omega) (by omega) (by omega) ?_
  (simp_arith! [])
  refine CV_motes E.ok (by omega) (by omega) (by omega) ?_
  (simp_arith! [])
  refine CV_purses (n := 6) (ms := [b]) okb1 (by show max (mbT b) 0 < 6; omega) (by show mbN b + 0 ≤ 100000; omega) ?_
  have ef : flL [b] = fl b := by show fl b ++ [] = _; rw [List.append_nil]
  rw [ef]
  (simp_arith! [])
  rw [if_neg (by omega)]
  exact ⟨(fun n hn => nomatch hn), hK _ _ ⟨_, _, _, fun d hd => hr d (List.mem_cons_of_mem _ hd), rfl, rfl⟩⟩
 rintro e' S5 ⟨x4, x7, x8, _, rfl, rfl⟩
 refine hG _ _ ?_
 clear hG G
 refine SV_cutG fun G hG => ?_
 (simp_arith! [i1])
 refine CV_nopaths E.ok E.tl E.nl t.hd (by omega) fun xs S6 hx lx t6 => ?_
 (simp_arith! [])
 have up6 := up4.trans t6.up
 refine SV_forI (fun r e' S' => ∃ (x4 : Option D), (∀ d, d ∈ r → Npp ms d) ∧ S' = S6 ∧ e' = [some (.ref h), some (.int m), some (.str N), some (.lst (D.tup [] :: hs)), x4, some (hsD m ms), some (mbD b), x7, x8, none]) ⟨_, hx, rfl, rfl⟩ ?_ ?_
 ·rintro d r e' S' K ⟨x4, hr, rfl, rfl⟩ hK
  have np := hr d (List.mem_cons_self ..)
  have jz : c_joined [hsD m ms, d, mbD b] S' = some (.tag (2 * 1 + 2) [.str "path", d], S') := by
   rw [e_joined]
   exact joinedX_np E.ok np.br np.ln np.no
  refine GV_n.mpr ?_
  simp only [List.set_cons_succ, List.set_cons_zero]
  refine SV_cutG fun G hG => ?_
  (simp_arith! [EV_lam])
  refine lostX_np np.br (fun T => r_reprE 40 np.sh (by have := np.dp; omega) (by have := np.ct; omega)) ?_ ?_
  ·show Pv.c_joinedX 12 6 9 [hsD m ms, d, mbD b] S' = _
   exact joinedX_np E.ok np.br np.ln np.no
  (simp_arith! [])
  refine hG _ _ ?_
  clear hG G
  have il : ∀ T, gIsO tb_LookupError T (D.tag (2 * 1 + 1) [.str "path", d]) = some (.bl true) := fun _ => rfl
  (simp_arith! [])
  refine caught_ok np.br jz ?_
  (simp_arith! [il])
  exact ⟨(fun n hn => nomatch hn), hK _ _ ⟨_, fun d hd => hr d (List.mem_cons_of_mem _ hd), rfl, rfl⟩⟩
 rintro e' S7 ⟨x4, _, rfl, rfl⟩
 refine hG _ _ ?_
 clear hG G
 (simp_arith! [rp2, eqS])
 refine anew_ok hm hh ?_
 (simp_arith! [rp, eqS])
 exact ⟨t6.hd.mono (by omega), up6, .inl ⟨rfl, fun _ _ => rfl⟩⟩
theorem pure_law (ns : List Int) (_ : ns.length ≤ 63) : c_law [.rol (ns.map D.int)] [] = some (.bl true, []) := by
 rw [c_law, e__law_hand]
 exact law_all (m := 3) (by decide) (by decide) (fun S h H => right_ok H (by decide)) ns
end Q30
open PySem PySem.W PySem.Calls PyProof.Rows
theorem PySem.Challenge.cw_nonegrowsrich_k30_members_joined_holds : PySem.Challenge.rw_nonegrowsrich_k30_members_joined.Holds := by
 w_on; o_law
 refine HandSHeadRun.head_any (r := OpenLaw.row PySem.Challenge.rw_nonegrowsrich_k30_members_joined) (q := view (OpenLaw.row PySem.Challenge.rw_nonegrowsrich_k30_members_joined).prog [51]) (H := Q30.hkP) (ob := Q30.obP) (M := 9000) (loose := Q30.looseL) (d := HandSHeadRun.topDef (OpenLaw.row PySem.Challenge.rw_nonegrowsrich_k30_members_joined).prog 51) (kwd := []) Q30.obP_eq
  (by kernel_rfl) (fun s => by kernel_rfl) Q30.runP (by kernel_rfl) (by kernel_rfl) (by kernel_rfl) (by rfl) (by first | assumption | decide +kernel) (by decide +kernel) ⟨rfl, rfl, rfl, rfl, rfl, by decide +kernel⟩ ?hw ?hc
 case hw => w_witness2
 case hc =>
  refine Pv.law_endT (l := PySem.Challenge.rw_nonegrowsrich_k30_members_joined) (n := 63) (k := 18) (x := "_law_script") (con := Q30.c_law) rfl (by decide) (by kernel_rfl) ⟨rfl, by decide, by decide⟩ ?F Q30.pure_law
  intro w mg fa h Y G hmg0
  obtain ⟨K, KX, c⟩ := Y
  have hmg : mg ("law" : PySem.Str) = some (.ref fa) := by
   have e : (HandSHeadRun.topDef (OpenLaw.row PySem.Challenge.rw_nonegrowsrich_k30_members_joined).prog 51).name = ("law" : PySem.Str) := by kernel_rfl
   rw [← e]
   exact hmg0
  obtain ⟨fd, hb, hF⟩ := Q30.factsP (P := (PySem.Challenge.rw_nonegrowsrich_k30_members_joined).prog) (w := w) KX G hmg c
  exact ⟨K, fd, Q30.tfL.map (He.cT K), KX, hb, fun p hp => by
   obtain ⟨q, hq, rfl⟩ := List.mem_map.mp hp
   exact c.empty q hq, fun p hp => by
   obtain ⟨q, hq, rfl⟩ := List.mem_map.mp hp
   exact c.out q hq, fun p hp => by
   obtain ⟨q, hq, rfl⟩ := List.mem_map.mp hp
   exact PySem.W.codeHd_of_K KX (c.hd q hq), Q30.tabs_in K, hF⟩
