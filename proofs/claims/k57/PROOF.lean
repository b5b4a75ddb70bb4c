import PyProof.Rows.All
import Wide.All
import OpenK.AllK
import Wide.FinOn
import KE.KStateDown
import HandS.Head0
import HandS.Head1
import HandS.Head2
import HandS.HeadEnd
import HandS.HeadWalk
import HandS.ForMost
import HandS.Defaults
import HandS.HeadHook4
import HandS.Property
import HandS.IsInst
import HandS.ExcInit
import HandS.Ends
import HandS.EndBits
import HandS.Lambda
import PyProof.ReprRoads
import PyProof.ReprLen
import HandS.Star
import HandS.More
import HandS.ListEq
import HandS.DictComp
import PyProof.DictDisplay
import PyProof.DictUpdate
import HandS.Walk
import HandS.Deep
import HandS.SetKeys
import HandS.Strs
import PyProof.WalksMore
import HandS.Exc
import HandS.WordsExc
import HandS.SortRule
import HandS.OwnIter
import HandS.IterNext
import HandS.OwnEq
import PyProof.InstNe
import HandS.SortOrd
import HandS.WordsDict
import HandS.CallLocal
import KE.KNest
import HandS.Finally
import HandS.HotCalls
import HandS.DeepEq
import HandS.ExcOwn
import HandS.ExcBuiltin
import HandS.ExcField
import HandS.ExcIs
import HandS.CallSlots
import HandS.TryOnly
import HandS.TryMany
import HandS.Conv
import HandS.Sort
import PyProof.EqKinds
import PyProof.NeKinds
import HandS.RaiseMore
import HandS.NoneIn
import HandS.TupMul
import HandS.Iter
import HandS.SetFor
import PySem.Challenge.RW_enoughtests_k57_whole_trials_and_takings
set_option Elab.async false
set_option linter.all false
set_option maxRecDepth 100000
/-! A_Txt -/
set_option maxHeartbeats 4000000
namespace K57
open PySem PySem.Spec PyProof.Rows L2 He
/-! ### the text by places -/
def top (i : Nat) : Stmt := PySem.Challenge.pw_enoughtests_k57_whole_trials_and_takings.main.body.getD i (.Pass ⟨0, 0, 0, 0⟩)
abbrev sIsInteger : Stmt := top 22
abbrev sIsRow : Stmt := top 24
abbrev sNeedSize : Stmt := top 28
abbrev sIsLine : Stmt := top 29
abbrev sIsPair : Stmt := top 30
abbrev sClosed : Stmt := top 31
abbrev sIsStep : Stmt := top 42
abbrev sIsTest : Stmt := top 50
abbrev sIsName : Stmt := top 58
abbrev sKeptTests : Stmt := top 59
abbrev sKeptThing : Stmt := top 60
abbrev sLawCell : Stmt := top 64
abbrev sLawBox : Stmt := top 65
abbrev sLawTake : Stmt := top 66
abbrev sLawMixed : Stmt := top 67
abbrev sLawPairs : Stmt := top 68
abbrev sLawClosed : Stmt := top 69
abbrev sLawSteps : Stmt := top 70
abbrev sLawTests : Stmt := top 71
abbrev sLawThing : Stmt := top 72
abbrev sLawMade : Stmt := top 73
abbrev sLawName : Stmt := top 74
abbrev sLawItem : Stmt := top 75
abbrev sLawDeed : Stmt := top 76
abbrev sLawIsCouple : Stmt := top 77
abbrev sLawLonger : Stmt := top 78
abbrev sLawChanged : Stmt := top 79
abbrev sLawSpoil : Stmt := top 80
abbrev sLawDone : Stmt := top 81
abbrev sLawTold : Stmt := top 82
abbrev sLawStep : Stmt := top 83
abbrev sLawLook : Stmt := top 84
abbrev sLawDeedsWithin : Stmt := top 85
abbrev sLawEnded : Stmt := top 86
abbrev sLawTried : Stmt := top 87
abbrev sLawTriedRight : Stmt := top 88
abbrev sLaw : Stmt := top 89
abbrev sOrderInit : Stmt := L2.inClass (top 32) 0
abbrev sOrderSize : Stmt := L2.inClass (top 32) 1
abbrev sOrderLen : Stmt := L2.inClass (top 32) 3
abbrev sOrderIter : Stmt := L2.inClass (top 32) 5
abbrev sOrderEq : Stmt := L2.inClass (top 32) 6
abbrev sNetworkInit : Stmt := L2.inClass (top 45) 0
abbrev sNetworkSize : Stmt := L2.inClass (top 45) 1
abbrev sNetworkLen : Stmt := L2.inClass (top 45) 2
abbrev sNetworkIter : Stmt := L2.inClass (top 45) 3
abbrev sNetworkEq : Stmt := L2.inClass (top 45) 4
abbrev sTrialInit : Stmt := L2.inClass (top 61) 0
abbrev sTrialEnter : Stmt := L2.inClass (top 61) 1
abbrev sTrialExit : Stmt := L2.inClass (top 61) 2
abbrev sBenchInit : Stmt := L2.inClass (top 62) 0
abbrev sBenchSize : Stmt := L2.inClass (top 62) 1
abbrev sBenchDeeds : Stmt := L2.inClass (top 62) 2
abbrev sBenchLen : Stmt := L2.inClass (top 62) 3
abbrev sBenchContains : Stmt := L2.inClass (top 62) 4
abbrev sBenchGetitem : Stmt := L2.inClass (top 62) 5
abbrev sBenchThingOf : Stmt := L2.inClass (top 62) 7
abbrev sBenchNames : Stmt := L2.inClass (top 62) 8
abbrev sBenchKind : Stmt := L2.inClass (top 62) 9
abbrev sBenchChange : Stmt := L2.inClass (top 62) 11
abbrev sBenchCheckNewName : Stmt := L2.inClass (top 62) 12
abbrev sBenchPut : Stmt := L2.inClass (top 62) 13
abbrev sBenchAdd : Stmt := L2.inClass (top 62) 14
abbrev sBenchDrop : Stmt := L2.inClass (top 62) 15
abbrev sBenchRename : Stmt := L2.inClass (top 62) 16
abbrev sBenchUndo : Stmt := L2.inClass (top 62) 17
abbrev sBenchTrial : Stmt := L2.inClass (top 62) 18
abbrev sBenchTried : Stmt := L2.inClass (top 62) 19
abbrev sInvalidSizeInit : Stmt := L2.inClass (top 3) 0
abbrev sInvalidRowInit : Stmt := L2.inClass (top 4) 0
abbrev sInvalidPairInit : Stmt := L2.inClass (top 6) 0
abbrev sRingInit : Stmt := L2.inClass (top 7) 0
abbrev sInvalidStepInit : Stmt := L2.inClass (top 10) 0
abbrev sNameTakenInit : Stmt := L2.inClass (top 16) 0
abbrev sUnknownNameInit : Stmt := L2.inClass (top 17) 0
abbrev sNothingToUndoInit : Stmt := L2.inClass (top 19) 0
/-! ### objects by names -/
abbrev cO (K : PySem.W.Frag) : Addr := ga K "Order"
abbrev cN (K : PySem.W.Frag) : Addr := ga K "Network"
abbrev cT (K : PySem.W.Frag) : Addr := ga K "Trial"
abbrev cB (K : PySem.W.Frag) : Addr := ga K "Bench"
/-- the function object at f -/
def fdAt (K : PySem.W.Frag) (f : Addr) : FuncData := match K.lookup f with
  | some ⟨_, _, .func fd, _⟩ => fd
  | _ => PySem.W.fnOf "" "" (defArgs sLaw) [] (defScope sLaw) .none .none .none .none none .none .none
/-- a property's getter -/
def pAd (K : PySem.W.Frag) (C m : Str) : Addr := match PySem.W.recIn K (ma K (ga K C) m) "property" with
  | some (.ref f :: _) => f
  | _ => 0
/-- a def of the text: where it stands, its name, its qualified name, its statement, its defaults -/
structure DP where
  at_ : PySem.W.Frag → Addr
  name : Str
  qual : Str
  params : Arguments
  body : List Stmt
  scope : Scope
  dfl : List Dv
abbrev DPv : Type := Option (Str × Str × Arguments × FuncBody × Scope × Addr × List (Str × Addr) × Addr)
def seenD (K : PySem.W.Frag) (f : Addr) : DPv := match K.lookup f with
  | some ⟨_, _, .func fd, _⟩ => some (fd.name, fd.qualname, fd.params, fd.body, fd.scope, fd.globals, fd.closure, fd.builtins)
  | _ => none
def DP.val (d : DP) : DPv := some (d.name, d.qual, d.params, .stmts d.body, d.scope, mainGlobals, [], builtinsNs)
def DP.ok (K : PySem.W.Frag) (d : DP) : Bool := PySem.W.keepIn K (.ref (d.at_ K)) && (match K.lookup (d.at_ K) with
  | some ⟨_, _, .func fd, _⟩ => PySem.W.codeIn K fd.code d.qual && dflB K fd.defaults (d.dfl.map (Dv.v K))
  | _ => false)
abbrev DP.Says (K : PySem.W.Frag) (d : DP) : Prop := FunD K d.name d.qual d.params d.body d.scope (d.dfl.map (Dv.v K)) [] (d.at_ K) (fdAt K (d.at_ K))
theorem DP.funD {K : PySem.W.Frag} {d : DP} (e : seenD K (d.at_ K) = d.val) (c : d.ok K = true) : d.Says K := by
  obtain ⟨kp, c2⟩ := ba c
  unfold seenD at e
  unfold DP.Says fdAt
  cases q : K.lookup (d.at_ K) with
  | none =>
    rw [q] at c2
    cases c2
  | some o =>
    obtain ⟨oc, od, dt, osl⟩ := o
    rw [q] at c2 e
    cases dt with
    | func fd =>
      obtain ⟨n1, n2, n3, n4, n5, n6, n7, n8, n9, n10, n11, n12, n13, n14, n15⟩ := fd
      have e2 : (some (n1, n2, n3, n4, n5, n6, n7, n15) : DPv) = some (d.name, d.qual, d.params, .stmts d.body, d.scope, mainGlobals, [], builtinsNs) := e
      simp only [Option.some.injEq, Prod.mk.injEq] at e2
      obtain ⟨h1, h2, h3, h4, h5, h6, h7, h8⟩ := e2
      subst h1 h2 h3 h4 h5 h6 h7 h8
      obtain ⟨k1, k2⟩ := ba (show (PySem.W.codeIn K n13 d.qual && dflB K n8 (d.dfl.map (Dv.v K))) = true from c2)
      exact ⟨⟨oc, od, n8, n9, n10, n11, n12, n13, n14, osl, rfl, q, k1, dflB_ok k2, .inl rfl⟩, kp⟩
    | _ => cases c2
/-! ### what is looked at, as Bools -/
/-- an exception class of the text, over ValueError -/
def oexB (K : PySem.W.Frag) (C : Addr) : Bool := (match K.lookup C with
  | some ⟨.type "type", _, .cls cd, sl⟩ => (match cd.mro, sl.toList with
    | .ref C' :: bm, [_, _, _, _, some (.builtin n), _] => decide (C' = C) && (decide (n = "ValueError.__new__") && (!cd.hasDel && (cd.hasDict && PySem.HandSPX.refsVE bm)))
    | _, _ => false)
  | _ => false) && (eqO (PySem.W.findIn K (.ref C) "__setattr__") (some (some (.builtin "object.__setattr__"))) &&
    (decide (PySem.W.subIn K (.ref C) (.type "BaseException") = some true) && (decide (PySem.W.typeIn K (.ref C) = some (.type "type")) && PySem.W.keepIn K (.ref C))))
theorem oexB_ok {K : PySem.W.Frag} {C : Addr} (h : oexB K C = true) : OexC K C := by
  obtain ⟨h1, h⟩ := ba h
  obtain ⟨h2, h⟩ := ba h
  obtain ⟨h3, h⟩ := ba h
  obtain ⟨h4, h5⟩ := ba h
  refine ⟨?_, eqO_ok h2, of_decide_eq_true h3, of_decide_eq_true h4, h5⟩
  cases q : K.lookup C with
  | none =>
    rw [q] at h1
    cases h1
  | some o =>
    rw [q] at h1
    split at h1
    · rename_i dd cd sl heq
      split at h1
      · rename_i C' bm k0 k1 k2 k3 n k5 hm hs
        obtain ⟨e1, h1⟩ := ba h1
        obtain ⟨e2, h1⟩ := ba h1
        obtain ⟨e3, h1⟩ := ba h1
        obtain ⟨e4, e5⟩ := ba h1
        have e1 := of_decide_eq_true e1
        have e2 := of_decide_eq_true e2
        obtain ⟨nm, bs, mro, ns, qn, hd, sn, sub, ab, col, del⟩ := cd
        dsimp only at hm e3 e4
        obtain ⟨l⟩ := sl
        simp only at hs
        cases heq
        subst e1 e2 hm hs e4
        have e6 : del = false := by
          cases del
          · rfl
          · cases e3
        subst e6
        exact ⟨nm, qn, ns, bs, bm, sn, sub, ab, col, dd, k0, k1, k2, k3, k5, rfl, e5⟩
      · cases h1
    · cases h1
/-- instances of the class at C are told by isinstance -/
structure InsC (K : PySem.W.Frag) (C : Addr) : Prop where
  cl : Cls K C
  ha : PySem.W.findIn K (.ref C) "__class__" = some (some (.builtin "object.__class__"))
  hn : PySem.W.specialIn K (.builtin "object.__class__") "__get__" = some (some (.builtin "getset_descriptor.__get__"))
  htk : PySem.W.takesIn K (.builtin "object.__class__") = some true
  hm : PySem.W.mroIn K C (.type "object") = some true
def insB (K : PySem.W.Frag) (x : Str) : Bool := (Fa.cls x).ok K && (eqO (PySem.W.findIn K (.ref (ga K x)) "__class__") (some (some (.builtin "object.__class__"))) &&
  (eqO (PySem.W.specialIn K (.builtin "object.__class__") "__get__") (some (some (.builtin "getset_descriptor.__get__"))) && (decide (PySem.W.takesIn K (.builtin "object.__class__") = some true) && decide (PySem.W.mroIn K (ga K x) (.type "object") = some true))))
theorem insB_ok {K : PySem.W.Frag} {x : Str} (h : insB K x = true) : InsC K (ga K x) := by
  obtain ⟨h1, h⟩ := ba h
  obtain ⟨h2, h⟩ := ba h
  obtain ⟨h3, h⟩ := ba h
  obtain ⟨h4, h5⟩ := ba h
  exact ⟨cls_ok h1, eqO_ok h2, eqO_ok h3, of_decide_eq_true h4, of_decide_eq_true h5⟩
def propB (K : PySem.W.Frag) (C m : Str) : Bool := eqO (PySem.W.findIn K (.ref (ga K C)) m) (some (some (.ref (ma K (ga K C) m)))) && (eqO (PySem.W.specialIn K (.ref (ma K (ga K C) m)) "__get__") (some (some (.builtin "property.__get__"))) &&
  (decide (PySem.W.takesIn K (.ref (ma K (ga K C) m)) = some true) && (match PySem.W.recIn K (ma K (ga K C) m) "property" with
    | some (.ref _ :: _) => true
    | _ => false)))
theorem propB_ok {K : PySem.W.Frag} {C m : Str} (h : propB K C m = true) : PropOf K (ga K C) m (ma K (ga K C) m) (pAd K C m) := by
  obtain ⟨h1, h⟩ := ba h
  obtain ⟨h2, h⟩ := ba h
  obtain ⟨h3, h4⟩ := ba h
  refine ⟨eqO_ok h1, eqO_ok h2, of_decide_eq_true h3, ?_⟩
  unfold pAd
  cases q : PySem.W.recIn K (ma K (ga K C) m) "property" with
  | none =>
    rw [q] at h4
    cases h4
  | some l =>
    rw [q] at h4
    cases l with
    | nil => cases h4
    | cons v r =>
      cases v with
      | ref f => exact ⟨r, rfl⟩
      | _ => cases h4
theorem vS_ok {K : PySem.W.Frag} {C : Addr} (h : (match PySem.W.findCls K (.ref C) (.type "type") "__init__" with | some (.val (.builtin n)) => decide (n = "ValueError.__init__") | _ => false) = true) :
    PySem.W.findCls K (.ref C) (.type "type") "__init__" = some (.val (.builtin "ValueError.__init__")) := by
  cases q : PySem.W.findCls K (.ref C) (.type "type") "__init__" with
  | none =>
    rw [q] at h
    cases h
  | some r =>
    rw [q] at h
    cases r with
    | val v =>
      cases v with
      | builtin n => rw [of_decide_eq_true h]
      | _ => cases h
    | get _ _ _ _ => cases h
/-! ### the defs -/
/-- the first default of a method -/
def dfl0 (C m : Str) : PySem.W.Frag → Addr := dflAt (C, some m) 0
def d_is_integer : DP := ⟨fun K => ga K "is_integer", "is_integer", "is_integer", defArgs sIsInteger, defBody sIsInteger, defScope sIsInteger, []⟩
def d_is_row : DP := ⟨fun K => ga K "is_row", "is_row", "is_row", defArgs sIsRow, defBody sIsRow, defScope sIsRow, [.non]⟩
def d_need_size : DP := ⟨fun K => ga K "need_size", "need_size", "need_size", defArgs sNeedSize, defBody sNeedSize, defScope sNeedSize, []⟩
def d_is_line : DP := ⟨fun K => ga K "is_line", "is_line", "is_line", defArgs sIsLine, defBody sIsLine, defScope sIsLine, []⟩
def d_is_pair : DP := ⟨fun K => ga K "is_pair", "is_pair", "is_pair", defArgs sIsPair, defBody sIsPair, defScope sIsPair, []⟩
def d_closed : DP := ⟨fun K => ga K "closed", "closed", "closed", defArgs sClosed, defBody sClosed, defScope sClosed, []⟩
def d_is_step : DP := ⟨fun K => ga K "is_step", "is_step", "is_step", defArgs sIsStep, defBody sIsStep, defScope sIsStep, []⟩
def d_is_test : DP := ⟨fun K => ga K "is_test", "is_test", "is_test", defArgs sIsTest, defBody sIsTest, defScope sIsTest, []⟩
def d_is_name : DP := ⟨fun K => ga K "is_name", "is_name", "is_name", defArgs sIsName, defBody sIsName, defScope sIsName, []⟩
def d_kept_tests : DP := ⟨fun K => ga K "kept_tests", "kept_tests", "kept_tests", defArgs sKeptTests, defBody sKeptTests, defScope sKeptTests, []⟩
def d_kept_thing : DP := ⟨fun K => ga K "kept_thing", "kept_thing", "kept_thing", defArgs sKeptThing, defBody sKeptThing, defScope sKeptThing, []⟩
def d_law_cell : DP := ⟨fun K => ga K "_law_cell", "_law_cell", "_law_cell", defArgs sLawCell, defBody sLawCell, defScope sLawCell, []⟩
def d_law_box : DP := ⟨fun K => ga K "_law_box", "_law_box", "_law_box", defArgs sLawBox, defBody sLawBox, defScope sLawBox, []⟩
def d_law_take : DP := ⟨fun K => ga K "_law_take", "_law_take", "_law_take", defArgs sLawTake, defBody sLawTake, defScope sLawTake, []⟩
def d_law_mixed : DP := ⟨fun K => ga K "_law_mixed", "_law_mixed", "_law_mixed", defArgs sLawMixed, defBody sLawMixed, defScope sLawMixed, []⟩
def d_law_pairs : DP := ⟨fun K => ga K "_law_pairs", "_law_pairs", "_law_pairs", defArgs sLawPairs, defBody sLawPairs, defScope sLawPairs, []⟩
def d_law_closed : DP := ⟨fun K => ga K "_law_closed", "_law_closed", "_law_closed", defArgs sLawClosed, defBody sLawClosed, defScope sLawClosed, []⟩
def d_law_steps : DP := ⟨fun K => ga K "_law_steps", "_law_steps", "_law_steps", defArgs sLawSteps, defBody sLawSteps, defScope sLawSteps, []⟩
def d_law_tests : DP := ⟨fun K => ga K "_law_tests", "_law_tests", "_law_tests", defArgs sLawTests, defBody sLawTests, defScope sLawTests, []⟩
def d_law_thing : DP := ⟨fun K => ga K "_law_thing", "_law_thing", "_law_thing", defArgs sLawThing, defBody sLawThing, defScope sLawThing, []⟩
def d_law_made : DP := ⟨fun K => ga K "_law_made", "_law_made", "_law_made", defArgs sLawMade, defBody sLawMade, defScope sLawMade, []⟩
def d_law_name : DP := ⟨fun K => ga K "_law_name", "_law_name", "_law_name", defArgs sLawName, defBody sLawName, defScope sLawName, []⟩
def d_law_item : DP := ⟨fun K => ga K "_law_item", "_law_item", "_law_item", defArgs sLawItem, defBody sLawItem, defScope sLawItem, []⟩
def d_law_deed : DP := ⟨fun K => ga K "_law_deed", "_law_deed", "_law_deed", defArgs sLawDeed, defBody sLawDeed, defScope sLawDeed, []⟩
def d_law_is_couple : DP := ⟨fun K => ga K "_law_is_couple", "_law_is_couple", "_law_is_couple", defArgs sLawIsCouple, defBody sLawIsCouple, defScope sLawIsCouple, []⟩
def d_law_longer : DP := ⟨fun K => ga K "_law_longer", "_law_longer", "_law_longer", defArgs sLawLonger, defBody sLawLonger, defScope sLawLonger, []⟩
def d_law_changed : DP := ⟨fun K => ga K "_law_changed", "_law_changed", "_law_changed", defArgs sLawChanged, defBody sLawChanged, defScope sLawChanged, []⟩
def d_law_spoil : DP := ⟨fun K => ga K "_law_spoil", "_law_spoil", "_law_spoil", defArgs sLawSpoil, defBody sLawSpoil, defScope sLawSpoil, []⟩
def d_law_done : DP := ⟨fun K => ga K "_law_done", "_law_done", "_law_done", defArgs sLawDone, defBody sLawDone, defScope sLawDone, []⟩
def d_law_told : DP := ⟨fun K => ga K "_law_told", "_law_told", "_law_told", defArgs sLawTold, defBody sLawTold, defScope sLawTold, []⟩
def d_law_step : DP := ⟨fun K => ga K "_law_step", "_law_step", "_law_step", defArgs sLawStep, defBody sLawStep, defScope sLawStep, []⟩
def d_law_look : DP := ⟨fun K => ga K "_law_look", "_law_look", "_law_look", defArgs sLawLook, defBody sLawLook, defScope sLawLook, []⟩
def d_law_deeds_within : DP := ⟨fun K => ga K "_law_deeds_within", "_law_deeds_within", "_law_deeds_within", defArgs sLawDeedsWithin, defBody sLawDeedsWithin, defScope sLawDeedsWithin, []⟩
def d_law_ended : DP := ⟨fun K => ga K "_law_ended", "_law_ended", "_law_ended", defArgs sLawEnded, defBody sLawEnded, defScope sLawEnded, []⟩
def d_law_tried : DP := ⟨fun K => ga K "_law_tried", "_law_tried", "_law_tried", defArgs sLawTried, defBody sLawTried, defScope sLawTried, []⟩
def d_law_tried_right : DP := ⟨fun K => ga K "_law_tried_right", "_law_tried_right", "_law_tried_right", defArgs sLawTriedRight, defBody sLawTriedRight, defScope sLawTriedRight, []⟩
def d_law : DP := ⟨fun K => ga K "law", "law", "law", defArgs sLaw, defBody sLaw, defScope sLaw, []⟩
def d_Order_init : DP := ⟨fun K => ma K (ga K "Order") "__init__", "__init__", "Order.__init__", defArgs sOrderInit, defBody sOrderInit, defScope sOrderInit, [.adr (dfl0 "Order" "__init__")]⟩
def d_Order_size : DP := ⟨fun K => pAd K "Order" "size", "size", "Order.size", defArgs sOrderSize, defBody sOrderSize, defScope sOrderSize, []⟩
def d_Order_len : DP := ⟨fun K => ma K (ga K "Order") "__len__", "__len__", "Order.__len__", defArgs sOrderLen, defBody sOrderLen, defScope sOrderLen, []⟩
def d_Order_iter : DP := ⟨fun K => ma K (ga K "Order") "__iter__", "__iter__", "Order.__iter__", defArgs sOrderIter, defBody sOrderIter, defScope sOrderIter, []⟩
def d_Order_eq : DP := ⟨fun K => ma K (ga K "Order") "__eq__", "__eq__", "Order.__eq__", defArgs sOrderEq, defBody sOrderEq, defScope sOrderEq, []⟩
def d_Network_init : DP := ⟨fun K => ma K (ga K "Network") "__init__", "__init__", "Network.__init__", defArgs sNetworkInit, defBody sNetworkInit, defScope sNetworkInit, [.adr (dfl0 "Network" "__init__")]⟩
def d_Network_size : DP := ⟨fun K => pAd K "Network" "size", "size", "Network.size", defArgs sNetworkSize, defBody sNetworkSize, defScope sNetworkSize, []⟩
def d_Network_len : DP := ⟨fun K => ma K (ga K "Network") "__len__", "__len__", "Network.__len__", defArgs sNetworkLen, defBody sNetworkLen, defScope sNetworkLen, []⟩
def d_Network_iter : DP := ⟨fun K => ma K (ga K "Network") "__iter__", "__iter__", "Network.__iter__", defArgs sNetworkIter, defBody sNetworkIter, defScope sNetworkIter, []⟩
def d_Network_eq : DP := ⟨fun K => ma K (ga K "Network") "__eq__", "__eq__", "Network.__eq__", defArgs sNetworkEq, defBody sNetworkEq, defScope sNetworkEq, []⟩
def d_Trial_init : DP := ⟨fun K => ma K (ga K "Trial") "__init__", "__init__", "Trial.__init__", defArgs sTrialInit, defBody sTrialInit, defScope sTrialInit, []⟩
def d_Trial_enter : DP := ⟨fun K => ma K (ga K "Trial") "__enter__", "__enter__", "Trial.__enter__", defArgs sTrialEnter, defBody sTrialEnter, defScope sTrialEnter, []⟩
def d_Trial_exit : DP := ⟨fun K => ma K (ga K "Trial") "__exit__", "__exit__", "Trial.__exit__", defArgs sTrialExit, defBody sTrialExit, defScope sTrialExit, []⟩
def d_Bench_init : DP := ⟨fun K => ma K (ga K "Bench") "__init__", "__init__", "Bench.__init__", defArgs sBenchInit, defBody sBenchInit, defScope sBenchInit, []⟩
def d_Bench_size : DP := ⟨fun K => pAd K "Bench" "size", "size", "Bench.size", defArgs sBenchSize, defBody sBenchSize, defScope sBenchSize, []⟩
def d_Bench_deeds : DP := ⟨fun K => pAd K "Bench" "deeds", "deeds", "Bench.deeds", defArgs sBenchDeeds, defBody sBenchDeeds, defScope sBenchDeeds, []⟩
def d_Bench_len : DP := ⟨fun K => ma K (ga K "Bench") "__len__", "__len__", "Bench.__len__", defArgs sBenchLen, defBody sBenchLen, defScope sBenchLen, []⟩
def d_Bench_contains : DP := ⟨fun K => ma K (ga K "Bench") "__contains__", "__contains__", "Bench.__contains__", defArgs sBenchContains, defBody sBenchContains, defScope sBenchContains, []⟩
def d_Bench_getitem : DP := ⟨fun K => ma K (ga K "Bench") "__getitem__", "__getitem__", "Bench.__getitem__", defArgs sBenchGetitem, defBody sBenchGetitem, defScope sBenchGetitem, []⟩
def d_Bench_thing_of : DP := ⟨fun K => ma K (ga K "Bench") "thing_of", "thing_of", "Bench.thing_of", defArgs sBenchThingOf, defBody sBenchThingOf, defScope sBenchThingOf, []⟩
def d_Bench_names : DP := ⟨fun K => ma K (ga K "Bench") "names", "names", "Bench.names", defArgs sBenchNames, defBody sBenchNames, defScope sBenchNames, []⟩
def d_Bench_kind : DP := ⟨fun K => ma K (ga K "Bench") "kind", "kind", "Bench.kind", defArgs sBenchKind, defBody sBenchKind, defScope sBenchKind, []⟩
def d_Bench_change : DP := ⟨fun K => ma K (ga K "Bench") "change", "change", "Bench.change", defArgs sBenchChange, defBody sBenchChange, defScope sBenchChange, []⟩
def d_Bench_check_new_name : DP := ⟨fun K => ma K (ga K "Bench") "check_new_name", "check_new_name", "Bench.check_new_name", defArgs sBenchCheckNewName, defBody sBenchCheckNewName, defScope sBenchCheckNewName, []⟩
def d_Bench_put : DP := ⟨fun K => ma K (ga K "Bench") "put", "put", "Bench.put", defArgs sBenchPut, defBody sBenchPut, defScope sBenchPut, []⟩
def d_Bench_add : DP := ⟨fun K => ma K (ga K "Bench") "add", "add", "Bench.add", defArgs sBenchAdd, defBody sBenchAdd, defScope sBenchAdd, []⟩
def d_Bench_drop : DP := ⟨fun K => ma K (ga K "Bench") "drop", "drop", "Bench.drop", defArgs sBenchDrop, defBody sBenchDrop, defScope sBenchDrop, []⟩
def d_Bench_rename : DP := ⟨fun K => ma K (ga K "Bench") "rename", "rename", "Bench.rename", defArgs sBenchRename, defBody sBenchRename, defScope sBenchRename, []⟩
def d_Bench_undo : DP := ⟨fun K => ma K (ga K "Bench") "undo", "undo", "Bench.undo", defArgs sBenchUndo, defBody sBenchUndo, defScope sBenchUndo, []⟩
def d_Bench_trial : DP := ⟨fun K => ma K (ga K "Bench") "trial", "trial", "Bench.trial", defArgs sBenchTrial, defBody sBenchTrial, defScope sBenchTrial, []⟩
def d_Bench_tried : DP := ⟨fun K => ma K (ga K "Bench") "tried", "tried", "Bench.tried", defArgs sBenchTried, defBody sBenchTried, defScope sBenchTried, []⟩
def d_InvalidSize_init : DP := ⟨fun K => ma K (ga K "InvalidSize") "__init__", "__init__", "InvalidSize.__init__", defArgs sInvalidSizeInit, defBody sInvalidSizeInit, defScope sInvalidSizeInit, []⟩
def d_InvalidRow_init : DP := ⟨fun K => ma K (ga K "InvalidRow") "__init__", "__init__", "InvalidRow.__init__", defArgs sInvalidRowInit, defBody sInvalidRowInit, defScope sInvalidRowInit, []⟩
def d_InvalidPair_init : DP := ⟨fun K => ma K (ga K "InvalidPair") "__init__", "__init__", "InvalidPair.__init__", defArgs sInvalidPairInit, defBody sInvalidPairInit, defScope sInvalidPairInit, []⟩
def d_Ring_init : DP := ⟨fun K => ma K (ga K "Ring") "__init__", "__init__", "Ring.__init__", defArgs sRingInit, defBody sRingInit, defScope sRingInit, []⟩
def d_InvalidStep_init : DP := ⟨fun K => ma K (ga K "InvalidStep") "__init__", "__init__", "InvalidStep.__init__", defArgs sInvalidStepInit, defBody sInvalidStepInit, defScope sInvalidStepInit, []⟩
def d_NameTaken_init : DP := ⟨fun K => ma K (ga K "NameTaken") "__init__", "__init__", "NameTaken.__init__", defArgs sNameTakenInit, defBody sNameTakenInit, defScope sNameTakenInit, []⟩
def d_UnknownName_init : DP := ⟨fun K => ma K (ga K "UnknownName") "__init__", "__init__", "UnknownName.__init__", defArgs sUnknownNameInit, defBody sUnknownNameInit, defScope sUnknownNameInit, []⟩
def d_NothingToUndo_init : DP := ⟨fun K => ma K (ga K "NothingToUndo") "__init__", "__init__", "NothingToUndo.__init__", defArgs sNothingToUndoInit, defBody sNothingToUndoInit, defScope sNothingToUndoInit, []⟩
/-! ### what the top has written -/
structure Txt (K : PySem.W.Frag) (mg : Str → Option Value) : Prop where
  g_is_integer : mg "is_integer" = some (.ref (ga K "is_integer"))
  g_is_row : mg "is_row" = some (.ref (ga K "is_row"))
  g_need_size : mg "need_size" = some (.ref (ga K "need_size"))
  g_is_line : mg "is_line" = some (.ref (ga K "is_line"))
  g_is_pair : mg "is_pair" = some (.ref (ga K "is_pair"))
  g_closed : mg "closed" = some (.ref (ga K "closed"))
  g_is_step : mg "is_step" = some (.ref (ga K "is_step"))
  g_is_test : mg "is_test" = some (.ref (ga K "is_test"))
  g_is_name : mg "is_name" = some (.ref (ga K "is_name"))
  g_kept_tests : mg "kept_tests" = some (.ref (ga K "kept_tests"))
  g_kept_thing : mg "kept_thing" = some (.ref (ga K "kept_thing"))
  g_law_cell : mg "_law_cell" = some (.ref (ga K "_law_cell"))
  g_law_box : mg "_law_box" = some (.ref (ga K "_law_box"))
  g_law_take : mg "_law_take" = some (.ref (ga K "_law_take"))
  g_law_mixed : mg "_law_mixed" = some (.ref (ga K "_law_mixed"))
  g_law_pairs : mg "_law_pairs" = some (.ref (ga K "_law_pairs"))
  g_law_closed : mg "_law_closed" = some (.ref (ga K "_law_closed"))
  g_law_steps : mg "_law_steps" = some (.ref (ga K "_law_steps"))
  g_law_tests : mg "_law_tests" = some (.ref (ga K "_law_tests"))
  g_law_thing : mg "_law_thing" = some (.ref (ga K "_law_thing"))
  g_law_made : mg "_law_made" = some (.ref (ga K "_law_made"))
  g_law_name : mg "_law_name" = some (.ref (ga K "_law_name"))
  g_law_item : mg "_law_item" = some (.ref (ga K "_law_item"))
  g_law_deed : mg "_law_deed" = some (.ref (ga K "_law_deed"))
  g_law_is_couple : mg "_law_is_couple" = some (.ref (ga K "_law_is_couple"))
  g_law_longer : mg "_law_longer" = some (.ref (ga K "_law_longer"))
  g_law_changed : mg "_law_changed" = some (.ref (ga K "_law_changed"))
  g_law_spoil : mg "_law_spoil" = some (.ref (ga K "_law_spoil"))
  g_law_done : mg "_law_done" = some (.ref (ga K "_law_done"))
  g_law_told : mg "_law_told" = some (.ref (ga K "_law_told"))
  g_law_step : mg "_law_step" = some (.ref (ga K "_law_step"))
  g_law_look : mg "_law_look" = some (.ref (ga K "_law_look"))
  g_law_deeds_within : mg "_law_deeds_within" = some (.ref (ga K "_law_deeds_within"))
  g_law_ended : mg "_law_ended" = some (.ref (ga K "_law_ended"))
  g_law_tried : mg "_law_tried" = some (.ref (ga K "_law_tried"))
  g_law_tried_right : mg "_law_tried_right" = some (.ref (ga K "_law_tried_right"))
  g_law : mg "law" = some (.ref (ga K "law"))
  g_Order : mg "Order" = some (.ref (ga K "Order"))
  g_Network : mg "Network" = some (.ref (ga K "Network"))
  g_Trial : mg "Trial" = some (.ref (ga K "Trial"))
  g_Bench : mg "Bench" = some (.ref (ga K "Bench"))
  g_SorterError : mg "SorterError" = some (.ref (ga K "SorterError"))
  g_InvalidSize : mg "InvalidSize" = some (.ref (ga K "InvalidSize"))
  g_InvalidRow : mg "InvalidRow" = some (.ref (ga K "InvalidRow"))
  g_InvalidPair : mg "InvalidPair" = some (.ref (ga K "InvalidPair"))
  g_Ring : mg "Ring" = some (.ref (ga K "Ring"))
  g_InvalidStep : mg "InvalidStep" = some (.ref (ga K "InvalidStep"))
  g_NameTaken : mg "NameTaken" = some (.ref (ga K "NameTaken"))
  g_UnknownName : mg "UnknownName" = some (.ref (ga K "UnknownName"))
  g_NothingToUndo : mg "NothingToUndo" = some (.ref (ga K "NothingToUndo"))
  i_MOST_LINES : ∃ t, mg "MOST_LINES" = some (.int 60 t)
  i_LONGEST_NAME : ∃ t, mg "LONGEST_NAME" = some (.int 8 t)
  i_MOST_TESTS : ∃ t, mg "MOST_TESTS" = some (.int 100 t)
  s_LETTERS : ∃ t, mg "LETTERS" = some (.str "abcdefghijklmnopqrstuvwxyz" t)
  s_NETWORK : ∃ t, mg "NETWORK" = some (.str "network" t)
  s_ORDER : ∃ t, mg "ORDER" = some (.str "order" t)
  s_TESTS : ∃ t, mg "TESTS" = some (.str "tests" t)
  z_isinstance : mg "isinstance" = none
  z_int : mg "int" = none
  z_bool : mg "bool" = none
  z_len : mg "len" = none
  z_all : mg "all" = none
  z_range : mg "range" = none
  z_set : mg "set" = none
  z_tuple : mg "tuple" = none
  z_sorted : mg "sorted" = none
  z_list : mg "list" = none
  z_str : mg "str" = none
  z_dict : mg "dict" = none
  z_repr : mg "repr" = none
  z_max : mg "max" = none
  z_min : mg "min" = none
  z_iter : mg "iter" = none
  z_KeyError : mg "KeyError" = none
  z_ValueError : mg "ValueError" = none
  ins_Order : InsC K (ga K "Order")
  mk_Order : Mk K (ga K "Order") (ma K (ga K "Order") "__init__")
  k_Order : PySem.W.keepIn K (.ref (ga K "Order")) = true
  ins_Network : InsC K (ga K "Network")
  mk_Network : Mk K (ga K "Network") (ma K (ga K "Network") "__init__")
  k_Network : PySem.W.keepIn K (.ref (ga K "Network")) = true
  ins_Trial : InsC K (ga K "Trial")
  mk_Trial : Mk K (ga K "Trial") (ma K (ga K "Trial") "__init__")
  k_Trial : PySem.W.keepIn K (.ref (ga K "Trial")) = true
  ins_Bench : InsC K (ga K "Bench")
  mk_Bench : Mk K (ga K "Bench") (ma K (ga K "Bench") "__init__")
  k_Bench : PySem.W.keepIn K (.ref (ga K "Bench")) = true
  n_Order_own_size : NoAttr K (ga K "Order") "own_size"
  n_Order_own_pairs : NoAttr K (ga K "Order") "own_pairs"
  n_Network_own_size : NoAttr K (ga K "Network") "own_size"
  n_Network_own_steps : NoAttr K (ga K "Network") "own_steps"
  n_Trial_held_bench : NoAttr K (ga K "Trial") "held_bench"
  n_Trial_kept_things : NoAttr K (ga K "Trial") "kept_things"
  n_Trial_kept_past : NoAttr K (ga K "Trial") "kept_past"
  n_Bench_own_size : NoAttr K (ga K "Bench") "own_size"
  n_Bench_things : NoAttr K (ga K "Bench") "things"
  n_Bench_past : NoAttr K (ga K "Bench") "past"
  p_Order_size : PropOf K (ga K "Order") "size" (ma K (ga K "Order") "size") (pAd K "Order" "size")
  m_Order___len__ : Meth K (ga K "Order") "__len__" (ma K (ga K "Order") "__len__")
  m_Order___iter__ : Meth K (ga K "Order") "__iter__" (ma K (ga K "Order") "__iter__")
  m_Order___eq__ : Meth K (ga K "Order") "__eq__" (ma K (ga K "Order") "__eq__")
  p_Network_size : PropOf K (ga K "Network") "size" (ma K (ga K "Network") "size") (pAd K "Network" "size")
  m_Network___len__ : Meth K (ga K "Network") "__len__" (ma K (ga K "Network") "__len__")
  m_Network___iter__ : Meth K (ga K "Network") "__iter__" (ma K (ga K "Network") "__iter__")
  m_Network___eq__ : Meth K (ga K "Network") "__eq__" (ma K (ga K "Network") "__eq__")
  m_Trial___enter__ : Meth K (ga K "Trial") "__enter__" (ma K (ga K "Trial") "__enter__")
  m_Trial___exit__ : Meth K (ga K "Trial") "__exit__" (ma K (ga K "Trial") "__exit__")
  p_Bench_size : PropOf K (ga K "Bench") "size" (ma K (ga K "Bench") "size") (pAd K "Bench" "size")
  p_Bench_deeds : PropOf K (ga K "Bench") "deeds" (ma K (ga K "Bench") "deeds") (pAd K "Bench" "deeds")
  m_Bench___len__ : Meth K (ga K "Bench") "__len__" (ma K (ga K "Bench") "__len__")
  m_Bench___contains__ : Meth K (ga K "Bench") "__contains__" (ma K (ga K "Bench") "__contains__")
  m_Bench___getitem__ : Meth K (ga K "Bench") "__getitem__" (ma K (ga K "Bench") "__getitem__")
  m_Bench_thing_of : Meth K (ga K "Bench") "thing_of" (ma K (ga K "Bench") "thing_of")
  m_Bench_names : Meth K (ga K "Bench") "names" (ma K (ga K "Bench") "names")
  m_Bench_kind : Meth K (ga K "Bench") "kind" (ma K (ga K "Bench") "kind")
  m_Bench_change : Meth K (ga K "Bench") "change" (ma K (ga K "Bench") "change")
  m_Bench_check_new_name : Meth K (ga K "Bench") "check_new_name" (ma K (ga K "Bench") "check_new_name")
  m_Bench_put : Meth K (ga K "Bench") "put" (ma K (ga K "Bench") "put")
  m_Bench_add : Meth K (ga K "Bench") "add" (ma K (ga K "Bench") "add")
  m_Bench_drop : Meth K (ga K "Bench") "drop" (ma K (ga K "Bench") "drop")
  m_Bench_rename : Meth K (ga K "Bench") "rename" (ma K (ga K "Bench") "rename")
  m_Bench_undo : Meth K (ga K "Bench") "undo" (ma K (ga K "Bench") "undo")
  m_Bench_trial : Meth K (ga K "Bench") "trial" (ma K (ga K "Bench") "trial")
  m_Bench_tried : Meth K (ga K "Bench") "tried" (ma K (ga K "Bench") "tried")
  x_InvalidSize : OexC K (ga K "InvalidSize")
  xi_InvalidSize : Meth K (ga K "InvalidSize") "__init__" (ma K (ga K "InvalidSize") "__init__")
  xn_InvalidSize : NoAttr K (ga K "InvalidSize") "value"
  xa_InvalidSize : PySem.W.findIn K (.ref (ga K "InvalidSize")) "__getattribute__" = some (some (.builtin "BaseException.__getattribute__"))
  xb_InvalidSize : PySem.W.findIn K (.ref (ga K "InvalidSize")) "__getattr__" = some none
  xd_InvalidSize : PySem.W.hasDictIn K (ga K "InvalidSize") = true
  x_InvalidRow : OexC K (ga K "InvalidRow")
  xi_InvalidRow : Meth K (ga K "InvalidRow") "__init__" (ma K (ga K "InvalidRow") "__init__")
  xn_InvalidRow : NoAttr K (ga K "InvalidRow") "value"
  xa_InvalidRow : PySem.W.findIn K (.ref (ga K "InvalidRow")) "__getattribute__" = some (some (.builtin "BaseException.__getattribute__"))
  xb_InvalidRow : PySem.W.findIn K (.ref (ga K "InvalidRow")) "__getattr__" = some none
  xd_InvalidRow : PySem.W.hasDictIn K (ga K "InvalidRow") = true
  x_InvalidPair : OexC K (ga K "InvalidPair")
  xi_InvalidPair : Meth K (ga K "InvalidPair") "__init__" (ma K (ga K "InvalidPair") "__init__")
  xn_InvalidPair : NoAttr K (ga K "InvalidPair") "value"
  xa_InvalidPair : PySem.W.findIn K (.ref (ga K "InvalidPair")) "__getattribute__" = some (some (.builtin "BaseException.__getattribute__"))
  xb_InvalidPair : PySem.W.findIn K (.ref (ga K "InvalidPair")) "__getattr__" = some none
  xd_InvalidPair : PySem.W.hasDictIn K (ga K "InvalidPair") = true
  x_Ring : OexC K (ga K "Ring")
  xi_Ring : Meth K (ga K "Ring") "__init__" (ma K (ga K "Ring") "__init__")
  xn_Ring : NoAttr K (ga K "Ring") "lines"
  xa_Ring : PySem.W.findIn K (.ref (ga K "Ring")) "__getattribute__" = some (some (.builtin "BaseException.__getattribute__"))
  xb_Ring : PySem.W.findIn K (.ref (ga K "Ring")) "__getattr__" = some none
  xd_Ring : PySem.W.hasDictIn K (ga K "Ring") = true
  x_InvalidStep : OexC K (ga K "InvalidStep")
  xi_InvalidStep : Meth K (ga K "InvalidStep") "__init__" (ma K (ga K "InvalidStep") "__init__")
  xn_InvalidStep : NoAttr K (ga K "InvalidStep") "value"
  xa_InvalidStep : PySem.W.findIn K (.ref (ga K "InvalidStep")) "__getattribute__" = some (some (.builtin "BaseException.__getattribute__"))
  xb_InvalidStep : PySem.W.findIn K (.ref (ga K "InvalidStep")) "__getattr__" = some none
  xd_InvalidStep : PySem.W.hasDictIn K (ga K "InvalidStep") = true
  x_NameTaken : OexC K (ga K "NameTaken")
  xi_NameTaken : Meth K (ga K "NameTaken") "__init__" (ma K (ga K "NameTaken") "__init__")
  xn_NameTaken : NoAttr K (ga K "NameTaken") "name"
  xa_NameTaken : PySem.W.findIn K (.ref (ga K "NameTaken")) "__getattribute__" = some (some (.builtin "BaseException.__getattribute__"))
  xb_NameTaken : PySem.W.findIn K (.ref (ga K "NameTaken")) "__getattr__" = some none
  xd_NameTaken : PySem.W.hasDictIn K (ga K "NameTaken") = true
  x_UnknownName : OexC K (ga K "UnknownName")
  xi_UnknownName : Meth K (ga K "UnknownName") "__init__" (ma K (ga K "UnknownName") "__init__")
  xn_UnknownName : NoAttr K (ga K "UnknownName") "name"
  xa_UnknownName : PySem.W.findIn K (.ref (ga K "UnknownName")) "__getattribute__" = some (some (.builtin "BaseException.__getattribute__"))
  xb_UnknownName : PySem.W.findIn K (.ref (ga K "UnknownName")) "__getattr__" = some none
  xd_UnknownName : PySem.W.hasDictIn K (ga K "UnknownName") = true
  x_NothingToUndo : OexC K (ga K "NothingToUndo")
  xi_NothingToUndo : Meth K (ga K "NothingToUndo") "__init__" (ma K (ga K "NothingToUndo") "__init__")
  xa_NothingToUndo : PySem.W.findIn K (.ref (ga K "NothingToUndo")) "__getattribute__" = some (some (.builtin "BaseException.__getattribute__"))
  xb_NothingToUndo : PySem.W.findIn K (.ref (ga K "NothingToUndo")) "__getattr__" = some none
  xd_NothingToUndo : PySem.W.hasDictIn K (ga K "NothingToUndo") = true
  e_NameTaken_NameTaken : PySem.W.exmOne K (.ref (ga K "NameTaken")) (.ref (ga K "NameTaken")) = some true
  e_UnknownName_NameTaken : PySem.W.exmOne K (.ref (ga K "UnknownName")) (.ref (ga K "NameTaken")) = some false
  e_UnknownName_UnknownName : PySem.W.exmOne K (.ref (ga K "UnknownName")) (.ref (ga K "UnknownName")) = some true
  e_InvalidStep_NameTaken : PySem.W.exmOne K (.ref (ga K "InvalidStep")) (.ref (ga K "NameTaken")) = some false
  e_InvalidStep_UnknownName : PySem.W.exmOne K (.ref (ga K "InvalidStep")) (.ref (ga K "UnknownName")) = some false
  e_InvalidStep_InvalidStep : PySem.W.exmOne K (.ref (ga K "InvalidStep")) (.ref (ga K "InvalidStep")) = some true
  e_InvalidPair_NameTaken : PySem.W.exmOne K (.ref (ga K "InvalidPair")) (.ref (ga K "NameTaken")) = some false
  e_InvalidPair_UnknownName : PySem.W.exmOne K (.ref (ga K "InvalidPair")) (.ref (ga K "UnknownName")) = some false
  e_InvalidPair_InvalidStep : PySem.W.exmOne K (.ref (ga K "InvalidPair")) (.ref (ga K "InvalidStep")) = some false
  e_InvalidPair_InvalidPair : PySem.W.exmOne K (.ref (ga K "InvalidPair")) (.ref (ga K "InvalidPair")) = some true
  e_InvalidRow_NameTaken : PySem.W.exmOne K (.ref (ga K "InvalidRow")) (.ref (ga K "NameTaken")) = some false
  e_InvalidRow_UnknownName : PySem.W.exmOne K (.ref (ga K "InvalidRow")) (.ref (ga K "UnknownName")) = some false
  e_InvalidRow_InvalidStep : PySem.W.exmOne K (.ref (ga K "InvalidRow")) (.ref (ga K "InvalidStep")) = some false
  e_InvalidRow_InvalidPair : PySem.W.exmOne K (.ref (ga K "InvalidRow")) (.ref (ga K "InvalidPair")) = some false
  e_InvalidRow_InvalidRow : PySem.W.exmOne K (.ref (ga K "InvalidRow")) (.ref (ga K "InvalidRow")) = some true
  e_Ring_NameTaken : PySem.W.exmOne K (.ref (ga K "Ring")) (.ref (ga K "NameTaken")) = some false
  e_Ring_UnknownName : PySem.W.exmOne K (.ref (ga K "Ring")) (.ref (ga K "UnknownName")) = some false
  e_Ring_InvalidStep : PySem.W.exmOne K (.ref (ga K "Ring")) (.ref (ga K "InvalidStep")) = some false
  e_Ring_InvalidPair : PySem.W.exmOne K (.ref (ga K "Ring")) (.ref (ga K "InvalidPair")) = some false
  e_Ring_InvalidRow : PySem.W.exmOne K (.ref (ga K "Ring")) (.ref (ga K "InvalidRow")) = some false
  e_Ring_Ring : PySem.W.exmOne K (.ref (ga K "Ring")) (.ref (ga K "Ring")) = some true
  e_NothingToUndo_NameTaken : PySem.W.exmOne K (.ref (ga K "NothingToUndo")) (.ref (ga K "NameTaken")) = some false
  e_NothingToUndo_UnknownName : PySem.W.exmOne K (.ref (ga K "NothingToUndo")) (.ref (ga K "UnknownName")) = some false
  e_NothingToUndo_InvalidStep : PySem.W.exmOne K (.ref (ga K "NothingToUndo")) (.ref (ga K "InvalidStep")) = some false
  e_NothingToUndo_InvalidPair : PySem.W.exmOne K (.ref (ga K "NothingToUndo")) (.ref (ga K "InvalidPair")) = some false
  e_NothingToUndo_InvalidRow : PySem.W.exmOne K (.ref (ga K "NothingToUndo")) (.ref (ga K "InvalidRow")) = some false
  e_NothingToUndo_Ring : PySem.W.exmOne K (.ref (ga K "NothingToUndo")) (.ref (ga K "Ring")) = some false
  e_NothingToUndo_NothingToUndo : PySem.W.exmOne K (.ref (ga K "NothingToUndo")) (.ref (ga K "NothingToUndo")) = some true
  e_key_key : PySem.W.exmOne K (.type "KeyError") (.type "KeyError") = some true
  e_UnknownName_key : PySem.W.exmOne K (.ref (ga K "UnknownName")) (.type "KeyError") = some false
  q_list_Order : PySem.W.kitOne K (.type "list") (.ref (ga K "Order")) = some false
  q_list_Network : PySem.W.kitOne K (.type "list") (.ref (ga K "Network")) = some false
  q_tuple_Order : PySem.W.kitOne K (.type "tuple") (.ref (ga K "Order")) = some false
  q_tuple_Network : PySem.W.kitOne K (.type "tuple") (.ref (ga K "Network")) = some false
  q_dict_Order : PySem.W.kitOne K (.type "dict") (.ref (ga K "Order")) = some false
  q_dict_Network : PySem.W.kitOne K (.type "dict") (.ref (ga K "Network")) = some false
  q_int_Order : PySem.W.kitOne K (.type "int") (.ref (ga K "Order")) = some false
  q_int_Network : PySem.W.kitOne K (.type "int") (.ref (ga K "Network")) = some false
  q_str_Order : PySem.W.kitOne K (.type "str") (.ref (ga K "Order")) = some false
  q_str_Network : PySem.W.kitOne K (.type "str") (.ref (ga K "Network")) = some false
  q_bool_Order : PySem.W.kitOne K (.type "bool") (.ref (ga K "Order")) = some false
  q_bool_Network : PySem.W.kitOne K (.type "bool") (.ref (ga K "Network")) = some false
  q_NoneType_Order : PySem.W.kitOne K (.type "NoneType") (.ref (ga K "Order")) = some false
  q_NoneType_Network : PySem.W.kitOne K (.type "NoneType") (.ref (ga K "Network")) = some false
  q_Order_list : PySem.W.kitOne K (.ref (ga K "Order")) (.type "list") = some false
  q_Order_tuple : PySem.W.kitOne K (.ref (ga K "Order")) (.type "tuple") = some false
  q_Order_Order : PySem.W.kitOne K (.ref (ga K "Order")) (.ref (ga K "Order")) = some true
  q_Order_Network : PySem.W.kitOne K (.ref (ga K "Order")) (.ref (ga K "Network")) = some false
  q_Network_list : PySem.W.kitOne K (.ref (ga K "Network")) (.type "list") = some false
  q_Network_tuple : PySem.W.kitOne K (.ref (ga K "Network")) (.type "tuple") = some false
  q_Network_Order : PySem.W.kitOne K (.ref (ga K "Network")) (.ref (ga K "Order")) = some false
  q_Network_Network : PySem.W.kitOne K (.ref (ga K "Network")) (.ref (ga K "Network")) = some true
  q_UnknownName_VE : PySem.W.subIn K (.ref (ga K "NothingToUndo")) (.type "ValueError") = some true
  xc_NothingToUndo : PySem.W.findIn K (.ref (ga K "NothingToUndo")) "__class__" = some (some (.builtin "object.__class__"))
  xm_NothingToUndo : PySem.W.mroIn K (ga K "NothingToUndo") (.type "object") = some true
  xk_NothingToUndo : PySem.W.kitOne K (.ref (ga K "NothingToUndo")) (.type "ValueError") = some true
  ne_Order : PySem.W.findIn K (.ref (ga K "Order")) "__ne__" = some (some (.builtin "object.__ne__"))
  ne_Network : PySem.W.findIn K (.ref (ga K "Network")) "__ne__" = some (some (.builtin "object.__ne__"))
  sq_Bench : PySem.W.noSeq K (ga K "Bench") = true
  fi_getitem : PySem.W.fnIn K (ma K (ga K "Bench") "__getitem__") = true
  vS : PySem.W.findCls K (.ref (ga K "SorterError")) (.type "type") "__init__" = some (.val (.builtin "ValueError.__init__"))
  rS : PySem.W.readsIn K (ga K "SorterError") (.type "type") = true
  gS : PySem.W.specialIn K (.ref (ga K "SorterError")) "__getattribute__" = some (some (.builtin "type.__getattribute__"))
  f_is_integer : d_is_integer.Says K
  f_is_row : d_is_row.Says K
  f_need_size : d_need_size.Says K
  f_is_line : d_is_line.Says K
  f_is_pair : d_is_pair.Says K
  f_closed : d_closed.Says K
  f_is_step : d_is_step.Says K
  f_is_test : d_is_test.Says K
  f_is_name : d_is_name.Says K
  f_kept_tests : d_kept_tests.Says K
  f_kept_thing : d_kept_thing.Says K
  f_law_cell : d_law_cell.Says K
  f_law_box : d_law_box.Says K
  f_law_take : d_law_take.Says K
  f_law_mixed : d_law_mixed.Says K
  f_law_pairs : d_law_pairs.Says K
  f_law_closed : d_law_closed.Says K
  f_law_steps : d_law_steps.Says K
  f_law_tests : d_law_tests.Says K
  f_law_thing : d_law_thing.Says K
  f_law_made : d_law_made.Says K
  f_law_name : d_law_name.Says K
  f_law_item : d_law_item.Says K
  f_law_deed : d_law_deed.Says K
  f_law_is_couple : d_law_is_couple.Says K
  f_law_longer : d_law_longer.Says K
  f_law_changed : d_law_changed.Says K
  f_law_spoil : d_law_spoil.Says K
  f_law_done : d_law_done.Says K
  f_law_told : d_law_told.Says K
  f_law_step : d_law_step.Says K
  f_law_look : d_law_look.Says K
  f_law_deeds_within : d_law_deeds_within.Says K
  f_law_ended : d_law_ended.Says K
  f_law_tried : d_law_tried.Says K
  f_law_tried_right : d_law_tried_right.Says K
  f_law : d_law.Says K
  f_Order_init : d_Order_init.Says K
  f_Order_size : d_Order_size.Says K
  f_Order_len : d_Order_len.Says K
  f_Order_iter : d_Order_iter.Says K
  f_Order_eq : d_Order_eq.Says K
  f_Network_init : d_Network_init.Says K
  f_Network_size : d_Network_size.Says K
  f_Network_len : d_Network_len.Says K
  f_Network_iter : d_Network_iter.Says K
  f_Network_eq : d_Network_eq.Says K
  f_Trial_init : d_Trial_init.Says K
  f_Trial_enter : d_Trial_enter.Says K
  f_Trial_exit : d_Trial_exit.Says K
  f_Bench_init : d_Bench_init.Says K
  f_Bench_size : d_Bench_size.Says K
  f_Bench_deeds : d_Bench_deeds.Says K
  f_Bench_len : d_Bench_len.Says K
  f_Bench_contains : d_Bench_contains.Says K
  f_Bench_getitem : d_Bench_getitem.Says K
  f_Bench_thing_of : d_Bench_thing_of.Says K
  f_Bench_names : d_Bench_names.Says K
  f_Bench_kind : d_Bench_kind.Says K
  f_Bench_change : d_Bench_change.Says K
  f_Bench_check_new_name : d_Bench_check_new_name.Says K
  f_Bench_put : d_Bench_put.Says K
  f_Bench_add : d_Bench_add.Says K
  f_Bench_drop : d_Bench_drop.Says K
  f_Bench_rename : d_Bench_rename.Says K
  f_Bench_undo : d_Bench_undo.Says K
  f_Bench_trial : d_Bench_trial.Says K
  f_Bench_tried : d_Bench_tried.Says K
  f_InvalidSize_init : d_InvalidSize_init.Says K
  f_InvalidRow_init : d_InvalidRow_init.Says K
  f_InvalidPair_init : d_InvalidPair_init.Says K
  f_Ring_init : d_Ring_init.Says K
  f_InvalidStep_init : d_InvalidStep_init.Says K
  f_NameTaken_init : d_NameTaken_init.Says K
  f_UnknownName_init : d_UnknownName_init.Says K
  f_NothingToUndo_init : d_NothingToUndo_init.Says K
/-! ### the facts as lists -/
def fs0 : List (PySem.W.Frag → Bool) := [
  (fun K => (Fa.glo "is_integer").ok K),
  (fun K => (Fa.glo "is_row").ok K),
  (fun K => (Fa.glo "need_size").ok K),
  (fun K => (Fa.glo "is_line").ok K),
  (fun K => (Fa.glo "is_pair").ok K),
  (fun K => (Fa.glo "closed").ok K),
  (fun K => (Fa.glo "is_step").ok K),
  (fun K => (Fa.glo "is_test").ok K),
  (fun K => (Fa.glo "is_name").ok K),
  (fun K => (Fa.glo "kept_tests").ok K),
  (fun K => (Fa.glo "kept_thing").ok K),
  (fun K => (Fa.glo "_law_cell").ok K),
  (fun K => (Fa.glo "_law_box").ok K),
  (fun K => (Fa.glo "_law_take").ok K),
  (fun K => (Fa.glo "_law_mixed").ok K),
  (fun K => (Fa.glo "_law_pairs").ok K),
  (fun K => (Fa.glo "_law_closed").ok K),
  (fun K => (Fa.glo "_law_steps").ok K),
  (fun K => (Fa.glo "_law_tests").ok K),
  (fun K => (Fa.glo "_law_thing").ok K),
  (fun K => (Fa.glo "_law_made").ok K),
  (fun K => (Fa.glo "_law_name").ok K),
  (fun K => (Fa.glo "_law_item").ok K),
  (fun K => (Fa.glo "_law_deed").ok K),
  (fun K => (Fa.glo "_law_is_couple").ok K)]
def fs1 : List (PySem.W.Frag → Bool) := [
  (fun K => (Fa.glo "_law_longer").ok K),
  (fun K => (Fa.glo "_law_changed").ok K),
  (fun K => (Fa.glo "_law_spoil").ok K),
  (fun K => (Fa.glo "_law_done").ok K),
  (fun K => (Fa.glo "_law_told").ok K),
  (fun K => (Fa.glo "_law_step").ok K),
  (fun K => (Fa.glo "_law_look").ok K),
  (fun K => (Fa.glo "_law_deeds_within").ok K),
  (fun K => (Fa.glo "_law_ended").ok K),
  (fun K => (Fa.glo "_law_tried").ok K),
  (fun K => (Fa.glo "_law_tried_right").ok K),
  (fun K => (Fa.glo "law").ok K),
  (fun K => (Fa.glo "Order").ok K),
  (fun K => (Fa.glo "Network").ok K),
  (fun K => (Fa.glo "Trial").ok K),
  (fun K => (Fa.glo "Bench").ok K),
  (fun K => (Fa.glo "SorterError").ok K),
  (fun K => (Fa.glo "InvalidSize").ok K),
  (fun K => (Fa.glo "InvalidRow").ok K),
  (fun K => (Fa.glo "InvalidPair").ok K),
  (fun K => (Fa.glo "Ring").ok K),
  (fun K => (Fa.glo "InvalidStep").ok K),
  (fun K => (Fa.glo "NameTaken").ok K),
  (fun K => (Fa.glo "UnknownName").ok K),
  (fun K => (Fa.glo "NothingToUndo").ok K)]
def fs2 : List (PySem.W.Frag → Bool) := [
  (fun K => (Fa.int "MOST_LINES" 60).ok K),
  (fun K => (Fa.int "LONGEST_NAME" 8).ok K),
  (fun K => (Fa.int "MOST_TESTS" 100).ok K),
  (fun K => (Fa.str "LETTERS" "abcdefghijklmnopqrstuvwxyz").ok K),
  (fun K => (Fa.str "NETWORK" "network").ok K),
  (fun K => (Fa.str "ORDER" "order").ok K),
  (fun K => (Fa.str "TESTS" "tests").ok K),
  (fun K => (Fa.free "isinstance").ok K),
  (fun K => (Fa.free "int").ok K),
  (fun K => (Fa.free "bool").ok K),
  (fun K => (Fa.free "len").ok K),
  (fun K => (Fa.free "all").ok K),
  (fun K => (Fa.free "range").ok K),
  (fun K => (Fa.free "set").ok K),
  (fun K => (Fa.free "tuple").ok K),
  (fun K => (Fa.free "sorted").ok K),
  (fun K => (Fa.free "list").ok K),
  (fun K => (Fa.free "str").ok K),
  (fun K => (Fa.free "dict").ok K),
  (fun K => (Fa.free "repr").ok K),
  (fun K => (Fa.free "max").ok K),
  (fun K => (Fa.free "min").ok K),
  (fun K => (Fa.free "iter").ok K),
  (fun K => (Fa.free "KeyError").ok K),
  (fun K => (Fa.free "ValueError").ok K)]
def fs3 : List (PySem.W.Frag → Bool) := [
  (fun K => insB K "Order"),
  (fun K => (Fa.mkr "Order").ok K),
  (fun K => (Fa.keep "Order").ok K),
  (fun K => insB K "Network"),
  (fun K => (Fa.mkr "Network").ok K),
  (fun K => (Fa.keep "Network").ok K),
  (fun K => insB K "Trial"),
  (fun K => (Fa.mkr "Trial").ok K),
  (fun K => (Fa.keep "Trial").ok K),
  (fun K => insB K "Bench"),
  (fun K => (Fa.mkr "Bench").ok K),
  (fun K => (Fa.keep "Bench").ok K),
  (fun K => (Fa.noat "Order" "own_size").ok K),
  (fun K => (Fa.noat "Order" "own_pairs").ok K),
  (fun K => (Fa.noat "Network" "own_size").ok K),
  (fun K => (Fa.noat "Network" "own_steps").ok K),
  (fun K => (Fa.noat "Trial" "held_bench").ok K),
  (fun K => (Fa.noat "Trial" "kept_things").ok K),
  (fun K => (Fa.noat "Trial" "kept_past").ok K),
  (fun K => (Fa.noat "Bench" "own_size").ok K),
  (fun K => (Fa.noat "Bench" "things").ok K),
  (fun K => (Fa.noat "Bench" "past").ok K),
  (fun K => propB K "Order" "size"),
  (fun K => (Fa.meth "Order" "__len__").ok K),
  (fun K => (Fa.meth "Order" "__iter__").ok K)]
def fs4 : List (PySem.W.Frag → Bool) := [
  (fun K => (Fa.meth "Order" "__eq__").ok K),
  (fun K => propB K "Network" "size"),
  (fun K => (Fa.meth "Network" "__len__").ok K),
  (fun K => (Fa.meth "Network" "__iter__").ok K),
  (fun K => (Fa.meth "Network" "__eq__").ok K),
  (fun K => (Fa.meth "Trial" "__enter__").ok K),
  (fun K => (Fa.meth "Trial" "__exit__").ok K),
  (fun K => propB K "Bench" "size"),
  (fun K => propB K "Bench" "deeds"),
  (fun K => (Fa.meth "Bench" "__len__").ok K),
  (fun K => (Fa.meth "Bench" "__contains__").ok K),
  (fun K => (Fa.meth "Bench" "__getitem__").ok K),
  (fun K => (Fa.meth "Bench" "thing_of").ok K),
  (fun K => (Fa.meth "Bench" "names").ok K),
  (fun K => (Fa.meth "Bench" "kind").ok K),
  (fun K => (Fa.meth "Bench" "change").ok K),
  (fun K => (Fa.meth "Bench" "check_new_name").ok K),
  (fun K => (Fa.meth "Bench" "put").ok K),
  (fun K => (Fa.meth "Bench" "add").ok K),
  (fun K => (Fa.meth "Bench" "drop").ok K),
  (fun K => (Fa.meth "Bench" "rename").ok K),
  (fun K => (Fa.meth "Bench" "undo").ok K),
  (fun K => (Fa.meth "Bench" "trial").ok K),
  (fun K => (Fa.meth "Bench" "tried").ok K),
  (fun K => oexB K (ga K "InvalidSize"))]
def fs5 : List (PySem.W.Frag → Bool) := [
  (fun K => (Fa.meth "InvalidSize" "__init__").ok K),
  (fun K => (Fa.noat "InvalidSize" "value").ok K),
  (fun K => eqO (PySem.W.findIn K (.ref (ga K "InvalidSize")) "__getattribute__") (some (some (.builtin "BaseException.__getattribute__")))),
  (fun K => eqO (PySem.W.findIn K (.ref (ga K "InvalidSize")) "__getattr__") (some none)),
  (fun K => PySem.W.hasDictIn K (ga K "InvalidSize")),
  (fun K => oexB K (ga K "InvalidRow")),
  (fun K => (Fa.meth "InvalidRow" "__init__").ok K),
  (fun K => (Fa.noat "InvalidRow" "value").ok K),
  (fun K => eqO (PySem.W.findIn K (.ref (ga K "InvalidRow")) "__getattribute__") (some (some (.builtin "BaseException.__getattribute__")))),
  (fun K => eqO (PySem.W.findIn K (.ref (ga K "InvalidRow")) "__getattr__") (some none)),
  (fun K => PySem.W.hasDictIn K (ga K "InvalidRow")),
  (fun K => oexB K (ga K "InvalidPair")),
  (fun K => (Fa.meth "InvalidPair" "__init__").ok K),
  (fun K => (Fa.noat "InvalidPair" "value").ok K),
  (fun K => eqO (PySem.W.findIn K (.ref (ga K "InvalidPair")) "__getattribute__") (some (some (.builtin "BaseException.__getattribute__")))),
  (fun K => eqO (PySem.W.findIn K (.ref (ga K "InvalidPair")) "__getattr__") (some none)),
  (fun K => PySem.W.hasDictIn K (ga K "InvalidPair")),
  (fun K => oexB K (ga K "Ring")),
  (fun K => (Fa.meth "Ring" "__init__").ok K),
  (fun K => (Fa.noat "Ring" "lines").ok K),
  (fun K => eqO (PySem.W.findIn K (.ref (ga K "Ring")) "__getattribute__") (some (some (.builtin "BaseException.__getattribute__")))),
  (fun K => eqO (PySem.W.findIn K (.ref (ga K "Ring")) "__getattr__") (some none)),
  (fun K => PySem.W.hasDictIn K (ga K "Ring")),
  (fun K => oexB K (ga K "InvalidStep")),
  (fun K => (Fa.meth "InvalidStep" "__init__").ok K)]
def fs6 : List (PySem.W.Frag → Bool) := [
  (fun K => (Fa.noat "InvalidStep" "value").ok K),
  (fun K => eqO (PySem.W.findIn K (.ref (ga K "InvalidStep")) "__getattribute__") (some (some (.builtin "BaseException.__getattribute__")))),
  (fun K => eqO (PySem.W.findIn K (.ref (ga K "InvalidStep")) "__getattr__") (some none)),
  (fun K => PySem.W.hasDictIn K (ga K "InvalidStep")),
  (fun K => oexB K (ga K "NameTaken")),
  (fun K => (Fa.meth "NameTaken" "__init__").ok K),
  (fun K => (Fa.noat "NameTaken" "name").ok K),
  (fun K => eqO (PySem.W.findIn K (.ref (ga K "NameTaken")) "__getattribute__") (some (some (.builtin "BaseException.__getattribute__")))),
  (fun K => eqO (PySem.W.findIn K (.ref (ga K "NameTaken")) "__getattr__") (some none)),
  (fun K => PySem.W.hasDictIn K (ga K "NameTaken")),
  (fun K => oexB K (ga K "UnknownName")),
  (fun K => (Fa.meth "UnknownName" "__init__").ok K),
  (fun K => (Fa.noat "UnknownName" "name").ok K),
  (fun K => eqO (PySem.W.findIn K (.ref (ga K "UnknownName")) "__getattribute__") (some (some (.builtin "BaseException.__getattribute__")))),
  (fun K => eqO (PySem.W.findIn K (.ref (ga K "UnknownName")) "__getattr__") (some none)),
  (fun K => PySem.W.hasDictIn K (ga K "UnknownName")),
  (fun K => oexB K (ga K "NothingToUndo")),
  (fun K => (Fa.meth "NothingToUndo" "__init__").ok K),
  (fun K => eqO (PySem.W.findIn K (.ref (ga K "NothingToUndo")) "__getattribute__") (some (some (.builtin "BaseException.__getattribute__")))),
  (fun K => eqO (PySem.W.findIn K (.ref (ga K "NothingToUndo")) "__getattr__") (some none)),
  (fun K => PySem.W.hasDictIn K (ga K "NothingToUndo")),
  (fun K => (Fa.exm "NameTaken" "NameTaken" true).ok K),
  (fun K => (Fa.exm "UnknownName" "NameTaken" false).ok K),
  (fun K => (Fa.exm "UnknownName" "UnknownName" true).ok K),
  (fun K => (Fa.exm "InvalidStep" "NameTaken" false).ok K)]
def fs7 : List (PySem.W.Frag → Bool) := [
  (fun K => (Fa.exm "InvalidStep" "UnknownName" false).ok K),
  (fun K => (Fa.exm "InvalidStep" "InvalidStep" true).ok K),
  (fun K => (Fa.exm "InvalidPair" "NameTaken" false).ok K),
  (fun K => (Fa.exm "InvalidPair" "UnknownName" false).ok K),
  (fun K => (Fa.exm "InvalidPair" "InvalidStep" false).ok K),
  (fun K => (Fa.exm "InvalidPair" "InvalidPair" true).ok K),
  (fun K => (Fa.exm "InvalidRow" "NameTaken" false).ok K),
  (fun K => (Fa.exm "InvalidRow" "UnknownName" false).ok K),
  (fun K => (Fa.exm "InvalidRow" "InvalidStep" false).ok K),
  (fun K => (Fa.exm "InvalidRow" "InvalidPair" false).ok K),
  (fun K => (Fa.exm "InvalidRow" "InvalidRow" true).ok K),
  (fun K => (Fa.exm "Ring" "NameTaken" false).ok K),
  (fun K => (Fa.exm "Ring" "UnknownName" false).ok K),
  (fun K => (Fa.exm "Ring" "InvalidStep" false).ok K),
  (fun K => (Fa.exm "Ring" "InvalidPair" false).ok K),
  (fun K => (Fa.exm "Ring" "InvalidRow" false).ok K),
  (fun K => (Fa.exm "Ring" "Ring" true).ok K),
  (fun K => (Fa.exm "NothingToUndo" "NameTaken" false).ok K),
  (fun K => (Fa.exm "NothingToUndo" "UnknownName" false).ok K),
  (fun K => (Fa.exm "NothingToUndo" "InvalidStep" false).ok K),
  (fun K => (Fa.exm "NothingToUndo" "InvalidPair" false).ok K),
  (fun K => (Fa.exm "NothingToUndo" "InvalidRow" false).ok K),
  (fun K => (Fa.exm "NothingToUndo" "Ring" false).ok K),
  (fun K => (Fa.exm "NothingToUndo" "NothingToUndo" true).ok K),
  (fun K => decide (PySem.W.exmOne K (.type "KeyError") (.type "KeyError") = some true))]
def fs8 : List (PySem.W.Frag → Bool) := [
  (fun K => decide (PySem.W.exmOne K (.ref (ga K "UnknownName")) (.type "KeyError") = some false)),
  (fun K => decide (PySem.W.kitOne K (.type "list") (.ref (ga K "Order")) = some false)),
  (fun K => decide (PySem.W.kitOne K (.type "list") (.ref (ga K "Network")) = some false)),
  (fun K => decide (PySem.W.kitOne K (.type "tuple") (.ref (ga K "Order")) = some false)),
  (fun K => decide (PySem.W.kitOne K (.type "tuple") (.ref (ga K "Network")) = some false)),
  (fun K => decide (PySem.W.kitOne K (.type "dict") (.ref (ga K "Order")) = some false)),
  (fun K => decide (PySem.W.kitOne K (.type "dict") (.ref (ga K "Network")) = some false)),
  (fun K => decide (PySem.W.kitOne K (.type "int") (.ref (ga K "Order")) = some false)),
  (fun K => decide (PySem.W.kitOne K (.type "int") (.ref (ga K "Network")) = some false)),
  (fun K => decide (PySem.W.kitOne K (.type "str") (.ref (ga K "Order")) = some false)),
  (fun K => decide (PySem.W.kitOne K (.type "str") (.ref (ga K "Network")) = some false)),
  (fun K => decide (PySem.W.kitOne K (.type "bool") (.ref (ga K "Order")) = some false)),
  (fun K => decide (PySem.W.kitOne K (.type "bool") (.ref (ga K "Network")) = some false)),
  (fun K => decide (PySem.W.kitOne K (.type "NoneType") (.ref (ga K "Order")) = some false)),
  (fun K => decide (PySem.W.kitOne K (.type "NoneType") (.ref (ga K "Network")) = some false)),
  (fun K => decide (PySem.W.kitOne K (.ref (ga K "Order")) (.type "list") = some false)),
  (fun K => decide (PySem.W.kitOne K (.ref (ga K "Order")) (.type "tuple") = some false)),
  (fun K => decide (PySem.W.kitOne K (.ref (ga K "Order")) (.ref (ga K "Order")) = some true)),
  (fun K => decide (PySem.W.kitOne K (.ref (ga K "Order")) (.ref (ga K "Network")) = some false)),
  (fun K => decide (PySem.W.kitOne K (.ref (ga K "Network")) (.type "list") = some false)),
  (fun K => decide (PySem.W.kitOne K (.ref (ga K "Network")) (.type "tuple") = some false)),
  (fun K => decide (PySem.W.kitOne K (.ref (ga K "Network")) (.ref (ga K "Order")) = some false)),
  (fun K => decide (PySem.W.kitOne K (.ref (ga K "Network")) (.ref (ga K "Network")) = some true)),
  (fun K => decide (PySem.W.subIn K (.ref (ga K "NothingToUndo")) (.type "ValueError") = some true)),
  (fun K => eqO (PySem.W.findIn K (.ref (ga K "NothingToUndo")) "__class__") (some (some (.builtin "object.__class__"))))]
def fs9 : List (PySem.W.Frag → Bool) := [
  (fun K => decide (PySem.W.mroIn K (ga K "NothingToUndo") (.type "object") = some true)),
  (fun K => decide (PySem.W.kitOne K (.ref (ga K "NothingToUndo")) (.type "ValueError") = some true)),
  (fun K => eqO (PySem.W.findIn K (.ref (ga K "Order")) "__ne__") (some (some (.builtin "object.__ne__")))),
  (fun K => eqO (PySem.W.findIn K (.ref (ga K "Network")) "__ne__") (some (some (.builtin "object.__ne__")))),
  (fun K => PySem.W.noSeq K (ga K "Bench")),
  (fun K => PySem.W.fnIn K (ma K (ga K "Bench") "__getitem__")),
  (fun K => (match PySem.W.findCls K (.ref (ga K "SorterError")) (.type "type") "__init__" with | some (.val (.builtin n)) => decide (n = "ValueError.__init__") | _ => false)),
  (fun K => PySem.W.readsIn K (ga K "SorterError") (.type "type")),
  (fun K => eqO (PySem.W.specialIn K (.ref (ga K "SorterError")) "__getattribute__") (some (some (.builtin "type.__getattribute__"))))]
def ds0 : List DP := [d_is_integer, d_is_row, d_need_size, d_is_line, d_is_pair, d_closed, d_is_step, d_is_test, d_is_name, d_kept_tests, d_kept_thing, d_law_cell, d_law_box, d_law_take, d_law_mixed, d_law_pairs, d_law_closed, d_law_steps, d_law_tests, d_law_thing]
def ds1 : List DP := [d_law_made, d_law_name, d_law_item, d_law_deed, d_law_is_couple, d_law_longer, d_law_changed, d_law_spoil, d_law_done, d_law_told, d_law_step, d_law_look, d_law_deeds_within, d_law_ended, d_law_tried, d_law_tried_right, d_law, d_Order_init, d_Order_size, d_Order_len]
def ds2 : List DP := [d_Order_iter, d_Order_eq, d_Network_init, d_Network_size, d_Network_len, d_Network_iter, d_Network_eq, d_Trial_init, d_Trial_enter, d_Trial_exit, d_Bench_init, d_Bench_size, d_Bench_deeds, d_Bench_len, d_Bench_contains, d_Bench_getitem, d_Bench_thing_of, d_Bench_names, d_Bench_kind, d_Bench_change]
def ds3 : List DP := [d_Bench_check_new_name, d_Bench_put, d_Bench_add, d_Bench_drop, d_Bench_rename, d_Bench_undo, d_Bench_trial, d_Bench_tried, d_InvalidSize_init, d_InvalidRow_init, d_InvalidPair_init, d_Ring_init, d_InvalidStep_init, d_NameTaken_init, d_UnknownName_init, d_NothingToUndo_init]
def fsAll : List (List (PySem.W.Frag → Bool)) := [fs0, fs1, fs2, fs3, fs4, fs5, fs6, fs7, fs8, fs9]
def dsAll : List (List DP) := [ds0, ds1, ds2, ds3]
/-! ### the Hook -/
/-- where the pieces stand, off the heap -/
def dictG (g : Addr → Option Obj) (a : Addr) (x : Str) : Addr := match g a with
  | some ⟨_, _, .dict es _, _⟩ => (match es.toList.find? (·.key.isStr x) with
    | some e => (match e.val with
      | .ref b => b
      | _ => 0)
    | none => 0)
  | _ => 0
def nsG (g : Addr → Option Obj) (C : Addr) : Addr := match g C with
  | some ⟨_, _, .cls cd, _⟩ => cd.ns
  | _ => 0
def getterG (g : Addr → Option Obj) (p : Addr) : Addr := match g p with
  | some ⟨_, _, .fields vs, _⟩ => (match vs.toList with
    | .ref f :: _ => f
    | _ => 0)
  | _ => 0
/-- a def, its code, its defaults -/
def fnG (g : Addr → Option Obj) (f : Addr) : List Addr := f :: match g f with
  | some ⟨_, _, .func fd, _⟩ => refV fd.code ++ refV fd.defaults
  | _ => []
/-- .. what its defaults are -/
def dfG (g : Addr → Option Obj) (f : Addr) : List Addr := match g f with
  | some ⟨_, _, .func fd, _⟩ => (match fd.defaults with
    | .ref T => (match g T with
      | some ⟨_, _, .seq its _, _⟩ => its.toList.flatMap refV
      | _ => [])
    | _ => [])
  | _ => []
def clsNames : List Str := ["Order", "Network", "Trial", "Bench", "SorterError", "InvalidSize", "InvalidRow", "InvalidPair", "Ring", "InvalidStep", "NameTaken", "UnknownName", "NothingToUndo"]
def fnNames1 : List Str := ["is_integer", "is_row", "need_size", "is_line", "is_pair", "closed", "is_step", "is_test", "is_name", "kept_tests", "kept_thing", "_law_cell", "_law_box", "_law_take", "_law_mixed", "_law_pairs", "_law_closed", "_law_steps", "_law_tests", "_law_thing"]
def fnNames2 : List Str := ["_law_made", "_law_name", "_law_item", "_law_deed", "_law_is_couple", "_law_longer", "_law_changed", "_law_spoil", "_law_done", "_law_told", "_law_step", "_law_look", "_law_deeds_within", "_law_ended", "_law_tried", "_law_tried_right", "law"]
def fnNames : List Str := fnNames1 ++ fnNames2
def meths : List (Str × List Str) := [("Order", ["__init__", "__len__", "__iter__", "__eq__"]), ("Network", ["__init__", "__len__", "__iter__", "__eq__"]), ("Trial", ["__init__", "__enter__", "__exit__"]), ("Bench", ["__init__", "__len__", "__contains__", "__getitem__", "thing_of", "names", "kind", "change", "check_new_name", "put", "add", "drop", "rename", "undo", "trial", "tried"]), ("InvalidSize", ["__init__"]), ("InvalidRow", ["__init__"]), ("InvalidPair", ["__init__"]), ("Ring", ["__init__"]), ("InvalidStep", ["__init__"]), ("NameTaken", ["__init__"]), ("UnknownName", ["__init__"]), ("NothingToUndo", ["__init__"])]
def propNames : List (Str × List Str) := [("Order", ["size"]), ("Network", ["size"]), ("Bench", ["size", "deeds"])]
def asK (g : Addr → Option Obj) : List Addr := mainGlobals :: cStatics :: (clsNames.flatMap fun x => let C := dictG g mainGlobals x; [C, nsG g C]) ++
  ((meths.flatMap fun q => let N := nsG g (dictG g mainGlobals q.1); q.2.flatMap fun m => let f := dictG g N m; fnG g f ++ dfG g f) ++
  ((propNames.flatMap fun q => let N := nsG g (dictG g mainGlobals q.1); q.2.flatMap fun m => let p := dictG g N m; p :: fnG g (getterG g p)) ++
  (fnNames.flatMap fun x => fnG g (dictG g mainGlobals x))))
abbrev AlK : Type := Bool × List (List DPv)
/-- the defs that make lambdas -/
def lamC (K : PySem.W.Frag) : Addr := codeOf K ("_law_tried", none)
def lamT (K : PySem.W.Frag) : Addr := tabOf K (lamC K)
def obsK (g : Addr → Option Obj) (K : PySem.W.Frag) : AlK :=
  ((fsAll.all fun l => l.all fun f => f K) && ((dsAll.all fun l => l.all fun d => d.ok K) && (PySem.W.codeHdIn K (lamC K) (lamT K) && (match g (lamT K) with
    | some o => emptyTab o
    | none => false))), dsAll.map fun l => l.map fun d => seenD K (d.at_ K))
def valK : AlK := (true, dsAll.map fun l => l.map DP.val)
structure SaysK (h : Heap) (K : PySem.W.Frag) : Prop where
  facts : ∀ l ∈ fsAll, ∀ f ∈ l, f K = true
  defs : ∀ l ∈ dsAll, ∀ d ∈ l, d.Says K
  hd : PySem.W.codeHdIn K (lamC K) (lamT K) = true
  out : K.lookup (lamT K) = none
  empty : h.get? (lamT K) = some { cls := .none, data := .fields #[] }
theorem map2 {l : List (List DP)} {f g : DP → DPv} (h : (l.map fun x => x.map f) = l.map fun x => x.map g) : ∀ x ∈ l, ∀ d ∈ x, f d = g d := by
  induction l with
  | nil => intro x hx; cases hx
  | cons a r ih =>
    have h' : a.map f :: (r.map fun x => x.map f) = a.map g :: r.map fun x => x.map g := h
    injection h' with h1 h2
    intro x hx d hd
    rcases List.mem_cons.mp hx with e | hx
    · subst e
      exact List.map_inj_left.mp h1 d hd
    · exact ih h2 x hx d hd
theorem saysK_of {h : Heap} (e : obsK h.get? (frT h.get? (asK h.get?)) = valK) : SaysK h (frT h.get? (asK h.get?)) := by
  have e1 := congrArg (fun z : AlK => z.1) e
  have e2 := congrArg (fun z : AlK => z.2) e
  obtain ⟨h1, h2⟩ := ba e1
  obtain ⟨h3, h4⟩ := ba h2
  obtain ⟨h5, h6⟩ := ba h4
  have key : ∃ o, h.get? (lamT (frT h.get? (asK h.get?))) = some o ∧ emptyTab o = true := by
    cases q : h.get? (lamT (frT h.get? (asK h.get?))) with
    | none =>
      rw [q] at h6
      cases h6
    | some o =>
      rw [q] at h6
      exact ⟨o, rfl, h6⟩
  obtain ⟨o, q, z⟩ := key
  exact ⟨fun l hl f hf => List.all_eq_true.mp (List.all_eq_true.mp h1 l hl) f hf, fun l hl d hd => DP.funD (map2 e2 l hl d hd) (List.all_eq_true.mp (List.all_eq_true.mp h3 l hl) d hd), h5, frT_none q z, by rw [q, emptyTab_eq z]⟩
def hookK : PySem.W.Hook where
  α := AlK
  obs := fun s => obsK s.heap.get? (frT s.heap.get? (asK s.heap.get?))
  val := fun _ => valK
  says := fun _ h => ∃ K : PySem.W.Frag, K.In h ∧ SaysK h K
  of := fun _ _ e => ⟨_, frT_in, saysK_of e⟩
  keeps := fun _ _ _ ⟨K, hK, c⟩ k => ⟨K, PySem.W.Frag.In.keeps hK k, ⟨c.facts, c.defs, c.hd, c.out, k _ _ c.empty⟩⟩
theorem hookK_eq {g : Addr → Option Obj} {s : Shared} (h : ∀ a, g a = s.heap.get? a) : obsK g (frT g (asK g)) = hookK.obs s := by
  have e : g = s.heap.get? := funext h
  rw [e] <;> rfl
theorem all_nth {l : List (PySem.W.Frag → Bool)} {K : PySem.W.Frag} (h : ∀ f ∈ l, f K = true) (i : Nat) {f : PySem.W.Frag → Bool} (e : l[i]? = some f) : f K = true := h f (List.mem_of_getElem? e)
theorem def_nth {l : List DP} {K : PySem.W.Frag} (h : ∀ d ∈ l, d.Says K) (i : Nat) {d : DP} (e : l[i]? = some d) : d.Says K := h d (List.mem_of_getElem? e)
theorem txt_of {K : PySem.W.Frag} {h : Heap} {mg : Str → Option Value} (X : K.In h) (G : h.Ns mainGlobals mg) (c : SaysK h K) : Txt K mg := by
  have a0 := c.facts fs0 (List.mem_of_getElem? (i := 0) rfl)
  have a1 := c.facts fs1 (List.mem_of_getElem? (i := 1) rfl)
  have a2 := c.facts fs2 (List.mem_of_getElem? (i := 2) rfl)
  have a3 := c.facts fs3 (List.mem_of_getElem? (i := 3) rfl)
  have a4 := c.facts fs4 (List.mem_of_getElem? (i := 4) rfl)
  have a5 := c.facts fs5 (List.mem_of_getElem? (i := 5) rfl)
  have a6 := c.facts fs6 (List.mem_of_getElem? (i := 6) rfl)
  have a7 := c.facts fs7 (List.mem_of_getElem? (i := 7) rfl)
  have a8 := c.facts fs8 (List.mem_of_getElem? (i := 8) rfl)
  have a9 := c.facts fs9 (List.mem_of_getElem? (i := 9) rfl)
  have b0 := c.defs ds0 (List.mem_of_getElem? (i := 0) rfl)
  have b1 := c.defs ds1 (List.mem_of_getElem? (i := 1) rfl)
  have b2 := c.defs ds2 (List.mem_of_getElem? (i := 2) rfl)
  have b3 := c.defs ds3 (List.mem_of_getElem? (i := 3) rfl)
  exact {
    g_is_integer := (let h := all_nth a0 0 rfl; glo_ok X G h)
    g_is_row := (let h := all_nth a0 1 rfl; glo_ok X G h)
    g_need_size := (let h := all_nth a0 2 rfl; glo_ok X G h)
    g_is_line := (let h := all_nth a0 3 rfl; glo_ok X G h)
    g_is_pair := (let h := all_nth a0 4 rfl; glo_ok X G h)
    g_closed := (let h := all_nth a0 5 rfl; glo_ok X G h)
    g_is_step := (let h := all_nth a0 6 rfl; glo_ok X G h)
    g_is_test := (let h := all_nth a0 7 rfl; glo_ok X G h)
    g_is_name := (let h := all_nth a0 8 rfl; glo_ok X G h)
    g_kept_tests := (let h := all_nth a0 9 rfl; glo_ok X G h)
    g_kept_thing := (let h := all_nth a0 10 rfl; glo_ok X G h)
    g_law_cell := (let h := all_nth a0 11 rfl; glo_ok X G h)
    g_law_box := (let h := all_nth a0 12 rfl; glo_ok X G h)
    g_law_take := (let h := all_nth a0 13 rfl; glo_ok X G h)
    g_law_mixed := (let h := all_nth a0 14 rfl; glo_ok X G h)
    g_law_pairs := (let h := all_nth a0 15 rfl; glo_ok X G h)
    g_law_closed := (let h := all_nth a0 16 rfl; glo_ok X G h)
    g_law_steps := (let h := all_nth a0 17 rfl; glo_ok X G h)
    g_law_tests := (let h := all_nth a0 18 rfl; glo_ok X G h)
    g_law_thing := (let h := all_nth a0 19 rfl; glo_ok X G h)
    g_law_made := (let h := all_nth a0 20 rfl; glo_ok X G h)
    g_law_name := (let h := all_nth a0 21 rfl; glo_ok X G h)
    g_law_item := (let h := all_nth a0 22 rfl; glo_ok X G h)
    g_law_deed := (let h := all_nth a0 23 rfl; glo_ok X G h)
    g_law_is_couple := (let h := all_nth a0 24 rfl; glo_ok X G h)
    g_law_longer := (let h := all_nth a1 0 rfl; glo_ok X G h)
    g_law_changed := (let h := all_nth a1 1 rfl; glo_ok X G h)
    g_law_spoil := (let h := all_nth a1 2 rfl; glo_ok X G h)
    g_law_done := (let h := all_nth a1 3 rfl; glo_ok X G h)
    g_law_told := (let h := all_nth a1 4 rfl; glo_ok X G h)
    g_law_step := (let h := all_nth a1 5 rfl; glo_ok X G h)
    g_law_look := (let h := all_nth a1 6 rfl; glo_ok X G h)
    g_law_deeds_within := (let h := all_nth a1 7 rfl; glo_ok X G h)
    g_law_ended := (let h := all_nth a1 8 rfl; glo_ok X G h)
    g_law_tried := (let h := all_nth a1 9 rfl; glo_ok X G h)
    g_law_tried_right := (let h := all_nth a1 10 rfl; glo_ok X G h)
    g_law := (let h := all_nth a1 11 rfl; glo_ok X G h)
    g_Order := (let h := all_nth a1 12 rfl; glo_ok X G h)
    g_Network := (let h := all_nth a1 13 rfl; glo_ok X G h)
    g_Trial := (let h := all_nth a1 14 rfl; glo_ok X G h)
    g_Bench := (let h := all_nth a1 15 rfl; glo_ok X G h)
    g_SorterError := (let h := all_nth a1 16 rfl; glo_ok X G h)
    g_InvalidSize := (let h := all_nth a1 17 rfl; glo_ok X G h)
    g_InvalidRow := (let h := all_nth a1 18 rfl; glo_ok X G h)
    g_InvalidPair := (let h := all_nth a1 19 rfl; glo_ok X G h)
    g_Ring := (let h := all_nth a1 20 rfl; glo_ok X G h)
    g_InvalidStep := (let h := all_nth a1 21 rfl; glo_ok X G h)
    g_NameTaken := (let h := all_nth a1 22 rfl; glo_ok X G h)
    g_UnknownName := (let h := all_nth a1 23 rfl; glo_ok X G h)
    g_NothingToUndo := (let h := all_nth a1 24 rfl; glo_ok X G h)
    i_MOST_LINES := (let h := all_nth a2 0 rfl; int_ok X G h)
    i_LONGEST_NAME := (let h := all_nth a2 1 rfl; int_ok X G h)
    i_MOST_TESTS := (let h := all_nth a2 2 rfl; int_ok X G h)
    s_LETTERS := (let h := all_nth a2 3 rfl; str_ok X G h)
    s_NETWORK := (let h := all_nth a2 4 rfl; str_ok X G h)
    s_ORDER := (let h := all_nth a2 5 rfl; str_ok X G h)
    s_TESTS := (let h := all_nth a2 6 rfl; str_ok X G h)
    z_isinstance := (let h := all_nth a2 7 rfl; free_ok X G h)
    z_int := (let h := all_nth a2 8 rfl; free_ok X G h)
    z_bool := (let h := all_nth a2 9 rfl; free_ok X G h)
    z_len := (let h := all_nth a2 10 rfl; free_ok X G h)
    z_all := (let h := all_nth a2 11 rfl; free_ok X G h)
    z_range := (let h := all_nth a2 12 rfl; free_ok X G h)
    z_set := (let h := all_nth a2 13 rfl; free_ok X G h)
    z_tuple := (let h := all_nth a2 14 rfl; free_ok X G h)
    z_sorted := (let h := all_nth a2 15 rfl; free_ok X G h)
    z_list := (let h := all_nth a2 16 rfl; free_ok X G h)
    z_str := (let h := all_nth a2 17 rfl; free_ok X G h)
    z_dict := (let h := all_nth a2 18 rfl; free_ok X G h)
    z_repr := (let h := all_nth a2 19 rfl; free_ok X G h)
    z_max := (let h := all_nth a2 20 rfl; free_ok X G h)
    z_min := (let h := all_nth a2 21 rfl; free_ok X G h)
    z_iter := (let h := all_nth a2 22 rfl; free_ok X G h)
    z_KeyError := (let h := all_nth a2 23 rfl; free_ok X G h)
    z_ValueError := (let h := all_nth a2 24 rfl; free_ok X G h)
    ins_Order := (let h := all_nth a3 0 rfl; insB_ok h)
    mk_Order := (let h := all_nth a3 1 rfl; mkr_ok h)
    k_Order := (let h := all_nth a3 2 rfl; keep_ok h)
    ins_Network := (let h := all_nth a3 3 rfl; insB_ok h)
    mk_Network := (let h := all_nth a3 4 rfl; mkr_ok h)
    k_Network := (let h := all_nth a3 5 rfl; keep_ok h)
    ins_Trial := (let h := all_nth a3 6 rfl; insB_ok h)
    mk_Trial := (let h := all_nth a3 7 rfl; mkr_ok h)
    k_Trial := (let h := all_nth a3 8 rfl; keep_ok h)
    ins_Bench := (let h := all_nth a3 9 rfl; insB_ok h)
    mk_Bench := (let h := all_nth a3 10 rfl; mkr_ok h)
    k_Bench := (let h := all_nth a3 11 rfl; keep_ok h)
    n_Order_own_size := (let h := all_nth a3 12 rfl; noat_ok h)
    n_Order_own_pairs := (let h := all_nth a3 13 rfl; noat_ok h)
    n_Network_own_size := (let h := all_nth a3 14 rfl; noat_ok h)
    n_Network_own_steps := (let h := all_nth a3 15 rfl; noat_ok h)
    n_Trial_held_bench := (let h := all_nth a3 16 rfl; noat_ok h)
    n_Trial_kept_things := (let h := all_nth a3 17 rfl; noat_ok h)
    n_Trial_kept_past := (let h := all_nth a3 18 rfl; noat_ok h)
    n_Bench_own_size := (let h := all_nth a3 19 rfl; noat_ok h)
    n_Bench_things := (let h := all_nth a3 20 rfl; noat_ok h)
    n_Bench_past := (let h := all_nth a3 21 rfl; noat_ok h)
    p_Order_size := (let h := all_nth a3 22 rfl; propB_ok h)
    m_Order___len__ := (let h := all_nth a3 23 rfl; meth_ok h)
    m_Order___iter__ := (let h := all_nth a3 24 rfl; meth_ok h)
    m_Order___eq__ := (let h := all_nth a4 0 rfl; meth_ok h)
    p_Network_size := (let h := all_nth a4 1 rfl; propB_ok h)
    m_Network___len__ := (let h := all_nth a4 2 rfl; meth_ok h)
    m_Network___iter__ := (let h := all_nth a4 3 rfl; meth_ok h)
    m_Network___eq__ := (let h := all_nth a4 4 rfl; meth_ok h)
    m_Trial___enter__ := (let h := all_nth a4 5 rfl; meth_ok h)
    m_Trial___exit__ := (let h := all_nth a4 6 rfl; meth_ok h)
    p_Bench_size := (let h := all_nth a4 7 rfl; propB_ok h)
    p_Bench_deeds := (let h := all_nth a4 8 rfl; propB_ok h)
    m_Bench___len__ := (let h := all_nth a4 9 rfl; meth_ok h)
    m_Bench___contains__ := (let h := all_nth a4 10 rfl; meth_ok h)
    m_Bench___getitem__ := (let h := all_nth a4 11 rfl; meth_ok h)
    m_Bench_thing_of := (let h := all_nth a4 12 rfl; meth_ok h)
    m_Bench_names := (let h := all_nth a4 13 rfl; meth_ok h)
    m_Bench_kind := (let h := all_nth a4 14 rfl; meth_ok h)
    m_Bench_change := (let h := all_nth a4 15 rfl; meth_ok h)
    m_Bench_check_new_name := (let h := all_nth a4 16 rfl; meth_ok h)
    m_Bench_put := (let h := all_nth a4 17 rfl; meth_ok h)
    m_Bench_add := (let h := all_nth a4 18 rfl; meth_ok h)
    m_Bench_drop := (let h := all_nth a4 19 rfl; meth_ok h)
    m_Bench_rename := (let h := all_nth a4 20 rfl; meth_ok h)
    m_Bench_undo := (let h := all_nth a4 21 rfl; meth_ok h)
    m_Bench_trial := (let h := all_nth a4 22 rfl; meth_ok h)
    m_Bench_tried := (let h := all_nth a4 23 rfl; meth_ok h)
    x_InvalidSize := (let h := all_nth a4 24 rfl; oexB_ok h)
    xi_InvalidSize := (let h := all_nth a5 0 rfl; meth_ok h)
    xn_InvalidSize := (let h := all_nth a5 1 rfl; noat_ok h)
    xa_InvalidSize := (let h := all_nth a5 2 rfl; eqO_ok h)
    xb_InvalidSize := (let h := all_nth a5 3 rfl; eqO_ok h)
    xd_InvalidSize := (let h := all_nth a5 4 rfl; h)
    x_InvalidRow := (let h := all_nth a5 5 rfl; oexB_ok h)
    xi_InvalidRow := (let h := all_nth a5 6 rfl; meth_ok h)
    xn_InvalidRow := (let h := all_nth a5 7 rfl; noat_ok h)
    xa_InvalidRow := (let h := all_nth a5 8 rfl; eqO_ok h)
    xb_InvalidRow := (let h := all_nth a5 9 rfl; eqO_ok h)
    xd_InvalidRow := (let h := all_nth a5 10 rfl; h)
    x_InvalidPair := (let h := all_nth a5 11 rfl; oexB_ok h)
    xi_InvalidPair := (let h := all_nth a5 12 rfl; meth_ok h)
    xn_InvalidPair := (let h := all_nth a5 13 rfl; noat_ok h)
    xa_InvalidPair := (let h := all_nth a5 14 rfl; eqO_ok h)
    xb_InvalidPair := (let h := all_nth a5 15 rfl; eqO_ok h)
    xd_InvalidPair := (let h := all_nth a5 16 rfl; h)
    x_Ring := (let h := all_nth a5 17 rfl; oexB_ok h)
    xi_Ring := (let h := all_nth a5 18 rfl; meth_ok h)
    xn_Ring := (let h := all_nth a5 19 rfl; noat_ok h)
    xa_Ring := (let h := all_nth a5 20 rfl; eqO_ok h)
    xb_Ring := (let h := all_nth a5 21 rfl; eqO_ok h)
    xd_Ring := (let h := all_nth a5 22 rfl; h)
    x_InvalidStep := (let h := all_nth a5 23 rfl; oexB_ok h)
    xi_InvalidStep := (let h := all_nth a5 24 rfl; meth_ok h)
    xn_InvalidStep := (let h := all_nth a6 0 rfl; noat_ok h)
    xa_InvalidStep := (let h := all_nth a6 1 rfl; eqO_ok h)
    xb_InvalidStep := (let h := all_nth a6 2 rfl; eqO_ok h)
    xd_InvalidStep := (let h := all_nth a6 3 rfl; h)
    x_NameTaken := (let h := all_nth a6 4 rfl; oexB_ok h)
    xi_NameTaken := (let h := all_nth a6 5 rfl; meth_ok h)
    xn_NameTaken := (let h := all_nth a6 6 rfl; noat_ok h)
    xa_NameTaken := (let h := all_nth a6 7 rfl; eqO_ok h)
    xb_NameTaken := (let h := all_nth a6 8 rfl; eqO_ok h)
    xd_NameTaken := (let h := all_nth a6 9 rfl; h)
    x_UnknownName := (let h := all_nth a6 10 rfl; oexB_ok h)
    xi_UnknownName := (let h := all_nth a6 11 rfl; meth_ok h)
    xn_UnknownName := (let h := all_nth a6 12 rfl; noat_ok h)
    xa_UnknownName := (let h := all_nth a6 13 rfl; eqO_ok h)
    xb_UnknownName := (let h := all_nth a6 14 rfl; eqO_ok h)
    xd_UnknownName := (let h := all_nth a6 15 rfl; h)
    x_NothingToUndo := (let h := all_nth a6 16 rfl; oexB_ok h)
    xi_NothingToUndo := (let h := all_nth a6 17 rfl; meth_ok h)
    xa_NothingToUndo := (let h := all_nth a6 18 rfl; eqO_ok h)
    xb_NothingToUndo := (let h := all_nth a6 19 rfl; eqO_ok h)
    xd_NothingToUndo := (let h := all_nth a6 20 rfl; h)
    e_NameTaken_NameTaken := (let h := all_nth a6 21 rfl; exm_ok h)
    e_UnknownName_NameTaken := (let h := all_nth a6 22 rfl; exm_ok h)
    e_UnknownName_UnknownName := (let h := all_nth a6 23 rfl; exm_ok h)
    e_InvalidStep_NameTaken := (let h := all_nth a6 24 rfl; exm_ok h)
    e_InvalidStep_UnknownName := (let h := all_nth a7 0 rfl; exm_ok h)
    e_InvalidStep_InvalidStep := (let h := all_nth a7 1 rfl; exm_ok h)
    e_InvalidPair_NameTaken := (let h := all_nth a7 2 rfl; exm_ok h)
    e_InvalidPair_UnknownName := (let h := all_nth a7 3 rfl; exm_ok h)
    e_InvalidPair_InvalidStep := (let h := all_nth a7 4 rfl; exm_ok h)
    e_InvalidPair_InvalidPair := (let h := all_nth a7 5 rfl; exm_ok h)
    e_InvalidRow_NameTaken := (let h := all_nth a7 6 rfl; exm_ok h)
    e_InvalidRow_UnknownName := (let h := all_nth a7 7 rfl; exm_ok h)
    e_InvalidRow_InvalidStep := (let h := all_nth a7 8 rfl; exm_ok h)
    e_InvalidRow_InvalidPair := (let h := all_nth a7 9 rfl; exm_ok h)
    e_InvalidRow_InvalidRow := (let h := all_nth a7 10 rfl; exm_ok h)
    e_Ring_NameTaken := (let h := all_nth a7 11 rfl; exm_ok h)
    e_Ring_UnknownName := (let h := all_nth a7 12 rfl; exm_ok h)
    e_Ring_InvalidStep := (let h := all_nth a7 13 rfl; exm_ok h)
    e_Ring_InvalidPair := (let h := all_nth a7 14 rfl; exm_ok h)
    e_Ring_InvalidRow := (let h := all_nth a7 15 rfl; exm_ok h)
    e_Ring_Ring := (let h := all_nth a7 16 rfl; exm_ok h)
    e_NothingToUndo_NameTaken := (let h := all_nth a7 17 rfl; exm_ok h)
    e_NothingToUndo_UnknownName := (let h := all_nth a7 18 rfl; exm_ok h)
    e_NothingToUndo_InvalidStep := (let h := all_nth a7 19 rfl; exm_ok h)
    e_NothingToUndo_InvalidPair := (let h := all_nth a7 20 rfl; exm_ok h)
    e_NothingToUndo_InvalidRow := (let h := all_nth a7 21 rfl; exm_ok h)
    e_NothingToUndo_Ring := (let h := all_nth a7 22 rfl; exm_ok h)
    e_NothingToUndo_NothingToUndo := (let h := all_nth a7 23 rfl; exm_ok h)
    e_key_key := (let h := all_nth a7 24 rfl; of_decide_eq_true h)
    e_UnknownName_key := (let h := all_nth a8 0 rfl; of_decide_eq_true h)
    q_list_Order := (let h := all_nth a8 1 rfl; of_decide_eq_true h)
    q_list_Network := (let h := all_nth a8 2 rfl; of_decide_eq_true h)
    q_tuple_Order := (let h := all_nth a8 3 rfl; of_decide_eq_true h)
    q_tuple_Network := (let h := all_nth a8 4 rfl; of_decide_eq_true h)
    q_dict_Order := (let h := all_nth a8 5 rfl; of_decide_eq_true h)
    q_dict_Network := (let h := all_nth a8 6 rfl; of_decide_eq_true h)
    q_int_Order := (let h := all_nth a8 7 rfl; of_decide_eq_true h)
    q_int_Network := (let h := all_nth a8 8 rfl; of_decide_eq_true h)
    q_str_Order := (let h := all_nth a8 9 rfl; of_decide_eq_true h)
    q_str_Network := (let h := all_nth a8 10 rfl; of_decide_eq_true h)
    q_bool_Order := (let h := all_nth a8 11 rfl; of_decide_eq_true h)
    q_bool_Network := (let h := all_nth a8 12 rfl; of_decide_eq_true h)
    q_NoneType_Order := (let h := all_nth a8 13 rfl; of_decide_eq_true h)
    q_NoneType_Network := (let h := all_nth a8 14 rfl; of_decide_eq_true h)
    q_Order_list := (let h := all_nth a8 15 rfl; of_decide_eq_true h)
    q_Order_tuple := (let h := all_nth a8 16 rfl; of_decide_eq_true h)
    q_Order_Order := (let h := all_nth a8 17 rfl; of_decide_eq_true h)
    q_Order_Network := (let h := all_nth a8 18 rfl; of_decide_eq_true h)
    q_Network_list := (let h := all_nth a8 19 rfl; of_decide_eq_true h)
    q_Network_tuple := (let h := all_nth a8 20 rfl; of_decide_eq_true h)
    q_Network_Order := (let h := all_nth a8 21 rfl; of_decide_eq_true h)
    q_Network_Network := (let h := all_nth a8 22 rfl; of_decide_eq_true h)
    q_UnknownName_VE := (let h := all_nth a8 23 rfl; of_decide_eq_true h)
    xc_NothingToUndo := (let h := all_nth a8 24 rfl; eqO_ok h)
    xm_NothingToUndo := (let h := all_nth a9 0 rfl; of_decide_eq_true h)
    xk_NothingToUndo := (let h := all_nth a9 1 rfl; of_decide_eq_true h)
    ne_Order := (let h := all_nth a9 2 rfl; eqO_ok h)
    ne_Network := (let h := all_nth a9 3 rfl; eqO_ok h)
    sq_Bench := (let h := all_nth a9 4 rfl; h)
    fi_getitem := (let h := all_nth a9 5 rfl; h)
    vS := (let h := all_nth a9 6 rfl; vS_ok h)
    rS := (let h := all_nth a9 7 rfl; h)
    gS := (let h := all_nth a9 8 rfl; eqO_ok h)
    f_is_integer := def_nth b0 0 rfl
    f_is_row := def_nth b0 1 rfl
    f_need_size := def_nth b0 2 rfl
    f_is_line := def_nth b0 3 rfl
    f_is_pair := def_nth b0 4 rfl
    f_closed := def_nth b0 5 rfl
    f_is_step := def_nth b0 6 rfl
    f_is_test := def_nth b0 7 rfl
    f_is_name := def_nth b0 8 rfl
    f_kept_tests := def_nth b0 9 rfl
    f_kept_thing := def_nth b0 10 rfl
    f_law_cell := def_nth b0 11 rfl
    f_law_box := def_nth b0 12 rfl
    f_law_take := def_nth b0 13 rfl
    f_law_mixed := def_nth b0 14 rfl
    f_law_pairs := def_nth b0 15 rfl
    f_law_closed := def_nth b0 16 rfl
    f_law_steps := def_nth b0 17 rfl
    f_law_tests := def_nth b0 18 rfl
    f_law_thing := def_nth b0 19 rfl
    f_law_made := def_nth b1 0 rfl
    f_law_name := def_nth b1 1 rfl
    f_law_item := def_nth b1 2 rfl
    f_law_deed := def_nth b1 3 rfl
    f_law_is_couple := def_nth b1 4 rfl
    f_law_longer := def_nth b1 5 rfl
    f_law_changed := def_nth b1 6 rfl
    f_law_spoil := def_nth b1 7 rfl
    f_law_done := def_nth b1 8 rfl
    f_law_told := def_nth b1 9 rfl
    f_law_step := def_nth b1 10 rfl
    f_law_look := def_nth b1 11 rfl
    f_law_deeds_within := def_nth b1 12 rfl
    f_law_ended := def_nth b1 13 rfl
    f_law_tried := def_nth b1 14 rfl
    f_law_tried_right := def_nth b1 15 rfl
    f_law := def_nth b1 16 rfl
    f_Order_init := def_nth b1 17 rfl
    f_Order_size := def_nth b1 18 rfl
    f_Order_len := def_nth b1 19 rfl
    f_Order_iter := def_nth b2 0 rfl
    f_Order_eq := def_nth b2 1 rfl
    f_Network_init := def_nth b2 2 rfl
    f_Network_size := def_nth b2 3 rfl
    f_Network_len := def_nth b2 4 rfl
    f_Network_iter := def_nth b2 5 rfl
    f_Network_eq := def_nth b2 6 rfl
    f_Trial_init := def_nth b2 7 rfl
    f_Trial_enter := def_nth b2 8 rfl
    f_Trial_exit := def_nth b2 9 rfl
    f_Bench_init := def_nth b2 10 rfl
    f_Bench_size := def_nth b2 11 rfl
    f_Bench_deeds := def_nth b2 12 rfl
    f_Bench_len := def_nth b2 13 rfl
    f_Bench_contains := def_nth b2 14 rfl
    f_Bench_getitem := def_nth b2 15 rfl
    f_Bench_thing_of := def_nth b2 16 rfl
    f_Bench_names := def_nth b2 17 rfl
    f_Bench_kind := def_nth b2 18 rfl
    f_Bench_change := def_nth b2 19 rfl
    f_Bench_check_new_name := def_nth b3 0 rfl
    f_Bench_put := def_nth b3 1 rfl
    f_Bench_add := def_nth b3 2 rfl
    f_Bench_drop := def_nth b3 3 rfl
    f_Bench_rename := def_nth b3 4 rfl
    f_Bench_undo := def_nth b3 5 rfl
    f_Bench_trial := def_nth b3 6 rfl
    f_Bench_tried := def_nth b3 7 rfl
    f_InvalidSize_init := def_nth b3 8 rfl
    f_InvalidRow_init := def_nth b3 9 rfl
    f_InvalidPair_init := def_nth b3 10 rfl
    f_Ring_init := def_nth b3 11 rfl
    f_InvalidStep_init := def_nth b3 12 rfl
    f_NameTaken_init := def_nth b3 13 rfl
    f_UnknownName_init := def_nth b3 14 rfl
    f_NothingToUndo_init := def_nth b3 15 rfl
  }
end K57
/-! A_Head -/
set_option maxHeartbeats 0
namespace K57
open PySem PySem.Spec PyProof.Rows L2 He
abbrev hR : PySem.W.OpenRow := PySem.W.OpenLaw.row PySem.Challenge.rw_enoughtests_k57_whole_trials_and_takings
def names0 : List PySem.Str := [PySem.Str.ofString "_wall", PySem.Str.ofString "SorterError", PySem.Str.ofString "InvalidSize", PySem.Str.ofString "InvalidRow", PySem.Str.ofString "InvalidPairs", PySem.Str.ofString "InvalidPair", PySem.Str.ofString "Ring", PySem.Str.ofString "NotOrder", PySem.Str.ofString "InvalidSteps", PySem.Str.ofString "InvalidStep", PySem.Str.ofString "NotNetwork", PySem.Str.ofString "UnlikeSizes", PySem.Str.ofString "TooLarge", PySem.Str.ofString "InvalidText", PySem.Str.ofString "InvalidName", PySem.Str.ofString "NameTaken", PySem.Str.ofString "UnknownName", PySem.Str.ofString "InvalidThing", PySem.Str.ofString "NothingToUndo", PySem.Str.ofString "MOST_LINES"]
def names1 : List PySem.Str := [PySem.Str.ofString "is_integer", PySem.Str.ofString "is_word", PySem.Str.ofString "is_row", PySem.Str.ofString "need_value", PySem.Str.ofString "MOST_LISTED", PySem.Str.ofString "need_size", PySem.Str.ofString "is_line", PySem.Str.ofString "is_pair", PySem.Str.ofString "closed", PySem.Str.ofString "Order", PySem.Str.ofString "need_order", PySem.Str.ofString "need_listed", PySem.Str.ofString "keeps", PySem.Str.ofString "fitting_words", PySem.Str.ofString "latest_items", PySem.Str.ofString "can_be_filled", PySem.Str.ofString "longer_beginnings", PySem.Str.ofString "DIGITS", PySem.Str.ofString "is_step", PySem.Str.ofString "behind_steps"]
def names2 : List PySem.Str := [PySem.Str.ofString "like_value", PySem.Str.ofString "Network", PySem.Str.ofString "need_network", PySem.Str.ofString "number_in", PySem.Str.ofString "step_in", PySem.Str.ofString "is_test", PySem.Str.ofString "LONGEST_NAME", PySem.Str.ofString "MOST_TESTS", PySem.Str.ofString "LETTERS", PySem.Str.ofString "NETWORK", PySem.Str.ofString "ORDER", PySem.Str.ofString "TESTS", PySem.Str.ofString "is_name", PySem.Str.ofString "kept_tests", PySem.Str.ofString "kept_thing", PySem.Str.ofString "Trial", PySem.Str.ofString "Bench", PySem.Str.ofString "_law_cell", PySem.Str.ofString "_law_box", PySem.Str.ofString "_law_take"]
def names3 : List PySem.Str := [PySem.Str.ofString "_law_mixed", PySem.Str.ofString "_law_pairs", PySem.Str.ofString "_law_closed", PySem.Str.ofString "_law_steps", PySem.Str.ofString "_law_tests", PySem.Str.ofString "_law_thing", PySem.Str.ofString "_law_made", PySem.Str.ofString "_law_name", PySem.Str.ofString "_law_item", PySem.Str.ofString "_law_deed", PySem.Str.ofString "_law_is_couple", PySem.Str.ofString "_law_longer", PySem.Str.ofString "_law_changed", PySem.Str.ofString "_law_spoil", PySem.Str.ofString "_law_done", PySem.Str.ofString "_law_told", PySem.Str.ofString "_law_step", PySem.Str.ofString "_law_look", PySem.Str.ofString "_law_deeds_within", PySem.Str.ofString "_law_ended"]
def names4 : List PySem.Str := [PySem.Str.ofString "_law_tried", PySem.Str.ofString "_law_tried_right"]
def names : List PySem.Str := names0 ++ (names1 ++ (names2 ++ (names3 ++ (names4))))
def hOb (s : PySem.W.SharedT) : AlK := let g := HandSHeadRun.getT s; obsK g (frT g (asK g))
theorem hOb_eq (s : PySem.W.SharedT) : hOb s = hookK.obs s.abs := hookK_eq (HandSHeadRun.getT_eq s)
theorem hRun (w : World) : HandSHeadRun.RunEq hR (PySem.W.view hR.prog [89]) hookK hOb 20000 names w := by
  intro os
  kernel_rfl
end K57
/-! P0 -/
set_option maxHeartbeats 4000000
namespace K57
open PySem PySem.Spec PyProof.Rows L2
/-! ### from one heap to a later one: G, the part that stands for ever; M, what may be changed (a tuple always stands) -/
structure Go (M : List Addr) (G H G1 H1 : Hp) : Prop where
  keep : ∀ b o, b ∉ M → H b = some o → H1 b = some o
  live : ∀ b, H b ≠ none → H1 b ≠ none
  sub : Same G G1
  on : Same G1 H1
  ext : ∀ b o, G1 b = some o → H b ≠ none → G b = some o ∨ ((∃ xs, o = .tup xs) ∧ H b = some o)
  tup : ∀ b xs, H1 b = some (.tup xs) → H b ≠ none → H b = some (.tup xs)
def isTup : HO → Bool
  | .tup _ => true
  | _ => false
section
variable {M M' : List Addr} {G H G1 H1 G2 H2 : Hp} {p b : Addr} {o u : HO}
theorem ne_none {H : Hp} {a : Addr} {o : HO} (h : H a = some o) : H a ≠ none := fun z => by rw [h] at z; cases z
theorem some_of {H : Hp} {a : Addr} (h : H a ≠ none) : ∃ o, H a = some o := Option.ne_none_iff_exists'.mp h
theorem Go.start (s : Same G H) : Go M G H G H := ⟨fun _ _ _ e => e, fun _ e => e, fun _ _ e => e, s, fun _ _ e _ => .inl e, fun _ _ e _ => e⟩
theorem Go.fresh (g : Go M G H G1 H1) (h : H1 p = none) : H p = none := by
  cases q : H p with
  | none => rfl
  | some o => exact absurd h (g.live p (ne_none q))
/-- what may be changed never stands in G -/
theorem Go.off (g : Go M G H G1 H1) (hG : G p = none) (hH : H p = some o) (ht : isTup o = false := by rfl) : G1 p = none := by
  cases q : G1 p with
  | none => rfl
  | some u =>
    rcases g.ext p u q (ne_none hH) with z | ⟨⟨xs, e⟩, z⟩
    · rw [hG] at z; cases z
    · rw [hH] at z; cases z; subst e; cases ht
theorem Go.trans (g : Go M G H G1 H1) (g' : Go M' G1 H1 G2 H2) (hM : ∀ m ∈ M', m ∈ M ∨ H m = none) : Go M G H G2 H2 := by
  refine ⟨fun b o hb e => g'.keep b o (fun z => (hM b z).elim hb fun n => by rw [n] at e; cases e) (g.keep b o hb e), fun b e => g'.live b (g.live b e), g.sub.trans g'.sub, g'.on, fun b o e h => ?_, fun b xs e h => g.tup b xs (g'.tup b xs e (g.live b h)) h⟩
  rcases g'.ext b o e (g.live b h) with z | ⟨⟨xs, z⟩, y⟩
  · exact g.ext b o z h
  · subst z
    exact .inr ⟨⟨xs, rfl⟩, g.tup b xs y h⟩
theorem Go.then (g : Go M G H G1 H1) (g' : Go M G1 H1 G2 H2) : Go M G H G2 H2 := g.trans g' fun _ hm => .inl hm
theorem Go.mono (g : Go M G H G1 H1) (h : ∀ m ∈ M, m ∈ M') : Go M' G H G1 H1 := ⟨fun b o hb e => g.keep b o (fun z => hb (h b z)) e, g.live, g.sub, g.on, g.ext, g.tup⟩
theorem same_new (h : H p = none) : Same H (upd H p o) := fun b u q => by rw [upd_ne (ne_of_none q h)]; exact q
/-- only what is new differs -/
theorem Go.same (g : Go M G H G1 H1) (s : Same H1 H2) : Go M G H G1 H2 := by
  refine ⟨fun b o hb e => s b o (g.keep b o hb e), fun b e => ?_, g.sub, g.on.trans s, g.ext, fun b xs e h => ?_⟩
  · obtain ⟨o, q⟩ := some_of (g.live b e)
    exact ne_none (s b o q)
  · obtain ⟨o, q⟩ := some_of (g.live b h)
    have z := s b o q
    rw [e] at z; cases z
    exact g.tup b xs q h
theorem Go.offNew (g : Go M G H G1 H1) (h : H1 p = none) : G1 p = none := by
  cases q : G1 p with
  | none => rfl
  | some v => have := g.on p v q; rw [h] at this; cases this
/-- a new object that may still change -/
theorem Go.tmp (g : Go M G H G1 H1) (h : H1 p = none) : Go M G H G1 (upd H1 p o) := g.same (same_new h)
/-- an object of ours stands still from now on -/
theorem Go.freeze (g : Go M G H G1 H1) (h : H1 p = some o) (hp : H p = none) (nG : G1 p = none) : Go M G H (upd G1 p o) H1 := by
  refine ⟨g.keep, g.live, g.sub.trans (same_new nG), fun b u e => ?_, fun b u e hb => ?_, g.tup⟩
  · by_cases z : b = p
    · subst z; rw [upd_same] at e; rw [h]; exact e
    · rw [upd_ne z] at e; exact g.on b u e
  · have z : b ≠ p := fun z => hb (by rw [z]; exact hp)
    rw [upd_ne z] at e
    exact g.ext b u e hb
/-- a new object that will not change -/
theorem Go.new (g : Go M G H G1 H1) (h : H1 p = none) : Go M G H (upd G1 p o) (upd H1 p o) := (g.tmp h).freeze upd_same (g.fresh h) (g.offNew h)
/-- what may be changed is changed -/
theorem Go.put (g : Go M G H G1 H1) (hm : p ∈ M ∨ H p = none) (hG : G1 p = none) (ht : isTup o = false := by rfl) : Go M G H G1 (upd H1 p o) := by
  refine ⟨fun b u hb e => ?_, fun b e => ?_, g.sub, fun b u e => ?_, g.ext, fun b xs e h => ?_⟩
  · have z : b ≠ p := fun z => by
      subst z
      rcases hm with q | q
      · exact hb q
      · rw [q] at e; cases e
    rw [upd_ne z]; exact g.keep b u hb e
  · by_cases z : b = p
    · subst z; rw [upd_same]; exact Option.some_ne_none _
    · rw [upd_ne z]; exact g.live b e
  · rw [upd_ne (ne_of_none e hG)]; exact g.on b u e
  · by_cases z : b = p
    · subst z; rw [upd_same] at e; cases e; cases ht
    · rw [upd_ne z] at e; exact g.tup b xs e h
/-- all that is new behind H1 stands from now on -/
def fz (G1 H1 H2 : Hp) : Hp := fun b => match H1 b with
  | none => H2 b
  | some _ => G1 b
theorem fz_new (h : H1 p = none) : fz G1 H1 H2 p = H2 p := by unfold fz; rw [h]
theorem fz_old (h : H1 p = some o) : fz G1 H1 H2 p = G1 p := by unfold fz; rw [h]
theorem Go.fz (g : Go M G H G1 H1) (s : Same H1 H2) : Go M G H (fz G1 H1 H2) H2 := by
  have g' := g.same s
  refine ⟨g'.keep, g'.live, g.sub.trans fun b u e => ?_, fun b u e => ?_, fun b u e hb => ?_, g'.tup⟩
  · rw [fz_old (g.on b u e)]; exact e
  · cases q : H1 b with
    | none => rw [fz_new q] at e; exact e
    | some v => rw [fz_old q] at e; exact s b u (g.on b u e)
  · obtain ⟨v, q⟩ := some_of (g.live b hb)
    rw [fz_old q] at e
    exact g.ext b u e hb
theorem fz_sub (s : Same G1 H1) : Same G1 (fz G1 H1 H2) := fun b u e => by rw [fz_old (s b u e)]; exact e
/-- all tuples stand -/
def gt (G H : Hp) : Hp := fun b => match H b with
  | some (.tup xs) => some (.tup xs)
  | _ => G b
theorem gt_tup {xs : List V} (h : H p = some (.tup xs)) : gt G H p = some (.tup xs) := by unfold gt; rw [h]
theorem gt_sub (s : Same G H) : Same G (gt G H) := fun b u e => by
  have h := s b u e
  unfold gt
  rw [h]
  cases u <;> first | rfl | exact e
theorem gt_on (s : Same G H) : Same (gt G H) H := fun b u e => by
  unfold gt at e
  cases q : H b with
  | none =>
    rw [q] at e
    have := s b u e
    rw [q] at this
    exact this
  | some v =>
    rw [q] at e
    cases v <;> first | exact e | (have := s b u e; rw [q] at this; exact this)
theorem Go.tups (g : Go M G H G1 H1) : Go M G H (gt G1 H1) H1 := by
  refine ⟨g.keep, g.live, g.sub.trans (gt_sub g.on), gt_on g.on, fun b u e hb => ?_, g.tup⟩
  unfold gt at e
  obtain ⟨v, q⟩ := some_of (g.live b hb)
  rw [q] at e
  cases v with
  | tup xs =>
    cases e
    exact .inr ⟨⟨xs, rfl⟩, g.tup b xs q hb⟩
  | _ => exact g.ext b u e hb
theorem Same.go (s : Same G H) (t : Same H H1) : Go M G H G H1 := (Go.start s).same t
end
/-! ### data -/
mutual
inductive Dq (H : Hp) : V → PyData → Prop
  | non : Dq H .non .none
  | bl (b : Bool) : Dq H (.bl b) (.bool b)
  | int (i : Int) : Dq H (.int i) (.int i)
  | str (x : Str) : Dq H (.str x) (.str x)
  | lst {a : Addr} {xs : List V} {ds : List PyData} : H a = some (.lst xs) → DqAll H xs ds → Dq H (.ref a) (.list ds)
  | tup {a : Addr} {xs : List V} {ds : List PyData} : H a = some (.tup xs) → DqAll H xs ds → Dq H (.ref a) (.tuple ds)
inductive DqAll (H : Hp) : List V → List PyData → Prop
  | nil : DqAll H [] []
  | cons {v : V} {vs : List V} {d : PyData} {ds : List PyData} : Dq H v d → DqAll H vs ds → DqAll H (v :: vs) (d :: ds)
end
mutual
theorem Dq.dp {K : PySem.W.Frag} {H : Hp} : ∀ {v : V} {d : PyData}, Dq H v d → Dp K H v d
  | _, _, .non => .non
  | _, _, .bl b => .bl b
  | _, _, .int i => .int i
  | _, _, .str x => .str x
  | _, _, .lst h a => .lst (SqL.of h) (DqAll.dp a)
  | _, _, .tup h a => .tup (SqT.of h) (DqAll.dp a)
theorem DqAll.dp {K : PySem.W.Frag} {H : Hp} : ∀ {vs : List V} {ds : List PyData}, DqAll H vs ds → DpAll K H vs ds
  | _, _, .nil => .nil
  | _, _, .cons h r => .cons (Dq.dp h) (DqAll.dp r)
end
mutual
theorem Dq.mono {H H' : Hp} (s : Same H H') : ∀ {v : V} {d : PyData}, Dq H v d → Dq H' v d
  | _, _, .non => .non
  | _, _, .bl b => .bl b
  | _, _, .int i => .int i
  | _, _, .str x => .str x
  | _, _, .lst h a => .lst (s _ _ h) (DqAll.mono s a)
  | _, _, .tup h a => .tup (s _ _ h) (DqAll.mono s a)
theorem DqAll.mono {H H' : Hp} (s : Same H H') : ∀ {vs : List V} {ds : List PyData}, DqAll H vs ds → DqAll H' vs ds
  | _, _, .nil => .nil
  | _, _, .cons h r => .cons (Dq.mono s h) (DqAll.mono s r)
end
section
variable {H : Hp} {v : V} {xs ys : List V} {ds es : List PyData}
theorem DqAll.length : ∀ {xs : List V} {ds : List PyData}, DqAll H xs ds → xs.length = ds.length
  | _, _, .nil => rfl
  | _, _, .cons _ r => congrArg Nat.succ (DqAll.length r)
theorem DqAll.append : ∀ {xs ys : List V} {ds es : List PyData}, DqAll H xs ds → DqAll H ys es → DqAll H (xs ++ ys) (ds ++ es)
  | _, _, _, _, .nil, s => s
  | _, _, _, _, .cons h r, s => .cons h (DqAll.append r s)
theorem DqAll.one {d : PyData} (h : Dq H v d) : DqAll H [v] [d] := .cons h .nil
theorem DqAll.get : ∀ {xs : List V} {ds : List PyData} {i : Nat} {d : PyData}, DqAll H xs ds → ds[i]? = some d → ∃ v, xs[i]? = some v ∧ Dq H v d
  | _, _, _, _, .nil, e => by simp at e
  | _, _, 0, _, .cons h _, e => by simp at e; subst e; exact ⟨_, rfl, h⟩
  | _, _, i + 1, _, .cons _ r, e => by
    obtain ⟨v, h1, h2⟩ := DqAll.get (i := i) r (by simpa using e)
    exact ⟨v, by simpa using h1, h2⟩
theorem DqAll.get' : ∀ {xs : List V} {ds : List PyData} {i : Nat} {v : V}, DqAll H xs ds → xs[i]? = some v → ∃ d, ds[i]? = some d ∧ Dq H v d
  | _, _, _, _, .nil, e => by simp at e
  | _, _, 0, _, .cons h _, e => by simp at e; subst e; exact ⟨_, rfl, h⟩
  | _, _, i + 1, _, .cons _ r, e => by
    obtain ⟨d, h1, h2⟩ := DqAll.get' (i := i) r (by simpa using e)
    exact ⟨d, by simpa using h1, h2⟩
theorem DqAll.ints : ∀ ns : List Int, DqAll H (ns.map V.int) (ns.map PyData.int)
  | [] => .nil
  | n :: r => .cons (.int n) (DqAll.ints r)
theorem DqAll.of_ints : ∀ {ns : List Int} {xs : List V}, DqAll H xs (ns.map PyData.int) → xs = ns.map V.int
  | [], _, h => by cases h; rfl
  | n :: r, _, h => by
    cases h with
    | cons a b =>
      cases a
      rw [DqAll.of_ints b]
      rfl
theorem Dq.int_ {i : Int} (h : Dq H v (.int i)) : v = .int i := by cases h; rfl
theorem Dq.str_ {x : Str} (h : Dq H v (.str x)) : v = .str x := by cases h; rfl
theorem Dq.bl_ {b : Bool} (h : Dq H v (.bool b)) : v = .bl b := by cases h; rfl
theorem Dq.non_ (h : Dq H v .none) : v = .non := by cases h; rfl
theorem Dq.lst_ (h : Dq H v (.list ds)) : ∃ a xs, v = .ref a ∧ H a = some (.lst xs) ∧ DqAll H xs ds := by
  cases h with
  | lst h a => exact ⟨_, _, rfl, h, a⟩
theorem Dq.tup_ (h : Dq H v (.tuple ds)) : ∃ a xs, v = .ref a ∧ H a = some (.tup xs) ∧ DqAll H xs ds := by
  cases h with
  | tup h a => exact ⟨_, _, rfl, h, a⟩
end
/-- a row of ints as a tuple -/
def tupD (r : List Int) : PyData := .tuple (r.map .int)
theorem tupD_ {H : Hp} {v : V} {r : List Int} (h : Dq H v (tupD r)) : ∃ a, v = .ref a ∧ H a = some (.tup (r.map V.int)) := by
  obtain ⟨a, xs, e, h1, h2⟩ := Dq.tup_ h
  rw [DqAll.of_ints h2] at h1
  exact ⟨a, e, h1⟩
theorem Dq.row {H : Hp} {a : Addr} {r : List Int} (h : H a = some (.tup (r.map V.int))) : Dq H (.ref a) (tupD r) := .tup h (DqAll.ints r)
theorem DqAll.rows {H H' : Hp} : ∀ {rows : List (List Int)} {xs : List V}, (∀ b ys, H b = some (.tup ys) → H' b = some (.tup ys)) → DqAll H xs (rows.map tupD) → DqAll H' xs (rows.map tupD)
  | [], _, _, h => by cases h; exact .nil
  | r :: rs, _, s, h => by
    cases h with
    | cons a b =>
      obtain ⟨p, e, hp⟩ := tupD_ a
      subst e
      exact .cons (Dq.row (s _ _ hp)) (DqAll.rows s b)
theorem DqAll.gt {G H : Hp} {rows : List (List Int)} {xs : List V} (h : DqAll H xs (rows.map tupD)) : DqAll (gt G H) xs (rows.map tupD) := h.rows fun _ _ e => gt_tup e
end K57
/-! P1 -/
namespace K57
open PySem PySem.Spec PyProof.Rows L2 He
theorem bt_isinstance : bootBuiltins "isinstance" = some (.builtin "isinstance") := by decide +kernel
theorem bt_int : bootBuiltins "int" = some (.type "int") := by decide +kernel
theorem bt_bool : bootBuiltins "bool" = some (.type "bool") := by decide +kernel
theorem bt_len : bootBuiltins "len" = some (.builtin "len") := by decide +kernel
theorem bt_all : bootBuiltins "all" = some (.builtin "all") := by decide +kernel
theorem bt_set : bootBuiltins "set" = some (.type "set") := by decide +kernel
theorem bt_tuple : bootBuiltins "tuple" = some (.type "tuple") := by decide +kernel
theorem bt_sorted : bootBuiltins "sorted" = some (.builtin "sorted") := by decide +kernel
theorem bt_list : bootBuiltins "list" = some (.type "list") := by decide +kernel
theorem bt_str : bootBuiltins "str" = some (.type "str") := by decide +kernel
theorem bt_dict : bootBuiltins "dict" = some (.type "dict") := by decide +kernel
theorem bt_repr : bootBuiltins "repr" = some (.builtin "repr") := by decide +kernel
theorem bt_max : bootBuiltins "max" = some (.builtin "max") := by decide +kernel
theorem bt_min : bootBuiltins "min" = some (.builtin "min") := by decide +kernel
theorem bt_iter : bootBuiltins "iter" = some (.builtin "iter") := by decide +kernel
theorem bt_KeyError : bootBuiltins "KeyError" = some (.type "KeyError") := by decide +kernel
theorem bt_ValueError : bootBuiltins "ValueError" = some (.type "ValueError") := by decide +kernel
/-! ### the types of data -/
def tyN : PyData → String
  | .none => "NoneType"
  | .bool _ => "bool"
  | .int _ => "int"
  | .str _ => "str"
  | .list _ => "list"
  | .tuple _ => "tuple"
  | .dict _ => "dict"
theorem Dq.ty {K : PySem.W.Frag} {H : Hp} {v : V} {d : PyData} (h : Dq H v d) : TyX K H v (.type (tyN d)) := by
  cases h with
  | non => exact .base .non
  | bl b => exact .base (.bl b)
  | int i => exact .base (.int i)
  | str x => exact .base (.str x)
  | lst h a => exact .base (.lst h)
  | tup h a => exact .base (.tup h)
/-- isinstance of data, by a built-in type -/
def isT (T : String) (d : PyData) : Bool := match d with
  | .none => T == "NoneType"
  | .bool _ => T == "bool" || T == "int"
  | .int _ => T == "int"
  | .str _ => T == "str"
  | .list _ => T == "list"
  | .tuple _ => T == "tuple"
  | .dict _ => T == "dict"
theorem kit_dt {K : PySem.W.Frag} (T : String) (hT : T = "int" ∨ T = "bool" ∨ T = "str" ∨ T = "list" ∨ T = "tuple") (d : PyData) : PySem.W.kitOne K (.type (tyN d)) (.type T) = some (isT T d) := by
  refine kit_ty ?_
  rcases hT with rfl | rfl | rfl | rfl | rfl <;> cases d <;> kernel_rfl
section
variable {X : Cx} {e : Expr} {es : List Expr} {t : TA} {p pos : Pos}
theorem n_int (T : Txt X.K X.mg) (hg : Gl X "int" := by rfl) : PE X (.Name "int" pos) (tC (.ty "int")) := pe_bltn hg T.z_int bt_int rfl
theorem n_bool (T : Txt X.K X.mg) (hg : Gl X "bool" := by rfl) : PE X (.Name "bool" pos) (tC (.ty "bool")) := pe_bltn hg T.z_bool bt_bool rfl
theorem n_str (T : Txt X.K X.mg) (hg : Gl X "str" := by rfl) : PE X (.Name "str" pos) (tC (.ty "str")) := pe_bltn hg T.z_str bt_str rfl
theorem n_list (T : Txt X.K X.mg) (hg : Gl X "list" := by rfl) : PE X (.Name "list" pos) (tC (.ty "list")) := pe_bltn hg T.z_list bt_list rfl
theorem n_tuple (T : Txt X.K X.mg) (hg : Gl X "tuple" := by rfl) : PE X (.Name "tuple" pos) (tC (.ty "tuple")) := pe_bltn hg T.z_tuple bt_tuple rfl
theorem n_Order (T : Txt X.K X.mg) (hg : Gl X "Order" := by rfl) : PE X (.Name "Order" pos) (tC (.ref (ga X.K "Order"))) := pe_glob hg T.g_Order rfl
theorem n_Network (T : Txt X.K X.mg) (hg : Gl X "Network" := by rfl) : PE X (.Name "Network" pos) (tC (.ref (ga X.K "Network"))) := pe_glob hg T.g_Network rfl
/-! ### built-ins by name: r is the reading of the rule that is given -/
theorem b_isinstance {r : List V → Hp → VK → Prop} (hc : CallR X (.builtin "isinstance") r) (T : Txt X.K X.mg) (ha : PA X (e :: es) t) (hg : Gl X "isinstance" := by rfl) (he : starEach (e :: es) X.env = (false, eval e X.env) :: starEach es X.env := by rfl) (hpl : (backTo pos (starEach es X.env)).any (·.1) = false := by rfl) :
    PE X (.Call (.Name "isinstance" p) (e :: es) [] pos) (tCB r t) := pe_callB hc hg T.z_isinstance bt_isinstance ha (by decide) (by decide) he hpl
theorem b_len {r : List V → Hp → VK → Prop} (hc : CallR X (.builtin "len") r) (T : Txt X.K X.mg) (ha : PA X (e :: es) t) (hg : Gl X "len" := by rfl) (he : starEach (e :: es) X.env = (false, eval e X.env) :: starEach es X.env := by rfl) (hpl : (backTo pos (starEach es X.env)).any (·.1) = false := by rfl) :
    PE X (.Call (.Name "len" p) (e :: es) [] pos) (tCB r t) := pe_callB hc hg T.z_len bt_len ha (by decide) (by decide) he hpl
theorem b_all {r : List V → Hp → VK → Prop} (hc : CallR X (.builtin "all") r) (T : Txt X.K X.mg) (ha : PA X (e :: es) t) (hg : Gl X "all" := by rfl) (he : starEach (e :: es) X.env = (false, eval e X.env) :: starEach es X.env := by rfl) (hpl : (backTo pos (starEach es X.env)).any (·.1) = false := by rfl) :
    PE X (.Call (.Name "all" p) (e :: es) [] pos) (tCB r t) := pe_callB hc hg T.z_all bt_all ha (by decide) (by decide) he hpl
theorem b_sorted {r : List V → Hp → VK → Prop} (hc : CallR X (.builtin "sorted") r) (T : Txt X.K X.mg) (ha : PA X (e :: es) t) (hg : Gl X "sorted" := by rfl) (he : starEach (e :: es) X.env = (false, eval e X.env) :: starEach es X.env := by rfl) (hpl : (backTo pos (starEach es X.env)).any (·.1) = false := by rfl) :
    PE X (.Call (.Name "sorted" p) (e :: es) [] pos) (tCB r t) := pe_callB hc hg T.z_sorted bt_sorted ha (by decide) (by decide) he hpl
theorem b_repr {r : List V → Hp → VK → Prop} (hc : CallR X (.builtin "repr") r) (T : Txt X.K X.mg) (ha : PA X (e :: es) t) (hg : Gl X "repr" := by rfl) (he : starEach (e :: es) X.env = (false, eval e X.env) :: starEach es X.env := by rfl) (hpl : (backTo pos (starEach es X.env)).any (·.1) = false := by rfl) :
    PE X (.Call (.Name "repr" p) (e :: es) [] pos) (tCB r t) := pe_callB hc hg T.z_repr bt_repr ha (by decide) (by decide) he hpl
theorem b_max {r : List V → Hp → VK → Prop} (hc : CallR X (.builtin "max") r) (T : Txt X.K X.mg) (ha : PA X (e :: es) t) (hg : Gl X "max" := by rfl) (he : starEach (e :: es) X.env = (false, eval e X.env) :: starEach es X.env := by rfl) (hpl : (backTo pos (starEach es X.env)).any (·.1) = false := by rfl) :
    PE X (.Call (.Name "max" p) (e :: es) [] pos) (tCB r t) := pe_callB hc hg T.z_max bt_max ha (by decide) (by decide) he hpl
theorem b_min {r : List V → Hp → VK → Prop} (hc : CallR X (.builtin "min") r) (T : Txt X.K X.mg) (ha : PA X (e :: es) t) (hg : Gl X "min" := by rfl) (he : starEach (e :: es) X.env = (false, eval e X.env) :: starEach es X.env := by rfl) (hpl : (backTo pos (starEach es X.env)).any (·.1) = false := by rfl) :
    PE X (.Call (.Name "min" p) (e :: es) [] pos) (tCB r t) := pe_callB hc hg T.z_min bt_min ha (by decide) (by decide) he hpl
theorem b_iter {r : List V → Hp → VK → Prop} (hc : CallR X (.builtin "iter") r) (T : Txt X.K X.mg) (ha : PA X (e :: es) t) (hg : Gl X "iter" := by rfl) (he : starEach (e :: es) X.env = (false, eval e X.env) :: starEach es X.env := by rfl) (hpl : (backTo pos (starEach es X.env)).any (·.1) = false := by rfl) :
    PE X (.Call (.Name "iter" p) (e :: es) [] pos) (tCB r t) := pe_callB hc hg T.z_iter bt_iter ha (by decide) (by decide) he hpl
theorem t_int {r : List V → Hp → VK → Prop} (hc : CallR X (.type "int") r) (T : Txt X.K X.mg) (ha : PA X (e :: es) t) (hg : Gl X "int" := by rfl) (he : starEach (e :: es) X.env = (false, eval e X.env) :: starEach es X.env := by rfl) (hpl : (backTo pos (starEach es X.env)).any (·.1) = false := by rfl) :
    PE X (.Call (.Name "int" p) (e :: es) [] pos) (tCB r t) := pe_callTy hc hg T.z_int bt_int ha (by decide) (by decide) he hpl
theorem t_bool {r : List V → Hp → VK → Prop} (hc : CallR X (.type "bool") r) (T : Txt X.K X.mg) (ha : PA X (e :: es) t) (hg : Gl X "bool" := by rfl) (he : starEach (e :: es) X.env = (false, eval e X.env) :: starEach es X.env := by rfl) (hpl : (backTo pos (starEach es X.env)).any (·.1) = false := by rfl) :
    PE X (.Call (.Name "bool" p) (e :: es) [] pos) (tCB r t) := pe_callTy hc hg T.z_bool bt_bool ha (by decide) (by decide) he hpl
theorem t_set {r : List V → Hp → VK → Prop} (hc : CallR X (.type "set") r) (T : Txt X.K X.mg) (ha : PA X (e :: es) t) (hg : Gl X "set" := by rfl) (he : starEach (e :: es) X.env = (false, eval e X.env) :: starEach es X.env := by rfl) (hpl : (backTo pos (starEach es X.env)).any (·.1) = false := by rfl) :
    PE X (.Call (.Name "set" p) (e :: es) [] pos) (tCB r t) := pe_callTy hc hg T.z_set bt_set ha (by decide) (by decide) he hpl
theorem t_tuple {r : List V → Hp → VK → Prop} (hc : CallR X (.type "tuple") r) (T : Txt X.K X.mg) (ha : PA X (e :: es) t) (hg : Gl X "tuple" := by rfl) (he : starEach (e :: es) X.env = (false, eval e X.env) :: starEach es X.env := by rfl) (hpl : (backTo pos (starEach es X.env)).any (·.1) = false := by rfl) :
    PE X (.Call (.Name "tuple" p) (e :: es) [] pos) (tCB r t) := pe_callTy hc hg T.z_tuple bt_tuple ha (by decide) (by decide) he hpl
theorem t_list {r : List V → Hp → VK → Prop} (hc : CallR X (.type "list") r) (T : Txt X.K X.mg) (ha : PA X (e :: es) t) (hg : Gl X "list" := by rfl) (he : starEach (e :: es) X.env = (false, eval e X.env) :: starEach es X.env := by rfl) (hpl : (backTo pos (starEach es X.env)).any (·.1) = false := by rfl) :
    PE X (.Call (.Name "list" p) (e :: es) [] pos) (tCB r t) := pe_callTy hc hg T.z_list bt_list ha (by decide) (by decide) he hpl
theorem t_str {r : List V → Hp → VK → Prop} (hc : CallR X (.type "str") r) (T : Txt X.K X.mg) (ha : PA X (e :: es) t) (hg : Gl X "str" := by rfl) (he : starEach (e :: es) X.env = (false, eval e X.env) :: starEach es X.env := by rfl) (hpl : (backTo pos (starEach es X.env)).any (·.1) = false := by rfl) :
    PE X (.Call (.Name "str" p) (e :: es) [] pos) (tCB r t) := pe_callTy hc hg T.z_str bt_str ha (by decide) (by decide) he hpl
theorem t_dict {r : List V → Hp → VK → Prop} (hc : CallR X (.type "dict") r) (T : Txt X.K X.mg) (ha : PA X (e :: es) t) (hg : Gl X "dict" := by rfl) (he : starEach (e :: es) X.env = (false, eval e X.env) :: starEach es X.env := by rfl) (hpl : (backTo pos (starEach es X.env)).any (·.1) = false := by rfl) :
    PE X (.Call (.Name "dict" p) (e :: es) [] pos) (tCB r t) := pe_callTy hc hg T.z_dict bt_dict ha (by decide) (by decide) he hpl
end
/-! ### the module's constants -/
section
variable {X : Cx} {pos : Pos}
theorem n_MOST_LINES (T : Txt X.K X.mg) (hg : Gl X "MOST_LINES" := by rfl) : PE X (.Name "MOST_LINES" pos) (tC (.int 60)) := by
  obtain ⟨t, h⟩ := T.i_MOST_LINES
  exact pe_glob hg h ⟨t, rfl⟩
theorem n_LONGEST_NAME (T : Txt X.K X.mg) (hg : Gl X "LONGEST_NAME" := by rfl) : PE X (.Name "LONGEST_NAME" pos) (tC (.int 8)) := by
  obtain ⟨t, h⟩ := T.i_LONGEST_NAME
  exact pe_glob hg h ⟨t, rfl⟩
theorem n_MOST_TESTS (T : Txt X.K X.mg) (hg : Gl X "MOST_TESTS" := by rfl) : PE X (.Name "MOST_TESTS" pos) (tC (.int 100)) := by
  obtain ⟨t, h⟩ := T.i_MOST_TESTS
  exact pe_glob hg h ⟨t, rfl⟩
theorem n_LETTERS (T : Txt X.K X.mg) (hg : Gl X "LETTERS" := by rfl) : PE X (.Name "LETTERS" pos) (tC (.str "abcdefghijklmnopqrstuvwxyz")) := by
  obtain ⟨t, h⟩ := T.s_LETTERS
  exact pe_glob hg h ⟨t, rfl⟩
theorem n_NETWORK (T : Txt X.K X.mg) (hg : Gl X "NETWORK" := by rfl) : PE X (.Name "NETWORK" pos) (tC (.str "network")) := by
  obtain ⟨t, h⟩ := T.s_NETWORK
  exact pe_glob hg h ⟨t, rfl⟩
theorem n_ORDER (T : Txt X.K X.mg) (hg : Gl X "ORDER" := by rfl) : PE X (.Name "ORDER" pos) (tC (.str "order")) := by
  obtain ⟨t, h⟩ := T.s_ORDER
  exact pe_glob hg h ⟨t, rfl⟩
theorem n_TESTS (T : Txt X.K X.mg) (hg : Gl X "TESTS" := by rfl) : PE X (.Name "TESTS" pos) (tC (.str "tests")) := by
  obtain ⟨t, h⟩ := T.s_TESTS
  exact pe_glob hg h ⟨t, rfl⟩
end
end K57
/-! X1 -/
namespace K57
open PySem PySem.Spec PyProof.Rows L2 He
/-! ### SorterError.__init__(self, ..), read off the class -/
section
variable {X : Cx} {e : Expr} {es : List Expr} {ta : TA} {p p1 p2 pos pos2 : Pos}
theorem pe_sinit {pl : Sem Bool} (T : Txt X.K X.mg) (ha : PA X (e :: es) ta) (hg : Gl X "SorterError" := by rfl)
    (hc : eval (.Call (.Attribute (.Name "SorterError" p1) "__init__" p2) (e :: es) [] pos) X.env = (do
      let ov ← eval (.Name "SorterError" p1) X.env
      standAt p2.atName
      let (f, first) ← holding [ov] (getMethod ov "__init__" pl)
      callWith pos f first (backTo pos (starEach (e :: es) X.env)) (backToKw pos (keywordEach [] X.env))) := by rfl)
    (he : starEach (e :: es) X.env = (false, eval e X.env) :: starEach es X.env := by rfl) (hpl : (backTo pos (starEach es X.env)).any (·.1) = false := by rfl) :
    PE X (.Call (.Attribute (.Name "SorterError" p1) "__init__" p2) (e :: es) [] pos) (tVeI X.K ta) := by
  refine ⟨fun pins s σ H Q I h => ?_⟩
  refine PySem.W.methodCall_KW (ld_glob I hg T.g_SorterError ?_) hc
  refine PySem.W.method_cls I.kIn T.gS (PySem.W.cls_value I.kIn T.rS T.vS (by decide +kernel) ?_)
  refine PyProof.Rows.callWith_method1 (thn (ha.run pos pins _ σ H _ (I.tok _) h) fun us s1 hh => ?_) he hpl
  obtain ⟨vs, H1, I1, r1, a, C, ws, ev, hl, TC, ea, q⟩ := hh
  subst ev
  cases r1 with
  | @cons _ u0 _ ur ra rw' =>
    obtain rfl : u0 = Value.ref a := ra
    have hlen : ur.length ≤ sizeLine := by
      rw [← Paired.length rw', sizeLine_eq]
      omega
    exact oinit_ok TC I1 ea hlen fun s' J => ⟨.non, H1, J, rfl, q⟩
end
/-! ### the __init__ of a class with one field, of a class with none -/
def spXi (C : Addr) (f : Str) : Sp := fun vs H Q _ => ∃ a v, vs = [.ref a, v] ∧ H a = some (exo a C none) ∧
  ∀ dx, H dx = none → dx ≠ a → Q .non (upd (upd H dx (exd dx [(f, v)])) a (exo a C (some dx)))
def spXi0 (C : Addr) : Sp := fun vs H Q _ => ∃ a, vs = [.ref a] ∧ H a = some (exo a C none) ∧ Q .non H
section
variable {P : Program} {w : World} {K : PySem.W.Frag} {mg : Str → Option Value} {base : Heap}
theorem sc_InvalidRow_init : FnScope ["self", "value"] ["self", "value"] (defScope sInvalidRowInit) := ⟨rfl, rfl, rfl, by decide +kernel, rfl, by decide +kernel, by decide +kernel⟩
theorem bd_InvalidRow_init {K : PySem.W.Frag} {mg : Str → Option Value} (T : Txt K mg) : Binds K (fdAt K (ma K (ga K "InvalidRow") "__init__")) ["self", "value"] [] := T.f_InvalidRow_init.bindsN fun _ _ _ _ _ _ us hl => match us, hl with | [_, _], _ => rfl
theorem ok_InvalidRow_init (T : Txt K mg) : FnOk P w K mg base CX0 1 (ma K (ga K "InvalidRow") "__init__") (fdAt K (ma K (ga K "InvalidRow") "__init__")) ["self", "value"] (spXi (ga K "InvalidRow") "value") := by
  refine T.f_InvalidRow_init.ok sc_InvalidRow_init (fun vs H Q E h => ?_) (fun cdv A outer s H vs Q E hr h => ?_)
  · obtain ⟨a, v, rfl, _⟩ := h
    rfl
  obtain ⟨a, v, rfl, ha, q⟩ := h
  refine ⟨_, PSs.nox (pss_cons (ps_expr (pe_sinit T (pa_cons (pv 0) (pa_cons pe_str pa_nil))))
    (pss_one (ps_ost (pv 0) (pv 1)))), ?_⟩
  exact ⟨_, rfl, a, _, _, rfl, (by show 1 ≤ 1000; decide), T.x_InvalidRow, ha, _, rfl, _, rfl, a, _, rfl, T.x_InvalidRow, T.xn_InvalidRow, .inl ⟨ha, fun dx n ne => q dx n ne⟩⟩
theorem sc_InvalidPair_init : FnScope ["self", "value"] ["self", "value"] (defScope sInvalidPairInit) := ⟨rfl, rfl, rfl, by decide +kernel, rfl, by decide +kernel, by decide +kernel⟩
theorem bd_InvalidPair_init {K : PySem.W.Frag} {mg : Str → Option Value} (T : Txt K mg) : Binds K (fdAt K (ma K (ga K "InvalidPair") "__init__")) ["self", "value"] [] := T.f_InvalidPair_init.bindsN fun _ _ _ _ _ _ us hl => match us, hl with | [_, _], _ => rfl
theorem ok_InvalidPair_init (T : Txt K mg) : FnOk P w K mg base CX0 1 (ma K (ga K "InvalidPair") "__init__") (fdAt K (ma K (ga K "InvalidPair") "__init__")) ["self", "value"] (spXi (ga K "InvalidPair") "value") := by
  refine T.f_InvalidPair_init.ok sc_InvalidPair_init (fun vs H Q E h => ?_) (fun cdv A outer s H vs Q E hr h => ?_)
  · obtain ⟨a, v, rfl, _⟩ := h
    rfl
  obtain ⟨a, v, rfl, ha, q⟩ := h
  refine ⟨_, PSs.nox (pss_cons (ps_expr (pe_sinit T (pa_cons (pv 0) (pa_cons pe_str pa_nil))))
    (pss_one (ps_ost (pv 0) (pv 1)))), ?_⟩
  exact ⟨_, rfl, a, _, _, rfl, (by show 1 ≤ 1000; decide), T.x_InvalidPair, ha, _, rfl, _, rfl, a, _, rfl, T.x_InvalidPair, T.xn_InvalidPair, .inl ⟨ha, fun dx n ne => q dx n ne⟩⟩
theorem sc_Ring_init : FnScope ["self", "lines"] ["self", "lines"] (defScope sRingInit) := ⟨rfl, rfl, rfl, by decide +kernel, rfl, by decide +kernel, by decide +kernel⟩
theorem bd_Ring_init {K : PySem.W.Frag} {mg : Str → Option Value} (T : Txt K mg) : Binds K (fdAt K (ma K (ga K "Ring") "__init__")) ["self", "lines"] [] := T.f_Ring_init.bindsN fun _ _ _ _ _ _ us hl => match us, hl with | [_, _], _ => rfl
theorem ok_Ring_init (T : Txt K mg) : FnOk P w K mg base CX0 1 (ma K (ga K "Ring") "__init__") (fdAt K (ma K (ga K "Ring") "__init__")) ["self", "lines"] (spXi (ga K "Ring") "lines") := by
  refine T.f_Ring_init.ok sc_Ring_init (fun vs H Q E h => ?_) (fun cdv A outer s H vs Q E hr h => ?_)
  · obtain ⟨a, v, rfl, _⟩ := h
    rfl
  obtain ⟨a, v, rfl, ha, q⟩ := h
  refine ⟨_, PSs.nox (pss_cons (ps_expr (pe_sinit T (pa_cons (pv 0) (pa_cons pe_str pa_nil))))
    (pss_one (ps_ost (pv 0) (pv 1)))), ?_⟩
  exact ⟨_, rfl, a, _, _, rfl, (by show 1 ≤ 1000; decide), T.x_Ring, ha, _, rfl, _, rfl, a, _, rfl, T.x_Ring, T.xn_Ring, .inl ⟨ha, fun dx n ne => q dx n ne⟩⟩
theorem sc_InvalidStep_init : FnScope ["self", "value"] ["self", "value"] (defScope sInvalidStepInit) := ⟨rfl, rfl, rfl, by decide +kernel, rfl, by decide +kernel, by decide +kernel⟩
theorem bd_InvalidStep_init {K : PySem.W.Frag} {mg : Str → Option Value} (T : Txt K mg) : Binds K (fdAt K (ma K (ga K "InvalidStep") "__init__")) ["self", "value"] [] := T.f_InvalidStep_init.bindsN fun _ _ _ _ _ _ us hl => match us, hl with | [_, _], _ => rfl
theorem ok_InvalidStep_init (T : Txt K mg) : FnOk P w K mg base CX0 1 (ma K (ga K "InvalidStep") "__init__") (fdAt K (ma K (ga K "InvalidStep") "__init__")) ["self", "value"] (spXi (ga K "InvalidStep") "value") := by
  refine T.f_InvalidStep_init.ok sc_InvalidStep_init (fun vs H Q E h => ?_) (fun cdv A outer s H vs Q E hr h => ?_)
  · obtain ⟨a, v, rfl, _⟩ := h
    rfl
  obtain ⟨a, v, rfl, ha, q⟩ := h
  refine ⟨_, PSs.nox (pss_cons (ps_expr (pe_sinit T (pa_cons (pv 0) (pa_cons pe_str pa_nil))))
    (pss_one (ps_ost (pv 0) (pv 1)))), ?_⟩
  exact ⟨_, rfl, a, _, _, rfl, (by show 1 ≤ 1000; decide), T.x_InvalidStep, ha, _, rfl, _, rfl, a, _, rfl, T.x_InvalidStep, T.xn_InvalidStep, .inl ⟨ha, fun dx n ne => q dx n ne⟩⟩
theorem sc_NameTaken_init : FnScope ["self", "name"] ["self", "name"] (defScope sNameTakenInit) := ⟨rfl, rfl, rfl, by decide +kernel, rfl, by decide +kernel, by decide +kernel⟩
theorem bd_NameTaken_init {K : PySem.W.Frag} {mg : Str → Option Value} (T : Txt K mg) : Binds K (fdAt K (ma K (ga K "NameTaken") "__init__")) ["self", "name"] [] := T.f_NameTaken_init.bindsN fun _ _ _ _ _ _ us hl => match us, hl with | [_, _], _ => rfl
theorem ok_NameTaken_init (T : Txt K mg) : FnOk P w K mg base CX0 1 (ma K (ga K "NameTaken") "__init__") (fdAt K (ma K (ga K "NameTaken") "__init__")) ["self", "name"] (spXi (ga K "NameTaken") "name") := by
  refine T.f_NameTaken_init.ok sc_NameTaken_init (fun vs H Q E h => ?_) (fun cdv A outer s H vs Q E hr h => ?_)
  · obtain ⟨a, v, rfl, _⟩ := h
    rfl
  obtain ⟨a, v, rfl, ha, q⟩ := h
  refine ⟨_, PSs.nox (pss_cons (ps_expr (pe_sinit T (pa_cons (pv 0) (pa_cons pe_str pa_nil))))
    (pss_one (ps_ost (pv 0) (pv 1)))), ?_⟩
  exact ⟨_, rfl, a, _, _, rfl, (by show 1 ≤ 1000; decide), T.x_NameTaken, ha, _, rfl, _, rfl, a, _, rfl, T.x_NameTaken, T.xn_NameTaken, .inl ⟨ha, fun dx n ne => q dx n ne⟩⟩
theorem sc_UnknownName_init : FnScope ["self", "name"] ["self", "name"] (defScope sUnknownNameInit) := ⟨rfl, rfl, rfl, by decide +kernel, rfl, by decide +kernel, by decide +kernel⟩
theorem bd_UnknownName_init {K : PySem.W.Frag} {mg : Str → Option Value} (T : Txt K mg) : Binds K (fdAt K (ma K (ga K "UnknownName") "__init__")) ["self", "name"] [] := T.f_UnknownName_init.bindsN fun _ _ _ _ _ _ us hl => match us, hl with | [_, _], _ => rfl
theorem ok_UnknownName_init (T : Txt K mg) : FnOk P w K mg base CX0 1 (ma K (ga K "UnknownName") "__init__") (fdAt K (ma K (ga K "UnknownName") "__init__")) ["self", "name"] (spXi (ga K "UnknownName") "name") := by
  refine T.f_UnknownName_init.ok sc_UnknownName_init (fun vs H Q E h => ?_) (fun cdv A outer s H vs Q E hr h => ?_)
  · obtain ⟨a, v, rfl, _⟩ := h
    rfl
  obtain ⟨a, v, rfl, ha, q⟩ := h
  refine ⟨_, PSs.nox (pss_cons (ps_expr (pe_sinit T (pa_cons (pv 0) (pa_cons pe_str pa_nil))))
    (pss_one (ps_ost (pv 0) (pv 1)))), ?_⟩
  exact ⟨_, rfl, a, _, _, rfl, (by show 1 ≤ 1000; decide), T.x_UnknownName, ha, _, rfl, _, rfl, a, _, rfl, T.x_UnknownName, T.xn_UnknownName, .inl ⟨ha, fun dx n ne => q dx n ne⟩⟩
theorem sc_NothingToUndo_init : FnScope ["self"] ["self"] (defScope sNothingToUndoInit) := ⟨rfl, rfl, rfl, by decide +kernel, rfl, by decide +kernel, by decide +kernel⟩
theorem bd_NothingToUndo_init {K : PySem.W.Frag} {mg : Str → Option Value} (T : Txt K mg) : Binds K (fdAt K (ma K (ga K "NothingToUndo") "__init__")) ["self"] [] := T.f_NothingToUndo_init.bindsN fun _ _ _ _ _ _ us hl => match us, hl with | [_], _ => rfl
theorem ok_NothingToUndo_init (T : Txt K mg) : FnOk P w K mg base CX0 1 (ma K (ga K "NothingToUndo") "__init__") (fdAt K (ma K (ga K "NothingToUndo") "__init__")) ["self"] (spXi0 (ga K "NothingToUndo")) := by
  refine T.f_NothingToUndo_init.ok sc_NothingToUndo_init (fun vs H Q E h => ?_) (fun cdv A outer s H vs Q E hr h => ?_)
  · obtain ⟨a, rfl, _⟩ := h
    rfl
  obtain ⟨a, rfl, ha, q⟩ := h
  refine ⟨_, PSs.nox (pss_one (ps_expr (pe_sinit T (pa_cons (pv 0) (pa_cons pe_str pa_nil))))), ?_⟩
  exact ⟨_, rfl, a, _, _, rfl, (by show 1 ≤ 1000; decide), T.x_NothingToUndo, ha, q⟩
/-! ### C() without arguments, no field -/
def tMkO0 (C : Addr) (sp : Sp) : L2.St → Hp → XK → Prop := fun σ H Q => ∀ a, H a = none → sp [.ref a] (upd H a (exo a C none))
  (fun v H2 => v = .non ∧ H2 = upd H a (exo a C none) ∧ Q (.ref C) none H) (fun _ _ _ => False)
end
section
variable {X : Cx} {p pos pos2 : Pos}
theorem pmk_oex0 {x : Str} {C fI : Addr} {k : Nat} {fd : FuncData} {sp : Sp} (T : OexC X.K C) (iC : PySem.W.findIn X.K (.ref C) "__init__" = some (some (.ref fI))) (tI : PySem.W.typeIn X.K (.ref fI) = some (.type "function"))
    (F1 : FnOk X.prog X.w X.K X.mg X.base CX0 k fI fd ["self"] sp) (hr : Room (k + 1) X.A) (hb : Binds X.K fd ["self"] []) (hg : Gl X x) (hm : X.mg x = some (.ref C)) (hdb : (x == ("__debug__" : Str)) = false := by decide) :
    PMk X (.Call (.Name x p) [] [] pos) (tMkO0 C sp) := by
  intro pins s σ H Q I h
  obtain ⟨nm, q, N, bs, bm, sn, sub, ab, col, dd, k0, k1, k2, k3, k5, hC, hbm⟩ := T.cls
  refine wpAny_Call_Name_kw (ld_glob I hg hm ?_ hdb)
  obtain ⟨hp, g, dr, tk, os⟩ := s
  have hsz : hp.objs.size ≤ hp.objs.size + 1 := Nat.le_succ _
  have hn : H (hp.objs.size + 1) = none := I.hok.fresh hsz
  have hq := h (hp.objs.size + 1) hn
  have kk : ∀ b o, hp.get? b = some o → ((hp.push (PySem.W.kdv_tup [])).push (PySem.HandSPX.excO C hp.objs.size)).get? b = some o := fun b o e => Heap.get?_push_of_some _ (Heap.get?_push_of_some _ e)
  have hget : ((hp.push (PySem.W.kdv_tup [])).push (PySem.HandSPX.excO C hp.objs.size)).get? (hp.objs.size + 1) = some (PySem.HandSPX.excO C hp.objs.size) := by heap_get
  have I2 : Inv X pins σ (upd H (hp.objs.size + 1) (exo (hp.objs.size + 1) C none)) ⟨(hp.push (PySem.W.kdv_tup [])).push (PySem.HandSPX.excO C hp.objs.size), g, dr, tk, os⟩ :=
    I.laid (t' := tk) (a := hp.objs.size + 1) (o := exo (hp.objs.size + 1) C none) (h' := (hp.push (PySem.W.kdv_tup [])).push (PySem.HandSPX.excO C hp.objs.size)) kk hsz (exo_ok hget)
  refine PySem.W.callWith_K0 I.kIn T.kC ?_
  refine wpAny_call (PySem.HandSPX.call_own F.excBase_ValueError (fun Y => PySem.HandSPX.refsVE_contains Y bm hbm) (I.kIn _ _ hC) (PySem.W.looks_findIn I.kIn iC) (fun self => PySem.W.bind_fn I.kIn self tI) (by rw [sizeLine_eq]; decide)
    (codeAny_mono (F1.run _ X.stack _ _ ⟨[Value.ref (hp.objs.size + 1)], []⟩ [Value.ref (hp.objs.size + 1)] _ _ (fun _ _ _ => False) (hr.make C [] []) (I2.env0.make C [] []) (hb _ [Value.ref (hp.objs.size + 1)] I2.kIn rfl) (show Vals [V.ref (hp.objs.size + 1)] [Value.ref (hp.objs.size + 1)] from .cons rfl .nil) hq) fun r s' hq' => ?_))
  cases r with
  | error er => exact (show False from hq').elim
  | ok fl =>
    cases fl with
    | ret u =>
      obtain ⟨v, H2, os2, bare2, un2, hok2, rv, ev, eH, q2⟩ := hq'
      subst ev
      subst eH
      obtain ⟨h2, g2, d2, t2, os'⟩ := s'
      refine ⟨rv, ?_⟩
      obtain ⟨t0, hoe⟩ := exo_at hok2 upd_same
      obtain ⟨G, g1', g2'⟩ := restrict h2 fun b => decide (b ≠ hp.objs.size + 1)
      have gk : ∀ b, b ≠ hp.objs.size + 1 → G.get? b = h2.get? b := fun b hb => g1' b (decide_eq_true hb)
      have ge : G.get? (hp.objs.size + 1) = none := g2' _ (by simp)
      have nha : ∀ {b : Addr} {o : Obj}, hp.get? b = some o → b ≠ hp.objs.size + 1 := fun {b o} z => Nat.ne_of_lt (Nat.lt_of_lt_of_le (Heap.lt_size z) hsz)
      have up : ∀ {b : Addr}, b ≠ hp.objs.size + 1 → H b = none → upd H (hp.objs.size + 1) (exo (hp.objs.size + 1) C none) b = none := fun {b} hb n => by rw [upd_ne hb]; exact n
      have U : Un (frs X.stack) [] H H hp G := {
        keep := fun b o z n hf hx => by
          rw [gk b (nha z)]
          exact un2.keep b o (kk b o z) (up (nha z) n) hf hx
        slot := fun b o z n hf hx => by
          rw [gk b (nha z)]
          exact un2.slot b o (kk b o z) (up (nha z) n) hf hx
        free := fun b o z n hx => n
        there := fun b o z hx => by
          rw [gk b (nha z)]
          exact un2.there b o (kk b o z) hx
        tups := fun b xs z => z
        frzs := fun b o v z => z
        tbls := fun b ps z => ⟨#[], by rw [z]; simp⟩ }
      have hok3 : HOk X.prog X.w H G := fun b o z => by
        have hba : b ≠ hp.objs.size + 1 := ne_of_none z hn
        have z' : upd H (hp.objs.size + 1) (exo (hp.objs.size + 1) C none) b = some o := by rw [upd_ne hba]; exact z
        refine (hok2 b o z').stay (fun c v hc y => ?_) (fun c hc => ?_) (fun c xs hc => ?_)
        · have hca : c ≠ hp.objs.size + 1 := by
            rcases hc with hc | hc
            · rw [hc]
              exact hba
            · exact at_ne upd_same hc exo_own
          rw [gk c hca]
          exact y
        · rw [upd_ne (at_ne upd_same hc exo_own)] at hc
          exact hc
        · rw [upd_ne (at_ne upd_same hc exo_tup)] at hc
          exact hc
      have J : Inv X pins σ H ⟨G, g2, d2, t2, os'⟩ := I.call' (ch := []) os2 U hok3 bare2 (fun b z => absurd z (by simp))
      refine ⟨hp.objs.size + 1, _, _, ⟨G, g2, d2, t2, os'⟩, H, .ref C, none, rfl, J, fun b o z => ?_, ge, hoe, ⟨rfl, rfl⟩, rfl, rfl, hn, rfl, bare2, raises_own T.exC T.tyC, q2⟩
      by_cases hba : b = hp.objs.size + 1
      · rw [hba, ge] at z
        cases z
      · exact (gk b hba).symm.trans z
    | next => exact False.elim hq'
    | brk => exact False.elim hq'
    | cont => exact False.elim hq'
end
/-! ### raise C(v) -/
def tRz (C : Addr) (f : Str) (ta : TA) (W : WX) : TS := fun _ σ H => ta σ H fun vs H1 => ∃ v, vs = [v] ∧ ∀ d, H1 d = none → W (.ref C) (some d) σ (upd H1 d (.xd [(f, v)]))
def tRz0 (C : Addr) (W : WX) : TS := fun _ σ H => W (.ref C) none σ H
theorem xi_end {H1 : Hp} {a d : Addr} {o u : HO} {z : HO} (ha : H1 a = none) (hd : H1 d = none) (hda : d ≠ a) : upd (del (upd (upd H1 d o) a u) a) d z = upd H1 d z := by
  funext b
  by_cases h : b = d
  · subst h
    rw [upd_same, upd_same]
  · rw [upd_ne h, upd_ne h]
    by_cases hb : b = a
    · subst hb
      rw [del_same, ha]
    · rw [del_ne hb, upd_ne hb, upd_ne h]
theorem raise_mono {X : Cx} {st : Stmt} {t t' : TS} (h : PS X st t) (m : ∀ D σ H, t' D σ H → t D σ H) : PS X st t' := ⟨fun pins s σ H D I q => h.run pins s σ H D I (m D σ H q)⟩
theorem rz_mk {C : Addr} {f : Str} {W : WX} {σ : L2.St} {vs : List V} {H' : Hp} (h : ∃ v, vs = [v] ∧ ∀ d, H' d = none → W (.ref C) (some d) σ (upd H' d (.xd [(f, v)]))) :
    vs.length ≤ 1000 ∧ ∀ a, H' a = none → spXi C f (.ref a :: (vs ++ [])) (upd H' a (exo a C none))
      (fun v H2 => v = .non ∧ ∃ (d : Addr) (fs : List (Str × V)), H2 a = some (exo a C (some d)) ∧ H2 d = some (exd d fs) ∧ H' d = none ∧ W (.ref C) (some d) σ (upd (del H2 a) d (.xd fs))) (fun _ _ _ => False) := by
  obtain ⟨v, rfl, q⟩ := h
  refine ⟨by show 1 ≤ 1000; decide, fun a na => ⟨a, v, rfl, upd_same, fun dx n ne => ?_⟩⟩
  have n' : H' dx = none := by
    rw [upd_ne ne] at n
    exact n
  have e1 : upd (upd (upd H' a (exo a C none)) dx (exd dx [(f, v)])) a (exo a C (some dx)) = upd (upd H' dx (exd dx [(f, v)])) a (exo a C (some dx)) := by
    funext b
    by_cases hb : b = a
    · subst hb
      rw [upd_same, upd_same]
    · rw [upd_ne hb, upd_ne hb]
      by_cases hd : b = dx
      · subst hd
        rw [upd_same, upd_same]
      · rw [upd_ne hd, upd_ne hd, upd_ne hb]
  refine ⟨rfl, dx, _, upd_same, by rw [upd_ne ne, upd_same], n', ?_⟩
  rw [e1, xi_end na n' ne]
  exact q dx n'
/-- the arguments' reading follows what is wanted -/
def TA.Mono (ta : TA) : Prop := ∀ σ H (Q Q' : List V → Hp → Prop), (∀ vs H', Q vs H' → Q' vs H') → ta σ H Q → ta σ H Q'
section
variable {X : Cx} {e : Expr} {es : List Expr} {ta : TA} {W : WX} {p pos pos2 : Pos}
theorem r_InvalidRow (T : Txt X.K X.mg) (hr : Room 2 X.A) (tk : Takes X W) (ha : PA X (e :: es) ta) (hm : TA.Mono ta) (hc : X.calm = true := by rfl) (hg : Gl X "InvalidRow" := by rfl)
    (he : starEach (e :: es) X.env = (false, eval e X.env) :: starEach es X.env := by rfl) (hpl : (backTo pos (starEach es X.env)).any (·.1) = false := by rfl) :
    PS X (.Raise (some (.Call (.Name "InvalidRow" p) (e :: es) [] pos)) none pos2) (tRz (ga X.K "InvalidRow") "value" ta W) :=
  raise_mono (ps_raise hc tk (pmk_oex T.x_InvalidRow T.xi_InvalidRow.at_ (beq_iff_eq.mp T.xi_InvalidRow.fn) (ok_InvalidRow_init T) hr (bd_InvalidRow_init T) .nil pass0 hg T.g_InvalidRow ha (by decide) he hpl)) fun D σ H h => hm σ H _ _ (fun vs H' h => rz_mk h) h
theorem r_InvalidPair (T : Txt X.K X.mg) (hr : Room 2 X.A) (tk : Takes X W) (ha : PA X (e :: es) ta) (hm : TA.Mono ta) (hc : X.calm = true := by rfl) (hg : Gl X "InvalidPair" := by rfl)
    (he : starEach (e :: es) X.env = (false, eval e X.env) :: starEach es X.env := by rfl) (hpl : (backTo pos (starEach es X.env)).any (·.1) = false := by rfl) :
    PS X (.Raise (some (.Call (.Name "InvalidPair" p) (e :: es) [] pos)) none pos2) (tRz (ga X.K "InvalidPair") "value" ta W) :=
  raise_mono (ps_raise hc tk (pmk_oex T.x_InvalidPair T.xi_InvalidPair.at_ (beq_iff_eq.mp T.xi_InvalidPair.fn) (ok_InvalidPair_init T) hr (bd_InvalidPair_init T) .nil pass0 hg T.g_InvalidPair ha (by decide) he hpl)) fun D σ H h => hm σ H _ _ (fun vs H' h => rz_mk h) h
theorem r_Ring (T : Txt X.K X.mg) (hr : Room 2 X.A) (tk : Takes X W) (ha : PA X (e :: es) ta) (hm : TA.Mono ta) (hc : X.calm = true := by rfl) (hg : Gl X "Ring" := by rfl)
    (he : starEach (e :: es) X.env = (false, eval e X.env) :: starEach es X.env := by rfl) (hpl : (backTo pos (starEach es X.env)).any (·.1) = false := by rfl) :
    PS X (.Raise (some (.Call (.Name "Ring" p) (e :: es) [] pos)) none pos2) (tRz (ga X.K "Ring") "lines" ta W) :=
  raise_mono (ps_raise hc tk (pmk_oex T.x_Ring T.xi_Ring.at_ (beq_iff_eq.mp T.xi_Ring.fn) (ok_Ring_init T) hr (bd_Ring_init T) .nil pass0 hg T.g_Ring ha (by decide) he hpl)) fun D σ H h => hm σ H _ _ (fun vs H' h => rz_mk h) h
theorem r_InvalidStep (T : Txt X.K X.mg) (hr : Room 2 X.A) (tk : Takes X W) (ha : PA X (e :: es) ta) (hm : TA.Mono ta) (hc : X.calm = true := by rfl) (hg : Gl X "InvalidStep" := by rfl)
    (he : starEach (e :: es) X.env = (false, eval e X.env) :: starEach es X.env := by rfl) (hpl : (backTo pos (starEach es X.env)).any (·.1) = false := by rfl) :
    PS X (.Raise (some (.Call (.Name "InvalidStep" p) (e :: es) [] pos)) none pos2) (tRz (ga X.K "InvalidStep") "value" ta W) :=
  raise_mono (ps_raise hc tk (pmk_oex T.x_InvalidStep T.xi_InvalidStep.at_ (beq_iff_eq.mp T.xi_InvalidStep.fn) (ok_InvalidStep_init T) hr (bd_InvalidStep_init T) .nil pass0 hg T.g_InvalidStep ha (by decide) he hpl)) fun D σ H h => hm σ H _ _ (fun vs H' h => rz_mk h) h
theorem r_NameTaken (T : Txt X.K X.mg) (hr : Room 2 X.A) (tk : Takes X W) (ha : PA X (e :: es) ta) (hm : TA.Mono ta) (hc : X.calm = true := by rfl) (hg : Gl X "NameTaken" := by rfl)
    (he : starEach (e :: es) X.env = (false, eval e X.env) :: starEach es X.env := by rfl) (hpl : (backTo pos (starEach es X.env)).any (·.1) = false := by rfl) :
    PS X (.Raise (some (.Call (.Name "NameTaken" p) (e :: es) [] pos)) none pos2) (tRz (ga X.K "NameTaken") "name" ta W) :=
  raise_mono (ps_raise hc tk (pmk_oex T.x_NameTaken T.xi_NameTaken.at_ (beq_iff_eq.mp T.xi_NameTaken.fn) (ok_NameTaken_init T) hr (bd_NameTaken_init T) .nil pass0 hg T.g_NameTaken ha (by decide) he hpl)) fun D σ H h => hm σ H _ _ (fun vs H' h => rz_mk h) h
theorem r_UnknownName (T : Txt X.K X.mg) (hr : Room 2 X.A) (tk : Takes X W) (ha : PA X (e :: es) ta) (hm : TA.Mono ta) (hc : X.calm = true := by rfl) (hg : Gl X "UnknownName" := by rfl)
    (he : starEach (e :: es) X.env = (false, eval e X.env) :: starEach es X.env := by rfl) (hpl : (backTo pos (starEach es X.env)).any (·.1) = false := by rfl) :
    PS X (.Raise (some (.Call (.Name "UnknownName" p) (e :: es) [] pos)) none pos2) (tRz (ga X.K "UnknownName") "name" ta W) :=
  raise_mono (ps_raise hc tk (pmk_oex T.x_UnknownName T.xi_UnknownName.at_ (beq_iff_eq.mp T.xi_UnknownName.fn) (ok_UnknownName_init T) hr (bd_UnknownName_init T) .nil pass0 hg T.g_UnknownName ha (by decide) he hpl)) fun D σ H h => hm σ H _ _ (fun vs H' h => rz_mk h) h
theorem r_NothingToUndo (T : Txt X.K X.mg) (hr : Room 2 X.A) (tk : Takes X W) (hc : X.calm = true := by rfl) (hg : Gl X "NothingToUndo" := by rfl) :
    PS X (.Raise (some (.Call (.Name "NothingToUndo" p) [] [] pos)) none pos2) (tRz0 (ga X.K "NothingToUndo") W) :=
  raise_mono (ps_raise hc tk (pmk_oex0 T.x_NothingToUndo T.xi_NothingToUndo.at_ (beq_iff_eq.mp T.xi_NothingToUndo.fn) (ok_NothingToUndo_init T) hr (bd_NothingToUndo_init T) hg T.g_NothingToUndo)) fun D σ H h a na => ⟨a, rfl, upd_same, rfl, rfl, h⟩
end
end K57
/-! R3 -/
namespace K57
open PySem PySem.Spec PyProof.Rows L2 He
/-! ### the distinct ones of a list of keys, in the order they come -/
def stepK (l : List Key) (k : Key) : List Key := if l.any (fun x => decide (x = k)) = true then l else l ++ [k]
def metK (ks : List Key) (i : Nat) : List Key := (ks.take i).foldl stepK []
theorem metK_succ {ks : List Key} {i : Nat} {k : Key} (h : ks[i]? = some k) : metK ks (i + 1) = stepK (metK ks i) k := by
  unfold metK
  rw [List.take_succ, h, List.foldl_append]
  rfl
theorem stepK_any (l : List Key) (v k : Key) : (stepK l v).any (fun x => decide (x = k)) = (l.any (fun x => decide (x = k)) || decide (k = v)) := by
  unfold stepK
  by_cases h : l.any (fun x => decide (x = v)) = true
  · rw [if_pos h]
    by_cases e : k = v
    · subst e; rw [h]; simp
    · simp [e]
  · rw [if_neg h, List.any_append]
    by_cases e : k = v
    · subst e; simp
    · have hb : ¬ v = k := fun z => e z.symm
      simp [hb, e]
theorem stepK_len (l : List Key) (v : Key) : (stepK l v).length = if l.any (fun x => decide (x = v)) = true then l.length else l.length + 1 := by
  unfold stepK
  split <;> simp
theorem metK_le (ks : List Key) : ∀ i, (metK ks i).length ≤ i
  | 0 => Nat.le_refl _
  | i + 1 => by
    cases h : ks[i]? with
    | none =>
      have e : metK ks (i + 1) = metK ks i := by
        unfold metK
        rw [List.take_succ, h]
        simp
      rw [e]
      have := metK_le ks i
      omega
    | some k =>
      rw [metK_succ h, stepK_len]
      have := metK_le ks i
      split <;> omega
def dcount (ks : List Key) : Nat := (metK ks ks.length).length
/-- .. and what they are -/
theorem fold_spec : ∀ (ks l : List Key), l.Nodup → ((ks.foldl stepK l).length = l.length + ks.length ↔ (l ++ ks).Nodup)
  | [], l, h => by simp [h]
  | k :: ks, l, h => by
    show (ks.foldl stepK (stepK l k)).length = _ ↔ _
    have hle : ∀ (ks l : List Key), (ks.foldl stepK l).length ≤ l.length + ks.length := by
      intro ks
      induction ks with
      | nil => intro l; exact Nat.le_refl _
      | cons k ks ih =>
        intro l
        have h1 := ih (stepK l k)
        have h2 := stepK_len l k
        show (ks.foldl stepK (stepK l k)).length ≤ l.length + (ks.length + 1)
        split at h2 <;> omega
    by_cases m : l.any (fun x => decide (x = k)) = true
    · have e : stepK l k = l := if_pos m
      rw [e]
      have h1 := hle ks l
      constructor
      · intro z
        have : (k :: ks).length = ks.length + 1 := rfl
        omega
      · intro nd
        obtain ⟨x, hx, ex⟩ := List.any_eq_true.mp m
        have ex' : x = k := of_decide_eq_true ex
        subst ex'
        exact absurd rfl ((List.nodup_append.mp nd).2.2 x hx x List.mem_cons_self)
    · have e : stepK l k = l ++ [k] := if_neg m
      rw [e]
      have hk : k ∉ l := fun hk => m (List.any_eq_true.mpr ⟨k, hk, decide_eq_true rfl⟩)
      have nd : (l ++ [k]).Nodup := nd_snoc h hk
      have ih := fold_spec ks (l ++ [k]) nd
      rw [List.append_assoc] at ih
      rw [show (l ++ [k]).length + ks.length = l.length + (k :: ks).length from by rw [List.length_append, List.length_singleton, List.length_cons]; omega] at ih
      exact ih
theorem dcount_nodup {ks : List Key} : dcount ks = ks.length ↔ ks.Nodup := by
  unfold dcount metK
  rw [List.take_length]
  have h := fold_spec ks [] List.nodup_nil
  simpa using h
theorem setOf_congr {prog : Program} {w : World} {h : Heap} {a : Addr} {S S' : Key → Bool} {n n' : Nat} (hS : h.SetOf (mixKind prog w) a S n) (e : ∀ k, S k = S' k) (en : n = n') : h.SetOf (mixKind prog w) a S' n' := by
  have z : S = S' := funext e
  subst z; subst en; exact hS
section
variable {prog : Program} {w : World} {A : Around} {R : Result → Shared → Prop} {I : Addr} {fp wr : List Addr} {G : Array GenState → Array GenState → Prop} {n : Nat} {P : Nat → Value → Prop} {St : Nat → Shared → Prop}
theorem set_loopK (W : WalksS prog w A.in1 I fp wr G n P St) (S : Addr) (hSf : S ∉ fp) (ks : List Key) (hn : n = ks.length) (hval : ∀ (i : Nat) (v : Value), P i v → ∃ k, ks[i]? = some k ∧ keyIs k v = true ∧ v.scannable = true) (hb : n + 1 < scanBound) :
    ∀ (k i : Nat) (s : Shared), n - i = k → i ≤ n → St i s → s.heap.SetOf (mixKind prog w) S (fun j => (metK ks i).any fun x => decide (x = j)) (metK ks i).length →
      (∀ s', Moved (S :: wr) G s s' → s'.heap.SetOf (mixKind prog w) S (fun j => (metK ks n).any fun x => decide (x = j)) (metK ks n).length → R (.ok (.ret .none)) s') →
      codeAny (model prog w) A (.builtin "set.update.loop" ⟨[.ref S, .ref I], []⟩) R s := by
  have hSw : S ∉ wr := fun h => hSf (W.sub _ h)
  have hsub : ∀ b ∈ wr, b ∈ S :: wr := fun b hb => List.mem_cons_of_mem _ hb
  intro k
  induction k with
  | zero =>
    intro i s hk hi hst hS hR
    have hin : i = n := by omega
    subst hin
    refine codeAny_builtin PyProof.Rows.F.entry_set_update_loop ?_
    rw [Around.under_plainId PyProof.Rows.F.plain_set_update_loop _]
    show wpAny _ A.in1 (pyNext (.ref I) >>= _) _ _ s
    refine wpAny_bind (W.done s _ _ hst fun s' hm => ?_)
    show wpAny _ A.in1 (ret Value.none) _ _ s'
    exact wpAny_pure (hR s' (hm.mono hsub) (by
      obtain ⟨o, es, ep, t, ho, rest⟩ := hS
      exact ⟨o, es, ep, t, hm.heap S _ hSw ho, rest⟩))
  | succ k ih =>
    intro i s hk hi hst hS hR
    have hlt : i < n := by omega
    refine codeAny_builtin PyProof.Rows.F.entry_set_update_loop ?_
    rw [Around.under_plainId PyProof.Rows.F.plain_set_update_loop _]
    show wpAny _ A.in1 (pyNext (.ref I) >>= _) _ _ s
    refine wpAny_bind (W.item i s _ _ hlt hst fun v s' hP hst' hm => ?_)
    obtain ⟨key, hkey, his, hsc⟩ := hval i v hP
    have hS' : s'.heap.SetOf (mixKind prog w) S (fun j => (metK ks i).any fun x => decide (x = j)) (metK ks i).length := by
      obtain ⟨o, es, ep, tb, ho, rest⟩ := hS
      exact ⟨o, es, ep, tb, hm.heap S _ hSw ho, rest⟩
    show wpAny _ A.in1 (holding [v] (setAdd S v) >>= _) _ _ s'
    refine wpAny_bind (wpAny_holding ?_)
    unfold setAdd
    refine wpAny_holding ?_
    refine wpAny_bind ((mixKind prog w).pyHash (k := key) his ?_)
    have hroom : (metK ks i).length + 1 < scanBound := by have := metK_le ks i; omega
    refine wpAny_setAddHashed_of (knd := mixKind prog w) (s := { s' with toks := s'.toks + 1 }) his hsc hS' hroom fun h' hsb hS2 => ?_
    have hSi : h'.SetOf (mixKind prog w) S (fun j => (metK ks (i + 1)).any fun x => decide (x = j)) (metK ks (i + 1)).length :=
      setOf_congr hS2 (fun j => by rw [metK_succ hkey, stepK_any]) (by rw [metK_succ hkey, stepK_len])
    refine wpAny_pure ⟨plainId_quiet PyProof.Rows.F.plain_set_update_loop _, ih (i + 1) _ (by omega) hlt (W.frame _ s' _ _ hst' (Nat.le_succ _) fun b hb o e => ?_) hSi fun s'' hm'' hS'' => ?_⟩
    · rw [hsb.2 b (fun h : b = S => hSf (by rw [← h]; exact hb))]; exact e
    · refine hR s'' (Moved.trans W.gtrans ((hm.mono hsub).then_heap (Nat.le_succ _) fun b o hb e => ?_) hm'') hS''
      rw [hsb.2 b (fun h : b = S => hb (by rw [h]; exact List.mem_cons_self))]; exact e
end
section
variable {prog : Program} {w : World} {A : Around} {E : Value → Shared → Prop} {s : Shared}
set_option maxHeartbeats 3200000 in
theorem call_setK_list {l : Addr} {items : Array Value} {ks : List Key} {Q : Value → Shared → Prop} (hh : A.handled = none) (hl : s.heap.IsList l items) (hn : items.size = ks.length) (hval : ∀ (i : Nat) (v : Value), items[i]? = some v → ∃ k, ks[i]? = some k ∧ keyIs k v = true ∧ v.scannable = true)
    (hb : items.size + 1 < scanBound)
    (h : ∀ (h' : Heap) (tk : Nat), h'.SetOf (mixKind prog w) s.heap.objs.size (fun j => (metK ks ks.length).any fun x => decide (x = j)) (dcount ks) →
      (∀ b o, b < s.heap.objs.size → s.heap.get? b = some o → h'.get? b = some o) → Q (.ref s.heap.objs.size) { s with heap := h', toks := tk }) :
    wpAny (model prog w) A (call (.type "set") [.ref l]) Q E s := by
  obtain ⟨c, tl, hmro⟩ := PySem.F.called_set.mro
  have hmade := PySem.F.called_set.made
  have hsub := PySem.F.called_set.sub
  refine wpAny_call (codeAny_of_tree ?_)
  show wpAny _ _ (callAny (.type "set") _) _ _ _
  refine wpAny_pure ⟨Code.quiet_builtin _ (by decide +kernel), codeAny_builtin PySem.F.entry_type_call ?_⟩
  rw [Around.under_plain (weight_type_call_type "set" [.ref l] []) rfl]
  have h1 := PySem.F.called_set.notType
  have h2 := PySem.F.called_set.canCreate
  have hct := PySem.F.typeCall_set_1 (.ref l)
  repeat (any_goals (first | assumption | wp_step))
  refine codeAny_mono (code_set_new_1 (.ref l) (E := E) (Q₁ := fun obj s₁ => ∃ led : Bool, obj = .ref s.heap.objs.size ∧ s₁ = { s with heap := s.heap.push { cls := .type "set", dict := none, data := .set #[] 0 (.fresh 0 0 led) } }) fun led => ⟨led, rfl, rfl⟩) fun r s₁ hr => ?_
  cases r with
  | error e => exact hr
  | ok fl =>
    cases fl with
    | ret obj =>
      obtain ⟨led, rfl, rfl⟩ := hr
      have hS : (s.heap.push { cls := .type "set", dict := none, data := .set #[] 0 (.fresh 0 0 led) }).get? s.heap.objs.size = some { cls := .type "set", dict := none, data := .set #[] 0 (.fresh 0 0 led) } := Heap.get?_push_size _ rfl
      have hT : Shared.TypeIs { s with heap := s.heap.push { cls := .type "set", dict := none, data := .set #[] 0 (.fresh 0 0 led) } } (.ref s.heap.objs.size) "set" := ⟨_, hS, rfl⟩
      have hli := PySem.F.called_set.init.lookup
      have hbi := PySem.F.called_set.init.bind (.ref s.heap.objs.size)
      repeat (any_goals (first | assumption | wp_step))
      refine codeAny_mono (codeAny_call_builtin (R := wants (fun r s₂ => r = .none ∧ ∃ h' tk, s₂ = { s with heap := h', toks := tk } ∧
          h'.SetOf (mixKind prog w) s.heap.objs.size (fun j => (metK ks ks.length).any fun x => decide (x = j)) (dcount ks) ∧
          (∀ b o, b < s.heap.objs.size → s.heap.get? b = some o → h'.get? b = some o)) E) PySem.F.called_set.init.plain PySem.F.entry_set_init (check_set_init_1 hT ?_)) fun r₂ s₂ hr₂ => ?_
      · obtain ⟨ol, hol, hcl, nl, hdl⟩ := hl
        obtain ⟨ocls, odict, odata, oslots⟩ := ol
        simp only at hcl hdl
        subst hcl; subst hdl
        have hol' : (s.heap.push { cls := .type "set", dict := none, data := .set #[] 0 (.fresh 0 0 led) }).get? l = some { cls := .type "list", dict := odict, data := .seq items nl, slots := oslots } := Heap.get?_push_of_some _ hol
        have hsls := PySem.F.sub_list_set
        have hslf := PySem.F.sub_list_frozenset
        have hne : (Value.type "list" == Value.type "dict") = false := by decide
        have hl1 : (s.heap.push { cls := .type "set", dict := none, data := .set #[] 0 (.fresh 0 0 led) }).IsList l items := ⟨_, hol', rfl, nl, rfl⟩
        unfold Builtin.«set.__init__» noKeywords Builtin.Frozenset.updateFrom
        generalize hPI : pyIter = PI
        wp_walk
        subst hPI
        refine wpAny_pyIter_list hl1 ?_
        refine wpAny_bind (wpAny_runValue ?_)
        have hlS : l < s.heap.objs.size := Heap.lt_size hol
        have hh3 : A.in1.in1.in1.handled = none := by simp [hh]
        have hneI : l ≠ (s.heap.push { cls := .type "set", dict := none, data := .set #[] 0 (.fresh 0 0 led) }).objs.size := by
          rw [Heap.size_push]; exact Nat.ne_of_lt (Nat.lt_succ_of_lt hlS)
        have hSf : s.heap.objs.size ∉ [(s.heap.push { cls := .type "set", dict := none, data := .set #[] 0 (.fresh 0 0 led) }).objs.size, l] := by
          rw [Heap.size_push]; simp only [List.mem_cons, List.mem_singleton, List.not_mem_nil, or_false, not_or]
          exact ⟨Nat.ne_of_lt (Nat.lt_succ_self _), Nat.ne_of_gt hlS⟩
        refine set_loopK ((Walks.list hh3 _ l hneI items).toS) s.heap.objs.size hSf ks hn hval hb (items.size - 0) 0 _ (by omega) (Nat.zero_le _)
          ⟨⟨_, Heap.get?_push_size _ rfl, rfl, rfl⟩, (hl1.push _)⟩ ?hS0 ?hR
        case hS0 =>
          have hget : ((s.heap.push { cls := .type "set", dict := none, data := .set #[] 0 (.fresh 0 0 led) }).push { cls := .type "list_iterator", data := .fields #[.ref l, .int 0 0] }).get? s.heap.objs.size
              = some { cls := .type "set", dict := none, data := .set #[] 0 (.fresh 0 0 led) } := Heap.get?_push_of_some _ hS
          exact ⟨_, #[], 0, _, hget, ⟨rfl, rfl, rfl⟩, rfl, (fun e he => by simp at he), (fun k => by simp [metK]), (by decide), (by rfl), rfl⟩
        case hR =>
          intro s' hm hS'
          obtain ⟨h', g', d', tk', os'⟩ := s'
          have eg : g' = s.gens := hm.gens
          have ed : d' = s.drawn := hm.drawn
          have eo : os' = s.os := hm.os
          subst eg; subst ed; subst eo
          show wpAny _ _ _ _ _ _
          refine wpAny_pure ?_
          show wpAny _ _ (ret Value.none) _ _ _
          rw [hn] at hS'
          refine wpAny_pure ⟨rfl, h', tk', rfl, hS', fun b o hb e => ?_⟩
          have hb1 : b ≠ s.heap.objs.size := Nat.ne_of_lt hb
          have hb2 : b ≠ (s.heap.push { cls := .type "set", dict := none, data := .set #[] 0 (.fresh 0 0 led) }).objs.size := by
            rw [Heap.size_push]; exact Nat.ne_of_lt (Nat.lt_succ_of_lt hb)
          exact hm.heap b o (by simp only [List.mem_cons, List.mem_singleton, List.not_mem_nil, or_false, not_or]; exact ⟨hb1, hb2⟩) (Heap.get?_push_of_some _ (Heap.get?_push_of_some _ e))
      · cases r₂ with
        | error e => exact hr₂
        | ok fl₂ =>
          cases fl₂ with
          | ret r =>
            obtain ⟨rfl, h', tk, rfl, hS', hk'⟩ := hr₂
            repeat (any_goals (first | assumption | wp_step))
            exact h _ _ hS' hk'
          | _ => exact hr₂.elim
    | _ => exact hr.elim
theorem call_setK_tuple {l : Addr} {items : Array Value} {ks : List Key} {Q : Value → Shared → Prop} (hh : A.handled = none) (hl : s.heap.IsTuple l items) (hn : items.size = ks.length) (hval : ∀ (i : Nat) (v : Value), items[i]? = some v → ∃ k, ks[i]? = some k ∧ keyIs k v = true ∧ v.scannable = true)
    (hb : items.size + 1 < scanBound)
    (h : ∀ (h' : Heap) (tk : Nat), h'.SetOf (mixKind prog w) s.heap.objs.size (fun j => (metK ks ks.length).any fun x => decide (x = j)) (dcount ks) →
      (∀ b o, b < s.heap.objs.size → s.heap.get? b = some o → h'.get? b = some o) → Q (.ref s.heap.objs.size) { s with heap := h', toks := tk }) :
    wpAny (model prog w) A (call (.type "set") [.ref l]) Q E s := by
  obtain ⟨c, tl, hmro⟩ := PySem.F.called_set.mro
  have hmade := PySem.F.called_set.made
  have hsub := PySem.F.called_set.sub
  refine wpAny_call (codeAny_of_tree ?_)
  show wpAny _ _ (callAny (.type "set") _) _ _ _
  refine wpAny_pure ⟨Code.quiet_builtin _ (by decide +kernel), codeAny_builtin PySem.F.entry_type_call ?_⟩
  rw [Around.under_plain (weight_type_call_type "set" [.ref l] []) rfl]
  have h1 := PySem.F.called_set.notType
  have h2 := PySem.F.called_set.canCreate
  have hct := PySem.F.typeCall_set_1 (.ref l)
  repeat (any_goals (first | assumption | wp_step))
  refine codeAny_mono (code_set_new_1 (.ref l) (E := E) (Q₁ := fun obj s₁ => ∃ led : Bool, obj = .ref s.heap.objs.size ∧ s₁ = { s with heap := s.heap.push { cls := .type "set", dict := none, data := .set #[] 0 (.fresh 0 0 led) } }) fun led => ⟨led, rfl, rfl⟩) fun r s₁ hr => ?_
  cases r with
  | error e => exact hr
  | ok fl =>
    cases fl with
    | ret obj =>
      obtain ⟨led, rfl, rfl⟩ := hr
      have hS : (s.heap.push { cls := .type "set", dict := none, data := .set #[] 0 (.fresh 0 0 led) }).get? s.heap.objs.size = some { cls := .type "set", dict := none, data := .set #[] 0 (.fresh 0 0 led) } := Heap.get?_push_size _ rfl
      have hT : Shared.TypeIs { s with heap := s.heap.push { cls := .type "set", dict := none, data := .set #[] 0 (.fresh 0 0 led) } } (.ref s.heap.objs.size) "set" := ⟨_, hS, rfl⟩
      have hli := PySem.F.called_set.init.lookup
      have hbi := PySem.F.called_set.init.bind (.ref s.heap.objs.size)
      repeat (any_goals (first | assumption | wp_step))
      refine codeAny_mono (codeAny_call_builtin (R := wants (fun r s₂ => r = .none ∧ ∃ h' tk, s₂ = { s with heap := h', toks := tk } ∧
          h'.SetOf (mixKind prog w) s.heap.objs.size (fun j => (metK ks ks.length).any fun x => decide (x = j)) (dcount ks) ∧
          (∀ b o, b < s.heap.objs.size → s.heap.get? b = some o → h'.get? b = some o)) E) PySem.F.called_set.init.plain PySem.F.entry_set_init (check_set_init_1 hT ?_)) fun r₂ s₂ hr₂ => ?_
      · obtain ⟨ol, hol, hcl, nl, hdl⟩ := hl
        obtain ⟨ocls, odict, odata, oslots⟩ := ol
        simp only at hcl hdl
        subst hcl; subst hdl
        have hol' : (s.heap.push { cls := .type "set", dict := none, data := .set #[] 0 (.fresh 0 0 led) }).get? l = some { cls := .type "tuple", dict := odict, data := .seq items nl, slots := oslots } := Heap.get?_push_of_some _ hol
        have hsls := PySem.F.sub_tuple_set
        have hslf := PySem.F.sub_tuple_frozenset
        have hne : (Value.type "tuple" == Value.type "dict") = false := by decide
        have hl1 : (s.heap.push { cls := .type "set", dict := none, data := .set #[] 0 (.fresh 0 0 led) }).IsTuple l items := ⟨_, hol', rfl, nl, rfl⟩
        unfold Builtin.«set.__init__» noKeywords Builtin.Frozenset.updateFrom
        generalize hPI : pyIter = PI
        wp_walk
        subst hPI
        refine wpAny_pyIter_tuple hl1 ?_
        refine wpAny_bind (wpAny_runValue ?_)
        have hlS : l < s.heap.objs.size := Heap.lt_size hol
        have hh3 : A.in1.in1.in1.handled = none := by simp [hh]
        have hneI : l ≠ (s.heap.push { cls := .type "set", dict := none, data := .set #[] 0 (.fresh 0 0 led) }).objs.size := by
          rw [Heap.size_push]; exact Nat.ne_of_lt (Nat.lt_succ_of_lt hlS)
        have hSf : s.heap.objs.size ∉ [(s.heap.push { cls := .type "set", dict := none, data := .set #[] 0 (.fresh 0 0 led) }).objs.size, l] := by
          rw [Heap.size_push]; simp only [List.mem_cons, List.mem_singleton, List.not_mem_nil, or_false, not_or]
          exact ⟨Nat.ne_of_lt (Nat.lt_succ_self _), Nat.ne_of_gt hlS⟩
        refine set_loopK ((Walks.tuple hh3 _ l hneI items).toS) s.heap.objs.size hSf ks hn hval hb (items.size - 0) 0 _ (by omega) (Nat.zero_le _)
          ⟨⟨_, Heap.get?_push_size _ rfl, rfl, rfl⟩, (hl1.push _)⟩ ?hS0 ?hR
        case hS0 =>
          have hget : ((s.heap.push { cls := .type "set", dict := none, data := .set #[] 0 (.fresh 0 0 led) }).push { cls := .type "tuple_iterator", data := .fields #[.ref l, .int 0 0] }).get? s.heap.objs.size
              = some { cls := .type "set", dict := none, data := .set #[] 0 (.fresh 0 0 led) } := Heap.get?_push_of_some _ hS
          exact ⟨_, #[], 0, _, hget, ⟨rfl, rfl, rfl⟩, rfl, (fun e he => by simp at he), (fun k => by simp [metK]), (by decide), (by rfl), rfl⟩
        case hR =>
          intro s' hm hS'
          obtain ⟨h', g', d', tk', os'⟩ := s'
          have eg : g' = s.gens := hm.gens
          have ed : d' = s.drawn := hm.drawn
          have eo : os' = s.os := hm.os
          subst eg; subst ed; subst eo
          show wpAny _ _ _ _ _ _
          refine wpAny_pure ?_
          show wpAny _ _ (ret Value.none) _ _ _
          rw [hn] at hS'
          refine wpAny_pure ⟨rfl, h', tk', rfl, hS', fun b o hb e => ?_⟩
          have hb1 : b ≠ s.heap.objs.size := Nat.ne_of_lt hb
          have hb2 : b ≠ (s.heap.push { cls := .type "set", dict := none, data := .set #[] 0 (.fresh 0 0 led) }).objs.size := by
            rw [Heap.size_push]; exact Nat.ne_of_lt (Nat.lt_succ_of_lt hb)
          exact hm.heap b o (by simp only [List.mem_cons, List.mem_singleton, List.not_mem_nil, or_false, not_or]; exact ⟨hb1, hb2⟩) (Heap.get?_push_of_some _ (Heap.get?_push_of_some _ e))
      · cases r₂ with
        | error e => exact hr₂
        | ok fl₂ =>
          cases fl₂ with
          | ret r =>
            obtain ⟨rfl, h', tk, rfl, hS', hk'⟩ := hr₂
            repeat (any_goals (first | assumption | wp_step))
            exact h _ _ hS' hk'
          | _ => exact hr₂.elim
    | _ => exact hr.elim
end
/-! ### len(set(xs)) -/
def tLenSetK (K : PySem.W.Frag) (ta : TE) : TE := fun σ H Q => ta σ H fun x H1 => ∃ (l : Addr) (ks : List Key), x = .ref l ∧ (SqL K H1 l (ks.map kV) ∨ SqT K H1 l (ks.map kV)) ∧ ks.length ≤ 4000 ∧ Q (.int (dcount ks : Nat)) H1
theorem kV_keyIs {k : Key} {v : Value} (r : RelV (kV k) v) : keyIs k v = true := by
  cases k with
  | inl i =>
    obtain ⟨t, rfl⟩ := r
    exact keyIs_int i t
  | inr x =>
    obtain ⟨t, rfl⟩ := r
    exact keyIs_str x t
theorem vals_keys : ∀ {ks : List Key} {us : List Value}, Vals (ks.map kV) us → ∀ (i : Nat) (v : Value), us[i]? = some v → ∃ k, ks[i]? = some k ∧ keyIs k v = true ∧ v.scannable = true
  | [], _, .nil, i, v, h => by simp at h
  | k :: ks, _, .cons r t, 0, v, h => by
    simp at h
    subst h
    exact ⟨k, rfl, kV_keyIs r, key_scan r⟩
  | k :: ks, _, .cons r t, i + 1, v, h => by
    obtain ⟨k', h1, h2⟩ := vals_keys t i v (by simpa using h)
    exact ⟨k', by simpa using h1, h2⟩
theorem c_lenSet {X : Cx} {a : Expr} {ta : TE} {p p2 q pos : Pos} (T : Txt X.K X.mg) (ha : PE X a ta) (hg : Gl X "len" := by rfl) (hg2 : Gl X "set" := by rfl) (hc : X.calm = true := by rfl)
    (na : starEach [a] X.env = (false, eval a X.env) :: starEach [] X.env := by rfl) : PE X (.Call (.Name "len" p) [.Call (.Name "set" p2) [a] [] q] [] pos) (tLenSetK X.K ta) := by
  refine ⟨fun pins s σ H Q I h => ?_⟩
  refine Call_ (ld_blt I hg T.z_len bt_len ?_)
  refine PyProof.Rows.callWith_builtin1 (PyProof.Rows.args_cons ?_ rfl) rfl rfl
  refine Call_ (ld_blt I hg2 T.z_set bt_set ?_)
  refine PyProof.Rows.callWith_type1 (PyProof.Rows.args_cons (thn (ha.run pins s σ H _ I h) fun v s1 ⟨x, H1, I1, r1, q1⟩ => PyProof.Rows.args_nil ?_) na) na rfl
  obtain ⟨l, ks, rfl, hq, hl, q1⟩ := q1
  cases r1
  have hle : dcount ks ≤ 4000 := Nat.le_trans (metK_le ks ks.length) hl
  have fin : ∀ (h' : Heap) (tk : Nat), h'.SetOf (mixKind X.prog X.w) s1.heap.objs.size (fun j => (metK ks ks.length).any fun x => decide (x = j)) (dcount ks) → (∀ b o, b < s1.heap.objs.size → s1.heap.get? b = some o → h'.get? b = some o) →
      wpAny (model X.prog X.w) X.A (spliced (backTo pos (starEach [] X.env))) (fun vs s₂ => wpAny (model X.prog X.w) X.A (call (.builtin "len") (Value.ref s1.heap.objs.size :: vs)) (EP X pins σ Q) X.xe s₂) X.xe { s1 with heap := h', toks := tk } := fun h' tk hS hk => by
    refine PyProof.Rows.args_nil ?_
    obtain ⟨o, es, ep, t, ho, hex, hd, _, _, _, hf, hn⟩ := hS
    have I2 : Inv X pins σ H1 { s1 with heap := h', toks := tk } := I1.kept fun b o e => hk b o (Heap.lt_size e) e
    refine call_len_set ho hex hd hf (by rw [hn]; omega) ⟨.int (dcount ks), H1, I2.tok _, ⟨_, by rw [hn]⟩, q1⟩
  rcases hq with hq | hq
  · obtain ⟨its, r, pl, hz⟩ := I1.list hq
    have hsz : its.toArray.size = ks.length := by rw [List.size_toArray, ← r.length, List.length_map]
    exact call_setK_list (I1.ok.hd hc) pl.isList hsz (fun i v e => vals_keys r i v (by simpa using e)) (by rw [hsz]; unfold scanBound; omega) fin
  · obtain ⟨its, r, pl, hz⟩ := I1.tuple hq
    have hsz : its.toArray.size = ks.length := by rw [List.size_toArray, ← r.length, List.length_map]
    exact call_setK_tuple (I1.ok.hd hc) pl hsz (fun i v e => vals_keys r i v (by simpa using e)) (by rw [hsz]; unfold scanBound; omega) fin
end K57
/-! D1 -/
set_option maxHeartbeats 4000000
namespace K57
open PySem PySem.Spec PyProof.Rows L2 He
section
variable {P : Program} {w : World} {K : PySem.W.Frag} {mg : Str → Option Value} {base : Heap}
/-! ### is_integer -/
def isInt : PyData → Bool
  | .int _ => true
  | _ => false
theorem isInt_eq (d : PyData) : (isT "int" d && !isT "bool" d) = isInt d := by cases d <;> rfl
def spIsInt : Sp := fun vs H Q _ => ∃ v d, vs = [v] ∧ Dq H v d ∧ Q (.bl (isInt d)) H
theorem sc_is_integer : FnScope ["value"] ["value"] (defScope sIsInteger) := ⟨rfl, rfl, rfl, by decide +kernel, rfl, by decide +kernel, by decide +kernel⟩
theorem ok_is_integer (T : Txt K mg) : FnOk P w K mg base CX0 1 (ga K "is_integer") (fdAt K (ga K "is_integer")) ["value"] spIsInt := by
  refine T.f_is_integer.ok sc_is_integer (fun vs H Q E h => ?_) (fun cdv A outer s H vs Q E hr h => ?_)
  · obtain ⟨v, d, rfl, _⟩ := h
    rfl
  obtain ⟨v, d, rfl, hv, q⟩ := h
  refine ⟨_, PSs.nox (pss_one (ps_ret (pe_and (b_isinstance call_isi T (pa_cons (pv 0) (pa_cons (n_int T) pa_nil))) (pe_one (pe_not (b_isinstance call_isi T (pa_cons (pv 0) (pa_cons (n_bool T) pa_nil)))))))), ?_⟩
  refine ⟨_, rfl, _, _, _, _, _, rfl, .ty _, hv.ty, kit_dt "int" (by simp) d, _, rfl, ?_⟩
  have e := isInt_eq d
  refine ite2 (fun c => ?_) (fun c => ?_)
  · refine ⟨_, rfl, _, _, _, _, _, rfl, .ty _, hv.ty, kit_dt "bool" (by simp) d, _, rfl, ?_⟩
    rw [c] at e
    rw [← e] at q
    exact q
  · rw [Bool.not_eq_true] at c
    rw [c] at e
    rw [← e] at q
    exact q
theorem bd_is_integer {K : PySem.W.Frag} {mg : Str → Option Value} (T : Txt K mg) : Binds K (fdAt K (ga K "is_integer")) ["value"] [] := T.f_is_integer.bindsN fun _ _ _ _ _ _ us hl => match us, hl with | [_], _ => rfl
theorem c_is_integer {X : Cx} {e : Expr} {es : List Expr} {t : TA} {p pos : Pos} (T : Txt X.K X.mg) (hr : Room 1 X.A) (ha : PA X (e :: es) t) (hg : Gl X "is_integer" := by rfl) (he : starEach (e :: es) X.env = (false, eval e X.env) :: starEach es X.env := by rfl) (hpl : (backTo pos (starEach es X.env)).any (·.1) = false := by rfl) :
    PE X (.Call (.Name "is_integer" p) (e :: es) [] pos) (tCall (spIsInt) [] E0 t) := pe_call (ok_is_integer T) hr hg T.g_is_integer T.f_is_integer.kp (bd_is_integer T) .nil pass0 ha (by decide) he hpl
/-! ### is_line -/
def lineB (n : Int) : PyData → Bool
  | .int i => decide (0 ≤ i) && decide (i < n)
  | _ => false
def spIsLine : Sp := fun vs H Q _ => ∃ n v d, vs = [.int n, v] ∧ Dq H v d ∧ Q (.bl (lineB n d)) H
theorem sc_is_line : FnScope ["size", "value"] ["size", "value"] (defScope sIsLine) := ⟨rfl, rfl, rfl, by decide +kernel, rfl, by decide +kernel, by decide +kernel⟩
theorem ok_is_line (T : Txt K mg) : FnOk P w K mg base CX0 2 (ga K "is_line") (fdAt K (ga K "is_line")) ["size", "value"] spIsLine := by
  refine T.f_is_line.ok sc_is_line (fun vs H Q E h => ?_) (fun cdv A outer s H vs Q E hr h => ?_)
  · obtain ⟨n, v, d, rfl, _⟩ := h
    rfl
  obtain ⟨n, v, d, rfl, hv, q⟩ := h
  refine ⟨_, PSs.nox (pss_one (ps_ret (pe_and (c_is_integer T (hr.mono (by decide)) (pa_cons (pv 1) pa_nil)) (pe_one (pe_chain op_le op_lt pe_int (pv 1) (pv 0)))))), ?_⟩
  refine ⟨_, rfl, v, d, rfl, hv, _, rfl, ?_⟩
  refine ite2 (fun c => ?_) (fun c => ?_)
  · cases hv with
    | int i =>
      refine ⟨_, rfl, _, _, rfl, rfl, _, rfl, ?_⟩
      have q' : Q (.bl (decide (0 ≤ i) && decide (i < n))) H := q
      refine ite2 (fun c1 => ?_) (fun c1 => ?_)
      · rw [c1] at q'
        exact ⟨_, rfl, _, _, rfl, rfl, q'⟩
      · rw [Bool.not_eq_true] at c1
        rw [c1] at q'
        exact q'
    | _ => cases c
  · cases hv with
    | int i => exact absurd rfl c
    | _ => exact q
theorem bd_is_line {K : PySem.W.Frag} {mg : Str → Option Value} (T : Txt K mg) : Binds K (fdAt K (ga K "is_line")) ["size", "value"] [] := T.f_is_line.bindsN fun _ _ _ _ _ _ us hl => match us, hl with | [_, _], _ => rfl
theorem c_is_line {X : Cx} {e : Expr} {es : List Expr} {t : TA} {p pos : Pos} (T : Txt X.K X.mg) (hr : Room 2 X.A) (ha : PA X (e :: es) t) (hg : Gl X "is_line" := by rfl) (he : starEach (e :: es) X.env = (false, eval e X.env) :: starEach es X.env := by rfl) (hpl : (backTo pos (starEach es X.env)).any (·.1) = false := by rfl) :
    PE X (.Call (.Name "is_line" p) (e :: es) [] pos) (tCall (spIsLine) [] E0 t) := pe_call (ok_is_line T) hr hg T.g_is_line T.f_is_line.kp (bd_is_line T) .nil pass0 ha (by decide) he hpl
end
end K57
/-! D2 -/
namespace K57
open PySem PySem.Spec PyProof.Rows L2 He
/-- two lines, the first one the lesser -/
def ltD : PyData → PyData → Bool
  | .int i, .int j => decide (i < j)
  | _, _ => false
def neD : PyData → PyData → Bool
  | .int i, .int j => !decide (i = j)
  | _, _ => false
def coupB (R : PyData → PyData → Bool) (n : Int) : PyData → Bool
  | .tuple [a, b] => lineB n a && (lineB n b && R a b)
  | _ => false
abbrev stepB := coupB ltD
abbrev pairB := coupB neD
theorem coupB_no {R : PyData → PyData → Bool} {n : Int} {d : PyData} (h : isT "tuple" d = false) : coupB R n d = false := by
  cases d <;> first | rfl | cases h
theorem coupB_len {R : PyData → PyData → Bool} {n : Int} {ds : List PyData} (h : ds.length ≠ 2) : coupB R n (.tuple ds) = false := by
  match ds, h with
  | [], _ => rfl
  | [_], _ => rfl
  | [_, _], h => exact absurd rfl h
  | _ :: _ :: _ :: _, _ => rfl
theorem lineB_int {n : Int} {d : PyData} (h : lineB n d = true) : ∃ i, d = .int i ∧ 0 ≤ i ∧ i < n := by
  cases d with
  | int i =>
    have h' : (decide (0 ≤ i) && decide (i < n)) = true := h
    rw [Bool.and_eq_true] at h'
    exact ⟨i, rfl, of_decide_eq_true h'.1, of_decide_eq_true h'.2⟩
  | _ => cases h
theorem at0 {α : Type} {a b : α} : atI [a, b] 0 = some a := atI_nat (j := 0) rfl
theorem at1 {α : Type} {a b : α} : atI [a, b] 1 = some b := atI_nat (j := 1) rfl
theorem decInt {i j : Int} : decide (V.int i = V.int j) = decide (i = j) := by
  by_cases h : i = j
  · subst h; rw [decide_eq_true rfl, decide_eq_true rfl]
  · rw [decide_eq_false h, decide_eq_false fun z => h (V.int.inj z)]
theorem iteB {c : Bool} {A B : Prop} (h1 : c = true → A) (h2 : c = false → B) : if c = true then A else B := by
  cases c
  · exact iteF (h2 rfl)
  · exact iteT (h1 rfl)
def spStep (R : PyData → PyData → Bool) : Sp := fun vs H Q _ => ∃ n v d, vs = [.int n, v] ∧ Dq H v d ∧ Q (.bl (coupB R n d)) H
section
variable {P : Program} {w : World} {K : PySem.W.Frag} {mg : Str → Option Value} {base : Heap}
/-! ### is_step -/
theorem sc_is_step : FnScope ["size", "value"] ["size", "value"] (defScope sIsStep) := ⟨rfl, rfl, rfl, by decide +kernel, rfl, by decide +kernel, by decide +kernel⟩
theorem ok_is_step (T : Txt K mg) : FnOk P w K mg base CX0 3 (ga K "is_step") (fdAt K (ga K "is_step")) ["size", "value"] (spStep ltD) := by
  refine T.f_is_step.ok sc_is_step (fun vs H Q E h => ?_) (fun cdv A outer s H vs Q E hr h => ?_)
  · obtain ⟨n, v, d, rfl, _⟩ := h
    rfl
  obtain ⟨n, v, d, rfl, hv, q⟩ := h
  refine ⟨_, PSs.nox (pss_cons (ps_if (PW.pt (pw_or (pt_not (pt_val (b_isinstance call_isi T (pa_cons (pv 1) (pa_cons (n_tuple T) pa_nil))))) (pw_or1 (pt_cmpR op_ne (b_len call_len_seq T (pa_cons (pv 1) pa_nil)) pe_int (nomark _))))) (pss_one (ps_ret pe_bl)) pss_nil)
    (pss_one (ps_ret (pe_and (c_is_line T (hr.mono (by decide)) (pa_cons (pv 0) (pa_cons (pe_ix ix_tup (pv 1) pe_int (fun _ _ => rfl)) pa_nil))) (pe_and (c_is_line T (hr.mono (by decide)) (pa_cons (pv 0) (pa_cons (pe_ix ix_tup (pv 1) pe_int (fun _ _ => rfl)) pa_nil))) (pe_one (pe_cmpR op_lt (pe_ix ix_tup (pv 1) pe_int (fun _ _ => rfl)) (pe_ix ix_tup (pv 1) pe_int (fun _ _ => rfl)) (nomark _)))))))), ?_⟩
  refine ⟨_, rfl, _, _, _, _, _, rfl, .ty _, hv.ty, kit_dt "tuple" (by simp) d, _, rfl, ?_⟩
  refine iteB (fun c => ?_) (fun c => ?_)
  · have c' : isT "tuple" d = false := by rw [Bool.not_eq_true'] at c; exact c
    rw [coupB_no c'] at q
    exact iteT q
  cases hv with
  | @tup a xs ds ha hd =>
    have hl := hd.length
    refine ⟨_, rfl, a, xs, rfl, .inr (SqT.of ha), rfl, _, rfl, ?_⟩
    refine iteB (fun c1 => ?_) (fun c1 => ?_)
    · have c2 : ds.length ≠ 2 := fun z => by rw [hl, z] at c1; cases c1
      rw [coupB_len c2] at q
      exact q
    · have c2 : ds.length = 2 := by
        rw [Bool.not_eq_false'] at c1
        have := V.int.inj (of_decide_eq_true c1)
        omega
      match ds, hd, c2 with
      | [d1, d2], .cons (v := x1) h1 (.cons (v := x2) h2 .nil), _ =>
        refine ⟨_, rfl, _, rfl, _, _, _, _, rfl, rfl, SqT.of ha, at0, n, x1, d1, rfl, h1, _, rfl, ?_⟩
        have q' : Q (.bl (lineB n d1 && (lineB n d2 && ltD d1 d2))) H := q
        refine iteB (fun c3 => ?_) (fun c3 => ?_)
        · rw [c3] at q'
          refine ⟨_, rfl, _, rfl, _, _, _, _, rfl, rfl, SqT.of ha, at1, n, x2, d2, rfl, h2, _, rfl, ?_⟩
          refine iteB (fun c4 => ?_) (fun c4 => ?_)
          · rw [c4] at q'
            obtain ⟨i, rfl, _⟩ := lineB_int c3
            obtain ⟨j, rfl, _⟩ := lineB_int c4
            cases h1.int_
            cases h2.int_
            exact ⟨_, rfl, _, _, _, _, rfl, rfl, SqT.of ha, at0, _, rfl, _, _, _, _, rfl, rfl, SqT.of ha, at1, _, _, rfl, rfl, q'⟩
          · rw [c4] at q'
            exact q'
        · rw [c3] at q'
          exact q'
  | _ => cases c
theorem bd_is_step {K : PySem.W.Frag} {mg : Str → Option Value} (T : Txt K mg) : Binds K (fdAt K (ga K "is_step")) ["size", "value"] [] := T.f_is_step.bindsN fun _ _ _ _ _ _ us hl => match us, hl with | [_, _], _ => rfl
theorem c_is_step {X : Cx} {e : Expr} {es : List Expr} {t : TA} {p pos : Pos} (T : Txt X.K X.mg) (hr : Room 3 X.A) (ha : PA X (e :: es) t) (hg : Gl X "is_step" := by rfl) (he : starEach (e :: es) X.env = (false, eval e X.env) :: starEach es X.env := by rfl) (hpl : (backTo pos (starEach es X.env)).any (·.1) = false := by rfl) :
    PE X (.Call (.Name "is_step" p) (e :: es) [] pos) (tCall (spStep ltD) [] E0 t) := pe_call (ok_is_step T) hr hg T.g_is_step T.f_is_step.kp (bd_is_step T) .nil pass0 ha (by decide) he hpl
/-! ### is_pair -/
theorem sc_is_pair : FnScope ["size", "value"] ["size", "value"] (defScope sIsPair) := ⟨rfl, rfl, rfl, by decide +kernel, rfl, by decide +kernel, by decide +kernel⟩
theorem ok_is_pair (T : Txt K mg) : FnOk P w K mg base CX0 3 (ga K "is_pair") (fdAt K (ga K "is_pair")) ["size", "value"] (spStep neD) := by
  refine T.f_is_pair.ok sc_is_pair (fun vs H Q E h => ?_) (fun cdv A outer s H vs Q E hr h => ?_)
  · obtain ⟨n, v, d, rfl, _⟩ := h
    rfl
  obtain ⟨n, v, d, rfl, hv, q⟩ := h
  refine ⟨_, PSs.nox (pss_cons (ps_if (PW.pt (pw_or (pt_not (pt_val (b_isinstance call_isi T (pa_cons (pv 1) (pa_cons (n_tuple T) pa_nil))))) (pw_or1 (pt_cmpR op_ne (b_len call_len_seq T (pa_cons (pv 1) pa_nil)) pe_int (nomark _))))) (pss_one (ps_ret pe_bl)) pss_nil)
    (pss_one (ps_ret (pe_and (c_is_line T (hr.mono (by decide)) (pa_cons (pv 0) (pa_cons (pe_ix ix_tup (pv 1) pe_int (fun _ _ => rfl)) pa_nil))) (pe_and (c_is_line T (hr.mono (by decide)) (pa_cons (pv 0) (pa_cons (pe_ix ix_tup (pv 1) pe_int (fun _ _ => rfl)) pa_nil))) (pe_one (pe_cmpR op_ne (pe_ix ix_tup (pv 1) pe_int (fun _ _ => rfl)) (pe_ix ix_tup (pv 1) pe_int (fun _ _ => rfl)) (nomark _)))))))), ?_⟩
  refine ⟨_, rfl, _, _, _, _, _, rfl, .ty _, hv.ty, kit_dt "tuple" (by simp) d, _, rfl, ?_⟩
  refine iteB (fun c => ?_) (fun c => ?_)
  · have c' : isT "tuple" d = false := by rw [Bool.not_eq_true'] at c; exact c
    rw [coupB_no c'] at q
    exact iteT q
  cases hv with
  | @tup a xs ds ha hd =>
    have hl := hd.length
    refine ⟨_, rfl, a, xs, rfl, .inr (SqT.of ha), rfl, _, rfl, ?_⟩
    refine iteB (fun c1 => ?_) (fun c1 => ?_)
    · have c2 : ds.length ≠ 2 := fun z => by rw [hl, z] at c1; cases c1
      rw [coupB_len c2] at q
      exact q
    · have c2 : ds.length = 2 := by
        rw [Bool.not_eq_false'] at c1
        have := V.int.inj (of_decide_eq_true c1)
        omega
      match ds, hd, c2 with
      | [d1, d2], .cons (v := x1) h1 (.cons (v := x2) h2 .nil), _ =>
        refine ⟨_, rfl, _, rfl, _, _, _, _, rfl, rfl, SqT.of ha, at0, n, x1, d1, rfl, h1, _, rfl, ?_⟩
        have q' : Q (.bl (lineB n d1 && (lineB n d2 && neD d1 d2))) H := q
        refine iteB (fun c3 => ?_) (fun c3 => ?_)
        · rw [c3] at q'
          refine ⟨_, rfl, _, rfl, _, _, _, _, rfl, rfl, SqT.of ha, at1, n, x2, d2, rfl, h2, _, rfl, ?_⟩
          refine iteB (fun c4 => ?_) (fun c4 => ?_)
          · rw [c4] at q'
            obtain ⟨i, rfl, _⟩ := lineB_int c3
            obtain ⟨j, rfl, _⟩ := lineB_int c4
            cases h1.int_
            cases h2.int_
            refine ⟨_, rfl, _, _, _, _, rfl, rfl, SqT.of ha, at0, _, rfl, _, _, _, _, rfl, rfl, SqT.of ha, at1, rfl, ?_⟩
            rw [decInt]
            exact q'
          · rw [c4] at q'
            exact q'
        · rw [c3] at q'
          exact q'
  | _ => cases c
theorem bd_is_pair {K : PySem.W.Frag} {mg : Str → Option Value} (T : Txt K mg) : Binds K (fdAt K (ga K "is_pair")) ["size", "value"] [] := T.f_is_pair.bindsN fun _ _ _ _ _ _ us hl => match us, hl with | [_, _], _ => rfl
theorem c_is_pair {X : Cx} {e : Expr} {es : List Expr} {t : TA} {p pos : Pos} (T : Txt X.K X.mg) (hr : Room 3 X.A) (ha : PA X (e :: es) t) (hg : Gl X "is_pair" := by rfl) (he : starEach (e :: es) X.env = (false, eval e X.env) :: starEach es X.env := by rfl) (hpl : (backTo pos (starEach es X.env)).any (·.1) = false := by rfl) :
    PE X (.Call (.Name "is_pair" p) (e :: es) [] pos) (tCall (spStep neD) [] E0 t) := pe_call (ok_is_pair T) hr hg T.g_is_pair T.f_is_pair.kp (bd_is_pair T) .nil pass0 ha (by decide) he hpl
end
end K57
/-! M1 -/
/-! The closing of pairs, in plain Lean: the program's way and the law's are one fold. -/
namespace K57
abbrev Rel2 : Type := Nat → Nat → Bool
def wrow (n m a : Nat) (R : Rel2) : Rel2 := fun x y => R x y || (decide (x = a) && (decide (y < n) && (R a m && R m y)))
def wmid (n m : Nat) (R : Rel2) : Nat → Rel2
  | 0 => R
  | a + 1 => wrow n m a (wmid n m R a)
def warshTo (n : Nat) (R : Rel2) : Nat → Rel2
  | 0 => R
  | m + 1 => wmid n m (warshTo n R m) n
def warsh (n : Nat) (R : Rel2) : Rel2 := warshTo n R n
theorem wmid_spec (n m : Nat) (R : Rel2) : ∀ (a x y : Nat), wmid n m R a x y = (R x y || (decide (x < a) && (decide (y < n) && (R x m && R m y))))
  | 0, x, y => by simp [wmid]
  | a + 1, x, y => by
    have h1 := wmid_spec n m R a x y
    have h2 := wmid_spec n m R a a m
    have h3 := wmid_spec n m R a m y
    show (wmid n m R a x y || (decide (x = a) && (decide (y < n) && (wmid n m R a a m && wmid n m R a m y)))) = _
    rw [h1, h2, h3]
    have e1 : decide (a < a) = false := by simp
    rw [e1]
    by_cases hx : x = a
    · subst hx
      have e2 : decide (x < x + 1) = true := by simp
      have e4 : decide (x = x) = true := by simp
      rw [e1, e2, e4]
      generalize decide (y < n) = b1
      generalize decide (m < x) = b2
      generalize decide (m < n) = b3
      cases R x y <;> cases R x m <;> cases R m y <;> cases b1 <;> cases b2 <;> cases b3 <;> cases R m m <;> rfl
    · have e2 : decide (x = a) = false := by simp [hx]
      have e3 : decide (x < a + 1) = decide (x < a) := by
        by_cases h : x < a
        · rw [decide_eq_true h, decide_eq_true (by omega)]
        · rw [decide_eq_false h, decide_eq_false (by omega)]
      rw [e2, e3]
      cases R x y <;> cases (decide (x < a) && (decide (y < n) && (R x m && R m y))) <;> rfl
theorem wmid_full {n m x y : Nat} {R : Rel2} (hx : x < n) (hy : y < n) : wmid n m R n x y = (R x y || (R x m && R m y)) := by
  rw [wmid_spec, decide_eq_true hx, decide_eq_true hy]
  rfl
/-- R holds along T, as far as n -/
def Sub2 (n : Nat) (R T : Rel2) : Prop := ∀ x y, x < n → y < n → R x y = true → T x y = true
def Trans2 (n : Nat) (T : Rel2) : Prop := ∀ x y z, x < n → y < n → z < n → T x y = true → T y z = true → T x z = true
theorem Sub2.refl (n : Nat) (R : Rel2) : Sub2 n R R := fun _ _ _ _ h => h
theorem warshTo_sub {n : Nat} {R T : Rel2} (h : Sub2 n R T) (t : Trans2 n T) : ∀ {k : Nat}, k ≤ n → Sub2 n (warshTo n R k) T
  | 0, _ => h
  | k + 1, hk => fun x y hx hy e => by
    have ih := warshTo_sub h t (k := k) (by omega)
    have e' : wmid n k (warshTo n R k) n x y = true := e
    rw [wmid_full hx hy, Bool.or_eq_true, Bool.and_eq_true] at e'
    rcases e' with e' | ⟨e1, e2⟩
    · exact ih x y hx hy e'
    · exact t x k y hx (by omega) hy (ih x k hx (by omega) e1) (ih k y (by omega) hy e2)
theorem warsh_sub {n : Nat} {R T : Rel2} (h : Sub2 n R T) (t : Trans2 n T) : Sub2 n (warsh n R) T := warshTo_sub h t (Nat.le_refl _)
theorem warshTo_ge {n : Nat} {R : Rel2} : ∀ {k : Nat}, Sub2 n R (warshTo n R k)
  | 0 => .refl _ _
  | k + 1 => fun x y hx hy e => by
    show wmid n k (warshTo n R k) n x y = true
    rw [wmid_full hx hy, warshTo_ge (k := k) x y hx hy e]
    rfl
theorem warsh_ge {n : Nat} {R : Rel2} : Sub2 n R (warsh n R) := warshTo_ge
/-- paths over the first k lines -/
theorem warshTo_trans {n : Nat} {R : Rel2} : ∀ {k : Nat}, k ≤ n → ∀ x c y, x < n → c < k → y < n → warshTo n R k x c = true → warshTo n R k c y = true → warshTo n R k x y = true
  | 0, _, _, _, _, _, hc, _, _, _ => by omega
  | k + 1, hk, x, c, y, hx, hc, hy, e1, e2 => by
    have hk' : k ≤ n := by omega
    have ih := fun x c y hx hc hy => warshTo_trans (n := n) (R := R) (k := k) hk' x c y hx hc hy
    have e1' : wmid n k (warshTo n R k) n x c = true := e1
    have e2' : wmid n k (warshTo n R k) n c y = true := e2
    show wmid n k (warshTo n R k) n x y = true
    have hcn : c < n := by omega
    have hkn : k < n := by omega
    rw [wmid_full hx hcn, Bool.or_eq_true, Bool.and_eq_true] at e1'
    rw [wmid_full hcn hy, Bool.or_eq_true, Bool.and_eq_true] at e2'
    rw [wmid_full hx hy, Bool.or_eq_true, Bool.and_eq_true]
    by_cases z : c = k
    · subst z
      have a : warshTo n R c x c = true := e1'.elim id fun h => h.1
      have b : warshTo n R c c y = true := e2'.elim id fun h => h.2
      exact .inr ⟨a, b⟩
    · have hck : c < k := by omega
      rcases e1' with e1' | ⟨p1, p2⟩
      · rcases e2' with e2' | ⟨q1, q2⟩
        · exact .inl (ih x c y hx hck hy e1' e2')
        · exact .inr ⟨ih x c k hx hck hkn e1' q1, q2⟩
      · rcases e2' with e2' | ⟨q1, q2⟩
        · exact .inr ⟨p1, ih k c y hkn hck hy p2 e2'⟩
        · exact .inr ⟨p1, q2⟩
theorem warsh_trans {n : Nat} {R : Rel2} : Trans2 n (warsh n R) := fun x y z hx hy hz => warshTo_trans (Nat.le_refl _) x y z hx hy hz
theorem eq_of_sub2 {n : Nat} {R T : Rel2} (a : Sub2 n R T) (b : Sub2 n T R) {x y : Nat} (hx : x < n) (hy : y < n) : R x y = T x y := by
  cases h : R x y
  · cases h' : T x y
    · rfl
    · rw [b x y hx hy h'] at h
      cases h
  · rw [a x y hx hy h]
theorem warsh_ext {n : Nat} {R T : Rel2} (h : ∀ x y, x < n → y < n → R x y = T x y) {x y : Nat} (hx : x < n) (hy : y < n) : warsh n R x y = warsh n T x y := by
  refine eq_of_sub2 (warsh_sub ?_ warsh_trans) (warsh_sub ?_ warsh_trans) hx hy
  · intro x y hx hy e
    rw [h x y hx hy] at e
    exact warsh_ge x y hx hy e
  · intro x y hx hy e
    rw [← h x y hx hy] at e
    exact warsh_ge x y hx hy e
theorem warsh_self {n : Nat} {R : Rel2} (t : Trans2 n R) {x y : Nat} (hx : x < n) (hy : y < n) : warsh n R x y = R x y := eq_of_sub2 (warsh_sub (.refl _ _) t) warsh_ge hx hy
/-! ### rows -/
def row2 (a b : Nat) : List Int := [(a : Int), (b : Int)]
def initR (rows : List (List Int)) : Rel2 := fun a b => rows.contains (row2 a b)
/-- all pairs, in order -/
def pairsAt (n : Nat) (R : Rel2) (a : Nat) : List (List Int) := ((List.range n).filter fun b => R a b).map (row2 a)
def pairsTo (n : Nat) (R : Rel2) (k : Nat) : List (List Int) := (List.range k).flatMap (pairsAt n R)
def pairsOf (n : Nat) (R : Rel2) : List (List Int) := pairsTo n R n
def closedL (n : Nat) (rows : List (List Int)) : List (List Int) := pairsOf n (warsh n (initR rows))
theorem row2_inj {a b c d : Nat} (h : row2 a b = row2 c d) : a = c ∧ b = d := by
  unfold row2 at h
  injection h with h1 h2
  injection h2 with h2 _
  exact ⟨Int.ofNat.inj h1, Int.ofNat.inj h2⟩
theorem mem_pairsAt {n : Nat} {R : Rel2} {a : Nat} {r : List Int} : r ∈ pairsAt n R a ↔ ∃ b, b < n ∧ R a b = true ∧ r = row2 a b := by
  unfold pairsAt
  rw [List.mem_map]
  constructor
  · rintro ⟨b, hb, e⟩
    rw [List.mem_filter, List.mem_range] at hb
    exact ⟨b, hb.1, hb.2, e.symm⟩
  · rintro ⟨b, h1, h2, e⟩
    exact ⟨b, by rw [List.mem_filter, List.mem_range]; exact ⟨h1, h2⟩, e.symm⟩
theorem mem_pairsOf {n : Nat} {R : Rel2} {r : List Int} : r ∈ pairsOf n R ↔ ∃ a b, a < n ∧ b < n ∧ R a b = true ∧ r = row2 a b := by
  unfold pairsOf pairsTo
  rw [List.mem_flatMap]
  constructor
  · rintro ⟨a, ha, h⟩
    obtain ⟨b, h1, h2, e⟩ := mem_pairsAt.mp h
    exact ⟨a, b, List.mem_range.mp ha, h1, h2, e⟩
  · rintro ⟨a, b, h0, h1, h2, e⟩
    exact ⟨a, List.mem_range.mpr h0, mem_pairsAt.mpr ⟨b, h1, h2, e⟩⟩
theorem initR_pairsOf {n a b : Nat} {R : Rel2} (ha : a < n) (hb : b < n) : initR (pairsOf n R) a b = R a b := by
  unfold initR
  cases h : R a b
  · cases h' : (pairsOf n R).contains (row2 a b)
    · rfl
    · rw [List.contains_iff_mem] at h'
      obtain ⟨c, d, _, _, h2, e⟩ := mem_pairsOf.mp h'
      obtain ⟨rfl, rfl⟩ := row2_inj e
      rw [h] at h2
      cases h2
  · rw [List.contains_iff_mem]
    exact mem_pairsOf.mpr ⟨a, b, ha, hb, h, rfl⟩
theorem pairsAt_ext {n : Nat} {R T : Rel2} {a : Nat} (h : ∀ y, y < n → R a y = T a y) : pairsAt n R a = pairsAt n T a := by
  unfold pairsAt
  congr 1
  refine List.filter_congr fun b hb => ?_
  rw [h b (List.mem_range.mp hb)]
theorem pairsOf_ext {n : Nat} {R T : Rel2} (h : ∀ x y, x < n → y < n → R x y = T x y) : pairsOf n R = pairsOf n T := by
  unfold pairsOf pairsTo
  rw [List.flatMap_def, List.flatMap_def]
  congr 1
  refine List.map_congr_left fun a ha => ?_
  exact pairsAt_ext fun y hy => h a y (List.mem_range.mp ha) hy
theorem closedL_idem (n : Nat) (rows : List (List Int)) : closedL n (closedL n rows) = closedL n rows := by
  unfold closedL
  refine pairsOf_ext fun x y hx hy => ?_
  rw [warsh_ext (fun a b ha hb => initR_pairsOf ha hb) hx hy]
  exact warsh_self warsh_trans hx hy
/-- the lines that can be reached from themselves -/
def ringL (n : Nat) (R : Rel2) : List Int := ((List.range n).filter fun a => R a a).map fun (a : Nat) => (a : Int)
theorem ringL_nil {n : Nat} {R : Rel2} : ringL n R = [] ↔ ∀ a, a < n → R a a = false := by
  unfold ringL
  rw [List.map_eq_nil_iff, List.filter_eq_nil_iff]
  constructor
  · intro h a ha
    have := h a (List.mem_range.mpr ha)
    simpa using this
  · intro h a ha
    rw [h a (List.mem_range.mp ha)]
    simp
/-- R along a line-up has no ring -/
theorem no_ring {n : Nat} {R : Rel2} (pos : Nat → Nat) (h : ∀ x y, x < n → y < n → R x y = true → pos x < pos y) {a : Nat} (ha : a < n) : warsh n R a a = false := by
  cases e : warsh n R a a
  · rfl
  · have := warsh_sub (T := fun x y => decide (pos x < pos y)) (fun x y hx hy e => decide_eq_true (h x y hx hy e)) (fun x y z _ _ _ e1 e2 => decide_eq_true (Nat.lt_trans (of_decide_eq_true e1) (of_decide_eq_true e2))) a a ha ha e
    have := of_decide_eq_true this
    omega
theorem length_pairsAt (n : Nat) (R : Rel2) (a : Nat) : (pairsAt n R a).length ≤ n := by
  unfold pairsAt
  rw [List.length_map]
  exact Nat.le_trans (List.length_filter_le _ _) (by simp)
theorem length_pairsTo (n : Nat) (R : Rel2) : ∀ k, (pairsTo n R k).length ≤ k * n
  | 0 => by simp [pairsTo]
  | k + 1 => by
    have ih := length_pairsTo n R k
    have e : pairsTo n R (k + 1) = pairsTo n R k ++ pairsAt n R k := by
      unfold pairsTo
      rw [List.range_succ, List.flatMap_append]
      simp
    rw [e, List.length_append, Nat.succ_mul]
    have := length_pairsAt n R k
    omega
theorem length_pairsOf (n : Nat) (R : Rel2) : (pairsOf n R).length ≤ n * n := length_pairsTo n R n
/-! ### in order, without repetition -/
def lt2 (r s : List Int) : Prop := ∃ a b c d : Nat, r = row2 a b ∧ s = row2 c d ∧ (a < c ∨ (a = c ∧ b < d))
theorem lt2_irrefl {r : List Int} : ¬ lt2 r r := by
  rintro ⟨a, b, c, d, e1, e2, h⟩
  obtain ⟨rfl, rfl⟩ := row2_inj (e1.symm.trans e2)
  omega
theorem lt2_asymm {r s : List Int} (h : lt2 r s) (h' : lt2 s r) : False := by
  obtain ⟨a, b, c, d, e1, e2, h⟩ := h
  obtain ⟨a', b', c', d', e1', e2', h'⟩ := h'
  obtain ⟨rfl, rfl⟩ := row2_inj (e1.symm.trans e2')
  obtain ⟨rfl, rfl⟩ := row2_inj (e2.symm.trans e1')
  omega
theorem range_sorted : ∀ n : Nat, (List.range n).Pairwise (· < ·) := fun n => by
  rw [List.pairwise_iff_getElem]
  intro i j hi hj hij
  simpa using hij
theorem pairsAt_sorted (n : Nat) (R : Rel2) (a : Nat) : (pairsAt n R a).Pairwise lt2 := by
  unfold pairsAt
  rw [List.pairwise_map]
  exact ((range_sorted n).filter _).imp fun h => ⟨a, _, a, _, rfl, rfl, .inr ⟨rfl, h⟩⟩
theorem pairsTo_sorted (n : Nat) (R : Rel2) : ∀ k, (pairsTo n R k).Pairwise lt2
  | 0 => by simp [pairsTo]
  | k + 1 => by
    have e : pairsTo n R (k + 1) = pairsTo n R k ++ pairsAt n R k := by
      unfold pairsTo
      rw [List.range_succ, List.flatMap_append]
      simp
    rw [e, List.pairwise_append]
    refine ⟨pairsTo_sorted n R k, pairsAt_sorted n R k, fun r hr s hs => ?_⟩
    unfold pairsTo at hr
    obtain ⟨a, ha, h⟩ := List.mem_flatMap.mp hr
    obtain ⟨b, _, _, e1⟩ := mem_pairsAt.mp h
    obtain ⟨d, _, _, e2⟩ := mem_pairsAt.mp hs
    exact ⟨a, b, k, d, e1, e2, .inl (List.mem_range.mp ha)⟩
theorem pairsOf_sorted (n : Nat) (R : Rel2) : (pairsOf n R).Pairwise lt2 := pairsTo_sorted n R n
/-- two ordered lists of the same members are one -/
theorem sorted_unique : ∀ {l1 l2 : List (List Int)}, l1.Pairwise lt2 → l2.Pairwise lt2 → (∀ r, r ∈ l1 ↔ r ∈ l2) → l1 = l2
  | [], [], _, _, _ => rfl
  | [], b :: l2, _, _, h => absurd ((h b).mpr List.mem_cons_self) (by simp)
  | a :: l1, [], _, _, h => absurd ((h a).mp List.mem_cons_self) (by simp)
  | a :: l1, b :: l2, h1, h2, h => by
    obtain ⟨p1, q1⟩ := List.pairwise_cons.mp h1
    obtain ⟨p2, q2⟩ := List.pairwise_cons.mp h2
    have e : a = b := by
      rcases List.mem_cons.mp ((h a).mp List.mem_cons_self) with e | ha
      · exact e
      · rcases List.mem_cons.mp ((h b).mpr List.mem_cons_self) with e | hb
        · exact e.symm
        · exact (lt2_asymm (p1 b hb) (p2 a ha)).elim
    subst e
    congr 1
    refine sorted_unique q1 q2 fun r => ⟨fun hr => ?_, fun hr => ?_⟩
    · rcases List.mem_cons.mp ((h r).mp (List.mem_cons_of_mem _ hr)) with e | z
      · subst e
        exact (lt2_irrefl (p1 r hr)).elim
      · exact z
    · rcases List.mem_cons.mp ((h r).mpr (List.mem_cons_of_mem _ hr)) with e | z
      · subst e
        exact (lt2_irrefl (p2 r hr)).elim
      · exact z
end K57
/-! D3 -/
namespace K57
open PySem PySem.Spec PyProof.Rows L2 He
theorem for_rng {n : Nat} {g : TG} {tb : TS} {D : Ends} {σ : L2.St} {H : Hp} (Pv : Nat → L2.St → Hp → Prop) (h0 : Pv 0 σ H)
    (hs : ∀ i σ H, i < n → Pv i σ H → g (.int (i : Int)) σ H fun σ2 H2 => tb { D with nx := Pv (i + 1), ct := Pv (i + 1), bk := D.nx } σ2 H2) (hd : ∀ σ H, Pv n σ H → D.nx σ H) :
    ∃ W : Nat → Nat → L2.St → Hp → Prop, (∃ m, W 0 m σ H) ∧ ∀ i m σ H, W i m σ H →
      ((Itr 0 n).stop i H ∧ D.nx σ H) ∨ ((Itr 0 n).go i H ∧ ∃ N : L2.St → Hp → Prop, (∀ σ' H', N σ' H' → ∃ m', m' < m ∧ W (i + 1) m' σ' H') ∧ ∀ x H', (Itr 0 n).yld i H x H' → g x σ H' fun σ2 H2 => tb { D with nx := N, ct := N, bk := D.nx } σ2 H2) :=
  for_range (lo := 0) Pv h0 (fun i σ H hi p => by
    rw [Int.zero_add]
    exact hs i σ H hi p) hd
/-! ### the dict of pairs -/
def key2 (a b : Nat) : List Key := [Sum.inl (a : Int), Sum.inl (b : Int)]
theorem key2_inj {a b c d : Nat} (h : key2 a b = key2 c d) : a = c ∧ b = d := by
  unfold key2 at h
  injection h with h1 h2
  injection h2 with h2 _
  injection h1 with h1
  injection h2 with h2
  exact ⟨Int.ofNat.inj h1, Int.ofNat.inj h2⟩
theorem key2_map (a b : Nat) : (key2 a b).map kV = (row2 a b).map V.int := rfl
structure Cl (n : Nat) (R : Rel2) (kvs : List (List Key × V)) : Prop where
  nd : (kvs.map (·.1)).Nodup
  key : ∀ k ∈ kvs.map (·.1), ∃ a b, a < n ∧ b < n ∧ k = key2 a b
  rel : ∀ a b, a < n → b < n → (valV kvs (key2 a b)).isSome = R a b
theorem nodup_len {α : Type} [DecidableEq α] : ∀ {l U : List α}, l.Nodup → (∀ x ∈ l, x ∈ U) → l.length ≤ U.length
  | [], _, _, _ => Nat.zero_le _
  | a :: l, U, h, s => by
    obtain ⟨h1, h2⟩ := List.nodup_cons.mp h
    have ha := s a List.mem_cons_self
    have ih := nodup_len (l := l) (U := U.erase a) h2 fun x hx => (List.mem_erase_of_ne (fun z => h1 (by rw [← z]; exact hx))).mpr (s x (List.mem_cons_of_mem _ hx))
    rw [List.length_erase_of_mem ha] at ih
    have := List.length_pos_of_mem ha
    show l.length + 1 ≤ U.length
    omega
theorem flat_len {α : Type} (n : Nat) (f : Nat → List α) (hf : ∀ a, (f a).length = n) : ∀ k, ((List.range k).flatMap f).length = k * n
  | 0 => by simp
  | k + 1 => by
    have h1 : ((List.range (k + 1)).flatMap f) = (List.range k).flatMap f ++ f k := by
      rw [List.range_succ, List.flatMap_append]
      simp
    rw [h1, List.length_append, flat_len n f hf k, hf, Nat.succ_mul]
theorem Cl.len {n : Nat} {R : Rel2} {kvs : List (List Key × V)} (c : Cl n R kvs) : kvs.length ≤ n * n := by
  have h := nodup_len (U := (List.range n).flatMap fun a => (List.range n).map (key2 a)) c.nd fun k hk => by
    obtain ⟨a, b, ha, hb, e⟩ := c.key k hk
    exact List.mem_flatMap.mpr ⟨a, List.mem_range.mpr ha, List.mem_map.mpr ⟨b, List.mem_range.mpr hb, e.symm⟩⟩
  rw [List.length_map, flat_len n _ (fun a => by rw [List.length_map, List.length_range])] at h
  exact h
theorem Cl.lt {n : Nat} {R : Rel2} {kvs : List (List Key × V)} (c : Cl n R kvs) (hn : n ≤ 60) : kvs.length < sizeLine := by
  have h1 := c.len
  have h2 : n * n ≤ 60 * 60 := Nat.mul_le_mul hn hn
  exact small1000' (by omega)
  where small1000' {m : Nat} (h : m ≤ 3600) : m < sizeLine := Nat.lt_of_le_of_lt h (by decide)
theorem Cl.put {n : Nat} {R : Rel2} {kvs : List (List Key × V)} (c : Cl n R kvs) {a b : Nat} (ha : a < n) (hb : b < n) (v : V) : Cl n (fun x y => R x y || (decide (x = a) && decide (y = b))) (putK kvs (key2 a b) v) := by
  have look : ∀ j, valV (putK kvs (key2 a b) v) j = if j = key2 a b then some v else valV kvs j := fun j => valV_put kvs (key2 a b) j v
  refine ⟨?_, fun k hk => ?_, fun x y hx hy => ?_⟩
  · unfold putK
    by_cases z : (kvs.any fun kv => decide (kv.1 = key2 a b)) = true
    · rw [if_pos z]
      have e : (kvs.map fun kv => if kv.1 = key2 a b then (kv.1, v) else kv).map (·.1) = kvs.map (·.1) := by
        rw [List.map_map]
        refine List.map_congr_left fun p hp => ?_
        show (if p.1 = key2 a b then (p.1, v) else p).1 = p.1
        split <;> rfl
      rw [e]
      exact c.nd
    · rw [if_neg z, List.map_append]
      refine nd_snoc c.nd fun m => z ?_
      obtain ⟨p, hp, e⟩ := List.mem_map.mp m
      exact List.any_eq_true.mpr ⟨p, hp, decide_eq_true e⟩
  · unfold putK at hk
    by_cases z : (kvs.any fun kv => decide (kv.1 = key2 a b)) = true
    · rw [if_pos z] at hk
      have e : (kvs.map fun kv => if kv.1 = key2 a b then (kv.1, v) else kv).map (·.1) = kvs.map (·.1) := by
        rw [List.map_map]
        refine List.map_congr_left fun p hp => ?_
        show (if p.1 = key2 a b then (p.1, v) else p).1 = p.1
        split <;> rfl
      rw [e] at hk
      exact c.key k hk
    · rw [if_neg z, List.map_append] at hk
      rcases List.mem_append.mp hk with hk | hk
      · exact c.key k hk
      · exact ⟨a, b, ha, hb, List.mem_singleton.mp hk⟩
  · rw [look]
    have h := c.rel x y hx hy
    by_cases z : key2 x y = key2 a b
    · rw [if_pos z]
      obtain ⟨rfl, rfl⟩ := key2_inj z
      simp
    · rw [if_neg z, h]
      have e : (decide (x = a) && decide (y = b)) = false := by
        by_cases z1 : x = a
        · subst z1
          have z2 : y ≠ b := fun e => z (by rw [e])
          simp [z2]
        · simp [z1]
      rw [e, Bool.or_false]
theorem Cl.ext {n : Nat} {R T : Rel2} {kvs : List (List Key × V)} (c : Cl n R kvs) (h : ∀ x y, x < n → y < n → R x y = T x y) : Cl n T kvs := ⟨c.nd, c.key, fun x y hx hy => (c.rel x y hx hy).trans (h x y hx hy)⟩
/-- rows that are pairs of lines -/
def PairRow (n : Nat) (r : List Int) : Prop := ∃ a b, a < n ∧ b < n ∧ r = row2 a b
/-- the inner loop's relation behind y turns -/
def wcell (m a : Nat) (R : Rel2) (k : Nat) : Rel2 := fun x y => R x y || (decide (x = a) && (decide (y < k) && (R a m && R m y)))
/-- closed(size, pairs) -/
def spClosed : Sp := fun vs H Q _ => ∃ (n : Nat) (l : Addr) (xs : List V) (rows : List (List Int)), vs = [.int n, .ref l] ∧ n ≤ 60 ∧ H l = some (.lst xs) ∧ DqAll H xs (rows.map tupD) ∧ (∀ r ∈ rows, PairRow n r) ∧
  ∀ p H2 kvs, Same H H2 → H p = none → H2 p = some (.dT kvs) → Cl n (warsh n (initR rows)) kvs → Q (.ref p) H2
section
variable {P : Program} {w : World} {K : PySem.W.Frag} {mg : Str → Option Value} {base : Heap}
/-! ### need_size -/
def spNeed : Sp := fun vs H Q _ => ∃ n : Int, vs = [.int n] ∧ 1 ≤ n ∧ n ≤ 60 ∧ Q .non H
theorem sc_need_size : FnScope ["size"] ["size"] (defScope sNeedSize) := ⟨rfl, rfl, rfl, by decide +kernel, rfl, by decide +kernel, by decide +kernel⟩
theorem ok_need_size (T : Txt K mg) : FnOk P w K mg base CX0 2 (ga K "need_size") (fdAt K (ga K "need_size")) ["size"] spNeed := by
  refine T.f_need_size.ok sc_need_size (fun vs H Q E h => ?_) (fun cdv A outer s H vs Q E hr h => ?_)
  · obtain ⟨n, rfl, _⟩ := h
    rfl
  obtain ⟨n, rfl, h1, h2, q⟩ := h
  refine ⟨_, PSs.nox (pss_one (ps_if (PW.pt (pw_or (pt_not (pt_val (c_is_integer T (hr.mono (by decide)) (pa_cons (pv 0) pa_nil)))) (pw_or1 (pt_not (pt_chain op_le op_le pe_int (pv 0) (n_MOST_LINES T)))))) (pss_one ps_never) pss_nil)), ?_⟩
  refine ⟨_, rfl, _, _, rfl, .int n, _, rfl, ?_⟩
  refine iteF ?_
  refine ⟨_, rfl, _, _, rfl, rfl, _, rfl, ?_⟩
  rw [decide_eq_true h1]
  refine iteT ⟨_, _, rfl, rfl, _, rfl, ?_⟩
  rw [decide_eq_true h2]
  exact iteF q
theorem bd_need_size {K : PySem.W.Frag} {mg : Str → Option Value} (T : Txt K mg) : Binds K (fdAt K (ga K "need_size")) ["size"] [] := T.f_need_size.bindsN fun _ _ _ _ _ _ us hl => match us, hl with | [_], _ => rfl
theorem c_need_size {X : Cx} {e : Expr} {es : List Expr} {t : TA} {p pos : Pos} (T : Txt X.K X.mg) (hr : Room 2 X.A) (ha : PA X (e :: es) t) (hg : Gl X "need_size" := by rfl) (he : starEach (e :: es) X.env = (false, eval e X.env) :: starEach es X.env := by rfl) (hpl : (backTo pos (starEach es X.env)).any (·.1) = false := by rfl) :
    PE X (.Call (.Name "need_size" p) (e :: es) [] pos) (tCall (spNeed) [] E0 t) := pe_call (ok_need_size T) hr hg T.g_need_size T.f_need_size.kp (bd_need_size T) .nil pass0 ha (by decide) he hpl
/-! ### closed -/
theorem sc_closed : FnScope ["size", "pairs", "reached", "pair", "middle", "one", "other"] ["size", "pairs"] (defScope sClosed) := ⟨rfl, rfl, rfl, by decide +kernel, rfl, by decide +kernel, by decide +kernel⟩
theorem ok_closed (T : Txt K mg) : FnOk P w K mg base CX0 1 (ga K "closed") (fdAt K (ga K "closed")) ["size", "pairs"] spClosed := by
  refine T.f_closed.ok sc_closed (fun vs H Q E h => ?_) (fun cdv A outer s H vs Q E hr h => ?_)
  · obtain ⟨n, l, xs, rows, rfl, _⟩ := h
    rfl
  obtain ⟨n, l, xs, rows, rfl, hn, hl, hd, hp, q⟩ := h
  refine ⟨_, PSs.nox (pss_cons (ps_set (i := 2) sc_closed.nd rfl (Or.inl rfl) pe_dnewT)
    (pss_cons (ps_for PassesOwn.never rfl (pi_list (pv 1)) (pg_name (i := 3) sc_closed.nd rfl (Or.inl rfl)) (pss_one (ps_dput (hu_of hr) (pv 2) (pv 3) pe_bl rfl)))
    (pss_cons (ps_for PassesOwn.never rfl (pi_range1 (by rfl) T.z_range (pa_cons (pv 0) pa_nil)) (pg_name (i := 4) sc_closed.nd rfl (Or.inl rfl)) (pss_one (ps_for PassesOwn.never rfl (pi_range1 (by rfl) T.z_range (pa_cons (pv 0) pa_nil)) (pg_name (i := 5) sc_closed.nd rfl (Or.inl rfl)) (pss_one (ps_if (pt_cmp (pc_din (hu_of hr) (pe_tup (pa_cons (pv 5) (pa_cons (pv 4) pa_nil))) (pv 2))) (pss_one (ps_for PassesOwn.never rfl (pi_range1 (by rfl) T.z_range (pa_cons (pv 0) pa_nil)) (pg_name (i := 6) sc_closed.nd rfl (Or.inl rfl)) (pss_one (ps_if (pt_cmp (pc_din (hu_of hr) (pe_tup (pa_cons (pv 4) (pa_cons (pv 6) pa_nil))) (pv 2))) (pss_one (ps_dput (hu_of hr) (pv 2) (pe_tup (pa_cons (pv 5) (pa_cons (pv 6) pa_nil))) pe_bl rfl)) pss_nil)))) pss_nil)))))
    (pss_one (ps_ret (pv 2)))))), ?_⟩
  have h62 : -(2 ^ 62 : Int) ≤ (n : Int) ∧ (n : Int) < 2 ^ 62 := by omega
  refine fun p np => ?_
  -- the given pairs
  refine ⟨_, rfl, l, rfl, ⟨xs, SqL.of (by rw [upd_ne (ne_of_none hl np)]; exact hl)⟩, for_list (K := K) (a := l) (xs := xs)
    (fun i σ H' => ∃ o3 kvs, σ = [some (.int n), some (.ref l), some (.ref p), o3, none, none, none] ∧ Same H H' ∧ H' p = some (.dT kvs) ∧ Cl n (initR (rows.take i)) kvs)
    ⟨none, [], rfl, same_new np, upd_same, ⟨by simp, by simp, fun a b _ _ => by simp [initR, valV]⟩⟩
    (fun i σ H' _ h => by
      obtain ⟨_, _, _, s, _⟩ := h
      exact SqL.of (s _ _ hl)) ?_ ?_⟩
  · rintro i x σ H' hx ⟨o3, kvs, rfl, s, hk, c⟩
    obtain ⟨d, e1, e2⟩ := hd.get' hx
    rw [List.getElem?_map] at e1
    obtain ⟨r, hr', e3⟩ := Option.map_eq_some_iff.mp e1
    subst e3
    obtain ⟨b, rfl, hb⟩ := tupD_ e2
    obtain ⟨a, a', ha, ha', rfl⟩ := hp r (List.mem_of_getElem? hr')
    refine ⟨_, rfl, _, rfl, p, _, rfl, DPut.t (k := key2 a a') hk (by rw [key2_map]; exact s _ _ hb) (c.lt hn), ?_⟩
    refine ⟨_, _, rfl, fun b' o e => ?_, upd_same, (c.put ha ha' _).ext fun x y _ _ => ?_⟩
    · rw [upd_ne (ne_of_none e np)]
      exact s _ _ e
    · rw [List.take_add_one, hr']
      unfold initR
      rw [Option.toList_some, List.contains_append]
      congr 1
      by_cases z : row2 x y = row2 a a'
      · obtain ⟨rfl, rfl⟩ := row2_inj z
        simp
      · have z1 : (List.contains [row2 a a'] (row2 x y)) = false := by
          rw [List.contains_cons]
          have : (row2 x y == row2 a a') = false := by simpa using z
          rw [this]
          rfl
        rw [z1]
        by_cases y1 : x = a
        · subst y1
          have y2 : y ≠ a' := fun e => z (by rw [e])
          simp [y2]
        · simp [y1]
  rintro σ H' ⟨o3, kvs, rfl, s, hk, c⟩
  have hlen : xs.length = rows.length := by
    have := hd.length
    rw [List.length_map] at this
    exact this
  rw [hlen, List.take_length] at c
  -- the middles
  refine ⟨_, rfl, n, rfl, h62.1, h62.2, ?_⟩
  rw [Int.toNat_natCast]
  refine for_rng (fun m σ H' => ∃ o3 o4 o5 o6 kvs, σ = [some (.int n), some (.ref l), some (.ref p), o3, o4, o5, o6] ∧ Same H H' ∧ H' p = some (.dT kvs) ∧ Cl n (warshTo n (initR rows) m) kvs)
    ⟨_, _, _, _, kvs, rfl, s, hk, c⟩ ?_ ?_
  · clear c hk s kvs
    rintro m σ H' hm ⟨o3, o4, o5, o6, kvs, rfl, s, hk, c⟩
    refine ⟨_, rfl, n, rfl, h62.1, h62.2, ?_⟩
    rw [Int.toNat_natCast]
    refine for_rng (fun a σ H' => ∃ o3 o5 o6 kvs, σ = [some (.int n), some (.ref l), some (.ref p), o3, some (.int m), o5, o6] ∧ Same H H' ∧ H' p = some (.dT kvs) ∧ Cl n (wmid n m (warshTo n (initR rows) m) a) kvs)
      ⟨_, _, _, kvs, rfl, s, hk, c⟩ ?_ ?_
    · clear c hk s kvs o4 o3 o5 o6
      rintro a σ H' ha ⟨o3, o5, o6, kvs, rfl, s, hk, c⟩
      obtain ⟨R, hR⟩ : ∃ R, R = wmid n m (warshTo n (initR rows) m) a := ⟨_, rfl⟩
      have hR1 : wmid n m (warshTo n (initR rows) m) (a + 1) = wrow n m a R := by rw [hR]; rfl
      rw [← hR] at c
      refine ⟨_, rfl, _, rfl, (by show 2 ≤ sizeLine; decide), fun t nt => ?_⟩
      have np1 : t ≠ p := fun z => by rw [z, hk] at nt; cases nt
      have hk1 : upd H' t (.tup [.int a, .int m]) p = some (.dT kvs) := by rw [upd_ne (Ne.symm np1)]; exact hk
      have s1 : Same H (upd H' t (.tup [.int a, .int m])) := s.trans (same_new nt)
      refine ⟨_, rfl, p, _, rfl, DGet.t (k := key2 a m) hk1 upd_same, _, rfl, ?_⟩
      have eR := c.rel a m ha hm
      refine iteB (fun c1 => ?_) (fun c1 => ?_)
      · rw [c1] at eR
        refine ⟨_, rfl, n, rfl, h62.1, h62.2, ?_⟩
        rw [Int.toNat_natCast]
        refine for_rng (fun y σ H' => ∃ o3 o6 kvs, σ = [some (.int n), some (.ref l), some (.ref p), o3, some (.int m), some (.int a), o6] ∧ Same H H' ∧ H' p = some (.dT kvs) ∧ Cl n (wcell m a R y) kvs)
          ⟨_, _, kvs, rfl, s1, hk1, c.ext fun x y _ _ => by simp [wcell]⟩ ?_ ?_
        · clear hk1 s1 c1 c hk s nt np1 kvs o3 o6
          rintro y σ H' hy ⟨o3, o6, kvs, rfl, s, hk, c⟩
          refine ⟨_, rfl, _, rfl, (by show 2 ≤ sizeLine; decide), fun t nt => ?_⟩
          have np1 : t ≠ p := fun z => by rw [z, hk] at nt; cases nt
          have hk1 : upd H' t (.tup [.int m, .int y]) p = some (.dT kvs) := by rw [upd_ne (Ne.symm np1)]; exact hk
          have s1 : Same H (upd H' t (.tup [.int m, .int y])) := s.trans (same_new nt)
          refine ⟨_, rfl, p, _, rfl, DGet.t (k := key2 m y) hk1 upd_same, _, rfl, ?_⟩
          have eR2 := c.rel m y hm hy
          have eW : wcell m a R y m y = R m y := by
            unfold wcell
            have : decide (y < y) = false := by simp
            rw [this]
            simp
          rw [eW] at eR2
          have step : ∀ x z, x < n → z < n → (wcell m a R y x z || (decide (x = a) && (decide (z = y) && R m y))) = wcell m a R (y + 1) x z := fun x z _ _ => by
            unfold wcell
            by_cases z1 : z = y
            · subst z1
              have e1 : decide (z < z) = false := by simp
              have e2 : decide (z < z + 1) = true := by simp
              have e3 : decide (z = z) = true := by simp
              rw [e1, e2, e3, ← eR]
              generalize decide (x = a) = b1
              cases R x z <;> cases b1 <;> cases R m z <;> rfl
            · have e1 : decide (z < y + 1) = decide (z < y) := by
                by_cases h : z < y
                · rw [decide_eq_true h, decide_eq_true (by omega)]
                · rw [decide_eq_false h, decide_eq_false (by omega)]
              have e2 : decide (z = y) = false := by simp [z1]
              rw [e1, e2]
              simp
          refine iteB (fun c2 => ?_) (fun c2 => ?_)
          · rw [c2] at eR2
            refine ⟨_, rfl, _, rfl, _, rfl, (by show 2 ≤ sizeLine; decide), fun t2 nt2 => ?_⟩
            have np2 : t2 ≠ p := fun z => by rw [z, hk1] at nt2; cases nt2
            refine ⟨p, _, rfl, DPut.t (k := key2 a y) (kvs := kvs) (by rw [upd_ne (Ne.symm np2)]; exact hk1) upd_same (c.lt hn), ?_⟩
            refine ⟨_, _, _, rfl, fun b o e => ?_, upd_same, (c.put ha hy _).ext fun x z hx hz => ?_⟩
            · rw [upd_ne (ne_of_none e np)]
              exact (s1.trans (same_new nt2)) b o e
            · rw [← step x z hx hz, ← eR2, Bool.and_true]
          · rw [c2] at eR2
            refine ⟨_, _, _, rfl, s1, hk1, c.ext fun x z hx hz => ?_⟩
            rw [← step x z hx hz, ← eR2]
            simp
        · rintro σ H' ⟨o3, o6, kvs, rfl, s, hk, c⟩
          exact ⟨_, _, _, _, rfl, s, hk, c.ext fun x y hx hy => by rw [hR1]; rfl⟩
      · rw [c1] at eR
        refine ⟨_, _, _, _, rfl, s1, hk1, c.ext fun x y hx hy => ?_⟩
        rw [hR1]
        show R x y = (R x y || (decide (x = a) && (decide (y < n) && (R a m && R m y))))
        rw [← eR]
        simp
    · rintro σ H' ⟨o3, o5, o6, kvs, rfl, s, hk, c⟩
      exact ⟨_, _, _, _, _, rfl, s, hk, c⟩
  · rintro σ H' ⟨o3, o4, o5, o6, kvs, rfl, s, hk, c⟩
    exact ⟨_, rfl, q p H' kvs s np hk c⟩
theorem bd_closed {K : PySem.W.Frag} {mg : Str → Option Value} (T : Txt K mg) : Binds K (fdAt K (ga K "closed")) ["size", "pairs"] [] := T.f_closed.bindsN fun _ _ _ _ _ _ us hl => match us, hl with | [_, _], _ => rfl
theorem c_closed {X : Cx} {e : Expr} {es : List Expr} {t : TA} {p pos : Pos} (T : Txt X.K X.mg) (hr : Room 1 X.A) (ha : PA X (e :: es) t) (hg : Gl X "closed" := by rfl) (he : starEach (e :: es) X.env = (false, eval e X.env) :: starEach es X.env := by rfl) (hpl : (backTo pos (starEach es X.env)).any (·.1) = false := by rfl) :
    PE X (.Call (.Name "closed" p) (e :: es) [] pos) (tCall (spClosed) [] E0 t) := pe_call (ok_closed T) hr hg T.g_closed T.f_closed.kp (bd_closed T) .nil pass0 ha (by decide) he hpl
end
end K57
/-! D4 -/
namespace K57
open PySem PySem.Spec PyProof.Rows L2 He
theorem mono_var (i : Nat) : TA.Mono (tCons (tVar i) tNil) := fun σ H Q Q' h ⟨v, e, q⟩ => ⟨v, e, h _ _ q⟩
/-- an instance with a size and a tuple -/
def InsAt (H : Hp) (C x : Addr) (f : Str) (n : Int) (t : Addr) : Prop := ∃ dx, H x = some (.ins C dx [("own_size", .int n), (f, .ref t)])
theorem InsAt.mono {H H' : Hp} {C x : Addr} {f : Str} {n : Int} {t : Addr} (s : Same H H') (h : InsAt H C x f n t) : InsAt H' C x f n t := by
  obtain ⟨dx, h⟩ := h
  exact ⟨dx, s _ _ h⟩
theorem isT2 {K₀ : PySem.W.Frag} (d : PyData) : PySem.W.kitAny K₀ (.type (tyN d)) [.type "list", .type "tuple"] = some (isT "list" d || isT "tuple" d) := by
  refine kitAny_cons (kit_dt "list" (by simp) d) (fun h => ?_) (fun h => by rw [h]; rfl)
  rw [h]
  exact kitAny_cons (kit_dt "tuple" (by simp) d) (fun h => by rw [h]; exact kitAny_nil) (fun h => by rw [h]; rfl)
theorem two_cls : Paired ClsV [V.ty "list", V.ty "tuple"] [Value.type "list", Value.type "tuple"] := .cons (.ty _) (.cons (.ty _) .nil)
theorem put2 {f : Str} (hf : f ≠ "own_size") (a b : V) : putF f b (putF "own_size" a []) = [(("own_size" : Str), a), (f, b)] := by
  have e : ¬ ("own_size" : Str) = f := fun z => hf z.symm
  simp [putF, e, hf]
/-- the first that is not so is refused, as the field value of an exception -/
def Refused (H : Hp) (C : Addr) (f : Str) (ok : PyData → Bool) (xs : List V) (ds : List PyData) (E : XK) : Prop :=
  ∀ (i : Nat) (v : V) (d : PyData), xs[i]? = some v → ds[i]? = some d → ok d = false → (∀ (j : Nat) (d' : PyData), j < i → ds[j]? = some d' → ok d' = true) → ∀ (H1 : Hp) (e : Addr), Same H H1 → H1 e = none → E (.ref C) (some e) (upd H1 e (.xd [(f, v)]))
def spNetI (K : PySem.W.Frag) : Sp := fun vs H Q E => ∃ (x dx l : Addr) (n : Int) (xs : List V) (ds : List PyData), vs = [.ref x, .int n, .ref l] ∧ 1 ≤ n ∧ n ≤ 60 ∧ H x = some (.ins (ga K "Network") dx []) ∧ H l = some (.lst xs) ∧ DqAll H xs ds ∧
  Refused H (ga K "InvalidStep") "value" (stepB n) xs ds E ∧
  ((∀ d ∈ ds, stepB n d = true) → ∀ H1 t, (∀ b o, b ≠ x → H b = some o → H1 b = some o) → H t = none → H1 t = some (.tup xs) → H1 x = some (.ins (ga K "Network") dx [("own_size", .int n), ("own_steps", .ref t)]) → Q .non H1)
section
variable {P : Program} {w : World} {K : PySem.W.Frag} {mg : Str → Option Value} {base : Heap}
/-! ### Network.__init__ -/
theorem sc_Network_init : FnScope ["self", "size", "steps", "step"] ["self", "size", "steps"] (defScope sNetworkInit) := ⟨rfl, rfl, rfl, by decide +kernel, rfl, by decide +kernel, by decide +kernel⟩
theorem ok_Network_init (T : Txt K mg) : FnOk P w K mg base (L2.CX P w) 4 (ma K (ga K "Network") "__init__") (fdAt K (ma K (ga K "Network") "__init__")) ["self", "size", "steps"] (spNetI K) := by
  refine T.f_Network_init.ok sc_Network_init (fun vs H Q E h => ?_) (fun cdv A outer s H vs Q E hr h => ?_)
  · obtain ⟨x, dx, l, n, xs, ds, rfl, _⟩ := h
    rfl
  obtain ⟨x, dx, l, n, xs, ds, rfl, h1, h2, hx, hl, hd, bad, good⟩ := h
  refine ⟨_, (pss_cons (ps_expr (c_need_size T (hr.mono (by decide)) (pa_cons (pv 1) pa_nil)))
    (pss_cons (ps_if (pt_not (pt_val (b_isinstance call_isiT T (pa_cons (pv 2) (pa_cons (pe_tup (pa_cons (n_list T) (pa_cons (n_tuple T) pa_nil))) pa_nil))))) (pss_one ps_never) pss_nil)
    (pss_cons (ps_for (passes_of rfl) rfl (pi_list (pv 2)) (pg_name (i := 3) sc_Network_init.nd rfl (Or.inl rfl)) (pss_one (ps_if (pt_not (pt_val (c_is_step T (hr.mono (by decide)) (pa_cons (pv 1) (pa_cons (pv 3) pa_nil))))) (pss_one (r_InvalidStep T (hr.mono (by decide)) (takes_of rfl rfl rfl rfl) (pa_cons (pv 3) pa_nil) (mono_var _))) pss_nil)))
    (pss_cons (ps_fld (pv 0) (pv 1) rfl)
    (pss_one (ps_fld (pv 0) (t_tuple call_tuple_of T (pa_cons (pv 2) pa_nil)) rfl)))))), ?_⟩
  refine ⟨_, rfl, n, rfl, h1, h2, ?_⟩
  refine ⟨_, rfl, (by show 2 ≤ sizeLine; decide), fun tp ntp => ?_⟩
  have s1 : Same H (upd H tp (.tup [V.ty "list", V.ty "tuple"])) := same_new ntp
  refine ⟨_, tp, _, _, _, _, rfl, upd_same, two_cls, (Dq.lst (s1 _ _ hl) (hd.mono s1)).ty, isT2 _, _, rfl, ?_⟩
  refine iteF ?_
  have hxl : x ≠ l := ne_of hx hl (by intro z; cases z)
  refine ⟨_, rfl, l, rfl, ⟨xs, SqL.of (s1 _ _ hl)⟩, for_list (K := K) (a := l) (xs := xs)
    (fun i σ H' => ∃ o3, σ = [some (.ref x), some (.int n), some (.ref l), o3] ∧ Same H H' ∧ ∀ j d, j < i → ds[j]? = some d → stepB n d = true)
    ⟨_, rfl, s1, fun j d z => absurd z (Nat.not_lt_zero _)⟩
    (fun i σ H' _ h => by
      obtain ⟨_, _, s, _⟩ := h
      exact SqL.of (s _ _ hl)) ?_ ?_⟩
  · rintro i v σ H' hv ⟨o3, rfl, s, ok⟩
    obtain ⟨d, e1, e2⟩ := hd.get' hv
    refine ⟨_, rfl, _, rfl, n, v, d, rfl, e2.mono s, _, rfl, ?_⟩
    refine iteB (fun c => ?_) (fun c => ?_)
    · rw [Bool.not_eq_true'] at c
      exact ⟨_, rfl, v, rfl, fun e ne => bad i v d hv e1 c ok H' e s ne⟩
    · rw [Bool.not_eq_false'] at c
      refine ⟨_, rfl, s, fun j d' hj e' => ?_⟩
      by_cases z : j = i
      · subst z
        rw [e1] at e'
        cases e'
        exact c
      · exact ok j d' (by omega) e'
  · rintro σ H' ⟨o3, rfl, s, ok⟩
    refine ⟨_, rfl, _, rfl, x, _, _, _, rfl, s _ _ hx, T.ins_Network.cl, T.n_Network_own_size, (by decide), ?_⟩
    have hl2 : upd H' x (.ins (ga K "Network") dx (putF "own_size" (.int n) [])) l = some (.lst xs) := by rw [upd_ne (Ne.symm hxl)]; exact s _ _ hl
    refine ⟨_, rfl, l, xs, rfl, .inl ⟨SqL.of hl2, fun t nt => ?_⟩⟩
    have htx : t ≠ x := fun z => by rw [z, upd_same] at nt; cases nt
    refine ⟨_, rfl, x, _, _, _, rfl, (by rw [upd_ne (Ne.symm htx), upd_same]), T.ins_Network.cl, T.n_Network_own_steps, (by show 1 < 1000; decide), ?_⟩
    have nt' : H' t = none := by
      rw [upd_ne htx] at nt
      exact nt
    refine good (fun d hd' => ?_) _ t (fun b o hb e => ?_) (s.free nt') (by rw [upd_ne htx, upd_same]) (by rw [upd_same, put2 (by decide)])
    · obtain ⟨j, hj⟩ := List.getElem?_of_mem hd'
      have hlen := hd.length
      exact ok j d (by rw [hlen]; exact (List.getElem?_eq_some_iff.mp hj).1) hj
    · rw [upd_ne hb, upd_ne (fun z => by subst z; have := s.free nt'; rw [this] at e; cases e), upd_ne hb]
      exact s _ _ e
/-! ### a property that reads a field -/
end
end K57
/-! R1 -/
namespace K57
open PySem PySem.Spec PyProof.Rows L2 He
/-! ### the special methods of own instances -/
section
variable {X : Cx} {CX : CXT} {k : Nat} {pins : List (Addr × Obj)} {σ : L2.St} {H : Hp} {s : Shared} {A1 : Around} {f C x dx : Addr} {fs : List (Str × V)} {fd : FuncData} {ps : List Str} {sp : Sp} {E : XK} {Q : VK}
/-- a callee runs below the running body -/
theorem run_sb {us : List Value} {vs : List V} (sb : Sub X k A1) (F : FnOk X.prog X.w X.K X.mg X.base CX k f fd ps sp) (hb : Binds X.K fd ps []) (hx : Passes CX X E) (I : Inv X pins σ H s) (r : Vals vs us) (h : sp vs H Q E) :
    wpAny (model X.prog X.w) A1 (call (.ref f) us) (EP X pins σ Q) X.xe s := by
  have e0 : Env0 X.prog X.w X.K X.mg X.base A1 X.stack s H := by
    have e := I.env0
    exact ⟨by rw [sb.fr]; exact e.frames, e.mod, e.bs, e.bsz, e.funs, e.frf, e.hok, e.bare⟩
  have hl : (us ++ []).length = ps.length := by rw [List.append_nil, ← r.length]; exact F.len _ _ _ _ h
  refine wpAny_call (codeAny_mono (F.run A1 X.stack s H ⟨us, []⟩ (us ++ []) vs Q E sb.room e0 (hb s us I.kIn hl) (by rw [List.append_nil]; exact r) h) fun r s' hq => ?_)
  cases r with
  | error e => exact hx pins σ H s e s' I hq
  | ok fl =>
    cases fl with
    | ret u => exact I.after hq
    | next => exact False.elim hq
    | brk => exact False.elim hq
    | cont => exact False.elim hq
/-- .. that raises nothing -/
theorem run_sb0 {us : List Value} {vs : List V} {E' : Value → Shared → Prop} (sb : Sub X k A1) (F : FnOk X.prog X.w X.K X.mg X.base CX0 k f fd ps sp) (hb : Binds X.K fd ps []) (I : Inv X pins σ H s) (r : Vals vs us) (h : sp vs H Q E) :
    wpAny (model X.prog X.w) A1 (call (.ref f) us) (EP X pins σ Q) E' s := by
  have e0 : Env0 X.prog X.w X.K X.mg X.base A1 X.stack s H := by
    have e := I.env0
    exact ⟨by rw [sb.fr]; exact e.frames, e.mod, e.bs, e.bsz, e.funs, e.frf, e.hok, e.bare⟩
  have hl : (us ++ []).length = ps.length := by rw [List.append_nil, ← r.length]; exact F.len _ _ _ _ h
  refine wpAny_call (codeAny_mono (F.run A1 X.stack s H ⟨us, []⟩ (us ++ []) vs Q E sb.room e0 (hb s us I.kIn hl) (by rw [List.append_nil]; exact r) h) fun r s' hq => ?_)
  cases r with
  | error e => exact (show False from hq).elim
  | ok fl =>
    cases fl with
    | ret u => exact I.after hq
    | next => exact False.elim hq
    | brk => exact False.elim hq
    | cont => exact False.elim hq
theorem sub_here (hr : Room k X.A) : Sub X k X.A := ⟨hr, rfl⟩
theorem sub_in1 (hr : Room (k + 1) X.A) : Sub X k X.A.in1 := Sub.in1 ⟨hr, rfl⟩
/-- where an instance stands -/
theorem ins_at (I : Inv X pins σ H s) (e : H x = some (.ins C dx fs)) : ∃ od, PySem.W.InstAt s.heap x (PySem.W.instObj C dx) C od := by
  obtain ⟨mA, O, _⟩ := ins_get I.hok e
  obtain ⟨od, J, _⟩ := O.look
  exact ⟨_, J⟩
theorem bl_of {v : V} {u : Value} (r : RelV v u) {b : Bool} (e : v = .bl b) : u = .bool b := by subst e; exact r
/-! ### len(x) -/
def rLenOwn (C : Addr) (sp : Sp) : List V → Hp → VK → Prop := fun xs H Q => ∃ a dx fs, xs = [V.ref a] ∧ H a = some (.ins C dx fs) ∧ sp [.ref a] H (fun z H' => ∃ n : Nat, z = .int n ∧ n < 2 ^ 62 ∧ Q z H') E0
theorem call_lenOwn (M : Meth X.K C "__len__" f) (F : FnOk X.prog X.w X.K X.mg X.base CX0 k f fd ps sp) (hb : Binds X.K fd ps []) (hr : Room (k + 1) X.A) : CallR X (.builtin "len") (rLenOwn C sp) := by
  intro pins s σ H xs us Q I r h
  obtain ⟨a, dx, fs, rfl, ha, q⟩ := h
  obtain ⟨u, rfl, ru⟩ := r.one
  cases ru
  obtain ⟨od, J⟩ := ins_at I ha
  obtain ⟨m, hF⟩ := I.fr
  refine PySem.W.len_K hF I.ok.mod.kin J M.at_ M.fn (wpAny_mono (run_sb0 (us := [.ref a]) (vs := [.ref a]) (sub_in1 hr) F hb I (.cons rfl .nil) q) (fun v s' hv => ?_) fun _ _ e => e)
  obtain ⟨z, H', I', rz, n, ez, hn, qz⟩ := hv
  subst ez
  obtain ⟨t, e⟩ := (show ∃ t, v = Value.int n t from rz)
  subst e
  exact ⟨⟨by omega, by have : (2 : Int) ^ 63 = 2 * 2 ^ 62 := by decide
                       have h2 : ((2 : Nat) ^ 62 : Nat) = (4611686018427387904 : Nat) := by decide
                       have h3 : (2 : Int) ^ 62 = 4611686018427387904 := by decide
                       omega⟩, .int n, H', I'.tok _, ⟨_, rfl⟩, qz⟩
/-! ### v in x -/
def rInOwn (C : Addr) (sp : Sp) (g : Bool → Bool) : R2 := fun y x H Q => ∃ a dx fs, x = V.ref a ∧ H a = some (.ins C dx fs) ∧ sp [x, y] H (fun z H' => ∃ b, z = .bl b ∧ Q (.bl (g b)) H') E0
theorem op_inOwn (M : Meth X.K C "__contains__" f) (F : FnOk X.prog X.w X.K X.mg X.base CX0 k f fd ps sp) (hb : Binds X.K fd ps []) (hr : Room k X.A) : OpR X (compareOp .In) (rInOwn C sp id) := by
  intro pins s σ H y x v u Q I ry rx h
  obtain ⟨a, dx, fs, rfl, ha, q⟩ := h
  cases rx
  obtain ⟨od, J⟩ := ins_at I ha
  obtain ⟨m, hF⟩ := I.fr
  refine PySem.W.in_K hF I.ok.mod.kin J M.at_ M.fn (wpAny_mono (run_sb0 (us := [.ref a, v]) (vs := [.ref a, y]) (sub_here hr) F hb I (.cons rfl (.cons ry .nil)) q) (fun v s' hv => ?_) fun _ _ e => e)
  obtain ⟨z, H', I', rz, b, ez, qz⟩ := hv
  cases bl_of rz ez
  exact wpAny_truthy_bool ⟨.bl b, H', I', rfl, qz⟩
theorem op_ninOwn (M : Meth X.K C "__contains__" f) (F : FnOk X.prog X.w X.K X.mg X.base CX0 k f fd ps sp) (hb : Binds X.K fd ps []) (hr : Room k X.A) : OpR X (compareOp .NotIn) (rInOwn C sp not) := by
  intro pins s σ H y x v u Q I ry rx h
  obtain ⟨a, dx, fs, rfl, ha, q⟩ := h
  cases rx
  obtain ⟨od, J⟩ := ins_at I ha
  obtain ⟨m, hF⟩ := I.fr
  refine PySem.W.notIn_K hF I.ok.mod.kin J M.at_ M.fn (wpAny_mono (run_sb0 (us := [.ref a, v]) (vs := [.ref a, y]) (sub_here hr) F hb I (.cons rfl (.cons ry .nil)) q) (fun v s' hv => ?_) fun _ _ e => e)
  obtain ⟨z, H', I', rz, b, ez, qz⟩ := hv
  cases bl_of rz ez
  exact wpAny_truthy_bool ⟨.bl (!b), H', I', rfl, qz⟩
/-! ### x[v] -/
def PlainSub (b : Expr) : Prop := ∀ o i, subscripted b true o i = runValue (.builtin "lifetime.subscript" ⟨[o, i], []⟩)
def tSubOwn (C : Addr) (sp : Sp) (E : XK) (ta tb : TE) : TE := fun σ H Q => ta σ H fun x H1 => tb σ H1 fun y H2 => ∃ a dx fs, x = V.ref a ∧ H2 a = some (.ins C dx fs) ∧ sp [x, y] H2 Q E
theorem pe_subOwn {a b : Expr} {ta tb : TE} {pos : Pos} (M : Meth X.K C "__getitem__" f) (hf : PySem.W.fnIn X.K f = true) (F : FnOk X.prog X.w X.K X.mg X.base CX k f fd ps sp) (hb : Binds X.K fd ps []) (hr : Room (k + 1) X.A) (hx : Passes CX X E)
    (ha : PE X a ta) (hb2 : PE X b tb) (hs : PlainSub b) : PE X (.Subscript a b pos) (tSubOwn C sp E ta tb) := by
  refine ⟨fun pins s σ H Q I h => ?_⟩
  refine Subscript_ (binT ha hb2 I h fun v u s2 x y H2 I2 rx ry q => ?_)
  obtain ⟨p, dx, fs, rfl, hp, q⟩ := q
  cases rx
  obtain ⟨od, J⟩ := ins_at I2 hp
  obtain ⟨m, hF⟩ := I2.fr
  exact PySem.W.sub_K hF I2.ok.mod.kin J M.at_ hf M.fn (run_sb (us := [.ref p, u]) (vs := [.ref p, y]) (sub_in1 hr) F hb hx I2 (.cons rfl (.cons ry .nil)) q) (hs _ _)
/-! ### x != y by an own __eq__ -/
theorem ne_bind (v : Value) : bindSpecial (.builtin "object.__ne__") v = pure (.builtin "object.__ne__", [v]) := PySem.F.cmp_object.ne.bind v
theorem ne_K {M : Addr} {ox : Obj} {od : Option Obj} {b tb : Value} {Q : Value → Shared → Prop} {E' : Value → Shared → Prop} {A : Around} {prog : Program} {w : World} {K : PySem.W.Frag} {h₀ : Heap} {m : Str → Option Value} {L : Addr} (hu : A.units + 1 < cLine)
    (X₀ : K.In s.heap) (I : PySem.W.InstAt s.heap x ox C od) (hb : PySem.W.Looks (model prog w) s.heap (typeOf b) tb) (hn : PySem.W.notFirst K C tb = true) (hm : PySem.W.mroIn K C (.type "object") = some true)
    (hne : PySem.W.findIn K (.ref C) "__ne__" = some (some (.builtin "object.__ne__"))) (hs : PySem.W.findIn K (.ref C) "__eq__" = some (some (.ref f))) (hf : PySem.W.isFn K (.ref f) = true)
    (h : wpAny (model prog w) A.in1 (call (.ref f) [.ref x, b]) (fun v s' => ∃ k, v = .bool k ∧ Q (.bool (!k)) s') E' s) : wpAny (model prog w) A (richCompare .NotEq (.ref x) b) Q E' s := by
  have hu0 : A.units < cLine := Nat.lt_of_succ_lt hu
  have hent : ∀ Q' : Fin → Shared → Prop, (∀ k s', Q (.bool k) s' → Q' (.done (.ret (.bool k))) s') → wpAny (model prog w) A.in1 (Builtin.«object.__ne__» ⟨[.ref x, b], []⟩) Q' E' s := by
    intro Q' hQ'
    unfold Builtin.«object.__ne__»
    refine wpAny_bind (m := slotArgs "__ne__" 1 _) (wpAny_pure ?_)
    refine wpAny_bind (wpAny_cRoomFor (by show A.units + 1 < cLine; exact hu) ?_)
    refine wpAny_bind (PySem.W.ifBound_K X₀ I hs hf (wpAny_mono h (fun v s' hv => ?_) fun _ _ e => e))
    obtain ⟨k, rfl, hq⟩ := hv
    refine wpAny_bind (wpAny_truthy_bool ?_)
    exact wpAny_pure (hQ' _ _ hq)
  have one : wpAny (model prog w) A (tryCompare (.ref x) (cmpInfo .NotEq).2.1 b) (fun r s' => ∃ v, r = some v ∧ Q v s') E' s := by
    unfold tryCompare
    have fin : wpAny (model prog w) A (call (.builtin "object.__ne__") [.ref x, b]) (fun v s' => ∃ k, v = .bool k ∧ Q (.bool k) s') E' s := by
      have sub : PySem.W.Looks (model prog w) s.heap (isInstance (.ref x) (.type "object")) true := I.type.andThen (PySem.W.looks_mroIn X₀ hm)
      refine wpAny_call (codeAny_call_builtin PySem.F.cmp_object.ne.plain PySem.F.cmpEntry_ne (@PySem.W.check_slot (model prog w) _ _ _ "object.__ne__" "object" "__ne__" (.ref x) [b] [] _ PySem.F.cmpKind_ne PySem.F.cmpSplit_ne sub (PySem.F.cmpArgs_ne _ _) ?_))
      exact hent _ fun k s' q => ⟨k, rfl, q⟩
    have go : wpAny (model prog w) A (callSpecialIfBound? (.ref x) (cmpInfo .NotEq).2.1 [b]) (fun r s' => ∃ v, r = some (.bool v) ∧ Q (.bool v) s') E' s := by
      simp only [callSpecialIfBound?, bindSpecialIfBound?]
      refine wpAny_holding (wpAny_bind (wpAny_bind (wpAny_bind (I.type.here ((PySem.W.looks_findIn X₀ hne).here ?_)))))
      refine wpAny_bind (wpAny_askSetting (wpAny_ite ?_))
      have fin2 : wpAny (model prog w) A (call (.builtin "object.__ne__") ([.ref x] ++ [b]) >>= fun v => pure (some v)) (fun r s' => ∃ v, r = some (.bool v) ∧ Q (.bool v) s') E' s :=
        wpAny_bind (wpAny_mono fin (fun v s' ⟨k, e, q⟩ => wpAny_pure ⟨k, by rw [e], q⟩) fun _ _ h' => h')
      rw [ne_bind]
      split
      · exact wpAny_bind (wpAny_pure (wpAny_pure fin2))
      · exact wpAny_tryCatch (wpAny_bind (wpAny_pure (wpAny_pure fin2)))
    refine wpAny_bind (wpAny_mono go (fun r s' hr => ?_) fun _ _ e => e)
    obtain ⟨v, rfl, q⟩ := hr
    exact wpAny_pure ⟨_, rfl, q⟩
  unfold richCompare
  simp only [oneThing_ref]
  refine wpAny_holding (wpAny_bind (wpAny_cRoomFor hu0 ?_))
  refine wpAny_bind (I.type.here (wpAny_bind (hb.here ?_)))
  split
  · rename_i q
    have e : PySem.W.subIn K tb (.ref C) = some false := by
      rcases Bool.or_eq_true_iff.mp hn with e | e
      · rw [beq_iff_eq.mp e] at q; simp at q
      · exact beq_iff_eq.mp e
    refine wpAny_bind ((PySem.W.looks_subIn X₀ e).here ?_)
    simp only [Bool.false_eq_true, if_false]
    refine wpAny_bind (wpAny_mono one (fun r s' z => ?_) fun _ _ e => e)
    obtain ⟨v, rfl, hq⟩ := z
    exact wpAny_pure hq
  · refine wpAny_bind (wpAny_pure ?_)
    simp only [Bool.false_eq_true, if_false]
    refine wpAny_bind (wpAny_mono one (fun r s' z => ?_) fun _ _ e => e)
    obtain ⟨v, rfl, hq⟩ := z
    exact wpAny_pure hq
def rNeOwn (C : Addr) (sp : Sp) : R2 := fun x y H Q => ∃ a dx fs b dy gs, x = V.ref a ∧ y = V.ref b ∧ H a = some (.ins C dx fs) ∧ H b = some (.ins C dy gs) ∧ sp [x, y] H (fun z H' => ∃ k, z = .bl k ∧ Q (.bl (!k)) H') E0
theorem op_neOwn (hi : InsC X.K C) (hne : PySem.W.findIn X.K (.ref C) "__ne__" = some (some (.builtin "object.__ne__"))) (M : Meth X.K C "__eq__" f) (F : FnOk X.prog X.w X.K X.mg X.base CX0 k f fd ps sp) (hb : Binds X.K fd ps []) (hr : Room (k + 1) X.A) :
    OpR X (compareOp .NotEq) (rNeOwn C sp) := by
  intro pins s σ H x y v u Q I rx ry h
  obtain ⟨a, dx, fs, b, dy, gs, rfl, rfl, ha, hb', q⟩ := h
  cases rx
  cases ry
  obtain ⟨od, J⟩ := ins_at I ha
  obtain ⟨od', J'⟩ := ins_at I hb'
  show wpAny _ _ (richCompare .NotEq (.ref a) (.ref b)) _ _ _
  refine ne_K (M := 0) (L := 0) (m := fun _ => none) (h₀ := s.heap) (tb := .ref C) (by have := hr.un; omega) I.kIn J J'.type (by unfold PySem.W.notFirst; simp) hi.hm hne M.at_ M.fn (wpAny_mono (run_sb0 (us := [.ref a, .ref b]) (vs := [.ref a, .ref b]) (sub_in1 hr) F hb I (.cons rfl (.cons rfl .nil)) q) (fun v s' hv => ?_) fun _ _ e => e)
  obtain ⟨z, H', I', rz, b, ez, qz⟩ := hv
  exact ⟨b, bl_of rz ez, .bl (!b), H', I', rfl, qz⟩
end
end K57
/-! R2 -/
namespace K57
open PySem PySem.Spec PyProof.Rows L2 He
/-! ### iter(t), t a tuple -/
def tiObj (t : Addr) : Obj := { cls := .type "tuple_iterator", data := .fields #[.ref t, .int 0 0] }
def TiO (t it : Addr) : HO := .ext fun h => h.get? it = some (tiObj t)
theorem tiO_ok {P : Program} {w : World} {H : Hp} {h : Heap} {t it : Addr} (e : h.get? it = some (tiObj t)) : ObjOk P w H h it (TiO t it) := ⟨e, ⟨_, e⟩, fun h1 h2 q k => k _ q⟩
/-- something stands there -/
def AnyO (it : Addr) : HO := .ext fun h => ∃ o, h.get? it = some o
theorem anyO_ok {P : Program} {w : World} {H : Hp} {h : Heap} {it : Addr} (e : ∃ o, h.get? it = some o) : ObjOk P w H h it (AnyO it) := ⟨e, e, fun h1 h2 q k => let ⟨o, z⟩ := q; ⟨o, k o z⟩⟩
def rIterT : List V → Hp → VK → Prop := fun xs H Q => ∃ (t : Addr) (ys : List V), xs = [.ref t] ∧ H t = some (.tup ys) ∧ ∀ it, H it = none → Q (.ref it) (upd H it (TiO t it))
section
variable {X : Cx} {pins : List (Addr × Obj)} {σ : L2.St} {H : Hp} {s : Shared}
theorem tup_at {t : Addr} {ys : List V} (I : Inv X pins σ H s) (h : H t = some (.tup ys)) : ys.length ≤ sizeLine ∧ ∃ its : List Value, Vals ys its ∧ s.heap.IsTuple t its.toArray := I.hok t _ h
theorem call_iterT : CallR X (.builtin "iter") rIterT := by
  intro pins s σ H xs us Q I r h
  obtain ⟨t, ys, rfl, ht, q⟩ := h
  obtain rfl := Vals.ref1 r
  obtain ⟨hz, its, rv, hT⟩ := tup_at I ht
  refine Calls.call_function_entry (by decide +kernel) (by decide +kernel) PySem.W.kdk_entry_iter (PySem.W.kdk_args_iter _) ?_
  unfold Builtin.«iter»
  refine wpAny_bind (m := someArgs "iter" 1 2 _) (wpAny_of_eq (a := [Value.ref t]) (by first | rfl | kernel_rfl!) ?_)
  show wpAny _ _ (pyIter (.ref t) >>= _) _ _ _
  refine wpAny_bind (wpAny_pyIter_tuple hT ?_)
  refine wpAny_pure ⟨_, rfl, ?_⟩
  exact ⟨.ref s.heap.objs.size, _, I.laid (t' := s.toks) (fun b u e => Heap.get?_push_of_some _ e) (Nat.le_refl _) (tiO_ok (Heap.get?_push_size _ rfl)), rfl, q _ (I.hok.fresh (Nat.le_refl _))⟩
end
/-! ### the iterator's last turn: it still stands -/
section
variable {prog : Program} {w : World} {A : Around} {E : Value → Shared → Prop} {R : Result → Shared → Prop} {it t S : Addr} {items : Array Value}
theorem ti_end {s : Shared} {i : Nat} {Q : Option Value → Shared → Prop} (hh : A.handled = none) (hit : s.heap.IsTupleIter it t i) (ht : s.heap.IsTuple t items) (hx : items[i]? = none)
    (hQ : ∀ h', Heap.ExtBut it s.heap h' → (∃ o, h'.get? it = some o) → Q none { s with heap := h' }) : wpAny (model prog w) A (pyNext (.ref it)) Q E s := by
  obtain ⟨o, ho, hc, hd⟩ := id hit
  obtain ⟨ol, hol, _, nl, hdl⟩ := ht
  unfold pyNext
  refine wpAny_bind (wpAny_attempt (wpAny_callSpecial?_slot (name := Str.ofString "__next__") hit.typeIs F.slot_tuple_iterator_next
    (wpAny_call_entry F.slot_tuple_iterator_next hit.typeIs F.entry_tuple_iterator_next ?_ (F.args_tuple_iterator_next_1 _))))
  show wpAny _ _ (field (.ref it) 0 >>= _) _ _ s
  refine wpAny_bind (wpAny_field ho hd (x := .ref t) rfl ?_)
  show wpAny _ _ (if (Value.ref t == Value.none) = true then _ else _) _ _ s
  rw [if_neg (show ¬ ((Value.ref t == Value.none) = true) from Bool.false_ne_true)]
  show wpAny _ _ (field (.ref it) 1 >>= _) _ _ s
  refine wpAny_bind (wpAny_field ho hd (x := .int i 0) rfl ?_)
  show wpAny _ _ (seqItems? (.ref t) >>= _) _ _ s
  refine wpAny_bind (wpAny_seqItems hol hdl ?_)
  simp only [Int.toNat_natCast, hx]
  refine wpAny_bind (wpAny_rule (wpAny_bind (wpAny_setField ho hd (by simp) ?_)))
  show wpAny _ _ (newExc (.type "StopIteration") [] >>= _) _ _ _
  refine wpAny_bind ?_
  simp only [newExc, newTuple]
  refine wpAny_bind (wpAny_newObj_type ?_ (by size_fits))
  refine wpAny_bind (m := firstArgMember _ _) (wpAny_of_eq (a := Value.none) (by first | rfl | (simp only [firstArgMember]; rfl)) ?_)
  refine wpAny_newObj_type ?_ (by size_fits)
  simp only [raiseNew]
  refine wpAny_bind (wpAny_handled ?_)
  first | rw [show A.in1.handled = none from hh] | rw [hh]
  refine wpAny_bind (wpAny_pure (wpAny_throw ?_))
  refine wpAny_bind (wpAny_isInstance (T := "StopIteration") (b := true) ⟨_, Heap.get?_push_size _ rfl, rfl⟩ isSubtype_stop ?_)
  refine wpAny_pure (hQ _ (((Heap.SameBut.update ..).extBut.push _).push _) ?_)
  exact ⟨_, Heap.get?_push_of_some _ (Heap.get?_push_of_some _ (Heap.get?_update_self _ ho (Obj.isFreed_of_fields (Obj.data_mapFields hd _))))⟩
/-- the list at S takes the items -/
theorem ti_loop (hh : A.handled = none) (hne : t ≠ it) (hSi : S ≠ it) (hSt : S ≠ t) (hz : items.size ≤ sizeLine) (res : Value) :
    ∀ (k i : Nat) (s : Shared), items.size - i = k → i ≤ items.size → s.heap.IsTupleIter it t i → s.heap.IsTuple t items → (∃ c, s.heap.get? S = some { cls := .type "list", data := .seq (items.toList.take i).toArray c }) →
    (∀ h' c', (∀ b o, b ≠ S → b ≠ it → s.heap.get? b = some o → h'.get? b = some o) → (∃ o, h'.get? it = some o) → h'.get? S = some { cls := .type "list", data := .seq items c' } → R (.ok (.ret res)) { s with heap := h' }) →
    codeAny (model prog w) A (.builtin "list.extend.loop" ⟨[.ref S, .ref it, res], []⟩) R s := by
  intro k
  induction k with
  | zero =>
    intro i s hk hi hit ht ⟨c, hS⟩ hR
    have hin : i = items.size := by omega
    subst hin
    refine codeAny_builtin F.entry_extend_loop ?_
    rw [Around.under_plainId F.plain_extend_loop _]
    show wpAny _ A.in1 (pyNext (.ref it) >>= _) _ _ s
    refine wpAny_bind (ti_end hh hit ht (by simp) fun h' hs ho => ?_)
    refine wpAny_pure (hR h' c (fun b o hb hb2 e => hs b o hb2 e) ho ?_)
    have e := hs S _ hSi hS
    rw [List.take_of_length_le (by simp)] at e
    simpa using e
  | succ k ih =>
    intro i s hk hi hit ht ⟨c, hS⟩ hR
    have hlt : i < items.size := by omega
    refine codeAny_builtin F.entry_extend_loop ?_
    rw [Around.under_plainId F.plain_extend_loop _]
    show wpAny _ A.in1 (pyNext (.ref it) >>= _) _ _ s
    refine wpAny_bind (wpAny_pyNext_tuple_item hit ht (x := items[i]) (by simp [hlt]) fun h1 hit1 hs1 => ?_)
    have hS1 := hs1.extBut S _ hSi hS
    have ht1 := ht.extBut hs1.extBut hne
    show wpAny _ A.in1 (updateSeq S (·.push items[i]) >>= _) _ _ _
    have hacc : (items.toList.take i).toArray.push items[i] = (items.toList.take (i + 1)).toArray := by
      have e : items.toList.take (i + 1) = items.toList.take i ++ [items[i]] := by
        rw [List.take_succ]
        have : items.toList[i]? = some items[i] := by simp [hlt]
        rw [this]
        rfl
      rw [e]
      simp
    have hlen : (items.toList.take i).length = i := by rw [List.length_take]; simp; omega
    refine wpAny_bind (wpAny_updateSeq hS1 rfl (wpAny_pure ⟨plainId_quiet F.plain_extend_loop _, ih (i + 1) _ (by omega) hlt ?_ ?_ ?_ fun h' c' k1 k2 k3 => ?_⟩) (by rw [List.size_toArray, hlen]; omega) (by show ((items.toList.take i).toArray.push _).size ≤ sizeLine + 1; rw [Array.size_push, List.size_toArray, hlen]; omega))
    · obtain ⟨o, ho, r⟩ := hit1
      exact ⟨o, (Heap.get?_update_other _ _ hSi).trans ho, r⟩
    · obtain ⟨o, ho, r⟩ := ht1
      exact ⟨o, (Heap.get?_update_other _ _ hSt).trans ho, r⟩
    · have e := PySem.IsL.update hS1 (·.push items[i])
      rw [hacc] at e
      exact ⟨_, e⟩
    · refine hR h' c' (fun b o hb hb2 e => ?_) k2 k3
      refine k1 b o hb hb2 ?_
      exact (Heap.get?_update_other _ _ (Ne.symm hb)).trans (hs1.extBut b o hb2 e)
end
/-! ### [*x, ..], x an instance with an own __iter__ over a tuple, and an own __len__ -/
def spIter (C : Addr) (f : Str) : Sp := fun vs H Q _ => ∃ x dx fs t ys, vs = [.ref x] ∧ H x = some (.ins C dx fs) ∧ fs.lookup f = some (.ref t) ∧ H t = some (.tup ys) ∧ ∀ it, H it = none → Q (.ref it) (upd H it (TiO t it))
def spLen (C : Addr) (f : Str) : Sp := fun vs H Q _ => ∃ x dx fs t ys, vs = [.ref x] ∧ H x = some (.ins C dx fs) ∧ fs.lookup f = some (.ref t) ∧ H t = some (.tup ys) ∧ Q (.int ys.length) H
theorem if_on {α : Type} {M : Model} {A : Around} {c : Bool} {a b : Sem α} {Q : α → Shared → Prop} {E : Value → Shared → Prop} {s : Shared} (h : c = true) (hq : wpAny M A a Q E s) : wpAny M A (if c = true then a else b) Q E s := by
  rw [if_pos h]
  exact hq
section
variable {X : Cx} {k : Nat} {C fi fl : Addr} {fdI fdL : FuncData} {psI psL : List Str} {f : Str}
/-- what is new and what the walk has left behind -/
def tStarOwn (C : Addr) (f : Str) (te : TE) (t : TA) : TA := fun σ H Q => te σ H fun y H1 => ∃ x dx fs tu ys, y = V.ref x ∧ H1 x = some (.ins C dx fs) ∧ fs.lookup f = some (.ref tu) ∧ H1 tu = some (.tup ys) ∧ ∀ H2, Same H1 H2 → t σ H2 fun vs H3 => Q (ys ++ vs) H3
theorem star_own (MI : Meth X.K C "__iter__" fi) (ML : Meth X.K C "__len__" fl) (FI : FnOk X.prog X.w X.K X.mg X.base CX0 k fi fdI psI (spIter C f)) (bI : Binds X.K fdI psI []) (FL : FnOk X.prog X.w X.K X.mg X.base CX0 k fl fdL psL (spLen C f)) (bL : Binds X.K fdL psL [])
    (hr : Room (k + 3) X.A) {pins : List (Addr × Obj)} {σ : L2.St} {H : Hp} {s : Shared} {x dx tu : Addr} {fs : List (Str × V)} {ys : List V} {E : Value → Shared → Prop} {Q : List Value → Shared → Prop} (I : Inv X pins σ H s) (hx : H x = some (.ins C dx fs)) (hl : fs.lookup f = some (.ref tu)) (ht : H tu = some (.tup ys))
    (hQ : ∀ us s' H', Inv X pins σ H' s' → Same H H' → Vals ys us → Q us s') : PySem.W.StarOf (model X.prog X.w) X.A E (.ref x) Q s := by
  obtain ⟨od, J⟩ := ins_at I hx
  have hSn := I.fresh
  have sb : Sub X k X.A.in1 := (sub_in1 hr).mono (by omega)
  have sb2 : Sub X k X.A.in1.in1 := (Sub.in1 ((sub_in1 hr).mono (Nat.le_succ _))).mono (by omega)
  have z : wpAny (model X.prog X.w) X.A (collect (.ref x)) Q E s := by
    unfold collect
    refine wpAny_bind (wpAny_runValue (codeAny_builtin F.entry_proto_collect ?_))
    rw [Around.under_plainId F.plain_proto_collect _]
    show wpAny _ X.A.in1 (newList [] >>= fun l => again (.builtin "list.__iadd__" ⟨[l, .ref x], []⟩)) _ _ s
    refine wpAny_bind (wpAny_newObj_type ?_)
    refine wpAny_pure ⟨plainId_quiet F.plain_list_iadd _, codeAny_builtin F.entry_list_iadd ?_⟩
    rw [Around.under_plainId F.plain_list_iadd _]
    have hSx : s.heap.objs.size ≠ x := fun e => by rw [e, hx] at hSn; cases hSn
    have I1 : Inv X pins σ (upd H s.heap.objs.size (.lst [])) { s with heap := s.heap.push { cls := .type "list", data := .seq ([] : List Value).toArray } } := I.lnew (its := []) (t' := s.toks) .nil (Nat.zero_le _)
    generalize hS : s.heap.objs.size = S at *
    generalize hs1 : ({ s with heap := s.heap.push { cls := .type "list", data := .seq ([] : List Value).toArray } } : Shared) = s1 at *
    have hx1 : upd H S (.lst []) x = some (.ins C dx fs) := by rw [upd_ne (Ne.symm hSx)]; exact hx
    have ht1 : upd H S (.lst []) tu = some (.tup ys) := by rw [upd_ne (ne_of_none ht hSn)]; exact ht
    obtain ⟨od1, J1⟩ := ins_at I1 hx1
    obtain ⟨m1, hF1⟩ := I1.fr
    show wpAny _ X.A.in1 (Builtin.List.listExtendWith (.ref S) (.ref x) (.ref S)) _ _ _
    unfold Builtin.List.listExtendWith
    refine wpAny_bind (J1.type.here ?_)
    have h1 : Builtin.List.listSameRef (.ref S) (.ref x) = false := by simp [Builtin.List.listSameRef, hSx]
    have h2 : (Value.ref C == Value.type "list") = false := rfl
    have h3 : (Value.ref C == Value.type "tuple") = false := rfl
    simp only [h1, h2, h3, Bool.or_false, Bool.false_eq_true, if_false]
    refine wpAny_bind (PySem.W.owit_iter hF1 I1.ok.mod.kin J1 MI.at_ MI.fn (wpAny_mono (run_sb0 (us := [.ref x]) (vs := [.ref x]) (E := E0) (Q := fun v H' => ∃ it, v = .ref it ∧ upd H S (.lst []) it = none ∧ H' = upd (upd H S (.lst [])) it (TiO tu it)) sb FI bI I1 (.cons rfl .nil)
      ⟨x, dx, fs, tu, ys, rfl, hx1, hl, ht1, fun it nit => ⟨it, rfl, nit, rfl⟩⟩) (fun v s2 hv => ?_) fun _ _ e => e))
    obtain ⟨v', H2, I2, rv, it, ev, nit, eH⟩ := hv
    subst ev
    subst eH
    cases rv
    have hit := (I2.hok it _ upd_same).1
    have htype : s2.TypeIs (.ref it) "tuple_iterator" := ⟨_, hit, rfl⟩
    unfold PySem.W.OwitIt
    refine wpAny_specialOf htype F.slot_tuple_iterator_next.lookup ?_
    show wpAny _ _ (holding [Value.ref it] (Builtin.List.listLengthHint (.ref x)) >>= _) _ _ _
    have hx2 : upd (upd H S (.lst [])) it (TiO tu it) x = some (.ins C dx fs) := by rw [upd_ne (ne_of_none hx1 nit)]; exact hx1
    have ht2 : upd (upd H S (.lst [])) it (TiO tu it) tu = some (.tup ys) := by rw [upd_ne (ne_of_none ht1 nit)]; exact ht1
    obtain ⟨od2, J2⟩ := ins_at I2 hx2
    obtain ⟨m2, hF2⟩ := I2.fr
    have hlin : ys.length ≤ sizeLine := (tup_at I2 ht2).1
    have hlt : ys.length < 2 ^ 62 := Nat.lt_of_le_of_lt hlin (by rw [sizeLine_eq]; decide)
    have hint : ∀ (Q' : Bool → Shared → Prop) (E' : Value → Shared → Prop), (∀ b s', Inv X pins σ (upd (upd H S (.lst [])) it (TiO tu it)) s' → Q' b s') → wpAny (model X.prog X.w) X.A.in1 (Builtin.List.listLengthHint (.ref x)) Q' E' s2 := by
      intro Q' E' hq
      unfold Builtin.List.listLengthHint
      refine wpAny_bind (wpAny_bind (J2.type.here ((PySem.W.looks_findIn I2.kIn ML.at_).here ?_)))
      refine PySem.W.KFB.if_not rfl ?_
      refine if_on rfl ?_
      refine wpAny_bind (wpAny_rule ?_)
      refine wpAny_bind (wpAny_attempt (PySem.W.len_K hF2 I2.ok.mod.kin J2 ML.at_ ML.fn (wpAny_mono (run_sb0 (us := [.ref x]) (vs := [.ref x]) (E := E0) (Q := fun v H' => v = .int ys.length ∧ H' = upd (upd H S (.lst [])) it (TiO tu it)) sb2 FL bL I2 (.cons rfl .nil)
        ⟨x, dx, fs, tu, ys, rfl, hx2, hl, ht2, rfl, rfl⟩) (fun v s3 hv => ?_) fun _ _ e => e)))
      obtain ⟨v', H3, I3, rv, ev, eH⟩ := hv
      subst ev
      subst eH
      obtain ⟨t, e⟩ := (show ∃ t, v = Value.int ys.length t from rv)
      subst e
      refine ⟨⟨by omega, ?_⟩, ?_⟩
      · have h2 : ((2 : Nat) ^ 62 : Nat) = (4611686018427387904 : Nat) := by decide
        have h3 : (2 : Int) ^ 63 = 9223372036854775808 := by decide
        omega
      show wpAny _ _ (asInt? _ >>= _) _ _ _
      refine wpAny_bind (m := asInt? (.int _ _)) (wpAny_pure ?_)
      dsimp only
      rw [if_neg (by rw [Int.toNat_natCast, notLongL hlin]; decide)]
      exact wpAny_pure (hq _ _ (I3.tok _))
    refine wpAny_bind (wpAny_holding (hint _ _ fun b s3 I3 => ?_))
    have loop : ∀ s4, Inv X pins σ (upd (upd H S (.lst [])) it (TiO tu it)) s4 → codeAny (model X.prog X.w) X.A (.builtin "list.extend.loop" ⟨[.ref S, .ref it, .ref S], []⟩)
        (fun r s' => match r with
          | .ok (.ret v) => wpAny (model X.prog X.w) X.A (do
              match v with
              | .ref a => match (← load a).data with
                | .seq xs _ => pure xs.toList
                | _ => unsupported "internal:collect"
              | _ => unsupported "internal:collect") Q E s'
          | _ => False) s4 := by
      intro s4 I4
      have hSit : S ≠ it := fun e => by
        have e2 : upd H S (.lst []) S = none := by rw [e]; rw [e] at nit; exact nit
        rw [upd_same] at e2
        cases e2
      have hS4 : upd (upd H S (.lst [])) it (TiO tu it) S = some (.lst []) := by rw [upd_ne hSit]; exact upd_same
      obtain ⟨_, its0, c, r0, l0, eS⟩ := I4.lstM hS4
      cases r0
      obtain ⟨_, its, rt, hT⟩ := tup_at I4 ht2
      have hti := (I4.hok it _ upd_same).1
      have htu : tu ≠ it := ne_of_none ht1 nit
      have hSt : S ≠ tu := Ne.symm (ne_of_none ht hSn)
      refine ti_loop (items := its.toArray) hr.hd htu hSit hSt (by rw [List.size_toArray, ← rt.length]; exact hlin) (.ref S) _ 0 s4 rfl (Nat.zero_le _) ⟨_, hti, rfl, rfl⟩ hT ⟨c, by simpa using eS⟩ fun h' c' k1 k2 k3 => ?_
      have I5 : Inv X pins σ (upd (upd (upd (upd H S (.lst [])) it (TiO tu it)) S (.lst ys)) it (AnyO it)) { s4 with heap := h' } := by
        have hb1 : ∀ b, b ≠ S → b ≠ it → (upd (upd (upd (upd H S (.lst [])) it (TiO tu it)) S (.lst ys)) it (AnyO it)) b = upd (upd H S (.lst [])) it (TiO tu it) b := fun b h1 h2 => by rw [upd_ne h2, upd_ne h1]
        have nS : ∀ b, upd (upd H S (.lst [])) it (TiO tu it) b = none → b ≠ S ∧ b ≠ it := fun b n => ⟨fun e => (by rw [e, hS4] at n; cases n), fun e => (by rw [e, upd_same] at n; cases n)⟩
        refine I4.un (h' := h') (t' := s4.toks) ⟨fun b o e n _ _ => k1 b o (nS b n).1 (nS b n).2 e, fun b o e n _ _ => ⟨o.slots, k1 b o (nS b n).1 (nS b n).2 e⟩, fun b o e n _ => by rw [hb1 b (nS b n).1 (nS b n).2]; exact n, fun b o e _ => ?_, fun b xs e => ?_, fun b o u e => ?_, fun b ps e => ⟨#[], ?_⟩⟩ ?_
        · by_cases z1 : b = S
          · subst z1; exact ⟨_, k3⟩
          · by_cases z2 : b = it
            · subst z2; exact k2
            · exact ⟨o, k1 b o z1 z2 e⟩
        · have z1 : b ≠ S := fun z => by rw [z, hS4] at e; cases e
          have z2 : b ≠ it := fun z => by rw [z, upd_same] at e; cases e
          rw [hb1 b z1 z2]; exact e
        · have z1 : b ≠ S := fun z => by rw [z, hS4] at e; cases e
          have z2 : b ≠ it := fun z => by rw [z, upd_same] at e; cases e
          rw [hb1 b z1 z2]; exact e
        · have z1 : b ≠ S := fun z => by rw [z, hS4] at e; cases e
          have z2 : b ≠ it := fun z => by rw [z, upd_same] at e; cases e
          rw [hb1 b z1 z2, e]; simp
        · intro b u e
          by_cases z2 : b = it
          · subst z2
            rw [upd_same] at e
            cases e
            exact anyO_ok k2
          by_cases z1 : b = S
          · subst z1
            rw [upd_ne z2, upd_same] at e
            cases e
            exact ⟨hlin, its, c', rt, k3⟩
          rw [hb1 b z1 z2] at e
          refine (I4.hok b u e).stay (fun c' v hc q => ?_) (fun c' q => ?_) fun c' xs q => ?_
          · have y1 : c' ≠ S := by
              rcases hc with hc | hc
              · rw [hc]; exact z1
              · intro z; rw [z, hS4] at hc; cases hc
            have y2 : c' ≠ it := by
              rcases hc with hc | hc
              · rw [hc]; exact z2
              · intro z; rw [z, upd_same] at hc; cases hc
            exact k1 c' v y1 y2 q
          · have y1 : c' ≠ S := fun z => by rw [z, hS4] at q; cases q
            have y2 : c' ≠ it := fun z => by rw [z, upd_same] at q; cases q
            rw [hb1 c' y1 y2]; exact q
          · have y1 : c' ≠ S := fun z => by rw [z, hS4] at q; cases q
            have y2 : c' ≠ it := fun z => by rw [z, upd_same] at q; cases q
            rw [hb1 c' y1 y2]; exact q
      show wpAny _ X.A (load S >>= _) _ _ _
      refine wpAny_bind (wpAny_load k3 ?_)
      refine wpAny_pure ?_
      have e : its.toArray.toList = its := by simp
      rw [e]
      refine hQ its _ _ I5 (fun b o e => ?_) rt
      have y1 : b ≠ S := ne_of_none e hSn
      have y2 : b ≠ it := fun z => by
        subst z
        rw [upd_ne y1] at nit
        rw [nit] at e
        cases e
      rw [upd_ne y2, upd_ne y1, upd_ne y2, upd_ne y1]
      exact e
    refine wpAny_ite_split (fun _ => ?_) (fun _ => wpAny_pure ⟨plainId_quiet F.plain_extend_loop _, codeAny_mono (loop s3 I3) fun r s' hr => ?_⟩)
    · refine wpAny_bind (wpAny_rule ?_)
      refine wpAny_bind ?_
      show wpAny _ _ (updateSeq S (·.push .none) >>= fun _ => updateSeq S (·.pop)) _ _ _
      have hSit : S ≠ it := fun e => by
        have e2 : upd H S (.lst []) S = none := by rw [e]; rw [e] at nit; exact nit
        rw [upd_same] at e2
        cases e2
      have hS3 : upd (upd H S (.lst [])) it (TiO tu it) S = some (.lst []) := by rw [upd_ne hSit]; exact upd_same
      obtain ⟨_, its0, c, r0, l0, eS⟩ := I3.lstM hS3
      cases r0
      refine wpAny_bind (wpAny_updateSeq eS rfl ?_)
      have I4 := I3.lset (f := (·.push Value.none)) (its' := [Value.none]) (ys := [.non]) (t' := s3.toks) hS3 eS (by simp) (.cons rfl .nil) (by rw [List.length_singleton, sizeLine_eq]; decide)
      obtain ⟨z4, its4, k4, r4, hl4, e4⟩ := I4.lstM upd_same
      obtain ⟨u4, rfl, ru4⟩ := r4.one
      refine wpAny_updateSeq e4 rfl ?_ (by show 1 ≤ sizeLine; rw [sizeLine_eq]; decide) (by show 0 ≤ sizeLine + 1; exact Nat.zero_le _)
      have I5 := I4.lset (f := (·.pop)) (its := [u4]) (its' := []) (ys := []) (t' := s3.toks) upd_same e4 (by rfl) .nil (Nat.zero_le _)
      rw [upd_upd] at I5
      have hH : upd (upd (upd H S (.lst [])) it (TiO tu it)) S (.lst []) = upd (upd H S (.lst [])) it (TiO tu it) := by
        funext b
        by_cases hb : b = S
        · rw [hb, upd_same, hS3]
        · rw [upd_ne hb]
      rw [hH] at I5
      exact wpAny_pure ⟨plainId_quiet F.plain_extend_loop _, codeAny_mono (loop _ I5) fun r s' hr => by
        cases r with
        | error e => exact (show False from hr).elim
        | ok fl =>
          cases fl with
          | ret v => exact hr
          | _ => exact (show False from hr).elim⟩
    · cases r with
      | error e => exact (show False from hr).elim
      | ok fl =>
        cases fl with
        | ret v => exact hr
        | _ => exact (show False from hr).elim
  unfold PySem.W.StarOf notIterableAtAll
  refine wpAny_bind (wpAny_bind (J.type.here ((PySem.W.looks_findIn I.kIn MI.at_).here ?_)))
  exact wpAny_pure ⟨rfl, z⟩
theorem pa_starOwn {e : Expr} {es : List Expr} {te : TE} {t : TA} {p : Pos} (MI : Meth X.K C "__iter__" fi) (ML : Meth X.K C "__len__" fl) (FI : FnOk X.prog X.w X.K X.mg X.base CX0 k fi fdI psI (spIter C f)) (bI : Binds X.K fdI psI []) (FL : FnOk X.prog X.w X.K X.mg X.base CX0 k fl fdL psL (spLen C f)) (bL : Binds X.K fdL psL [])
    (hr : Room (k + 3) X.A) (he : PE X e te) (hra : PA X es t) (hs : starEach (.Starred e p :: es) X.env = (true, eval e X.env) :: starEach es X.env := by rfl) : PA X (.Starred e p :: es) (tStarOwn C f te t) := by
  refine ⟨fun pos pins s σ H Q I h => ?_⟩
  refine PySem.W.items_star (thn (he.run pins s σ H _ I h) fun v s1 ⟨y, H1, I1, ry, x, dx, fs, tu, ys, ey, hx, hl, ht, q⟩ => ?_) hs
  subst ey
  obtain rfl : v = Value.ref x := ry
  refine star_own MI ML FI bI FL bL hr I1 hx hl ht fun us s2 H2 I2 sm rv => ?_
  exact thn (hra.run pos pins s2 σ H2 _ I2 (q H2 sm)) fun ws s3 ⟨vs, H3, I3, r3, q3⟩ => ⟨ys ++ vs, H3, I3, rv.append r3, q3⟩
end
end K57
/-! D5 -/
namespace K57
open PySem PySem.Spec PyProof.Rows L2 He
/-! ### data that is laid out and told apart -/
theorem tupD_lay (r : List Int) (h : r.length ≤ 100000) : (tupD r).canLay0 = true := by
  have go : ∀ l : List Int, PyData.canLayAll0 (l.map PyData.int) = true := by
    intro l
    induction l with
    | nil => simp [PyData.canLayAll0]
    | cons a l ih => simp [PyData.canLayAll0, PyData.canLay0, ih]
  show (PyData.tuple (r.map .int)).canLay0 = true
  simp [PyData.canLay0, go]
theorem tupD_depth (r : List Int) : (tupD r).depth ≤ 1 := by
  have go : ∀ l : List Int, PyData.depthAll (l.map PyData.int) = 0 := by
    intro l
    induction l with
    | nil => simp [PyData.depthAll]
    | cons a l ih => simp [PyData.depthAll, PyData.depth, ih]
  show (PyData.tuple (r.map .int)).depth ≤ 1
  simp [PyData.depth, go]
theorem rows_lay : ∀ rows : List (List Int), (∀ r ∈ rows, r.length ≤ 100000) → PyData.canLayAll0 (rows.map tupD) = true
  | [], _ => by simp [PyData.canLayAll0]
  | r :: rs, h => by
    have h1 := tupD_lay r (h r List.mem_cons_self)
    have h2 := rows_lay rs fun x hx => h x (List.mem_cons_of_mem _ hx)
    simp [PyData.canLayAll0, h1, h2]
theorem rows_depth : ∀ rows : List (List Int), PyData.depthAll (rows.map tupD) ≤ 1
  | [] => by simp [PyData.depthAll]
  | r :: rs => by
    have h1 := tupD_depth r
    have h2 := rows_depth rs
    simp only [List.map_cons, PyData.depthAll]
    exact Nat.max_le.mpr ⟨h1, h2⟩
theorem rowsT_shaped {rows : List (List Int)} (h : ∀ r ∈ rows, r.length ≤ 100000) : SeqAt.shaped (.tuple (rows.map tupD)) = true := by
  have h1 := rows_lay rows h
  have h2 := rows_depth rows
  unfold SeqAt.shaped
  rw [Bool.and_eq_true]
  refine ⟨by simp [PyData.canLay0, h1], decide_eq_true ?_⟩
  simp only [PyData.depth]
  omega
theorem rowsT_eqv {rows : List (List Int)} (h : ∀ r ∈ rows, r.length ≤ 100000) : PyData.eqv (.tuple (rows.map tupD)) (.tuple (rows.map tupD)) = true :=
  SeqAt.eqv_refl _ (SeqAt.canLay_of_shaped (rowsT_shaped h))
/-- an instance of C that holds rows -/
structure HasRows (H : Hp) (C x : Addr) (f : Str) (n : Int) (rows : List (List Int)) : Prop where
  at_ : ∃ t xs, InsAt H C x f n t ∧ H t = some (.tup xs) ∧ DqAll H xs (rows.map tupD)
theorem HasRows.mono {H H' : Hp} {C x : Addr} {f : Str} {n : Int} {rows : List (List Int)} (s : Same H H') (h : HasRows H C x f n rows) : HasRows H' C x f n rows := by
  obtain ⟨t, xs, h1, h2, h3⟩ := h.at_
  exact ⟨t, xs, h1.mono s, s _ _ h2, h3.mono s⟩
def spEq (C : Addr) (f : Str) : Sp := fun vs H Q _ => ∃ x y n rows, vs = [.ref x, .ref y] ∧ HasRows H C x f n rows ∧ HasRows H C y f n rows ∧ (∀ r ∈ rows, r.length ≤ 100000) ∧ Q (.bl true) H
theorem get_size {f : Str} {n : Int} {t : Addr} : List.lookup ("own_size" : Str) ([(("own_size" : Str), V.int n), (f, V.ref t)] : List (Str × V)) = some (V.int n) := by simp [List.lookup]
theorem get_rows {f : Str} {n : Int} {t : Addr} (hf : f ≠ "own_size") : ([(("own_size" : Str), V.int n), (f, .ref t)] : List (Str × V)).lookup f = some (.ref t) := by
  have e : (f == ("own_size" : Str)) = false := by
    rw [beq_eq_false_iff_ne]
    exact hf
  simp [List.lookup, e]
section
variable {P : Program} {w : World} {K : PySem.W.Frag} {mg : Str → Option Value} {base : Heap}
theorem sc_Network_size : FnScope ["self"] ["self"] (defScope sNetworkSize) := ⟨rfl, rfl, rfl, by decide +kernel, rfl, by decide +kernel, by decide +kernel⟩
theorem ok_Network_size (T : Txt K mg) : FnOk P w K mg base CX0 1 (pAd K "Network" "size") (fdAt K (pAd K "Network" "size")) ["self"] (getSp (ga K "Network") "own_size") := by
  refine T.f_Network_size.ok sc_Network_size (fun vs H Q E h => ?_) (fun cdv A outer s H vs Q E hr h => ?_)
  · obtain ⟨a, dx, fs, v, rfl, _⟩ := h
    rfl
  obtain ⟨a, dx, fs, v, rfl, ha, hl, q⟩ := h
  exact ⟨_, PSs.nox (pss_one (ps_ret (pe_fld (pv 0) rfl))), _, rfl, a, _, _, _, _, rfl, ha, T.ins_Network.cl, T.n_Network_own_size, hl, q⟩
theorem sc_Order_size : FnScope ["self"] ["self"] (defScope sOrderSize) := ⟨rfl, rfl, rfl, by decide +kernel, rfl, by decide +kernel, by decide +kernel⟩
theorem ok_Order_size (T : Txt K mg) : FnOk P w K mg base CX0 1 (pAd K "Order" "size") (fdAt K (pAd K "Order" "size")) ["self"] (getSp (ga K "Order") "own_size") := by
  refine T.f_Order_size.ok sc_Order_size (fun vs H Q E h => ?_) (fun cdv A outer s H vs Q E hr h => ?_)
  · obtain ⟨a, dx, fs, v, rfl, _⟩ := h
    rfl
  obtain ⟨a, dx, fs, v, rfl, ha, hl, q⟩ := h
  exact ⟨_, PSs.nox (pss_one (ps_ret (pe_fld (pv 0) rfl))), _, rfl, a, _, _, _, _, rfl, ha, T.ins_Order.cl, T.n_Order_own_size, hl, q⟩
theorem sc_Network_iter : FnScope ["self"] ["self"] (defScope sNetworkIter) := ⟨rfl, rfl, rfl, by decide +kernel, rfl, by decide +kernel, by decide +kernel⟩
theorem ok_Network_iter (T : Txt K mg) : FnOk P w K mg base CX0 1 (ma K (ga K "Network") "__iter__") (fdAt K (ma K (ga K "Network") "__iter__")) ["self"] (spIter (ga K "Network") "own_steps") := by
  refine T.f_Network_iter.ok sc_Network_iter (fun vs H Q E h => ?_) (fun cdv A outer s H vs Q E hr h => ?_)
  · obtain ⟨a, dx, fs, t, ys, rfl, _⟩ := h
    rfl
  obtain ⟨a, dx, fs, t, ys, rfl, ha, hl, ht, q⟩ := h
  exact ⟨_, PSs.nox (pss_one (ps_ret (b_iter call_iterT T (pa_cons (pe_fld (pv 0) rfl) pa_nil)))), _, rfl, a, _, _, _, _, rfl, ha, T.ins_Network.cl, T.n_Network_own_steps, hl, t, ys, rfl, ht, q⟩
theorem sc_Order_iter : FnScope ["self"] ["self"] (defScope sOrderIter) := ⟨rfl, rfl, rfl, by decide +kernel, rfl, by decide +kernel, by decide +kernel⟩
theorem ok_Order_iter (T : Txt K mg) : FnOk P w K mg base CX0 1 (ma K (ga K "Order") "__iter__") (fdAt K (ma K (ga K "Order") "__iter__")) ["self"] (spIter (ga K "Order") "own_pairs") := by
  refine T.f_Order_iter.ok sc_Order_iter (fun vs H Q E h => ?_) (fun cdv A outer s H vs Q E hr h => ?_)
  · obtain ⟨a, dx, fs, t, ys, rfl, _⟩ := h
    rfl
  obtain ⟨a, dx, fs, t, ys, rfl, ha, hl, ht, q⟩ := h
  exact ⟨_, PSs.nox (pss_one (ps_ret (b_iter call_iterT T (pa_cons (pe_fld (pv 0) rfl) pa_nil)))), _, rfl, a, _, _, _, _, rfl, ha, T.ins_Order.cl, T.n_Order_own_pairs, hl, t, ys, rfl, ht, q⟩
theorem sc_Network_len : FnScope ["self"] ["self"] (defScope sNetworkLen) := ⟨rfl, rfl, rfl, by decide +kernel, rfl, by decide +kernel, by decide +kernel⟩
theorem ok_Network_len (T : Txt K mg) : FnOk P w K mg base CX0 1 (ma K (ga K "Network") "__len__") (fdAt K (ma K (ga K "Network") "__len__")) ["self"] (spLen (ga K "Network") "own_steps") := by
  refine T.f_Network_len.ok sc_Network_len (fun vs H Q E h => ?_) (fun cdv A outer s H vs Q E hr h => ?_)
  · obtain ⟨a, dx, fs, t, ys, rfl, _⟩ := h
    rfl
  obtain ⟨a, dx, fs, t, ys, rfl, ha, hl, ht, q⟩ := h
  exact ⟨_, PSs.nox (pss_one (ps_ret (b_len call_len_seq T (pa_cons (pe_fld (pv 0) rfl) pa_nil)))), _, rfl, a, _, _, _, _, rfl, ha, T.ins_Network.cl, T.n_Network_own_steps, hl, t, ys, rfl, .inr (SqT.of ht), q⟩
theorem sc_Order_len : FnScope ["self"] ["self"] (defScope sOrderLen) := ⟨rfl, rfl, rfl, by decide +kernel, rfl, by decide +kernel, by decide +kernel⟩
theorem ok_Order_len (T : Txt K mg) : FnOk P w K mg base CX0 1 (ma K (ga K "Order") "__len__") (fdAt K (ma K (ga K "Order") "__len__")) ["self"] (spLen (ga K "Order") "own_pairs") := by
  refine T.f_Order_len.ok sc_Order_len (fun vs H Q E h => ?_) (fun cdv A outer s H vs Q E hr h => ?_)
  · obtain ⟨a, dx, fs, t, ys, rfl, _⟩ := h
    rfl
  obtain ⟨a, dx, fs, t, ys, rfl, ha, hl, ht, q⟩ := h
  exact ⟨_, PSs.nox (pss_one (ps_ret (b_len call_len_seq T (pa_cons (pe_fld (pv 0) rfl) pa_nil)))), _, rfl, a, _, _, _, _, rfl, ha, T.ins_Order.cl, T.n_Order_own_pairs, hl, t, ys, rfl, .inr (SqT.of ht), q⟩
theorem sc_Network_eq : FnScope ["self", "other"] ["self", "other"] (defScope sNetworkEq) := ⟨rfl, rfl, rfl, by decide +kernel, rfl, by decide +kernel, by decide +kernel⟩
theorem ok_Network_eq (T : Txt K mg) : FnOk P w K mg base CX0 1 (ma K (ga K "Network") "__eq__") (fdAt K (ma K (ga K "Network") "__eq__")) ["self", "other"] (spEq (ga K "Network") "own_steps") := by
  refine T.f_Network_eq.ok sc_Network_eq (fun vs H Q E h => ?_) (fun cdv A outer s H vs Q E hr h => ?_)
  · obtain ⟨x, y, n, rows, rfl, _⟩ := h
    rfl
  obtain ⟨x, y, n, rows, rfl, hx, hy, hz, q⟩ := h
  obtain ⟨t, xs, ⟨dx, hx⟩, ht, hd⟩ := hx.at_
  obtain ⟨t', xs', ⟨dy, hy⟩, ht', hd'⟩ := hy.at_
  refine ⟨_, PSs.nox (pss_one (ps_ret (pe_and (b_isinstance call_isi T (pa_cons (pv 1) (pa_cons (n_Network T) pa_nil))) (pe_and (pe_cmpR op_eq (pe_fld (pv 0) rfl) (pe_fld (pv 1) rfl) (nomark _)) (pe_one (pe_cmpR (op_eqD hr.units) (pe_fld (pv 0) rfl) (pe_fld (pv 1) rfl) (nomark _))))))), ?_⟩
  refine ⟨_, rfl, _, _, _, _, _, rfl, .own _, .base (.ins hy T.ins_Network.cl T.ins_Network.ha T.ins_Network.hn T.ins_Network.htk T.ins_Network.hm), T.q_Network_Network, _, rfl, ?_⟩
  refine iteB (fun _ => ?_) (fun c => nomatch c)
  refine ⟨_, rfl, x, _, _, _, _, rfl, hx, T.ins_Network.cl, T.n_Network_own_size, get_size, _, rfl, y, _, _, _, _, rfl, hy, T.ins_Network.cl, T.n_Network_own_size, get_size, rfl, ?_⟩
  refine ⟨_, rfl, ?_⟩
  refine iteB (fun _ => ?_) (fun c => ?_)
  · refine ⟨_, rfl, x, _, _, _, _, rfl, hx, T.ins_Network.cl, T.n_Network_own_steps, get_rows (by decide), _, rfl, y, _, _, _, _, rfl, hy, T.ins_Network.cl, T.n_Network_own_steps, get_rows (by decide), ?_⟩
    refine ⟨_, _, (Dq.tup ht hd).dp, (Dq.tup ht' hd').dp, rowsT_shaped hz, rowsT_shaped hz, ?_⟩
    rw [rowsT_eqv hz]
    exact q
  · rw [decide_eq_true rfl] at c
    cases c
theorem sc_Order_eq : FnScope ["self", "other"] ["self", "other"] (defScope sOrderEq) := ⟨rfl, rfl, rfl, by decide +kernel, rfl, by decide +kernel, by decide +kernel⟩
theorem ok_Order_eq (T : Txt K mg) : FnOk P w K mg base CX0 1 (ma K (ga K "Order") "__eq__") (fdAt K (ma K (ga K "Order") "__eq__")) ["self", "other"] (spEq (ga K "Order") "own_pairs") := by
  refine T.f_Order_eq.ok sc_Order_eq (fun vs H Q E h => ?_) (fun cdv A outer s H vs Q E hr h => ?_)
  · obtain ⟨x, y, n, rows, rfl, _⟩ := h
    rfl
  obtain ⟨x, y, n, rows, rfl, hx, hy, hz, q⟩ := h
  obtain ⟨t, xs, ⟨dx, hx⟩, ht, hd⟩ := hx.at_
  obtain ⟨t', xs', ⟨dy, hy⟩, ht', hd'⟩ := hy.at_
  refine ⟨_, PSs.nox (pss_one (ps_ret (pe_and (b_isinstance call_isi T (pa_cons (pv 1) (pa_cons (n_Order T) pa_nil))) (pe_and (pe_cmpR op_eq (pe_fld (pv 0) rfl) (pe_fld (pv 1) rfl) (nomark _)) (pe_one (pe_cmpR (op_eqD hr.units) (pe_fld (pv 0) rfl) (pe_fld (pv 1) rfl) (nomark _))))))), ?_⟩
  refine ⟨_, rfl, _, _, _, _, _, rfl, .own _, .base (.ins hy T.ins_Order.cl T.ins_Order.ha T.ins_Order.hn T.ins_Order.htk T.ins_Order.hm), T.q_Order_Order, _, rfl, ?_⟩
  refine iteB (fun _ => ?_) (fun c => nomatch c)
  refine ⟨_, rfl, x, _, _, _, _, rfl, hx, T.ins_Order.cl, T.n_Order_own_size, get_size, _, rfl, y, _, _, _, _, rfl, hy, T.ins_Order.cl, T.n_Order_own_size, get_size, rfl, ?_⟩
  refine ⟨_, rfl, ?_⟩
  refine iteB (fun _ => ?_) (fun c => ?_)
  · refine ⟨_, rfl, x, _, _, _, _, rfl, hx, T.ins_Order.cl, T.n_Order_own_pairs, get_rows (by decide), _, rfl, y, _, _, _, _, rfl, hy, T.ins_Order.cl, T.n_Order_own_pairs, get_rows (by decide), ?_⟩
    refine ⟨_, _, (Dq.tup ht hd).dp, (Dq.tup ht' hd').dp, rowsT_shaped hz, rowsT_shaped hz, ?_⟩
    rw [rowsT_eqv hz]
    exact q
  · rw [decide_eq_true rfl] at c
    cases c
/-! ### Network(size, steps) -/
theorem bd_net3 (T : Txt K mg) : Binds K (fdAt K (ma K (ga K "Network") "__init__")) ["self", "size", "steps"] [] := by
  obtain ⟨ds, h1, h2⟩ := T.f_Network_init.binds1 (ps := ["self", "size", "steps"]) 3 1 (by intro z; cases z) rfl (fun T kV doc pm an cdv ct us its h1 h2 => by
    match us, h1 with
    | [_, _, _], _ =>
      match its, h2 with
      | [_], _ => exact ⟨_, rfl, rfl⟩)
  cases h1
  exact h2
end
end K57
/-! M2 -/
namespace K57
open PySem PySem.Spec PyProof.Rows L2 He
/-! ### the keys of the dict of pairs, sorted -/
def rowOf (k : List Key) : List Int := k.map fun
  | .inl i => i
  | .inr _ => 0
theorem rowOf_key (a b : Nat) : rowOf (key2 a b) = row2 a b := rfl
def prOf : List Int → Int × Int
  | [a, b] => (a, b)
  | _ => (0, 0)
theorem closed_sorted {n : Nat} {R : Rel2} {kvs : List (List Key × V)} (c : Cl n R kvs) {rows : List (List Int)} (hp : rows.Perm (kvs.map fun kv => rowOf kv.1)) (hs : rows.Pairwise fun r s => SrtO.lexB (prOf s) (prOf r) = false) : rows = pairsOf n R := by
  have e0 : (kvs.map fun kv => rowOf kv.1) = (kvs.map (·.1)).map rowOf := by rw [List.map_map]; rfl
  have hkey : ∀ r, r ∈ rows → ∃ a b, a < n ∧ b < n ∧ r = row2 a b ∧ R a b = true := fun r hr => by
    have h := hp.mem_iff.mp hr
    rw [e0] at h
    obtain ⟨k, hk, e⟩ := List.mem_map.mp h
    obtain ⟨a, b, ha, hb, ek⟩ := c.key k hk
    refine ⟨a, b, ha, hb, by rw [← e, ek]; rfl, ?_⟩
    rw [← c.rel a b ha hb]
    rw [ek] at hk
    cases q : valV kvs (key2 a b) with
    | none => exact absurd hk (valV_not q)
    | some v => rfl
  have hnd : rows.Nodup := by
    refine hp.symm.nodup ?_
    rw [e0]
    refine List.pairwise_map.mpr (c.nd.imp_of_mem fun {k j} hk hj ne z => ne ?_)
    obtain ⟨a, b, _, _, ek⟩ := c.key k hk
    obtain ⟨a', b', _, _, ej⟩ := c.key j hj
    subst ek ej
    obtain ⟨h1, h2⟩ := row2_inj (show row2 a b = row2 a' b' from z)
    rw [h1, h2]
  refine sorted_unique ?_ (pairsOf_sorted n R) fun r => ⟨fun h => ?_, fun h => ?_⟩
  · have h2 := hs.and hnd
    refine h2.imp_of_mem fun {r s} hr hs' q => ?_
    obtain ⟨a, b, _, _, er, _⟩ := hkey r hr
    obtain ⟨a', b', _, _, es, _⟩ := hkey s hs'
    subst er es
    have q1 := SrtO.lexB_no.mp q.1
    refine ⟨a, b, a', b', rfl, rfl, ?_⟩
    have q2 : ¬ (a = a' ∧ b = b') := fun z => q.2 (by rw [z.1, z.2])
    have q1' : ¬ ((a' : Int) < (a : Int) ∨ ((a' : Int) = (a : Int) ∧ (b' : Int) < (b : Int))) := q1
    omega
  · obtain ⟨a, b, ha, hb, e, hR⟩ := hkey r h
    exact mem_pairsOf.mpr ⟨a, b, ha, hb, hR, e⟩
  · obtain ⟨a, b, ha, hb, hR, e⟩ := mem_pairsOf.mp h
    refine hp.mem_iff.mpr ?_
    rw [e0, e]
    refine List.mem_map.mpr ⟨key2 a b, ?_, rfl⟩
    have q := c.rel a b ha hb
    rw [hR] at q
    obtain ⟨v, hv⟩ := Option.isSome_iff_exists.mp q
    exact valV_in hv
end K57
/-! P3 -/
namespace K57
open PySem PySem.Spec PyProof.Rows L2 He
/-- a comprehension over range(n) -/
theorem lc_rng {n : Nat} {g : TG} {tt : TT} {te : TE} {vs : List Nat} {σ : L2.St} {H1 : Hp} {D : Addr} {Qd : Hp → Prop} (Pv : Nat → Hp → Prop) (h0 : Pv 0 (upd H1 D (.lst [])))
    (hs : ∀ i H, i < n → Pv i H → g (.int (i : Int)) (wipe σ vs) H fun σ2 H2 => wipe σ2 vs = wipe σ vs ∧ tt σ2 H2 fun b H3 =>
      if b = true then te σ2 H3 fun y H4 => ∃ acc, H4 D = some (.lst acc) ∧ acc.length < sizeLine ∧ Pv (i + 1) (upd H4 D (.lst (acc ++ [y]))) else Pv (i + 1) H3) (hd : ∀ H, Pv n H → Qd H) :
    ∃ W : Nat → Nat → Hp → Prop, (∃ m, W 0 m (upd H1 D (.lst []))) ∧ ∀ i m H, W i m H →
      ((Itr 0 n).stop i H ∧ Qd H) ∨ ((Itr 0 n).go i H ∧ ∃ Nx : Hp → Prop, (∀ H', Nx H' → ∃ m', m' < m ∧ W (i + 1) m' H') ∧ ∀ x H', (Itr 0 n).yld i H x H' → g x (wipe σ vs) H' fun σ2 H2 => wipe σ2 vs = wipe σ vs ∧ tt σ2 H2 fun b H3 =>
        if b = true then te σ2 H3 fun y H4 => ∃ acc, H4 D = some (.lst acc) ∧ acc.length < sizeLine ∧ Nx (upd H4 D (.lst (acc ++ [y]))) else Nx H3) :=
  lc_it walk_range Pv h0 (fun _ _ _ _ => trivial) (fun i x H H' hi p y => by
    obtain ⟨rfl, rfl⟩ := y
    have e : (0 : Int) + (i : Nat) = (i : Nat) := Int.zero_add _
    show g (.int (0 + (i : Nat))) _ _ _
    rw [e]
    exact hs i _ hi p) hd
/-- a list that is one longer -/
theorem take_succ_get {α : Type} {l : List α} {i : Nat} {x : α} (h : l[i]? = some x) : l.take (i + 1) = l.take i ++ [x] := by
  rw [List.take_succ, h]
  rfl
theorem yes_if {σ : L2.St} {H : Hp} {A B : Hp → Prop} (h : A H) : tYes σ H fun b H3 => if b = true then A H3 else B H3 := by
  show if true = true then A H else B H
  rw [if_pos rfl]
  exact h
end K57
/-! D6 -/
namespace K57
open PySem PySem.Spec PyProof.Rows L2 He
theorem pairB_row {n : Nat} {d : PyData} (h : pairB n d = true) : ∃ a b, a < n ∧ b < n ∧ a ≠ b ∧ d = tupD (row2 a b) := by
  match d, h with
  | .tuple [x, y], h =>
    have h' : (lineB n x && (lineB n y && neD x y)) = true := h
    rw [Bool.and_eq_true, Bool.and_eq_true] at h'
    obtain ⟨i, rfl, i0, i1⟩ := lineB_int h'.1
    obtain ⟨j, rfl, j0, j1⟩ := lineB_int h'.2.1
    have ne : (!decide (i = j)) = true := h'.2.2
    have ne' : i ≠ j := by simpa using ne
    refine ⟨i.toNat, j.toNat, by omega, by omega, by omega, ?_⟩
    show PyData.tuple [.int i, .int j] = .tuple [.int (i.toNat : Int), .int (j.toNat : Int)]
    rw [Int.toNat_of_nonneg i0, Int.toNat_of_nonneg j0]
theorem pairs_rows {n : Nat} : ∀ {ds : List PyData}, (∀ d ∈ ds, pairB n d = true) → ∃ rows : List (List Int), ds = rows.map tupD ∧ ∀ r ∈ rows, PairRow n r
  | [], _ => ⟨[], rfl, fun r hr => nomatch hr⟩
  | d :: ds, h => by
    obtain ⟨a, b, ha, hb, _, e⟩ := pairB_row (h d List.mem_cons_self)
    obtain ⟨rows, e2, h2⟩ := pairs_rows fun x hx => h x (List.mem_cons_of_mem _ hx)
    refine ⟨row2 a b :: rows, by rw [e, e2]; rfl, fun r hr => ?_⟩
    rcases List.mem_cons.mp hr with z | z
    · exact ⟨a, b, ha, hb, z⟩
    · exact h2 r z
theorem ints_lay (l : List Int) : SeqAt.shaped (.list (l.map PyData.int)) = true := by
  have go : ∀ l : List Int, PyData.canLayAll0 (l.map PyData.int) = true ∧ PyData.depthAll (l.map PyData.int) = 0 := by
    intro l
    induction l with
    | nil => simp [PyData.canLayAll0, PyData.depthAll]
    | cons a l ih => simp [PyData.canLayAll0, PyData.canLay0, PyData.depthAll, PyData.depth, ih.1, ih.2]
  unfold SeqAt.shaped
  rw [Bool.and_eq_true]
  exact ⟨by simp [PyData.canLay0, (go l).1], decide_eq_true (by simp [PyData.depth, (go l).2])⟩
theorem ints_nil (l : List Int) : PyData.eqv (.list (l.map PyData.int)) (.list []) = decide (l = []) := by
  cases l with
  | nil => simp [PyData.eqv, PyData.eqvAll]
  | cons a l => simp [PyData.eqv, PyData.eqvAll]
def spOrdI (K : PySem.W.Frag) : Sp := fun vs H Q E => ∃ (x dx l : Addr) (n : Nat) (xs : List V) (ds : List PyData), vs = [.ref x, .int n, .ref l] ∧ 1 ≤ n ∧ n ≤ 60 ∧ H x = some (.ins (ga K "Order") dx []) ∧ H l = some (.lst xs) ∧ DqAll H xs ds ∧
  Refused H (ga K "InvalidPair") "value" (pairB n) xs ds E ∧
  (∀ rows, (∀ d ∈ ds, pairB n d = true) → ds = rows.map tupD → (∀ r ∈ rows, PairRow n r) → ringL n (warsh n (initR rows)) ≠ [] → ∀ H1 e l1, Same H H1 → H1 l1 = some (.lst ((ringL n (warsh n (initR rows))).map V.int)) → H l1 = none → H1 e = none → E (.ref (ga K "Ring")) (some e) (upd H1 e (.xd [("lines", .ref l1)]))) ∧
  (∀ rows, (∀ d ∈ ds, pairB n d = true) → ds = rows.map tupD → (∀ r ∈ rows, PairRow n r) → ringL n (warsh n (initR rows)) = [] → ∀ H1 t ys, (∀ b o, b ≠ x → H b = some o → H1 b = some o) → H t = none → H1 t = some (.tup ys) → DqAll H1 ys ((closedL n rows).map tupD) → H1 x = some (.ins (ga K "Order") dx [("own_size", .int n), ("own_pairs", .ref t)]) → Q .non H1)
/-- the pair at a reference -/
def prAt (H : Hp) : V → Int × Int
  | .ref q => (match H q with
    | some (.tup [.int a, .int b]) => (a, b)
    | _ => (0, 0))
  | _ => (0, 0)
theorem prAt_ref {H : Hp} {q : Addr} {a b : Int} (h : H q = some (.tup [.int a, .int b])) : prAt H (.ref q) = (a, b) := by
  simp only [prAt, h]
theorem ringL_succ (i : Nat) (R : Rel2) : ((List.range (i + 1)).filter fun a => R a a).map (fun (a : Nat) => V.int (a : Int)) = ((List.range i).filter fun a => R a a).map (fun (a : Nat) => V.int (a : Int)) ++ (if R i i = true then [V.int (i : Int)] else []) := by
  rw [List.range_succ, List.filter_append, List.map_append]
  congr 1
  by_cases h : R i i = true
  · simp [h]
  · simp [h]
section
variable {P : Program} {w : World} {K : PySem.W.Frag} {mg : Str → Option Value} {base : Heap}
/-! ### Order.__init__ -/
theorem sc_Order_init : FnScope ["self", "size", "pairs", "pair", "reached", "ring", "line"] ["self", "size", "pairs"] (defScope sOrderInit) := ⟨rfl, rfl, rfl, by decide +kernel, rfl, by decide +kernel, by decide +kernel⟩
theorem ok_Order_init (T : Txt K mg) : FnOk P w K mg base (L2.CX P w) 4 (ma K (ga K "Order") "__init__") (fdAt K (ma K (ga K "Order") "__init__")) ["self", "size", "pairs"] (spOrdI K) := by
  refine T.f_Order_init.ok sc_Order_init (fun vs H Q E h => ?_) (fun cdv A outer s H vs Q E hr h => ?_)
  · obtain ⟨x, dx, l, n, xs, ds, rfl, _⟩ := h
    rfl
  obtain ⟨x, dx, l, n, xs, ds, rfl, h1, h2, hx, hl, hd, bad, ringc, good⟩ := h
  refine ⟨_, (pss_cons (ps_expr (c_need_size T (hr.mono (by decide)) (pa_cons (pv 1) pa_nil)))
    (pss_cons (ps_if (pt_not (pt_val (b_isinstance call_isiT T (pa_cons (pv 2) (pa_cons (pe_tup (pa_cons (n_list T) (pa_cons (n_tuple T) pa_nil))) pa_nil))))) (pss_one ps_never) pss_nil)
    (pss_cons (ps_for (passes_of rfl) rfl (pi_list (pv 2)) (pg_name (i := 3) sc_Order_init.nd rfl (Or.inl rfl)) (pss_one (ps_if (pt_not (pt_val (c_is_pair T (hr.mono (by decide)) (pa_cons (pv 1) (pa_cons (pv 3) pa_nil))))) (pss_one (r_InvalidPair T (hr.mono (by decide)) (takes_of rfl rfl rfl rfl) (pa_cons (pv 3) pa_nil) (mono_var _))) pss_nil)))
    (pss_cons (ps_set (i := 4) sc_Order_init.nd rfl (Or.inr rfl) (c_closed T (hr.mono (by decide)) (pa_cons (pv 1) (pa_cons (pv 2) pa_nil))))
    (pss_cons (ps_setLc (i := 5) (y := "ring") (own := [("line", 6)]) rfl sc_Order_init.nd rfl rfl (sw_true rfl rfl rfl (by decide +kernel)) (pi_range1 (by rfl) T.z_range (pa_cons (pv 1) pa_nil)) (blkOk_by (N := ["self", "size", "pairs", "pair", "reached", "ring", "line"]) (sc := defScope sOrderInit) (by decide +kernel)) (fun _ _ _ _ _ => pg_name (i := 6) sc_Order_init.nd rfl (Or.inl rfl)) (fun _ _ _ _ _ => (pts_one (pt_cmp (pc_din (hu_of hr) (pe_tup (pa_cons (pv 6) (pa_cons (pv 6) pa_nil))) (pv 4))))) (fun _ _ _ _ _ => (pv 6)))
    (pss_cons (ps_if (pt_cmpR (op_neD hr.units) (pv 5) (pe_lst pa_nil) (nomark _)) (pss_one (r_Ring T (hr.mono (by decide)) (takes_of rfl rfl rfl rfl) (pa_cons (pv 5) pa_nil) (mono_var _))) pss_nil)
    (pss_cons (ps_fld (pv 0) (pv 1) rfl)
    (pss_one (ps_fld (pv 0) (t_tuple call_tuple_of T (pa_cons (b_sorted cr_sortedPO T (pa_cons (pe_lock (pe_lc (own := [("pair", 3)]) rfl sc_Order_init.nd (pi_keys (pv 4)) (blkOk_by (N := ["self", "size", "pairs", "pair", "reached", "ring", "line"]) (sc := defScope sOrderInit) (by decide +kernel)) (fun _ _ _ _ _ => pg_name (i := 3) sc_Order_init.nd rfl (Or.inl rfl)) (fun _ _ _ _ _ => pts_nil) (fun _ _ _ _ _ => (pv 3)))) pa_nil)) pa_nil)) rfl))))))))), ?_⟩
  refine ⟨_, rfl, n, rfl, by omega, by omega, ?_⟩
  refine ⟨_, rfl, (by show 2 ≤ sizeLine; decide), fun tp ntp => ?_⟩
  have s1 : Same H (upd H tp (.tup [V.ty "list", V.ty "tuple"])) := same_new ntp
  refine ⟨_, tp, _, _, _, _, rfl, upd_same, two_cls, (Dq.lst (s1 _ _ hl) (hd.mono s1)).ty, isT2 _, _, rfl, ?_⟩
  refine iteF ?_
  have hxl : x ≠ l := ne_of hx hl (by intro z; cases z)
  refine ⟨_, rfl, l, rfl, ⟨xs, SqL.of (s1 _ _ hl)⟩, for_list (K := K) (a := l) (xs := xs)
    (fun i σ H' => ∃ o3, σ = [some (.ref x), some (.int n), some (.ref l), o3, none, none, none] ∧ Same H H' ∧ ∀ j d, j < i → ds[j]? = some d → pairB n d = true)
    ⟨_, rfl, s1, fun j d z => absurd z (Nat.not_lt_zero _)⟩
    (fun i σ H' _ h => by
      obtain ⟨_, _, s, _⟩ := h
      exact SqL.of (s _ _ hl)) ?_ ?_⟩
  · rintro i v σ H' hv ⟨o3, rfl, s, ok⟩
    obtain ⟨d, e1, e2⟩ := hd.get' hv
    refine ⟨_, rfl, _, rfl, n, v, d, rfl, e2.mono s, _, rfl, ?_⟩
    refine iteB (fun c => ?_) (fun c => ?_)
    · rw [Bool.not_eq_true'] at c
      exact ⟨_, rfl, v, rfl, fun e ne => bad i v d hv e1 c ok H' e s ne⟩
    · rw [Bool.not_eq_false'] at c
      refine ⟨_, rfl, s, fun j d' hj e' => ?_⟩
      by_cases z : j = i
      · subst z
        rw [e1] at e'
        cases e'
        exact c
      · exact ok j d' (by omega) e'
  · rintro σ H' ⟨o3, rfl, s, ok⟩
    have hall : ∀ d ∈ ds, pairB n d = true := fun d hd' => by
      obtain ⟨j, hj⟩ := List.getElem?_of_mem hd'
      have hlen := hd.length
      exact ok j d (by rw [hlen]; exact (List.getElem?_eq_some_iff.mp hj).1) hj
    obtain ⟨rows, erows, hrows⟩ := pairs_rows hall
    subst erows
    refine ⟨_, rfl, _, rfl, n, l, xs, rows, rfl, h2, s _ _ hl, hd.mono s, hrows, fun p H2 kvs s2 np hp hc => ?_⟩
    have s3 : Same H H2 := s.trans s2
    have hpn : H p = none := s.free np
    -- the ring
    have h62 : (-(2 ^ 62) ≤ ((n : Nat) : Int)) ∧ ((n : Nat) : Int) < 2 ^ 62 := ⟨by omega, by omega⟩
    refine ⟨_, rfl, n, rfl, h62.1, h62.2, fun D nD => ?_⟩
    rw [Int.toNat_natCast]
    have hpD : p ≠ D := ne_of_none hp nD
    refine lc_rng (fun i H' => ∃ acc, acc = ((List.range i).filter fun a => warsh n (initR rows) a a).map (fun (a : Nat) => V.int (a : Int)) ∧ H' D = some (.lst acc) ∧ (∀ b o, b ≠ D → H2 b = some o → H' b = some o)) ⟨_, rfl, upd_same, fun b o hb e => by rw [upd_ne hb]; exact e⟩ ?_ ?_
    · rintro i H3 hi ⟨acc, eacc, hD, hk⟩
      refine ⟨rfl, _, rfl, _, rfl, (by show 2 ≤ sizeLine; decide), fun t nt => ?_⟩
      have hp3 : H3 p = some (.dT kvs) := hk p _ hpD hp
      have np : t ≠ p := Ne.symm (ne_of_none hp3 nt)
      have ntD : t ≠ D := Ne.symm (ne_of_none hD nt)
      refine ⟨_, rfl, p, _, rfl, DGet.t (k := key2 i i) (by rw [upd_ne (Ne.symm np)]; exact hp3) upd_same, _, rfl, ?_⟩
      have hrel := hc.rel i i hi hi
      rw [hrel]
      have hk4 : ∀ b o, b ≠ D → H2 b = some o → upd H3 t (.tup [.int i, .int i]) b = some o := fun b o hb e => by rw [upd_ne (ne_of_none (hk b o hb e) nt)]; exact hk b o hb e
      refine iteB (fun c => ?_) (fun c => ?_)
      · refine ⟨_, rfl, acc, by rw [upd_ne (Ne.symm ntD)]; exact hD, ?_, acc ++ [.int i], ?_, upd_same, fun b o hb e => by rw [upd_ne hb]; exact hk4 b o hb e⟩
        · rw [eacc, List.length_map]
          have h3 := List.length_filter_le (fun a => warsh n (initR rows) a a) (List.range i)
          rw [List.length_range] at h3
          exact Nat.lt_of_le_of_lt (Nat.le_trans h3 (by omega : i ≤ 60)) (by decide)
        · rw [ringL_succ, if_pos c, eacc]
      · refine ⟨acc, ?_, by rw [upd_ne (Ne.symm ntD)]; exact hD, hk4⟩
        rw [ringL_succ, if_neg (by rw [c]; decide), eacc, List.append_nil]
    rintro H3 ⟨acc, eacc, hD, hk⟩
    have s4 : Same H2 H3 := fun b o e => hk b o (fun z => by rw [z, nD] at e; cases e) e
    have s5 : Same H H3 := s3.trans s4
    have eacc2 : acc = (ringL n (warsh n (initR rows))).map V.int := by rw [eacc]; unfold ringL; rw [List.map_map]; rfl
    rw [eacc2] at hD
    refine ⟨_, rfl, Nat.zero_le _, fun z nz => ?_⟩
    have hDz : upd H3 z (.lst []) D = some (.lst ((ringL n (warsh n (initR rows))).map V.int)) := by rw [upd_ne (ne_of_none hD nz)]; exact hD
    refine ⟨_, _, (Dq.lst hDz (DqAll.ints _)).dp, (Dq.lst upd_same .nil).dp, ints_lay _, ints_lay [], _, rfl, ?_⟩
    rw [ints_nil]
    have s6 : Same H (upd H3 z (.lst [])) := s5.trans (same_new nz)
    refine iteB (fun c => ?_) (fun c => ?_)
    · have hne : ringL n (warsh n (initR rows)) ≠ [] := by simpa using c
      refine ⟨_, rfl, _, rfl, fun e ne => ringc rows hall rfl hrows hne _ e D s6 hDz (s3.free nD) ne⟩
    have hre : ringL n (warsh n (initR rows)) = [] := by simpa using c
    refine ⟨_, rfl, _, rfl, x, _, _, _, rfl, s6 _ _ hx, T.ins_Order.cl, T.n_Order_own_size, (by decide), ?_⟩
    -- the keys, sorted
    have hpz : p ≠ z := ne_of_none (s4 _ _ hp) nz
    have hpx : p ≠ x := fun e => by rw [e, hx] at hpn; cases hpn
    have hp6 : upd (upd H3 z (.lst [])) x (.ins (ga K "Order") dx (putF "own_size" (.int n) [])) p = some (.dT kvs) := by rw [upd_ne hpx, upd_ne hpz]; exact s4 _ _ hp
    generalize hH6 : upd (upd H3 z (.lst [])) x (.ins (ga K "Order") dx (putF "own_size" (.int n) [])) = H6 at *
    have hx6 : H6 x = some (.ins (ga K "Order") dx (putF "own_size" (.int n) [])) := by rw [← hH6, upd_same]
    have k6 : ∀ b o, b ≠ x → H b = some o → H6 b = some o := fun b o hb e => by rw [← hH6, upd_ne hb]; exact s6 _ _ e
    refine ⟨p, _, hp6, trivial, fun od => ?_⟩
    generalize hH7 : upd H6 p (.frz od (.dT kvs)) = H7 at *
    have hp7 : H7 p = some (.frz od (.dT kvs)) := by rw [← hH7, upd_same]
    have k7 : ∀ b, b ≠ p → H7 b = H6 b := fun b hb => by rw [← hH7, upd_ne hb]
    refine ⟨_, rfl, p, od, rfl, .inr ⟨kvs, hp7, fun D2 nD2 => ?_⟩⟩
    refine lc_it walk_keysT (fun i H' => ∃ acc : List V, H' = upd H7 D2 (.lst acc) ∧ acc.length = i ∧ ∀ j k v, j < i → kvs[j]? = some (k, v) → ∃ q, acc[j]? = some (.ref q) ∧ H7 q = some (.tup (k.map kV))) ⟨[], rfl, rfl, fun j _ _ z => absurd z (Nat.not_lt_zero _)⟩ ?_ ?_ ?_
    · rintro i H' _ ⟨acc, rfl, _⟩
      rw [upd_ne (ne_of_none hp7 nD2)]
      exact hp7
    · rintro i v H' _ hi ⟨acc, rfl, el, hq⟩ ⟨rfl, k, u, q, hk', ev, hqv⟩
      subst ev
      have nq : q ≠ D2 := fun e => by rw [e, upd_same] at hqv; cases hqv
      rw [upd_ne nq] at hqv
      refine ⟨rfl, ?_⟩
      refine yes_if ?_
      refine ⟨_, rfl, acc, upd_same, ?_, acc ++ [.ref q], ?_, ?_, fun j k' v' hj e => ?_⟩
      · rw [el]; exact Nat.lt_trans hi (hc.lt h2)
      · rw [upd_upd]
      · rw [List.length_append, el]; rfl
      · by_cases z : j = i
        · subst z
          rw [hk'] at e
          cases e
          exact ⟨q, by rw [List.getElem?_append_right (by omega), el]; simp, hqv⟩
        · obtain ⟨q', e1, e2⟩ := hq j k' v' (by omega) e
          exact ⟨q', by rw [List.getElem?_append_left (by omega)]; exact e1, e2⟩
    rintro H' ⟨acc, rfl, el, hq⟩
    refine ⟨by rw [upd_ne (ne_of_none hp7 nD2)]; exact hp7, ?_⟩
    have nD6 : H6 D2 = none := by
      rw [← k7 D2 (Ne.symm (ne_of_none hp7 nD2))]
      exact nD2
    have e8 : upd (upd H7 D2 (.lst acc)) p (.dT kvs) = upd H6 D2 (.lst acc) := by
      funext b
      by_cases h1 : b = p
      · subst h1
        rw [upd_same, upd_ne (ne_of_none hp7 nD2)]
        exact hp6.symm
      · rw [upd_ne h1]
        by_cases h2 : b = D2
        · subst h2; rw [upd_same, upd_same]
        · rw [upd_ne h2, upd_ne h2]; exact k7 b h1
    rw [e8]
    have hget : ∀ (j : Nat) v, acc[j]? = some v → ∃ a b u q, v = .ref q ∧ kvs[j]? = some (key2 a b, u) ∧ H6 q = some (.tup [.int a, .int b]) ∧ a < n ∧ b < n := fun j v e => by
      have hj : j < kvs.length := by rw [← el]; exact (List.getElem?_eq_some_iff.mp e).1
      have e1 : kvs[j]? = some (kvs[j].1, kvs[j].2) := List.getElem?_eq_getElem hj
      obtain ⟨q, e2, e3⟩ := hq j _ _ hj e1
      have hm : kvs[j].1 ∈ kvs.map (·.1) := List.mem_map.mpr ⟨kvs[j], List.getElem_mem hj, rfl⟩
      obtain ⟨a, b, ha, hb, ek⟩ := hc.key _ hm
      rw [e] at e2
      rw [ek] at e1 e3
      refine ⟨a, b, _, q, Option.some.inj e2, e1, ?_, ha, hb⟩
      rw [← k7 q (fun z => by rw [z, hp7] at e3; cases e3), e3]
      rfl
    have hpr : ∀ (j : Nat) v a b u, acc[j]? = some v → kvs[j]? = some (key2 a b, u) → prAt H6 v = ((a : Int), (b : Int)) := fun j v a b u e e' => by
      obtain ⟨a', b', u', q, rfl, e2, e3, _, _⟩ := hget j v e
      rw [e'] at e2
      injection e2 with e2
      injection e2 with e4 e5
      obtain ⟨rfl, rfl⟩ := key2_inj e4
      exact prAt_ref e3
    refine ⟨D2, acc, prAt H6, rfl, SqL.of upd_same, fun v hv => ?_, fun ys p2 hs hb np2 => ?_⟩
    · obtain ⟨j, hj⟩ := List.getElem?_of_mem hv
      obtain ⟨a, b, u, q, e1, e2, e3, _, _⟩ := hget j v hj
      refine ⟨q, e1, ?_⟩
      rw [hpr j v a b u hj e2, upd_ne (ne_of_none e3 nD6)]
      exact e3
    have hrow : acc.map (fun v => [(prAt H6 v).1, (prAt H6 v).2]) = kvs.map fun kv => rowOf kv.1 := by
      refine List.ext_getElem? fun j => ?_
      rw [List.getElem?_map, List.getElem?_map]
      cases e : acc[j]? with
      | none =>
        have h3 : kvs[j]? = none := List.getElem?_eq_none_iff.mpr (by rw [← el]; exact List.getElem?_eq_none_iff.mp e)
        rw [h3]
        rfl
      | some v =>
        obtain ⟨a, b, u, q, e1, e2, _, _, _⟩ := hget j v e
        rw [e2]
        show some [(prAt H6 v).1, (prAt H6 v).2] = some (rowOf (key2 a b))
        rw [hpr j v a b u e e2, rowOf_key]
        rfl
    have hclosed : ys.map (fun v => [(prAt H6 v).1, (prAt H6 v).2]) = closedL n rows := by
      refine closed_sorted hc ?_ ?_
      · rw [← hrow]
        exact hb.perm.map _
      · refine List.pairwise_map.mpr (hs.imp fun {v u} z => ?_)
        exact z
    have hys : DqAll H6 ys ((closedL n rows).map tupD) := by
      rw [← hclosed]
      have go : ∀ l : List V, (∀ v ∈ l, v ∈ acc) → DqAll H6 l ((l.map fun v => [(prAt H6 v).1, (prAt H6 v).2]).map tupD) := by
        intro l
        induction l with
        | nil => intro _; exact .nil
        | cons v l ih =>
          intro hl
          obtain ⟨j, hj⟩ := List.getElem?_of_mem (hl v List.mem_cons_self)
          obtain ⟨a, b, u, q, e1, e2, e3, _, _⟩ := hget j v hj
          have e4 := hpr j v a b u hj e2
          subst e1
          refine .cons ?_ (ih fun w hw => hl w (List.mem_cons_of_mem _ hw))
          show Dq H6 (.ref q) (tupD [(prAt H6 (.ref q)).1, (prAt H6 (.ref q)).2])
          rw [e4]
          exact Dq.row (r := [(a : Int), (b : Int)]) e3
      exact go ys fun v hv => hb.perm.mem_iff.mp hv
    refine ⟨p2, ys, rfl, .inl ⟨SqL.of upd_same, fun t nt => ?_⟩⟩
    have s7 : Same H6 (upd (upd (upd H6 D2 (.lst acc)) p2 (.lst ys)) t (.tup ys)) := ((same_new nD6).trans (same_new np2)).trans (same_new nt)
    have s7a : Same H6 (upd (upd H6 D2 (.lst acc)) p2 (.lst ys)) := (same_new nD6).trans (same_new np2)
    have ntx : t ≠ x := fun e => by
      rw [e, s7a _ _ hx6] at nt
      cases nt
    have nHt : H t = none := by
      cases e : H t with
      | none => rfl
      | some o =>
        rw [s7a _ _ (k6 t o ntx e)] at nt
        cases nt
    refine ⟨_, rfl, x, _, _, _, rfl, s7 _ _ hx6, T.ins_Order.cl, T.n_Order_own_pairs, (by show 1 < 1000; decide), ?_⟩
    have hDqx : ∀ b o, b ≠ x → (upd (upd (upd H6 D2 (.lst acc)) p2 (.lst ys)) t (.tup ys)) b = some o → upd (upd (upd (upd H6 D2 (.lst acc)) p2 (.lst ys)) t (.tup ys)) x (.ins (ga K "Order") dx (putF "own_pairs" (.ref t) (putF "own_size" (.int n) []))) b = some o := fun b o hb e => by rw [upd_ne hb]; exact e
    refine good rows hall rfl hrows hre _ t ys (fun b o hb e => hDqx b o hb (s7 _ _ (k6 b o hb e))) nHt (hDqx t _ ntx upd_same) ?_ (by rw [upd_same, put2 (by decide)])
    refine DqAll.rows (fun b zs e => ?_) (hys.mono s7)
    refine hDqx b _ (fun z => ?_) e
    rw [z, s7 _ _ hx6] at e
    cases e
end
end K57
/-! D7 -/
namespace K57
open PySem PySem.Spec PyProof.Rows L2 He
/-! ### exceptions through a call -/
theorem pass_own {P : Program} {w : World} {K : PySem.W.Frag} {mg : Str → Option Value} {base : Heap} {N : List Str} {qual : Str} {scope : Scope} {f : Addr} {cd : Value} {A : Around} {outer : List Env} {s : Shared} {H : Hp} {E : XK} :
    Passes (L2.CX P w) (cxOf (L2.CX P w) P w K mg base N qual scope f cd A outer s H E) E := passes_call (W := fun cls d _ H => E cls d H) (takes_of rfl rfl rfl rfl) fun _ _ _ _ h => h
theorem pass_non {X : Cx} : Passes (L2.CX X.prog X.w) X E0 := fun _ _ _ _ _ _ _ ⟨_, _, _, _, _, _, _, _, _, _, _, _, h⟩ => h.elim
/-! ### rows of things -/
def StepRow (n : Nat) (r : List Int) : Prop := ∃ a b, a < b ∧ b < n ∧ r = row2 a b
theorem StepRow.pair {n : Nat} {r : List Int} (h : StepRow n r) : PairRow n r := by
  obtain ⟨a, b, h1, h2, e⟩ := h
  exact ⟨a, b, by omega, h2, e⟩
theorem PairRow.len {n : Nat} {r : List Int} (h : PairRow n r) : r.length ≤ 100000 := by
  obtain ⟨a, b, _, _, e⟩ := h
  rw [e]
  show 2 ≤ 100000
  decide
theorem stepB_row {n : Nat} {d : PyData} (h : stepB n d = true) : ∃ r, StepRow n r ∧ d = tupD r := by
  match d, h with
  | .tuple [x, y], h =>
    have h' : (lineB n x && (lineB n y && ltD x y)) = true := h
    rw [Bool.and_eq_true, Bool.and_eq_true] at h'
    obtain ⟨i, rfl, i0, i1⟩ := lineB_int h'.1
    obtain ⟨j, rfl, j0, j1⟩ := lineB_int h'.2.1
    have lt : i < j := of_decide_eq_true h'.2.2
    refine ⟨row2 i.toNat j.toNat, ⟨_, _, by omega, by omega, rfl⟩, ?_⟩
    show PyData.tuple [.int i, .int j] = .tuple [.int (i.toNat : Int), .int (j.toNat : Int)]
    rw [Int.toNat_of_nonneg i0, Int.toNat_of_nonneg j0]
theorem steps_rows {n : Nat} : ∀ {ds : List PyData}, (∀ d ∈ ds, stepB n d = true) → ∃ rows : List (List Int), ds = rows.map tupD ∧ ∀ r ∈ rows, StepRow n r
  | [], _ => ⟨[], rfl, fun r hr => nomatch hr⟩
  | d :: ds, h => by
    obtain ⟨r0, h0, e⟩ := stepB_row (h d List.mem_cons_self)
    obtain ⟨rows, e2, h2⟩ := steps_rows fun x hx => h x (List.mem_cons_of_mem _ hx)
    refine ⟨r0 :: rows, by rw [e, e2]; rfl, fun r hr => ?_⟩
    rcases List.mem_cons.mp hr with z | z
    · rw [z]; exact h0
    · exact h2 r z
theorem closedL_row {n : Nat} {rows : List (List Int)} {r : List Int} (h : r ∈ closedL n rows) : PairRow n r := by
  obtain ⟨a, b, ha, hb, _, e⟩ := mem_pairsOf.mp h
  exact ⟨a, b, ha, hb, e⟩
theorem HasRows.froz {G H H1 : Hp} {C x : Addr} {f : Str} {n : Int} {rows : List (List Int)} (h : HasRows H1 C x f n rows) (hx : H x = none) : HasRows (gt (fz G H H1) H1) C x f n rows := by
  obtain ⟨t, xs, ⟨dx, h1⟩, h2, h3⟩ := h.at_
  refine ⟨t, xs, ⟨dx, ?_⟩, gt_tup h2, h3.gt⟩
  unfold gt
  rw [h1]
  show fz G H H1 x = _
  rw [fz_new hx]
  exact h1
section
variable {K : PySem.W.Frag}
theorem net_mk {n : Nat} {l : Addr} {xs : List V} {ds : List PyData} {H : Hp} {Q : Addr → Hp → Prop} {E : XK} (h1 : 1 ≤ n) (h2 : n ≤ 60) (hl : H l = some (.lst xs)) (hd : DqAll H xs ds)
    (bad : Refused H (ga K "InvalidStep") "value" (stepB n) xs ds E)
    (good : ∀ rows : List (List Int), ds = rows.map tupD → (∀ r ∈ rows, StepRow n r) → ∀ H1 x, Same H H1 → H x = none → HasRows H1 (ga K "Network") x "own_steps" n rows → Q x H1) :
    ∀ x dx, H x = none → H dx = none → dx ≠ x → spNetI K (V.ref x :: ([V.int (n : Int), V.ref l] ++ [])) (upd (upd H dx (.own x)) x (.ins (ga K "Network") dx [])) (fun v H2 => v = .non ∧ Q x H2) E := by
  intro x dx nx ndx ne
  have s1 : Same H (upd (upd H dx (.own x)) x (.ins (ga K "Network") dx [])) := (same_new ndx).trans (same_new (by rw [upd_ne (Ne.symm ne)]; exact nx))
  refine ⟨x, dx, l, n, xs, ds, rfl, by omega, by omega, upd_same, s1 _ _ hl, hd.mono s1, fun i v d e1 e2 c hj H1 e s ne => bad i v d e1 e2 c hj H1 e (s1.trans s) ne, fun hall H1 t k nt ht hx => ⟨rfl, ?_⟩⟩
  obtain ⟨rows, erows, hrows⟩ := steps_rows hall
  subst erows
  have s2 : Same H H1 := fun b o e => k b o (fun z => by rw [z, nx] at e; cases e) (s1 _ _ e)
  exact good rows rfl hrows H1 x s2 nx ⟨t, xs, ⟨dx, hx⟩, ht, hd.mono s2⟩
theorem ord_mk {n : Nat} {l : Addr} {xs : List V} {ds : List PyData} {H : Hp} {Q : Addr → Hp → Prop} {E : XK} (h1 : 1 ≤ n) (h2 : n ≤ 60) (hl : H l = some (.lst xs)) (hd : DqAll H xs ds)
    (bad : Refused H (ga K "InvalidPair") "value" (pairB n) xs ds E)
    (ring : ∀ rows : List (List Int), (∀ d ∈ ds, pairB n d = true) → ds = rows.map tupD → (∀ r ∈ rows, PairRow n r) → ringL n (warsh n (initR rows)) ≠ [] → ∀ H1 e l1, Same H H1 → H1 l1 = some (.lst ((ringL n (warsh n (initR rows))).map V.int)) → H l1 = none → H1 e = none → E (.ref (ga K "Ring")) (some e) (upd H1 e (.xd [("lines", .ref l1)])))
    (good : ∀ rows : List (List Int), (∀ d ∈ ds, pairB n d = true) → ds = rows.map tupD → (∀ r ∈ rows, PairRow n r) → ringL n (warsh n (initR rows)) = [] → ∀ H1 x, Same H H1 → H x = none → HasRows H1 (ga K "Order") x "own_pairs" n (closedL n rows) → Q x H1) :
    ∀ x dx, H x = none → H dx = none → dx ≠ x → spOrdI K (V.ref x :: ([V.int (n : Int), V.ref l] ++ [])) (upd (upd H dx (.own x)) x (.ins (ga K "Order") dx [])) (fun v H2 => v = .non ∧ Q x H2) E := by
  intro x dx nx ndx ne
  have s1 : Same H (upd (upd H dx (.own x)) x (.ins (ga K "Order") dx [])) := (same_new ndx).trans (same_new (by rw [upd_ne (Ne.symm ne)]; exact nx))
  refine ⟨x, dx, l, n, xs, ds, rfl, h1, h2, upd_same, s1 _ _ hl, hd.mono s1, fun i v d e1 e2 c hj H1 e s ne => bad i v d e1 e2 c hj H1 e (s1.trans s) ne, fun rows ha er hrows hring H1 e l1 s hl1 nl1 ne => ring rows ha er hrows hring H1 e l1 (s1.trans s) hl1 (s1.free nl1) ne, fun rows ha er hrows hring H1 t ys k nt ht hys hx => ⟨rfl, ?_⟩⟩
  have s2 : Same H H1 := fun b o e => k b o (fun z => by rw [z, nx] at e; cases e) (s1 _ _ e)
  exact good rows ha er hrows hring H1 x s2 nx ⟨t, ys, ⟨dx, hx⟩, ht, hys⟩
theorem bd_ord3 {mg : Str → Option Value} (T : Txt K mg) : Binds K (fdAt K (ma K (ga K "Order") "__init__")) ["self", "size", "pairs"] [] := by
  obtain ⟨ds, h1, h2⟩ := T.f_Order_init.binds1 (ps := ["self", "size", "pairs"]) 3 1 (by intro z; cases z) rfl (fun T kV doc pm an cdv ct us its h1 h2 => by
    match us, h1 with
    | [_, _, _], _ =>
      match its, h2 with
      | [_], _ => exact ⟨_, rfl, rfl⟩)
  cases h1
  exact h2
end
section
variable {X : Cx} {E : XK} {e : Expr} {es : List Expr} {t : TA} {p pos : Pos}
theorem c_Network (T : Txt X.K X.mg) (hr : Room 5 X.A) (hx : Passes (L2.CX X.prog X.w) X E) (ha : PA X (e :: es) t) (hg : Gl X "Network" := by rfl) (he : starEach (e :: es) X.env = (false, eval e X.env) :: starEach es X.env := by rfl) (hpl : (backTo pos (starEach es X.env)).any (·.1) = false := by rfl) :
    PE X (.Call (.Name "Network" p) (e :: es) [] pos) (tMake (ga X.K "Network") (spNetI X.K) [] E t) := pe_make T.mk_Network (ok_Network_init T) hr hg T.g_Network (bd_net3 T) .nil hx ha (by decide) he hpl
theorem c_Order (T : Txt X.K X.mg) (hr : Room 5 X.A) (hx : Passes (L2.CX X.prog X.w) X E) (ha : PA X (e :: es) t) (hg : Gl X "Order" := by rfl) (he : starEach (e :: es) X.env = (false, eval e X.env) :: starEach es X.env := by rfl) (hpl : (backTo pos (starEach es X.env)).any (·.1) = false := by rfl) :
    PE X (.Call (.Name "Order" p) (e :: es) [] pos) (tMake (ga X.K "Order") (spOrdI X.K) [] E t) := pe_make T.mk_Order (ok_Order_init T) hr hg T.g_Order (bd_ord3 T) .nil hx ha (by decide) he hpl
end
end K57
/-! P4 -/
namespace K57
open PySem PySem.Spec PyProof.Rows L2 He
/-! ### readings that name K (within a comprehension the context is another) -/
theorem call_tupK {X : Cx} {K : PySem.W.Frag} (h : X.K = K := by rfl) : CallR X (.type "tuple") (fun xs H Q => ∃ p ys, xs = [.ref p] ∧ ((SqL K H p ys ∧ ∀ l, H l = none → Q (.ref l) (upd H l (.tup ys))) ∨ (SqT K H p ys ∧ Q (.ref p) H))) := by
  subst h
  exact call_tuple_of
theorem call_lenK {X : Cx} {K : PySem.W.Frag} (h : X.K = K := by rfl) : CallR X (.builtin "len") (fun xs H Q => ∃ p ys, xs = [.ref p] ∧ (SqL K H p ys ∨ SqT K H p ys) ∧ Q (.int ys.length) H) := by
  subst h
  exact call_len_seq
theorem call_isiK {X : Cx} {K : PySem.W.Frag} (h : X.K = K := by rfl) : CallR X (.builtin "isinstance") (rIsi K) := by
  subst h
  exact call_isi
theorem ix_listK {X : Cx} {K : PySem.W.Frag} (h : X.K = K := by rfl) : IxR X (rIxL K) := by
  subst h
  exact ix_list
theorem ix_tupK {X : Cx} {K : PySem.W.Frag} (h : X.K = K := by rfl) : IxR X (rIxT K) := by
  subst h
  exact ix_tup
theorem op_inDK {X : Cx} {K : PySem.W.Frag} (hu : X.A.units + 65 < cLine) (h : X.K = K := by rfl) : OpR X (compareOp .In) (rInD K) := by
  subst h
  exact op_inD hu
/-- one of two readings -/
theorem PE_or {X : Cx} {e : Expr} {t u : TE} (h1 : PE X e t) (h2 : PE X e u) : PE X e (fun σ H Q => t σ H Q ∨ u σ H Q) := ⟨fun pins s σ H Q I h => h.elim (h1.run pins s σ H Q I) (h2.run pins s σ H Q I)⟩
/-! ### a walk over a list or a tuple -/
def SqB (H : Hp) (a : Addr) (xs : List V) : Prop := H a = some (.lst xs) ∨ H a = some (.tup xs)
theorem SqB.mono {H H' : Hp} {a : Addr} {xs : List V} (s : Same H H') (h : SqB H a xs) : SqB H' a xs := h.elim (fun z => .inl (s _ _ z)) fun z => .inr (s _ _ z)
theorem SqB.seq {K : PySem.W.Frag} {H : Hp} {a : Addr} {xs : List V} (h : SqB H a xs) : SqL K H a xs ∨ SqT K H a xs := h.elim (fun z => .inl (SqL.of z)) fun z => .inr (SqT.of z)
theorem SqB.at_ {H H' : Hp} {a : Addr} {xs : List V} (s : Same H H') (h : SqB H a xs) : H' a = H a := by
  rcases h with h | h
  · rw [s _ _ h, h]
  · rw [s _ _ h, h]
theorem SqB.some {H : Hp} {a : Addr} {xs : List V} (h : SqB H a xs) : H a ≠ none := h.elim (fun z => ne_none z) fun z => ne_none z
def iSeq (tl : TE) : TI := fun σ H R => tl σ H fun x H1 => ∃ a xs, x = .ref a ∧ SqB H1 a xs ∧ ∀ J, Walk J xs.length (fun H => H a = H1 a) (YAt xs) → R J H1
theorem pi_seq {X : Cx} {tg l : Expr} {tl : TE} (hl : PE X l tl) : PI X tg l (iSeq tl) := by
  refine ⟨fun pins s σ H R I h => ?_⟩
  refine thn (hl.run pins s σ H _ I h) fun v s1 ⟨x, H1, I1, r1, q1⟩ => ?_
  obtain ⟨a, xs, e, hq, q⟩ := q1
  subst e
  cases r1
  rcases hq with hq | hq
  · obtain ⟨its, rv, p, hz⟩ := I1.list (SqL.of hq)
    refine wpAny_pyIter_list p.isList ?_
    refine ⟨s1.heap.objs.size, [s1.heap.objs.size], _, _, H1, rfl, I1.kept (t' := s1.toks) fun b o e => Heap.get?_push_of_some _ e, turn_list a _, ⟨_, Heap.get?_push_size _ rfl, rfl, rfl⟩, fun b hb => ?_,
      q _ (walk_list.mono (fun H e => SqL.of (e.trans hq)) fun _ _ _ _ _ _ y => y)⟩
    have e : b = s1.heap.objs.size := by simpa using hb
    subst e
    exact I1.fpOk (Nat.le_refl _) (I1.hok.fresh (Nat.le_refl _))
  · obtain ⟨its, rv, p, hz⟩ := I1.tuple (SqT.of hq)
    refine wpAny_pyIter_tuple (show s1.heap.IsTuple a its.toArray from p) ?_
    refine ⟨s1.heap.objs.size, [s1.heap.objs.size], _, _, H1, rfl, I1.kept (t' := s1.toks) fun b o e => Heap.get?_push_of_some _ e, turn_tuple a _, ⟨_, Heap.get?_push_size _ rfl, rfl, rfl⟩, fun b hb => ?_,
      q _ (walk_tup.mono (fun H e => SqT.of (e.trans hq)) fun _ _ _ _ _ _ y => y)⟩
    have e : b = s1.heap.objs.size := by simpa using hb
    subst e
    exact I1.fpOk (Nat.le_refl _) (I1.hok.fresh (Nat.le_refl _))
/-- [f(x) for x in seq] gives Bools: bs, item by item -/
theorem lc_blsG {J : It} {xs : List V} {G : Hp → Prop} {H1 : Hp} {D : Addr} (w : Walk J xs.length G (YAt xs)) (hG : ∀ H, (∀ b o, b ≠ D → H1 b = some o → H b = some o) → G H) (nD : H1 D = none) {j : Nat} {te : TE} {vs : List Nat} {σ : L2.St} {Qd : Hp → Prop} (bs : List Bool) (hl : bs.length = xs.length) (hz : xs.length ≤ 4000)
    (hw : ∀ x, wipe ((wipe σ vs).set j (some x)) vs = wipe σ vs)
    (hs : ∀ (i : Nat) x b H, xs[i]? = some x → bs[i]? = some b → Same H1 H → ∀ Qe : V → Hp → Prop, (∀ H', Same H H' → Qe (.bl b) H') → te ((wipe σ vs).set j (some x)) H Qe)
    (hd : ∀ H, Same H1 H → H D = some (.lst (bs.map V.bl)) → Qd H) :
    ∃ W : Nat → Nat → Hp → Prop, (∃ m, W 0 m (upd H1 D (.lst []))) ∧ ∀ i m H, W i m H →
      (J.stop i H ∧ Qd H) ∨ (J.go i H ∧ ∃ Nx : Hp → Prop, (∀ H', Nx H' → ∃ m', m' < m ∧ W (i + 1) m' H') ∧ ∀ x H', J.yld i H x H' → gName j x (wipe σ vs) H' fun σ2 H2 => wipe σ2 vs = wipe σ vs ∧ tYes σ2 H2 fun b H3 =>
        if b = true then te σ2 H3 fun y H4 => ∃ acc, H4 D = some (.lst acc) ∧ acc.length < sizeLine ∧ Nx (upd H4 D (.lst (acc ++ [y]))) else Nx H3) := by
  refine lc_it w (fun i H => (∀ b o, b ≠ D → H1 b = some o → H b = some o) ∧ H D = some (.lst ((bs.take i).map V.bl))) ⟨fun b o hb e => by rw [upd_ne hb]; exact e, upd_same⟩ (fun i H _ p => hG H p.1) ?_ ?_
  · rintro i x H H' hi ⟨k, hD⟩ ⟨rfl, hx⟩
    obtain ⟨b, hb⟩ : ∃ b, bs[i]? = some b := ⟨_, List.getElem?_eq_getElem (by omega)⟩
    have sm : Same H1 H' := fun c o e => k c o (fun z => by rw [z, nD] at e; cases e) e
    refine ⟨hw x, yes_if ?_⟩
    refine hs i x b H' hx hb sm _ fun H2 s2 => ?_
    refine ⟨_, s2 _ _ hD, ?_, fun c o hc e => ?_, ?_⟩
    · rw [List.length_map, List.length_take]
      exact Nat.lt_of_le_of_lt (Nat.min_le_right _ _) (Nat.lt_of_le_of_lt (hl ▸ hz) (by decide))
    · rw [upd_ne hc]
      exact s2 _ _ (k c o hc e)
    · rw [upd_same, take_succ_get hb, List.map_append]
      rfl
  · rintro H ⟨k, hD⟩
    rw [← hl, List.take_length] at hD
    exact hd H (fun c o e => k c o (fun z => by rw [z, nD] at e; cases e) e) hD
theorem lc_bls {J : It} {xs : List V} {a : Addr} {H1 : Hp} {D : Addr} (w : Walk J xs.length (fun H => H a = H1 a) (YAt xs)) (ha : H1 a ≠ none) (nD : H1 D = none) {j : Nat} {te : TE} {vs : List Nat} {σ : L2.St} {Qd : Hp → Prop} (bs : List Bool) (hl : bs.length = xs.length) (hz : xs.length ≤ 4000)
    (hw : ∀ x, wipe ((wipe σ vs).set j (some x)) vs = wipe σ vs)
    (hs : ∀ (i : Nat) x b H, xs[i]? = some x → bs[i]? = some b → Same H1 H → ∀ Qe : V → Hp → Prop, (∀ H', Same H H' → Qe (.bl b) H') → te ((wipe σ vs).set j (some x)) H Qe)
    (hd : ∀ H, Same H1 H → H D = some (.lst (bs.map V.bl)) → Qd H) :
    ∃ W : Nat → Nat → Hp → Prop, (∃ m, W 0 m (upd H1 D (.lst []))) ∧ ∀ i m H, W i m H →
      (J.stop i H ∧ Qd H) ∨ (J.go i H ∧ ∃ Nx : Hp → Prop, (∀ H', Nx H' → ∃ m', m' < m ∧ W (i + 1) m' H') ∧ ∀ x H', J.yld i H x H' → gName j x (wipe σ vs) H' fun σ2 H2 => wipe σ2 vs = wipe σ vs ∧ tYes σ2 H2 fun b H3 =>
        if b = true then te σ2 H3 fun y H4 => ∃ acc, H4 D = some (.lst acc) ∧ acc.length < sizeLine ∧ Nx (upd H4 D (.lst (acc ++ [y]))) else Nx H3) :=
  lc_blsG w (fun H k => by
    obtain ⟨o, e⟩ := some_of ha
    rw [k a o (fun z => ha (by rw [z]; exact nD)) e, e]) nD bs hl hz hw hs hd
/-- the signs of a text -/
def signsV (z : Str) : List V := z.cps.toList.map fun c => .str ⟨#[c]⟩
theorem walk_signs {z : Str} : Walk (Its z) (signsV z).length (fun _ => True) (YAt (signsV z)) := by
  have e : (signsV z).length = z.cps.size := by unfold signsV; simp
  rw [e]
  refine walk_str.mono (fun _ _ => trivial) fun i H x H' hi _ y => ?_
  obtain ⟨rfl, c, h1, h2⟩ := y
  refine ⟨rfl, ?_⟩
  unfold signsV
  rw [List.getElem?_map, Array.getElem?_toList, h1, h2]
  rfl
end K57
/-! D8 -/
namespace K57
open PySem PySem.Spec PyProof.Rows L2 He
/-! ### rows -/
def isSq : PyData → Bool
  | .list _ => true
  | .tuple _ => true
  | _ => false
def itemsD : PyData → List PyData
  | .list ds => ds
  | .tuple ds => ds
  | _ => []
def rowB (n : Int) (d : PyData) : Bool := isSq d && ((decide (1 ≤ (itemsD d).length) && decide ((itemsD d).length ≤ 60)) && ((itemsD d).all isInt && decide (((itemsD d).length : Int) = n)))
theorem isSq_eq (d : PyData) : (isT "list" d || isT "tuple" d) = isSq d := by cases d <;> rfl
theorem Dq.sq {H : Hp} {v : V} {d : PyData} (h : Dq H v d) (hs : isSq d = true) : ∃ a xs, v = .ref a ∧ SqB H a xs ∧ DqAll H xs (itemsD d) := by
  cases h with
  | lst h r => exact ⟨_, _, rfl, .inl h, r⟩
  | tup h r => exact ⟨_, _, rfl, .inr h, r⟩
  | _ => cases hs
theorem SqB.ty {K : PySem.W.Frag} {H : Hp} {a : Addr} {xs : List V} (h : SqB H a xs) : ∃ t, TyX K H (.ref a) t ∧ (t = .type "list" ∨ t = .type "tuple") := by
  rcases h with h | h
  · exact ⟨_, .base (.lst h), .inl rfl⟩
  · exact ⟨_, .base (.tup h), .inr rfl⟩
def spIsRow : Sp := fun vs H Q _ => ∃ n v d, vs = [v, .int n] ∧ Dq H v d ∧ (isSq d = true → (itemsD d).length ≤ 4000) ∧ ∀ H1, Same H H1 → Q (.bl (rowB n d)) H1
/-- distinct ints -/
def toI : PyData → Int
  | .int i => i
  | _ => 0
theorem map_toI : ∀ ns : List Int, (ns.map PyData.int).map toI = ns
  | [] => rfl
  | n :: ns => congrArg (List.cons n) (map_toI ns)
def distB (d : PyData) : Bool := decide ((itemsD d).map toI).Nodup
def testB (n : Int) (d : PyData) : Bool := rowB n d && distB d
def spIsTest : Sp := fun vs H Q _ => ∃ n v d, vs = [.int n, v] ∧ Dq H v d ∧ (isSq d = true → (itemsD d).length ≤ 4000) ∧ ∀ H1, Same H H1 → Q (.bl (testB n d)) H1
theorem ints_of {H : Hp} : ∀ {xs : List V} {ds : List PyData}, DqAll H xs ds → ds.all isInt = true → ∃ ns : List Int, xs = ns.map V.int ∧ ds = ns.map PyData.int
  | _, _, .nil, _ => ⟨[], rfl, rfl⟩
  | _, _, .cons (d := d) h r, e => by
    rw [List.all_cons, Bool.and_eq_true] at e
    obtain ⟨ns, e1, e2⟩ := ints_of r e.2
    cases h with
    | int i => exact ⟨i :: ns, by rw [e1]; rfl, by rw [e2]; rfl⟩
    | _ => cases e.1
theorem iteBQ {c : Bool} {A B : Prop} (h1 : c = true → A) (h2 : c = false → B) : if c = true then A else B := iteB h1 h2
section
variable {P : Program} {w : World} {K : PySem.W.Frag} {mg : Str → Option Value} {base : Heap}
theorem sc_is_row : FnScope ["value", "size", "item"] ["value", "size"] (defScope sIsRow) := ⟨rfl, rfl, rfl, by decide +kernel, rfl, by decide +kernel, by decide +kernel⟩
theorem ok_is_row (T : Txt K mg) : FnOk P w K mg base CX0 2 (ga K "is_row") (fdAt K (ga K "is_row")) ["value", "size"] spIsRow := by
  refine T.f_is_row.ok sc_is_row (fun vs H Q E h => ?_) (fun cdv A outer s H vs Q E hr h => ?_)
  · obtain ⟨n, v, d, rfl, _⟩ := h
    rfl
  obtain ⟨n, v, d, rfl, hv, hz, q⟩ := h
  refine ⟨_, PSs.nox (pss_cons (ps_if (PW.pt (pw_or (pt_not (pt_val (b_isinstance call_isiT T (pa_cons (pv 0) (pa_cons (pe_tup (pa_cons (n_list T) (pa_cons (n_tuple T) pa_nil))) pa_nil))))) (pw_or1 (pt_not (pt_chain op_le op_le pe_int (b_len call_len_seq T (pa_cons (pv 0) pa_nil)) (n_MOST_LINES T)))))) (pss_one (ps_ret pe_bl)) pss_nil)
    (pss_one (ps_ret (pe_and (b_all (cr_all rfl) T (pa_cons (pe_lc (own := [("item", 2)]) rfl sc_is_row.nd (pi_seq (pv 0)) (blkOk_by (N := ["value", "size", "item"]) (sc := defScope sIsRow) (by decide +kernel)) (fun _ _ _ _ _ => pg_name (i := 2) sc_is_row.nd rfl (Or.inl rfl)) (fun _ _ _ _ _ => pts_nil) (fun _ _ _ _ _ => (c_is_integer T (hr.mono (by decide)) (pa_cons (pv 2) pa_nil)))) pa_nil)) (pe_one (pe_or (pe_cmp (pc_isN (pv 1))) (pe_one (pe_cmpR op_eq (b_len call_len_seq T (pa_cons (pv 0) pa_nil)) (pv 1) (nomark _))))))))), ?_⟩
  refine ⟨_, rfl, (by show 2 ≤ sizeLine; decide), fun tp ntp => ?_⟩
  have s1 : Same H (upd H tp (.tup [V.ty "list", V.ty "tuple"])) := same_new ntp
  generalize hH1 : upd H tp (.tup [V.ty "list", V.ty "tuple"]) = H1 at *
  refine ⟨_, tp, _, _, _, _, rfl, (by rw [← hH1]; exact upd_same), two_cls, (hv.mono s1).ty, isT2 d, _, rfl, ?_⟩
  rw [isSq_eq]
  refine iteB (fun c => ?_) (fun c => ?_)
  · have e : rowB n d = false := by
      unfold rowB
      rw [Bool.not_eq_true'] at c
      rw [c]
      rfl
    rw [e] at q
    exact iteT (q H1 s1)
  rw [Bool.not_eq_false'] at c
  obtain ⟨a, xs, rfl, ha, hd⟩ := (hv.mono s1).sq c
  have hlen := hd.length
  have hz' := hz c
  refine ⟨_, rfl, a, xs, rfl, ha.seq, _, _, rfl, rfl, _, rfl, ?_⟩
  refine iteB (fun c1 => ?_) (fun c1 => ?_)
  · refine ⟨_, _, rfl, rfl, _, rfl, ?_⟩
    refine iteB (fun c2 => ?_) (fun c2 => ?_)
    · have e : rowB n d = false := by
        unfold rowB
        have h2 : decide ((itemsD d).length ≤ 60) = false := by
          rw [Bool.not_eq_true', decide_eq_false_iff_not] at c2
          rw [decide_eq_false_iff_not]
          omega
        rw [c, h2]
        simp
      rw [e] at q
      exact q H1 s1
    rw [Bool.not_eq_false', decide_eq_true_eq] at c2
    rw [decide_eq_true_eq] at c1
    have e0 : rowB n d = ((itemsD d).all isInt && decide (((itemsD d).length : Int) = n)) := by
      unfold rowB
      rw [c, decide_eq_true (show 1 ≤ (itemsD d).length by omega), decide_eq_true (show (itemsD d).length ≤ 60 by omega)]
      rfl
    rw [e0] at q
    refine ⟨_, rfl, a, xs, rfl, ha, fun J w D nD => ?_⟩
    refine lc_bls w ha.some nD ((itemsD d).map isInt) (by rw [List.length_map, hlen]) (by rw [hlen]; exact hz') (fun _ => rfl) ?_ ?_
    · rintro i x b H2 hx hb s2 Qe hQ
      obtain ⟨d', e1, e2⟩ := hd.get' hx
      rw [List.getElem?_map, e1] at hb
      cases hb
      exact ⟨x, rfl, x, d', rfl, e2.mono s2, hQ H2 (Same.refl _)⟩
    · rintro H2 s2 hD
      refine ⟨D, _, rfl, SqL.of hD, _, rfl, ?_⟩
      have e3 : ((itemsD d).map isInt).all id = (itemsD d).all isInt := by
        rw [List.all_map]
        rfl
      rw [e3]
      refine iteB (fun c3 => ?_) (fun c3 => ?_)
      · rw [c3] at q
        refine ⟨_, rfl, false, congrArg V.bl (decide_eq_false (fun z => nomatch z)), ?_⟩
        refine iteF ?_
        refine ⟨_, rfl, a, xs, rfl, (ha.mono s2).seq, _, rfl, rfl, ?_⟩
        rw [decInt, hlen]
        exact q H2 (s1.trans s2)
      · rw [c3] at q
        exact q H2 (s1.trans s2)
  · have e : rowB n d = false := by
      unfold rowB
      have h2 : decide (1 ≤ (itemsD d).length) = false := by
        rw [decide_eq_false_iff_not] at c1
        rw [decide_eq_false_iff_not]
        omega
      rw [c, h2]
      simp
    rw [e] at q
    refine ⟨_, rfl, ?_⟩
    exact iteT (q H1 s1)
theorem bd_is_row (T : Txt K mg) : Binds K (fdAt K (ga K "is_row")) ["value", "size"] [] := by
  obtain ⟨ds, h1, h2⟩ := T.f_is_row.binds1 (ps := ["value", "size"]) 2 1 (by intro z; cases z) rfl (fun T kV doc pm an cdv ct us its h1 h2 => by
    match us, h1 with
    | [_, _], _ =>
      match its, h2 with
      | [_], _ => exact ⟨_, rfl, rfl⟩)
  cases h1
  exact h2
theorem c_is_row {X : Cx} {e : Expr} {es : List Expr} {t : TA} {p pos : Pos} (T : Txt X.K X.mg) (hr : Room 2 X.A) (ha : PA X (e :: es) t) (hg : Gl X "is_row" := by rfl) (he : starEach (e :: es) X.env = (false, eval e X.env) :: starEach es X.env := by rfl) (hpl : (backTo pos (starEach es X.env)).any (·.1) = false := by rfl) :
    PE X (.Call (.Name "is_row" p) (e :: es) [] pos) (tCall spIsRow [] E0 t) := pe_call (ok_is_row T) hr hg T.g_is_row T.f_is_row.kp (bd_is_row T) .nil pass0 ha (by decide) he hpl
/-! ### is_test -/
theorem nd_inl (ns : List Int) : (ns.map (Sum.inl : Int → Key)).Nodup ↔ ns.Nodup := by
  constructor
  · intro h
    exact (List.pairwise_map.mp h).imp fun {a b} ne e => ne (by rw [e])
  · intro h
    exact List.pairwise_map.mpr (h.imp fun {a b} ne e => ne (Sum.inl.inj e))
theorem row_parts {n : Int} {d : PyData} (h : rowB n d = true) : isSq d = true ∧ (itemsD d).all isInt = true ∧ ((itemsD d).length : Int) = n ∧ 1 ≤ (itemsD d).length ∧ (itemsD d).length ≤ 60 := by
  unfold rowB at h
  simp only [Bool.and_eq_true, decide_eq_true_eq] at h
  exact ⟨h.1, h.2.2.1, h.2.2.2, h.2.1.1, h.2.1.2⟩
theorem sc_is_test : FnScope ["size", "value"] ["size", "value"] (defScope sIsTest) := ⟨rfl, rfl, rfl, by decide +kernel, rfl, by decide +kernel, by decide +kernel⟩
theorem ok_is_test (T : Txt K mg) : FnOk P w K mg base CX0 3 (ga K "is_test") (fdAt K (ga K "is_test")) ["size", "value"] spIsTest := by
  refine T.f_is_test.ok sc_is_test (fun vs H Q E h => ?_) (fun cdv A outer s H vs Q E hr h => ?_)
  · obtain ⟨n, v, d, rfl, _⟩ := h
    rfl
  obtain ⟨n, v, d, rfl, hv, hz, q⟩ := h
  refine ⟨_, PSs.nox (pss_one (ps_ret (pe_and (c_is_row T (hr.mono (by decide)) (pa_cons (pv 1) (pa_cons (pv 0) pa_nil))) (pe_one (pe_cmpR op_eq (c_lenSet T (pv 1)) (pv 0) (nomark _)))))), ?_⟩
  refine ⟨_, rfl, _, rfl, n, v, d, rfl, hv, hz, fun H1 s1 => ⟨_, rfl, ?_⟩⟩
  have q1 := q H1 s1
  unfold testB at q1
  refine iteB (fun c => ?_) (fun c => ?_)
  · obtain ⟨hsq, hall, hn, hlo, hhi⟩ := row_parts c
    obtain ⟨a, xs, rfl, ha, hd⟩ := hv.sq hsq
    obtain ⟨ns, e1, e2⟩ := ints_of hd hall
    have hlen : (itemsD d).length = ns.length := by rw [e2, List.length_map]
    refine ⟨_, rfl, a, ns.map Sum.inl, rfl, ?_, ?_, _, rfl, rfl, ?_⟩
    · have e3 : (ns.map (Sum.inl : Int → Key)).map kV = xs := by rw [e1, List.map_map]; rfl
      rw [e3]
      exact (ha.mono s1).seq
    · rw [List.length_map]
      omega
    · rw [decInt]
      have e4 : distB d = decide (((dcount (ns.map Sum.inl) : Nat) : Int) = n) := by
        have h1 := dcount_nodup (ks := ns.map (Sum.inl : Int → Key))
        rw [nd_inl, List.length_map] at h1
        have h2 : (((dcount (ns.map Sum.inl) : Nat) : Int) = n) ↔ ns.Nodup := by
          rw [← h1]
          constructor
          · intro z; omega
          · intro z; omega
        unfold distB
        refine decide_eq_decide.mpr ?_
        rw [e2, map_toI]
        exact h2.symm
      rw [c, e4] at q1
      exact q1
  · rw [c] at q1
    exact q1
theorem bd_is_test {K : PySem.W.Frag} {mg : Str → Option Value} (T : Txt K mg) : Binds K (fdAt K (ga K "is_test")) ["size", "value"] [] := T.f_is_test.bindsN fun _ _ _ _ _ _ us hl => match us, hl with | [_, _], _ => rfl
theorem c_is_test {X : Cx} {e : Expr} {es : List Expr} {t : TA} {p pos : Pos} (T : Txt X.K X.mg) (hr : Room 3 X.A) (ha : PA X (e :: es) t) (hg : Gl X "is_test" := by rfl) (he : starEach (e :: es) X.env = (false, eval e X.env) :: starEach es X.env := by rfl) (hpl : (backTo pos (starEach es X.env)).any (·.1) = false := by rfl) :
    PE X (.Call (.Name "is_test" p) (e :: es) [] pos) (tCall (spIsTest) [] E0 t) := pe_call (ok_is_test T) hr hg T.g_is_test T.f_is_test.kp (bd_is_test T) .nil pass0 ha (by decide) he hpl
/-! ### is_name -/
def LET : Str := "abcdefghijklmnopqrstuvwxyz"
def NameOk (x : Str) : Prop := 1 ≤ x.length ∧ x.length ≤ 8 ∧ ∀ c ∈ x.cps.toList, 97 ≤ c ∧ c ≤ 122
theorem let_all : ((List.range 26).all fun i => !(Builtin.Str.occurrences LET ⟨#[97 + i]⟩ 0 LET.length 1).isEmpty) = true := by decide +kernel
theorem let_in {c : Nat} (h1 : 97 ≤ c) (h2 : c ≤ 122) : (!(Builtin.Str.occurrences LET ⟨#[c]⟩ 0 LET.length 1).isEmpty) = true := by
  have h := List.all_eq_true.mp let_all (c - 97) (List.mem_range.mpr (by omega))
  rw [show 97 + (c - 97) = c by omega] at h
  exact h
def spIsName : Sp := fun vs H Q _ => ∃ x, vs = [.str x] ∧ NameOk x ∧ ∀ H1, Same H H1 → Q (.bl true) H1
theorem sc_is_name : FnScope ["value", "sign"] ["value"] (defScope sIsName) := ⟨rfl, rfl, rfl, by decide +kernel, rfl, by decide +kernel, by decide +kernel⟩
theorem ok_is_name (T : Txt K mg) : FnOk P w K mg base CX0 1 (ga K "is_name") (fdAt K (ga K "is_name")) ["value"] spIsName := by
  refine T.f_is_name.ok sc_is_name (fun vs H Q E h => ?_) (fun cdv A outer s H vs Q E hr h => ?_)
  · obtain ⟨x, rfl, _⟩ := h
    rfl
  obtain ⟨x, rfl, ⟨h1, h2, h3⟩, q⟩ := h
  refine ⟨_, PSs.nox (pss_cons (ps_if (PW.pt (pw_or (pt_not (pt_val (b_isinstance call_isi T (pa_cons (pv 0) (pa_cons (n_str T) pa_nil))))) (pw_or1 (pt_not (pt_chain op_le op_le pe_int (b_len call_len_str T (pa_cons (pv 0) pa_nil)) (n_LONGEST_NAME T)))))) (pss_one (ps_ret pe_bl)) pss_nil)
    (pss_one (ps_ret (b_all (cr_all rfl) T (pa_cons (pe_lc (own := [("sign", 1)]) rfl sc_is_name.nd (pi_str (pv 0)) (blkOk_by (N := ["value", "sign"]) (sc := defScope sIsName) (by decide +kernel)) (fun _ _ _ _ _ => pg_name (i := 1) sc_is_name.nd rfl (Or.inl rfl)) (fun _ _ _ _ _ => pts_nil) (fun _ _ _ _ _ => (pe_cmpR op_in_str (pv 1) (n_LETTERS T) (by rfl)))) pa_nil))))), ?_⟩
  refine ⟨_, rfl, _, _, _, _, _, rfl, .ty _, .base (.str x), kit_dt "str" (by simp) (.str x), _, rfl, ?_⟩
  refine iteB (fun c => nomatch c) (fun _ => ?_)
  refine ⟨_, rfl, x, rfl, Nat.le_of_lt (Nat.lt_of_le_of_lt h2 (by decide)), _, _, rfl, rfl, _, rfl, ?_⟩
  refine iteB (fun c => ?_) (fun c => ?_)
  · refine ⟨_, _, rfl, rfl, _, rfl, ?_⟩
    refine iteB (fun c2 => ?_) (fun c2 => ?_)
    · rw [Bool.not_eq_true', decide_eq_false_iff_not] at c2
      omega
    refine ⟨_, rfl, x, rfl, fun D nD => ?_⟩
    have hsl : (signsV x).length = x.length := by unfold signsV; simp; rfl
    refine lc_blsG walk_signs (fun _ _ => trivial) nD (List.replicate (signsV x).length true) (by rw [List.length_replicate]) (by omega) (fun _ => rfl) ?_ ?_
    · rintro i v b H2 hx hb s2 Qe hQ
      rw [List.getElem?_replicate] at hb
      split at hb
      · cases hb
        unfold signsV at hx
        rw [List.getElem?_map] at hx
        cases e : x.cps.toList[i]? with
        | none => rw [e] at hx; cases hx
        | some c =>
          rw [e] at hx
          cases hx
          have hc := h3 c (List.mem_of_getElem? e)
          refine ⟨_, rfl, _, _, rfl, rfl, ?_⟩
          rw [show (!(Builtin.Str.occurrences "abcdefghijklmnopqrstuvwxyz" ⟨#[c]⟩ 0 (Str.length "abcdefghijklmnopqrstuvwxyz") 1).isEmpty) = true from let_in hc.1 hc.2]
          exact hQ H2 (Same.refl _)
      · cases hb
    · rintro H2 s2 hD
      refine ⟨D, _, rfl, SqL.of hD, ?_⟩
      have e3 : (List.replicate (signsV x).length true).all id = true := by
        rw [List.all_eq_true]
        intro b hb
        rw [List.eq_of_mem_replicate hb]
        rfl
      rw [e3]
      exact q H2 s2
  · rw [decide_eq_false_iff_not] at c
    omega
theorem bd_is_name {K : PySem.W.Frag} {mg : Str → Option Value} (T : Txt K mg) : Binds K (fdAt K (ga K "is_name")) ["value"] [] := T.f_is_name.bindsN fun _ _ _ _ _ _ us hl => match us, hl with | [_], _ => rfl
theorem c_is_name {X : Cx} {e : Expr} {es : List Expr} {t : TA} {p pos : Pos} (T : Txt X.K X.mg) (hr : Room 1 X.A) (ha : PA X (e :: es) t) (hg : Gl X "is_name" := by rfl) (he : starEach (e :: es) X.env = (false, eval e X.env) :: starEach es X.env := by rfl) (hpl : (backTo pos (starEach es X.env)).any (·.1) = false := by rfl) :
    PE X (.Call (.Name "is_name" p) (e :: es) [] pos) (tCall (spIsName) [] E0 t) := pe_call (ok_is_name T) hr hg T.g_is_name T.f_is_name.kp (bd_is_name T) .nil pass0 ha (by decide) he hpl
end
end K57
/-! D9 -/
namespace K57
open PySem PySem.Spec PyProof.Rows L2 He
def TestRow (n : Nat) (r : List Int) : Prop := r.length = n ∧ r.Nodup
/-- lists or tuples of ints -/
structure RowsB (H : Hp) (xs : List V) (rows : List (List Int)) : Prop where
  len : xs.length = rows.length
  at_ : ∀ (i : Nat) x r, xs[i]? = some x → rows[i]? = some r → ∃ a, x = .ref a ∧ SqB H a (r.map V.int)
theorem RowsB.mono {H H' : Hp} {xs : List V} {rows : List (List Int)} (s : Same H H') (h : RowsB H xs rows) : RowsB H' xs rows := ⟨h.len, fun i x r h1 h2 => by
  obtain ⟨a, e, q⟩ := h.at_ i x r h1 h2
  exact ⟨a, e, q.mono s⟩⟩
theorem SqB.row {H : Hp} {a : Addr} {r : List Int} (h : SqB H a (r.map V.int)) : ∃ d, Dq H (.ref a) d ∧ isSq d = true ∧ itemsD d = r.map PyData.int := by
  rcases h with h | h
  · exact ⟨_, .lst h (DqAll.ints r), rfl, rfl⟩
  · exact ⟨_, .tup h (DqAll.ints r), rfl, rfl⟩
theorem ints_all (r : List Int) : (r.map PyData.int).all isInt = true := by
  rw [List.all_map, List.all_eq_true]
  intro x _
  rfl
theorem testB_row {n : Nat} {d : PyData} {r : List Int} (h1 : isSq d = true) (h2 : itemsD d = r.map PyData.int) (h : TestRow n r) (hn : 1 ≤ n) (hn2 : n ≤ 60) : testB n d = true := by
  unfold testB rowB distB
  rw [h1, h2, map_toI, ints_all, List.length_map, h.1, decide_eq_true hn, decide_eq_true hn2, decide_eq_true h.2]
  simp
theorem DqAll.snoc {H : Hp} {xs : List V} {ds : List PyData} {x : V} {d : PyData} (h : DqAll H xs ds) (q : Dq H x d) : DqAll H (xs ++ [x]) (ds ++ [d]) := h.append (.cons q .nil)
/-- tuples stand -/
def TupsOn (H H' : Hp) : Prop := ∀ b ys, H b = some (.tup ys) → H' b = some (.tup ys)
def spKeptTests : Sp := fun vs H Q _ => ∃ (n : Nat) (a : Addr) (xs : List V) (rows : List (List Int)), vs = [.int n, .ref a] ∧ 1 ≤ n ∧ n ≤ 60 ∧ SqB H a xs ∧ RowsB H xs rows ∧ rows.length ≤ 100 ∧ (∀ r ∈ rows, TestRow n r) ∧
  ∀ H1 t ys, Same H H1 → H t = none → H1 t = some (.tup ys) → DqAll H1 ys (rows.map tupD) → Q (.ref t) H1
section
variable {P : Program} {w : World} {K : PySem.W.Frag} {mg : Str → Option Value} {base : Heap}
theorem sc_kept_tests : FnScope ["size", "value", "test"] ["size", "value"] (defScope sKeptTests) := ⟨rfl, rfl, rfl, by decide +kernel, rfl, by decide +kernel, by decide +kernel⟩
theorem ok_kept_tests (T : Txt K mg) : FnOk P w K mg base CX0 4 (ga K "kept_tests") (fdAt K (ga K "kept_tests")) ["size", "value"] spKeptTests := by
  refine T.f_kept_tests.ok sc_kept_tests (fun vs H Q E h => ?_) (fun cdv A outer s H vs Q E hr h => ?_)
  · obtain ⟨n, a, xs, rows, rfl, _⟩ := h
    rfl
  obtain ⟨n, a, xs, rows, rfl, h1, h2, ha, hrows, hl, htest, q⟩ := h
  refine ⟨_, PSs.nox (pss_cons (ps_if (PW.pt (pw_or (pt_not (pt_val (b_isinstance call_isiT T (pa_cons (pv 1) (pa_cons (pe_tup (pa_cons (n_list T) (pa_cons (n_tuple T) pa_nil))) pa_nil))))) (pw_or1 (pt_cmpR op_gt (b_len call_len_seq T (pa_cons (pv 1) pa_nil)) (n_MOST_TESTS T) (nomark _))))) (pss_one (ps_ret pe_non)) pss_nil)
    (pss_one (ps_ret (pe_ifExp (pt_val (b_all (cr_all rfl) T (pa_cons (pe_lc (own := [("test", 2)]) rfl sc_kept_tests.nd (pi_seq (pv 1)) (blkOk_by (N := ["size", "value", "test"]) (sc := defScope sKeptTests) (by decide +kernel)) (fun _ _ _ _ _ => pg_name (i := 2) sc_kept_tests.nd rfl (Or.inl rfl)) (fun _ _ _ _ _ => pts_nil) (fun _ _ _ _ _ => (c_is_test T (hr.mono (by decide)) (pa_cons (pv 0) (pa_cons (pv 2) pa_nil))))) pa_nil))) (t_tuple call_tuple_of T (pa_cons (pe_lc (own := [("test", 2)]) rfl sc_kept_tests.nd (pi_seq (pv 1)) (blkOk_by (N := ["size", "value", "test"]) (sc := defScope sKeptTests) (by decide +kernel)) (fun _ _ _ _ _ => pg_name (i := 2) sc_kept_tests.nd rfl (Or.inl rfl)) (fun _ _ _ _ _ => pts_nil) (fun _ _ _ _ _ => (t_tuple (call_tupK (K := K)) T (pa_cons (pv 2) pa_nil)))) pa_nil)) pe_non)))), ?_⟩
  refine ⟨_, rfl, (by show 2 ≤ sizeLine; decide), fun tp ntp => ?_⟩
  have s1 : Same H (upd H tp (.tup [V.ty "list", V.ty "tuple"])) := same_new ntp
  generalize hH1 : upd H tp (.tup [V.ty "list", V.ty "tuple"]) = H1 at *
  have hk : ∃ t, TyX K H1 (.ref a) t ∧ PySem.W.kitAny K t [.type "list", .type "tuple"] = some true := by
    rcases ha with ha | ha
    · exact ⟨_, .base (.lst (s1 _ _ ha)), isT2 (.list [])⟩
    · exact ⟨_, .base (.tup (s1 _ _ ha)), isT2 (.tuple [])⟩
  obtain ⟨ty, hty, hkit⟩ := hk
  refine ⟨_, tp, _, _, _, _, rfl, (by rw [← hH1]; exact upd_same), two_cls, hty, hkit, _, rfl, ?_⟩
  refine iteF ?_
  refine ⟨_, rfl, a, xs, rfl, (ha.mono s1).seq, _, _, rfl, rfl, _, rfl, ?_⟩
  have hxl := hrows.len
  refine iteB (fun c => ?_) (fun _ => ?_)
  · rw [decide_eq_true_eq] at c
    omega
  refine ⟨_, rfl, a, xs, rfl, ha.mono s1, fun J w D nD => ?_⟩
  have hrows1 := hrows.mono s1
  refine lc_bls w (ha.mono s1).some nD (List.replicate xs.length true) (by rw [List.length_replicate]) (by omega) (fun _ => rfl) ?_ ?_
  · rintro i x b H2 hx hb s2 Qe hQ
    have hi : i < rows.length := by rw [← hxl]; exact (List.getElem?_eq_some_iff.mp hx).1
    obtain ⟨b', rfl, hb'⟩ := hrows1.at_ i x _ hx (List.getElem?_eq_getElem hi)
    obtain ⟨d, d1, d2, d3⟩ := (hb'.mono s2).row
    have htr := htest _ (List.getElem_mem hi)
    refine ⟨_, rfl, _, rfl, n, _, d, rfl, d1, fun _ => ?_, fun H3 s3 => ?_⟩
    · rw [d3, List.length_map, htr.1]
      omega
    · rw [testB_row d2 d3 htr h1 h2]
      rw [List.getElem?_replicate] at hb
      split at hb
      · cases hb
        exact hQ H3 s3
      · cases hb
  · rintro H2 s2 hD
    refine ⟨D, _, rfl, SqL.of hD, ?_⟩
    have e3 : (List.replicate xs.length true).all id = true := by
      rw [List.all_eq_true]
      intro b hb
      rw [List.eq_of_mem_replicate hb]
      rfl
    rw [e3]
    refine ⟨_, rfl, ?_⟩
    refine iteT ?_
    have ha2 := (ha.mono s1).mono s2
    refine ⟨_, rfl, a, xs, rfl, ha2, fun J2 w2 D2 nD2 => ?_⟩
    have hrows2 := hrows1.mono s2
    refine lc_it w2 (fun i H' => ∃ acc, (∀ b o, b ≠ D2 → H2 b = some o → H' b = some o) ∧ H' D2 = some (.lst acc) ∧ DqAll H' acc ((rows.take i).map tupD)) ⟨[], fun b o hb e => by rw [upd_ne hb]; exact e, upd_same, .nil⟩ ?_ ?_ ?_
    · rintro i H' _ ⟨acc, k, _⟩
      obtain ⟨o, e⟩ := some_of ha2.some
      rw [k a o (fun z => ha2.some (by rw [z]; exact nD2)) e, e]
    · rintro i x _ H' hi ⟨acc, k, hD2, hacc⟩ ⟨rfl, hx⟩
      have hi' : i < rows.length := by omega
      have er : rows[i]? = some rows[i] := List.getElem?_eq_getElem hi'
      obtain ⟨b', rfl, hb'⟩ := hrows2.at_ i x _ hx er
      have sm : Same H2 H' := fun c o e => k c o (fun z => by rw [z, nD2] at e; cases e) e
      have hsz : acc.length < sizeLine := by
        have := hacc.length
        rw [List.length_map, List.length_take] at this
        exact Nat.lt_of_le_of_lt (show acc.length ≤ 100 by omega) (by decide)
      refine ⟨rfl, ?_⟩
      refine yes_if ?_
      refine ⟨_, rfl, b', rows[i].map V.int, rfl, ?_⟩
      rcases hb'.mono sm with hb' | hb'
      · refine .inl ⟨SqL.of hb', fun t nt => ?_⟩
        have htD : t ≠ D2 := Ne.symm (ne_of_none hD2 nt)
        have st := same_new (o := .tup (rows[i].map V.int)) nt
        refine ⟨acc, st _ _ hD2, hsz, acc ++ [.ref t], fun c o hc e => ?_, upd_same, ?_⟩
        · rw [upd_ne hc]
          exact st _ _ (k c o hc e)
        · rw [take_succ_get er, List.map_append]
          have hg : DqAll (upd H' t (.tup (rows[i].map V.int))) (acc ++ [.ref t]) ((rows.take i).map tupD ++ [tupD rows[i]]) := (hacc.mono st).snoc (Dq.row upd_same)
          rw [show (rows.take i).map tupD ++ [rows[i]].map tupD = (rows.take i ++ [rows[i]]).map tupD by rw [List.map_append]]
          refine DqAll.rows (H := upd H' t (.tup (rows[i].map V.int))) (fun c ys e => ?_) (by rw [List.map_append]; exact hg)
          rw [upd_ne (fun z => by rw [z, upd_ne (Ne.symm htD), hD2] at e; cases e)]
          exact e
      · refine .inr ⟨SqT.of hb', ?_⟩
        refine ⟨acc, hD2, hsz, acc ++ [.ref b'], fun c o hc e => ?_, upd_same, ?_⟩
        · rw [upd_ne hc]
          exact k c o hc e
        · rw [take_succ_get er]
          refine DqAll.rows (H := H') (fun c ys e => ?_) (by rw [List.map_append]; exact hacc.snoc (Dq.row hb'))
          rw [upd_ne (fun z => by rw [z, hD2] at e; cases e)]
          exact e
    · rintro H3 ⟨acc, k, hD2, hacc⟩
      have sm : Same H2 H3 := fun c o e => k c o (fun z => by rw [z, nD2] at e; cases e) e
      refine ⟨D2, acc, rfl, .inl ⟨SqL.of hD2, fun t nt => ?_⟩⟩
      have st := same_new (o := .tup acc) nt
      have s4 : Same H (upd H3 t (.tup acc)) := ((s1.trans s2).trans sm).trans st
      rw [hxl, List.take_length] at hacc
      exact q _ t acc s4 (((s1.trans s2).trans sm).free nt) upd_same (hacc.mono st)
theorem bd_kept_tests {K : PySem.W.Frag} {mg : Str → Option Value} (T : Txt K mg) : Binds K (fdAt K (ga K "kept_tests")) ["size", "value"] [] := T.f_kept_tests.bindsN fun _ _ _ _ _ _ us hl => match us, hl with | [_, _], _ => rfl
theorem c_kept_tests {X : Cx} {e : Expr} {es : List Expr} {t : TA} {p pos : Pos} (T : Txt X.K X.mg) (hr : Room 4 X.A) (ha : PA X (e :: es) t) (hg : Gl X "kept_tests" := by rfl) (he : starEach (e :: es) X.env = (false, eval e X.env) :: starEach es X.env := by rfl) (hpl : (backTo pos (starEach es X.env)).any (·.1) = false := by rfl) :
    PE X (.Call (.Name "kept_tests" p) (e :: es) [] pos) (tCall (spKeptTests) [] E0 t) := pe_call (ok_kept_tests T) hr hg T.g_kept_tests T.f_kept_tests.kp (bd_kept_tests T) .nil pass0 ha (by decide) he hpl
end
/-! ### things -/
inductive Kd where
  | net | ord | tst
  deriving DecidableEq
structure Thing where
  k : Kd
  rows : List (List Int)
/-- a thing as the bench holds it -/
def PT (K : PySem.W.Frag) (H : Hp) (n : Nat) (v : V) (th : Thing) : Prop := match th.k with
  | .net => ∃ x, v = .ref x ∧ HasRows H (ga K "Network") x "own_steps" n th.rows
  | .ord => ∃ x, v = .ref x ∧ HasRows H (ga K "Order") x "own_pairs" n th.rows
  | .tst => ∃ t xs, v = .ref t ∧ H t = some (.tup xs) ∧ DqAll H xs (th.rows.map tupD)
theorem PT.mono {K : PySem.W.Frag} {H H' : Hp} {n : Nat} {v : V} {th : Thing} (s : Same H H') (h : PT K H n v th) : PT K H' n v th := by
  obtain ⟨k, rows⟩ := th
  cases k with
  | net =>
    obtain ⟨x, e, h⟩ := h
    exact ⟨x, e, h.mono s⟩
  | ord =>
    obtain ⟨x, e, h⟩ := h
    exact ⟨x, e, h.mono s⟩
  | tst =>
    obtain ⟨t, xs, e, h1, h2⟩ := h
    exact ⟨t, xs, e, s _ _ h1, h2.mono s⟩
/-- a thing as it is handed in -/
def KIn (K : PySem.W.Frag) (G H : Hp) (n : Nat) (v : V) (th : Thing) : Prop := match th.k with
  | .tst => ∃ a xs, v = .ref a ∧ SqB H a xs ∧ RowsB H xs th.rows ∧ th.rows.length ≤ 100 ∧ ∀ r ∈ th.rows, TestRow n r
  | _ => PT K G n v th
def spKeptThing (K : PySem.W.Frag) : Sp := fun vs H Q _ => ∃ (n : Nat) (G : Hp) (v : V) (th : Thing), vs = [.int n, v] ∧ 1 ≤ n ∧ n ≤ 60 ∧ Same G H ∧ KIn K G H n v th ∧ ∀ H1 v', Same H H1 → PT K (gt G H1) n v' th → Q v' H1
theorem no_cls : Paired ClsV [V.ref 0, V.ref 1] [Value.ref 0, Value.ref 1] := .cons (.own _) (.cons (.own _) .nil)
section
variable {P : Program} {w : World} {K : PySem.W.Frag} {mg : Str → Option Value} {base : Heap}
theorem bd_Network_size (T : Txt K mg) : Binds K (fdAt K (pAd K "Network" "size")) ["self"] [] := T.f_Network_size.bindsN fun _ _ _ _ _ _ us hl => match us, hl with | [_], _ => rfl
theorem bd_Order_size (T : Txt K mg) : Binds K (fdAt K (pAd K "Order" "size")) ["self"] [] := T.f_Order_size.bindsN fun _ _ _ _ _ _ us hl => match us, hl with | [_], _ => rfl
/-- e.size of a network or an order -/
theorem pe_size {X : Cx} {e : Expr} {ta : TE} {pos : Pos} (T : Txt X.K X.mg) (hr : Room 2 X.A) (he : PE X e ta) (hab : attributeBase e "size" X.env (eval e X.env) = eval e X.env := by rfl) :
    PE X (.Attribute e "size" pos) (fun σ H Q => tProp (ga X.K "Network") (getSp (ga X.K "Network") "own_size") [] E0 ta σ H Q ∨ tProp (ga X.K "Order") (getSp (ga X.K "Order") "own_size") [] E0 ta σ H Q) :=
  PE_or (pe_prop he T.ins_Network.cl T.p_Network_size (ok_Network_size T) hr (bd_Network_size T) .nil pass0 hab) (pe_prop he T.ins_Order.cl T.p_Order_size (ok_Order_size T) hr (bd_Order_size T) .nil pass0 hab)
theorem sc_kept_thing : FnScope ["size", "value"] ["size", "value"] (defScope sKeptThing) := ⟨rfl, rfl, rfl, by decide +kernel, rfl, by decide +kernel, by decide +kernel⟩
theorem ok_kept_thing (T : Txt K mg) : FnOk P w K mg base CX0 5 (ga K "kept_thing") (fdAt K (ga K "kept_thing")) ["size", "value"] (spKeptThing K) := by
  refine T.f_kept_thing.ok sc_kept_thing (fun vs H Q E h => ?_) (fun cdv A outer s H vs Q E hr h => ?_)
  · obtain ⟨n, G, v, th, rfl, _⟩ := h
    rfl
  obtain ⟨n, G, v, th, rfl, h1, h2, sG, hv, q⟩ := h
  refine ⟨_, PSs.nox (pss_cons (ps_if (pt_val (b_isinstance call_isiT T (pa_cons (pv 1) (pa_cons (pe_tup (pa_cons (n_Network T) (pa_cons (n_Order T) pa_nil))) pa_nil)))) (pss_one (ps_ret (pe_ifExp (pt_cmpR op_eq (pe_size T (hr.mono (by decide)) (pv 1)) (pv 0) (nomark _)) (pv 1) pe_non))) pss_nil)
    (pss_one (ps_ret (c_kept_tests T (hr.mono (by decide)) (pa_cons (pv 0) (pa_cons (pv 1) pa_nil)))))), ?_⟩
  refine ⟨_, rfl, (by show 2 ≤ sizeLine; decide), fun tp ntp => ?_⟩
  have s1 : Same H (upd H tp (.tup [V.ref (ga K "Network"), V.ref (ga K "Order")])) := same_new ntp
  have htp : upd H tp (.tup [V.ref (ga K "Network"), V.ref (ga K "Order")]) tp = some (.tup [V.ref (ga K "Network"), V.ref (ga K "Order")]) := upd_same
  have cl : Paired ClsV [V.ref (ga K "Network"), V.ref (ga K "Order")] [Value.ref (ga K "Network"), Value.ref (ga K "Order")] := .cons (.own _) (.cons (.own _) .nil)
  obtain ⟨k, rows⟩ := th
  cases k with
  | net =>
    obtain ⟨x, rfl, hx⟩ := hv
    obtain ⟨t, xs, ⟨dx, hx1⟩, _⟩ := hx.at_
    have hx2 := s1 _ _ (sG _ _ hx1)
    have hk : PySem.W.kitAny K (.ref (ga K "Network")) [.ref (ga K "Network"), .ref (ga K "Order")] = some true := kitAny_cons T.q_Network_Network (fun z => nomatch z) (fun _ => rfl)
    refine ⟨_, tp, _, _, _, _, rfl, htp, cl, .base (.ins hx2 T.ins_Network.cl T.ins_Network.ha T.ins_Network.hn T.ins_Network.htk T.ins_Network.hm), hk, _, rfl, ?_⟩
    refine iteT ?_
    refine .inl ⟨_, rfl, x, dx, _, rfl, hx2, x, dx, _, _, rfl, hx2, get_size, _, rfl, rfl, _, rfl, ?_⟩
    refine iteB (fun _ => ?_) (fun c => ?_)
    · exact ⟨_, rfl, q _ _ s1 ⟨x, rfl, hx.mono (gt_sub (sG.trans s1))⟩⟩
    · rw [decide_eq_true rfl] at c
      cases c
  | ord =>
    obtain ⟨x, rfl, hx⟩ := hv
    obtain ⟨t, xs, ⟨dx, hx1⟩, _⟩ := hx.at_
    have hx2 := s1 _ _ (sG _ _ hx1)
    have hk : PySem.W.kitAny K (.ref (ga K "Order")) [.ref (ga K "Network"), .ref (ga K "Order")] = some true := kitAny_cons T.q_Order_Network (fun _ => kitAny_cons T.q_Order_Order (fun z => nomatch z) (fun _ => rfl)) (fun z => nomatch z)
    refine ⟨_, tp, _, _, _, _, rfl, htp, cl, .base (.ins hx2 T.ins_Order.cl T.ins_Order.ha T.ins_Order.hn T.ins_Order.htk T.ins_Order.hm), hk, _, rfl, ?_⟩
    refine iteT ?_
    refine .inr ⟨_, rfl, x, dx, _, rfl, hx2, x, dx, _, _, rfl, hx2, get_size, _, rfl, rfl, _, rfl, ?_⟩
    refine iteB (fun _ => ?_) (fun c => ?_)
    · exact ⟨_, rfl, q _ _ s1 ⟨x, rfl, hx.mono (gt_sub (sG.trans s1))⟩⟩
    · rw [decide_eq_true rfl] at c
      cases c
  | tst =>
    obtain ⟨a, xs, rfl, ha, hrows, hl, ht⟩ := hv
    have hk : ∃ t, TyX K (upd H tp (.tup [V.ref (ga K "Network"), V.ref (ga K "Order")])) (.ref a) t ∧ PySem.W.kitAny K t [.ref (ga K "Network"), .ref (ga K "Order")] = some false := by
      rcases ha with ha | ha
      · exact ⟨_, .base (.lst (s1 _ _ ha)), kitAny_cons T.q_list_Network (fun _ => kitAny_cons T.q_list_Order (fun _ => kitAny_nil) (fun z => nomatch z)) (fun z => nomatch z)⟩
      · exact ⟨_, .base (.tup (s1 _ _ ha)), kitAny_cons T.q_tuple_Network (fun _ => kitAny_cons T.q_tuple_Order (fun _ => kitAny_nil) (fun z => nomatch z)) (fun z => nomatch z)⟩
    obtain ⟨ty, hty, hkit⟩ := hk
    refine ⟨_, tp, _, _, _, _, rfl, htp, cl, hty, hkit, _, rfl, ?_⟩
    refine iteF ?_
    refine ⟨_, rfl, _, rfl, n, a, xs, rows, rfl, h1, h2, ha.mono s1, hrows.mono s1, hl, ht, fun H2 t ys s2 nt htt hd => ?_⟩
    exact q H2 _ (s1.trans s2) ⟨t, ys, rfl, gt_tup htt, hd.gt⟩
theorem bd_kept_thing {K : PySem.W.Frag} {mg : Str → Option Value} (T : Txt K mg) : Binds K (fdAt K (ga K "kept_thing")) ["size", "value"] [] := T.f_kept_thing.bindsN fun _ _ _ _ _ _ us hl => match us, hl with | [_, _], _ => rfl
theorem c_kept_thing {X : Cx} {e : Expr} {es : List Expr} {t : TA} {p pos : Pos} (T : Txt X.K X.mg) (hr : Room 5 X.A) (ha : PA X (e :: es) t) (hg : Gl X "kept_thing" := by rfl) (he : starEach (e :: es) X.env = (false, eval e X.env) :: starEach es X.env := by rfl) (hpl : (backTo pos (starEach es X.env)).any (·.1) = false := by rfl) :
    PE X (.Call (.Name "kept_thing" p) (e :: es) [] pos) (tCall ((spKeptThing X.K)) [] E0 t) := pe_call (ok_kept_thing T) hr hg T.g_kept_thing T.f_kept_thing.kp (bd_kept_thing T) .nil pass0 ha (by decide) he hpl
end
end K57
/-! R4 -/
namespace K57
open PySem PySem.Spec PyProof.Rows L2 He
/-! ### {**d, k: v} -/
section
variable {prog : Program} {w : World} {A : Around} {E : Value → Shared → Prop} {s : Shared}
abbrev mk (prog : Program) (w : World) := mixKind prog w
theorem put_of {d : Addr} {kvs : List (Key × Value)} {k : Key} {key v : Value} {Q : Unit → Shared → Prop} (hkey : (mk prog w).is k key = true) (hm : s.heap.DictOf (mk prog w) d kvs)
    (hQ : ∀ h', h'.DictOf (mk prog w) d (stored kvs k v) → Heap.SameBut d s.heap h' → Q () { s with heap := h' }) (hsz : kvs.length ≤ sizeLine) : wpAny (model prog w) A (dictPut d ((mk prog w).hash k) key v) Q E s := by
  obtain ⟨o, es, ep, ho, hc, hd, hk, hp, hn⟩ := hm
  have hes : es.size ≤ sizeLine := by
    have e1 := hp.length
    have e2 : es.toList.length = es.size := by simp
    omega
  unfold dictPut
  refine wpAny_bind (wpAny_dictFind_of hkey ho hd hk ?_)
  have hidx : (es.findIdx? fun e => (mk prog w).is k e.key) = kvs.findIdx? fun kv => decide (kv.1 = k) := by
    rw [← hp.findIdx k]; obtain ⟨l⟩ := es; simp
  cases hi : es.findIdx? fun e => (mk prog w).is k e.key with
  | some i =>
    refine wpAny_updateDict ho hd (hQ _ ⟨_, _, ep, Heap.get?_update_self _ ho (Obj.isFreed_of_dict (Obj.data_mapDict hd _)), hc.mapDict _, Obj.data_mapDict hd _, hk.modify _ _, ?_, ?_⟩ (Heap.SameBut.update ..))
    · rw [stored, if_pos (any_of_findIdx_some (hidx ▸ hi))]
      have hl : (es.toList.findIdx? fun e => (mk prog w).is k e.key) = some i := by rw [← hi]; obtain ⟨l⟩ := es; simp
      have := hp.modify hn hl v
      obtain ⟨l⟩ := es
      simpa using this
    · rw [stored, if_pos (any_of_findIdx_some (hidx ▸ hi)), keys_map_store]; exact hn
  | none =>
    have hnot : k ∉ kvs.map (·.1) := not_mem_of_findIdx_none (hidx ▸ hi)
    have hany : ¬ (kvs.any fun kv => decide (kv.1 = k)) = true := by
      rw [List.any_eq_true]; rintro ⟨kv, hkv, he⟩
      exact hnot (List.mem_map.mpr ⟨kv, hkv, of_decide_eq_true he⟩)
    refine wpAny_updateDictKeys (hz := hes) ho hd (hQ _ ⟨_, _, ep + 1, Heap.get?_update_self _ ho (Obj.isFreed_of_dict (Obj.data_mapDictKeys hd _)), hc.mapDictKeys _, Obj.data_mapDictKeys hd _, hk.push hkey _, ?_, ?_⟩ (Heap.SameBut.update ..))
    · rw [stored, if_neg hany]
      have := hp.append hkey ((mk prog w).hash k) v
      obtain ⟨l⟩ := es
      simpa using this
    · rw [stored, if_neg hany, List.map_append, List.nodup_append]
      refine ⟨hn, by simp, ?_⟩
      intro a ha b hb
      simp only [List.map_cons, List.map_nil, List.mem_singleton] at hb
      subst hb
      exact fun e => hnot (e ▸ ha)
theorem merge_of {d o : Addr} {kvs more : List (Key × Value)} {Q : Unit → Shared → Prop} (hdo : d ≠ o) (hoS : (o == sysModules) = false) (hd : s.heap.DictOf (mk prog w) d kvs) (ho : s.heap.DictOf (mk prog w) o more)
    (hQ : ∀ h', h'.DictOf (mk prog w) d (merged kvs more) → h'.DictOf (mk prog w) o more → Heap.SameBut d s.heap h' → Q () { s with heap := h' }) (hsz : kvs.length + more.length ≤ sizeLine) :
    wpAny (model prog w) A (mergeMapping d (.ref o) false) Q E s := by
  obtain ⟨od, esd, epd, hod, hcd, hdd, hkd, hpd, hnd⟩ := id hd
  obtain ⟨oo, eso, epo, hoo, hco, hdo', hko, hpo, hno⟩ := id ho
  have hT : s.TypeIs (.ref o) "dict" := ⟨oo, hoo, hco.1⟩
  have hlen : more.length = eso.size := by rw [← hpo.length]; simp
  have notref : ∀ e ∈ eso, ∀ a, e.key ≠ .ref a := fun e he a z => by
    obtain ⟨k, hk, _⟩ := hko e he
    rw [z] at hk
    rcases keyIs_shape hk with ⟨i, t, _, e2⟩ | ⟨x, t, _, e2⟩ <;> cases e2
  unfold mergeMapping
  refine wpAny_bind (wpAny_isInstance (b := true) hT PySem.F.sub_dict_dict ?_)
  rw [if_pos rfl]
  refine wpAny_bind (wpAny_specialOf hT PySem.F.slot_dict_iter.lookup ?_)
  refine wpAny_bind (wpAny_pure ?_)
  rw [show ((some (Value.builtin "dict.__iter__") == some (Value.builtin "dict.__iter__")) : Bool) = true from by first | rfl | decide]
  dsimp only
  rw [if_neg (by rw [hoS]; exact Bool.false_ne_true)]
  have loop : wpAny (model prog w) A (do
      let l ← dictEntries o
      let epoch ← dictEpoch o
      forIn (List.range l.size) PUnit.unit fun i (_ : PUnit) => (do
          let l' ← dictEntries o
          match l'[i]? with
            | some e => do
              holding [e.key, e.val] (dictPut d e.hash e.key e.val)
              let ep' ← dictEpoch o
              if (ep' != epoch) = true then do
                  (unsupported "dict.changed-during-merge" : Sem PUnit)
                  pure (ForInStep.yield PUnit.unit)
                else pure (ForInStep.yield PUnit.unit)
            | _ => do
              (unsupported "dict.changed-during-merge" : Sem PUnit)
              pure (ForInStep.yield PUnit.unit) : Sem (ForInStep PUnit))
      pure ()) Q E s := by
    refine wpAny_bind (wpAny_dictEntries hoo hdo' ?_)
    refine wpAny_bind (wpAny_dictEpoch hoo hdo' ?_)
    refine wpAny_bind ?_
    rw [List.range_eq_range']
    refine wpAny_forIn_list _
      (fun rest _ s' => ∃ h' i, s' = { s with heap := h' } ∧ rest = List.range' i (eso.size - i) ∧ i ≤ eso.size ∧ h'.DictOf (mk prog w) d (merged kvs (more.take i)) ∧ h'.get? o = some oo ∧ Heap.SameBut d s.heap h')
      _ ?_ ?_ _ _ ⟨s.heap, 0, rfl, by simp, Nat.zero_le _, by simpa [merged] using hd, hoo, Heap.SameBut.refl _ _⟩
    · rintro x rest b s' ⟨h', i, rfl, hr, hi, hd', hoo', hs'⟩
      have hlt : i < eso.size := by
        rcases Nat.lt_or_ge i eso.size with h | h
        · exact h
        · rw [Nat.sub_eq_zero_of_le h] at hr; simp at hr
      obtain ⟨rfl, hrest⟩ : x = i ∧ rest = List.range' (i + 1) (eso.size - (i + 1)) := by
        have e : eso.size - i = (eso.size - (i + 1)) + 1 := by omega
        rw [e, List.range'_succ] at hr
        injection hr with h1 h2
        exact ⟨h1, h2⟩
      refine wpAny_bind (wpAny_dictEntries hoo' hdo' ?_)
      rw [Array.getElem?_eq_getElem hlt]
      obtain ⟨kv, hkv⟩ : ∃ kv, more[x]? = some kv := ⟨more[x]'(by rw [hlen]; exact hlt), List.getElem?_eq_getElem _⟩
      obtain ⟨k, v⟩ := kv
      obtain ⟨hkey, hval⟩ := hpo.get? (e := eso[x]) (by simp [hlt]) hkv
      obtain ⟨k', hkey', hhash⟩ := hko eso[x] (Array.getElem_mem hlt)
      obtain rfl : k' = k := (mk prog w).inj _ _ _ hkey' hkey
      show wpAny _ _ (holding [eso[x].key, eso[x].val] (dictPut d eso[x].hash eso[x].key eso[x].val) >>= _) _ _ _
      rw [hhash, hval]
      have hmx : (merged kvs (more.take x)).length ≤ sizeLine := by
        have e1 := merged_length_le kvs (more.take x)
        have e2 : (more.take x).length ≤ more.length := by rw [List.length_take]; omega
        omega
      refine wpAny_bind (wpAny_holding (put_of hkey hd' (fun h'' hd'' hs'' => ?_) hmx))
      have hoo'' : h''.get? o = some oo := (hs''.2 o (Ne.symm hdo)).trans hoo'
      refine wpAny_bind (wpAny_dictEpoch hoo'' hdo' ?_)
      rw [if_neg (by simp)]
      exact wpAny_pure ⟨h'', x + 1, rfl, hrest, hlt, by rw [merged_take_succ kvs more x (k', v) hkv]; exact hd'', hoo'', hs'.trans hs''⟩
    · rintro b s' ⟨h', i, rfl, hr, hi, hd', hoo', hs'⟩
      have hin : i = eso.size := by
        rcases Nat.lt_or_ge i eso.size with h | h
        · have e : eso.size - i = (eso.size - (i + 1)) + 1 := by omega
          rw [e, List.range'_succ] at hr; exact nomatch hr
        · exact Nat.le_antisymm hi h
      refine wpAny_pure (hQ h' ?_ ⟨oo, eso, epo, hoo', hco, hdo', hko, hpo, hno⟩ hs')
      rw [hin, ← hlen, List.take_length] at hd'; exact hd'
  refine wpAny_bind (wpAny_dictEntries hod hdd ?_)
  split
  · refine wpAny_bind (wpAny_dictEntries hoo hdo' ?_)
    refine wpAny_bind ?_
    refine wpAny_mono (Q := fun _ s' => s' = s) ?_ (fun _ s' e => by subst e; exact loop) fun _ _ e => e
    have key : ∀ (l : List DictEntry), (∀ e ∈ l, e ∈ eso) → ∀ (f : DictEntry → PUnit → Sem (ForInStep PUnit)), (∀ e ∈ l, f e PUnit.unit = pure (.yield PUnit.unit)) → wpAny (model prog w) A (forIn l PUnit.unit f) (fun _ s' => s' = s) E s := by
      intro l
      induction l with
      | nil =>
        intro _ f _
        rw [List.forIn_nil]
        exact wpAny_pure rfl
      | cons e l ih =>
        intro hm f hf
        rw [List.forIn_cons, hf e List.mem_cons_self, pure_bind]
        exact ih (fun x hx => hm x (List.mem_cons_of_mem _ hx)) f fun x hx => hf x (List.mem_cons_of_mem _ hx)
    rw [← Array.forIn_toList]
    refine key eso.toList (fun e he => by simpa using he) _ fun e he => ?_
    have hn := notref e (by simpa using he)
    cases hk : e.key with
    | ref a => exact absurd hk (hn a)
    | _ => rfl
  · exact loop
theorem display_of {v1 kx v2 : Sem Value} {Q : Value → Shared → Prop}
    (h : wpAny (model prog w) A v1 (fun m s1 => wpAny (model prog w) A (mergeMapping s.heap.objs.size m false) (fun _ s2 => wpAny (model prog w) A (subDict [(kx, v2)]) (fun sub s3 => wpAny (model prog w) A (mergeMapping s.heap.objs.size (.ref sub) false) (fun _ s4 => Q (.ref s.heap.objs.size) s4) (fun _ _ => False) s3) E s2) (fun _ _ => False) s1) E
      { s with heap := s.heap.push { cls := .type "dict", data := .dict #[] } }) : wpAny (model prog w) A (dictDisplay [(none, v1), (some kx, v2)]) Q E s := by
  unfold dictDisplay
  simp only [List.forIn_cons, List.forIn_nil]
  refine wpAny_bind (wpAny_bind (wpAny_bind ?_))
  refine if_on rfl (wpAny_pure ?_)
  dsimp only
  refine wpAny_bind (wpAny_alloc ?_)
  refine wpAny_bind (wpAny_holding (wpAny_mono h (fun m s1 h1 => ?_) fun _ _ e => e))
  refine wpAny_bind (wpAny_onRaise (wpAny_tryCatch (wpAny_onRaise (wpAny_holding (wpAny_mono h1 (fun _ s2 h2 => ?_) fun _ _ e => e.elim)))))
  refine wpAny_pure ?_
  dsimp only
  refine wpAny_bind ?_
  refine PySem.W.KFB.if_not rfl ?_
  refine wpAny_pure ?_
  dsimp only
  refine wpAny_pure ?_
  dsimp only
  refine wpAny_bind ?_
  refine PySem.W.KFB.if_not rfl ?_
  refine wpAny_bind (wpAny_holding (wpAny_mono h2 (fun sub s3 h3 => ?_) fun _ _ e => e))
  refine wpAny_bind (wpAny_onRaise (wpAny_holding (wpAny_mono h3 (fun _ s4 h4 => ?_) fun _ _ e => e.elim)))
  refine wpAny_pure ?_
  exact wpAny_pure h4
end
/-! ### .. as a rule -/
def tMergeD (td tk tv : TE) : TE := fun σ H Q => ∀ p, H p = none → td σ (upd H p (.dK [])) fun x H1 => ∃ (a : Addr) (kvs : List (Key × V)), x = .ref a ∧ a ≠ p ∧ H1 a = some (.dK kvs) ∧ H1 p = some (.dK []) ∧ kvs.length < 1000 ∧
  ∀ q, H1 q = none → tk σ (upd (upd H1 p (.dK kvs)) q (.dK [])) fun y H2 => tv σ H2 fun z H3 => ∃ k, y = kV k ∧ H3 p = some (.dK kvs) ∧ H3 q = some (.dK []) ∧ Q (.ref p) (upd (upd H3 q (.dK [(k, z)])) p (.dK (putK kvs k z)))
section
variable {X : Cx} {pins : List (Addr × Obj)} {σ : L2.St} {H : Hp} {s : Shared}
theorem dk_at {a : Addr} {kvs : List (Key × V)} (I : Inv X pins σ H s) (h : H a = some (.dK kvs)) : kvs.length ≤ sizeLine ∧ (a == sysModules) = false ∧ ∃ vs, KV kvs vs ∧ s.heap.DictOf (mixKind X.prog X.w) a vs := I.hok a _ h
/-- a tracked dict is written -/
theorem dk_write {a : Addr} {kvs kvs' : List (Key × V)} {vs : List (Key × Value)} {h' : Heap} {t' : Nat} (I : Inv X pins σ H s) (ha : H a = some (.dK kvs)) (hz : kvs'.length ≤ sizeLine) (r : KV kvs' vs) (hd : h'.DictOf (mixKind X.prog X.w) a vs) (sb : Heap.SameBut a s.heap h') :
    Inv X pins σ (upd H a (.dK kvs')) { s with heap := h', toks := t' } := by
  obtain ⟨_, hs, _⟩ := dk_at I ha
  have he : ∃ u, h'.get? a = some u := by
    obtain ⟨o, _, _, ho, _⟩ := hd
    exact ⟨o, ho⟩
  exact I.write (e := a) (by rw [ha]; trivial) (.inl rfl) (fun b u hb hu => (sb.2 b hb).trans hu) he ⟨hz, hs, vs, r, hd⟩
theorem pe_dmerge {d k v : Expr} {td tk tv : TE} {pos : Pos} (hd : PE X d td) (hk : PE X k tk) (hv : PE X v tv)
    (hsh : (evalEachOpt [none, some k] X.env).zip ((evalEach [d, v] X.env).map fun v => do let x ← v; standAt pos; pure x) = [(none, do let x ← eval d X.env; standAt pos; pure x), (some (eval k X.env), do let x ← eval v X.env; standAt pos; pure x)] := by rfl) :
    PE X (.Dict [none, some k] [d, v] pos) (tMergeD td tk tv) := by
  refine ⟨fun pins s σ H Q I h => ?_⟩
  rw [arm_eval_Dict, hsh]
  refine wpAny_bind (wpAny_standAt (display_of ?_))
  have hfr := I.fresh
  have I1 : Inv X pins σ (upd H s.heap.objs.size (.dK [])) { s with heap := s.heap.push { cls := .type "dict", data := .dict #[] } } := I.laid (t' := s.toks) (fun _ _ q => Heap.get?_push_of_some _ q) (Nat.le_refl _) (dk_empty s.heap I.big)
  have h := h s.heap.objs.size hfr
  generalize s.heap.objs.size = p at *
  refine wpAny_bind (thn (hd.run pins _ σ _ _ I1 h) fun m s1 ⟨x, H1, I2, rx, a, kvs, ex, hap, ha, hp, hlt, q⟩ => wpAny_bind (wpAny_standAt (wpAny_pure ?_)))
  subst ex
  obtain rfl : m = Value.ref a := rx
  obtain ⟨hz, hsa, vs, rvs, dvs⟩ := dk_at I2 ha
  obtain ⟨_, hsp, vp, rvp, dvp⟩ := dk_at I2 hp
  cases rvp
  have hnd : (vs.map (·.1)).Nodup := by
    obtain ⟨o, es, ep, _, _, _, _, _, hn⟩ := dvs
    exact hn
  have hl := rvs.length
  have h1000 : (1000 : Nat) + 1000 ≤ sizeLine := by rw [sizeLine_eq]; decide
  refine merge_of (Ne.symm hap) hsa dvp dvs (fun h' hd1 _ sb => ?_) (by show 0 + vs.length ≤ sizeLine; omega)
  rw [merged_nil_of_nodup vs hnd] at hd1
  have I3 := dk_write (t' := s1.toks) I2 hp hz rvs hd1 sb
  -- the one pair
  refine wpAny_subDict (knd := mixKind X.prog X.w) (by show 1 ≤ 15; decide) ?_
  have hq := q _ (by
    have f := I3.fresh
    by_cases z : ({ s1 with heap := h', toks := s1.toks } : Shared).heap.objs.size = p
    · rw [z, upd_same] at f; cases f
    · rw [upd_ne z] at f; exact f)
  have I4 : Inv X pins σ (upd (upd H1 p (.dK kvs)) h'.objs.size (.dK [])) { s1 with heap := h'.push { cls := .type "dict", data := .dict #[] }, toks := s1.toks } := I3.laid (t' := s1.toks) (fun _ _ q => Heap.get?_push_of_some _ q) (Nat.le_refl _) (dk_empty h' I3.big)
  show wpAny _ _ (evalPairs _) _ _ { s1 with heap := h'.push { cls := .type "dict", data := .dict #[] }, toks := s1.toks }
  have hq' : tk σ (upd (upd H1 p (.dK kvs)) h'.objs.size (.dK [])) fun y H2 => tv σ H2 fun z H3 => ∃ k, y = kV k ∧ H3 p = some (.dK kvs) ∧ H3 h'.objs.size = some (.dK []) ∧ Q (.ref p) (upd (upd H3 h'.objs.size (.dK [(k, z)])) p (.dK (putK kvs k z))) := hq
  have hqp : h'.objs.size ≠ p := fun e => by
    have f : upd H1 p (.dK kvs) h'.objs.size = none := I3.fresh
    rw [e, upd_same] at f
    cases f
  show wpAny _ _ (evalPairs _) (fun vs s₁ => ∃ kvs, Carries (mixKind X.prog X.w) vs kvs ∧ s₁.heap.DictOf (mixKind X.prog X.w) h'.objs.size [] ∧ ∀ h'', h''.DictOf (mixKind X.prog X.w) h'.objs.size (merged [] kvs) → Heap.SameBut h'.objs.size s₁.heap h'' → _) _ _
  generalize h'.objs.size = g at *
  refine evalPairs_cons (thn (hk.run pins _ σ _ _ I4 hq') fun ku s5 ⟨y, H2, I5, ry, q5⟩ => ?_)
  refine wpAny_bind (thn (hv.run pins _ σ _ _ I5 q5) fun vu s6 ⟨zv, H3, I6, rz, k, ek, hp6, hg6, q6⟩ => wpAny_bind (wpAny_standAt (wpAny_pure ?_)))
  subst ek
  refine evalPairs_nil ⟨[(k, vu)], ⟨kV_keyIs ry, rfl, trivial⟩, ?_, fun h2 hd2 sb2 => ?_⟩
  · obtain ⟨_, _, vg, rvg, dvg⟩ := dk_at I6 hg6
    cases rvg
    exact dvg
  have em : merged [] [(k, vu)] = [(k, vu)] := rfl
  rw [em] at hd2
  have I7 := dk_write (t' := s6.toks + 1) (kvs' := [(k, zv)]) I6 hg6 (by show 1 ≤ sizeLine; rw [sizeLine_eq]; decide) (.cons ⟨rfl, rz⟩ .nil) hd2 sb2
  have hp7 : upd H3 g (.dK [(k, zv)]) p = some (.dK kvs) := by rw [upd_ne (Ne.symm hqp)]; exact hp6
  obtain ⟨_, _, vp7, rvp7, dvp7⟩ := dk_at I7 hp7
  obtain ⟨_, hsg, _⟩ := dk_at I7 (upd_same : upd H3 g (.dK [(k, zv)]) g = _)
  have hl7 := rvp7.length
  refine merge_of (Ne.symm hqp) hsg dvp7 hd2 (fun h3 hd3 _ sb3 => ?_) (by show vp7.length + 1 ≤ sizeLine; omega)
  have em2 : merged vp7 [(k, vu)] = stored vp7 k vu := rfl
  rw [em2] at hd3
  have I8 := dk_write (t' := s6.toks + 1) I7 hp7 (kvs' := putK kvs k zv) (by
    have h1 := (rvp7.put k rz).length
    have h2 := stored_length_le vp7 k vu
    omega) (rvp7.put k rz) hd3 sb3
  exact ⟨.ref p, _, I8, rfl, q6⟩
end
end K57
/-! R5 -/
namespace PySem.SeqAt
open PySem
open MeetsSeq MeetsSeq2 MeetsSeq3 SeqRoads2
section
variable {prog : Program} {w : World}
theorem k57_list_size (l b : Addr) (items items2 : Array Value) (n n2 : Nat) (dd dd2 : Option Addr) (sl sl2 : Array (Option Value)) (hsz : items.size ≠ items2.size) :
    MeetsIn prog w (Builtin.«list.__eq__» ⟨[.ref l, .ref b], []⟩)
      (fun A R s => s.heap.get? l = some { cls := .type "list", dict := dd, data := .seq items n, slots := sl } ∧ s.heap.get? b = some { cls := .type "list", dict := dd2, data := .seq items2 n2, slots := sl2 } ∧ R (.ok (.ret (.bool false))) s) := by
  intro A R s h
  obtain ⟨hp, g, d, tk, os⟩ := s; obtain ⟨hl, hb, h⟩ := h
  have f3 := AutoSeq1.sub_list_list
  have hne : (items.size != items2.size) = true := by simp [hsz]
  wp_walk using PySem.AutoSeq1.wpAny_loadPart' hl, PySem.AutoSeq1.wpAny_loadPart' hb
  exact h
theorem k57_sizes {A : Around} {s : Shared} {l b : Addr} {items items2 : Array Value} (hl : s.heap.IsList l items) (hb : s.heap.IsList b items2) (hsz : items.size ≠ items2.size) (hu : A.units < cLine)
    (E Q : Value → Shared → Prop) (h : Q (.bool false) s) : wpAny (model prog w) A (richCompare .Eq (.ref l) (.ref b)) Q E s := by
  obtain ⟨⟨cls, dd, data, sl⟩, ho, hc, n, hd⟩ := id hl
  obtain ⟨⟨cls2, dd2, data2, sl2⟩, ho2, hc2, n2, hd2⟩ := id hb
  simp only at hc hd hc2 hd2
  subst hc hd hc2 hd2
  have ta : s.TypeIs (.ref l) "list" := ⟨_, ho, rfl⟩
  have tb : s.TypeIs (.ref b) "list" := ⟨_, ho2, rfl⟩
  exact wpAny_richCompare_same_room (op := .Eq) ta tb F.slot_list_eq (call_meetsIn F.slot_list_eq ta F.entry_list_eq (F.args_list_eq_2 _ _) (k57_list_size l b items items2 n n2 dd dd2 sl sl2 hsz)
    ⟨ho, ho2, show Value.bool false ≠ Value.notImplemented ∧ Q (.bool false) s from ⟨(fun x => nomatch x), h⟩⟩) hu
end
end PySem.SeqAt
namespace K57
open PySem PySem.Spec PyProof.Rows L2 He
section
variable {X : Cx}
/-- xs == [] -/
def rEqN : R2 := fun x y H Q => ∃ a b xs, x = V.ref a ∧ y = V.ref b ∧ H a = some (.lst xs) ∧ H b = some (.lst []) ∧ Q (.bl xs.isEmpty) H
theorem op_eqN (hu : X.A.units < cLine) : OpR X (compareOp .Eq) rEqN := by
  intro pins s σ H x y v u Q I rx ry h
  obtain ⟨a, b, xs, rfl, rfl, ha, hb, q⟩ := h
  cases rx
  cases ry
  obtain ⟨its, rv, pl, hz⟩ := I.list (SqL.of ha)
  obtain ⟨its2, rv2, pl2, _⟩ := I.list (SqL.of hb)
  cases rv2
  show wpAny _ _ (richCompare .Eq (.ref a) (.ref b)) _ _ _
  cases xs with
  | nil =>
    cases rv
    exact SeqAt.rcP_lists (e := fun _ => true) pl.isList pl2.isList rfl hu (fun j h1 _ => absurd h1 (by simp)) _ _ ⟨.bl true, H, I, rfl, q⟩
  | cons x xs =>
    cases rv with
    | cons r t => exact SeqAt.k57_sizes pl.isList pl2.isList (by simp) hu _ _ ⟨.bl false, H, I, rfl, q⟩
/-- d != {} -/
def rNeE : R2 := fun x y H Q => ∃ a b ks, x = V.ref a ∧ y = V.ref b ∧ H a = some (.dK ks) ∧ H b = some (.dK []) ∧ Q (.bl (!ks.isEmpty)) H
theorem op_neE (hu : X.A.units < cLine) : OpR X (compareOp .NotEq) rNeE := by
  intro pins s σ H x y v u Q I rx ry h
  obtain ⟨a, b, ks, rfl, rfl, ea, eb, q⟩ := h
  cases rx
  cases ry
  obtain ⟨_, ya, va, ra, da⟩ := dk_at I ea
  obtain ⟨_, yb, vb, rb, db⟩ := dk_at I eb
  cases rb
  have hl := ra.length
  cases ks with
  | nil =>
    cases ra
    exact PySem.W.keq_ne (knd := mixKind X.prog X.w) (r := true) ya yb da db hu (fun _ => hits_all (ks := []) .nil .nil (fun p hp => nomatch hp)) (fin_bl I q (by simp))
  | cons k ks =>
    refine PySem.W.keq_ne (knd := mixKind X.prog X.w) (r := true) ya yb da db hu (fun z => ?_) (fin_bl I q ?_)
    · rw [z] at hl
      cases hl
    · have : va.length ≠ 0 := by rw [← hl]; simp
      simp [this]
/-! ### y = {k: v for x in xs}, a statement of its own -/
theorem ps_setDc {i : Nat} {y : Str} {py : Pos} {kx vx tg iter : Expr} {ifs : List Expr} {scope : Scope} {own : List (Str × Nat)} {pos spos : Pos} {wi : TI} {g : TG} {tt : TT} {tk tv : TE} (hc : X.calm = true) (hN : X.N.Nodup) (hy : X.N[i]? = some y) (hyl : X.env.scope.names.lookup y = some .local)
    (hsw : swapsWith (.DictComp kx vx [⟨tg, iter, ifs, 0⟩] scope pos) (some (.Name y py)) spos.line X.env = pure true) (hi : PI X tg iter wi) (ok : BlkOk X.N X.env.scope scope own)
    (hg : ∀ (s : Shared) (H : Hp) (C : Addr) (cl : List (Str × Addr)) (fp : List Addr), PG (X.blk s H scope (compEnvC scope cl C X.env) fp) tg g) (ht : ∀ (s : Shared) (H : Hp) (C : Addr) (cl : List (Str × Addr)) (fp : List Addr), PTs (X.blk s H scope (compEnvC scope cl C X.env) fp) ifs tt)
    (hk : ∀ (s : Shared) (H : Hp) (C : Addr) (cl : List (Str × Addr)) (fp : List Addr), PE (X.blk s H scope (compEnvC scope cl C X.env) fp) kx tk)
    (he : ∀ (s : Shared) (H : Hp) (C : Addr) (cl : List (Str × Addr)) (fp : List Addr), PE (X.blk s H scope (compEnvC scope cl C X.env) fp) vx tv) (hs : ∀ x, foldedSetIterable iter X.env x = pure x := by intro _; rfl) :
    PS X (.Assign [.Name y py] (.DictComp kx vx [⟨tg, iter, ifs, 0⟩] scope pos) spos) (tAsg (tDc wi g tt tk tv (own.map (·.2))) (gName i)) := by
  refine ⟨fun pins s σ H D I h => ?_⟩
  rw [exec_Assign_Name_used _ _ _ _ hsw]
  refine wpAny_bind (wpAny_standAt (wpAny_bind ?_))
  show wpAny _ X.A (do let _ ← comprehension (.DictComp kx vx [⟨tg, iter, ifs, 0⟩] scope pos) scope X.env (firstIterPos [⟨tg, iter, ifs, 0⟩] pos) newDict false (eval iter X.env) (some (assign (.Name y py) X.env))) _ _ s
  have h : tDc wi g tt tk tv (own.map (·.2)) σ H (fun x H1 => gName i x σ H1 D.nx) := h
  refine wpAny_bind (thn (dc_core (Qf := fun _ s' => SP X pins D .next s') hc hN I hi ok hg ht hk he hs h fun L C s' m H' I' q hn f => ?_) fun _ s' hq => wpAny_pure (wpAny_pure hq))
  show wpAny _ _ (assign (.Name y py) X.env (.ref L)) _ _ _
  refine wpAny_assign_Name (store_ok2 (v := V.ref L) I' hN hy (.inl hyl) rfl (fun s2 I2 ⟨a, sb, ha⟩ => ?_) (.inr hyl))
  obtain ⟨f0, f1, f2, f3, f4, f5⟩ := f
  have haC : C ≠ a := by
    rcases ha with z | z
    · rw [z]; exact f1
    · exact fun e => f4 y a z e.symm
  refine ⟨m, hn.sameBut sb haC, fun h3 sb3 => ?_⟩
  exact ⟨_, H', I2.turned (t' := s2.toks) (fun b o hb e => (sb3.2 b hb).trans e) f0 f1 f3 f4 f5, q⟩
theorem sw_trueD {kx vx : Expr} {gs : List Comprehension} {scope : Scope} {pos py : Pos} {y : Str} {l : Nat} {env : Env} (hk : env.scope.kind = .function) (hy : env.scope.names.lookup y = some .local) (hl : (py.line == pos.line) = true)
    (ha : (scope.names.any fun (n, k) => n == y && (k == .local || k == .cell)) = false) : swapsWith (.DictComp kx vx gs scope pos) (some (.Name y py)) l env = pure true := by
  have ky : env.kindOf y = some .local := hy
  have hb : env.blockKind = .function := by unfold Env.blockKind; rw [hk]; rfl
  unfold swapsWith
  simp only [hb, ky, ha, Expr.pos, hl]
  rfl
end
end K57
/-! D10 -/
namespace K57
open PySem PySem.Spec PyProof.Rows L2 He
abbrev State : Type := List (Str × Thing)
/-! ### the bench as it stands -/
def bFs (n : Int) (th pa : Addr) : List (Str × V) := [("own_size", .int n), ("things", .ref th), ("past", .ref pa)]
def BenchAt (K : PySem.W.Frag) (H : Hp) (b : Addr) (n : Int) (th pa : Addr) : Prop := ∃ dx, H b = some (.ins (ga K "Bench") dx (bFs n th pa))
theorem b_size {n : Int} {th pa : Addr} : List.lookup ("own_size" : Str) (bFs n th pa) = some (V.int n) := by simp [bFs, List.lookup]
theorem s_ne {x y : String} (h : (Str.ofString x == Str.ofString y) = false) : (Str.ofString x == Str.ofString y) = false := h
theorem b_things {n : Int} {th pa : Addr} : List.lookup ("things" : Str) (bFs n th pa) = some (V.ref th) := by
  have h : (Str.ofString "things" == Str.ofString "own_size") = false := by decide +kernel
  simp [bFs, List.lookup, h]
theorem b_past {n : Int} {th pa : Addr} : List.lookup ("past" : Str) (bFs n th pa) = some (V.ref pa) := by
  have h : (Str.ofString "past" == Str.ofString "own_size") = false := by decide +kernel
  have h2 : (Str.ofString "past" == Str.ofString "things") = false := by decide +kernel
  simp [bFs, List.lookup, h, h2]
theorem put_things {n : Int} {th th' pa : Addr} : putF "things" (.ref th') (bFs n th pa) = bFs n th' pa := by
  have h : ¬ (Str.ofString "own_size" = Str.ofString "things") := by decide +kernel
  simp [bFs, putF, h]
theorem put_past {n : Int} {th pa pa' : Addr} : putF "past" (.ref pa') (bFs n th pa) = bFs n th pa' := by
  have h : ¬ (Str.ofString "own_size" = Str.ofString "past") := by decide +kernel
  have h2 : ¬ (Str.ofString "things" = Str.ofString "past") := by decide +kernel
  simp [bFs, putF, h, h2]
def PDict (K : PySem.W.Frag) (G : Hp) (n : Nat) (kvs : List (Key × V)) (st : State) : Prop := Paired (fun (p : Key × V) (q : Str × Thing) => p.1 = Sum.inr q.1 ∧ PT K G n p.2 q.2) kvs st
def PDictAt (K : PySem.W.Frag) (G : Hp) (n : Nat) (v : V) (st : State) : Prop := ∃ th kvs, v = .ref th ∧ G th = some (.dK kvs) ∧ PDict K G n kvs st
def PPast (K : PySem.W.Frag) (G : Hp) (n : Nat) (vs : List V) (sts : List State) : Prop := Paired (PDictAt K G n) vs sts
theorem PDict.mono {K : PySem.W.Frag} {G G' : Hp} {n : Nat} {kvs : List (Key × V)} {st : State} (s : Same G G') (h : PDict K G n kvs st) : PDict K G' n kvs st := Paired.mapP h fun p q z => ⟨z.1, z.2.mono s⟩
theorem PDictAt.mono {K : PySem.W.Frag} {G G' : Hp} {n : Nat} {v : V} {st : State} (s : Same G G') (h : PDictAt K G n v st) : PDictAt K G' n v st := by
  obtain ⟨th, kvs, e, h1, h2⟩ := h
  exact ⟨th, kvs, e, s _ _ h1, h2.mono s⟩
theorem PPast.mono {K : PySem.W.Frag} {G G' : Hp} {n : Nat} {vs : List V} {sts : List State} (s : Same G G') (h : PPast K G n vs sts) : PPast K G' n vs sts := Paired.mapP h fun p q z => z.mono s
theorem PDict.keys {K : PySem.W.Frag} {G : Hp} {n : Nat} : ∀ {kvs : List (Key × V)} {st : State}, PDict K G n kvs st → kvs.map (·.1) = (st.map (·.1)).map Sum.inr
  | _, _, .nil => rfl
  | _, _, .cons h r => congr (congrArg List.cons h.1) (PDict.keys r)
theorem PDict.length {K : PySem.W.Frag} {G : Hp} {n : Nat} {kvs : List (Key × V)} {st : State} (h : PDict K G n kvs st) : kvs.length = st.length := Paired.length h
theorem PDict.look {K : PySem.W.Frag} {G : Hp} {n : Nat} : ∀ {kvs : List (Key × V)} {st : State} (x : Str), PDict K G n kvs st →
    (∃ v th, valV kvs (Sum.inr x) = some v ∧ st.lookup x = some th ∧ PT K G n v th) ∨ (valV kvs (Sum.inr x) = none ∧ st.lookup x = none)
  | _, _, _, .nil => .inr ⟨rfl, rfl⟩
  | (k, v) :: kvs, (y, th) :: st, x, .cons h r => by
    have e : k = Sum.inr y := h.1
    subst e
    by_cases z : y = x
    · subst z
      exact .inl ⟨v, th, valV_pos rfl, by simp [List.lookup], h.2⟩
    · have e1 : ¬ (Sum.inr y : Key) = Sum.inr x := fun q => z (Sum.inr.inj q)
      have e2 : (x == y) = false := beq_eq_false_iff_ne.mpr fun q => z q.symm
      rw [valV_neg e1]
      rcases PDict.look x r with ⟨v', th', h1, h2, h3⟩ | ⟨h1, h2⟩
      · exact .inl ⟨v', th', h1, by simp [List.lookup, e2, h2], h3⟩
      · exact .inr ⟨h1, by simp [List.lookup, e2, h2]⟩
/-- the bench, its states: sts behind, st now -/
structure BSt (K : PySem.W.Frag) (G H : Hp) (b : Addr) (n : Nat) (sts : List State) (st : State) : Prop where
  ex : ∃ th pa vs kvs, BenchAt K H b n th pa ∧ G th = some (.dK kvs) ∧ PDict K G n kvs st ∧ G pa = some (.lst vs) ∧ PPast K G n vs sts
theorem BSt.mono {K : PySem.W.Frag} {G G' H H' : Hp} {b : Addr} {n : Nat} {sts : List State} {st : State} (s : Same G G') (hb : ∀ o, H b = some o → H' b = some o) (h : BSt K G H b n sts st) : BSt K G' H' b n sts st := by
  obtain ⟨th, pa, vs, kvs, ⟨dx, h1⟩, h2, h3, h4, h5⟩ := h.ex
  exact ⟨th, pa, vs, kvs, ⟨dx, hb _ h1⟩, s _ _ h2, h3.mono s, s _ _ h4, h5.mono s⟩
section
variable {P : Program} {w : World} {K : PySem.W.Frag} {mg : Str → Option Value} {base : Heap}
/-! ### Bench(size) -/
def spBenchI (K : PySem.W.Frag) : Sp := fun vs H Q _ => ∃ (x dx : Addr) (n : Int), vs = [.ref x, .int n] ∧ 1 ≤ n ∧ n ≤ 60 ∧ H x = some (.ins (ga K "Bench") dx []) ∧
  ∀ H1 th pa, (∀ b o, b ≠ x → H b = some o → H1 b = some o) → H th = none → H pa = none → th ≠ pa → H1 th = some (.dK []) → H1 pa = some (.lst []) → H1 x = some (.ins (ga K "Bench") dx (bFs n th pa)) → Q .non H1
theorem sc_Bench_init : FnScope ["self", "size"] ["self", "size"] (defScope sBenchInit) := ⟨rfl, rfl, rfl, by decide +kernel, rfl, by decide +kernel, by decide +kernel⟩
theorem ok_Bench_init (T : Txt K mg) : FnOk P w K mg base CX0 3 (ma K (ga K "Bench") "__init__") (fdAt K (ma K (ga K "Bench") "__init__")) ["self", "size"] (spBenchI K) := by
  refine T.f_Bench_init.ok sc_Bench_init (fun vs H Q E h => ?_) (fun cdv A outer s H vs Q E hr h => ?_)
  · obtain ⟨x, dx, n, rfl, _⟩ := h
    rfl
  obtain ⟨x, dx, n, rfl, h1, h2, hx, q⟩ := h
  refine ⟨_, PSs.nox (pss_cons (ps_expr (c_need_size T (hr.mono (by decide)) (pa_cons (pv 1) pa_nil)))
    (pss_cons (ps_fld (pv 0) (pv 1) rfl)
    (pss_cons (ps_fld (pv 0) pe_dnewK rfl)
    (pss_one (ps_fld (pv 0) (pe_lst pa_nil) rfl))))), ?_⟩
  refine ⟨_, rfl, n, rfl, h1, h2, ?_⟩
  refine ⟨_, rfl, _, rfl, x, _, _, _, rfl, hx, T.ins_Bench.cl, T.n_Bench_own_size, (by decide), ?_⟩
  refine fun th nth => ?_
  have thx : th ≠ x := fun z => by rw [z, upd_same] at nth; cases nth
  refine ⟨_, rfl, x, _, _, _, rfl, (by rw [upd_ne (Ne.symm thx), upd_same]), T.ins_Bench.cl, T.n_Bench_things, (by show 1 < 1000; decide), ?_⟩
  refine ⟨Nat.zero_le _, fun pa npa => ?_⟩
  have pax : pa ≠ x := fun z => by rw [z, upd_same] at npa; cases npa
  have path : pa ≠ th := fun z => by rw [z, upd_ne thx, upd_same] at npa; cases npa
  refine ⟨_, rfl, x, _, _, _, rfl, (by rw [upd_ne (Ne.symm pax), upd_same]), T.ins_Bench.cl, T.n_Bench_past, (by show 2 < 1000; decide), ?_⟩
  have e1 : putF "past" (.ref pa) (putF "things" (.ref th) (putF "own_size" (V.int n) [])) = bFs n th pa := by
    have h : ¬ (Str.ofString "own_size" = Str.ofString "past") := by decide +kernel
    have h2 : ¬ (Str.ofString "things" = Str.ofString "past") := by decide +kernel
    have h3 : ¬ (Str.ofString "own_size" = Str.ofString "things") := by decide +kernel
    simp [bFs, putF, h, h2, h3]
  have nth' : H th = none := by rw [upd_ne thx] at nth; exact nth
  have npa' : H pa = none := by rw [upd_ne pax, upd_ne path, upd_ne pax] at npa; exact npa
  refine q _ th pa (fun b o hb e => ?_) nth' npa' (Ne.symm path) ?_ ?_ (by rw [upd_same, e1])
  · rw [upd_ne hb, upd_ne (fun z => by rw [z, npa'] at e; cases e), upd_ne hb, upd_ne (fun z => by rw [z, nth'] at e; cases e), upd_ne hb]
    exact e
  · rw [upd_ne thx, upd_ne (Ne.symm path), upd_ne thx, upd_same]
  · rw [upd_ne pax, upd_same]
/-! ### size, deeds, len -/
theorem sc_Bench_size : FnScope ["self"] ["self"] (defScope sBenchSize) := ⟨rfl, rfl, rfl, by decide +kernel, rfl, by decide +kernel, by decide +kernel⟩
theorem ok_Bench_size (T : Txt K mg) : FnOk P w K mg base CX0 1 (pAd K "Bench" "size") (fdAt K (pAd K "Bench" "size")) ["self"] (getSp (ga K "Bench") "own_size") := by
  refine T.f_Bench_size.ok sc_Bench_size (fun vs H Q E h => ?_) (fun cdv A outer s H vs Q E hr h => ?_)
  · obtain ⟨a, dx, fs, v, rfl, _⟩ := h
    rfl
  obtain ⟨a, dx, fs, v, rfl, ha, hl, q⟩ := h
  exact ⟨_, PSs.nox (pss_one (ps_ret (pe_fld (pv 0) rfl))), _, rfl, a, _, _, _, _, rfl, ha, T.ins_Bench.cl, T.n_Bench_own_size, hl, q⟩
def spDeeds (K : PySem.W.Frag) : Sp := fun vs H Q _ => ∃ b n th pa xs, vs = [.ref b] ∧ BenchAt K H b n th pa ∧ H pa = some (.lst xs) ∧ Q (.int xs.length) H
theorem sc_Bench_deeds : FnScope ["self"] ["self"] (defScope sBenchDeeds) := ⟨rfl, rfl, rfl, by decide +kernel, rfl, by decide +kernel, by decide +kernel⟩
theorem ok_Bench_deeds (T : Txt K mg) : FnOk P w K mg base CX0 1 (pAd K "Bench" "deeds") (fdAt K (pAd K "Bench" "deeds")) ["self"] (spDeeds K) := by
  refine T.f_Bench_deeds.ok sc_Bench_deeds (fun vs H Q E h => ?_) (fun cdv A outer s H vs Q E hr h => ?_)
  · obtain ⟨b, n, th, pa, xs, rfl, _⟩ := h
    rfl
  obtain ⟨b, n, th, pa, xs, rfl, ⟨dx, hb⟩, hp, q⟩ := h
  exact ⟨_, PSs.nox (pss_one (ps_ret (b_len call_len_seq T (pa_cons (pe_fld (pv 0) rfl) pa_nil)))), _, rfl, b, _, _, _, _, rfl, hb, T.ins_Bench.cl, T.n_Bench_past, b_past, pa, xs, rfl, .inl (SqL.of hp), q⟩
def spBLen (K : PySem.W.Frag) : Sp := fun vs H Q _ => ∃ b n th pa kvs, vs = [.ref b] ∧ BenchAt K H b n th pa ∧ H th = some (.dK kvs) ∧ Q (.int kvs.length) H
theorem sc_Bench_len : FnScope ["self"] ["self"] (defScope sBenchLen) := ⟨rfl, rfl, rfl, by decide +kernel, rfl, by decide +kernel, by decide +kernel⟩
theorem ok_Bench_len (T : Txt K mg) : FnOk P w K mg base CX0 1 (ma K (ga K "Bench") "__len__") (fdAt K (ma K (ga K "Bench") "__len__")) ["self"] (spBLen K) := by
  refine T.f_Bench_len.ok sc_Bench_len (fun vs H Q E h => ?_) (fun cdv A outer s H vs Q E hr h => ?_)
  · obtain ⟨b, n, th, pa, kvs, rfl, _⟩ := h
    rfl
  obtain ⟨b, n, th, pa, kvs, rfl, ⟨dx, hb⟩, hp, q⟩ := h
  exact ⟨_, PSs.nox (pss_one (ps_ret (b_len call_lenD T (pa_cons (pe_fld (pv 0) rfl) pa_nil)))), _, rfl, b, _, _, _, _, rfl, hb, T.ins_Bench.cl, T.n_Bench_things, b_things, th, kvs, rfl, hp, q⟩
/-! ### value in bench -/
def hasB (kvs : List (Key × V)) : PyData → Bool
  | .str x => (valV kvs (Sum.inr x)).isSome
  | _ => false
def spBIn (K : PySem.W.Frag) : Sp := fun vs H Q _ => ∃ b n th pa kvs v d, vs = [.ref b, v] ∧ BenchAt K H b n th pa ∧ H th = some (.dK kvs) ∧ Dq H v d ∧ Q (.bl (hasB kvs d)) H
theorem sc_Bench_contains : FnScope ["self", "value"] ["self", "value"] (defScope sBenchContains) := ⟨rfl, rfl, rfl, by decide +kernel, rfl, by decide +kernel, by decide +kernel⟩
theorem ok_Bench_contains (T : Txt K mg) : FnOk P w K mg base CX0 1 (ma K (ga K "Bench") "__contains__") (fdAt K (ma K (ga K "Bench") "__contains__")) ["self", "value"] (spBIn K) := by
  refine T.f_Bench_contains.ok sc_Bench_contains (fun vs H Q E h => ?_) (fun cdv A outer s H vs Q E hr h => ?_)
  · obtain ⟨b, n, th, pa, kvs, v, d, rfl, _⟩ := h
    rfl
  obtain ⟨b, n, th, pa, kvs, v, d, rfl, ⟨dx, hb⟩, hp, hv, q⟩ := h
  refine ⟨_, PSs.nox (pss_one (ps_ret (pe_and (b_isinstance call_isi T (pa_cons (pv 1) (pa_cons (n_str T) pa_nil))) (pe_one (pe_cmp (pc_din (hu_of hr) (pv 1) (pe_fld (pv 0) rfl))))))), ?_⟩
  refine ⟨_, rfl, _, _, _, _, _, rfl, .ty _, hv.ty, kit_dt "str" (by simp) d, _, rfl, ?_⟩
  cases hv with
  | str x =>
    refine iteB (fun _ => ?_) (fun c => nomatch c)
    exact ⟨_, rfl, _, rfl, b, _, _, _, _, rfl, hb, T.ins_Bench.cl, T.n_Bench_things, b_things, th, _, rfl, DGet.k (k := Sum.inr x) hp, q⟩
  | _ => exact iteB (fun c => nomatch c) (fun _ => q)
end
end K57
/-! D11 -/
namespace K57
open PySem PySem.Spec PyProof.Rows L2 He
def kindS : Kd → Str
  | .net => "network"
  | .ord => "order"
  | .tst => "tests"
theorem bm_none {n : Int} {th pa : Addr} {m : Str} (h1 : (m == Str.ofString "own_size") = false) (h2 : (m == Str.ofString "things") = false) (h3 : (m == Str.ofString "past") = false) : List.lookup m (bFs n th pa) = none := by
  simp [bFs, List.lookup, h1, h2, h3]
section
variable {P : Program} {w : World} {K : PySem.W.Frag} {mg : Str → Option Value} {base : Heap}
/-! ### thing_of -/
def spThingOf (K : PySem.W.Frag) : Sp := fun vs H Q E => ∃ b n th pa kvs x, vs = [.ref b, .str x] ∧ BenchAt K H b n th pa ∧ H th = some (.dK kvs) ∧ (∀ v, valV kvs (Sum.inr x) = some v → Q v H) ∧
  (valV kvs (Sum.inr x) = none → ∀ e, H e = none → E (.ref (ga K "UnknownName")) (some e) (upd H e (.xd [("name", .str x)])))
theorem sc_Bench_thing_of : FnScope ["self", "name"] ["self", "name"] (defScope sBenchThingOf) := ⟨rfl, rfl, rfl, by decide +kernel, rfl, by decide +kernel, by decide +kernel⟩
theorem ok_Bench_thing_of (T : Txt K mg) : FnOk P w K mg base (L2.CX P w) 3 (ma K (ga K "Bench") "thing_of") (fdAt K (ma K (ga K "Bench") "thing_of")) ["self", "name"] (spThingOf K) := by
  refine T.f_Bench_thing_of.ok sc_Bench_thing_of (fun vs H Q E h => ?_) (fun cdv A outer s H vs Q E hr h => ?_)
  · obtain ⟨b, n, th, pa, kvs, x, rfl, _⟩ := h
    rfl
  obtain ⟨b, n, th, pa, kvs, x, rfl, ⟨dx, hb⟩, hp, good, bad⟩ := h
  refine ⟨_, (pss_cons (ps_if (PW.pt (pw_or (pt_not (pt_val (b_isinstance call_isi T (pa_cons (pv 1) (pa_cons (n_str T) pa_nil))))) (pw_or1 (pt_cmp (pc_dnotin (hu_of hr) (pv 1) (pe_fld (pv 0) rfl)))))) (pss_one (r_UnknownName T (hr.mono (by decide)) (takes_of rfl rfl rfl rfl) (pa_cons (pv 1) pa_nil) (mono_var _))) pss_nil)
    (pss_one (ps_ret (pe_dget (hu_of hr) (pe_fld (pv 0) rfl) (pv 1) (fun _ _ => rfl))))), ?_⟩
  refine ⟨_, rfl, _, _, _, _, _, rfl, .ty _, .base (.str x), kit_dt "str" (by simp) (.str x), _, rfl, ?_⟩
  refine iteB (fun c => nomatch c) (fun _ => ?_)
  refine ⟨_, rfl, _, rfl, b, _, _, _, _, rfl, hb, T.ins_Bench.cl, T.n_Bench_things, b_things, th, _, rfl, DGet.k (k := Sum.inr x) hp, _, rfl, ?_⟩
  cases hv : valV kvs (Sum.inr x) with
  | none => exact iteT ⟨_, rfl, _, rfl, fun e ne => bad hv e ne⟩
  | some v =>
    refine iteF ?_
    exact ⟨_, rfl, b, _, _, _, _, rfl, hb, T.ins_Bench.cl, T.n_Bench_things, b_things, _, rfl, th, v, rfl, hv ▸ DGet.k (k := Sum.inr x) hp, good v hv⟩
theorem bd_Bench_thing_of {K : PySem.W.Frag} {mg : Str → Option Value} (T : Txt K mg) : Binds K (fdAt K (ma K (ga K "Bench") "thing_of")) ["self", "name"] [] := T.f_Bench_thing_of.bindsN fun _ _ _ _ _ _ us hl => match us, hl with | [_, _], _ => rfl
theorem m_thing_of {X : Cx} {E : XK} {o e : Expr} {ta : TE} {es : List Expr} {t : TA} {apos pos : Pos} {pl : Sem Bool} (T : Txt X.K X.mg) (hr : Room 3 X.A) (hx : Passes (L2.CX X.prog X.w) X E) (ho : PE X o ta) (ha : PA X (e :: es) t) (hst : starEach (e :: es) X.env = (false, eval e X.env) :: starEach es X.env := by rfl) (hpl : (backTo pos (starEach es X.env)).any (·.1) = false := by rfl)
    (ht : eval (.Call (.Attribute o "thing_of" apos) (e :: es) [] pos) X.env = (do
      let ov ← eval o X.env
      standAt apos.atName
      let (f, first) ← holding [ov] (getMethod ov "thing_of" pl)
      callWith pos f first (backTo pos (starEach (e :: es) X.env)) (backToKw pos (keywordEach [] X.env))) := by rfl) :
    PE X (.Call (.Attribute o "thing_of" apos) (e :: es) [] pos) (tMeth (ga X.K "Bench") "thing_of" ((spThingOf X.K)) [] E ta t) := pe_meth (pl := pl) ho T.ins_Bench.cl T.m_Bench_thing_of (ok_Bench_thing_of T) hr (bd_Bench_thing_of T) .nil hx ha hst hpl ht
/-! ### names -/
def spNames (K : PySem.W.Frag) : Sp := fun vs H Q _ => ∃ b n th pa kvs ks, vs = [.ref b] ∧ BenchAt K H b n th pa ∧ H th = some (.dK kvs) ∧ kvs.map (·.1) = ks.map Sum.inr ∧ ks.length < 64 ∧
  ∀ ys p H1, Same H H1 → List.Perm ys ks → sortedS ys = true → H p = none → H1 p = some (.lst (ys.map V.str)) → Q (.ref p) H1
theorem sc_Bench_names : FnScope ["self", "name"] ["self"] (defScope sBenchNames) := ⟨rfl, rfl, rfl, by decide +kernel, rfl, by decide +kernel, by decide +kernel⟩
theorem ok_Bench_names (T : Txt K mg) : FnOk P w K mg base CX0 1 (ma K (ga K "Bench") "names") (fdAt K (ma K (ga K "Bench") "names")) ["self"] (spNames K) := by
  refine T.f_Bench_names.ok sc_Bench_names (fun vs H Q E h => ?_) (fun cdv A outer s H vs Q E hr h => ?_)
  · obtain ⟨b, n, th, pa, kvs, ks, rfl, _⟩ := h
    rfl
  obtain ⟨b, n, th, pa, kvs, ks, rfl, ⟨dx, hb⟩, hp, hks, hlt, q⟩ := h
  refine ⟨_, PSs.nox (pss_one (ps_ret (b_sorted cr_sortedS T (pa_cons (pe_lock (pe_lc (own := [("name", 1)]) rfl sc_Bench_names.nd (pi_keys (pe_fld (pv 0) rfl)) (blkOk_by (N := ["self", "name"]) (sc := defScope sBenchNames) (by decide +kernel)) (fun _ _ _ _ _ => pg_name (i := 1) sc_Bench_names.nd rfl (Or.inl rfl)) (fun _ _ _ _ _ => pts_nil) (fun _ _ _ _ _ => (pv 1)))) pa_nil)))), ?_⟩
  refine ⟨th, _, hp, trivial, fun od => ?_⟩
  have hbt : b ≠ th := ne_of hb hp (by intro z; cases z)
  refine ⟨_, rfl, b, _, _, _, _, rfl, (by rw [upd_ne hbt]; exact hb), T.ins_Bench.cl, T.n_Bench_things, b_things, th, od, rfl, .inl ⟨kvs, upd_same, fun D nD => ?_⟩⟩
  have thD : th ≠ D := fun z => by rw [z, upd_same] at nD; cases nD
  have nDH : H D = none := by rw [upd_ne (Ne.symm thD)] at nD; exact nD
  have hlen : kvs.length = ks.length := by
    have := congrArg List.length hks
    rw [List.length_map, List.length_map] at this
    exact this
  refine lc_it walk_keys (fun i H' => H' = upd (upd H th (.frz od (.dK kvs))) D (.lst ((ks.take i).map V.str))) rfl ?_ ?_ ?_
  · rintro i H' _ rfl
    rw [upd_ne thD, upd_same]
  · rintro i v _ H' hi rfl ⟨rfl, k, u, e1, e2⟩
    have e3 : ks[i]? = some (ks[i]'(by omega)) := List.getElem?_eq_getElem _
    have e4 : k = Sum.inr (ks[i]'(by omega)) := by
      have h1 : (kvs.map (·.1))[i]? = (ks.map Sum.inr)[i]? := by rw [hks]
      rw [List.getElem?_map, List.getElem?_map, e1, e3] at h1
      exact Option.some.inj h1
    subst e2
    refine ⟨rfl, yes_if ?_⟩
    refine ⟨_, rfl, _, upd_same, ?_, ?_⟩
    · rw [List.length_map, List.length_take]
      exact Nat.lt_of_le_of_lt (Nat.min_le_left _ _) (Nat.lt_trans (by omega : i < 64) (by decide))
    · rw [upd_upd, take_succ_get e3, List.map_append, e4]
      rfl
  · rintro H' rfl
    refine ⟨by rw [upd_ne thD, upd_same], ?_⟩
    have e8 : upd (upd (upd H th (.frz od (.dK kvs))) D (.lst ((ks.take kvs.length).map V.str))) th (.dK kvs) = upd H D (.lst (ks.map V.str)) := by
      rw [hlen, List.take_length]
      funext c
      by_cases h1 : c = th
      · subst h1
        rw [upd_same, upd_ne thD]
        exact hp.symm
      · rw [upd_ne h1]
        by_cases h2 : c = D
        · subst h2; rw [upd_same, upd_same]
        · rw [upd_ne h2, upd_ne h2, upd_ne h1]
    rw [e8]
    refine ⟨D, ks, rfl, SqL.of upd_same, hlt, fun ys p hperm hsort np => ?_⟩
    have s1 : Same H (upd H D (.lst (ks.map V.str))) := same_new nDH
    exact q ys p _ (s1.trans (same_new np)) hperm hsort (s1.free np) upd_same
theorem bd_Bench_names {K : PySem.W.Frag} {mg : Str → Option Value} (T : Txt K mg) : Binds K (fdAt K (ma K (ga K "Bench") "names")) ["self"] [] := T.f_Bench_names.bindsN fun _ _ _ _ _ _ us hl => match us, hl with | [_], _ => rfl
theorem m_names {X : Cx} {o : Expr} {ta : TE} {apos pos : Pos} {pl : Sem Bool} (T : Txt X.K X.mg) (hr : Room 1 X.A) (ho : PE X o ta)
    (ht : eval (.Call (.Attribute o "names" apos) [] [] pos) X.env = (do
      let ov ← eval o X.env
      standAt apos.atName
      let (f, first) ← holding [ov] (getMethod ov "names" pl)
      callWith pos f first (backTo pos (starEach [] X.env)) (backToKw pos (keywordEach [] X.env))) := by rfl) :
    PE X (.Call (.Attribute o "names" apos) [] [] pos) (tMeth (ga X.K "Bench") "names" ((spNames X.K)) [] E0 ta tNil) := pe_meth0 (pl := pl) ho T.ins_Bench.cl T.m_Bench_names (ok_Bench_names T) hr (bd_Bench_names T) .nil pass0 ht
/-! ### kind -/
def spKind (K : PySem.W.Frag) : Sp := fun vs H Q _ => ∃ b n th pa kvs x v, ∃ (G : Hp) (m : Nat) (t : Thing), vs = [.ref b, .str x] ∧ BenchAt K H b n th pa ∧ H th = some (.dK kvs) ∧ valV kvs (Sum.inr x) = some v ∧ Same G H ∧ PT K G m v t ∧ Q (.str (kindS t.k)) H
theorem sc_Bench_kind : FnScope ["self", "name", "thing"] ["self", "name"] (defScope sBenchKind) := ⟨rfl, rfl, rfl, by decide +kernel, rfl, by decide +kernel, by decide +kernel⟩
theorem ok_Bench_kind (T : Txt K mg) : FnOk P w K mg base CX0 4 (ma K (ga K "Bench") "kind") (fdAt K (ma K (ga K "Bench") "kind")) ["self", "name"] (spKind K) := by
  refine T.f_Bench_kind.ok sc_Bench_kind (fun vs H Q E h => ?_) (fun cdv A outer s H vs Q E hr h => ?_)
  · obtain ⟨b, n, th, pa, kvs, x, v, G, m, t, rfl, _⟩ := h
    rfl
  obtain ⟨b, n, th, pa, kvs, x, v, G, m, t, rfl, hb, hp, hv, sG, ht, q⟩ := h
  obtain ⟨dx, hb'⟩ := id hb
  refine ⟨_, PSs.nox (pss_cons (ps_set (i := 2) sc_Bench_kind.nd rfl (Or.inl rfl) (m_thing_of T (hr.mono (by decide)) pass_non (pv 0) (pa_cons (pv 1) pa_nil)))
    (pss_cons (ps_if (pt_val (b_isinstance call_isi T (pa_cons (pv 2) (pa_cons (n_Network T) pa_nil)))) (pss_one (ps_ret (n_NETWORK T))) pss_nil)
    (pss_one (ps_ret (pe_ifExp (pt_val (b_isinstance call_isi T (pa_cons (pv 2) (pa_cons (n_Order T) pa_nil)))) (n_ORDER T) (n_TESTS T)))))), ?_⟩
  refine ⟨_, rfl, b, dx, _, rfl, hb', bm_none (by decide +kernel) (by decide +kernel) (by decide +kernel), _, rfl, b, n, th, pa, kvs, x, rfl, hb, hp, fun v' hv' => ?_, fun z => by rw [hv] at z; cases z⟩
  rw [hv] at hv'
  cases hv'
  obtain ⟨k, rows⟩ := t
  cases k with
  | net =>
    obtain ⟨y, rfl, hy⟩ := ht
    obtain ⟨_, _, ⟨_, hy1⟩, _⟩ := hy.at_
    have hy2 := sG _ _ hy1
    refine ⟨_, rfl, _, _, _, _, _, rfl, .own _, .base (.ins hy2 T.ins_Network.cl T.ins_Network.ha T.ins_Network.hn T.ins_Network.htk T.ins_Network.hm), T.q_Network_Network, _, rfl, ?_⟩
    exact iteT q
  | ord =>
    obtain ⟨y, rfl, hy⟩ := ht
    obtain ⟨_, _, ⟨_, hy1⟩, _⟩ := hy.at_
    have hy2 := sG _ _ hy1
    refine ⟨_, rfl, _, _, _, _, _, rfl, .own _, .base (.ins hy2 T.ins_Order.cl T.ins_Order.ha T.ins_Order.hn T.ins_Order.htk T.ins_Order.hm), T.q_Order_Network, _, rfl, ?_⟩
    refine iteF ?_
    refine ⟨_, rfl, _, _, _, _, _, rfl, .own _, .base (.ins hy2 T.ins_Order.cl T.ins_Order.ha T.ins_Order.hn T.ins_Order.htk T.ins_Order.hm), T.q_Order_Order, _, rfl, ?_⟩
    exact iteT q
  | tst =>
    obtain ⟨y, xs, rfl, hy, _⟩ := ht
    have hy2 := sG _ _ hy
    refine ⟨_, rfl, _, _, _, _, _, rfl, .own _, .base (.tup hy2), T.q_tuple_Network, _, rfl, ?_⟩
    refine iteF ?_
    refine ⟨_, rfl, _, _, _, _, _, rfl, .own _, .base (.tup hy2), T.q_tuple_Order, _, rfl, ?_⟩
    exact iteF q
theorem bd_Bench_kind {K : PySem.W.Frag} {mg : Str → Option Value} (T : Txt K mg) : Binds K (fdAt K (ma K (ga K "Bench") "kind")) ["self", "name"] [] := T.f_Bench_kind.bindsN fun _ _ _ _ _ _ us hl => match us, hl with | [_, _], _ => rfl
theorem m_kind {X : Cx} {o e : Expr} {ta : TE} {es : List Expr} {t : TA} {apos pos : Pos} {pl : Sem Bool} (T : Txt X.K X.mg) (hr : Room 4 X.A) (ho : PE X o ta) (ha : PA X (e :: es) t) (hst : starEach (e :: es) X.env = (false, eval e X.env) :: starEach es X.env := by rfl) (hpl : (backTo pos (starEach es X.env)).any (·.1) = false := by rfl)
    (ht : eval (.Call (.Attribute o "kind" apos) (e :: es) [] pos) X.env = (do
      let ov ← eval o X.env
      standAt apos.atName
      let (f, first) ← holding [ov] (getMethod ov "kind" pl)
      callWith pos f first (backTo pos (starEach (e :: es) X.env)) (backToKw pos (keywordEach [] X.env))) := by rfl) :
    PE X (.Call (.Attribute o "kind" apos) (e :: es) [] pos) (tMeth (ga X.K "Bench") "kind" ((spKind X.K)) [] E0 ta t) := pe_meth (pl := pl) ho T.ins_Bench.cl T.m_Bench_kind (ok_Bench_kind T) hr (bd_Bench_kind T) .nil pass0 ha hst hpl ht
/-! ### bench[name] -/
def spGet (K : PySem.W.Frag) : Sp := fun vs H Q _ => ∃ b n th pa kvs x v, ∃ (G : Hp) (m : Nat) (t : Thing), vs = [.ref b, .str x] ∧ BenchAt K H b n th pa ∧ H th = some (.dK kvs) ∧ valV kvs (Sum.inr x) = some v ∧ Same G H ∧ PT K G m v t ∧ t.rows.length ≤ 1000 ∧
  (t.k ≠ .tst → Q v H) ∧ (∀ y xs D, v = .ref y → H y = some (.tup xs) → H D = none → Q (.ref D) (upd H D (.lst xs)))
theorem sc_Bench_getitem : FnScope ["self", "name", "thing", "row"] ["self", "name"] (defScope sBenchGetitem) := ⟨rfl, rfl, rfl, by decide +kernel, rfl, by decide +kernel, by decide +kernel⟩
theorem ok_Bench_getitem (T : Txt K mg) : FnOk P w K mg base CX0 4 (ma K (ga K "Bench") "__getitem__") (fdAt K (ma K (ga K "Bench") "__getitem__")) ["self", "name"] (spGet K) := by
  refine T.f_Bench_getitem.ok sc_Bench_getitem (fun vs H Q E h => ?_) (fun cdv A outer s H vs Q E hr h => ?_)
  · obtain ⟨b, n, th, pa, kvs, x, v, G, m, t, rfl, _⟩ := h
    rfl
  obtain ⟨b, n, th, pa, kvs, x, v, G, m, t, rfl, hb, hp, hv, sG, ht, hrl, q, q2⟩ := h
  obtain ⟨dx, hb'⟩ := id hb
  refine ⟨_, PSs.nox (pss_cons (ps_set (i := 2) sc_Bench_getitem.nd rfl (Or.inl rfl) (m_thing_of T (hr.mono (by decide)) pass_non (pv 0) (pa_cons (pv 1) pa_nil)))
    (pss_one (ps_ret (pe_ifExp (pt_val (b_isinstance call_isi T (pa_cons (pv 2) (pa_cons (n_tuple T) pa_nil)))) (pe_lc (own := [("row", 3)]) rfl sc_Bench_getitem.nd (pi_seq (pv 2)) (blkOk_by (N := ["self", "name", "thing", "row"]) (sc := defScope sBenchGetitem) (by decide +kernel)) (fun _ _ _ _ _ => pg_name (i := 3) sc_Bench_getitem.nd rfl (Or.inl rfl)) (fun _ _ _ _ _ => pts_nil) (fun _ _ _ _ _ => (pv 3))) (pv 2))))), ?_⟩
  refine ⟨_, rfl, b, dx, _, rfl, hb', bm_none (by decide +kernel) (by decide +kernel) (by decide +kernel), _, rfl, b, n, th, pa, kvs, x, rfl, hb, hp, fun v' hv' => ?_, fun z => by rw [hv] at z; cases z⟩
  rw [hv] at hv'
  cases hv'
  obtain ⟨k, rows⟩ := t
  cases k with
  | net =>
    obtain ⟨y, rfl, hy⟩ := ht
    obtain ⟨_, _, ⟨_, hy1⟩, _⟩ := hy.at_
    have hy2 := sG _ _ hy1
    refine ⟨_, rfl, _, _, _, _, _, rfl, .ty _, .base (.ins hy2 T.ins_Network.cl T.ins_Network.ha T.ins_Network.hn T.ins_Network.htk T.ins_Network.hm), T.q_Network_tuple, _, rfl, ?_⟩
    exact iteF ⟨_, rfl, q (by intro z; cases z)⟩
  | ord =>
    obtain ⟨y, rfl, hy⟩ := ht
    obtain ⟨_, _, ⟨_, hy1⟩, _⟩ := hy.at_
    have hy2 := sG _ _ hy1
    refine ⟨_, rfl, _, _, _, _, _, rfl, .ty _, .base (.ins hy2 T.ins_Order.cl T.ins_Order.ha T.ins_Order.hn T.ins_Order.htk T.ins_Order.hm), T.q_Order_tuple, _, rfl, ?_⟩
    exact iteF ⟨_, rfl, q (by intro z; cases z)⟩
  | tst =>
    obtain ⟨y, xs, rfl, hy, hdd⟩ := ht
    have hy2 := sG _ _ hy
    refine ⟨_, rfl, _, _, _, _, _, rfl, .ty _, .base (.tup hy2), kit_dt "tuple" (by simp) (.tuple []), _, rfl, ?_⟩
    refine iteT ⟨_, rfl, y, xs, rfl, .inr hy2, fun J wk D nD => ?_⟩
    have yD : y ≠ D := ne_of_none hy2 nD
    refine lc_it wk (fun i H' => H' = upd H D (.lst (xs.take i))) rfl ?_ ?_ ?_
    · rintro i H' _ rfl
      rw [upd_ne yD]
    · rintro i u _ H' hi rfl ⟨rfl, hu⟩
      refine ⟨rfl, yes_if ?_⟩
      refine ⟨_, rfl, _, upd_same, ?_, ?_⟩
      · rw [List.length_take]
        refine Nat.lt_of_le_of_lt (Nat.min_le_left _ _) ?_
        have h1 := hdd.length
        rw [List.length_map] at h1
        exact Nat.lt_of_lt_of_le hi (by rw [h1]; exact Nat.le_trans hrl (by decide))
      · rw [upd_upd, take_succ_get hu]
    · rintro H' rfl
      rw [List.take_length]
      exact q2 y xs D rfl hy2 nD
end
end K57
/-! D12 -/
namespace K57
open PySem PySem.Spec PyProof.Rows L2 He
theorem gt_mono {G H H' : Hp} (sG : Same G H) (s : Same H H') : Same (gt G H) (gt G H') := fun b u e => by
  unfold gt at e ⊢
  cases q : H b with
  | none =>
    rw [q] at e
    have := sG b u e
    rw [q] at this
    cases this
  | some v =>
    rw [q] at e
    rw [s b v q]
    exact e
theorem gt_none {G H : Hp} {p : Addr} (hG : G p = none) (h : ∀ xs, H p ≠ some (.tup xs)) : gt G H p = none := by
  unfold gt
  split
  · rename_i xs e
    exact absurd e (h xs)
  · exact hG
/-- the state with a thing in its place -/
def setS (st : State) (x : Str) (t : Thing) : State := st.map fun p => if p.1 = x then (p.1, t) else p
theorem PDict.new {K : PySem.W.Frag} {G : Hp} {n : Nat} {kvs : List (Key × V)} {st : State} {x : Str} {v : V} {t : Thing} (h : PDict K G n kvs st) (hn : valV kvs (Sum.inr x) = none) (hv : PT K G n v t) : PDict K G n (putK kvs (Sum.inr x) v) (st ++ [(x, t)]) := by
  rw [putK_new v hn]
  exact Paired.snoc h ⟨rfl, hv⟩
theorem PDict.set {K : PySem.W.Frag} {G : Hp} {n : Nat} {kvs : List (Key × V)} {st : State} {x : Str} {v v0 : V} {t : Thing} (h : PDict K G n kvs st) (hn : valV kvs (Sum.inr x) = some v0) (hv : PT K G n v t) : PDict K G n (putK kvs (Sum.inr x) v) (setS st x t) := by
  have ha : (kvs.any fun kv => decide (kv.1 = Sum.inr x)) = true := by rw [valV_any, hn]; rfl
  have e : putK kvs (Sum.inr x) v = kvs.map fun kv => if kv.1 = Sum.inr x then (kv.1, v) else kv := by
    unfold putK
    rw [if_pos ha]
  rw [e]
  clear e ha hn
  unfold setS PDict at *
  induction h with
  | nil => exact .nil
  | @cons p q ps qs h r ih =>
    refine .cons ?_ ih
    by_cases z : q.1 = x
    · have z1 : p.1 = Sum.inr x := by rw [h.1, z]
      show (if p.1 = Sum.inr x then (p.1, v) else p).1 = Sum.inr (if q.1 = x then (q.1, t) else q).1 ∧ PT K G n (if p.1 = Sum.inr x then (p.1, v) else p).2 (if q.1 = x then (q.1, t) else q).2
      rw [if_pos z, if_pos z1]
      exact ⟨h.1, hv⟩
    · have z1 : ¬ p.1 = Sum.inr x := fun e => z (Sum.inr.inj (h.1.symm.trans e))
      show (if p.1 = Sum.inr x then (p.1, v) else p).1 = Sum.inr (if q.1 = x then (q.1, t) else q).1 ∧ PT K G n (if p.1 = Sum.inr x then (p.1, v) else p).2 (if q.1 = x then (q.1, t) else q).2
      rw [if_neg z, if_neg z1]
      exact h
/-- {**d, k: v} where the parts only read -/
theorem merge_rd {td tk tv : TE} {σ : L2.St} {H : Hp} {Q : VK} {a : Addr} {kvs : List (Key × V)} {k : Key} {z : V} (hd : ∀ H', Same H H' → ∀ Q' : VK, Q' (.ref a) H' → td σ H' Q') (hk : ∀ H', Same H H' → ∀ Q' : VK, Q' (kV k) H' → tk σ H' Q') (hv : ∀ H', Same H H' → ∀ Q' : VK, Q' z H' → tv σ H' Q')
    (ha : H a = some (.dK kvs)) (hlt : kvs.length < 1000) (q : ∀ Hf p, Same H Hf → H p = none → Hf p = some (.dK (putK kvs k z)) → Q (.ref p) Hf) : tMergeD td tk tv σ H Q := by
  intro p np
  have s1 : Same H (upd H p (.dK [])) := same_new np
  have hap : a ≠ p := ne_of_none ha np
  refine hd _ s1 _ ⟨a, kvs, rfl, hap, s1 _ _ ha, upd_same, hlt, fun q' nq => ?_⟩
  have hqp : q' ≠ p := fun e => by rw [e, upd_same] at nq; cases nq
  have nqH : H q' = none := by rw [upd_ne hqp] at nq; exact nq
  have s2 : Same H (upd (upd (upd H p (.dK [])) p (.dK kvs)) q' (.dK [])) := fun b o e => by
    rw [upd_ne (ne_of_none e nqH), upd_ne (ne_of_none e np), upd_ne (ne_of_none e np)]
    exact e
  refine hk _ s2 _ (hv _ s2 _ ⟨k, rfl, ?_, upd_same, ?_⟩)
  · rw [upd_ne (Ne.symm hqp), upd_same]
  · refine q _ p (fun b o e => ?_) np upd_same
    rw [upd_ne (ne_of_none e np), upd_ne (ne_of_none e nqH)]
    exact s2 _ _ e
section
variable {P : Program} {w : World} {K : PySem.W.Frag} {mg : Str → Option Value} {base : Heap}
/-! ### change -/
def spChange (K : PySem.W.Frag) : Sp := fun vs H Q _ => ∃ (b dx : Addr) (n : Int) (th pa th' : Addr) (xs : List V), vs = [.ref b, .ref th'] ∧ H b = some (.ins (ga K "Bench") dx (bFs n th pa)) ∧ H pa = some (.lst xs) ∧ xs.length < 1000 ∧
  ∀ p, H p = none → Q .non (upd (upd H p (.lst (xs ++ [.ref th]))) b (.ins (ga K "Bench") dx (bFs n th' p)))
theorem sc_Bench_change : FnScope ["self", "things"] ["self", "things"] (defScope sBenchChange) := ⟨rfl, rfl, rfl, by decide +kernel, rfl, by decide +kernel, by decide +kernel⟩
theorem ok_Bench_change (T : Txt K mg) : FnOk P w K mg base CX0 1 (ma K (ga K "Bench") "change") (fdAt K (ma K (ga K "Bench") "change")) ["self", "things"] (spChange K) := by
  refine T.f_Bench_change.ok sc_Bench_change (fun vs H Q E h => ?_) (fun cdv A outer s H vs Q E hr h => ?_)
  · obtain ⟨b, dx, n, th, pa, th', xs, rfl, _⟩ := h
    rfl
  obtain ⟨b, dx, n, th, pa, th', xs, rfl, hb, hp, hl, q⟩ := h
  refine ⟨_, PSs.nox (pss_cons (ps_fld (pv 0) (pe_lst (StX.pa_star (pe_fld (pv 0) rfl) (pa_cons (pe_fld (pv 0) rfl) pa_nil))) rfl)
    (pss_one (ps_fld (pv 0) (pv 1) rfl))), ?_⟩
  refine ⟨_, rfl, b, _, _, _, _, rfl, hb, T.ins_Bench.cl, T.n_Bench_past, b_past, pa, xs, rfl, .inr (SqL.of hp), _, rfl, b, _, _, _, _, rfl, hb, T.ins_Bench.cl, T.n_Bench_things, b_things, ?_, fun p np => ?_⟩
  · rw [List.length_append]
    exact Nat.le_trans (show xs.length + 1 ≤ 1001 by omega) (by decide)
  have pb : p ≠ b := Ne.symm (ne_of_none hb np)
  refine ⟨_, rfl, b, _, _, _, rfl, (by rw [upd_ne (Ne.symm pb)]; exact hb), T.ins_Bench.cl, T.n_Bench_past, (by show 3 < 1000; decide), ?_⟩
  refine ⟨_, rfl, _, rfl, b, _, _, _, rfl, upd_same, T.ins_Bench.cl, T.n_Bench_things, ?_, ?_⟩
  · rw [put_past]
    show 3 < 1000
    decide
  · rw [upd_upd, put_past, put_things]
    exact q p np
theorem bd_Bench_change {K : PySem.W.Frag} {mg : Str → Option Value} (T : Txt K mg) : Binds K (fdAt K (ma K (ga K "Bench") "change")) ["self", "things"] [] := T.f_Bench_change.bindsN fun _ _ _ _ _ _ us hl => match us, hl with | [_, _], _ => rfl
theorem m_change {X : Cx} {o e : Expr} {ta : TE} {es : List Expr} {t : TA} {apos pos : Pos} {pl : Sem Bool} (T : Txt X.K X.mg) (hr : Room 1 X.A) (ho : PE X o ta) (ha : PA X (e :: es) t) (hst : starEach (e :: es) X.env = (false, eval e X.env) :: starEach es X.env := by rfl) (hpl : (backTo pos (starEach es X.env)).any (·.1) = false := by rfl)
    (ht : eval (.Call (.Attribute o "change" apos) (e :: es) [] pos) X.env = (do
      let ov ← eval o X.env
      standAt apos.atName
      let (f, first) ← holding [ov] (getMethod ov "change" pl)
      callWith pos f first (backTo pos (starEach (e :: es) X.env)) (backToKw pos (keywordEach [] X.env))) := by rfl) :
    PE X (.Call (.Attribute o "change" apos) (e :: es) [] pos) (tMeth (ga X.K "Bench") "change" ((spChange X.K)) [] E0 ta t) := pe_meth (pl := pl) ho T.ins_Bench.cl T.m_Bench_change (ok_Bench_change T) hr (bd_Bench_change T) .nil pass0 ha hst hpl ht
theorem change_rd {G H G1 Hf : Hp} {b : Addr} {n : Nat} {sts : List State} {st st' : State} {th' : Addr} {kvs' : List (Key × V)} {Q : VK} {E : XK} (hS : BSt K G H b n sts st) (sG : Same G H) (hGb : G b = none) (g : Go [b] G H G1 Hf) (hb : ∀ o, H b = some o → Hf b = some o)
    (hth : G1 th' = some (.dK kvs')) (hd : PDict K G1 n kvs' st') (hl : sts.length < 900) (q : ∀ G2 H2, Go [b] G H G2 H2 → BSt K G2 H2 b n (sts ++ [st]) st' → Q .non H2) :
    ∃ dx fs, Hf b = some (.ins (ga K "Bench") dx fs) ∧ List.lookup ("change" : Str) fs = none ∧ spChange K [.ref b, .ref th'] Hf Q E := by
  obtain ⟨th, pa, vs, kvs, ⟨dx, hb0⟩, h2, h3, h4, h5⟩ := hS.ex
  refine ⟨dx, bFs n th pa, hb _ hb0, bm_none (by decide +kernel) (by decide +kernel) (by decide +kernel), b, dx, n, th, pa, th', vs, rfl, hb _ hb0, ?_, ?_, fun p np => ?_⟩
  · exact g.on _ _ (g.sub _ _ h4)
  · have := Paired.length h5
    omega
  have hbf := hb _ hb0
  have pb : p ≠ b := Ne.symm (ne_of_none hbf np)
  have g1 := g.new (o := .lst (vs ++ [.ref th])) np
  have hGb1 : G1 b = none := g.off hGb hb0
  have hGb2 : upd G1 p (.lst (vs ++ [.ref th])) b = none := by rw [upd_ne (Ne.symm pb)]; exact hGb1
  have g2 := g1.put (p := b) (o := .ins (ga K "Bench") dx (bFs n th' p)) (.inl List.mem_cons_self) hGb2
  have sG1 : Same G1 (upd G1 p (.lst (vs ++ [.ref th]))) := same_new (g.offNew np)
  refine q _ _ g2 ⟨th', p, _, kvs', ⟨dx, upd_same⟩, sG1 _ _ hth, hd.mono sG1, upd_same, ?_⟩
  refine Paired.snoc (h5.mono (g.sub.trans sG1)) ⟨th, kvs, rfl, sG1 _ _ (g.sub _ _ h2), h3.mono (g.sub.trans sG1)⟩
/-! ### check_new_name -/
def spCheck (K : PySem.W.Frag) : Sp := fun vs H Q E => ∃ b n th pa kvs x, vs = [.ref b, .str x] ∧ BenchAt K H b n th pa ∧ H th = some (.dK kvs) ∧ NameOk x ∧ (valV kvs (Sum.inr x) = none → ∀ H1, Same H H1 → Q .non H1) ∧
  ((valV kvs (Sum.inr x)).isSome = true → ∀ H1 e, Same H H1 → H1 e = none → E (.ref (ga K "NameTaken")) (some e) (upd H1 e (.xd [("name", .str x)])))
theorem sc_Bench_check_new_name : FnScope ["self", "name"] ["self", "name"] (defScope sBenchCheckNewName) := ⟨rfl, rfl, rfl, by decide +kernel, rfl, by decide +kernel, by decide +kernel⟩
theorem ok_Bench_check_new_name (T : Txt K mg) : FnOk P w K mg base (L2.CX P w) 3 (ma K (ga K "Bench") "check_new_name") (fdAt K (ma K (ga K "Bench") "check_new_name")) ["self", "name"] (spCheck K) := by
  refine T.f_Bench_check_new_name.ok sc_Bench_check_new_name (fun vs H Q E h => ?_) (fun cdv A outer s H vs Q E hr h => ?_)
  · obtain ⟨b, n, th, pa, kvs, x, rfl, _⟩ := h
    rfl
  obtain ⟨b, n, th, pa, kvs, x, rfl, ⟨dx, hb⟩, hp, hx, good, bad⟩ := h
  refine ⟨_, (pss_cons (ps_if (pt_not (pt_val (c_is_name T (hr.mono (by decide)) (pa_cons (pv 1) pa_nil)))) (pss_one ps_never) pss_nil)
    (pss_one (ps_if (pt_cmp (pc_din (hu_of hr) (pv 1) (pe_fld (pv 0) rfl))) (pss_one (r_NameTaken T (hr.mono (by decide)) (takes_of rfl rfl rfl rfl) (pa_cons (pv 1) pa_nil) (mono_var _))) pss_nil))), ?_⟩
  refine ⟨_, rfl, x, rfl, hx, fun H1 s1 => ⟨_, rfl, ?_⟩⟩
  refine iteF ?_
  have hb1 := s1 _ _ hb
  refine ⟨_, rfl, _, rfl, b, _, _, _, _, rfl, hb1, T.ins_Bench.cl, T.n_Bench_things, b_things, th, _, rfl, DGet.k (k := Sum.inr x) (s1 _ _ hp), _, rfl, ?_⟩
  cases hv : valV kvs (Sum.inr x) with
  | none => exact iteF (good hv H1 s1)
  | some v => exact iteT ⟨_, rfl, _, rfl, fun e ne => bad (by rw [hv]; rfl) H1 e s1 ne⟩
theorem bd_Bench_check_new_name {K : PySem.W.Frag} {mg : Str → Option Value} (T : Txt K mg) : Binds K (fdAt K (ma K (ga K "Bench") "check_new_name")) ["self", "name"] [] := T.f_Bench_check_new_name.bindsN fun _ _ _ _ _ _ us hl => match us, hl with | [_, _], _ => rfl
theorem m_check_new_name {X : Cx} {E : XK} {o e : Expr} {ta : TE} {es : List Expr} {t : TA} {apos pos : Pos} {pl : Sem Bool} (T : Txt X.K X.mg) (hr : Room 3 X.A) (hx : Passes (L2.CX X.prog X.w) X E) (ho : PE X o ta) (ha : PA X (e :: es) t) (hst : starEach (e :: es) X.env = (false, eval e X.env) :: starEach es X.env := by rfl) (hpl : (backTo pos (starEach es X.env)).any (·.1) = false := by rfl)
    (ht : eval (.Call (.Attribute o "check_new_name" apos) (e :: es) [] pos) X.env = (do
      let ov ← eval o X.env
      standAt apos.atName
      let (f, first) ← holding [ov] (getMethod ov "check_new_name" pl)
      callWith pos f first (backTo pos (starEach (e :: es) X.env)) (backToKw pos (keywordEach [] X.env))) := by rfl) :
    PE X (.Call (.Attribute o "check_new_name" apos) (e :: es) [] pos) (tMeth (ga X.K "Bench") "check_new_name" ((spCheck X.K)) [] E ta t) := pe_meth (pl := pl) ho T.ins_Bench.cl T.m_Bench_check_new_name (ok_Bench_check_new_name T) hr (bd_Bench_check_new_name T) .nil hx ha hst hpl ht
/-! ### put -/
def spPut (K : PySem.W.Frag) : Sp := fun vs H Q E => ∃ (b : Addr) (n : Nat) (x : Str) (v : V) (G : Hp) (sts : List State) (st : State) (t : Thing), vs = [.ref b, .str x, v] ∧ 1 ≤ n ∧ n ≤ 60 ∧ BSt K G H b n sts st ∧ Same G H ∧ G b = none ∧ NameOk x ∧ KIn K G H n v t ∧ sts.length < 900 ∧ st.length < 900 ∧
  ((st.lookup x).isSome = true → ∀ H1 e, Same H H1 → H1 e = none → E (.ref (ga K "NameTaken")) (some e) (upd H1 e (.xd [("name", .str x)]))) ∧
  (st.lookup x = none → ∀ G2 H2, Go [b] G H G2 H2 → BSt K G2 H2 b n (sts ++ [st]) (st ++ [(x, t)]) → Q .non H2)
theorem rd_var {i : Nat} {σ : L2.St} {v : V} {H : Hp} {Q : VK} (h : σ[i]? = some (some v)) (q : Q v H) : tVar i σ H Q := ⟨v, h, q⟩
theorem KIn.mono {G H H' : Hp} {n : Nat} {v : V} {t : Thing} (s : Same H H') (h : KIn K G H n v t) : KIn K G H' n v t := by
  obtain ⟨k, rows⟩ := t
  cases k with
  | tst =>
    obtain ⟨a, xs, e, h1, h2, h3⟩ := h
    exact ⟨a, xs, e, h1.mono s, h2.mono s, h3⟩
  | net => exact h
  | ord => exact h
theorem PT.notNon {G : Hp} {n : Nat} {v : V} {t : Thing} (h : PT K G n v t) : v ≠ .non := by
  obtain ⟨k, rows⟩ := t
  cases k with
  | tst =>
    obtain ⟨a, xs, e, _⟩ := h
    rw [e]
    intro z
    cases z
  | net =>
    obtain ⟨a, e, _⟩ := h
    rw [e]
    intro z
    cases z
  | ord =>
    obtain ⟨a, e, _⟩ := h
    rw [e]
    intro z
    cases z
theorem sc_Bench_put : FnScope ["self", "name", "thing", "kept"] ["self", "name", "thing"] (defScope sBenchPut) := ⟨rfl, rfl, rfl, by decide +kernel, rfl, by decide +kernel, by decide +kernel⟩
theorem ok_Bench_put (T : Txt K mg) : FnOk P w K mg base (L2.CX P w) 7 (ma K (ga K "Bench") "put") (fdAt K (ma K (ga K "Bench") "put")) ["self", "name", "thing"] (spPut K) := by
  refine T.f_Bench_put.ok sc_Bench_put (fun vs H Q E h => ?_) (fun cdv A outer s H vs Q E hr h => ?_)
  · obtain ⟨b, n, x, v, G, sts, st, t, rfl, _⟩ := h
    rfl
  obtain ⟨b, n, x, v, G, sts, st, t, rfl, h1, h2, hS, sG, hGb, hx, hv, hl1, hl2, taken, good⟩ := h
  obtain ⟨th, pa, xs, kvs, ⟨dx, hb⟩, hth, hkv, hpa, hpast⟩ := hS.ex
  refine ⟨_, (pss_cons (ps_expr (m_check_new_name T (hr.mono (by decide)) pass_own (pv 0) (pa_cons (pv 1) pa_nil)))
    (pss_cons (ps_set (i := 3) sc_Bench_put.nd rfl (Or.inl rfl) (c_kept_thing T (hr.mono (by decide)) (pa_cons (pe_fld (pv 0) rfl) (pa_cons (pv 2) pa_nil))))
    (pss_cons (ps_if (pt_cmp (pc_isN (pv 3))) (pss_one ps_never) pss_nil)
    (pss_one (ps_expr (m_change T (hr.mono (by decide)) (pv 0) (pa_cons (pe_dmerge (pe_fld (pv 0) rfl) (pv 1) (pv 3)) pa_nil))))))), ?_⟩
  refine ⟨_, rfl, b, dx, _, rfl, hb, bm_none (by decide +kernel) (by decide +kernel) (by decide +kernel), _, rfl, b, n, th, pa, kvs, x, rfl, ⟨dx, hb⟩, sG _ _ hth, hx, fun hnone H1 s1 => ?_, fun hsome H1 e s1 ne => ?_⟩
  · have hlook : st.lookup x = none := by
      rcases hkv.look x with ⟨v', t', e1, _⟩ | ⟨_, e2⟩
      · rw [hnone] at e1; cases e1
      · exact e2
    have hb1 := s1 _ _ hb
    refine ⟨_, rfl, b, _, _, _, _, rfl, hb1, T.ins_Bench.cl, T.n_Bench_own_size, b_size, _, rfl, n, G, v, t, rfl, h1, h2, sG.trans s1, hv.mono s1, fun H2 v' s2 hv' => ?_⟩
    have s12 := s1.trans s2
    have hbf := s12 _ _ hb
    refine ⟨v', rfl, false, congrArg V.bl (decide_eq_false hv'.notNon), ?_⟩
    refine iteF ?_
    refine ⟨_, rfl, b, dx, _, rfl, hbf, bm_none (by decide +kernel) (by decide +kernel) (by decide +kernel), ?_⟩
    refine merge_rd (a := th) (kvs := kvs) (k := Sum.inr x) (z := v') (fun H' s' Q' q' => ?_) (fun H' s' Q' q' => rd_var rfl q') (fun H' s' Q' q' => rd_var rfl q') (s12 _ _ (sG _ _ hth)) ?_ fun Hf p sf np hpf => ?_
    · exact ⟨_, rfl, b, _, _, _, _, rfl, s' _ _ hbf, T.ins_Bench.cl, T.n_Bench_things, b_things, q'⟩
    · rw [hkv.length]
      omega
    have sHf : Same H Hf := s12.trans sf
    have g0 : Go [b] G H (gt G Hf) Hf := ((Go.start sG).same sHf).tups
    have np' : H p = none := s12.free np
    have hpG : gt G Hf p = none := gt_none (by
      cases q : G p with
      | none => rfl
      | some o => rw [sG _ _ q] at np'; cases np') (fun xs z => by rw [hpf] at z; cases z)
    have g1 := g0.freeze hpf np' hpG
    have sg : Same (gt G H2) (upd (gt G Hf) p (.dK (putK kvs (Sum.inr x) v'))) := (gt_mono (sG.trans s12) sf).trans (same_new hpG)
    obtain ⟨dx', fs, e1, e2, e3⟩ := change_rd (E := E0) hS sG hGb g1 (fun o e => sHf _ _ e) upd_same ((hkv.mono (g1.sub)).new hnone (hv'.mono sg)) hl1 (good hlook)
    exact e3
  · refine taken ?_ H1 e s1 ne
    rcases hkv.look x with ⟨v', t', e1, e2, _⟩ | ⟨e1, _⟩
    · rw [e2]; rfl
    · rw [e1] at hsome; cases hsome
end
end K57
/-! D13 -/
namespace K57
open PySem PySem.Spec PyProof.Rows L2 He
theorem pe_fldK {X : Cx} {K : PySem.W.Frag} {e : Expr} {ta : TE} {f : Str} {pos : Pos} (h : X.K = K) (he : PE X e ta) (hb : attributeBase e f X.env (eval e X.env) = eval e X.env) : PE X (.Attribute e f pos) (tFld K ta f) := by
  subst h
  exact pe_fld he hb
theorem dc_it {J : It} {n : Nat} {G : Hp → Prop} {Y : Nat → Hp → V → Hp → Prop} (w : Walk J n G Y) {g : TG} {tt : TT} {tk tv : TE} {vs : List Nat} {σ : L2.St} {H1 : Hp} {D : Addr} {Qd : Hp → Prop} (Pv : Nat → Hp → Prop) (h0 : Pv 0 (upd H1 D (.dK []))) (hG : ∀ i H, i ≤ n → Pv i H → G H)
    (hs : ∀ i x H H', i < n → Pv i H → Y i H x H' → g x (wipe σ vs) H' fun σ2 H2 => wipe σ2 vs = wipe σ vs ∧ tt σ2 H2 fun b H3 =>
      if b = true then tk σ2 H3 fun y H4 => tv σ2 H4 fun z H5 => ∃ kvs k, y = kV k ∧ H5 D = some (.dK kvs) ∧ kvs.length < sizeLine ∧ Pv (i + 1) (upd H5 D (.dK (putK kvs k z))) else Pv (i + 1) H3) (hd : ∀ H, Pv n H → Qd H) :
    ∃ W : Nat → Nat → Hp → Prop, (∃ m, W 0 m (upd H1 D (.dK []))) ∧ ∀ i m H, W i m H →
      (J.stop i H ∧ Qd H) ∨ (J.go i H ∧ ∃ Nx : Hp → Prop, (∀ H', Nx H' → ∃ m', m' < m ∧ W (i + 1) m' H') ∧ ∀ x H', J.yld i H x H' → g x (wipe σ vs) H' fun σ2 H2 => wipe σ2 vs = wipe σ vs ∧ tt σ2 H2 fun b H3 =>
        if b = true then tk σ2 H3 fun y H4 => tv σ2 H4 fun z H5 => ∃ kvs k, y = kV k ∧ H5 D = some (.dK kvs) ∧ kvs.length < sizeLine ∧ Nx (upd H5 D (.dK (putK kvs k z))) else Nx H3) := by
  refine ⟨fun i m H => m = n - i ∧ i ≤ n ∧ Pv i H, ⟨n, by simp, Nat.zero_le _, h0⟩, ?_⟩
  rintro i m H ⟨rfl, hi, p⟩
  have q := hG i H hi p
  by_cases hlt : i < n
  · refine .inr ⟨w.goes i H hlt q, Pv (i + 1), fun H' p' => ⟨n - (i + 1), by omega, rfl, hlt, p'⟩, fun x H' y => hs i x H H' hlt p (w.yields i H x H' hlt q y)⟩
  · have e : i = n := by omega
    subst e
    exact .inl ⟨w.stops H q, hd H p⟩
/-! ### without a name -/
def dropS (st : State) (x : Str) : State := st.filter fun p => !decide (p.1 = x)
def dropV (kvs : List (Key × V)) (x : Str) : List (Key × V) := kvs.filter fun p => !decide (p.1 = Sum.inr x)
theorem PDict.drop {K : PySem.W.Frag} {G : Hp} {n : Nat} {x : Str} : ∀ {kvs : List (Key × V)} {st : State}, PDict K G n kvs st → PDict K G n (dropV kvs x) (dropS st x)
  | _, _, .nil => .nil
  | p :: kvs, q :: st, .cons h r => by
    have ih := PDict.drop (x := x) r
    unfold dropV dropS
    by_cases z : q.1 = x
    · have z1 : p.1 = Sum.inr x := by rw [h.1, z]
      rw [List.filter_cons_of_neg (by simp [z1]), List.filter_cons_of_neg (by simp [z])]
      exact ih
    · have z1 : ¬ p.1 = Sum.inr x := fun e => z (Sum.inr.inj (h.1.symm.trans e))
      rw [List.filter_cons_of_pos (by simp [z1]), List.filter_cons_of_pos (by simp [z])]
      exact .cons h ih
theorem look_filter {κ : Type} [DecidableEq κ] {kvs : List (κ × V)} {k : κ} (f : κ × V → Bool) (h : valV kvs k = none) : valV (kvs.filter f) k = none := by
  induction kvs with
  | nil => rfl
  | cons p r ih =>
    by_cases e : p.1 = k
    · rw [valV_pos e] at h
      cases h
    · rw [valV_neg e] at h
      by_cases z : f p = true
      · rw [List.filter_cons_of_pos z, valV_neg e]
        exact ih h
      · rw [List.filter_cons_of_neg z]
        exact ih h
section
variable {P : Program} {w : World} {K : PySem.W.Frag} {mg : Str → Option Value} {base : Heap}
/-- the reading of {k: d[k] for k in d if k != x}: the dict at th is locked -/
theorem drop_it {Hf : Hp} {th : Addr} {od : Obj} {kvs : List (Key × V)} {ks : List Str} {x : Str} {D : Addr} {j : Nat} {σ : L2.St} {vs : List Nat} {tt : TT} {tk tv : TE} {Qd : Hp → Prop} (hth : Hf th = some (.frz od (.dK kvs))) (hks : kvs.map (·.1) = ks.map Sum.inr) (hnd : ks.Nodup) (nD : Hf D = none)
    (hw : ∀ y, wipe ((wipe σ vs).set j (some y)) vs = wipe σ vs)
    (ht : ∀ y H (Q : Bool → Hp → Prop), Q (!decide (V.str y = V.str x)) H → tt ((wipe σ vs).set j (some (.str y))) H Q)
    (hk : ∀ y H (Q : VK), Q (.str y) H → tk ((wipe σ vs).set j (some (.str y))) H Q)
    (hv : ∀ y z H (Q : VK), (∀ b o, b ≠ D → Hf b = some o → H b = some o) → valV kvs (Sum.inr y) = some z → Q z H → tv ((wipe σ vs).set j (some (.str y))) H Q)
    (hl : kvs.length < 1000) (hd : Qd (upd Hf D (.dK (dropV kvs x)))) :
    ∃ W : Nat → Nat → Hp → Prop, (∃ m, W 0 m (upd Hf D (.dK []))) ∧ ∀ i m H, W i m H →
      ((Itk th od kvs).stop i H ∧ Qd H) ∨ ((Itk th od kvs).go i H ∧ ∃ Nx : Hp → Prop, (∀ H', Nx H' → ∃ m', m' < m ∧ W (i + 1) m' H') ∧ ∀ x H', (Itk th od kvs).yld i H x H' → gName j x (wipe σ vs) H' fun σ2 H2 => wipe σ2 vs = wipe σ vs ∧ tt σ2 H2 fun b H3 =>
        if b = true then tk σ2 H3 fun y H4 => tv σ2 H4 fun z H5 => ∃ kvs k, y = kV k ∧ H5 D = some (.dK kvs) ∧ kvs.length < sizeLine ∧ Nx (upd H5 D (.dK (putK kvs k z))) else Nx H3) := by
  have thD : th ≠ D := ne_of_none hth nD
  have hndk : (kvs.map (·.1)).Nodup := by
    rw [hks]
    exact List.pairwise_map.mpr (hnd.imp fun {a b} ne e => ne (Sum.inr.inj e))
  refine dc_it walk_keys (fun i H' => H' = upd Hf D (.dK (dropV (kvs.take i) x))) rfl ?_ ?_ ?_
  · rintro i H' _ rfl
    rw [upd_ne thD]
    exact hth
  · rintro i v _ H' hi rfl ⟨rfl, k, u, e1, e2⟩
    have hmem : (k, u) ∈ kvs := List.mem_of_getElem? e1
    have hval := val_nodup hndk (k, u) hmem
    have hk2 : k ∈ ks.map Sum.inr := by rw [← hks]; exact List.mem_map.mpr ⟨_, hmem, rfl⟩
    obtain ⟨y, hy, ey⟩ := List.mem_map.mp hk2
    subst ey
    subst e2
    refine ⟨hw _, ht y _ _ ?_⟩
    have etake : kvs.take (i + 1) = kvs.take i ++ [(Sum.inr y, u)] := take_succ_get e1
    refine iteB (fun c => ?_) (fun c => ?_)
    · have hne : ¬ (Sum.inr y : Key) = Sum.inr x := fun z => by
        have : y = x := Sum.inr.inj z
        subst this
        rw [decide_eq_true rfl] at c
        cases c
      refine hk y _ _ (hv y u _ _ (fun b o hb e => by rw [upd_ne hb]; exact e) hval ⟨_, Sum.inr y, rfl, upd_same, ?_, ?_⟩)
      · refine Nat.lt_of_le_of_lt (Nat.le_trans (List.length_filter_le _ _) (List.length_take_le _ _)) (Nat.lt_trans hi (Nat.lt_trans hl (by decide)))
      · rw [upd_upd]
        have hnone : valV (dropV (kvs.take i) x) (Sum.inr y) = none := by
          refine look_filter _ ?_
          cases q : valV (kvs.take i) (Sum.inr y) with
          | none => rfl
          | some z =>
            exfalso
            have hm := valV_in q
            have h3 : (kvs.take (i + 1)).map (·.1) = (kvs.take i).map (·.1) ++ [Sum.inr y] := by rw [etake, List.map_append]; rfl
            have h4 : ((kvs.take (i + 1)).map (·.1)).Nodup := by
              rw [List.map_take]
              exact hndk.sublist (List.take_sublist _ _)
            rw [h3] at h4
            exact (List.nodup_append.mp h4).2.2 _ hm _ (List.mem_singleton.mpr rfl) rfl
        rw [putK_new _ hnone]
        unfold dropV
        rw [etake, List.filter_append, List.filter_cons_of_pos (by simp [hne])]
        rfl
    · have heq : (Sum.inr y : Key) = Sum.inr x := by
        rw [Bool.not_eq_false', decide_eq_true_eq] at c
        rw [V.str.inj c]
      unfold dropV
      rw [etake, List.filter_append, List.filter_cons_of_neg (by simp [heq])]
      simp
  · rintro H' rfl
    rw [List.take_length]
    exact hd
def spDrop (K : PySem.W.Frag) : Sp := fun vs H Q E => ∃ (b : Addr) (n : Nat) (x : Str) (G : Hp) (sts : List State) (st : State), vs = [.ref b, .str x] ∧ BSt K G H b n sts st ∧ Same G H ∧ G b = none ∧ (st.map (·.1)).Nodup ∧ sts.length < 900 ∧ st.length < 900 ∧
  (st.lookup x = none → ∀ e, H e = none → E (.ref (ga K "UnknownName")) (some e) (upd H e (.xd [("name", .str x)]))) ∧
  (∀ t, st.lookup x = some t → ∀ G2 H2, Go [b] G H G2 H2 → BSt K G2 H2 b n (sts ++ [st]) (dropS st x) → Q .non H2)
theorem sc_Bench_drop : FnScope ["self", "name", "other"] ["self", "name"] (defScope sBenchDrop) := ⟨rfl, rfl, rfl, by decide +kernel, rfl, by decide +kernel, by decide +kernel⟩
theorem ok_Bench_drop (T : Txt K mg) : FnOk P w K mg base (L2.CX P w) 5 (ma K (ga K "Bench") "drop") (fdAt K (ma K (ga K "Bench") "drop")) ["self", "name"] (spDrop K) := by
  refine T.f_Bench_drop.ok sc_Bench_drop (fun vs H Q E h => ?_) (fun cdv A outer s H vs Q E hr h => ?_)
  · obtain ⟨b, n, x, G, sts, st, rfl, _⟩ := h
    rfl
  obtain ⟨b, n, x, G, sts, st, rfl, hS, sG, hGb, hnd, hl1, hl2, bad, good⟩ := h
  obtain ⟨th, pa, xs, kvs, ⟨dx, hb⟩, hth, hkv, hpa, hpast⟩ := hS.ex
  have hthH := sG _ _ hth
  refine ⟨_, (pss_cons (ps_expr (m_thing_of T (hr.mono (by decide)) pass_own (pv 0) (pa_cons (pv 1) pa_nil)))
    (pss_one (ps_expr (m_change T (hr.mono (by decide)) (pv 0) (pa_cons (pe_lock (pe_dc (own := [("other", 2)]) rfl sc_Bench_drop.nd (pi_keys (pe_fldK (K := K) rfl (pv 0) rfl)) (blkOk_by (N := ["self", "name", "other"]) (sc := defScope sBenchDrop) (by decide +kernel)) (fun _ _ _ _ _ => pg_name (i := 2) sc_Bench_drop.nd rfl (Or.inl rfl)) (fun _ _ _ _ _ => (pts_one (pt_cmpR op_ne (pv 2) (pv 1) (nomark _)))) (fun _ _ _ _ _ => (pv 2)) (fun _ _ _ _ _ => (pe_dget (hu_of hr) (pe_fldK (K := K) rfl (pv 0) rfl) (pv 2) (fun _ _ => rfl))))) pa_nil))))), ?_⟩
  refine ⟨_, rfl, b, dx, _, rfl, hb, bm_none (by decide +kernel) (by decide +kernel) (by decide +kernel), _, rfl, b, n, th, pa, kvs, x, rfl, ⟨dx, hb⟩, hthH, fun v hv => ?_, fun hnone e ne => ?_⟩
  · have hlook : ∃ t, st.lookup x = some t := by
      rcases hkv.look x with ⟨v', t', e1, e2, _⟩ | ⟨e1, _⟩
      · exact ⟨t', e2⟩
      · rw [e1] at hv; cases hv
    obtain ⟨t, hlook⟩ := hlook
    refine ⟨_, rfl, b, dx, _, rfl, hb, bm_none (by decide +kernel) (by decide +kernel) (by decide +kernel), ?_⟩
    refine ⟨th, _, hthH, trivial, fun od => ?_⟩
    have hbt : b ≠ th := ne_of hb hthH (by intro z; cases z)
    refine ⟨_, rfl, b, _, _, _, _, rfl, (by rw [upd_ne hbt]; exact hb), T.ins_Bench.cl, T.n_Bench_things, b_things, th, od, rfl, .inl ⟨kvs, upd_same, fun D nD => ?_⟩⟩
    have thD : th ≠ D := fun z => by rw [z, upd_same] at nD; cases nD
    have nDH : H D = none := by rw [upd_ne (Ne.symm thD)] at nD; exact nD
    have hkl : kvs.length < 1000 := by rw [hkv.length]; omega
    refine drop_it (x := x) upd_same hkv.keys hnd nD (fun _ => rfl) (fun y H' Q' q' => ⟨_, rfl, _, rfl, rfl, _, rfl, q'⟩) (fun y H' Q' q' => rd_var rfl q') (fun y z H' Q' k hz q' => ?_) hkl ?_
    · have hbH : H' b = some (.ins (ga K "Bench") dx (bFs n th pa)) := k b _ (fun z => by rw [z, nDH] at hb; cases hb) (by rw [upd_ne hbt]; exact hb)
      exact ⟨_, rfl, b, _, _, _, _, rfl, hbH, T.ins_Bench.cl, T.n_Bench_things, b_things, _, rfl, th, z, rfl, .inl ⟨kvs, Sum.inr y, .inr ⟨od, k th _ thD upd_same⟩, rfl, hz.symm⟩, q'⟩
    · refine ⟨by rw [upd_ne thD, upd_same], ?_⟩
      have e8 : upd (upd (upd H th (.frz od (.dK kvs))) D (.dK (dropV kvs x))) th (.dK kvs) = upd H D (.dK (dropV kvs x)) := by
        funext c
        by_cases h1 : c = th
        · subst h1
          rw [upd_same, upd_ne thD]
          exact hthH.symm
        · rw [upd_ne h1]
          by_cases h2 : c = D
          · subst h2; rw [upd_same, upd_same]
          · rw [upd_ne h2, upd_ne h2, upd_ne h1]
      rw [e8]
      have g1 : Go [b] G H (upd G D (.dK (dropV kvs x))) (upd H D (.dK (dropV kvs x))) := (Go.start sG).new nDH
      obtain ⟨dx', fs, e1, e2, e3⟩ := change_rd (E := E0) hS sG hGb g1 (fun o e => by rw [upd_ne (ne_of_none e nDH)]; exact e) upd_same (hkv.mono g1.sub).drop hl1 (good t hlook)
      exact e3
  · refine bad ?_ e ne
    rcases hkv.look x with ⟨v', t', e1, e2, _⟩ | ⟨_, e2⟩
    · rw [e1] at hnone; cases hnone
    · exact e2
theorem bd_Bench_drop {K : PySem.W.Frag} {mg : Str → Option Value} (T : Txt K mg) : Binds K (fdAt K (ma K (ga K "Bench") "drop")) ["self", "name"] [] := T.f_Bench_drop.bindsN fun _ _ _ _ _ _ us hl => match us, hl with | [_, _], _ => rfl
theorem m_drop {X : Cx} {E : XK} {o e : Expr} {ta : TE} {es : List Expr} {t : TA} {apos pos : Pos} {pl : Sem Bool} (T : Txt X.K X.mg) (hr : Room 5 X.A) (hx : Passes (L2.CX X.prog X.w) X E) (ho : PE X o ta) (ha : PA X (e :: es) t) (hst : starEach (e :: es) X.env = (false, eval e X.env) :: starEach es X.env := by rfl) (hpl : (backTo pos (starEach es X.env)).any (·.1) = false := by rfl)
    (ht : eval (.Call (.Attribute o "drop" apos) (e :: es) [] pos) X.env = (do
      let ov ← eval o X.env
      standAt apos.atName
      let (f, first) ← holding [ov] (getMethod ov "drop" pl)
      callWith pos f first (backTo pos (starEach (e :: es) X.env)) (backToKw pos (keywordEach [] X.env))) := by rfl) :
    PE X (.Call (.Attribute o "drop" apos) (e :: es) [] pos) (tMeth (ga X.K "Bench") "drop" ((spDrop X.K)) [] E ta t) := pe_meth (pl := pl) ho T.ins_Bench.cl T.m_Bench_drop (ok_Bench_drop T) hr (bd_Bench_drop T) .nil hx ha hst hpl ht
/-! ### rename -/
def spRename (K : PySem.W.Frag) : Sp := fun vs H Q E => ∃ (b : Addr) (n : Nat) (x y : Str) (G : Hp) (sts : List State) (st : State), vs = [.ref b, .str x, .str y] ∧ BSt K G H b n sts st ∧ Same G H ∧ G b = none ∧ NameOk y ∧ (st.map (·.1)).Nodup ∧ sts.length < 900 ∧ st.length < 900 ∧
  (st.lookup x = none → ∀ e, H e = none → E (.ref (ga K "UnknownName")) (some e) (upd H e (.xd [("name", .str x)]))) ∧
  (∀ t, st.lookup x = some t → (st.lookup y).isSome = true → ∀ H1 e, Same H H1 → H1 e = none → E (.ref (ga K "NameTaken")) (some e) (upd H1 e (.xd [("name", .str y)]))) ∧
  (∀ t, st.lookup x = some t → st.lookup y = none → ∀ G2 H2, Go [b] G H G2 H2 → BSt K G2 H2 b n (sts ++ [st]) (dropS st x ++ [(y, t)]) → Q .non H2)
theorem sc_Bench_rename : FnScope ["self", "name", "other", "thing", "rest", "label"] ["self", "name", "other"] (defScope sBenchRename) := ⟨rfl, rfl, rfl, by decide +kernel, rfl, by decide +kernel, by decide +kernel⟩
theorem ok_Bench_rename (T : Txt K mg) : FnOk P w K mg base (L2.CX P w) 5 (ma K (ga K "Bench") "rename") (fdAt K (ma K (ga K "Bench") "rename")) ["self", "name", "other"] (spRename K) := by
  refine T.f_Bench_rename.ok sc_Bench_rename (fun vs H Q E h => ?_) (fun cdv A outer s H vs Q E hr h => ?_)
  · obtain ⟨b, n, x, y, G, sts, st, rfl, _⟩ := h
    rfl
  obtain ⟨b, n, x, y, G, sts, st, rfl, hS, sG, hGb, hy, hnd, hl1, hl2, bad, taken, good⟩ := h
  obtain ⟨th, pa, xs, kvs, ⟨dx, hb⟩, hth, hkv, hpa, hpast⟩ := hS.ex
  have hthH := sG _ _ hth
  refine ⟨_, (pss_cons (ps_set (i := 3) sc_Bench_rename.nd rfl (Or.inl rfl) (m_thing_of T (hr.mono (by decide)) pass_own (pv 0) (pa_cons (pv 1) pa_nil)))
    (pss_cons (ps_expr (m_check_new_name T (hr.mono (by decide)) pass_own (pv 0) (pa_cons (pv 2) pa_nil)))
    (pss_cons (ps_lock (ps_setDc (i := 4) (y := "rest") (own := [("label", 5)]) rfl sc_Bench_rename.nd rfl rfl (sw_trueD rfl rfl rfl (by decide +kernel)) (pi_keys (pe_fldK (K := K) rfl (pv 0) rfl)) (blkOk_by (N := ["self", "name", "other", "thing", "rest", "label"]) (sc := defScope sBenchRename) (by decide +kernel)) (fun _ _ _ _ _ => pg_name (i := 5) sc_Bench_rename.nd rfl (Or.inl rfl)) (fun _ _ _ _ _ => (pts_one (pt_cmpR op_ne (pv 5) (pv 1) (nomark _)))) (fun _ _ _ _ _ => (pv 5)) (fun _ _ _ _ _ => (pe_dget (hu_of hr) (pe_fldK (K := K) rfl (pv 0) rfl) (pv 5) (fun _ _ => rfl)))))
    (pss_one (ps_expr (m_change T (hr.mono (by decide)) (pv 0) (pa_cons (pe_dmerge (pv 4) (pv 2) (pv 3)) pa_nil))))))), ?_⟩
  refine ⟨_, rfl, b, dx, _, rfl, hb, bm_none (by decide +kernel) (by decide +kernel) (by decide +kernel), _, rfl, b, n, th, pa, kvs, x, rfl, ⟨dx, hb⟩, hthH, fun v hv => ?_, fun hnone e ne => ?_⟩
  · have hlook : ∃ t, st.lookup x = some t ∧ PT K G n v t := by
      rcases hkv.look x with ⟨v', t', e1, e2, e3⟩ | ⟨e1, _⟩
      · rw [hv] at e1; cases e1
        exact ⟨t', e2, e3⟩
      · rw [e1] at hv; cases hv
    obtain ⟨t, hlook, hpt⟩ := hlook
    refine ⟨_, rfl, b, dx, _, rfl, hb, bm_none (by decide +kernel) (by decide +kernel) (by decide +kernel), _, rfl, b, n, th, pa, kvs, y, rfl, ⟨dx, hb⟩, hthH, hy, fun hnone H1 s1 => ?_, fun hsome H1 e s1 ne => ?_⟩
    · have hlooky : st.lookup y = none := by
        rcases hkv.look y with ⟨v', t', e1, _⟩ | ⟨_, e2⟩
        · rw [hnone] at e1; cases e1
        · exact e2
      have hb1 := s1 _ _ hb
      have hth1 := s1 _ _ hthH
      refine ⟨th, _, hth1, trivial, fun od => ?_⟩
      have hbt : b ≠ th := ne_of hb hthH (by intro z; cases z)
      refine ⟨_, rfl, b, _, _, _, _, rfl, (by rw [upd_ne hbt]; exact hb1), T.ins_Bench.cl, T.n_Bench_things, b_things, th, od, rfl, .inl ⟨kvs, upd_same, fun D nD => ?_⟩⟩
      have thD : th ≠ D := fun z => by rw [z, upd_same] at nD; cases nD
      have nDH1 : H1 D = none := by rw [upd_ne (Ne.symm thD)] at nD; exact nD
      have hkl : kvs.length < 1000 := by rw [hkv.length]; omega
      refine drop_it (x := x) upd_same hkv.keys hnd nD (fun _ => rfl) (fun y H' Q' q' => ⟨_, rfl, _, rfl, rfl, _, rfl, q'⟩) (fun y H' Q' q' => rd_var rfl q') (fun y z H' Q' k hz q' => ?_) hkl ?_
      · have hbH : H' b = some (.ins (ga K "Bench") dx (bFs n th pa)) := k b _ (fun z => by rw [z, nDH1] at hb1; cases hb1) (by rw [upd_ne hbt]; exact hb1)
        exact ⟨_, rfl, b, _, _, _, _, rfl, hbH, T.ins_Bench.cl, T.n_Bench_things, b_things, _, rfl, th, z, rfl, .inl ⟨kvs, Sum.inr y, .inr ⟨od, k th _ thD upd_same⟩, rfl, hz.symm⟩, q'⟩
      · refine ⟨by rw [upd_ne thD, upd_same], ?_⟩
        have e8 : upd (upd (upd H1 th (.frz od (.dK kvs))) D (.dK (dropV kvs x))) th (.dK kvs) = upd H1 D (.dK (dropV kvs x)) := by
          funext c
          by_cases h1 : c = th
          · subst h1
            rw [upd_same, upd_ne thD]
            exact hth1.symm
          · rw [upd_ne h1]
            by_cases h2 : c = D
            · subst h2; rw [upd_same, upd_same]
            · rw [upd_ne h2, upd_ne h2, upd_ne h1]
        rw [e8]
        have sD : Same H1 (upd H1 D (.dK (dropV kvs x))) := same_new nDH1
        refine ⟨_, rfl, b, dx, _, rfl, sD _ _ hb1, bm_none (by decide +kernel) (by decide +kernel) (by decide +kernel), ?_⟩
        refine merge_rd (a := D) (kvs := dropV kvs x) (k := Sum.inr y) (z := v) (fun H' s' Q' q' => rd_var rfl q') (fun H' s' Q' q' => rd_var rfl q') (fun H' s' Q' q' => rd_var rfl q') upd_same (Nat.lt_of_le_of_lt (List.length_filter_le _ _) hkl) fun Hf p sf np hpf => ?_
        have sHf : Same H Hf := (s1.trans sD).trans sf
        have np' : H p = none := (s1.trans sD).free np
        have hpG : G p = none := sG.free np'
        have g1 : Go [b] G H (upd G p (.dK (putK (dropV kvs x) (Sum.inr y) v))) Hf := ((Go.start sG).same sHf).freeze hpf np' hpG
        obtain ⟨dx', fs, e1, e2, e3⟩ := change_rd (E := E0) hS sG hGb g1 (fun o e => sHf _ _ e) upd_same ((hkv.mono g1.sub).drop.new (look_filter _ hnone) (hpt.mono g1.sub)) hl1 (good t hlook hlooky)
        exact e3
    · refine taken t hlook ?_ H1 e s1 ne
      rcases hkv.look y with ⟨v', t', e1, e2, _⟩ | ⟨e1, _⟩
      · rw [e2]; rfl
      · rw [e1] at hsome; cases hsome
  · refine bad ?_ e ne
    rcases hkv.look x with ⟨v', t', e1, e2, _⟩ | ⟨_, e2⟩
    · rw [e1] at hnone; cases hnone
    · exact e2
theorem bd_Bench_rename {K : PySem.W.Frag} {mg : Str → Option Value} (T : Txt K mg) : Binds K (fdAt K (ma K (ga K "Bench") "rename")) ["self", "name", "other"] [] := T.f_Bench_rename.bindsN fun _ _ _ _ _ _ us hl => match us, hl with | [_, _, _], _ => rfl
theorem m_rename {X : Cx} {E : XK} {o e : Expr} {ta : TE} {es : List Expr} {t : TA} {apos pos : Pos} {pl : Sem Bool} (T : Txt X.K X.mg) (hr : Room 5 X.A) (hx : Passes (L2.CX X.prog X.w) X E) (ho : PE X o ta) (ha : PA X (e :: es) t) (hst : starEach (e :: es) X.env = (false, eval e X.env) :: starEach es X.env := by rfl) (hpl : (backTo pos (starEach es X.env)).any (·.1) = false := by rfl)
    (ht : eval (.Call (.Attribute o "rename" apos) (e :: es) [] pos) X.env = (do
      let ov ← eval o X.env
      standAt apos.atName
      let (f, first) ← holding [ov] (getMethod ov "rename" pl)
      callWith pos f first (backTo pos (starEach (e :: es) X.env)) (backToKw pos (keywordEach [] X.env))) := by rfl) :
    PE X (.Call (.Attribute o "rename" apos) (e :: es) [] pos) (tMeth (ga X.K "Bench") "rename" ((spRename X.K)) [] E ta t) := pe_meth (pl := pl) ho T.ins_Bench.cl T.m_Bench_rename (ok_Bench_rename T) hr (bd_Bench_rename T) .nil hx ha hst hpl ht
/-! ### undo -/
def spUndo (K : PySem.W.Frag) : Sp := fun vs H Q E => ∃ (b : Addr) (n : Nat) (G : Hp) (sts : List State) (st : State), vs = [.ref b] ∧ BSt K G H b n sts st ∧ Same G H ∧ G b = none ∧ sts.length < 900 ∧
  (sts = [] → ∀ H1, Same H H1 → E (.ref (ga K "NothingToUndo")) none H1) ∧
  (∀ sts' st', sts = sts' ++ [st'] → ∀ G2 H2, Go [b] G H G2 H2 → BSt K G2 H2 b n sts' st' → Q .non H2)
theorem snoc_cases {α : Type} : ∀ l : List α, l = [] ∨ ∃ l' a, l = l' ++ [a]
  | [] => .inl rfl
  | a :: l => by
    rcases snoc_cases l with h | ⟨l', b, h⟩
    · exact .inr ⟨[], a, by rw [h]; rfl⟩
    · exact .inr ⟨a :: l', b, by rw [h]; rfl⟩
theorem Paired.unsnoc {α β : Type} {R : α → β → Prop} : ∀ {xs : List α} {ys : List β} {y : β}, Paired R xs (ys ++ [y]) → ∃ xs' x, xs = xs' ++ [x] ∧ Paired R xs' ys ∧ R x y
  | _, [], _, .cons h .nil => ⟨[], _, rfl, .nil, h⟩
  | _, _ :: ys, y, .cons h r => by
    obtain ⟨xs', x, e, h1, h2⟩ := Paired.unsnoc r
    exact ⟨_ :: xs', x, by rw [e]; rfl, .cons h h1, h2⟩
theorem cut_init {xs : List V} {x : V} : cutV (xs ++ [x]) none (some (-1)) = xs := by
  have h1 : HT.sIx (xs ++ [x]).length 0 none = 0 := rfl
  have h2 : HT.sIx (xs ++ [x]).length (xs ++ [x]).length (some (-1)) = xs.length := by
    show (if (-1 : Int) < 0 then ((-1 : Int) + ((xs ++ [x]).length : Int)).toNat else min (-1 : Int).toNat (xs ++ [x]).length) = xs.length
    rw [if_pos (by decide), List.length_append, List.length_singleton]
    omega
  unfold cutV
  rw [h1, h2]
  simp
theorem sc_Bench_undo : FnScope ["self"] ["self"] (defScope sBenchUndo) := ⟨rfl, rfl, rfl, by decide +kernel, rfl, by decide +kernel, by decide +kernel⟩
theorem ok_Bench_undo (T : Txt K mg) : FnOk P w K mg base (L2.CX P w) 4 (ma K (ga K "Bench") "undo") (fdAt K (ma K (ga K "Bench") "undo")) ["self"] (spUndo K) := by
  refine T.f_Bench_undo.ok sc_Bench_undo (fun vs H Q E h => ?_) (fun cdv A outer s H vs Q E hr h => ?_)
  · obtain ⟨b, n, G, sts, st, rfl, _⟩ := h
    rfl
  obtain ⟨b, n, G, sts, st, rfl, hS, sG, hGb, hl1, bad, good⟩ := h
  obtain ⟨th, pa, xs, kvs, ⟨dx, hb⟩, hth, hkv, hpa, hpast⟩ := hS.ex
  have hpaH := sG _ _ hpa
  refine ⟨_, (pss_cons (ps_if (pt_cmpR (op_eqN hr.units0) (pe_fld (pv 0) rfl) (pe_lst pa_nil) (nomark _)) (pss_one (r_NothingToUndo T (hr.mono (by decide)) (takes_of rfl rfl rfl rfl))) pss_nil)
    (pss_cons (ps_fld (pv 0) (pe_ix ix_list (pe_fld (pv 0) rfl) (pe_un un_neg pe_int) (fun _ _ => rfl)) rfl)
    (pss_one (ps_fld (pv 0) (pe_slice sl_list (pe_fld (pv 0) rfl) po_none (po_some (pe_un un_neg pe_int))) rfl)))), ?_⟩
  refine ⟨_, rfl, b, _, _, _, _, rfl, hb, T.ins_Bench.cl, T.n_Bench_past, b_past, Nat.zero_le _, fun z nz => ?_⟩
  have s1 : Same H (upd H z (.lst [])) := same_new nz
  refine ⟨pa, z, xs, rfl, rfl, s1 _ _ hpaH, upd_same, _, rfl, ?_⟩
  rcases snoc_cases sts with e | ⟨sts', st', e⟩
  · subst e
    cases hpast
    exact iteT (bad rfl _ s1)
  · subst e
    obtain ⟨xs', x, ex, hp1, ⟨th', kvs', ev, hth', hkv'⟩⟩ := Paired.unsnoc hpast
    subst ex
    subst ev
    have hne : (xs' ++ [V.ref th']).isEmpty = false := by simp
    rw [hne]
    refine iteF ?_
    have hb1 := s1 _ _ hb
    have hpa1 := s1 _ _ hpaH
    refine ⟨_, rfl, b, _, _, _, _, rfl, hb1, T.ins_Bench.cl, T.n_Bench_past, b_past, _, rfl, _, _, _, _, rfl, rfl, SqL.of hpa1, atI_last _ _, ?_⟩
    refine ⟨_, rfl, b, _, _, _, rfl, hb1, T.ins_Bench.cl, T.n_Bench_things, (by show 3 < 1000; decide), ?_⟩
    rw [put_things]
    have hpab : pa ≠ b := ne_of hpaH hb (by intro z; cases z)
    have zb : z ≠ b := Ne.symm (ne_of_none hb nz)
    refine ⟨_, rfl, b, _, _, _, _, rfl, upd_same, T.ins_Bench.cl, T.n_Bench_past, b_past, ?_⟩
    refine ⟨_, rfl, _, rfl, pa, _, rfl, SqL.of (xs := xs' ++ [V.ref th']) (by rw [upd_ne hpab]; exact hpa1), fun p np => ?_⟩
    have pb : p ≠ b := fun e => by rw [e, upd_same] at np; cases np
    rw [show cutV (xs' ++ [V.ref th']) none (some (-1)) = xs' from cut_init]
    refine ⟨_, rfl, b, _, _, _, rfl, (by rw [upd_ne (Ne.symm pb), upd_same]), T.ins_Bench.cl, T.n_Bench_past, (by show 3 < 1000; decide), ?_⟩
    rw [put_past]
    have g1 : Go [b] G H G (upd (upd H z (.lst [])) b (.ins (ga K "Bench") dx (bFs n th' pa))) := ((Go.start sG).tmp nz).put (.inl List.mem_cons_self) hGb
    have g2 := g1.new (o := .lst xs') np
    have hpG : G p = none := g1.offNew np
    have hGb2 : upd G p (.lst xs') b = none := by rw [upd_ne (Ne.symm pb)]; exact hGb
    have g3 := g2.put (p := b) (o := .ins (ga K "Bench") dx (bFs n th' p)) (.inl List.mem_cons_self) hGb2
    have sp : Same G (upd G p (.lst xs')) := same_new hpG
    exact good sts' st' rfl _ _ g3 ⟨th', p, xs', kvs', ⟨dx, upd_same⟩, sp _ _ hth', hkv'.mono sp, upd_same, PPast.mono sp hp1⟩
theorem bd_Bench_undo {K : PySem.W.Frag} {mg : Str → Option Value} (T : Txt K mg) : Binds K (fdAt K (ma K (ga K "Bench") "undo")) ["self"] [] := T.f_Bench_undo.bindsN fun _ _ _ _ _ _ us hl => match us, hl with | [_], _ => rfl
theorem m_undo {X : Cx} {E : XK} {o : Expr} {ta : TE} {apos pos : Pos} {pl : Sem Bool} (T : Txt X.K X.mg) (hr : Room 4 X.A) (hx : Passes (L2.CX X.prog X.w) X E) (ho : PE X o ta)
    (ht : eval (.Call (.Attribute o "undo" apos) [] [] pos) X.env = (do
      let ov ← eval o X.env
      standAt apos.atName
      let (f, first) ← holding [ov] (getMethod ov "undo" pl)
      callWith pos f first (backTo pos (starEach [] X.env)) (backToKw pos (keywordEach [] X.env))) := by rfl) :
    PE X (.Call (.Attribute o "undo" apos) [] [] pos) (tMeth (ga X.K "Bench") "undo" ((spUndo X.K)) [] E ta tNil) := pe_meth0 (pl := pl) ho T.ins_Bench.cl T.m_Bench_undo (ok_Bench_undo T) hr (bd_Bench_undo T) .nil hx ht
end
end K57
/-! D14 -/
namespace K57
open PySem PySem.Spec PyProof.Rows L2 He
/-! ### all that is new stands -/
abbrev fzt (G H Hf : Hp) : Hp := gt (fz G H Hf) Hf
theorem fzt_new {G H Hf : Hp} {p : Addr} {o : HO} (h : H p = none) (e : Hf p = some o) : fzt G H Hf p = some o := by
  unfold fzt gt
  rw [e]
  cases o <;> first | rfl | exact (fz_new h).trans e
theorem Go.fzt {M : List Addr} {G H Hf : Hp} (sG : Same G H) (s : Same H Hf) : Go M G H (K57.fzt G H Hf) Hf := ((Go.start sG).fz s).tups
/-! ### what adding an item comes to -/
inductive AddR where
  | ok (t : Thing)
  | step
  | pair
  | row
  | ring (l : List Int)
def intsOf (d : PyData) : List Int := (itemsD d).map toI
def addT (n : Nat) (t : Thing) (d : PyData) : AddR := match t.k with
  | .net => if stepB n d = true then .ok ⟨.net, t.rows ++ [intsOf d]⟩ else .step
  | .ord => if pairB n d = true then (if ringL n (warsh n (initR (t.rows ++ [intsOf d]))) = [] then .ok ⟨.ord, closedL n (t.rows ++ [intsOf d])⟩ else .ring (ringL n (warsh n (initR (t.rows ++ [intsOf d]))))) else .pair
  | .tst => if testB n d = true then .ok ⟨.tst, t.rows ++ [intsOf d]⟩ else .row
/-- a thing's rows are what they should be -/
def RowsOk (n : Nat) (t : Thing) : Prop := t.rows.length < 90 ∧ match t.k with
  | .net => ∀ r ∈ t.rows, StepRow n r
  | .ord => ∀ r ∈ t.rows, PairRow n r ∧ pairB n (tupD r) = true
  | .tst => ∀ r ∈ t.rows, TestRow n r
theorem intsOf_tup (r : List Int) : intsOf (tupD r) = r := map_toI r
theorem step_ok {n : Nat} {r : List Int} (h : StepRow n r) : stepB n (tupD r) = true := by
  obtain ⟨a, b, h1, h2, e⟩ := h
  subst e
  show (lineB n (.int a) && (lineB n (.int b) && ltD (.int a) (.int b))) = true
  simp [lineB, ltD]
  omega
theorem map_intsOf : ∀ rows : List (List Int), (rows.map tupD).map intsOf = rows
  | [] => rfl
  | r :: rows => by
    show intsOf (tupD r) :: (rows.map tupD).map intsOf = r :: rows
    rw [intsOf_tup, map_intsOf rows]
theorem rows_snoc {rows rows' : List (List Int)} {d : PyData} (h : rows.map tupD ++ [d] = rows'.map tupD) : rows' = rows ++ [intsOf d] ∧ d = tupD (intsOf d) := by
  rcases snoc_cases rows' with e | ⟨l, a, e⟩
  · subst e
    have := congrArg List.length h
    simp at this
  · subst e
    rw [List.map_append] at h
    obtain ⟨h1, h2⟩ := List.append_inj' h rfl
    have e2 : d = tupD a := by
      injection h2
    have e1 : rows = l := by
      have := congrArg (List.map intsOf) h1
      rw [map_intsOf, map_intsOf] at this
      exact this
    subst e1
    subst e2
    rw [intsOf_tup]
    exact ⟨rfl, rfl⟩
/-- the last one only may be refused -/
theorem refused_last {H : Hp} {C : Addr} {f : Str} {ok : PyData → Bool} {xs : List V} {ds : List PyData} {v : V} {d : PyData} {E : XK} (hl : xs.length = ds.length) (hall : ∀ x ∈ ds, ok x = true)
    (bad : ok d = false → ∀ (H1 : Hp) (e : Addr), Same H H1 → H1 e = none → E (.ref C) (some e) (upd H1 e (.xd [(f, v)]))) : Refused H C f ok (xs ++ [v]) (ds ++ [d]) E := by
  intro i u du hu hdu hno _ H1 e s ne
  by_cases hi : i < ds.length
  · rw [List.getElem?_append_left hi] at hdu
    rw [hall du (List.mem_of_getElem? hdu)] at hno
    cases hno
  · have hi2 : i = ds.length := by
      have := (List.getElem?_eq_some_iff.mp hdu).1
      rw [List.length_append, List.length_singleton] at this
      omega
    subst hi2
    rw [List.getElem?_append_right (Nat.le_refl _)] at hdu
    rw [List.getElem?_append_right (by omega), hl] at hu
    simp at hu hdu
    subst hu
    subst hdu
    exact bad hno H1 e s ne
def spAdd (K : PySem.W.Frag) : Sp := fun vs H Q E => ∃ (b : Addr) (n : Nat) (x : Str) (v : V) (d : PyData) (G : Hp) (sts : List State) (st : State), vs = [.ref b, .str x, v] ∧ 1 ≤ n ∧ n ≤ 60 ∧ BSt K G H b n sts st ∧ Same G H ∧ G b = none ∧ Dq H v d ∧ (isSq d = true → (itemsD d).length ≤ 4000) ∧ sts.length < 900 ∧ st.length < 900 ∧
  (st.lookup x = none → ∀ e, H e = none → E (.ref (ga K "UnknownName")) (some e) (upd H e (.xd [("name", .str x)]))) ∧
  (∀ t, st.lookup x = some t → RowsOk n t ∧ match addT n t d with
    | .ok t' => ∀ G2 H2, Go [b] G H G2 H2 → BSt K G2 H2 b n (sts ++ [st]) (setS st x t') → Q .non H2
    | .step => ∀ H1 e, Same H H1 → H1 e = none → E (.ref (ga K "InvalidStep")) (some e) (upd H1 e (.xd [("value", v)]))
    | .pair => ∀ H1 e, Same H H1 → H1 e = none → E (.ref (ga K "InvalidPair")) (some e) (upd H1 e (.xd [("value", v)]))
    | .row => ∀ H1 e, Same H H1 → H1 e = none → E (.ref (ga K "InvalidRow")) (some e) (upd H1 e (.xd [("value", v)]))
    | .ring l => ∀ H1 e l1, Same H H1 → H l1 = none → H1 l1 = some (.lst (l.map V.int)) → H1 e = none → E (.ref (ga K "Ring")) (some e) (upd H1 e (.xd [("lines", .ref l1)])))
theorem small_list {n : Nat} (h : n ≤ 1001) : n ≤ sizeLine := Nat.le_trans h (by decide)
section
variable {P : Program} {w : World} {K : PySem.W.Frag} {mg : Str → Option Value} {base : Heap}
theorem bi_Network (T : Txt K mg) : Binds K (fdAt K (ma K (ga K "Network") "__iter__")) ["self"] [] := T.f_Network_iter.bindsN fun _ _ _ _ _ _ us hl => match us, hl with | [_], _ => rfl
theorem bi_Order (T : Txt K mg) : Binds K (fdAt K (ma K (ga K "Order") "__iter__")) ["self"] [] := T.f_Order_iter.bindsN fun _ _ _ _ _ _ us hl => match us, hl with | [_], _ => rfl
theorem bl_Network (T : Txt K mg) : Binds K (fdAt K (ma K (ga K "Network") "__len__")) ["self"] [] := T.f_Network_len.bindsN fun _ _ _ _ _ _ us hl => match us, hl with | [_], _ => rfl
theorem bl_Order (T : Txt K mg) : Binds K (fdAt K (ma K (ga K "Order") "__len__")) ["self"] [] := T.f_Order_len.bindsN fun _ _ _ _ _ _ us hl => match us, hl with | [_], _ => rfl
theorem star_Network {X : Cx} {e : Expr} {es : List Expr} {te : TE} {t : TA} {p : Pos} (T : Txt X.K X.mg) (hr : Room 4 X.A) (he : PE X e te) (hra : PA X es t) (hs : starEach (.Starred e p :: es) X.env = (true, eval e X.env) :: starEach es X.env := by rfl) :
    PA X (.Starred e p :: es) (tStarOwn (ga X.K "Network") "own_steps" te t) := pa_starOwn (k := 1) T.m_Network___iter__ T.m_Network___len__ (ok_Network_iter T) (bi_Network T) (ok_Network_len T) (bl_Network T) hr he hra hs
theorem star_Order {X : Cx} {e : Expr} {es : List Expr} {te : TE} {t : TA} {p : Pos} (T : Txt X.K X.mg) (hr : Room 4 X.A) (he : PE X e te) (hra : PA X es t) (hs : starEach (.Starred e p :: es) X.env = (true, eval e X.env) :: starEach es X.env := by rfl) :
    PA X (.Starred e p :: es) (tStarOwn (ga X.K "Order") "own_pairs" te t) := pa_starOwn (k := 1) T.m_Order___iter__ T.m_Order___len__ (ok_Order_iter T) (bi_Order T) (ok_Order_len T) (bl_Order T) hr he hra hs
/-- the end: the longer thing goes in -/
theorem add_end {G H Hl : Hp} {b dx : Addr} {n : Nat} {x : Str} {sts : List State} {st : State} {v0 vl : V} {t' : Thing} {kvs : List (Key × V)} {th pa : Addr} {Q : VK} (hS : BSt K G H b n sts st) (sG : Same G H) (hGb : G b = none) (hb : H b = some (.ins (ga K "Bench") dx (bFs n th pa)))
    (hth : G th = some (.dK kvs)) (hkv : PDict K G n kvs st) (hv : valV kvs (Sum.inr x) = some v0) (s1 : Same H Hl) (hpt : ∀ Hf, Same Hl Hf → PT K (fzt G H Hf) n vl t') (hl1 : sts.length < 900) (hl2 : st.length < 900)
    (good : ∀ G2 H2, Go [b] G H G2 H2 → BSt K G2 H2 b n (sts ++ [st]) (setS st x t') → Q .non H2) (Hf : Hp) (p : Addr) (sf : Same Hl Hf) (np : Hl p = none) (hpf : Hf p = some (.dK (putK kvs (Sum.inr x) vl))) : spChange K [.ref b, .ref p] Hf Q E0 := by
  have sHf : Same H Hf := s1.trans sf
  have g1 : Go [b] G H (fzt G H Hf) Hf := Go.fzt sG sHf
  obtain ⟨dx', fs, e1, e2, e3⟩ := change_rd (E := E0) hS sG hGb g1 (fun o e => sHf _ _ e) (fzt_new (s1.free np) hpf) ((hkv.mono g1.sub).set hv (hpt Hf sf)) hl1 good
  exact e3
theorem sc_Bench_add : FnScope ["self", "name", "item", "thing", "longer"] ["self", "name", "item"] (defScope sBenchAdd) := ⟨rfl, rfl, rfl, by decide +kernel, rfl, by decide +kernel, by decide +kernel⟩
theorem ok_Bench_add (T : Txt K mg) : FnOk P w K mg base (L2.CX P w) 7 (ma K (ga K "Bench") "add") (fdAt K (ma K (ga K "Bench") "add")) ["self", "name", "item"] (spAdd K) := by
  refine T.f_Bench_add.ok sc_Bench_add (fun vs H Q E h => ?_) (fun cdv A outer s H vs Q E hr h => ?_)
  · obtain ⟨b, n, x, v, d, G, sts, st, rfl, _⟩ := h
    rfl
  obtain ⟨b, n, x, v, d, G, sts, st, rfl, h1, h2, hS, sG, hGb, hd, hz, hl1, hl2, bad, good⟩ := h
  obtain ⟨th, pa, xs, kvs, ⟨dx, hb⟩, hth, hkv, hpa, hpast⟩ := hS.ex
  have hthH := sG _ _ hth
  refine ⟨_, (pss_cons (ps_set (i := 3) sc_Bench_add.nd rfl (Or.inl rfl) (m_thing_of T (hr.mono (by decide)) pass_own (pv 0) (pa_cons (pv 1) pa_nil)))
    (pss_cons (ps_if (pt_val (b_isinstance call_isi T (pa_cons (pv 3) (pa_cons (n_Network T) pa_nil)))) (pss_one (ps_set (i := 4) sc_Bench_add.nd rfl (Or.inl rfl) (c_Network T (hr.mono (by decide)) pass_own (pa_cons (pe_fld (pv 0) rfl) (pa_cons (pe_lst (star_Network T (hr.mono (by decide)) (pv 3) (pa_cons (pv 2) pa_nil))) pa_nil))))) (pss_one (ps_if (pt_val (b_isinstance call_isi T (pa_cons (pv 3) (pa_cons (n_Order T) pa_nil)))) (pss_one (ps_set (i := 4) sc_Bench_add.nd rfl (Or.inl rfl) (c_Order T (hr.mono (by decide)) pass_own (pa_cons (pe_fld (pv 0) rfl) (pa_cons (pe_lst (star_Order T (hr.mono (by decide)) (pv 3) (pa_cons (pv 2) pa_nil))) pa_nil))))) (pss_cons (ps_if (pt_not (pt_val (c_is_test T (hr.mono (by decide)) (pa_cons (pe_fld (pv 0) rfl) (pa_cons (pv 2) pa_nil))))) (pss_one (r_InvalidRow T (hr.mono (by decide)) (takes_of rfl rfl rfl rfl) (pa_cons (pv 2) pa_nil) (mono_var _))) pss_nil)
    (pss_cons (ps_if (pt_cmpR op_eq (b_len call_len_seq T (pa_cons (pv 3) pa_nil)) (n_MOST_TESTS T) (nomark _)) (pss_one ps_never) pss_nil)
    (pss_one (ps_set (i := 4) sc_Bench_add.nd rfl (Or.inl rfl) (pe_tup (StX.pa_star (pv 3) (pa_cons (t_tuple call_tuple_of T (pa_cons (pv 2) pa_nil)) pa_nil))))))))))
    (pss_one (ps_expr (m_change T (hr.mono (by decide)) (pv 0) (pa_cons (pe_dmerge (pe_fld (pv 0) rfl) (pv 1) (pv 4)) pa_nil)))))), ?_⟩
  refine ⟨_, rfl, b, dx, _, rfl, hb, bm_none (by decide +kernel) (by decide +kernel) (by decide +kernel), _, rfl, b, n, th, pa, kvs, x, rfl, ⟨dx, hb⟩, hthH, fun v0 hv => ?_, fun hnone e ne => ?_⟩
  · obtain ⟨t, hlook, hpt⟩ : ∃ t, st.lookup x = some t ∧ PT K G n v0 t := by
      rcases hkv.look x with ⟨v', t', e1, e2, e3⟩ | ⟨e1, _⟩
      · rw [hv] at e1; cases e1
        exact ⟨t', e2, e3⟩
      · rw [e1] at hv; cases hv
    obtain ⟨hrows, good⟩ := good t hlook
    have hkl : kvs.length < 1000 := by rw [hkv.length]; omega
    have fin : ∀ (Hl : Hp) (vl : V) (t' : Thing), Same H Hl → (∀ Hf, Same Hl Hf → PT K (fzt G H Hf) n vl t') → (∀ G2 H2, Go [b] G H G2 H2 → BSt K G2 H2 b n (sts ++ [st]) (setS st x t') → Q .non H2) →
        tMergeD (tFld K (tVar 0) "things") (tVar 1) (tVar 4) [some (.ref b), some (.str x), some v, some v0, some vl] Hl (fun y H' => spChange K [.ref b, y] H' Q E0) := fun Hl vl t' s1 hp' hg => by
      have hbl := s1 _ _ hb
      refine merge_rd (a := th) (kvs := kvs) (k := Sum.inr x) (z := vl) (fun H' s' Q' q' => ?_) (fun H' s' Q' q' => rd_var rfl q') (fun H' s' Q' q' => rd_var rfl q') (s1 _ _ hthH) hkl fun Hf p sf np hpf => ?_
      · exact ⟨_, rfl, b, _, _, _, _, rfl, s' _ _ hbl, T.ins_Bench.cl, T.n_Bench_things, b_things, q'⟩
      · exact add_end hS sG hGb hb hth hkv hv s1 hp' hl1 hl2 hg Hf p sf np hpf
    obtain ⟨k, rows⟩ := t
    obtain ⟨hrl, hrows⟩ := hrows
    have hrl' : rows.length < 90 := hrl
    cases k with
    | net =>
      obtain ⟨y, rfl, hy⟩ := hpt
      obtain ⟨tu, ys, ⟨dy, hy1⟩, hy2, hy3⟩ := hy.at_
      have hyH := sG _ _ hy1
      have hylen : ys.length = rows.length := by
        have := hy3.length
        rw [List.length_map] at this
        exact this
      refine ⟨_, rfl, _, _, _, _, _, rfl, .own _, .base (.ins hyH T.ins_Network.cl T.ins_Network.ha T.ins_Network.hn T.ins_Network.htk T.ins_Network.hm), T.q_Network_Network, _, rfl, ?_⟩
      refine iteT ?_
      refine ⟨_, rfl, b, _, _, _, _, rfl, hb, T.ins_Bench.cl, T.n_Bench_own_size, b_size, ?_⟩
      refine ⟨_, rfl, y, dy, _, tu, ys, rfl, hyH, get_rows (by decide), sG _ _ hy2, fun H2 s2 => ⟨_, rfl, ?_, fun l nl => ?_⟩⟩
      · rw [List.length_append, List.length_singleton]
        exact small_list (by omega)
      have s3 : Same H (upd H2 l (.lst (ys ++ [v]))) := s2.trans (same_new nl)
      have good' : (match (if stepB n d = true then AddR.ok ⟨.net, rows ++ [intsOf d]⟩ else .step) with
        | .ok t' => ∀ G2 H2, Go [b] G H G2 H2 → BSt K G2 H2 b n (sts ++ [st]) (setS st x t') → Q .non H2
        | .step => ∀ H1 e, Same H H1 → H1 e = none → E (.ref (ga K "InvalidStep")) (some e) (upd H1 e (.xd [("value", v)]))
        | .pair => ∀ H1 e, Same H H1 → H1 e = none → E (.ref (ga K "InvalidPair")) (some e) (upd H1 e (.xd [("value", v)]))
        | .row => ∀ H1 e, Same H H1 → H1 e = none → E (.ref (ga K "InvalidRow")) (some e) (upd H1 e (.xd [("value", v)]))
        | .ring l => ∀ H1 e l1, Same H H1 → H l1 = none → H1 l1 = some (.lst (l.map V.int)) → H1 e = none → E (.ref (ga K "Ring")) (some e) (upd H1 e (.xd [("lines", .ref l1)]))) := good
      refine net_mk (ds := rows.map tupD ++ [d]) h1 h2 upd_same ((hy3.mono (sG.trans s3)).snoc (hd.mono s3)) (refused_last (by rw [List.length_map]; exact hylen) (fun e he => ?_) fun hno H1 e s ne => ?_) fun rows' er hr' H1 z s nz hz => ?_
      · obtain ⟨r, hr, e1⟩ := List.mem_map.mp he
        subst e1
        exact step_ok (hrows r hr)
      · rw [hno] at good'
        exact good' H1 e (s3.trans s) ne
      · obtain ⟨e1, e2⟩ := rows_snoc er
        subst e1
        have hst : stepB n d = true := by
          rw [e2]
          exact step_ok (hr' _ (List.mem_append_right _ (List.mem_singleton.mpr rfl)))
        rw [if_pos hst] at good'
        refine ⟨_, rfl, b, dx, _, rfl, (s3.trans s) _ _ hb, bm_none (by decide +kernel) (by decide +kernel) (by decide +kernel), ?_⟩
        exact fin H1 (.ref z) ⟨.net, rows ++ [intsOf d]⟩ (s3.trans s) (fun Hf sf => ⟨z, rfl, (hz.mono sf).froz (s3.free nz)⟩) good'
    | ord =>
      obtain ⟨y, rfl, hy⟩ := hpt
      obtain ⟨tu, ys, ⟨dy, hy1⟩, hy2, hy3⟩ := hy.at_
      have hyH := sG _ _ hy1
      have hylen : ys.length = rows.length := by
        have := hy3.length
        rw [List.length_map] at this
        exact this
      refine ⟨_, rfl, _, _, _, _, _, rfl, .own _, .base (.ins hyH T.ins_Order.cl T.ins_Order.ha T.ins_Order.hn T.ins_Order.htk T.ins_Order.hm), T.q_Order_Network, _, rfl, ?_⟩
      refine iteF ?_
      refine ⟨_, rfl, _, _, _, _, _, rfl, .own _, .base (.ins hyH T.ins_Order.cl T.ins_Order.ha T.ins_Order.hn T.ins_Order.htk T.ins_Order.hm), T.q_Order_Order, _, rfl, ?_⟩
      refine iteT ?_
      refine ⟨_, rfl, b, _, _, _, _, rfl, hb, T.ins_Bench.cl, T.n_Bench_own_size, b_size, ?_⟩
      refine ⟨_, rfl, y, dy, _, tu, ys, rfl, hyH, get_rows (by decide), sG _ _ hy2, fun H2 s2 => ⟨_, rfl, ?_, fun l nl => ?_⟩⟩
      · rw [List.length_append, List.length_singleton]
        exact small_list (by omega)
      have s3 : Same H (upd H2 l (.lst (ys ++ [v]))) := s2.trans (same_new nl)
      have good' : (match (if pairB n d = true then (if ringL n (warsh n (initR (rows ++ [intsOf d]))) = [] then AddR.ok ⟨.ord, closedL n (rows ++ [intsOf d])⟩ else .ring (ringL n (warsh n (initR (rows ++ [intsOf d]))))) else .pair) with
        | .ok t' => ∀ G2 H2, Go [b] G H G2 H2 → BSt K G2 H2 b n (sts ++ [st]) (setS st x t') → Q .non H2
        | .step => ∀ H1 e, Same H H1 → H1 e = none → E (.ref (ga K "InvalidStep")) (some e) (upd H1 e (.xd [("value", v)]))
        | .pair => ∀ H1 e, Same H H1 → H1 e = none → E (.ref (ga K "InvalidPair")) (some e) (upd H1 e (.xd [("value", v)]))
        | .row => ∀ H1 e, Same H H1 → H1 e = none → E (.ref (ga K "InvalidRow")) (some e) (upd H1 e (.xd [("value", v)]))
        | .ring l => ∀ H1 e l1, Same H H1 → H l1 = none → H1 l1 = some (.lst (l.map V.int)) → H1 e = none → E (.ref (ga K "Ring")) (some e) (upd H1 e (.xd [("lines", .ref l1)]))) := good
      have lastpair : ∀ rows' : List (List Int), rows.map tupD ++ [d] = rows'.map tupD → (∀ r ∈ rows', PairRow n r) → rows' = rows ++ [intsOf d] := fun rows' er _ => (rows_snoc er).1
      have hmem : ∀ e ∈ rows.map tupD, pairB n e = true := fun e he => by
        obtain ⟨r, hr, e1⟩ := List.mem_map.mp he
        subst e1
        exact (hrows r hr).2
      by_cases hp : pairB n d = true
      · rw [if_pos hp] at good'
        refine ord_mk (ds := rows.map tupD ++ [d]) h1 h2 upd_same ((hy3.mono (sG.trans s3)).snoc (hd.mono s3)) (refused_last (by rw [List.length_map]; exact hylen) hmem fun hno H1 e s ne => ?_) (fun rows' _ er hr' hring H1 e l1 s hl1 nl1 ne => ?_) fun rows' _ er hr' hring H1 z s nz hz => ?_
        · rw [hp] at hno
          cases hno
        · obtain ⟨e1, _⟩ := rows_snoc er
          subst e1
          rw [if_neg hring] at good'
          exact good' H1 e l1 (s3.trans s) (s3.free nl1) hl1 ne
        · obtain ⟨e1, _⟩ := rows_snoc er
          subst e1
          rw [if_pos hring] at good'
          refine ⟨_, rfl, b, dx, _, rfl, (s3.trans s) _ _ hb, bm_none (by decide +kernel) (by decide +kernel) (by decide +kernel), ?_⟩
          exact fin H1 (.ref z) ⟨.ord, closedL n (rows ++ [intsOf d])⟩ (s3.trans s) (fun Hf sf => ⟨z, rfl, (hz.mono sf).froz (s3.free nz)⟩) good'
      · rw [if_neg hp] at good'
        have hp' : pairB n d = false := by simpa using hp
        refine ord_mk (ds := rows.map tupD ++ [d]) h1 h2 upd_same ((hy3.mono (sG.trans s3)).snoc (hd.mono s3)) (refused_last (by rw [List.length_map]; exact hylen) hmem fun hno H1 e s ne => good' H1 e (s3.trans s) ne) (fun rows' ha' er hr' _ H1 e l1 s hl1 nl1 ne => ?_) fun rows' ha' er hr' _ H1 z s nz hz => ?_
        · exact absurd (ha' d (List.mem_append_right _ (List.mem_singleton.mpr rfl))) hp
        · exact absurd (ha' d (List.mem_append_right _ (List.mem_singleton.mpr rfl))) hp
    | tst =>
      obtain ⟨y, ys, rfl, hy, hyd⟩ := hpt
      have hyH := sG _ _ hy
      have hylen : ys.length = rows.length := by
        have := hyd.length
        rw [List.length_map] at this
        exact this
      refine ⟨_, rfl, _, _, _, _, _, rfl, .own _, .base (.tup hyH), T.q_tuple_Network, _, rfl, ?_⟩
      refine iteF ?_
      refine ⟨_, rfl, _, _, _, _, _, rfl, .own _, .base (.tup hyH), T.q_tuple_Order, _, rfl, ?_⟩
      refine iteF ?_
      refine ⟨_, rfl, b, _, _, _, _, rfl, hb, T.ins_Bench.cl, T.n_Bench_own_size, b_size, _, rfl, n, v, d, rfl, hd, hz, fun H1 s1 => ⟨_, rfl, ?_⟩⟩
      have good' : (match (if testB n d = true then AddR.ok ⟨.tst, rows ++ [intsOf d]⟩ else .row) with
        | .ok t' => ∀ G2 H2, Go [b] G H G2 H2 → BSt K G2 H2 b n (sts ++ [st]) (setS st x t') → Q .non H2
        | .step => ∀ H1 e, Same H H1 → H1 e = none → E (.ref (ga K "InvalidStep")) (some e) (upd H1 e (.xd [("value", v)]))
        | .pair => ∀ H1 e, Same H H1 → H1 e = none → E (.ref (ga K "InvalidPair")) (some e) (upd H1 e (.xd [("value", v)]))
        | .row => ∀ H1 e, Same H H1 → H1 e = none → E (.ref (ga K "InvalidRow")) (some e) (upd H1 e (.xd [("value", v)]))
        | .ring l => ∀ H1 e l1, Same H H1 → H l1 = none → H1 l1 = some (.lst (l.map V.int)) → H1 e = none → E (.ref (ga K "Ring")) (some e) (upd H1 e (.xd [("lines", .ref l1)]))) := good
      refine iteB (fun c => ?_) (fun c => ?_)
      · rw [Bool.not_eq_true'] at c
        rw [c] at good'
        exact ⟨_, rfl, _, rfl, fun e ne => good' H1 e s1 ne⟩
      · rw [Bool.not_eq_false'] at c
        rw [if_pos c] at good'
        have hrow : rowB n d = true := by
          have c2 := c
          unfold testB at c2
          rw [Bool.and_eq_true] at c2
          exact c2.1
        obtain ⟨hsq, hall, _, _, hhi⟩ := row_parts hrow
        obtain ⟨a, zs, rfl, ha, hzs⟩ := hd.sq hsq
        obtain ⟨ns, ezz, ed⟩ := ints_of hzs hall
        have hns : intsOf d = ns := by unfold intsOf; rw [ed, map_toI]
        have hy1 := s1 _ _ hyH
        refine ⟨_, rfl, y, ys, rfl, .inr (SqT.of hy1), rfl, ?_⟩
        refine ⟨_, rfl, iteB (fun e => ?_) (fun _ => ?_)⟩
        · have e2 := of_decide_eq_true e
          injection e2 with e2
          omega
        refine ⟨_, rfl, y, ys, rfl, .inl (SqT.of hy1), ?_⟩
        rw [hns] at good'
        subst ezz
        have fin2 : ∀ (Hu : Hp) (u l : Addr), Same H1 Hu → Hu u = some (.tup (ns.map V.int)) → Hu l = none → ∀ Hf, Same (upd Hu l (.tup (ys ++ [V.ref u]))) Hf → PT K (fzt G H Hf) n (.ref l) ⟨.tst, rows ++ [ns]⟩ := fun Hu u l s2 hu nl Hf sf => by
          have sHf : Same H Hf := s1.trans (s2.trans ((same_new nl).trans sf))
          refine ⟨l, _, rfl, gt_tup (sf _ _ upd_same), ?_⟩
          have z : DqAll Hf (ys ++ [V.ref u]) ((rows ++ [ns]).map tupD) := by
            rw [List.map_append]
            exact (hyd.mono (sG.trans sHf)).append (.cons (.tup (((same_new nl).trans sf) _ _ hu) (DqAll.ints ns)) .nil)
          exact z.gt
        refine ⟨_, rfl, a, ns.map V.int, rfl, ?_⟩
        rcases SqB.mono s1 ha with ha1 | ha1
        · refine .inl ⟨SqL.of ha1, fun u nu => ⟨small_list (by rw [List.length_append]; show ys.length + 1 ≤ 1001; omega), fun l nl => ?_⟩⟩
          have s2 := same_new (o := .tup (ns.map V.int)) nu
          have s3 := s1.trans (s2.trans (same_new (o := .tup (ys ++ [V.ref u])) nl))
          refine ⟨_, rfl, b, dx, _, rfl, s3 _ _ hb, bm_none (by decide +kernel) (by decide +kernel) (by decide +kernel), ?_⟩
          exact fin _ (.ref l) ⟨.tst, rows ++ [ns]⟩ s3 (fin2 _ u l s2 upd_same nl) good'
        · refine .inr ⟨SqT.of ha1, ⟨small_list (by rw [List.length_append]; show ys.length + 1 ≤ 1001; omega), fun l nl => ?_⟩⟩
          have s3 := s1.trans (same_new (o := .tup (ys ++ [V.ref a])) nl)
          refine ⟨_, rfl, b, dx, _, rfl, s3 _ _ hb, bm_none (by decide +kernel) (by decide +kernel) (by decide +kernel), ?_⟩
          exact fin _ (.ref l) ⟨.tst, rows ++ [ns]⟩ s3 (fin2 _ a l (Same.refl _) ha1 nl) good'
  · refine bad ?_ e ne
    rcases hkv.look x with ⟨v', t', e1, e2, _⟩ | ⟨_, e2⟩
    · rw [e1] at hnone; cases hnone
    · exact e2
theorem bd_Bench_add {K : PySem.W.Frag} {mg : Str → Option Value} (T : Txt K mg) : Binds K (fdAt K (ma K (ga K "Bench") "add")) ["self", "name", "item"] [] := T.f_Bench_add.bindsN fun _ _ _ _ _ _ us hl => match us, hl with | [_, _, _], _ => rfl
theorem m_add {X : Cx} {E : XK} {o e : Expr} {ta : TE} {es : List Expr} {t : TA} {apos pos : Pos} {pl : Sem Bool} (T : Txt X.K X.mg) (hr : Room 7 X.A) (hx : Passes (L2.CX X.prog X.w) X E) (ho : PE X o ta) (ha : PA X (e :: es) t) (hst : starEach (e :: es) X.env = (false, eval e X.env) :: starEach es X.env := by rfl) (hpl : (backTo pos (starEach es X.env)).any (·.1) = false := by rfl)
    (ht : eval (.Call (.Attribute o "add" apos) (e :: es) [] pos) X.env = (do
      let ov ← eval o X.env
      standAt apos.atName
      let (f, first) ← holding [ov] (getMethod ov "add" pl)
      callWith pos f first (backTo pos (starEach (e :: es) X.env)) (backToKw pos (keywordEach [] X.env))) := by rfl) :
    PE X (.Call (.Attribute o "add" apos) (e :: es) [] pos) (tMeth (ga X.K "Bench") "add" ((spAdd X.K)) [] E ta t) := pe_meth (pl := pl) ho T.ins_Bench.cl T.m_Bench_add (ok_Bench_add T) hr (bd_Bench_add T) .nil hx ha hst hpl ht
end
end K57
/-! W1 -/
/-! a def called while an exception is handled, whatever that is; with, the body of which may raise -/
namespace WX
open PySem PySem.Spec PyProof.Rows L2 L2H He K57
section
variable {P : Program} {w : World} {K : PySem.W.Frag} {mg : Str → Option Value} {base : Heap} {x qual : Str} {params : Arguments} {body : List Stmt} {scope : Scope} {dvs : List V} {kws : List (Str × V)} {f : Addr} {fd : FuncData}
/-- what a def promises while any exception is handled -/
structure FnP (P : Program) (w : World) (K : PySem.W.Frag) (mg : Str → Option Value) (base : Heap) (k : Nat) (f : Addr) (fd : FuncData) (ps : List Str) (sp : Sp) : Prop where
  len : ∀ vs H Q E, sp vs H Q E → vs.length = ps.length
  run : ∀ (A : Around) (outer : List Env) (s : Shared) (H : Hp) (args : Args) (us : List Value) (vs : List V) (Q : VK) (E : XK) (p : Addr × Obj), RoomH k A → PinOk outer H s p → Env0 P w K mg base A outer s H → BindsTo s fd args (ps.zip us) → Vals vs us → sp vs H Q E →
    codeAny (model P w) A (.call (.ref f) args) (CR CX0 outer P w H s Q E) s
theorem okP {N ps : List Str} {k : Nat} {sp : Sp} (F : FunD K x qual params body scope dvs kws f fd) (S : FnScope N ps scope) (len : ∀ vs H Q E, sp vs H Q E → vs.length = ps.length)
    (hbody : ∀ (cdv : Value) (A : Around) (outer : List Env) (s : Shared) (H : Hp) (vs : List V) (Q : VK) (E : XK) (p : Addr × Obj), sp vs H Q E →
      ∃ t, PSs (cxH CX0 P w K mg base N qual scope f cdv A outer s H E p) body t ∧ t { nx := fun _ H' => Q .non H', rt := Q } (L2.start N vs) H) : FnP P w K mg base (k + 1) f fd ps sp := by
  obtain ⟨oc, od, dV, kV, doc, pm, an, cdv, ct, osl, rfl, lk, hcd, _, _⟩ := F.ex
  refine ⟨len, fun A outer s H args us vs Q E p hr hpin e0 hb r hsp => ?_⟩
  have KX : K.In s.heap := e0.mod.kin.keeps fun b o e => (e0.bs b o e).1
  refine codeAny_call_function hr.depth (KX _ _ lk) rfl S.co S.gen rfl (PySem.W.codeRec_of KX hcd) (hb _ _ _ _ ?_)
  refine wpAny_newFunctionEnv_cells S.kind (fun ⟨n, v⟩ hy => ?_) fun env he s1 z => ?_
  · rcases S.par n (List.of_mem_zip hy).1 with q | q
    · exact .inl q
    · exact .inr ⟨q, PySem.W.cellsFrom_some _ _ _ (.inl q)⟩
  subst he
  refine ⟨(e0.mod.nolimit.keeps fun b o e => (e0.bs b o e).1).keeps z.toInCall.keep, codeAny_func ?_⟩
  obtain ⟨t, ht, hq⟩ := hbody cdv A outer s H vs Q E p hsp
  refine wpAny_mono (ht.run [] s1 (L2.start N vs) H _ (inv_startH S hpin e0 (len _ _ _ _ hsp) r z) hq) (fun fl s' hs => ?_) fun e s' hs => hs
  cases fl with
  | ret u =>
    obtain ⟨v, σ', H', J, rv, q⟩ := hs
    exact ⟨v, H', J.os, J.bare, J.base, J.hok, rv, q⟩
  | next =>
    obtain ⟨σ', H', J, q⟩ := hs
    exact ⟨.non, H', J.os, J.bare, J.base, J.hok, rfl, q⟩
  | brk =>
    obtain ⟨_, _, _, q⟩ := hs
    exact False.elim q
  | cont =>
    obtain ⟨_, _, _, q⟩ := hs
    exact False.elim q
end
/-! ### the with item, both ways -/
section
open PySem.W
variable {prog : Program} {w : World} {A : Around} {E : Value → Shared → Prop} {s : Shared} {env : Env} {K : Frag} {x C fe fx : Addr} {ox : Obj} {od : Option Obj} {pos : Pos}
/-- what is asked behind the landing of the body's exception -/
def Raised (prog : Program) (w : World) (A : Around) (E : Value → Shared → Prop) (env : Env) (x fx : Addr) (Q : Flow → Shared → Prop) (e : Value) (s : Shared) : Prop :=
  wpAny (model prog w) A (typeOf e) (fun c s1 => wpAny (model prog w) A (tracebackOf e) (fun tb s2 => wpAny (model prog w) A (run (.call (.ref fx) ⟨[.ref x, c, e, tb], []⟩) (some e))
    (fun f s3 => f = .ret .none ∧ wpAny (model prog w) A (passOn "with" e env : Sem Flow) Q E s3) E s2) E s1) E s
theorem core {bdy : Sem Flow} {Q : Flow → Shared → Prop} (X : K.In s.heap) (I : InstAt s.heap x ox C od) (he : findIn K (.ref C) "__enter__" = some (some (.ref fe))) (hfe : isFn K (.ref fe) = true) (hx : findIn K (.ref C) "__exit__" = some (some (.ref fx))) (hfx : isFn K (.ref fx) = true)
    (h : wpAny (model prog w) A (call (.ref fe) [.ref x]) (fun v s₂ => wpAny (model prog w) A bdy (fun f s₄ => wpAny (model prog w) A (call (.ref fx) [.ref x, .none, .none, .none]) (fun _ s₅ => Q f s₅) E s₄)
      (fun e s₄ => wpAny (model prog w) A (noteFrame e env) (fun _ s₅ => wpAny (model prog w) A (setFlight e none) (fun _ s₆ => Raised prog w A E env x fx Q e s₆) E s₅) E s₄) s₂) E s) :
    wpAny (model prog w) A (withItem false pos env (pure (.ref x)) none bdy) Q E s := by
  obtain ⟨cd, hcd, ae⟩ := kw_along he
  obtain ⟨cd', hcd', ax⟩ := kw_along hx
  cases hcd.symm.trans hcd'
  obtain ⟨hh, g, d, tt, os⟩ := s
  have L1 : Looks (model prog w) hh (specialOnItsLine (.ref x) "__enter__") (some (.ref fe), cd.mro) := kw_special X I hcd ae
  have L2 : Looks (model prog w) hh (specialOnItsLine (.ref x) "__exit__") (some (.ref fx), cd.mro) := kw_special X I hcd ax
  have L3 : Looks (model prog w) hh (bindSpecial (.ref fe) (.ref x)) (.ref fe, [.ref x]) := bind_fn X _ (beq_iff_eq.mp hfe)
  have L4 : Looks (model prog w) hh (bindSpecial (.ref fx) (.ref x)) (.ref fx, [.ref x]) := bind_fn X _ (beq_iff_eq.mp hfx)
  have L5 : Looks (model prog w) hh (aMethodOfAnotherBuiltinTypeStops (.ref fe) cd.mro) () := Looks.of_pure rfl
  have L6 : Looks (model prog w) hh (aMethodOfAnotherBuiltinTypeStops (.ref fx) cd.mro) () := Looks.of_pure rfl
  unfold withItem
  refine wpAny_bind (wpAny_pure ?_)
  refine wpAny_bind (wpAny_standAt ?_)
  simp only [Bool.false_eq_true, if_false]
  kw_lk
  refine wpAny_mono h (fun v s₂ h₂ => ?_) fun _ _ z => z
  kw_lk
  refine wpAny_attempt (kw_held ?_)
  show wpAny _ _ bdy _ _ _
  refine wpAny_mono h₂ (fun f s₄ h₄ => ?_) fun e s₄ h₄ => ?_
  · kw_lk
    refine wpAny_mono h₄ (fun _ s₅ h₅ => ?_) fun _ _ z => z
    kw_lk
    exact h₅
  · refine wpAny_bind (wpAny_mono h₄ (fun _ s₅ h₅ => ?_) fun _ _ z => z)
    refine wpAny_bind (wpAny_mono h₅ (fun _ s₆ h₆ => ?_) fun _ _ z => z)
    refine wpAny_bind (wpAny_standAt ?_)
    refine wpAny_holding ?_
    refine wpAny_bind (wpAny_mono h₆ (fun c s7 h7 => ?_) fun _ _ z => z)
    refine wpAny_bind (wpAny_mono h7 (fun tb s8 h8 => ?_) fun _ _ z => z)
    unfold withItem.marked
    refine wpAny_bind (wpAny_bind (wpAny_mono h8 (fun f s9 hf => ?_) fun _ _ z => z))
    obtain ⟨ef, h9⟩ := hf
    subst ef
    refine wpAny_pure (wpAny_bind (wpAny_pure ?_))
    refine wpAny_bind (wpAny_pure ?_)
    rw [if_neg Bool.false_ne_true]
    exact h9
end
/-! ### with ctx: return e -/
/-- what is wished of an exception of the body: __exit__ runs, then Wout -/
def wExit (spX : Sp) (a : Addr) (Wout : WX) : WX := fun cls d σ H => (∃ cv, RelV cv cls) ∧ ∀ kv ev tv, spX [.ref a, kv, ev, tv] H (fun r H' => r = .non ∧ Wout cls d σ H') E0
def tWithRet (C : Addr) (spE spX : Sp) (tc : TE) (te : WX → TE) (Wout : WX) : TS := fun D σ H => tc σ H fun y H1 => ∃ a dx fs, y = .ref a ∧ H1 a = some (.ins C dx fs) ∧
  spE [.ref a] H1 (fun _ H2 => te (wExit spX a Wout) σ H2 fun v H3 => spX [.ref a, .non, .non, .non] H3 (fun _ H4 => D.rt v H4) E0) E0
section
variable {X : Cx} {ctx e : Expr} {rp pos : Pos} {C fe fx : Addr} {fde fdx : FuncData} {pe px : List Str} {k : Nat} {spE spX : Sp} {tc : TE} {te : WX → TE} {Wout : WX}
/-- the body's exception: landed, __exit__ called with it, on it goes -/
theorem raised_on {pins : List (Addr × Obj)} {D : Ends} {a x : Addr} {B : Heap} {s : Shared} {sI : Shared} {h3 : Heap} {σ' : L2.St} {H' : Hp} {cls : Value} {d : Option Addr} (hs : X.stack = X.env :: X.outer) (hf : X.env.frame = some X.env.locals) (hex : X.ex = []) (ok : X.Ok) (tk : Takes X Wout)
    (Fp : FnP X.prog X.w X.K X.mg X.base k fx fdx px spX) (bx : L2.Binds X.K fdx px []) (hr : RoomH k X.A) (J : Inv X pins σ' H' sI) (J3 : Inv X pins σ' H' { s with heap := h3 }) (nb : ∀ b o, sI.heap.get? b = some o → b ∉ frs X.stack → B.get? b = some o)
    (fl3 : HandSPX.FlyingZ B (X.env :: X.outer) a (Zc cls d) h3) (na : H' a = none) (hw : wExit spX x Wout cls d σ' H') :
    Raised X.prog X.w X.A X.xe X.env x fx (SP X pins D) (.ref a) { s with heap := h3 } := by
  obtain ⟨⟨cv, rcv⟩, hw⟩ := hw
  obtain ⟨k1, k2, k3, oe, vs, T, oT, ts, he3, hz, hd, hv1, hnT, hTe, hT, hdT, ht3⟩ := id fl3
  have nT : H' T = none := (J.inGround nb).gone hnT
  have notFr : ∀ (b : Addr) (o : Obj) (fv : Array Value), h3.get? b = some o → o.data = .fields fv → b ∉ frs (X.env :: X.outer) := fun b o fv e dd hm => by
    obtain ⟨_, o', e', hnf⟩ := k3.mem hm
    have eo : o = o' := Option.some.inj (e.symm.trans e')
    rw [← eo] at hnf
    exact hnf _ dd
  have locF : X.env.locals ∈ frs (X.env :: X.outer) := List.mem_filterMap.mpr ⟨X.env, List.mem_cons_self, hf⟩
  have fsF : ∀ b, b ∈ X.fs → b ∈ frs (X.env :: X.outer) := fun b hm => by
    obtain ⟨e, he, q⟩ := List.mem_filterMap.mp hm
    exact List.mem_filterMap.mpr ⟨e, List.mem_cons_of_mem _ he, q⟩
  have fa := notFr a oe vs he3 hd
  have fT := notFr T oT ts hT hdT
  have S3 : Inv (X.suite a ((a, oe) :: (T, oT) :: (X.pn ++ pins))) [] σ' H' { s with heap := h3 } :=
    ⟨J3.ok.suite _ _, J3.os, J3.bare, J3.base, J3.loc, J3.cell, J3.free, J3.freeC, fun p hp => by
      rw [List.append_nil] at hp
      rcases List.mem_cons.mp hp with z | hp
      · rw [z]
        exact ⟨he3, na, fun z2 => fa (by rw [show a = X.env.locals from z2]; exact locF), fun z2 => fa (fsF _ z2), fun v z2 => by
          have z3 : oe.data = .cell v := z2
          rw [hd] at z3
          cases z3⟩
      · rcases List.mem_cons.mp hp with z | hp
        · rw [z]
          exact ⟨hT, nT, fun z2 => fT (by rw [show T = X.env.locals from z2]; exact locF), fun z2 => fT (fsF _ z2), fun v z2 => by
            have z3 : oT.data = .cell v := z2
            rw [hdT] at z3
            cases z3⟩
        · exact J3.pin p hp, J3.hok, J3.len⟩
  unfold Raised
  refine wpAny_typeOf_ref he3 ?_
  rw [hz.1]
  -- the traceback handed on
  have handed : ∀ (tb : Value), (∃ tv, RelV tv tb) → wpAny (model X.prog X.w) X.A (run (.call (.ref fx) ⟨[.ref x, cls, .ref a, tb], []⟩) (some (.ref a)))
      (fun f s3 => f = .ret .none ∧ wpAny (model X.prog X.w) X.A (passOn "with" (.ref a) X.env : Sem Flow) (SP X pins D) X.xe s3) X.xe { s with heap := h3 } := fun tb ⟨tv, rtv⟩ => by
    have r2 : Vals [V.ref x, cv, V.ref a, tv] [Value.ref x, cls, Value.ref a, tb] := .cons rfl (.cons rcv (.cons rfl (.cons rtv .nil)))
    have hsp := hw cv (.ref a) tv
    have hl : [Value.ref x, cls, Value.ref a, tb].length = px.length := by rw [← r2.length]; exact Fp.len _ _ _ _ hsp
    have b := bx _ [Value.ref x, cls, Value.ref a, tb] S3.kIn (by rw [List.append_nil]; exact hl)
    rw [List.append_nil] at b
    have P1 := S3.pin (a, oe) (List.mem_append_left _ List.mem_cons_self)
    have hpin : PinOk X.stack H' { s with heap := h3 } (a, oe) := ⟨he3, na, by rw [hs]; exact fa, fun v z => by
      have z2 : oe.data = .cell v := z
      rw [hd] at z2
      cases z2⟩
    refine wpAny_run (codeAny_mono (Fp.run (X.A.mark (some (.ref a))) X.stack _ H' ⟨_, []⟩ _ _ _ E0 (a, oe) ⟨hr.dp, hr.un⟩ hpin S3.env0 b r2 hsp) fun r s6 hq => ?_) (fun z => ref_ne_byPass a (Option.some.inj z))
    cases r with
    | error e => exact (show False from hq).elim
    | ok fl =>
      cases fl with
      | next => exact False.elim hq
      | brk => exact False.elim hq
      | cont => exact False.elim hq
      | ret u =>
        obtain ⟨rv, H6, S6, rr, er, q6⟩ := S3.after hq
        subst er
        obtain rfl : u = Value.none := rr
        refine ⟨rfl, ?_⟩
        have J6 : Inv X pins σ' H6 s6 := ⟨ok, S6.os, S6.bare, S6.base, S6.loc, S6.cell, S6.free, S6.freeC, fun p hp => S6.pin p (List.mem_append_left _ (List.mem_cons_of_mem _ (List.mem_cons_of_mem _ hp))), S6.hok, S6.len⟩
        have pa := S6.pin (a, oe) (List.mem_append_left _ List.mem_cons_self)
        have pT := S6.pin (T, oT) (List.mem_append_left _ (List.mem_cons_of_mem _ List.mem_cons_self))
        have ga : s6.heap.get? a = some oe := pa.1
        have gT : s6.heap.get? T = some oT := pT.1
        have na6 : H6 a = none := pa.2.1
        have nT6 : H6 T = none := pT.2.1
        -- what is not the exception's
        have far : ∀ b o, sI.heap.get? b = some o → b ≠ a ∧ b ≠ T := fun b o e => by
          by_cases hb : b ∈ frs X.stack
          · rw [hs] at hb
            exact ⟨fun z => fa (by rw [← z]; exact hb), fun z => fT (by rw [← z]; exact hb)⟩
          · have q := nb b o e hb
            exact ⟨fun z => by
              rw [z, k2] at q
              exact (nomatch q), fun z => by
              rw [z, hnT] at q
              cases q⟩
        have far0 : ∀ b o, X.s_0.heap.get? b = some o → b ≠ a ∧ b ≠ T := fun b o e => by
          obtain ⟨o', q⟩ := J.base.there b o e (by rw [hex]; simp)
          exact far b o' q
        have farP : ∀ p ∈ X.pn ++ pins, p.1 ≠ a ∧ p.1 ≠ T := fun p hp => far p.1 p.2 (J.pin p hp).1
        obtain ⟨G, g1, g2⟩ := restrict s6.heap fun b => !(decide (b = a) || decide (b = T))
        have gIn : ∀ b o, G.get? b = some o → s6.heap.get? b = some o ∧ b ≠ a ∧ b ≠ T := fun b o e => by
          cases q : (!(decide (b = a) || decide (b = T))) with
          | false =>
            rw [g2 b q] at e
            cases e
          | true =>
            rw [g1 b q] at e
            simp only [Bool.not_eq_true', Bool.or_eq_false_iff, decide_eq_false_iff_not] at q
            exact ⟨e, q.1, q.2⟩
        have gOf : ∀ b o, b ≠ a → b ≠ T → s6.heap.get? b = some o → G.get? b = some o := fun b o h1 h2 e => by
          rw [g1 b (by simp [h1, h2])]
          exact e
        have I6 : Inv X pins σ' H6 { s6 with heap := G } := J6.less (fun b o e => (gIn b o e).1) gOf ⟨oe, vs, ga, hd⟩ ⟨oT, ts, gT, hdT⟩ na6 nT6 far0 farP
        have Bno : ∀ b, (b = a ∨ b = T) → (PySem.W.hideAll G (frs X.stack)).get? b = none := fun b hb => by
          cases q : (PySem.W.hideAll G (frs X.stack)).get? b with
          | none => rfl
          | some o =>
            obtain ⟨_, n1, n2⟩ := gIn b o (PySem.W.of_hideAll _ q)
            rcases hb with z | z
            · exact absurd z n1
            · exact absurd z n2
        have fl6 : HandSPX.FlyingZ (PySem.W.hideAll G (frs X.stack)) (X.env :: X.outer) a (Zc cls d) s6.heap := by
          refine ⟨fun b o e => (gIn b o (PySem.W.of_hideAll _ e)).1, Bno a (.inl rfl), ?_, oe, vs, T, oT, ts, ga, hz, hd, hv1, Bno T (.inr rfl), hTe, gT, hdT, ht3⟩
          have ff := funFrames_none (B := PySem.W.hideAll G (frs X.stack)) J6.stack fun b hb => PySem.W.hideAll_none _ hb
          rw [← hs]
          exact ff
        unfold PySem.passOn
        refine wpAny_bind (wpAny_field ga hd hv1 ?_)
        rw [if_neg (show ¬ ((Value.ref T == Value.none) = true) from by simp)]
        have goOn : wpAny (model X.prog X.w) X.A (setFlight (.ref a) X.env.frame) (fun _ s7 => wpAny (model X.prog X.w) X.A (throw (.ref a) : Sem Flow) (SP X pins D) X.xe s7) X.xe s6 := by
          rw [hf]
          refine HandSPX.setFlight_upZ fl6 fun h7 hh7 up7 => wpAny_throw (tk _ _ ?_)
          refine ⟨a, PySem.W.hideAll G (frs X.stack), { s6 with heap := G }, pins, σ', H6, cls, d, rfl, I6, fun b o e hb => PySem.W.hideAll_get _ e hb, ?_, .inr (.inr (by rw [← hs] at hh7; exact hh7)), na6, rfl, J6.bare, q6⟩
          exact Heap.UpToSlots.trans (Heap.UpToSlots.of_keeps fun b o e => (gIn b o e).1) up7
        first
          | exact wpAny_bind (wpAny_pure (wpAny_bind goOn))
          | exact wpAny_bind goOn
  unfold tracebackOf
  refine wpAny_bind (wpAny_field he3 hd hv1 ?_)
  obtain ⟨t1, ht1⟩ : ∃ t1, ts[1]? = some t1 := by
    have h4 : 3 < ts.size := (Array.getElem?_eq_some_iff.mp ht3).1
    exact ⟨ts[1], Array.getElem?_eq_getElem (by omega)⟩
  refine wpAny_bind (wpAny_field hT hdT ht1 ?_)
  by_cases hn : (t1 == Value.none) = true
  · rw [if_pos hn]
    exact wpAny_pure (handed _ ⟨.non, rfl⟩)
  · rw [if_neg hn]
    exact wpAny_pure (handed _ ⟨.ref T, rfl⟩)
theorem ps_withRet (hs : X.stack = X.env :: X.outer) (hf : X.env.frame = some X.env.locals) (hex : X.ex = []) (tk : Takes X Wout) (hctx : PE X ctx tc) (Me : Meth X.K C "__enter__" fe) (Mx : Meth X.K C "__exit__" fx)
    (Fe : FnOk X.prog X.w X.K X.mg X.base CX0 k fe fde pe spE) (be : L2.Binds X.K fde pe []) (Fx : FnOk X.prog X.w X.K X.mg X.base CX0 k fx fdx px spX) (Fp : FnP X.prog X.w X.K X.mg X.base k fx fdx px spX) (bx : L2.Binds X.K fdx px []) (hr : Room k X.A)
    (he : ∀ (W : WX) (pn : List (Addr × Obj)) (xe : Value → Shared → Prop), Takes (X.tr pn xe) W → PassesOwn (model X.prog X.w) X.A X.env xe → PE (X.tr pn xe) e (te W)) :
    PS X (.With [⟨ctx, none⟩] [.Return (some e) rp] pos) (tWithRet C spE spX tc te Wout) := by
  refine ⟨fun pins s σ H D I h => ?_⟩
  refine PySem.W.kw_exec0 (thn (hctx.run pins s σ H _ I h) fun u s1 ⟨y, H1, I1, ry, a, dx, fs, ey, ha, q1⟩ => ?_)
  subst ey
  obtain rfl : u = Value.ref a := ry
  obtain ⟨mA, O, _⟩ := ins_get I1.hok ha
  obtain ⟨od, J, _⟩ := O.look
  refine core (I1.kIn) J Me.at_ Me.fn Mx.at_ Mx.fn ?_
  refine thn (run_fn (ds := []) (dvs := []) (E := E0) (us := [.ref a]) (vs := [.ref a]) (Q := fun _ H2 => te (wExit spX a Wout) σ H2 fun v H3 => spX [.ref a, .non, .non, .non] H3 (fun _ H4 => D.rt v H4) E0) Fe hr be .nil pass0 I1 (.cons rfl .nil) (by rw [List.append_nil]; exact q1)) fun u s2 ⟨y2, H2, I2, ry2, q2⟩ => ?_
  have ok := I2.ok
  have hfr : X.A.frames = some (X.env :: X.outer) := by rw [ok.frames, hs]
  refine wpAny_execs_cons (wpAny_Return_some ?_)
  refine wpAny_mono ((he (wExit spX a Wout) (X.pn ++ pins) (fun x s₄ => wpAny (model X.prog X.w) X.A (noteFrame x X.env) (fun _ s₅ => wpAny (model X.prog X.w) X.A (setFlight x none) (fun _ s₆ => Raised X.prog X.w X.A X.xe X.env a fx (SP X pins D) x s₆) X.xe s₅) X.xe s₄)
    (fun u s' xx => ?_) PassesOwn.looking).run [] s2 σ H2 _ (I2.toTry _) q2) (fun u s3 z => ?_) (fun x s3 hx => hx)
  · obtain ⟨a2, B, sI, pins', σ', H', cls, d, rfl, J', nb, up, sky, na, os, ag, hw⟩ := xx
    have J0 : Inv X pins σ' H' sI := J'.ofTry ok
    have sky' : Sky B (X.env :: X.outer) a2 (Zc cls d) X.env.locals s'.heap := by rw [← hs]; exact sky
    show wpAny (model X.prog X.w) X.A (noteFrame (.ref a2) X.env) _ _ _
    refine Sky.land Zc.steady hfr hf sky' fun h3 fl3 up3 => ?_
    have J3 : Inv X pins σ' H' { s' with heap := h3 } := J0.landed nb fl3.1 (up.trans up3) os ag
    exact raised_on hs hf hex ok tk Fp bx (roomH_of hr) J0 J3 (by rw [hs] at nb ⊢; exact nb) fl3 na hw
  · obtain ⟨v, H3, I3, r3, q3⟩ := z
    have I3' := I3.ofTry ok
    refine thn (run_fn (Q := fun _ H4 => D.rt v H4) (ds := []) (dvs := []) (E := E0) (us := [.ref a, .none, .none, .none]) (vs := [.ref a, .non, .non, .non]) Fx hr bx .nil pass0 I3' (.cons rfl (.cons rfl (.cons rfl (.cons rfl .nil)))) (by rw [List.append_nil]; exact q3)) fun u4 s4 ⟨y4, H4, I4, _, q4⟩ => ?_
    exact ⟨v, σ, H4, I4, r3, q4⟩
end
end WX
/-! W2 -/
/-! a lambda of one parameter, handed to a method that calls it -/
namespace WX
open PySem PySem.Spec PyProof.Rows L2 L2H LamX He K57
/-- one parameter, captured names and globals -/
structure Lam1 (sc scope : Scope) (pr : Str) : Prop where
  kind : scope.kind = .function
  co : scope.isCoroutine = false
  gen : scope.isGenerator = false
  own : ∀ y ∈ scope.names, y.2 ≠ .cell
  loc : ∀ y ∈ scope.names, y.2 = .local → y.1 = pr
  par : scope.names.lookup pr = some .local
  free : ∀ y ∈ scope.names, y.2 = .free → sc.names.lookup y.1 = some .cell ∨ sc.names.lookup y.1 = some .free
def lam1B (sc scope : Scope) (pr : Str) : Bool :=
  decide (scope.kind = .function) && !scope.isCoroutine && !scope.isGenerator && decide (scope.names.lookup pr = some .local) && scope.names.all fun y => !decide (y.2 = .cell) && (!decide (y.2 = .local) || decide (y.1 = pr)) && (!decide (y.2 = .free) || decide (sc.names.lookup y.1 = some .cell) || decide (sc.names.lookup y.1 = some .free))
theorem lam1_by {sc scope : Scope} {pr : Str} (h : lam1B sc scope pr = true) : Lam1 sc scope pr := by
  unfold lam1B at h
  simp only [Bool.and_eq_true, Bool.or_eq_true, Bool.not_eq_true', decide_eq_true_eq, decide_eq_false_iff_not, List.all_eq_true] at h
  obtain ⟨⟨⟨⟨h1, h2⟩, h3⟩, hp⟩, h4⟩ := h
  refine ⟨h1, h2, h3, fun y hy => (h4 y hy).1.1, fun y hy e => ?_, hp, fun y hy e => ?_⟩
  · rcases (h4 y hy).1.2 with z | z
    · exact absurd e z
    · exact z
  · rcases (h4 y hy).2 with (z | z) | z
    · exact absurd e z
    · exact .inl z
    · exact .inr z
theorem Lam1.has {X : Cx} {scope : Scope} {pr : Str} (L : Lam1 X.env.scope scope pr) (ok : X.Ok) : ∀ y ∈ scope.names, y.2 = .free → ∃ c, X.env.cells.lookup y.1 = some c := fun y hy e => by
  rcases L.free y hy e with k | k
  · exact ok.has _ (.inl k)
  · exact ok.has _ (.inr k)
/-- the context of the lambda's body, its own name behind the maker's -/
abbrev lam1Cx (X : Cx) (A : Around) (outer : List Env) (s : Shared) (H : Hp) (E : XK) (scope : Scope) (f c' : Addr) (pr : Str) : Cx := { lamCx X A outer s H E scope f c' with N := X.N ++ [pr] }
section
variable {X : Cx} {pins : List (Addr × Obj)} {σ : L2.St} {H HZ : Hp} {s s1 : Shared}
theorem lam1_start {A : Around} {outer : List Env} {E : XK} {scope : Scope} {f c' : Addr} {h₁ : Heap} {tk : Nat} {pr : Str} {v0 : V} {u0 : Value} (I : Inv X pins σ H s) (L : Lam1 X.env.scope scope pr) (hpr : pr ∉ X.N) (r0 : RelV v0 u0) (e0 : Env0 X.prog X.w X.K X.mg X.base A outer s1 HZ) (hd : A.handled = none)
    (un : Un (frs X.stack) [] H HZ s.heap s1.heap) (hns : h₁.Ns s1.heap.objs.size fun y => ([(pr, u0)] : List (Str × Value)).reverse.lookup y) (kp : ∀ b o, s1.heap.get? b = some o → h₁.get? b = some o) :
    Inv (lam1Cx X A outer s1 HZ E scope f c' pr) [] (σ ++ [some v0]) HZ { s1 with heap := h₁, toks := tk } := by
  have hfree := L.has I.ok
  have cm : ∀ {y c}, (cloFrom X.env.cells scope.names []).lookup y = some c → X.env.cells.lookup y = some c := fun {y c} e => by
    rcases cloFrom_mem (PySem.mem_of_lookup e) with hm | ⟨h1, h2⟩
    · cases hm
    · obtain ⟨c1, hc⟩ := hfree _ h1 rfl
      have hc : X.env.cells.lookup y = some c1 := hc
      have e2 : c = c1 := by
        rw [h2, hc] <;> rfl
      rw [e2]
      exact hc
  have look : ∀ {y}, scope.names.lookup y = some .free → ∃ c, (cloFrom X.env.cells scope.names []).lookup y = some c := fun {y} hl => by
    have hy : (y, NameKind.free) ∈ scope.names := PySem.mem_of_lookup hl
    exact mem_lookup (cloFrom_has (cells := X.env.cells) (acc := []) hy)
  have cellK : ∀ {c : Addr} {v : Option Value}, H c = none → s.heap.IsCell c v → h₁.IsCell c v := fun {c v} n ⟨o, ho, hd⟩ => by
    obtain ⟨sl, q⟩ := un.any ho n (by simp)
    exact ⟨_, kp _ _ q, hd⟩
  have noA : ∀ b : Addr, b ∉ (lam1Cx X A outer s1 HZ E scope f c' pr).ex := fun b z => absurd (show b ∈ ([] : List Addr) from z) (by simp)
  refine ⟨⟨e0.mod, L.kind, rfl, rfl, Nat.le_refl _, fun y z c e1 e2 => I.ok.inj y z c (cm e1) (cm e2), fun y hy => ?_, fun y c z _ => ?_, fun _ => hd, Around.frames_deeper e0.frames, .inr ⟨rfl, rfl⟩, fun b z => absurd z (noA b), e0.bs, e0.bsz, fun b _ _ => noA b,
      fun b z => absurd z (noA b), e0.funs, e0.frf⟩,
    rfl, e0.bare, Un.kept kp, ⟨_, hns, fun i y v e1 e2 e3 => ?_⟩, fun y c e => ?_, e0.hok.fresh (Nat.le_refl _), fun y c e => ?_, fun q hq => absurd (show q ∈ ([] : List (Addr × Obj)) ++ [] from hq) (by simp), e0.hok.kept kp, by
      show (σ ++ [some v0]).length = (X.N ++ [pr]).length
      rw [List.length_append, List.length_append, I.len] <;> rfl⟩
  · have hy : scope.names.lookup y = some .cell ∨ scope.names.lookup y = some .free := hy
    rcases hy with hy | hy
    · exact absurd rfl (L.own _ (PySem.mem_of_lookup hy))
    · exact look hy
  · have z : false = true := z
    cases z
  · have e1 : (X.N ++ [pr])[i]? = some y := e1
    have hlen := I.len
    by_cases hi : i < X.N.length
    · rw [List.getElem?_append_left hi] at e1
      rw [List.getElem?_append_left (by omega)] at e2
      have e3 : Vis scope y := e3
      rcases e3 with k | k | k
      · have := L.loc _ (PySem.mem_of_lookup k) rfl
        have this : y = pr := this
        exact absurd (this ▸ List.mem_of_getElem? e1) hpr
      · exact absurd rfl (L.own _ (PySem.mem_of_lookup k))
      · obtain ⟨m, hn, hl⟩ := I.loc
        have hvis : Vis X.env.scope y := (L.free _ (PySem.mem_of_lookup k) rfl).elim (fun k => .inr (.inl k)) (fun k => .inr (.inr k))
        obtain ⟨w', r, q⟩ := hl i y v e1 e2 hvis
        obtain ⟨c2, h2⟩ := look k
        refine ⟨w', r, .inr ⟨.inr k, c2, h2, ?_⟩⟩
        have c1 := cm h2
        rcases q with ⟨k', _⟩ | ⟨_, c3, e', z⟩
        · have k' : X.env.scope.names.lookup y = some .local := k'
          rcases L.free _ (PySem.mem_of_lookup k) rfl with k2 | k2 <;> rw [show X.env.scope.names.lookup y = _ from k2] at k' <;> cases k'
        · rw [c1] at e'
          cases e'
          exact cellK (I.freeC y _ c1) z
    · have hi2 : i = X.N.length := by
        have := (List.getElem?_eq_some_iff.mp e1).1
        rw [List.length_append, List.length_singleton] at this
        omega
      subst hi2
      rw [List.getElem?_append_right (Nat.le_refl _)] at e1
      rw [List.getElem?_append_right (by omega), hlen] at e2
      simp at e1 e2
      subst e1
      subst e2
      refine ⟨u0, r0, .inl ⟨L.par, ?_⟩⟩
      show List.lookup pr [(pr, u0)] = some u0
      simp [List.lookup]
  · obtain ⟨w', z⟩ := I.cell y c (cm e)
    exact ⟨w', cellK (I.freeC y c (cm e)) z⟩
  · obtain ⟨v, o, ho, hd⟩ := I.cell y c (cm e)
    exact un.free c o ho (I.freeC y c (cm e)) (by simp)
/-- a(e), in the def that got the lambda: Z is that def's context, entered at s -/
theorem pe_act1 {CXg : CXT} {Eg : XK} {Ng : List Str} {qg : Str} {sg : Scope} {g f c' : Addr} {cdg pm ctv : Value} {params : Arguments} {body : Expr} {scope : Scope} {k i : Nat} {a pr : Str} {pn : List (Addr × Obj)} {xe : Value → Shared → Prop} {W : WX} {E : XK} {tb : TE} {ta : TA} {e : Expr} {p1 p2 : Pos}
    (I : Inv X pins σ H s) (L : Lam1 X.env.scope scope pr) (hpr : pr ∉ X.N) (hf : s.heap.get? f = some (PySem.W.kla_obj "<lambda>" (X.env.qual ++ "<lambda>") params body scope (cloFrom X.env.cells scope.names []) pm c' ctv)) (hfn : H f = none) (hfr : f ∉ frs X.stack)
    (hbind : ∀ u, bindArgs (PySem.W.kla_fn "<lambda>" (X.env.qual ++ "<lambda>") params body scope (cloFrom X.env.cells scope.names []) pm (.ref c') ctv) ⟨[u], []⟩ = pure [(pr, u)])
    (tk : Takes ((cxOf CXg X.prog X.w X.K X.mg X.base Ng qg sg g cdg X.A X.stack s H Eg).tr pn xe) W) (hW : ∀ cls d σ' H', E cls d H' → W cls d σ' H') (hr : Room (k + 1) (X.A.deeper (envOfC qg sg s.heap.objs.size g cdg)))
    (hbody : ∀ (A : Around) (outer : List Env) (s : Shared) (H : Hp), A.guards = X.A.guards → Room k (A.deeper (lamEnv X scope s.heap.objs.size f c')) → PE (lam1Cx X A outer s H E scope f c' pr) body tb)
    (hN : Ng[i]? = some a) (hv : Vis sg a) (ha : PA ((cxOf CXg X.prog X.w X.K X.mg X.base Ng qg sg g cdg X.A X.stack s H Eg).tr pn xe) [e] ta) (hd : (a == ("__debug__" : Str)) = false := by decide) (hcd : (a == ("__classdict__" : Str)) = false := by decide)
    (he : starEach [e] ((cxOf CXg X.prog X.w X.K X.mg X.base Ng qg sg g cdg X.A X.stack s H Eg).tr pn xe).env = (false, eval e ((cxOf CXg X.prog X.w X.K X.mg X.base Ng qg sg g cdg X.A X.stack s H Eg).tr pn xe).env) :: starEach [] ((cxOf CXg X.prog X.w X.K X.mg X.base Ng qg sg g cdg X.A X.stack s H Eg).tr pn xe).env := by rfl) :
    PE ((cxOf CXg X.prog X.w X.K X.mg X.base Ng qg sg g cdg X.A X.stack s H Eg).tr pn xe) (.Call (.Name a p1) [e] [] p2)
      (fun σZ HZ Q => σZ[i]? = some (some (.ref f)) ∧ ta σZ HZ fun vs H1 => ∃ v, vs = [v] ∧ H1 c' = some (CodeO c' (X.env.qual ++ "<lambda>")) ∧ tb (σ ++ [some v]) H1 Q) := by
  refine ⟨fun pinsZ sZ σZ HZ Q IZ h => ?_⟩
  obtain ⟨hs, ht⟩ := h
  refine wpAny_Call_Name_kw (thn ((pe_var (pos := p1) (i := i) hN hv hd hcd).run pinsZ sZ σZ HZ (fun v H1 => v = .ref f ∧ H1 = HZ) IZ ⟨.ref f, hs, rfl, rfl⟩) fun u s1 ⟨v, H1, I1, r1, q1⟩ => ?_)
  obtain ⟨ev, eH⟩ := q1
  subst ev
  rw [eH] at I1
  obtain rfl : u = Value.ref f := r1
  have of_ : ∀ {s2 : Shared} {H2 : Hp} {σ2 : L2.St}, Inv ((cxOf CXg X.prog X.w X.K X.mg X.base Ng qg sg g cdg X.A X.stack s H Eg).tr pn xe) pinsZ σ2 H2 s2 → s2.heap.get? f = some (PySem.W.kla_obj "<lambda>" (X.env.qual ++ "<lambda>") params body scope (cloFrom X.env.cells scope.names []) pm c' ctv) :=
    fun {s2 H2 σ2} I2 => I2.base.keep f _ hf hfn hfr (fun z => nomatch (show f ∈ ([] : List Addr) from z))
  refine PySem.W.callWith_F ⟨_, _, _, _, of_ I1⟩ (thn (ha.run p2 pinsZ s1 σZ HZ _ I1 ht) fun us s2 ⟨vs, H2, I2, r2, v, ev, hc, q⟩ => ⟨⟨_, _, _, _, of_ I2⟩, ?_⟩) he rfl
  subst ev
  cases r2 with
  | @cons _ u0 _ us' r0 rr =>
  cases rr
  have of2 := of_ I2
  have un : Un (frs X.stack) [] H H2 s.heap s2.heap := I2.base
  obtain ⟨⟨oc, vs, t, hoc, hdc, hvc⟩, _, _⟩ := I2.hok c' _ hc
  have rc : codeAny (model X.prog X.w) (X.A.deeper (envOfC qg sg s.heap.objs.size g cdg)) (.call (.ref f) ⟨[u0], []⟩) (CR (L2.CX X.prog X.w) (envOfC qg sg s.heap.objs.size g cdg :: X.stack) X.prog X.w H2 s2 Q E) s2 := by
    refine PySem.W.kla_callFunE hr.depth of2 rfl L.co L.gen rfl ⟨c', oc, vs, t, rfl, hoc, hdc, hvc⟩ ?_
    rw [hbind]
    refine wpAny_pure (wpAny_newFunctionEnv (fun y hy => L.own y hy) (fun y hy => ?_) (fun h₁ hns hsb => ⟨I2.nolimit.fresh _ hsb, ?_⟩) L.kind)
    · have ey : y = (pr, u0) := by simpa using hy
      rw [ey]
      exact L.par
    show codeAny _ _ (.expr body (lamEnv X scope s2.heap.objs.size f c')) _ _
    have kp : ∀ b o, s2.heap.get? b = some o → h₁.get? b = some o := fun b o e => hsb.extBut b o (Nat.ne_of_lt (Heap.lt_size e)) (Heap.get?_push_of_some _ e)
    have J : Inv (lam1Cx X (X.A.deeper (envOfC qg sg s.heap.objs.size g cdg)) (envOfC qg sg s.heap.objs.size g cdg :: X.stack) s2 H2 E scope f c' pr) [] (σ ++ [some v]) H2 { s2 with heap := h₁, toks := s2.toks + ([(pr, u0)] : List (Str × Value)).length } :=
      lam1_start I L hpr r0 I2.env0 hr.hd un hns kp
    refine PySem.W.kla_codeExpr (wpAny_mono ((hbody (X.A.deeper (envOfC qg sg s.heap.objs.size g cdg)) _ s2 H2 rfl (hr.deeper _)).run [] _ _ H2 Q J q) (fun v s' hq => ?_) fun e s' hq => hq)
    obtain ⟨w', H', J', rv, q⟩ := hq
    exact ⟨w', H', J'.os, J'.bare, J'.base, J'.hok, rv, q⟩
  have hx : Passes (L2.CX X.prog X.w) ((cxOf CXg X.prog X.w X.K X.mg X.base Ng qg sg g cdg X.A X.stack s H Eg).tr pn xe) E := passes_call tk hW
  show wpAny _ _ (call (.ref f) [u0]) _ _ s2
  refine wpAny_call (codeAny_mono rc fun r s' hq => ?_)
  cases r with
  | error e => exact hx pinsZ σZ H2 s2 e s' I2 hq
  | ok fl =>
    cases fl with
    | ret u => exact I2.after hq
    | next => exact False.elim hq
    | brk => exact False.elim hq
    | cont => exact False.elim hq
end
end WX
/-! D15 -/
namespace K57
open PySem PySem.Spec PyProof.Rows L2 He
/-! ### Trial -/
def tFs (b th pa : Addr) : List (Str × V) := [("held_bench", .ref b), ("kept_things", .ref th), ("kept_past", .ref pa)]
theorem t_bench {b th pa : Addr} : List.lookup ("held_bench" : Str) (tFs b th pa) = some (V.ref b) := by simp [tFs, List.lookup]
theorem t_things {b th pa : Addr} : List.lookup ("kept_things" : Str) (tFs b th pa) = some (V.ref th) := by
  have h : (Str.ofString "kept_things" == Str.ofString "held_bench") = false := by decide +kernel
  simp [tFs, List.lookup, h]
theorem t_past {b th pa : Addr} : List.lookup ("kept_past" : Str) (tFs b th pa) = some (V.ref pa) := by
  have h : (Str.ofString "kept_past" == Str.ofString "held_bench") = false := by decide +kernel
  have h2 : (Str.ofString "kept_past" == Str.ofString "kept_things") = false := by decide +kernel
  simp [tFs, List.lookup, h, h2]
theorem tput_things {b th th' pa : Addr} : putF "kept_things" (.ref th') (tFs b th pa) = tFs b th' pa := by
  have h : ¬ (Str.ofString "held_bench" = Str.ofString "kept_things") := by decide +kernel
  simp [tFs, putF, h]
theorem tput_past {b th pa pa' : Addr} : putF "kept_past" (.ref pa') (tFs b th pa) = tFs b th pa' := by
  have h : ¬ (Str.ofString "held_bench" = Str.ofString "kept_past") := by decide +kernel
  have h2 : ¬ (Str.ofString "kept_things" = Str.ofString "kept_past") := by decide +kernel
  simp [tFs, putF, h, h2]
section
variable {P : Program} {w : World} {K : PySem.W.Frag} {mg : Str → Option Value} {base : Heap}
def spTrialI (K : PySem.W.Frag) : Sp := fun vs H Q _ => ∃ (x dx b : Addr) (n : Int) (th pa : Addr), vs = [.ref x, .ref b] ∧ H x = some (.ins (ga K "Trial") dx []) ∧ BenchAt K H b n th pa ∧ x ≠ b ∧ Q .non (upd H x (.ins (ga K "Trial") dx (tFs b th pa)))
theorem sc_Trial_init : FnScope ["self", "held"] ["self", "held"] (defScope sTrialInit) := ⟨rfl, rfl, rfl, by decide +kernel, rfl, by decide +kernel, by decide +kernel⟩
theorem ok_Trial_init (T : Txt K mg) : FnOk P w K mg base CX0 1 (ma K (ga K "Trial") "__init__") (fdAt K (ma K (ga K "Trial") "__init__")) ["self", "held"] (spTrialI K) := by
  refine T.f_Trial_init.ok sc_Trial_init (fun vs H Q E h => ?_) (fun cdv A outer s H vs Q E hr h => ?_)
  · obtain ⟨x, dx, b, n, th, pa, rfl, _⟩ := h
    rfl
  obtain ⟨x, dx, b, n, th, pa, rfl, hx, ⟨db, hb⟩, ne, q⟩ := h
  refine ⟨_, PSs.nox (pss_cons (ps_fld (pv 0) (pv 1) rfl)
    (pss_cons (ps_fld (pv 0) (pe_fld (pv 1) rfl) rfl)
    (pss_one (ps_fld (pv 0) (pe_fld (pv 1) rfl) rfl)))), ?_⟩
  have bx : b ≠ x := Ne.symm ne
  refine ⟨_, rfl, _, rfl, x, _, _, _, rfl, hx, T.ins_Trial.cl, T.n_Trial_held_bench, (by decide), ?_⟩
  refine ⟨_, rfl, b, _, _, _, _, rfl, (by rw [upd_ne bx]; exact hb), T.ins_Bench.cl, T.n_Bench_things, b_things, _, rfl, x, _, _, _, rfl, upd_same, T.ins_Trial.cl, T.n_Trial_kept_things, (by show 1 < 1000; decide), ?_⟩
  refine ⟨_, rfl, b, _, _, _, _, rfl, (by rw [upd_ne bx, upd_ne bx]; exact hb), T.ins_Bench.cl, T.n_Bench_past, b_past, _, rfl, x, _, _, _, rfl, upd_same, T.ins_Trial.cl, T.n_Trial_kept_past, (by show 2 < 1000; decide), ?_⟩
  have e1 : putF "kept_past" (.ref pa) (putF "kept_things" (.ref th) (putF "held_bench" (V.ref b) [])) = tFs b th pa := by
    have h : ¬ (Str.ofString "held_bench" = Str.ofString "kept_past") := by decide +kernel
    have h2 : ¬ (Str.ofString "kept_things" = Str.ofString "kept_past") := by decide +kernel
    have h3 : ¬ (Str.ofString "held_bench" = Str.ofString "kept_things") := by decide +kernel
    simp [tFs, putF, h, h2, h3]
  rw [upd_upd, upd_upd, e1]
  exact q
def spEnter (K : PySem.W.Frag) : Sp := fun vs H Q _ => ∃ (x dx b : Addr) (n : Int) (th pa : Addr), vs = [.ref x] ∧ H x = some (.ins (ga K "Trial") dx (tFs b th pa)) ∧ BenchAt K H b n th pa ∧ x ≠ b ∧ Q (.ref x) H
theorem sc_Trial_enter : FnScope ["self"] ["self"] (defScope sTrialEnter) := ⟨rfl, rfl, rfl, by decide +kernel, rfl, by decide +kernel, by decide +kernel⟩
theorem ok_Trial_enter (T : Txt K mg) : FnOk P w K mg base CX0 1 (ma K (ga K "Trial") "__enter__") (fdAt K (ma K (ga K "Trial") "__enter__")) ["self"] (spEnter K) := by
  refine T.f_Trial_enter.ok sc_Trial_enter (fun vs H Q E h => ?_) (fun cdv A outer s H vs Q E hr h => ?_)
  · obtain ⟨x, dx, b, n, th, pa, rfl, _⟩ := h
    rfl
  obtain ⟨x, dx, b, n, th, pa, rfl, hx, ⟨db, hb⟩, ne, q⟩ := h
  have bx : b ≠ x := Ne.symm ne
  refine ⟨_, PSs.nox (pss_cons (ps_fld (pv 0) (pe_fld (pe_fld (pv 0) rfl) rfl) rfl)
    (pss_cons (ps_fld (pv 0) (pe_fld (pe_fld (pv 0) rfl) rfl) rfl)
    (pss_one (ps_ret (pv 0))))), ?_⟩
  refine ⟨_, rfl, x, _, _, _, _, rfl, hx, T.ins_Trial.cl, T.n_Trial_held_bench, t_bench, b, _, _, _, _, rfl, hb, T.ins_Bench.cl, T.n_Bench_things, b_things, _, rfl, x, _, _, _, rfl, hx, T.ins_Trial.cl, T.n_Trial_kept_things, (by show 3 < 1000; decide), ?_⟩
  rw [tput_things]
  refine ⟨_, rfl, x, _, _, _, _, rfl, upd_same, T.ins_Trial.cl, T.n_Trial_held_bench, t_bench, b, _, _, _, _, rfl, (by rw [upd_ne bx]; exact hb), T.ins_Bench.cl, T.n_Bench_past, b_past, _, rfl, x, _, _, _, rfl, upd_same, T.ins_Trial.cl, T.n_Trial_kept_past, (by show 3 < 1000; decide), ?_⟩
  rw [tput_past, upd_upd]
  refine ⟨_, rfl, ?_⟩
  have e : upd H x (.ins (ga K "Trial") dx (tFs b th pa)) = H := by
    funext p
    by_cases hp : p = x
    · rw [hp, upd_same, hx]
    · rw [upd_ne hp]
  rw [e]
  exact q
def spExit (K : PySem.W.Frag) : Sp := fun vs H Q _ => ∃ (x dx b db : Addr) (n : Int) (th pa th0 pa0 : Addr) (k v t : V), vs = [.ref x, k, v, t] ∧ H x = some (.ins (ga K "Trial") dx (tFs b th0 pa0)) ∧ H b = some (.ins (ga K "Bench") db (bFs n th pa)) ∧ x ≠ b ∧ Q .non (upd H b (.ins (ga K "Bench") db (bFs n th0 pa0)))
theorem spExit_len {vs : List V} {H : Hp} {Q : VK} {E : XK} (h : spExit K vs H Q E) : vs.length = 4 := by
  obtain ⟨x, dx, b, db, n, th, pa, th0, pa0, k, v, t, rfl, _⟩ := h
  rfl
theorem sc_Trial_exit : FnScope ["self", "kind", "value", "trace"] ["self", "kind", "value", "trace"] (defScope sTrialExit) := ⟨rfl, rfl, rfl, by decide +kernel, rfl, by decide +kernel, by decide +kernel⟩
theorem ok_Trial_exit (T : Txt K mg) : FnOk P w K mg base CX0 1 (ma K (ga K "Trial") "__exit__") (fdAt K (ma K (ga K "Trial") "__exit__")) ["self", "kind", "value", "trace"] (spExit K) := by
  refine T.f_Trial_exit.ok sc_Trial_exit (fun vs H Q E h => spExit_len h) (fun cdv A outer s H vs Q E hr h => ?_)
  obtain ⟨x, dx, b, db, n, th, pa, th0, pa0, k, v, t, rfl, hx, hb, ne, q⟩ := h
  refine ⟨_, PSs.nox (pss_cons (ps_fld (pe_fld (pv 0) rfl) (pe_fld (pv 0) rfl) rfl)
    (pss_one (ps_fld (pe_fld (pv 0) rfl) (pe_fld (pv 0) rfl) rfl))), ?_⟩
  have bx : b ≠ x := Ne.symm ne
  refine ⟨_, rfl, x, _, _, _, _, rfl, hx, T.ins_Trial.cl, T.n_Trial_kept_things, t_things, _, rfl, x, _, _, _, _, rfl, hx, T.ins_Trial.cl, T.n_Trial_held_bench, t_bench, b, _, _, _, rfl, hb, T.ins_Bench.cl, T.n_Bench_things, (by show 3 < 1000; decide), ?_⟩
  have hx2 : (upd H b (.ins (ga K "Bench") db (putF "things" (.ref th0) (bFs n th pa)))) x = some (.ins (ga K "Trial") dx (tFs b th0 pa0)) := by rw [upd_ne ne]; exact hx
  refine ⟨_, rfl, x, _, _, _, _, rfl, hx2, T.ins_Trial.cl, T.n_Trial_kept_past, t_past, _, rfl, x, _, _, _, _, rfl, hx2, T.ins_Trial.cl, T.n_Trial_held_bench, t_bench, b, _, _, _, rfl, upd_same, T.ins_Bench.cl, T.n_Bench_past, (by rw [put_things]; show 3 < 1000; decide), ?_⟩
  rw [put_things, put_past, upd_upd]
  exact q
theorem okP_Trial_exit (T : Txt K mg) : WX.FnP P w K mg base 1 (ma K (ga K "Trial") "__exit__") (fdAt K (ma K (ga K "Trial") "__exit__")) ["self", "kind", "value", "trace"] (spExit K) := by
  refine WX.okP T.f_Trial_exit sc_Trial_exit (fun vs H Q E h => spExit_len h) (fun cdv A outer s H vs Q E p h => ?_)
  obtain ⟨x, dx, b, db, n, th, pa, th0, pa0, k, v, t, rfl, hx, hb, ne, q⟩ := h
  refine ⟨_, PSs.nox (pss_cons (ps_fld (pe_fld (pv 0) rfl) (pe_fld (pv 0) rfl) rfl)
    (pss_one (ps_fld (pe_fld (pv 0) rfl) (pe_fld (pv 0) rfl) rfl))), ?_⟩
  have bx : b ≠ x := Ne.symm ne
  refine ⟨_, rfl, x, _, _, _, _, rfl, hx, T.ins_Trial.cl, T.n_Trial_kept_things, t_things, _, rfl, x, _, _, _, _, rfl, hx, T.ins_Trial.cl, T.n_Trial_held_bench, t_bench, b, _, _, _, rfl, hb, T.ins_Bench.cl, T.n_Bench_things, (by show 3 < 1000; decide), ?_⟩
  have hx2 : (upd H b (.ins (ga K "Bench") db (putF "things" (.ref th0) (bFs n th pa)))) x = some (.ins (ga K "Trial") dx (tFs b th0 pa0)) := by rw [upd_ne ne]; exact hx
  refine ⟨_, rfl, x, _, _, _, _, rfl, hx2, T.ins_Trial.cl, T.n_Trial_kept_past, t_past, _, rfl, x, _, _, _, _, rfl, hx2, T.ins_Trial.cl, T.n_Trial_held_bench, t_bench, b, _, _, _, rfl, upd_same, T.ins_Bench.cl, T.n_Bench_past, (by rw [put_things]; show 3 < 1000; decide), ?_⟩
  rw [put_things, put_past, upd_upd]
  exact q
end
section
variable {X : Cx} {E : XK} {e : Expr} {es : List Expr} {t : TA} {p pos : Pos}
theorem bd_trial2 {K : PySem.W.Frag} {mg : Str → Option Value} (T : Txt K mg) : Binds K (fdAt K (ma K (ga K "Trial") "__init__")) ["self", "held"] [] := T.f_Trial_init.bindsN fun _ _ _ _ _ _ us hl => match us, hl with | [_, _], _ => rfl
theorem bd_bench2 {K : PySem.W.Frag} {mg : Str → Option Value} (T : Txt K mg) : Binds K (fdAt K (ma K (ga K "Bench") "__init__")) ["self", "size"] [] := T.f_Bench_init.bindsN fun _ _ _ _ _ _ us hl => match us, hl with | [_, _], _ => rfl
theorem bd_enter {K : PySem.W.Frag} {mg : Str → Option Value} (T : Txt K mg) : Binds K (fdAt K (ma K (ga K "Trial") "__enter__")) ["self"] [] := T.f_Trial_enter.bindsN fun _ _ _ _ _ _ us hl => match us, hl with | [_], _ => rfl
theorem bd_exit {K : PySem.W.Frag} {mg : Str → Option Value} (T : Txt K mg) : Binds K (fdAt K (ma K (ga K "Trial") "__exit__")) ["self", "kind", "value", "trace"] [] := T.f_Trial_exit.bindsN fun _ _ _ _ _ _ us hl => match us, hl with | [_, _, _, _], _ => rfl
theorem c_Trial (T : Txt X.K X.mg) (hr : Room 2 X.A) (ha : PA X (e :: es) t) (hg : Gl X "Trial" := by rfl) (he : starEach (e :: es) X.env = (false, eval e X.env) :: starEach es X.env := by rfl) (hpl : (backTo pos (starEach es X.env)).any (·.1) = false := by rfl) :
    PE X (.Call (.Name "Trial" p) (e :: es) [] pos) (tMake (ga X.K "Trial") (spTrialI X.K) [] E0 t) := pe_make T.mk_Trial (ok_Trial_init T) hr hg T.g_Trial (bd_trial2 T) .nil pass0 ha (by decide) he hpl
theorem c_Bench (T : Txt X.K X.mg) (hr : Room 4 X.A) (ha : PA X (e :: es) t) (hg : Gl X "Bench" := by rfl) (he : starEach (e :: es) X.env = (false, eval e X.env) :: starEach es X.env := by rfl) (hpl : (backTo pos (starEach es X.env)).any (·.1) = false := by rfl) :
    PE X (.Call (.Name "Bench" p) (e :: es) [] pos) (tMake (ga X.K "Bench") (spBenchI X.K) [] E0 t) := pe_make T.mk_Bench (ok_Bench_init T) hr hg T.g_Bench (bd_bench2 T) .nil pass0 ha (by decide) he hpl
end
section
variable {P : Program} {w : World} {K : PySem.W.Frag} {mg : Str → Option Value} {base : Heap}
/-! ### Bench.trial -/
def spTrial (K : PySem.W.Frag) : Sp := fun vs H Q _ => ∃ (b : Addr) (n : Int) (th pa : Addr), vs = [.ref b] ∧ BenchAt K H b n th pa ∧ ∀ H1 x dx, Same H H1 → H x = none → H1 x = some (.ins (ga K "Trial") dx (tFs b th pa)) → Q (.ref x) H1
theorem sc_Bench_trial : FnScope ["self"] ["self"] (defScope sBenchTrial) := ⟨rfl, rfl, rfl, by decide +kernel, rfl, by decide +kernel, by decide +kernel⟩
theorem ok_Bench_trial (T : Txt K mg) : FnOk P w K mg base CX0 3 (ma K (ga K "Bench") "trial") (fdAt K (ma K (ga K "Bench") "trial")) ["self"] (spTrial K) := by
  refine T.f_Bench_trial.ok sc_Bench_trial (fun vs H Q E h => ?_) (fun cdv A outer s H vs Q E hr h => ?_)
  · obtain ⟨b, n, th, pa, rfl, _⟩ := h
    rfl
  obtain ⟨b, n, th, pa, rfl, ⟨db, hb⟩, q⟩ := h
  refine ⟨_, PSs.nox (pss_one (ps_ret (c_Trial T (hr.mono (by decide)) (pa_cons (pv 0) pa_nil)))), ?_⟩
  refine ⟨_, rfl, fun x dx nx ndx ne => ?_⟩
  have bx := ne_of_none hb nx
  have bd := ne_of_none hb ndx
  refine ⟨x, dx, b, n, th, pa, rfl, upd_same, ⟨db, by rw [upd_ne bx, upd_ne bd]; exact hb⟩, Ne.symm bx, rfl, ?_⟩
  rw [upd_upd]
  refine q _ x dx (fun p o e => ?_) nx upd_same
  rw [upd_ne (ne_of_none e nx), upd_ne (ne_of_none e ndx)]
  exact e
theorem bd_Bench_trial {K : PySem.W.Frag} {mg : Str → Option Value} (T : Txt K mg) : Binds K (fdAt K (ma K (ga K "Bench") "trial")) ["self"] [] := T.f_Bench_trial.bindsN fun _ _ _ _ _ _ us hl => match us, hl with | [_], _ => rfl
theorem m_trial {X : Cx} {o : Expr} {ta : TE} {apos pos : Pos} {pl : Sem Bool} (T : Txt X.K X.mg) (hr : Room 3 X.A) (ho : PE X o ta)
    (ht : eval (.Call (.Attribute o "trial" apos) [] [] pos) X.env = (do
      let ov ← eval o X.env
      standAt apos.atName
      let (f, first) ← holding [ov] (getMethod ov "trial" pl)
      callWith pos f first (backTo pos (starEach [] X.env)) (backToKw pos (keywordEach [] X.env))) := by rfl) :
    PE X (.Call (.Attribute o "trial" apos) [] [] pos) (tMeth (ga X.K "Bench") "trial" ((spTrial X.K)) [] E0 ta tNil) := pe_meth0 (pl := pl) ho T.ins_Bench.cl T.m_Bench_trial (ok_Bench_trial T) hr (bd_Bench_trial T) .nil pass0 ht
end
end K57
/-! G1 -/
/-! defs that are told where no object is being shown: repr of data -/
namespace K57
open PySem PySem.Spec PyProof.Rows L2 He
structure FnG (P : Program) (w : World) (K : PySem.W.Frag) (mg : Str → Option Value) (base : Heap) (CX : CXT) (k : Nat) (f : Addr) (fd : FuncData) (ps : List Str) (sp : Sp) : Prop where
  len : ∀ vs H Q E, sp vs H Q E → vs.length = ps.length
  run : ∀ (A : Around) (outer : List Env) (s : Shared) (H : Hp) (args : Args) (us : List Value) (vs : List V) (Q : VK) (E : XK), A.guards = some [] → Room k A → Env0 P w K mg base A outer s H → BindsTo s fd args (ps.zip us) → Vals vs us → sp vs H Q E →
    codeAny (model P w) A (.call (.ref f) args) (CR CX outer P w H s Q E) s
section
variable {P : Program} {w : World} {K : PySem.W.Frag} {mg : Str → Option Value} {base : Heap} {x qual : Str} {params : Arguments} {body : List Stmt} {scope : Scope} {dvs : List V} {kws : List (Str × V)} {f : Addr} {fd : FuncData} {CX : CXT}
theorem FnG.never {k : Nat} {ps : List Str} : FnG P w K mg base CX k f fd ps (fun _ _ _ _ => False) := ⟨fun _ _ _ _ h => h.elim, fun _ _ _ _ _ _ _ _ _ _ _ _ _ _ h => h.elim⟩
theorem okG {N ps : List Str} {k : Nat} {sp : Sp} (F : FunD K x qual params body scope dvs kws f fd) (S : FnScope N ps scope) (len : ∀ vs H Q E, sp vs H Q E → vs.length = ps.length)
    (hbody : ∀ (cdv : Value) (A : Around) (outer : List Env) (s : Shared) (H : Hp) (vs : List V) (Q : VK) (E : XK), A.guards = some [] → fd.code = cdv → Room k (A.deeper (envOfC qual scope s.heap.objs.size f cdv)) → sp vs H Q E →
      ∃ t, PSs (cxOf CX P w K mg base N qual scope f cdv A outer s H E) body t ∧ t { nx := fun _ H' => Q .non H', rt := Q } (L2.start N vs) H) : FnG P w K mg base CX (k + 1) f fd ps sp := by
  obtain ⟨oc, od, dV, kV, doc, pm, an, cdv, ct, osl, rfl, lk, hcd, _, _⟩ := F.ex
  exact ⟨len, fun A outer s H args us vs Q E hg hr e0 hb r hsp => LamX.run_ofS lk hcd S hr e0 hb r (len _ _ _ _ hsp) fun hr' => hbody cdv A outer s H vs Q E hg rfl hr' hsp⟩
end
section
variable {X : Cx} {CX : CXT} {k : Nat} {f : Addr} {fd : FuncData} {ps : List Str} {sp : Sp} {dvs : List V} {ds : List Value} {E : XK} {x : Str} {p pos : Pos} {e : Expr} {es : List Expr} {t : TA}
theorem run_fnG {pins : List (Addr × Obj)} {σ : L2.St} {H : Hp} {s : Shared} {Q : VK} {us : List Value} {vs : List V} (F : FnG X.prog X.w X.K X.mg X.base CX k f fd ps sp) (hA : X.A.guards = some []) (hr : Room k X.A) (hb : L2.Binds X.K fd ps ds) (hd : Vals dvs ds) (hx : Passes CX X E)
    (I : Inv X pins σ H s) (r : Vals vs us) (h : sp (vs ++ dvs) H Q E) : wpAny (model X.prog X.w) X.A (call (.ref f) us) (EP X pins σ Q) X.xe s := by
  have r2 : Vals (vs ++ dvs) (us ++ ds) := r.append hd
  have hl : (us ++ ds).length = ps.length := by rw [← r2.length]; exact F.len _ _ _ _ h
  refine wpAny_call (codeAny_mono (F.run X.A X.stack s H ⟨us, []⟩ (us ++ ds) (vs ++ dvs) Q E hA hr I.env0 (hb s us I.kIn hl) r2 h) fun r s' hq => ?_)
  cases r with
  | error e => exact hx pins σ H s e s' I hq
  | ok fl =>
    cases fl with
    | ret u => exact I.after hq
    | next => exact False.elim hq
    | brk => exact False.elim hq
    | cont => exact False.elim hq
theorem pe_callG (F : FnG X.prog X.w X.K X.mg X.base CX k f fd ps sp) (hA : X.A.guards = some []) (hr : Room k X.A) (hg : Gl X x) (hm : X.mg x = some (.ref f)) (hk : PySem.W.keepIn X.K (.ref f) = true) (hb : L2.Binds X.K fd ps ds) (hd : Vals dvs ds) (hx : Passes CX X E)
    (ha : PA X (e :: es) t) (hdb : (x == ("__debug__" : Str)) = false := by decide) (he : starEach (e :: es) X.env = (false, eval e X.env) :: starEach es X.env := by rfl) (hpl : (backTo pos (starEach es X.env)).any (·.1) = false := by rfl) :
    PE X (.Call (.Name x p) (e :: es) [] pos) (tCall sp dvs E t) := by
  refine ⟨fun pins s σ H Q I h => ?_⟩
  refine wpAny_Call_Name_kw (ld_glob I hg hm ?_ hdb)
  refine PySem.W.callWith_K (h₀ := X.base) I.ok.mod.kin hk (thn (ha.run pos pins s σ H _ I h) fun us s1 ⟨vs, H1, I1, r, q⟩ => ⟨I1.kIn, ?_⟩) he hpl
  exact run_fnG F hA hr hb hd hx I1 r q
end
/-! ### repr of data -/
/-- data that is shown in a bounded text -/
def Shown (d : PyData) : Prop := PyData.showable d = true ∧ PyData.hasDict d = false ∧ d.depth ≤ 10 ∧ PyData.leavesShort 40 d = true ∧ d.weight ≤ 200000
theorem Shown.fits {d : PyData} (h : Shown d) : d.shown.length ≤ sizeLine := by
  have h1 := PyData.shown_le 40 (by decide) d h.2.2.2.1
  have h2 := h.2.2.2.2
  rw [sizeLine_eq]
  omega
def rReprD (K : PySem.W.Frag) : List V → Hp → VK → Prop := fun xs H Q => ∃ v d, xs = [v] ∧ Dp K H v d ∧ Shown d ∧ Q (.str d.shown) H
theorem call_reprD {X : Cx} (hg : X.A.guards = some []) (hu : X.A.units + 64 < cLine) : CallR X (.builtin "repr") (rReprD X.K) := by
  intro pins s σ H xs us Q I r h
  obtain ⟨v, d, rfl, hd, hsh, q⟩ := h
  obtain ⟨u, rfl, ru⟩ := vals1 r
  have hfit := hsh.fits
  obtain ⟨h1, h2, h3, _, _⟩ := hsh
  cases hd with
  | non =>
    obtain rfl : u = Value.none := ru
    exact PySem.P.repr_of_none ⟨.str _, H, I.tok _, ⟨_, rfl⟩, q⟩
  | bl b =>
    obtain rfl : u = Value.bool b := ru
    exact PySem.P.repr_of_bool ⟨.str _, H, I.tok _, ⟨_, rfl⟩, q⟩
  | int i =>
    obtain ⟨t, rfl⟩ := ru
    exact PySem.P.repr_of_int (of_decide_eq_true h1) ⟨.str _, H, I.tok _, ⟨_, rfl⟩, q⟩
  | str x =>
    obtain ⟨t, rfl⟩ := ru
    exact PySem.P.repr_of_str ⟨.str _, H, I.tok _, ⟨_, rfl⟩, q⟩ hfit
  | lst h a =>
    obtain ⟨as, rr⟩ := Dp.reads I _ _ _ (Dp.lst h a) ru
    obtain rfl : u = Value.ref _ := ru
    exact repr_of_reads' rr h1 (PyData.noDict_hsm h2) hg (by omega) (fun _ _ e => e) (fun h' u' tk hk => ⟨.str _, H, I.kept (t' := tk) hk, ⟨_, rfl⟩, q⟩) hfit
  | tup h a =>
    obtain ⟨as, rr⟩ := Dp.reads I _ _ _ (Dp.tup h a) ru
    obtain rfl : u = Value.ref _ := ru
    exact repr_of_reads' rr h1 (PyData.noDict_hsm h2) hg (by omega) (fun _ _ e => e) (fun h' u' tk hk => ⟨.str _, H, I.kept (t' := tk) hk, ⟨_, rfl⟩, q⟩) hfit
end K57
/-! E1 -/
namespace K57
open PySem PySem.Spec PyProof.Rows L2 He
/-! ### the caller runs the law: the script stands still, one table of code objects -/
def hp0 (K : PySem.W.Frag) (t a : Addr) (o : Obj) (zs : List V) : Hp := fun b => if b = t then some (.tbl #[]) else if b = a ∧ K.lookup a = none then some (.frz o (.lst zs)) else none
section
variable {P : Program} {w : World} {K : PySem.W.Frag} {mg mb : Str → Option Value} {CX : CXT} {k : Nat} {fa a c t : Addr} {fd : FuncData} {x : Str} {sp : Sp} {s₁ : Shared} {vs : List Value} {ns : List Int}
theorem law_callG (KX : K.In s₁.heap) (hns : s₁.heap.Ns mainGlobals mg) (hb : s₁.heap.Ns builtinsNs mb) (hbb : ∀ x : Str, x ≠ "__name__" → mb x = bootBuiltins x) (hlim : s₁.heap.NoLimit) (hg : s₁.gens = #[])
    (hT : s₁.heap.get? t = some { cls := .none, data := .fields #[] }) (nT : K.lookup t = none) (C : PySem.W.CodeHd s₁.heap c t)
    (hbm : ∃ (bm : Addr) (ob : Obj), mg "__builtins__" = some (.ref bm) ∧ bm ≠ builtinsNs ∧ s₁.heap.get? bm = some ob ∧ ob.cls = .type "module" ∧ ob.dict = some builtinsNs ∧ ob.data = .plain)
    (ha : s₁.heap.get? a = some { cls := .type "list", data := .seq vs.toArray }) (hi : IntsAre vs ns) (hl : ns.length ≤ sizeLine) (hr : Room k callerA)
    (F : ∀ base : Heap, K.In base → base.Ns mainGlobals mg → LamX.TabB base mg c t → FnG P w K mg base CX k fa fd [x] sp) (hbind : ∀ (s : Shared) (u : Value), BindsTo s fd ⟨[u], []⟩ [(x, u)])
    (hsp : ∀ H : Hp, H t = some (.tbl #[]) → SqL K H a (ns.map V.int) → sp [.ref a] H (fun v _ => v = .bl true) fun _ _ _ => False)
    (hCX : ∀ H e s', CX [] H s₁ (fun _ _ _ => False) e s' → False) :
    codeAny (model P w) callerA (.call (.ref fa) ⟨[.ref a], []⟩) (fun r s' => r = .ok (.ret (.bool true)) ∧ OldK s₁.heap s'.heap ∧ s'.os = s₁.os ∧ AllBare s'.gens) s₁ := by
  have rv := vals_ints hi
  have lenV := hi.length
  have nat : a ≠ t := fun z => by
    rw [z, hT] at ha
    cases ha
  obtain ⟨H, hH⟩ : ∃ H, H = hp0 K t a { cls := .type "list", data := .seq vs.toArray } (ns.map V.int) := ⟨_, rfl⟩
  have atT : H t = some (.tbl #[]) := by rw [hH]; exact if_pos rfl
  have off : ∀ {b}, b ≠ t → b ≠ a → H b = none := fun {b} h1 h2 => by
    rw [hH]
    exact (if_neg h1).trans (if_neg fun z => h2 z.1)
  have atA : K.lookup a = none → H a = some (.frz { cls := .type "list", data := .seq vs.toArray } (.lst (ns.map V.int))) := fun e => by
    rw [hH]
    exact (if_neg nat).trans (if_pos ⟨rfl, e⟩)
  have offA : ∀ {o}, K.lookup a = some o → H a = none := fun {o} e => by
    rw [hH]
    exact (if_neg nat).trans (if_neg fun z => by rw [e] at z; cases z.2)
  have okA : ObjOk P w H s₁.heap a (.frz { cls := .type "list", data := .seq vs.toArray } (.lst (ns.map V.int))) := ⟨ha, by rw [List.length_map]; exact hl, vs, _, rv, ha⟩
  have hok : HOk P w H s₁.heap := fun b u e => by
    by_cases h1 : b = t
    · subst h1
      rw [atT] at e
      cases e
      exact hT
    · by_cases h2 : b = a
      · subst h2
        cases q : K.lookup b with
        | none =>
          rw [atA q] at e
          cases e
          exact okA
        | some o =>
          rw [offA q] at e
          cases e
      · rw [off h1 h2] at e
        cases e
  have script : SqL K H a (ns.map V.int) := by
    cases q : K.lookup a with
    | none => exact .inl (.inr ⟨_, atA q⟩)
    | some o =>
      have e := KX a o q
      rw [ha] at e
      cases e
      exact .inr ⟨_, vs.toArray, _, q, rfl, rfl, rfl, by rw [List.size_toArray, lenV]; exact hl, by simpa using rv⟩
  -- what is no list and no table is hidden from nobody
  have seen : ∀ {b : Addr} {o : Obj}, s₁.heap.get? b = some o → (∀ v n, o.data ≠ .seq v n) → o.data ≠ .fields #[] → (hidT s₁.heap H).get? b = some o := fun {b o} e h1 h2 => hidT_get e (off (fun z => by
    rw [z, hT] at e
    cases e
    exact h2 rfl) fun z => by
    rw [z, ha] at e
    cases e
    exact h1 _ _ rfl)
  have nsB : ∀ {b : Addr} {m : Str → Option Value}, s₁.heap.Ns b m → (hidT s₁.heap H).Ns b m := fun {b m} ⟨o, es, ep, e, d, r⟩ => ⟨o, es, ep, seen e (fun v n z => by rw [d] at z; cases z) (fun z => by rw [d] at z; cases z), d, r⟩
  have inB : K.In (hidT s₁.heap H) := fun b o e => hidT_get (KX b o e) (by
    by_cases h1 : b = t
    · rw [h1, nT] at e
      cases e
    · by_cases h2 : b = a
      · subst h2
        exact offA e
      · exact off h1 h2)
  have mod : L2.Mod K mg (hidT s₁.heap H) := ⟨inB, nsB hns, ⟨mb, nsB hb, hbb⟩, let ⟨mc, h1, h2⟩ := hlim; ⟨mc, nsB h1, h2⟩⟩
  have tab : LamX.TabB (hidT s₁.heap H) mg c t := by
    refine ⟨?_, ?_, fun z => ?_⟩
    · obtain ⟨o, us, file, tf, flags, tg, inF, text, tt, e1, r1, r2, r3, rest⟩ := C
      exact ⟨o, us, file, tf, flags, tg, inF, text, tt, seen e1 (fun v n z => by rw [r2] at z; cases z) (fun z => by
        rw [r2] at z
        cases z
        simp at r3), r1, r2, r3, rest⟩
    · obtain ⟨bm, ob, b1, b2, b3, b4, b5, b6⟩ := hbm
      refine ⟨bm, ob, b1, b2, fun q => ?_, fun q => ?_, seen b3 (fun v n z => by rw [b6] at z; cases z) (fun z => by rw [b6] at z; cases z), b4, b5, b6⟩
      · obtain ⟨o, es, ep, e, hd, _⟩ := hns
        rw [q, e] at b3
        cases b3
        rw [hd] at b6
        cases b6
      · rw [q, hT] at b3
        cases b3
        cases b6
    · obtain ⟨o, es, ep, e, hd, _⟩ := hns
      rw [z, hT] at e
      cases e
      cases hd
  have e0 : Env0 P w K mg (hidT s₁.heap H) callerA [] s₁ H := ⟨rfl, mod, fun b o e => of_hidT e, Nat.le_of_eq (hidT_size _ _), trivial, fun b hb => (nomatch hb), hok, .of_eq hg⟩
  refine codeAny_mono ((F _ inB (nsB hns) tab).run callerA [] s₁ H ⟨[.ref a], []⟩ [.ref a] [.ref a] _ _ rfl hr e0 (hbind s₁ (.ref a)) (.cons rfl .nil) (hsp H atT script)) fun r s' h => ?_
  cases r with
  | error e => exact (hCX H e s' h).elim
  | ok fl =>
    cases fl with
    | next => exact False.elim h
    | brk => exact False.elim h
    | cont => exact False.elim h
    | ret u =>
      obtain ⟨v, H', os, bare, un, hok', r', q⟩ := h
      have q' : v = .bl true := q
      subst q'
      obtain rfl : u = Value.bool true := r'
      have kept : ∀ b o, b ≠ t → s₁.heap.get? b = some o → s'.heap.get? b = some o := fun b o nb e => by
        cases q : H b with
        | none => exact un.keep b o e q (fun z => (nomatch z)) (by simp)
        | some u =>
          by_cases h2 : b = a
          · subst h2
            cases q2 : K.lookup b with
            | none =>
              have z1 := atA q2
              obtain ⟨e1, _⟩ := hok b _ z1
              obtain ⟨e2, _⟩ := hok' b _ (un.frzs b _ _ z1)
              rw [e] at e1
              cases e1
              exact e2
            | some o2 =>
              rw [offA q2] at q
              cases q
          · rw [off nb h2] at q
            cases q
      obtain ⟨more, grown⟩ := un.tbls t #[] atT
      have grown := hok' t _ grown
      refine ⟨rfl, ⟨fun b o e => ?_, fun b o e => ?_⟩, os, bare⟩
      · by_cases hb : b = t
        · subst hb
          rw [hT] at e
          cases e
          exact .inr (.inl ⟨(C.tab hT).isCodeTable, rfl, #[], more, rfl, by rw [grown, Array.empty_append]⟩)
        · exact .inl (kept b o hb e)
      · by_cases hb : b = t
        · rw [hb]
          exact ⟨_, grown⟩
        · exact ⟨o, kept b o hb e⟩
end
end K57
/-! W3 -/
namespace K57
open PySem PySem.Spec PyProof.Rows L2 He
/-! ### bench.tried(lambda held: ..) -/
theorem sc_Bench_tried : FnScope ["self", "act"] ["self", "act"] (defScope sBenchTried) := ⟨rfl, rfl, rfl, by decide +kernel, rfl, by decide +kernel, by decide +kernel⟩
/-- the lambda is made: but for the one table all that stood stands -/
def ExtB (P : Addr) (H H' : Hp) : Prop := ∀ b o, b ≠ P → H b = some o → H' b = some o
section
variable {X : Cx} {pins : List (Addr × Obj)} {σ : L2.St} {H : Hp} {s : Shared}
theorem lam_makeX {c P : Addr} {params : Arguments} {lbody : Expr} {scope : Scope} {pos : Pos} {Er Q : Value → Shared → Prop} (I : Inv X pins σ H s) (TB : LamX.TabB X.base X.mg c P) (hcode : X.env.code = .ref c) (hT : LamX.TabS H P (X.env.qual ++ "<lambda>"))
    (hdef : defaultsOf params X.env = ([], [])) (hfree : ∀ y ∈ scope.names, y.2 = .free → ∃ c, X.env.cells.lookup y.1 = some c)
    (k : ∀ (f c' : Addr) (pm ctv : Value) (H1 : Hp) (s' : Shared), Inv X pins σ H1 s' → ExtB P H H1 ∧ LamX.TabS H1 P (X.env.qual ++ "<lambda>") →
      s'.heap.get? f = some (PySem.W.kla_obj "<lambda>" (X.env.qual ++ "<lambda>") params lbody scope (cloFrom X.env.cells scope.names []) pm c' ctv) → H1 f = none ∧ f ∉ frs X.stack ∧ H1 c' = some (LamX.CodeO c' (X.env.qual ++ "<lambda>")) → Q (.ref f) s') :
    wpAny (model X.prog X.w) X.A (eval (.Lambda params lbody scope pos) X.env) Q Er s := by
  obtain ⟨tab, tabAt, tabOk, known⟩ := hT
  have onHeap := I.hok P _ tabAt
  have late : ∀ {f}, s.heap.objs.size ≤ f → f ∉ frs X.stack := fun {f} hf z => (List.mem_cons.mp (I.stkSub _ z)).elim (fun e => by
    have h1 := I.lt
    rw [← e] at h1
    exact Nat.lt_irrefl _ (Nat.lt_of_lt_of_le h1 hf)) (I.nofs hf)
  refine PySem.W.kla_eval hdef ?_
  cases seen : codeAmong pos tab.toList with
  | some cv =>
    obtain ⟨c', rfl, told⟩ := known pos cv seen
    exact PySem.W.kla_makeFunctionHit (mg := X.mg) (c := c) (P := P) (ps := tab) (closure_ok hfree) I.ok.glob (I.mod.glob.keeps I.bk) hcode (TB.code.keeps I.bk) onHeap tabOk seen (TB.bm.keeps I.bk) fun ctv h' tk up sz =>
      k _ c' _ ctv H _ (I.kept fun b o e => Heap.get?_push_of_some _ (up b o e)) ⟨fun b o _ e => e, tab, tabAt, tabOk, known⟩ (Heap.get?_push_size _ rfl) ⟨I.hok.fresh sz, late sz, told⟩
  | none =>
    refine PySem.W.kla_makeFunction (mg := X.mg) (c := c) (P := P) (ps := tab) (closure_ok hfree) I.ok.glob (I.mod.glob.keeps I.bk) hcode (TB.code.keeps I.bk) onHeap tabOk seen TB.gP (TB.bm.keeps I.bk) fun c' ctv h' tk up ge lt rec there => ?_
    obtain ⟨c2, oc, vs, t, e2, hoc, hd, hv⟩ := rec
    cases e2
    have free : H c' = none := I.hok.fresh ge
    have sz : s.heap.objs.size ≤ h'.objs.size := Nat.le_trans ge (Nat.le_of_lt lt)
    have Pc : P ≠ c' := ne_of_none tabAt free
    have keep : ExtB P H (upd (upd H P (.tbl (tab ++ #[rawInt pos.line, rawInt pos.col, .ref c']))) c' (LamX.CodeO c' (X.env.qual ++ "<lambda>"))) := fun b o hb e => by
      rw [upd_ne (ne_of_none e free), upd_ne hb]
      exact e
    have PltH : P < h'.objs.size := Nat.lt_of_lt_of_le (Heap.lt_size onHeap) sz
    have app : (tab ++ #[rawInt pos.line, rawInt pos.col, .ref c']).toList = tab.toList ++ [rawInt pos.line, rawInt pos.col, .ref c'] := by simp
    refine k _ c' _ ctv _ _ (LamX.inv_table (t' := tk) (more := #[rawInt pos.line, rawInt pos.col, .ref c']) (h' := h'.push (PySem.W.kla_obj "<lambda>" (X.env.qual ++ "<lambda>") params lbody scope (cloFrom X.env.cells scope.names []) ((X.mg "__name__").getD .none) c' ctv)) I tabAt
      (fun b o hb e => Heap.get?_push_of_some _ (up b o hb e)) (Heap.get?_push_of_some _ there) ge ⟨oc, vs, t, Heap.get?_push_of_some _ hoc, hd, hv⟩) ⟨keep, _, by rw [upd_ne Pc, upd_same], ?_, fun p' cv hcv => ?_⟩ (Heap.get?_push_size _ rfl) ⟨?_, late sz, upd_same⟩
    · rw [app]
      exact PySem.TriplesOk_snoc _ _ _ _ tabOk
    · rw [app] at hcv
      rcases LamX.among_app _ tabOk hcv with z | z
      · obtain ⟨c0, e1, e2⟩ := known p' cv z
        exact ⟨c0, e1, keep _ _ (fun z => by
          rw [z, tabAt] at e2
          exact LamX.codeO_ne _ (Option.some.inj e2).symm) e2⟩
      · exact ⟨c', z, upd_same⟩
    · rw [upd_ne (Nat.ne_of_gt lt), upd_ne (Nat.ne_of_gt PltH)]
      exact I.hok.fresh sz
end
/-- what the lambda's exception meets: the trial ends, then Eo -/
def eTrial (K : PySem.W.Frag) (x : Addr) (Eo : XK) : XK := fun cls d H => (∃ cv, RelV cv cls) ∧ ∀ kv ev tv, spExit K [.ref x, kv, ev, tv] H (fun r H' => r = .non ∧ Eo cls d H') E0
def tTried (K : PySem.W.Frag) (P : Addr) (q : Str) (to : TE) (t : XK → TE) (Eo : XK) : TE := fun σ H Q => to σ H fun y H1 => ∃ (b db : Addr) (n : Int) (th pa : Addr), y = .ref b ∧ H1 b = some (.ins (ga K "Bench") db (bFs n th pa)) ∧ LamX.TabS H1 P q ∧
  ∀ H2, ExtB P H1 H2 → LamX.TabS H2 P q → ∀ H3 x dx, Same H2 H3 → H2 x = none → H3 x = some (.ins (ga K "Trial") dx (tFs b th pa)) →
    t (eTrial K x Eo) (σ ++ [some (.ref b)]) H3 (fun v H4 => spExit K [.ref x, .non, .non, .non] H4 (fun _ H5 => Q v H5) E0)
section
variable {X : Cx} {K : PySem.W.Frag} {E : L2.St → XK} {o : Expr} {to : TE} {t : XK → TE} {params : Arguments} {lbody : Expr} {scope : Scope} {pr : Str} {c PT : Addr} {k : Nat} {lpos apos pos : Pos}
theorem pe_tried {pl : Sem Bool} (T : Txt X.K X.mg) (ho : PE X o to) (hr : Room (k + 2) X.A) (hk : 3 ≤ k) (hx : ∀ σ, PassesAt (L2.CX X.prog X.w) X σ (E σ)) (TB : LamX.TabB X.base X.mg c PT) (hcode : X.env.code = .ref c) (L : WX.Lam1 X.env.scope scope pr) (hpr : pr ∉ X.N)
    (hdef : defaultsOf params X.env = ([], [])) (hbind : ∀ (q : Str) (cl : List (Str × Addr)) (pm cv ctv u : Value), bindArgs (PySem.W.kla_fn "<lambda>" q params lbody scope cl pm cv ctv) ⟨[u], []⟩ = pure [(pr, u)])
    (hbody : ∀ (A : Around) (outer : List Env) (s : Shared) (H : Hp) (E : XK) (f c' : Addr), A.guards = X.A.guards → Room k (A.deeper (LamX.lamEnv X scope s.heap.objs.size f c')) → PE (WX.lam1Cx X A outer s H E scope f c' pr) lbody (t E))
    (ht : eval (.Call (.Attribute o "tried" apos) [.Lambda params lbody scope lpos] [] pos) X.env = (do
      let ov ← eval o X.env
      standAt apos.atName
      let (f, first) ← holding [ov] (getMethod ov "tried" pl)
      callWith pos f first (backTo pos (starEach [.Lambda params lbody scope lpos] X.env)) (backToKw pos (keywordEach [] X.env))) := by rfl) (hK : X.K = K := by rfl) :
    PE X (.Call (.Attribute o "tried" apos) [.Lambda params lbody scope lpos] [] pos) (fun σ H Q => tTried K PT (X.env.qual ++ "<lambda>") to t (E σ) σ H Q) := by
  subst hK
  refine ⟨fun pins s σ H Q I h => ?_⟩
  refine PySem.W.methodCall_KW (pl := pl) (thn (ho.run pins s σ H _ I h) fun u s1 ⟨y, H1, I1, rx, b, db, n, th, pa, ey, hb, hT, q⟩ => ?_) ht
  subst ey
  obtain rfl : u = Value.ref b := rx
  refine getmeth_ok I1 hb T.ins_Bench.cl T.m_Bench_tried (bm_none (by decide +kernel) (by decide +kernel) (by decide +kernel)) ?_
  refine PySem.W.callWith_K (first := [.ref b]) (h₀ := X.base) I.ok.mod.kin T.m_Bench_tried.kp ?_ (by rfl) (by rfl)
  show wpAny _ _ (spliced ((false, eval (.Lambda params lbody scope lpos) X.env) :: backTo pos (starEach [] X.env))) _ _ s1
  refine Calls.spliced_cons (lam_makeX I1 TB hcode hT (hdef) (L.has I1.ok) fun f c' pm' ctv H2 s' I2 ⟨eN, hT2⟩ hf ⟨hfn, hfr, hco⟩ => ?_)
  refine Calls.spliced_nil ⟨I2.kIn, ?_⟩
  have hb2 : H2 b = some (.ins (ga X.K "Bench") db (bFs n th pa)) := eN _ _ (fun z => by
    obtain ⟨ps, e, _⟩ := hT
    rw [z, e] at hb
    cases hb) hb
  have hq := q H2 eN hT2
  obtain ⟨oc, od, dV, kV, doc, pm, an, cdv, ct, osl, efd, lk, hcd, _, _⟩ := T.f_Bench_tried.ex
  have bd : Binds X.K (fdAt X.K (ma X.K (ga X.K "Bench") "tried")) ["self", "act"] [] := T.f_Bench_tried.bindsN fun _ _ _ _ _ _ us hl => match us, hl with | [_, _], _ => rfl
  have rc : codeAny (model X.prog X.w) X.A (.call (.ref (ma X.K (ga X.K "Bench") "tried")) ⟨[.ref b, .ref f], []⟩) (CR (L2.CX X.prog X.w) X.stack X.prog X.w H2 s' Q (E σ)) s' := by
    have hbt : BindsTo s' (fdAt X.K (d_Bench_tried.at_ X.K)) ⟨[.ref b, .ref f], []⟩ (((["self", "act"] : List Str)).zip [Value.ref b, Value.ref f]) := bd s' [.ref b, .ref f] I2.kIn rfl
    rw [efd] at lk hbt
    refine LamX.run_ofS (N := ["self", "act"]) (ps := ["self", "act"]) (us := [.ref b, .ref f]) (vs := [.ref b, .ref f]) (k := k + 1) lk hcd sc_Bench_tried hr I2.env0 hbt (.cons rfl (.cons rfl .nil)) rfl fun hr' => ?_
    refine ⟨_, pss_one (WX.ps_withRet (Wout := fun cls d _ H => E σ cls d H) (te := fun W σZ HZ Q => ∃ Ech : XK, (∀ cls d σ' H', Ech cls d H' → W cls d σ' H') ∧ σZ[1]? = some (some (.ref f)) ∧ tCons (tVar 0) tNil σZ HZ fun vs H1 => ∃ v, vs = [v] ∧ H1 c' = some (LamX.CodeO c' (X.env.qual ++ "<lambda>")) ∧ t Ech (σ ++ [some v]) H1 Q) rfl rfl rfl (takes_of rfl rfl rfl rfl) (m_trial T (hr'.mono (by omega)) (pv 0)) T.m_Trial___enter__ T.m_Trial___exit__ ((ok_Trial_enter T)) (bd_enter T) (ok_Trial_exit T) (okP_Trial_exit T) (bd_exit T) (hr'.mono (by omega)) (fun W pn xe tk _ => ⟨fun pins' s3 σ3 H3 Q3 I3 h3 => ?_⟩)), ?_⟩
    · obtain ⟨Ech, hW, h1, h2⟩ := h3
      exact (WX.pe_act1 (i := 1) I2 L hpr hf hfn hfr (fun u => hbind _ _ _ _ _ u) tk hW hr' (fun A outer s H hA hr2 => hbody A outer s H Ech f c' hA hr2) rfl (.inl rfl) (pa_cons (pv 0) pa_nil)).run pins' s3 σ3 H3 Q3 I3 ⟨h1, h2⟩
    · refine ⟨_, rfl, b, db, _, rfl, hb2, bm_none (by decide +kernel) (by decide +kernel) (by decide +kernel), b, n, th, pa, rfl, ⟨db, hb2⟩, fun H3 x dx sm nx hx3 => ?_⟩
      have ne : x ≠ b := Ne.symm (ne_of_none hb2 nx)
      refine ⟨x, dx, _, rfl, hx3, x, dx, b, n, th, pa, rfl, hx3, ⟨db, sm _ _ hb2⟩, ne, ?_⟩
      exact ⟨eTrial X.K x (E σ), fun cls d σ' H' z => z, rfl, _, rfl, _, rfl, sm _ _ hco, hq H3 x dx sm nx hx3⟩
  refine wpAny_call (codeAny_mono rc fun r s2 hq => ?_)
  cases r with
  | error e => exact hx σ pins _ _ e s2 I2 hq
  | ok fl =>
    cases fl with
    | ret u => exact I2.after hq
    | next => exact False.elim hq
    | brk => exact False.elim hq
    | cont => exact False.elim hq
end
end K57
/-! R7 -/
/-! several except clauses, some of which bind a name -/
namespace TryX
open PySem PySem.Spec PyProof.Rows L2
abbrev Cl := Value × Option Nat × (Addr → Value → Option Addr → TS)
def endsAs (i : Nat) (D : Ends) : Ends := { nx := fun σ' H' => D.nx (σ'.set i none) H', rt := D.rt, bk := fun σ' H' => D.bk (σ'.set i none) H', ct := fun σ' H' => D.ct (σ'.set i none) H' }
def runCl (D : Ends) (q : Cl) (a : Addr) (cls : Value) (d : Option Addr) (σ : L2.St) (H : Hp) : Prop := match q.2.1 with
  | none => q.2.2 a cls d D σ H
  | some i => q.2.2 a cls d (endsAs i D) (σ.set i (some (.ref a))) H
/-- what the clauses wish of an exception of the body -/
def wMix (K : PySem.W.Frag) (Wout : WX) (D : Ends) : List Cl → WX
  | [] => Wout
  | q :: r => fun cls d σ H => ∃ b, PySem.W.exmOne K cls q.1 = some b ∧ (b = true → ∀ a, H a = none → runCl D q a cls d σ H) ∧ (b = false → wMix K Wout D r cls d σ H)
inductive HdsX (X : Cx) : List ExceptHandler → List Cl → Prop
  | nil : HdsX X [] []
  | one {x : Str} {c : Value} {ts : Addr → Value → Option Addr → TS} {b₀ : Stmt} {suite : List Stmt} {np pos' : Pos} {hds : List ExceptHandler} {l : List Cl} (hc : Names X x c)
      (hsu : ∀ (a : Addr) (oe : Obj) (cls : Value) (d : Option Addr) (pn : List (Addr × Obj)), Zc cls d oe → (∃ vs, oe.data = .fields vs) → PSs (X.suite a ((a, oe) :: pn)) (b₀ :: suite) (ts a cls d)) (r : HdsX X hds l) :
      HdsX X (.ExceptHandler (some (.Name x np)) none (b₀ :: suite) pos' :: hds) ((c, none, ts) :: l)
  | as_ {x n : Str} {c : Value} {i : Nat} {ts : Addr → Value → Option Addr → TS} {b₀ : Stmt} {suite : List Stmt} {np pos' : Pos} {hds : List ExceptHandler} {l : List Cl} (hi : X.N[i]? = some n) (hln : X.env.kindOf n = some .local) (hc : Names X x c)
      (hsu : ∀ (a : Addr) (oe : Obj) (cls : Value) (d : Option Addr) (pn : List (Addr × Obj)), Zc cls d oe → (∃ vs, oe.data = .fields vs) → PSs (X.suite a ((a, oe) :: pn)) (b₀ :: suite) (ts a cls d)) (r : HdsX X hds l) :
      HdsX X (.ExceptHandler (some (.Name x np)) (some n) (b₀ :: suite) pos' :: hds) ((c, some i, ts) :: l)
section
variable {X : Cx} {body : List Stmt} {h₀ : ExceptHandler} {hds : List ExceptHandler} {l : List Cl} {pos : Pos} {tb : WX → TS} {Wout : WX}
theorem ps_try_mix (hs : X.stack = X.env :: X.outer) (hf : X.env.frame = some X.env.locals) (hN : X.N.Nodup) (tk : Takes X Wout)
    (hb : ∀ (W : WX) (pn : List (Addr × Obj)) (xe : Value → Shared → Prop), Takes (X.tr pn xe) W → PassesOwn (model X.prog X.w) X.A X.env xe → PSs (X.tr pn xe) body (tb W))
    (hh : HdsX X (h₀ :: hds) l) : PS X (.Try body (h₀ :: hds) [] [] pos) (fun D σ H => tb (wMix X.K Wout D l) D σ H) := by
  refine ⟨fun pins s σ H D I h => ?_⟩
  have ok := I.ok
  have hfr : X.A.frames = some (X.env :: X.outer) := by rw [ok.frames, hs]
  refine wpAny_Try_except ?_
  refine wpAny_mono ((hb (wMix X.K Wout D l) (X.pn ++ pins) (fun e s₁ => wpAny (model X.prog X.w) X.A (noteFrame e X.env) (fun _ s₂ => wpAny (model X.prog X.w) X.A (setFlight e none) (fun _ s₃ =>
    wpAny (model X.prog X.w) X.A (handleBy e X.env (h₀ :: hds)) (SP X pins D) X.xe s₃) X.xe s₂) X.xe s₁) (fun u s' xx => ?_) PassesOwn.looking).run [] s σ H D (I.toTry _) h) (fun f s1 hsp => ?_) (fun e s1 he => he)
  · obtain ⟨a, B, sI, pins', σ', H', cls, d, rfl, J', nb, up, sky, na, os, ag, w⟩ := xx
    have J : Inv X pins σ' H' sI := J'.ofTry ok
    have sky' : Sky B (X.env :: X.outer) a (Zc cls d) X.env.locals s'.heap := by rw [← hs]; exact sky
    show wpAny (model X.prog X.w) X.A (noteFrame (.ref a) X.env) _ _ _
    refine Sky.land Zc.steady hfr hf sky' fun h3 fl3 up3 => ?_
    have J3 : Inv X pins σ' H' { s' with heap := h3 } := J.landed nb fl3.1 (up.trans up3) os ag
    obtain ⟨oe3, vs3, he3, hz3, hd3⟩ := fl3.there
    have notFr : ∀ {h : Heap} {o : Obj} {vs : Array Value}, h.FunFrames B (X.env :: X.outer) → h.get? a = some o → o.data = .fields vs → a ∉ frs (X.env :: X.outer) := fun {h o vs} ff e dd hm => by
      obtain ⟨_, o', e', hnf⟩ := ff.mem hm
      rw [e] at e'; cases e'
      exact hnf _ dd
    have nfr := notFr fl3.2.2.1 he3 hd3
    have nL : a ≠ X.env.locals := fun z => nfr (List.mem_filterMap.mpr ⟨X.env, List.mem_cons_self, by rw [hf, z]⟩)
    have nF : a ∉ X.fs := fun hm => by
      obtain ⟨e, he, q⟩ := List.mem_filterMap.mp hm
      exact nfr (List.mem_filterMap.mpr ⟨e, List.mem_cons_of_mem _ he, q⟩)
    have S3 := J3.suite he3 hd3 na nL nF
    have LT : PySem.W.Looks (model X.prog X.w) h3 (typeOf (.ref a)) cls := fun A Q E s k q => wpAny_typeOf_ref (k _ _ he3) (by rw [hz3.1]; exact q)
    have test : ∀ {x : Str} {c : Value} {np : Pos} {Q : Value → Shared → Prop} {E : Value → Shared → Prop}, Names X x c → Q c { s' with heap := h3 } → wpAny (model X.prog X.w) (X.A.mark (some (.ref a))) (eval (.Name x np) X.env) Q E { s' with heap := h3 } := fun {x c np Q E} hc q => by
      obtain ⟨hg, hdbg, hm | ⟨hm, hv, hnn⟩⟩ := hc
      · exact ld_glob (X := X.suite a ((a, oe3) :: (X.pn ++ pins))) S3 hg hm q hdbg
      · exact ld_blt (X := X.suite a ((a, oe3) :: (X.pn ++ pins))) S3 hg hm hv q hnn hdbg
    have go : ∀ {hds' : List ExceptHandler} {l' : List Cl}, HdsX X hds' l' → wMix X.K Wout D l' cls d σ' H' →
        wpAny (model X.prog X.w) X.A (handleBy (.ref a) X.env hds') (SP X pins D) X.xe { s' with heap := h3 } := by
      intro hds' l' hk
      induction hk with
      | nil =>
        intro w
        refine wpAny_handleBy_nil ?_
        obtain ⟨k1, k2, k3, oe, vs, T, oT, ts', he, hz, hd, h1, hr⟩ := id fl3
        unfold PySem.passOn
        refine wpAny_bind (wpAny_field he hd h1 ?_)
        rw [if_neg (show ¬ ((Value.ref T == Value.none) = true) from by simp)]
        have fin : wpAny (model X.prog X.w) X.A (setFlight (.ref a) X.env.frame) (fun _ s4 => wpAny (model X.prog X.w) X.A (throw (.ref a) : Sem Flow) (SP X pins D) X.xe s4) X.xe { s' with heap := h3 } := by
          rw [hf]
          refine HandSPX.setFlight_upZ fl3 fun h4 hh4 up4 => wpAny_throw (tk _ _ ?_)
          exact ⟨a, B, sI, pins, σ', H', cls, d, rfl, J, nb, (up.trans up3).trans up4, .inr (.inr (by rw [hs]; exact hh4)), na, os, ag, w⟩
        first
          | exact wpAny_bind (wpAny_pure (wpAny_bind fin))
          | exact wpAny_bind fin
      | @one x c ts b₀ suite np pos' hds2 l2 hc hsu r ih =>
        intro w
        obtain ⟨b, hb1, hyes, hno⟩ := w
        refine wpAny_handleBy_cons (codeAny_handlers_test ?_) (by intro q; cases q)
        have LM := PySem.W.exm_one (M := model X.prog X.w) (J3.kIn) LT hb1
        refine test hc (LM.here ?_)
        cases b with
        | true =>
          refine codeAny_handlers_suite ?_
          refine HandSPX.lands_againZ fl3 fun h4 fl4 up4 => ?_
          have J4 : Inv X pins σ' H' { s' with heap := h4 } := J.landed nb fl4.1 ((up.trans up3).trans up4) os ag
          obtain ⟨oe4, vs4, he4, hz4, hd4⟩ := fl4.there
          have S4 := J4.suite he4 hd4 na nL nF
          refine wpAny_mono ((hsu a oe4 cls d (X.pn ++ pins) hz4 ⟨_, hd4⟩).run [] _ _ H' _ S4 (hyes rfl a na)) (fun f s6 hsp => ?_) (fun _ _ z => False.elim z)
          cases f with
          | next =>
            obtain ⟨σ6, H6, S6, q6⟩ := hsp
            exact ⟨_, _, S6.unsuite ok, q6⟩
          | brk =>
            obtain ⟨σ6, H6, S6, q6⟩ := hsp
            exact ⟨_, _, S6.unsuite ok, q6⟩
          | cont =>
            obtain ⟨σ6, H6, S6, q6⟩ := hsp
            exact ⟨_, _, S6.unsuite ok, q6⟩
          | ret u =>
            obtain ⟨v6, σ6, H6, S6, r6, q6⟩ := hsp
            exact ⟨_, _, _, S6.unsuite ok, r6, q6⟩
        | false =>
          show wpAny _ X.A (handleBy (.ref a) X.env hds2) _ _ _
          exact ih (hno rfl)
      | @as_ x n c i ts b₀ suite np pos' hds2 l2 hi hln hc hsu r ih =>
        intro w
        obtain ⟨b, hb1, hyes, hno⟩ := w
        have hloc : Loc X.env.scope n := .inl hln
        refine wpAny_handleBy_cons (codeAny_handlers_test ?_) (by intro q; cases q)
        have LM := PySem.W.exm_one (M := model X.prog X.w) (J3.kIn) LT hb1
        refine test hc (LM.here ?_)
        cases b with
        | true =>
          refine codeAny_handlers_suite_as ?_
          refine HandSPX.lands_againZ fl3 fun h4 fl4 up4 => ?_
          have J4 : Inv X pins σ' H' { s' with heap := h4 } := J.landed nb fl4.1 ((up.trans up3).trans up4) os ag
          obtain ⟨oe4, vs4, he4, hz4, hd4⟩ := fl4.there
          have S4 := J4.suite he4 hd4 na nL nF
          refine store_ok (X := X.suite a ((a, oe4) :: (X.pn ++ pins))) (v := .ref a) S4 hN hi hloc rfl (fun s5 S5 => ?_) (.inr hln)
          refine wpAny_mono ((hsu a oe4 cls d (X.pn ++ pins) hz4 ⟨_, hd4⟩).run [] s5 _ H' _ S5 (hyes rfl a na)) (fun f s6 hsp => ?_) (fun _ _ z => False.elim z)
          have end_ : ∀ {σ6 : L2.St} {H6 : Hp} {Q : Shared → Prop}, Inv (X.suite a ((a, oe4) :: (X.pn ++ pins))) [] σ6 H6 s6 → (∀ s7, Inv X pins (σ6.set i none) H6 s7 → Q s7) →
              wpAny (model X.prog X.w) X.A (do bindName X.env n .none; unbindBehindTheSuite X.env n pos') (fun _ s7 => Q s7) X.xe s6 := fun {σ6 H6 Q} S6 hq => gone_ok (S6.unsuite ok) hN hi hln hq
          cases f with
          | next =>
            obtain ⟨σ6, H6, S6, q6⟩ := hsp
            exact end_ S6 fun s7 J7 => ⟨_, _, J7, q6⟩
          | brk =>
            obtain ⟨σ6, H6, S6, q6⟩ := hsp
            exact end_ S6 fun s7 J7 => ⟨_, _, J7, q6⟩
          | cont =>
            obtain ⟨σ6, H6, S6, q6⟩ := hsp
            exact end_ S6 fun s7 J7 => ⟨_, _, J7, q6⟩
          | ret u =>
            obtain ⟨v6, σ6, H6, S6, r6, q6⟩ := hsp
            exact end_ S6 fun s7 J7 => ⟨_, _, _, J7, r6, q6⟩
        | false =>
          show wpAny _ X.A (handleBy (.ref a) X.env hds2) _ _ _
          exact ih (hno rfl)
    exact go hh w
  · cases f with
    | next =>
      obtain ⟨σ', H', J', q⟩ := hsp
      exact wpAny_execs_nil ⟨σ', H', J'.ofTry ok, q⟩
    | brk =>
      obtain ⟨σ', H', J', q⟩ := hsp
      exact ⟨σ', H', J'.ofTry ok, q⟩
    | cont =>
      obtain ⟨σ', H', J', q⟩ := hsp
      exact ⟨σ', H', J'.ofTry ok, q⟩
    | ret u =>
      obtain ⟨v, σ', H', J', r, q⟩ := hsp
      exact ⟨v, σ', H', J'.ofTry ok, r, q⟩
end
end TryX
/-! R6 -/
/-! sorted of a tuple of ints, and of (True, 1) -/
namespace SrtT
open PySem PySem.Spec PyProof.Rows L2 Srt PySem.SeqAt
theorem lt_bi (a : Bool) (b : Int) (u : Tok) : Gives (Builtin.«int.__lt__» ⟨[.bool a, .int b u], []⟩) (.val (Value.bool ((fun x1 x2 => decide (x1 < x2)) (if a = true then (1 : Int) else 0) b))) :=
  .of_wp fun M A E s Q h => by obtain ⟨hp, g, d, tk, os⟩ := s; wp_walk; exact ⟨_, rfl, h⟩
theorem gt_bi (a : Bool) (b : Int) (u : Tok) : Gives (Builtin.«int.__gt__» ⟨[.bool a, .int b u], []⟩) (.val (Value.bool ((fun x1 x2 => decide (x1 > x2)) (if a = true then (1 : Int) else 0) b))) :=
  .of_wp fun M A E s Q h => by obtain ⟨hp, g, d, tk, os⟩ := s; wp_walk; exact ⟨_, rfl, h⟩
section
variable {prog : Program} {w : World} {A : Around} {E : Value → Shared → Prop} {s : Shared}
/-- an int or a bool -/
def IB (v : Value) : Prop := (∃ i t, v = .int i t) ∨ ∃ b, v = .bool b
theorem rc_lt {x y : Value} (hx : IB x) (hy : IB y) : ∃ k : Bool, ∀ Q : Value → Shared → Prop, Q (.bool k) s → wpAny (model prog w) A (richCompare .Lt x y) Q E s := by
  rcases hx with ⟨i, t, rfl⟩ | ⟨b, rfl⟩ <;> rcases hy with ⟨j, u, rfl⟩ | ⟨c, rfl⟩
  · exact ⟨decide (i < j), fun Q h => by
      have := lt_int (prog := prog) (w := w) (A := A) (E := E) (a := i) (b := j) (t := t) (u := u) (s := s) (Q := Q) h
      exact this⟩
  · exact ⟨_, fun Q h => rc_sub_first_or (typeIs_int s i t) rfl (by decide) F.sub_bool_int F.slot_bool_gt_refl (call_gives F.slot_bool_gt_refl rfl F.entry_int_gt (F.args_int_gt_2 _ _) (gt_bi c i t) ⟨nofun, h⟩) (.inl rfl)⟩
  · exact ⟨_, fun Q h => rc_left_or rfl (typeIs_int s j u) (by decide) F.sub_int_bool F.slot_bool_lt (call_gives F.slot_bool_lt rfl F.entry_int_lt (F.args_int_lt_2 _ _) (lt_bi b j u) ⟨nofun, h⟩) (.inl rfl)⟩
  · exact ⟨_, fun Q h => by
      have := lt_bool (prog := prog) (w := w) (A := A) (E := E) (p := b) (q := c) (s := s) (Q := Q) h
      exact this⟩
theorem tot_ib {vs : List Value} (h : ∀ v ∈ vs, IB v) : Tot prog w A s general' (fun p => p.1 ∈ vs) := by
  intro p q hp hq
  obtain ⟨k, hk⟩ := rc_lt (prog := prog) (w := w) (A := A) (E := fun _ _ => False) (s := s) (h _ hp) (h _ hq)
  refine ⟨k, ?_⟩
  show wpAny _ _ (oneLt' false p.1 q.1) _ _ _
  rw [oneLt'_eq]
  simp only [Bool.false_eq_true, if_false]
  exact wpAny_bind (hk _ (wpAny_truthy_bool ⟨rfl, rfl⟩))
theorem kind_ib {v u : Value} {t : Tok} {b : Bool} {i : Int} : keyKind' #[.bool b, .int i t] = pure general' := by
  have h1 : (#[Value.bool b, Value.int i t] : Array Value).mapM firstOfTuple' = pure #[none, none] := by
    rw [Array.mapM_eq_mapM_toList]
    show Functor.map List.toArray ([Value.bool b, Value.int i t].mapM firstOfTuple') = _
    rw [List.mapM_cons, List.mapM_cons, List.mapM_nil]
    rfl
  have h2 : (#[Value.bool b, Value.int i t] : Array Value).mapM typeOf = pure #[Value.type "bool", Value.type "int"] := by
    rw [Array.mapM_eq_mapM_toList]
    show Functor.map List.toArray ([Value.bool b, Value.int i t].mapM typeOf) = _
    rw [List.mapM_cons, List.mapM_cons, List.mapM_nil]
    rfl
  rw [keyKind'_eq, h1]
  simp only [pure_bind]
  rw [if_neg (by simp), if_neg (by simp), oneTypeOnly'_eq, h2]
  have h3 : (#[Value.type "bool", Value.type "int"] : Array Value).all (fun x => x == Value.type "bool") = false := by
    have e : (Value.type "int" == Value.type "bool") = false := by rfl
    simp [e]
  have h0 : (#[Value.type "bool", Value.type "int"] : Array Value)[0]? = some (Value.type "bool") := by simp
  simp only [pure_bind, h0, h3, Bool.false_eq_true, if_false, Option.isSome_none]
theorem collect_tuple {l : Addr} {vs : List Value} {Q : List Value → Shared → Prop} (hl : s.heap.IsTuple l vs.toArray)
    (h : Q vs { s with heap := (s.heap.push (seqObj "list" #[] 0)).update s.heap.objs.size (Obj.mapSeq (· ++ vs.toArray)) }) (hsz : vs.length ≤ sizeLine := by size_fits) :
    wpAny (model prog w) A (collect (.ref l)) Q E s := by
  obtain ⟨o, ho, hc, n, hd⟩ := id hl
  unfold collect
  refine wpAny_bind (wpAny_runValue (codeAny_builtin entry_proto_collect' ?_))
  show wpAny _ _ (do again (.builtin "list.__iadd__" ⟨[← newList [], .ref l], []⟩)) _ _ s
  refine wpAny_bind (wpAny_newList (wpAny_pure ⟨Code.quiet_builtin _ (by decide +kernel), codeAny_builtin entry_list_iadd' ?_⟩))
  show wpAny _ _ (Builtin.List.listExtendWith (.ref s.heap.objs.size) (.ref l) (.ref s.heap.objs.size)) _ _ { s with heap := s.heap.push (seqObj "list" #[] 0) }
  unfold Builtin.List.listExtendWith
  have ho' : (s.heap.push (seqObj "list" #[] 0)).get? l = some o := Heap.get?_push_of_some _ ho
  refine wpAny_bind (wpAny_typeOf (T := "tuple") ⟨o, ho', hc⟩ ?_)
  have ht : (Value.type "tuple" == Value.type "tuple") = true := by rfl
  rw [if_pos (by rw [ht]; simp)]
  refine wpAny_bind (listItems_at ho' hd ?_)
  refine wpAny_bind (listItems_at (xs := #[]) (n := 0) (Heap.get?_push_size _ rfl) rfl ?_)
  rw [if_neg (by simp)]
  refine wpAny_bind (listUpdate_at (xs := #[]) (n := 0) (Heap.get?_push_size _ rfl) rfl ?_ (Nat.zero_le _) (by show (#[] ++ vs.toArray).size ≤ sizeLine + 1; simp only [Array.size_append, List.size_toArray, List.length_nil]; omega))
  refine wpAny_pure ?_
  show wpAny (model prog w) A (do
      let o ← load s.heap.objs.size
      match o.data with
      | .seq xs _ => pure xs.toList
      | _ => unsupported "internal:collect") Q E { s with heap := (s.heap.push (seqObj "list" #[] 0)).update s.heap.objs.size (Obj.mapSeq (· ++ vs.toArray)) }
  refine wpAny_bind (wpAny_load (get?_update_seq (Heap.get?_push_size _ rfl) _) ?_)
  show wpAny _ _ (pure ((#[] : Array Value) ++ vs.toArray).toList) Q E _
  rw [show ((#[] : Array Value) ++ vs.toArray).toList = vs by simp]
  exact wpAny_pure h
theorem sortedT_any {l : Addr} {vs : List Value} {Q : Value → Shared → Prop} (hl : s.heap.IsTuple l vs.toArray) (hz : vs.length ≤ sizeLine)
    (hS : 2 ≤ vs.length → ∀ (h₁ : Heap) (a : Addr), h₁.get? a = some (seqObj "list" vs.toArray 0) → (∀ b o, s.heap.get? b = some o → b ≠ a ∧ h₁.get? b = some o) → Sortable prog w A.in1.in1 { s with heap := h₁ } a vs)
    (h : ∀ out : List Value, out.Perm vs → Q (.ref (s.heap.objs.size + 1)) { s with heap := sortedAll s.heap vs out.toArray }) :
    wpAny (model prog w) A (call (.builtin "sorted") [.ref l]) Q E s := by
  refine Calls.call_function_entry kind_sorted plain_sorted entry_sorted (args_sorted1 _) ?_
  unfold Builtin.«sorted»
  refine wpAny_bind (m := checkCount "sorted" 1 1 _) (wpAny_pure ?_)
  refine wpAny_bind (collect_tuple hl ?_ hz)
  refine wpAny_bind (wpAny_newList ?_ hz)
  have hsz : ((s.heap.push (seqObj "list" #[] 0)).update s.heap.objs.size (Obj.mapSeq (· ++ vs.toArray))).objs.size = s.heap.objs.size + 1 := by
    rw [Heap.size_update, size_push']
  have hoL : (((s.heap.push (seqObj "list" #[] 0)).update s.heap.objs.size (Obj.mapSeq (· ++ vs.toArray))).push (seqObj "list" vs.toArray 0)).get? (s.heap.objs.size + 1) = some (seqObj "list" vs.toArray 0) := by
    rw [← hsz]; exact Heap.get?_push_size _ rfl
  have keep : ∀ b o, s.heap.get? b = some o → b ≠ s.heap.objs.size + 1 ∧ (((s.heap.push (seqObj "list" #[] 0)).update s.heap.objs.size (Obj.mapSeq (· ++ vs.toArray))).push (seqObj "list" vs.toArray 0)).get? b = some o := fun b o q => by
    have hlt : b < s.heap.objs.size := Heap.lt_size q
    refine ⟨Nat.ne_of_lt (Nat.lt_succ_of_lt hlt), Heap.get?_push_of_some _ ?_⟩
    rw [Heap.get?_update_ne _ _ _ _ (Nat.ne_of_lt hlt)]
    exact Heap.get?_push_of_some _ q
  show wpAny _ _ _ _ _ { s with heap := ((s.heap.push (seqObj "list" #[] 0)).update s.heap.objs.size (Obj.mapSeq (· ++ vs.toArray))).push (seqObj "list" vs.toArray 0) }
  rw [hsz]
  refine wpAny_bind (wpAny_holding (wpAny_call_entry slot_list_sort ⟨_, hoL, rfl⟩ entry_list_sort (list_sort_any hoL hz (fun h2 => hS h2 _ _ hoL keep) fun out hp => ⟨_, rfl, ?_⟩) (args_list_sort _)))
  exact wpAny_pure ⟨_, rfl, h out hp⟩
theorem sortable_ints {a : Addr} {vs : List Value} {ns : List Int} (hI : IntsAre vs ns) (h2 : 2 ≤ vs.length) : Sortable prog w A s a vs := by
  intro h' _
  refine ⟨oneType', fun Q E hq => ?_, fun p q hm hm' => ?_⟩
  · match vs, hI, h2 with
    | v1 :: v2 :: rest, hI, _ =>
      rw [keyKind_ints hI]
      exact wpAny_pure hq
    | [], _, h => exact absurd h (by decide)
    | [v], _, h => exact absurd h (by simp)
  · have hall : ∀ {vs : List Value} {ns : List Int}, IntsAre vs ns → ∀ v ∈ vs, ∃ i t, v = Value.int i t := by
      intro vs ns hI
      induction hI with
      | nil => intro v hv; cases hv
      | cons n t r ih =>
        intro v hv
        rcases List.mem_cons.mp hv with e | hv
        · exact ⟨n, t, e⟩
        · exact ih v hv
    obtain ⟨x, t, e⟩ := hall hI _ hm
    obtain ⟨y, u, e'⟩ := hall hI _ hm'
    refine ⟨decide (x < y), ?_⟩
    rw [e, e', keyLt'_oneType]
    exact oneLt_int ⟨rfl, rfl⟩
theorem sortable_ib {a : Addr} {b : Bool} {i : Int} {t : Tok} : Sortable prog w A s a [.bool b, .int i t] := by
  intro h' _
  refine ⟨general', fun Q E hq => ?_, tot_ib fun v hv => ?_⟩
  · show wpAny _ _ (keyKind' #[.bool b, .int i t]) _ _ _
    rw [kind_ib (v := .none) (u := .none)]
    exact wpAny_pure hq
  · have : v = .bool b ∨ v = .int i t := by simpa using hv
    rcases this with e | e
    · exact .inr ⟨b, e⟩
    · exact .inl ⟨i, t, e⟩
end
def back : Value → V
  | .int i _ => .int i
  | .bool b => .bl b
  | _ => .non
theorem back_vals : ∀ {xs : List V} {us : List Value}, Vals xs us → (∀ x ∈ xs, (∃ i, x = V.int i) ∨ ∃ b, x = V.bl b) → xs = us.map back ∧ ∀ u ∈ us, IB u
  | _, _, .nil, _ => ⟨rfl, fun u hu => absurd hu (by simp)⟩
  | x :: xs, u :: us, .cons r t, h => by
    obtain ⟨h1, h2⟩ := back_vals t fun y hy => h y (List.mem_cons_of_mem _ hy)
    rcases h x List.mem_cons_self with ⟨i, e⟩ | ⟨b, e⟩
    · subst e
      obtain ⟨tk, e2⟩ := r
      subst e2
      refine ⟨by rw [List.map_cons, ← h1]; rfl, fun u hu => ?_⟩
      rcases List.mem_cons.mp hu with e | hu
      · exact .inl ⟨i, tk, e⟩
      · exact h2 u hu
    · subst e
      obtain rfl : u = Value.bool b := r
      refine ⟨by rw [List.map_cons, ← h1]; rfl, fun u hu => ?_⟩
      rcases List.mem_cons.mp hu with e | hu
      · exact .inr ⟨b, e⟩
      · exact h2 u hu
theorem vals_ib : ∀ {us : List Value}, (∀ u ∈ us, IB u) → Vals (us.map back) us
  | [], _ => .nil
  | u :: us, h => by
    refine .cons ?_ (vals_ib fun y hy => h y (List.mem_cons_of_mem _ hy))
    rcases h u List.mem_cons_self with ⟨i, t, e⟩ | ⟨b, e⟩
    · subst e
      exact ⟨t, rfl⟩
    · subst e
      rfl
section
variable {X : Cx}
def rSortedTp (K : PySem.W.Frag) : List V → Hp → VK → Prop := fun vs H Q => ∃ a xs, vs = [V.ref a] ∧ SqT K H a xs ∧ ((∃ ns : List Int, xs = ns.map V.int ∧ ns.length < 64) ∨ ∃ b i, xs = [V.bl b, V.int i]) ∧
  ∀ ys p, ys.Perm xs → H p = none → Q (.ref p) (upd H p (.lst ys))
theorem cr_sortedTp : CallR X (.builtin "sorted") (rSortedTp X.K) := by
  intro pins s σ H vs us Q I r h
  obtain ⟨a, xs, rfl, hs, hx, q⟩ := h
  obtain ⟨its, rv, hl, hz⟩ := I.tuple hs
  obtain ⟨u, rfl, ru⟩ := vals1 r
  obtain rfl : u = Value.ref a := ru
  have hib : ∀ x ∈ xs, (∃ i, x = V.int i) ∨ ∃ b, x = V.bl b := fun x hm => by
    rcases hx with ⟨ns, e, _⟩ | ⟨b, i, e⟩
    · rw [e] at hm
      obtain ⟨i, _, e2⟩ := List.mem_map.mp hm
      exact .inl ⟨i, e2.symm⟩
    · rw [e] at hm
      have : x = V.bl b ∨ x = V.int i := by simpa using hm
      rcases this with e | e
      · exact .inr ⟨b, e⟩
      · exact .inl ⟨i, e⟩
  obtain ⟨e1, e2⟩ := back_vals rv hib
  have hlen := rv.length
  refine sortedT_any (show s.heap.IsTuple a its.toArray from hl) (by rw [← hlen]; exact hz) (fun h2 h₁ a' _ _ => ?_) fun out hp => ?_
  · rcases hx with ⟨ns, e, _⟩ | ⟨b, i, e⟩
    · subst e
      exact sortable_ints rv.ints h2
    · subst e
      cases rv with
      | cons r1 t1 =>
        cases t1 with
        | cons r2 t2 =>
          cases t2
          cases r1
          obtain ⟨tk, rfl⟩ := r2
          exact sortable_ib
  · obtain ⟨ep, he'⟩ := PyProof.Rows.sortedAll_at s.heap its out.toArray
    have hp2 : (out.map back).Perm xs := by
      rw [e1]
      exact hp.map back
    have hall : ∀ u ∈ out, IB u := fun u hu => e2 u (hp.mem_iff.mp hu)
    have hl2 : (out.map back).length ≤ sizeLine := by rw [hp2.length_eq]; exact hz
    exact ⟨.ref _, upd H (s.heap.objs.size + 1) (.lst (out.map back)), I.laid (t' := s.toks) (fun _ _ => PyProof.Rows.sortedAll_old) (Nat.le_succ _) ⟨hl2, out, ep, vals_ib hall, by simpa using he'⟩, rfl, q _ _ hp2 (I.hok.fresh (Nat.le_succ _))⟩
end
end SrtT
/-! L1 -/
namespace K57
open PySem PySem.Spec PyProof.Rows L2 He
/-! ### cells, boxes, draws -/
def LIM : Int := 1000000000
def boxL (a b c : Int) : HO := .lst [.int a, .int b, .int c]
/-- the box stands, and bears f more draws -/
def Box (H : Hp) (bx : Addr) (f : Int) : Prop := ∃ a b c, H bx = some (boxL a b c) ∧ 0 ≤ a ∧ 0 ≤ b ∧ b < 2147483629 ∧ 0 ≤ c ∧ c + f ≤ LIM
section
variable {P : Program} {w : World} {K : PySem.W.Frag} {mg : Str → Option Value} {base : Heap}
def spCell (K : PySem.W.Frag) : Sp := fun vs H Q _ => ∃ (a : Addr) (zs : List Int) (k : Nat), vs = [.ref a, .int k] ∧ SqL K H a (zs.map V.int) ∧ k < 1000 ∧ ∀ m, Q (.int m) H
theorem sc_law_cell : FnScope ["_law_script", "_law_k"] ["_law_script", "_law_k"] (defScope sLawCell) := ⟨rfl, rfl, rfl, by decide +kernel, rfl, by decide +kernel, by decide +kernel⟩
theorem ok_law_cell (T : Txt K mg) : FnOk P w K mg base CX0 1 (ga K "_law_cell") (fdAt K (ga K "_law_cell")) ["_law_script", "_law_k"] (spCell K) := by
  refine T.f_law_cell.ok sc_law_cell (fun vs H Q E h => ?_) (fun cdv A outer s H vs Q E hr h => ?_)
  · obtain ⟨a, zs, k, rfl, _⟩ := h
    rfl
  obtain ⟨a, zs, k, rfl, ha, hk, q⟩ := h
  refine ⟨_, PSs.nox (pss_cons (ps_if (pt_cmpR op_lt (pv 1) (b_len call_len_seq T (pa_cons (pv 0) pa_nil)) (nomark _)) (pss_one (ps_ret (pe_ix ix_list (pv 0) (pv 1) (fun _ _ => rfl)))) pss_nil)
    (pss_one (ps_ret (pe_op op_add (pe_op op_mul pe_int (pv 1)) pe_int)))), ?_⟩
  refine ⟨_, rfl, _, rfl, a, _, rfl, .inl ha, _, _, rfl, rfl, _, rfl, iteB (fun c => ?_) (fun _ => ?_)⟩
  · have hlt : k < zs.length := by
      have := of_decide_eq_true c
      rw [List.length_map] at this
      omega
    exact ⟨_, rfl, _, rfl, a, _, _, _, rfl, rfl, ha, atI_nat (j := k) (by rw [List.getElem?_map, List.getElem?_eq_getElem hlt]; rfl), q _⟩
  · exact ⟨_, rfl, _, _, rfl, rfl, .inl ⟨by decide, by decide⟩, _, _, rfl, rfl, q _⟩
theorem bd_law_cell {K : PySem.W.Frag} {mg : Str → Option Value} (T : Txt K mg) : Binds K (fdAt K (ga K "_law_cell")) ["_law_script", "_law_k"] [] := T.f_law_cell.bindsN fun _ _ _ _ _ _ us hl => match us, hl with | [_, _], _ => rfl
theorem c_law_cell {X : Cx} {e : Expr} {es : List Expr} {t : TA} {p pos : Pos} (T : Txt X.K X.mg) (hr : Room 1 X.A) (ha : PA X (e :: es) t) (hg : Gl X "_law_cell" := by rfl) (he : starEach (e :: es) X.env = (false, eval e X.env) :: starEach es X.env := by rfl) (hpl : (backTo pos (starEach es X.env)).any (·.1) = false := by rfl) :
    PE X (.Call (.Name "_law_cell" p) (e :: es) [] pos) (tCall ((spCell X.K)) [] E0 t) := pe_call (ok_law_cell T) hr hg T.g_law_cell T.f_law_cell.kp (bd_law_cell T) .nil pass0 ha (by decide) he hpl
def spBox : Sp := fun vs H Q _ => ∃ m, vs = [.int m] ∧ ∀ p a b, H p = none → 0 ≤ a → 0 ≤ b → b < 2147483629 → Q (.ref p) (upd H p (boxL a b 0))
theorem sc_law_box : FnScope ["_law_cell_here"] ["_law_cell_here"] (defScope sLawBox) := ⟨rfl, rfl, rfl, by decide +kernel, rfl, by decide +kernel, by decide +kernel⟩
theorem ok_law_box (T : Txt K mg) : FnOk P w K mg base CX0 1 (ga K "_law_box") (fdAt K (ga K "_law_box")) ["_law_cell_here"] spBox := by
  refine T.f_law_box.ok sc_law_box (fun vs H Q E h => ?_) (fun cdv A outer s H vs Q E hr h => ?_)
  · obtain ⟨m, rfl, _⟩ := h
    rfl
  obtain ⟨m, rfl, q⟩ := h
  refine ⟨_, PSs.nox (pss_one (ps_ret (pe_lst (pa_cons (b_max (call_max2 rfl) T (pa_cons pe_int (pa_cons (pe_op op_sub (pv 0) (pe_op op_pow pe_int pe_int)) pa_nil))) (pa_cons (pe_op op_modN (t_int call_int1 T (pa_cons (pv 0) pa_nil)) pe_int) (pa_cons pe_int pa_nil)))))), ?_⟩
  refine ⟨_, rfl, _, _, rfl, rfl, ⟨by decide, by decide, by decide⟩, _, _, rfl, rfl, _, _, rfl, _, rfl, .inl ⟨_, rfl, _, _, rfl, rfl, (show (2147483629 : Int) ≠ 0 by decide), ?_⟩⟩
  refine ⟨(show 3 ≤ sizeLine by decide), fun p np => ?_⟩
  refine q p _ _ np ?_ (Int.fmod_nonneg_of_pos _ (by decide)) (Int.fmod_lt_of_pos _ (by decide))
  split <;> omega
theorem bd_law_box {K : PySem.W.Frag} {mg : Str → Option Value} (T : Txt K mg) : Binds K (fdAt K (ga K "_law_box")) ["_law_cell_here"] [] := T.f_law_box.bindsN fun _ _ _ _ _ _ us hl => match us, hl with | [_], _ => rfl
theorem c_law_box {X : Cx} {e : Expr} {es : List Expr} {t : TA} {p pos : Pos} (T : Txt X.K X.mg) (hr : Room 1 X.A) (ha : PA X (e :: es) t) (hg : Gl X "_law_box" := by rfl) (he : starEach (e :: es) X.env = (false, eval e X.env) :: starEach es X.env := by rfl) (hpl : (backTo pos (starEach es X.env)).any (·.1) = false := by rfl) :
    PE X (.Call (.Name "_law_box" p) (e :: es) [] pos) (tCall (spBox) [] E0 t) := pe_call (ok_law_box T) hr hg T.g_law_box T.f_law_box.kp (bd_law_box T) .nil pass0 ha (by decide) he hpl
def spTake : Sp := fun vs H Q _ => ∃ (bx : Addr) (m f : Int), vs = [.ref bx, .int m] ∧ 1 ≤ m ∧ m ≤ 1000 ∧ 1 ≤ f ∧ Box H bx f ∧ ∀ d H1, 0 ≤ d → d < m → (∃ o, H1 = upd H bx o) → Box H1 bx (f - 1) → Q (.int d) H1
theorem sc_law_take : FnScope ["_law_box_here", "_law_many", "_law_digit", "_law_number"] ["_law_box_here", "_law_many"] (defScope sLawTake) := ⟨rfl, rfl, rfl, by decide +kernel, rfl, by decide +kernel, by decide +kernel⟩
theorem ok_law_take (T : Txt K mg) : FnOk P w K mg base CX0 1 (ga K "_law_take") (fdAt K (ga K "_law_take")) ["_law_box_here", "_law_many"] spTake := by
  refine T.f_law_take.ok sc_law_take (fun vs H Q E h => ?_) (fun cdv A outer s H vs Q E hr h => ?_)
  · obtain ⟨bx, m, f, rfl, _⟩ := h
    rfl
  obtain ⟨bx, m, f, rfl, h1, h2, hf, ⟨a, b, c, hb, ha, hb0, hb1, hc, hcf⟩, q⟩ := h
  refine ⟨_, PSs.nox (pss_cons (ps_if (pt_cmpR op_gt (pe_ix ix_list (pv 0) pe_int (fun _ _ => rfl)) pe_int (nomark _)) (pss_cons (ps_set (i := 2) sc_law_take.nd rfl (Or.inl rfl) (pe_op op_modN (t_int call_int1 T (pa_cons (pe_ix ix_list (pv 0) pe_int (fun _ _ => rfl)) pa_nil)) (pv 1)))
    (pss_cons (ps_asg (pe_op op_fdivN (pe_ix ix_list (pv 0) pe_int (fun _ _ => rfl)) (pv 1)) (pg_sub (pv 0) pe_int set_list))
    (pss_one (ps_ret (pv 2))))) pss_nil)
    (pss_cons (ps_asg (pe_op op_add (pe_ix ix_list (pv 0) pe_int (fun _ _ => rfl)) pe_int) (pg_sub (pv 0) pe_int set_list))
    (pss_cons (ps_set (i := 3) sc_law_take.nd rfl (Or.inl rfl) (pe_op op_modN (pe_op op_pow (t_int call_int1 T (pa_cons (pe_op op_add (pe_op op_add (pe_ix ix_list (pv 0) pe_int (fun _ _ => rfl)) (pe_op op_mul pe_int (pe_ix ix_list (pv 0) pe_int (fun _ _ => rfl)))) pe_int) pa_nil)) pe_int) pe_int))
    (pss_cons (ps_set (i := 3) sc_law_take.nd rfl (Or.inl rfl) (pe_op op_modN (pe_op op_pow (t_int call_int1 T (pa_cons (pe_op op_add (pv 3) (pe_op op_mul pe_int (pe_ix ix_list (pv 0) pe_int (fun _ _ => rfl)))) pa_nil)) pe_int) pe_int))
    (pss_one (ps_ret (pe_op op_modN (t_int call_int1 T (pa_cons (pe_op op_fdivN (pv 3) pe_int) pa_nil)) (pv 1)))))))), ?_⟩
  have at0 : ∀ x y z : Int, atI [V.int x, V.int y, V.int z] 0 = some (V.int x) := fun _ _ _ => atI_nat (j := 0) rfl
  have at1 : ∀ x y z : Int, atI [V.int x, V.int y, V.int z] 1 = some (V.int y) := fun _ _ _ => atI_nat (j := 1) rfl
  have at2 : ∀ x y z : Int, atI [V.int x, V.int y, V.int z] 2 = some (V.int z) := fun _ _ _ => atI_nat (j := 2) rfl
  unfold LIM at hcf
  refine ⟨_, rfl, bx, _, _, _, rfl, rfl, SqL.of hb, at0 _ _ _, _, _, rfl, rfl, _, rfl, iteB (fun e => ?_) (fun _ => ?_)⟩
  · refine ⟨_, rfl, bx, _, _, _, rfl, rfl, SqL.of hb, at0 _ _ _, .inl ⟨_, rfl, _, rfl, _, _, rfl, rfl, (by omega), ?_⟩⟩
    refine ⟨_, rfl, bx, _, _, _, rfl, rfl, SqL.of hb, at0 _ _ _, _, rfl, _, _, rfl, rfl, ⟨by omega, by omega⟩, _, rfl, bx, _, _, 0, rfl, rfl, hb, rfl, ?_⟩
    refine ⟨_, rfl, q _ _ (Int.fmod_nonneg_of_pos _ (by omega)) (Int.fmod_lt_of_pos _ (by omega)) ⟨_, rfl⟩ ⟨_, b, c, upd_same, Int.fdiv_nonneg ha (by omega), hb0, hb1, hc, by unfold LIM; omega⟩⟩
  · refine ⟨_, rfl, bx, _, _, _, rfl, rfl, SqL.of hb, at2 _ _ _, _, _, rfl, rfl, _, rfl, bx, _, _, 2, rfl, rfl, hb, rfl, ?_⟩
    have hb2 : (upd H bx (.lst ([V.int a, V.int b, V.int c].set 2 (V.int (c + 1))))) bx = some (.lst [.int a, .int b, .int (c + 1)]) := upd_same
    refine ⟨_, rfl, bx, _, _, _, rfl, rfl, SqL.of hb2, at1 _ _ _, _, rfl, bx, _, _, _, rfl, rfl, SqL.of hb2, at2 _ _ _, _, _, rfl, rfl, .inl ⟨by decide, by decide⟩, _, _, rfl, rfl, _, _, rfl, rfl, .inl ⟨_, rfl, _, _, rfl, rfl, ⟨by decide, by decide, ?_⟩, _, _, rfl, rfl, (show (2147483647 : Int) ≠ 0 by decide), ?_⟩⟩
    · have : (0 : Int) ≤ b + 6943 * (c + 1) + 292 := by omega
      omega
    have l1 := Int.fmod_nonneg_of_pos ((b + 6943 * (c + 1) + 292) ^ (5 : Int).toNat) (show (0 : Int) < 2147483647 by decide)
    have l2 := Int.fmod_lt_of_pos ((b + 6943 * (c + 1) + 292) ^ (5 : Int).toNat) (show (0 : Int) < 2147483647 by decide)
    refine ⟨_, rfl, _, rfl, bx, _, _, _, rfl, rfl, SqL.of hb2, at2 _ _ _, _, _, rfl, rfl, .inl ⟨by decide, by decide⟩, _, _, rfl, rfl, .inl ⟨_, rfl, _, _, rfl, rfl, ⟨by decide, by decide, ?_⟩, _, _, rfl, rfl, (show (2147483587 : Int) ≠ 0 by decide), ?_⟩⟩
    · omega
    refine ⟨_, rfl, _, _, rfl, rfl, ⟨by decide, by decide⟩, .inl ⟨_, rfl, _, rfl, _, _, rfl, rfl, (by omega), ?_⟩⟩
    exact q _ _ (Int.fmod_nonneg_of_pos _ (by omega)) (Int.fmod_lt_of_pos _ (by omega)) ⟨_, rfl⟩ ⟨a, b, c + 1, hb2, ha, hb0, hb1, by omega, by unfold LIM; omega⟩
theorem bd_law_take {K : PySem.W.Frag} {mg : Str → Option Value} (T : Txt K mg) : Binds K (fdAt K (ga K "_law_take")) ["_law_box_here", "_law_many"] [] := T.f_law_take.bindsN fun _ _ _ _ _ _ us hl => match us, hl with | [_, _], _ => rfl
theorem c_law_take {X : Cx} {e : Expr} {es : List Expr} {t : TA} {p pos : Pos} (T : Txt X.K X.mg) (hr : Room 1 X.A) (ha : PA X (e :: es) t) (hg : Gl X "_law_take" := by rfl) (he : starEach (e :: es) X.env = (false, eval e X.env) :: starEach es X.env := by rfl) (hpl : (backTo pos (starEach es X.env)).any (·.1) = false := by rfl) :
    PE X (.Call (.Name "_law_take" p) (e :: es) [] pos) (tCall (spTake) [] E0 t) := pe_call (ok_law_take T) hr hg T.g_law_take T.f_law_take.kp (bd_law_take T) .nil pass0 ha (by decide) he hpl
end
end K57
/-! L2 -/
namespace K57
open PySem PySem.Spec PyProof.Rows L2 He
/-! ### what only draws -/
/-- all but the box stands -/
def Sb (bx : Addr) (H H1 : Hp) : Prop := ∀ b o, b ≠ bx → H b = some o → H1 b = some o
theorem Sb.refl {bx : Addr} (H : Hp) : Sb bx H H := fun _ _ _ e => e
theorem Sb.trans {bx : Addr} {H H1 H2 : Hp} (a : Sb bx H H1) (b : Sb bx H1 H2) : Sb bx H H2 := fun c o n e => b c o n (a c o n e)
theorem Same.sb {bx : Addr} {H H1 : Hp} (s : Same H H1) : Sb bx H H1 := fun b o _ e => s b o e
theorem Sb.new {bx p : Addr} {H H1 : Hp} {o : HO} (s : Sb bx H H1) (np : H1 p = none) : Sb bx H (upd H1 p o) := s.trans (Same.sb (same_new np))
theorem Sb.box {bx : Addr} {H H1 : Hp} (e : ∃ o, H1 = upd H bx o) : Sb bx H H1 := fun b o n h => by
  obtain ⟨z, rfl⟩ := e
  rw [upd_ne n]
  exact h
theorem Sb.free {bx p : Addr} {H H1 : Hp} (s : Sb bx H H1) (nb : p ≠ bx) (np : H1 p = none) : H p = none := by
  cases e : H p with
  | none => rfl
  | some o =>
    rw [s p o nb e] at np
    cases np
theorem Box.new {H : Hp} {bx p : Addr} {f : Int} {o : HO} (h : Box H bx f) (np : H p = none) : Box (upd H p o) bx f := by
  obtain ⟨a, b, c, e, r⟩ := h
  exact ⟨a, b, c, by rw [upd_ne (ne_of_none e np)]; exact e, r⟩
theorem Box.put {H : Hp} {bx p : Addr} {f : Int} {o : HO} (h : Box H bx f) (np : p ≠ bx) : Box (upd H p o) bx f := by
  obtain ⟨a, b, c, e, r⟩ := h
  exact ⟨a, b, c, by rw [upd_ne (Ne.symm np)]; exact e, r⟩
theorem Box.le {H : Hp} {bx : Addr} {f g : Int} (h : Box H bx f) (l : g ≤ f) : Box H bx g := by
  obtain ⟨a, b, c, e, h1, h2, h3, h4, h5⟩ := h
  exact ⟨a, b, c, e, h1, h2, h3, h4, by omega⟩
theorem Box.ne {H : Hp} {bx p : Addr} {f : Int} (h : Box H bx f) (np : H p = none) : p ≠ bx := by
  obtain ⟨a, b, c, e, _⟩ := h
  exact Ne.symm (ne_of_none e np)
theorem pe_bmK {X : Cx} {K : PySem.W.Frag} {o e : Expr} {es : List Expr} {to : TE} {t : TA} {name : Str} {apos cpos : Pos} {T id : String} {r : V → List V → Hp → VK → Prop} (h : X.K = K) (pa : PlainAttrs T) (slot : Slot T name id) (hty : typeOf (.builtin id) = pure (.type "method_descriptor")) (hm : MtR X id r) (ho : PE X o to) (ha : PA X (e :: es) t)
    (hbase : attributeBase o name X.env (eval o X.env) = eval o X.env := by rfl)
    (hfew : ((backTo cpos (starEach (e :: es) X.env)).all (fun x => !x.1) && (backToKw cpos (keywordEach [] X.env)).all (fun x => x.1.isSome)
      && decide ((e :: es).length + ([] : List Keyword).length + (if ([] : List Keyword).isEmpty then 0 else 1) < 30)) = true := by rfl)
    (hline : (apos.endLine == cpos.line) = true := by rfl) (hs : starEach (e :: es) X.env = (false, eval e X.env) :: starEach es X.env := by rfl) (hplain : (backTo cpos (starEach es X.env)).any (·.1) = false := by rfl) :
    PE X (.Call (.Attribute o name apos) (e :: es) [] cpos) (tBM K T r to t) := by
  subst h
  exact pe_bm pa slot hty hm ho ha hbase hfew hline hs hplain
theorem perm_erase {α : Type} : ∀ (L : List α) (k : Nat) (h : k < L.length), (([L[k]] ++ L.eraseIdx k)).Perm L
  | x :: L, 0, _ => List.Perm.refl _
  | x :: L, k + 1, h => by
    have h' : k < L.length := Nat.lt_of_succ_lt_succ h
    have ih := perm_erase L k h'
    show (L[k] :: x :: L.eraseIdx k).Perm (x :: L)
    exact (List.Perm.swap x L[k] (L.eraseIdx k)).trans (List.Perm.cons x ih)
section
variable {P : Program} {w : World} {K : PySem.W.Frag} {mg : Str → Option Value} {base : Heap}
def spMixed : Sp := fun vs H Q _ => ∃ (bx l : Addr) (xs : List V) (f : Int), vs = [.ref bx, .ref l] ∧ H l = some (.lst xs) ∧ xs.length ≤ 100 ∧ bx ≠ l ∧ (xs.length : Int) ≤ f ∧ Box H bx f ∧
  ∀ p ys H1, List.Perm ys xs → Sb bx H H1 → H p = none → p ≠ bx → H1 p = some (.lst ys) → Box H1 bx (f - xs.length) → Q (.ref p) H1
theorem sc_law_mixed : FnScope ["_law_box_here", "_law_some", "_law_left", "_law_k"] ["_law_box_here", "_law_some"] (defScope sLawMixed) := ⟨rfl, rfl, rfl, by decide +kernel, rfl, by decide +kernel, by decide +kernel⟩
theorem ok_law_mixed (T : Txt K mg) : FnOk P w K mg base CX0 2 (ga K "_law_mixed") (fdAt K (ga K "_law_mixed")) ["_law_box_here", "_law_some"] spMixed := by
  refine T.f_law_mixed.ok sc_law_mixed (fun vs H Q E h => ?_) (fun cdv A outer s H vs Q E hr h => ?_)
  · obtain ⟨bx, l, xs, f, rfl, _⟩ := h
    rfl
  obtain ⟨bx, l, xs, f, rfl, hl, hlen, hne, hf, hbx, q⟩ := h
  refine ⟨_, PSs.nox (pss_cons (ps_set (i := 2) sc_law_mixed.nd rfl (Or.inr rfl) (t_list call_list_of T (pa_cons (pv 1) pa_nil)))
    (pss_one (ps_ret (pe_lc (own := [("_law_k", 3)]) rfl sc_law_mixed.nd (pi_range1 (by rfl) T.z_range (pa_cons (b_len call_len_seq T (pa_cons (pv 1) pa_nil)) pa_nil)) (blkOk_by (N := ["_law_box_here", "_law_some", "_law_left", "_law_k"]) (sc := defScope sLawMixed) (by decide +kernel)) (fun _ _ _ _ _ => pg_name (i := 3) sc_law_mixed.nd rfl (Or.inl rfl)) (fun _ _ _ _ _ => pts_nil) (fun _ _ _ _ _ => (pe_bmK (K := K) rfl PySem.F.plainAttrs_list PySem.F.slot_list_pop PySem.F.type_list_pop mt_popAt (pv 2) (pa_cons (c_law_take T (hr.mono (by decide)) (pa_cons (pv 0) (pa_cons (b_len (call_lenK (K := K)) T (pa_cons (pv 2) pa_nil)) pa_nil))) pa_nil))))))), ?_⟩
  refine ⟨_, rfl, l, xs, rfl, .inl (SqL.of hl), fun lf nlf => ?_⟩
  have sl : Same H (upd H lf (.lst xs)) := same_new nlf
  refine ⟨_, rfl, l, xs, rfl, .inl (SqL.of (sl _ _ hl)), _, rfl, (by omega), (by omega), fun D nD => lc_rng (n := xs.length) (fun i H1 => ∃ acc L : List V, Sb bx H H1 ∧ H1 lf = some (.lst L) ∧ H1 D = some (.lst acc) ∧ (acc ++ L).Perm xs ∧ acc.length = i ∧ Box H1 bx (f - i)) ?_ (fun i H1 hi h1 => ?_) (fun H1 h1 => ?_)⟩
  · refine ⟨[], xs, (Same.sb sl).new nD, ?_, upd_same, List.Perm.refl _, rfl, ?_⟩
    · rw [upd_ne (ne_of_none upd_same nD), upd_same]
    · have hz : f - ((0 : Nat) : Int) = f := by omega
      rw [hz]
      exact (hbx.new nlf).new nD
  · obtain ⟨acc, L, sb, h2, h3, hp, hla, hb⟩ := h1
    have hpl : acc.length + L.length = xs.length := by
      have := hp.length_eq
      rw [List.length_append] at this
      exact this
    have nb1 : lf ≠ bx := hbx.ne nlf
    have nD0 : H D = none := by
      rw [upd_ne (fun z => by rw [z, upd_same] at nD; cases nD)] at nD
      exact nD
    have nDl : D ≠ lf := fun z => by rw [z, upd_same] at nD; cases nD
    have nbD : D ≠ bx := hbx.ne nD0
    refine ⟨rfl, yes_if ?_⟩
    refine ⟨_, rfl, .inl ⟨rfl, L, SqL.of h2⟩, _, rfl, _, rfl, lf, L, rfl, .inl (SqL.of h2), bx, (L.length : Int), f - i, rfl, by omega, by omega, by omega, hb, fun d H2 hd0 hd1 hu hb2 => ?_⟩
    have hk : d.toNat < L.length := by omega
    have e2 : H2 lf = some (.lst L) := Sb.box hu _ _ nb1 h2
    have e3 : H2 D = some (.lst acc) := Sb.box hu _ _ nbD h3
    refine ⟨lf, L, d, d.toNat, L[d.toNat], rfl, rfl, e2, by omega, by omega, seqIndex_of hd0 hd1, List.getElem?_eq_getElem hk, ?_⟩
    refine ⟨acc, by rw [upd_ne nDl]; exact e3, Nat.lt_of_le_of_lt (show acc.length ≤ 100 by omega) (by decide), acc ++ [L[d.toNat]], L.eraseIdx d.toNat, ?_, ?_, upd_same, ?_, ?_, ?_⟩
    · intro b o n e
      rw [upd_ne (ne_of_none e nD0), upd_ne (ne_of_none e nlf)]
      exact Sb.box hu b o n (sb b o n e)
    · rw [upd_ne (Ne.symm nDl), upd_same]
    · rw [List.append_assoc]
      exact (List.Perm.append_left acc (perm_erase L d.toNat hk)).trans hp
    · rw [List.length_append, hla] <;> rfl
    · have hz : f - ((i + 1 : Nat) : Int) = f - i - 1 := by omega
      rw [hz]
      exact (hb2.put nb1).put nbD
  · obtain ⟨acc, L, sb, h2, h3, hp, hla, hb⟩ := h1
    have hpl : acc.length + L.length = xs.length := by
      have := hp.length_eq
      rw [List.length_append] at this
      exact this
    have hL : L = [] := List.eq_nil_of_length_eq_zero (by omega)
    rw [hL, List.append_nil] at hp
    have nD0 : H D = none := by
      rw [upd_ne (fun z => by rw [z, upd_same] at nD; cases nD)] at nD
      exact nD
    exact q D acc H1 hp sb nD0 (hbx.ne nD0) h3 hb
theorem bd_law_mixed {K : PySem.W.Frag} {mg : Str → Option Value} (T : Txt K mg) : Binds K (fdAt K (ga K "_law_mixed")) ["_law_box_here", "_law_some"] [] := T.f_law_mixed.bindsN fun _ _ _ _ _ _ us hl => match us, hl with | [_, _], _ => rfl
theorem c_law_mixed {X : Cx} {e : Expr} {es : List Expr} {t : TA} {p pos : Pos} (T : Txt X.K X.mg) (hr : Room 2 X.A) (ha : PA X (e :: es) t) (hg : Gl X "_law_mixed" := by rfl) (he : starEach (e :: es) X.env = (false, eval e X.env) :: starEach es X.env := by rfl) (hpl : (backTo pos (starEach es X.env)).any (·.1) = false := by rfl) :
    PE X (.Call (.Name "_law_mixed" p) (e :: es) [] pos) (tCall (spMixed) [] E0 t) := pe_call (ok_law_mixed T) hr hg T.g_law_mixed T.f_law_mixed.kp (bd_law_mixed T) .nil pass0 ha (by decide) he hpl
end
end K57
/-! L3 -/
namespace K57
open PySem PySem.Spec PyProof.Rows L2 He
/-! ### pairs along a line-up -/
def Acyc (n : Nat) (rows : List (List Int)) : Prop := (∀ r ∈ rows, PairRow n r) ∧ ∃ pos : Nat → Nat, ∀ a b, row2 a b ∈ rows → pos a < pos b
theorem ite_cut {b : Prop} [Decidable b] {A B : VK → Prop} {Q : VK} (R : V → Hp → Prop) (h : ∀ v H, R v H → Q v H) (hA : (∀ v H, R v H → Q v H) → b → A Q) (hB : (∀ v H, R v H → Q v H) → ¬b → B Q) : if b then A Q else B Q := by
  by_cases z : b
  · rw [if_pos z]
    exact hA h z
  · rw [if_neg z]
    exact hB h z
/-- the rows so far -/
def PInv (H : Hp) (bx lu fl : Addr) (ns : List Int) (f : Int) (c : Nat) (H' : Hp) : Prop := ∃ (rows : List (List Int)) (ys : List V), Sb bx H H' ∧ H' lu = some (.lst (ns.map V.int)) ∧ H' fl = some (.lst ys) ∧ DqAll H' ys (rows.map tupD) ∧
  (∀ r ∈ rows, ∃ (i j : Nat) (x y : Int), i < j ∧ ns[i]? = some x ∧ ns[j]? = some y ∧ r = [x, y]) ∧ rows.length ≤ c ∧ Box H' bx (f - c)
theorem PInv.le {H : Hp} {bx lu fl : Addr} {ns : List Int} {f : Int} {c d : Nat} {H' : Hp} (h : PInv H bx lu fl ns f c H') (l : c ≤ d) : PInv H bx lu fl ns f d H' := by
  obtain ⟨rows, ys, h1, h2, h3, h4, h5, h6, h7⟩ := h
  exact ⟨rows, ys, h1, h2, h3, h4, h5, by omega, h7.le (by omega)⟩
theorem tups_box {bx : Addr} {H H1 : Hp} {f : Int} (hb : Box H bx f) (s : Sb bx H H1) : ∀ b ys, H b = some (.tup ys) → H1 b = some (.tup ys) := fun b ys e => s b _ (fun z => by
  obtain ⟨a, b', c, e2, _⟩ := hb
  rw [z, e2] at e
  cases e) e
theorem PInv.draw {H : Hp} {bx lu fl : Addr} {ns : List Int} {f : Int} {c : Nat} {H' H2 : Hp} (h : PInv H bx lu fl ns f c H') (nl : lu ≠ bx) (nf : fl ≠ bx) (hu : ∃ o, H2 = upd H' bx o) (hb : Box H2 bx (f - c - 1)) : PInv H bx lu fl ns f (c + 1) H2 := by
  obtain ⟨rows, ys, h1, h2, h3, h4, h5, h6, h7⟩ := h
  have s := Sb.box hu
  exact ⟨rows, ys, h1.trans s, s _ _ nl h2, s _ _ nf h3, h4.rows (tups_box h7 s), h5, by omega, hb.le (by omega)⟩
theorem PInv.app {H : Hp} {bx lu fl : Addr} {ns : List Int} {f : Int} {c : Nat} {H' H2 : Hp} (h : PInv H bx lu fl ns f c H') (nl : lu ≠ bx) (nf : fl ≠ bx) (nfl : fl ≠ lu) (hfl : H fl = none) (hc : c ≤ 100) (hu : ∃ o, H2 = upd H' bx o) (hb : Box H2 bx (f - c - 1)) {i j : Nat} {x y : Int} (hij : i < j) (hx : ns[i]? = some x) (hy : ns[j]? = some y) :
    ∃ ys, H2 fl = some (.lst ys) ∧ ys.length < sizeLine ∧ H2 lu = some (.lst (ns.map V.int)) ∧ ∀ t, H2 t = none → PInv H bx lu fl ns f (c + 1) (upd (upd H2 t (.tup [.int x, .int y])) fl (.lst (ys ++ [.ref t]))) := by
  obtain ⟨rows, ys, h1, h2, h3, h4, h5, h6, h7⟩ := h
  have s := Sb.box hu
  have hl : ys.length = rows.length := by
    have := h4.length
    rw [List.length_map] at this
    exact this
  have e2 := s _ _ nl h2
  have e3 := s _ _ nf h3
  refine ⟨ys, e3, Nat.lt_of_le_of_lt (show ys.length ≤ 100 by omega) (by decide), e2, fun t nt => ?_⟩
  have tf : t ≠ fl := fun z => by rw [z, e3] at nt; cases nt
  have tl : t ≠ lu := fun z => by rw [z, e2] at nt; cases nt
  have tb : t ≠ bx := hb.ne nt
  have keep : ∀ b zs, H2 b = some (.tup zs) → upd (upd H2 t (.tup [.int x, .int y])) fl (.lst (ys ++ [.ref t])) b = some (.tup zs) := fun b zs e => by
    rw [upd_ne (fun z => by rw [z, e3] at e; cases e), upd_ne (ne_of_none e nt)]
    exact e
  refine ⟨rows ++ [[x, y]], ys ++ [.ref t], fun b o n e => ?_, ?_, upd_same, ?_, fun r hr => ?_, by rw [List.length_append, List.length_singleton]; omega, ?_⟩
  · rw [upd_ne (ne_of_none e hfl), upd_ne (ne_of_none (s _ _ n (h1 _ _ n e)) nt)]
    exact s _ _ n (h1 _ _ n e)
  · rw [upd_ne (Ne.symm nfl), upd_ne (Ne.symm tl)]
    exact e2
  · rw [List.map_append]
    refine ((h4.rows (tups_box h7 s)).rows keep).append (.cons (d := tupD [x, y]) (.tup ?_ (DqAll.ints [x, y])) .nil)
    rw [upd_ne tf, upd_same]
    rfl
  · rcases List.mem_append.mp hr with hr | hr
    · exact h5 r hr
    · exact ⟨i, j, x, y, hij, hx, hy, List.mem_singleton.mp hr⟩
  · have e : f - ((c + 1 : Nat) : Int) = f - c - 1 := by omega
    rw [e]
    exact (hb.put tb).put nf
def vI : V → Int
  | .int i => i
  | _ => 0
theorem ints_perm {ys : List V} {ns : List Int} (h : ys.Perm (ns.map V.int)) : ∃ ms : List Int, ys = ms.map V.int ∧ ms.Perm ns := by
  refine ⟨ys.map vI, ?_, ?_⟩
  · rw [List.map_map]
    have : ∀ y ∈ ys, (V.int ∘ vI) y = y := fun y hy => by
      obtain ⟨i, _, e⟩ := List.mem_map.mp (h.mem_iff.mp hy)
      rw [← e]
      rfl
    rw [List.map_congr_left this]
    simp
  · have := h.map vI
    rw [List.map_map] at this
    have e : (vI ∘ V.int) = id := rfl
    rw [e, List.map_id] at this
    exact this
theorem DqAll.perm {H : Hp} {zs ys : List V} (p : zs.Perm ys) : ∀ {ds : List PyData}, DqAll H ys ds → ∃ es, es.Perm ds ∧ DqAll H zs es := by
  induction p with
  | nil => exact fun h => ⟨_, .refl _, h⟩
  | @cons x l1 l2 _ ih =>
    intro ds h
    cases h with
    | cons a b =>
      obtain ⟨es, p1, h1⟩ := ih b
      exact ⟨_, p1.cons _, .cons a h1⟩
  | swap x y l =>
    intro ds h
    cases h with
    | cons a b =>
      cases b with
      | cons c d => exact ⟨_, .swap _ _ _, .cons c (.cons a d)⟩
  | trans _ _ ih1 ih2 =>
    intro ds h
    obtain ⟨es, p1, h1⟩ := ih2 h
    obtain ⟨fs, p2, h2⟩ := ih1 h1
    exact ⟨fs, p2.trans p1, h2⟩
theorem rows_perm {es : List PyData} {rows : List (List Int)} (h : es.Perm (rows.map tupD)) : ∃ rows' : List (List Int), es = rows'.map tupD ∧ rows'.Perm rows := by
  refine ⟨es.map intsOf, ?_, ?_⟩
  · rw [List.map_map]
    have : ∀ y ∈ es, (tupD ∘ intsOf) y = y := fun y hy => by
      obtain ⟨i, _, e⟩ := List.mem_map.mp (h.mem_iff.mp hy)
      rw [← e]
      show tupD (intsOf (tupD i)) = tupD i
      rw [intsOf_tup]
    rw [List.map_congr_left this]
    simp
  · have := h.map intsOf
    rw [map_intsOf] at this
    exact this
theorem DqAll.take {H : Hp} : ∀ (k : Nat) {xs : List V} {ds : List PyData}, DqAll H xs ds → DqAll H (xs.take k) (ds.take k)
  | 0, _, _, _ => .nil
  | _ + 1, _, _, .nil => .nil
  | k + 1, _, _, .cons a b => .cons a (DqAll.take k b)
theorem DqAll.drop {H : Hp} : ∀ (k : Nat) {xs : List V} {ds : List PyData}, DqAll H xs ds → DqAll H (xs.drop k) (ds.drop k)
  | 0, _, _, h => h
  | _ + 1, _, _, .nil => .nil
  | k + 1, _, _, .cons _ b => DqAll.drop k b
theorem at_once {ns : List Int} (h : ns.Nodup) {i j : Nat} {x : Int} (hi : ns[i]? = some x) (hj : ns[j]? = some x) : i = j := by
  obtain ⟨li, ei⟩ := List.getElem?_eq_some_iff.mp hi
  obtain ⟨lj, ej⟩ := List.getElem?_eq_some_iff.mp hj
  rcases Nat.lt_trichotomy i j with z | z | z
  · exact absurd (ei.trans ej.symm) (List.pairwise_iff_getElem.mp h i j li lj z)
  · exact z
  · exact absurd (ej.trans ei.symm) (List.pairwise_iff_getElem.mp h j i lj li z)
open Classical in
theorem acyc_of {n : Nat} {ns : List Int} {rows : List (List Int)} (hnd : ns.Nodup) (hns : ∀ x ∈ ns, 0 ≤ x ∧ x < n) (h : ∀ r ∈ rows, ∃ (i j : Nat) (x y : Int), i < j ∧ ns[i]? = some x ∧ ns[j]? = some y ∧ r = [x, y]) : Acyc n rows := by
  refine ⟨fun r hr => ?_, fun a => if z : ∃ i, ns[i]? = some (a : Int) then Classical.choose z else 0, fun a b hab => ?_⟩
  · obtain ⟨i, j, x, y, _, hx, hy, e⟩ := h r hr
    have hx1 := hns x (List.mem_of_getElem? hx)
    have hy1 := hns y (List.mem_of_getElem? hy)
    refine ⟨x.toNat, y.toNat, by omega, by omega, ?_⟩
    rw [e]
    unfold row2
    rw [Int.toNat_of_nonneg hx1.1, Int.toNat_of_nonneg hy1.1]
  · obtain ⟨i, j, x, y, hij, hx, hy, e⟩ := h _ hab
    unfold row2 at e
    injection e with e1 e2
    injection e2 with e2 _
    subst e1
    subst e2
    have za : ∃ i, ns[i]? = some (a : Int) := ⟨i, hx⟩
    have zb : ∃ i, ns[i]? = some (b : Int) := ⟨j, hy⟩
    show (if z : ∃ i, ns[i]? = some (a : Int) then Classical.choose z else 0) < (if z : ∃ i, ns[i]? = some (b : Int) then Classical.choose z else 0)
    rw [dif_pos za, dif_pos zb, at_once hnd (Classical.choose_spec za) hx, at_once hnd (Classical.choose_spec zb) hy]
    exact hij
theorem Acyc.sub {n : Nat} {rows rows' : List (List Int)} (h : Acyc n rows) (s : ∀ r ∈ rows', r ∈ rows) : Acyc n rows' := by
  obtain ⟨h1, pos, h2⟩ := h
  exact ⟨fun r hr => h1 r (s r hr), pos, fun a b hab => h2 a b (s _ hab)⟩
theorem rg_ints (n : Nat) : rgV 0 (n : Int) = ((List.range n).map (fun i => ((i : Nat) : Int))).map V.int := by
  unfold rgV
  have e : ((n : Int) - 0).toNat = n := by omega
  rw [e, List.map_map]
  refine List.map_congr_left fun i _ => ?_
  show V.int (0 + (i : Int)) = V.int (i : Int)
  rw [Int.zero_add]
theorem rg_nodup (n : Nat) : ((List.range n).map (fun i => ((i : Nat) : Int))).Nodup := List.pairwise_map.mpr (List.nodup_range.imp fun {a b} h z => h (Int.ofNat.inj z))
theorem rg_mem (n : Nat) : ∀ x ∈ (List.range n).map (fun i => ((i : Nat) : Int)), 0 ≤ x ∧ x < n := fun x hx => by
  obtain ⟨i, hi, e⟩ := List.mem_map.mp hx
  rw [List.mem_range] at hi
  omega
theorem iteF' {c : Bool} {A B : Prop} (h : c = false) (b : B) : if c = true then A else B := by
  subst h
  exact iteF b
theorem iteT' {c : Bool} {A B : Prop} (h : c = true) (a : A) : if c = true then A else B := by
  subst h
  exact iteT a
section
variable {P : Program} {w : World} {K : PySem.W.Frag} {mg : Str → Option Value} {base : Heap}
def spPairs : Sp := fun vs H Q _ => ∃ (bx : Addr) (n : Nat) (f : Int), vs = [.ref bx, .int n] ∧ 1 ≤ n ∧ n ≤ 4 ∧ 40 ≤ f ∧ Box H bx f ∧
  ∀ p ys rows H1, Acyc n rows → rows.length ≤ 32 → DqAll H1 ys (rows.map tupD) → Sb bx H H1 → H p = none → p ≠ bx → H1 p = some (.lst ys) → Box H1 bx (f - 40) → Q (.ref p) H1
theorem sc_law_pairs : FnScope ["_law_box_here", "_law_many", "_law_way", "_law_share", "_law_line_up", "_law_found", "_law_one", "_law_other"] ["_law_box_here", "_law_many"] (defScope sLawPairs) := ⟨rfl, rfl, rfl, by decide +kernel, rfl, by decide +kernel, by decide +kernel⟩
theorem ok_law_pairs (T : Txt K mg) : FnOk P w K mg base CX0 3 (ga K "_law_pairs") (fdAt K (ga K "_law_pairs")) ["_law_box_here", "_law_many"] spPairs := by
  refine T.f_law_pairs.ok sc_law_pairs (fun vs H Q E h => ?_) (fun cdv A outer s H vs Q E hr h => ?_)
  · obtain ⟨bx, n, f, rfl, _⟩ := h
    rfl
  obtain ⟨bx, n, f, rfl, h1, h2, hf, hbx, q⟩ := h
  refine ⟨_, PSs.nox (pss_cons (ps_par (i := 2) (j := 3) (by rfl) sc_law_pairs.nd rfl rfl (by decide) rfl rfl (pa_cons (c_law_take T (hr.mono (by decide)) (pa_cons (pv 0) (pa_cons pe_int pa_nil))) (pa_cons (pe_ix ix_list (pe_lst (pa_cons pe_int (pa_cons pe_int (pa_cons pe_int (pa_cons pe_int pa_nil))))) (c_law_take T (hr.mono (by decide)) (pa_cons (pv 0) (pa_cons pe_int pa_nil))) (fun _ _ => rfl)) pa_nil)) (by rfl))
    (pss_cons (ps_set (i := 4) sc_law_pairs.nd rfl (Or.inl rfl) (pe_ifExp (pt_cmpR op_lt (pv 2) pe_int (nomark _)) (pe_listRg rfl (by rfl) T.z_list (prg_1 (by rfl) T.z_range (pv 1))) (c_law_mixed T (hr.mono (by decide)) (pa_cons (pv 0) (pa_cons (pe_listRg rfl (by rfl) T.z_list (prg_1 (by rfl) T.z_range (pv 1))) pa_nil)))))
    (pss_cons (ps_set (i := 5) sc_law_pairs.nd rfl (Or.inl rfl) (pe_lst pa_nil))
    (pss_cons (ps_for PassesOwn.never rfl (pi_range1 (by rfl) T.z_range (pa_cons (pv 1) pa_nil)) (pg_name (i := 6) sc_law_pairs.nd rfl (Or.inl rfl)) (pss_one (ps_for PassesOwn.never rfl (pi_range2 (by rfl) T.z_range (pa_cons (pe_op op_add (pv 6) pe_int) (pa_cons (pv 1) pa_nil))) (pg_name (i := 7) sc_law_pairs.nd rfl (Or.inl rfl)) (pss_cons (ps_if (PW.pt (pw_and (pt_cmpR op_eq (pv 2) pe_int (nomark _)) (pw_and (pt_cmpR op_eq (pv 7) (pe_op op_add (pv 6) pe_int) (nomark _)) (pw_and1 (pt_cmpR op_gt (c_law_take T (hr.mono (by decide)) (pa_cons (pv 0) (pa_cons pe_int pa_nil))) pe_int (nomark _)))))) (pss_one (ps_expr (pe_bm PySem.F.plainAttrs_list PySem.F.slot_list_append PySem.F.type_list_append mt_append (pv 5) (pa_cons (pe_tup (pa_cons (pe_ix ix_list (pv 4) (pv 6) (fun _ _ => rfl)) (pa_cons (pe_ix ix_list (pv 4) (pv 7) (fun _ _ => rfl)) pa_nil))) pa_nil)))) pss_nil)
    (pss_one (ps_if (PW.pt (pw_and (pt_cmpR op_gt (pv 2) pe_int (nomark _)) (pw_and1 (pt_cmpR op_lt (c_law_take T (hr.mono (by decide)) (pa_cons (pv 0) (pa_cons pe_int pa_nil))) (pv 3) (nomark _))))) (pss_one (ps_expr (pe_bm PySem.F.plainAttrs_list PySem.F.slot_list_append PySem.F.type_list_append mt_append (pv 5) (pa_cons (pe_tup (pa_cons (pe_ix ix_list (pv 4) (pv 6) (fun _ _ => rfl)) (pa_cons (pe_ix ix_list (pv 4) (pv 7) (fun _ _ => rfl)) pa_nil))) pa_nil)))) pss_nil))))))
    (pss_one (ps_ret (pe_ifExp (pt_cmpR op_eq (pv 2) pe_int (nomark _)) (pe_op op_cat (pv 5) (pe_slice sl_list (pv 5) po_none (po_some pe_int))) (c_law_mixed T (hr.mono (by decide)) (pa_cons (pv 0) (pa_cons (pv 5) pa_nil)))))))))), ?_⟩
  refine ⟨_, rfl, bx, 5, f, rfl, by decide, by decide, by omega, hbx, fun way H1 w0 w1 u1 b1 => ?_⟩
  refine ⟨by decide, fun l nl => ⟨_, rfl, bx, 4, f - 1, rfl, by decide, by decide, by omega, b1.new nl, fun sh0 H2 v0 v1 u2 b2 => ?_⟩⟩
  have lb : l ≠ bx := b1.ne nl
  have e2 : H2 l = some (.lst [V.int 0, V.int 1, V.int 2, V.int 5]) := Sb.box u2 _ _ lb upd_same
  obtain ⟨sh, hsh⟩ : ∃ sh : Int, atI [V.int 0, V.int 1, V.int 2, V.int 5] sh0 = some (V.int sh) := by
    have : sh0 = ((0 : Nat) : Int) ∨ sh0 = ((1 : Nat) : Int) ∨ sh0 = ((2 : Nat) : Int) ∨ sh0 = ((3 : Nat) : Int) := by omega
    rcases this with z | z | z | z <;> rw [z]
    · exact ⟨0, atI_nat rfl⟩
    · exact ⟨1, atI_nat rfl⟩
    · exact ⟨2, atI_nat rfl⟩
    · exact ⟨5, atI_nat rfl⟩
  have s2 : Sb bx H H2 := (Sb.box u1).trans ((Same.sb (same_new nl)).trans (Sb.box u2))
  refine ⟨l, _, _, _, rfl, rfl, SqL.of e2, hsh, _, _, rfl, ?_⟩
  refine ⟨_, rfl, _, _, rfl, rfl, _, rfl, ?_⟩
  refine ite_cut (fun v H3 => ∃ (lu : Addr) (ns : List Int), v = .ref lu ∧ H lu = none ∧ lu ≠ bx ∧ H3 lu = some (.lst (ns.map V.int)) ∧ ns.Nodup ∧ (∀ x ∈ ns, 0 ≤ x ∧ x < n) ∧ ns.length = n ∧ Sb bx H H3 ∧ Box H3 bx (f - 6)) ?_ (fun k _ => ?_) (fun k _ => ?_)
  rotate_left
  · refine ⟨_, rfl, _, rfl, RgOk.of_le (by omega) (by omega) (by omega) (by omega), fun p np => k _ _ ⟨p, (List.range n).map (fun i => ((i : Nat) : Int)), rfl, s2.free (b2.ne np) np, b2.ne np, by rw [upd_same, rg_ints], rg_nodup n, rg_mem n, by simp, s2.new np, (b2.new np).le (by omega)⟩⟩
  · have hl : (rgV 0 (n : Int)).length ≤ 4 := by rw [rgV_length]; omega
    refine ⟨_, rfl, _, rfl, _, rfl, RgOk.of_le (by omega) (by omega) (by omega) (by omega), fun p np => ⟨bx, p, rgV 0 n, f - 2, rfl, upd_same, by omega, Ne.symm (b2.ne np), by omega, (b2.new np).le (by omega), fun p2 ys H4 hp s4 np2 pb2 hp2 hb4 => k _ _ ?_⟩⟩
    rw [rg_ints] at hp
    obtain ⟨ms, rfl, hm⟩ := ints_perm hp
    have s24 := (s2.new np).trans s4
    refine ⟨p2, ms, rfl, (s2.new np).free pb2 np2, pb2, hp2, hm.symm.nodup (rg_nodup n), fun x hx => rg_mem n x (hm.mem_iff.mp hx), ?_, s24, hb4.le (by omega)⟩
    rw [hm.length_eq]
    simp
  rintro _ H3 ⟨lu, ns, rfl, nlu, lub, hlu, hnd, hns, hnl, s3, b3⟩
  refine ⟨Nat.zero_le _, fun fl nfl => ?_⟩
  have flb : fl ≠ bx := b3.ne nfl
  have nflH : H fl = none := s3.free flb nfl
  have fll : fl ≠ lu := fun z => by rw [z, hlu] at nfl; cases nfl
  have P0 : PInv H bx lu fl ns (f - 6) 0 (upd H3 fl (.lst [])) := ⟨[], [], s3.new nfl, by rw [upd_ne (Ne.symm fll)]; exact hlu, upd_same, .nil, (fun r hr => nomatch hr), Nat.zero_le _, (b3.new nfl).le (by omega)⟩
  refine ⟨_, rfl, n, rfl, by omega, by omega, ?_⟩
  rw [Int.toNat_natCast]
  refine for_rng (fun one σ H' => ∃ o6 o7, σ = [some (.ref bx), some (.int n), some (.int way), some (.int sh), some (.ref lu), some (.ref fl), o6, o7] ∧ PInv H bx lu fl ns (f - 6) (4 * one) H') ⟨none, none, rfl, P0⟩ (fun one σ H' hone hP => ?_) (fun σ H' hP => ?_)
  · obtain ⟨o6, o7, rfl, hP⟩ := hP
    refine ⟨_, rfl, _, _, rfl, rfl, _, rfl, _, _, rfl, ⟨by omega, by omega, by omega, by omega⟩, ?_⟩
    have ez : ((n : Int) - ((one : Int) + 1)).toNat = n - (one + 1) := by omega
    rw [ez]
    refine for_range (lo := (one : Int) + 1) (fun j σ H' => ∃ o7, σ = [some (.ref bx), some (.int n), some (.int way), some (.int sh), some (.ref lu), some (.ref fl), some (.int one), o7] ∧ PInv H bx lu fl ns (f - 6) (4 * one + j) H') ⟨o7, rfl, hP⟩ (fun j σ H' hj hP => ?_) (fun σ H' hP => ?_)
    · obtain ⟨o7, rfl, hP⟩ := hP
      have hP0 := hP
      obtain ⟨rows, ys0, h1, h2, h3, h4, h5, h6, h7⟩ := hP
      have hlen : (one + 1 + j) < ns.length := by omega
      obtain ⟨x, hx⟩ : ∃ x, ns[one]? = some x := ⟨_, List.getElem?_eq_getElem (by omega)⟩
      obtain ⟨y, hy⟩ : ∃ y, ns[one + 1 + j]? = some y := ⟨_, List.getElem?_eq_getElem hlen⟩
      have at1 : atI (ns.map V.int) ((one : Nat) : Int) = some (.int x) := atI_nat (by rw [List.getElem?_map, hx]; rfl)
      have at2 : atI (ns.map V.int) ((one : Int) + 1 + (j : Int)) = some (.int y) := by
        have e : ((one : Int) + 1 + (j : Int)) = ((one + 1 + j : Nat) : Int) := by omega
        rw [e]
        exact atI_nat (by rw [List.getElem?_map, hy]; rfl)
      have hP := hP0
      clear h1 h2 h3 h4 h5 h6
      refine ⟨_, rfl, rfl, _, rfl, iteB (fun c => ?_) (fun c => ?_)⟩
      · have w00 : way = 0 := by
          have := of_decide_eq_true c
          injection this
        refine ⟨_, rfl, _, rfl, _, _, rfl, rfl, rfl, _, rfl, iteB (fun c1 => ?_) (fun c1 => ?_)⟩
        · refine ⟨_, rfl, bx, 3, f - 6 - ((4 * one + j : Nat) : Int), rfl, by decide, by decide, by omega, h7, fun d H2 d0 d1 u3 b3' => ⟨_, _, rfl, rfl, _, rfl, iteB (fun c2 => ?_) (fun c2 => ?_)⟩⟩
          · obtain ⟨ys, e3, e4, e5, nxt⟩ := hP.app lub flb fll nflH (by omega) u3 b3' (i := one) (j := one + 1 + j) (by omega) hx hy
            refine ⟨_, rfl, .inl ⟨rfl, ys, SqL.of e3⟩, _, rfl, _, rfl, lu, _, _, .int x, rfl, rfl, SqL.of e5, at1, _, rfl, _, rfl, lu, _, _, .int y, rfl, rfl, SqL.of e5, at2, (by show 2 ≤ sizeLine; decide), fun t nt => ?_⟩
            refine ⟨fl, ys, .ref t, rfl, rfl, (by rw [upd_ne (fun z => by rw [← z, e3] at nt; cases nt)]; exact e3), e4, ?_⟩
            refine ⟨_, rfl, _, _, rfl, rfl, _, rfl, ?_⟩
            refine iteF' (decide_eq_false (by omega)) (iteF ⟨_, rfl, nxt t nt⟩)
          · refine ⟨_, rfl, _, _, rfl, rfl, _, rfl, ?_⟩
            refine iteF' (decide_eq_false (by omega)) (iteF ⟨_, rfl, hP.draw lub flb u3 b3'⟩)
        · refine iteF ?_
          refine ⟨_, rfl, _, _, rfl, rfl, _, rfl, ?_⟩
          refine iteF' (decide_eq_false (by omega)) (iteF ⟨_, rfl, hP.le (by omega)⟩)
      · refine iteF ?_
        have w01 : ¬ way = 0 := fun z => by
          have := of_decide_eq_false c
          exact this (by rw [z])
        refine ⟨_, rfl, _, _, rfl, rfl, _, rfl, iteT' (decide_eq_true (by omega)) ?_⟩
        refine ⟨_, rfl, bx, 6, f - 6 - ((4 * one + j : Nat) : Int), rfl, by decide, by decide, by omega, h7, fun d H2 d0 d1 u3 b3' => ⟨_, rfl, _, _, rfl, rfl, _, rfl, iteB (fun c2 => ?_) (fun c2 => ?_)⟩⟩
        · obtain ⟨ys, e3, e4, e5, nxt⟩ := hP.app lub flb fll nflH (by omega) u3 b3' (i := one) (j := one + 1 + j) (by omega) hx hy
          refine ⟨_, rfl, .inl ⟨rfl, ys, SqL.of e3⟩, _, rfl, _, rfl, lu, _, _, .int x, rfl, rfl, SqL.of e5, at1, _, rfl, _, rfl, lu, _, _, .int y, rfl, rfl, SqL.of e5, at2, (by show 2 ≤ sizeLine; decide), fun t nt => ?_⟩
          refine ⟨fl, ys, .ref t, rfl, rfl, (by rw [upd_ne (fun z => by rw [← z, e3] at nt; cases nt)]; exact e3), e4, ?_⟩
          exact ⟨_, rfl, nxt t nt⟩
        · exact ⟨_, rfl, hP.draw lub flb u3 b3'⟩
    · obtain ⟨o7, rfl, hP⟩ := hP
      exact ⟨_, _, rfl, hP.le (by omega)⟩
  · obtain ⟨o6, o7, rfl, hP⟩ := hP
    obtain ⟨rows, ys, h1, h2, h3, h4, h5, h6, h7⟩ := hP
    have hA := acyc_of hnd hns h5
    have hl : ys.length = rows.length := by
      have := h4.length
      rw [List.length_map] at this
      exact this
    refine ⟨_, rfl, rfl, _, rfl, iteB (fun c => ?_) (fun c => ?_)⟩
    · refine ⟨_, rfl, _, rfl, _, rfl, fl, ys, rfl, SqL.of h3, fun p np => ?_⟩
      have hz := cutV_length ys none (some 1)
      refine ⟨fl, p, ys, _, rfl, rfl, (by rw [upd_ne (ne_of_none h3 np)]; exact h3), upd_same, Nat.le_trans (show ys.length + (cutV ys none (some 1)).length ≤ 100 by omega) (by decide), fun r nr => ?_⟩
      have npr : H' r = none := by
        rw [upd_ne (fun z => by rw [z, upd_same] at nr; cases nr)] at nr
        exact nr
      have keep : ∀ b zs, H' b = some (.tup zs) → upd (upd H' p (.lst (cutV ys none (some 1)))) r (.lst (ys ++ cutV ys none (some 1))) b = some (.tup zs) := fun b zs e => by
        rw [upd_ne (ne_of_none e npr), upd_ne (ne_of_none e np)]
        exact e
      refine q r _ (rows ++ (rows.drop (HT.sIx ys.length 0 none)).take (HT.sIx ys.length ys.length (some 1) - HT.sIx ys.length 0 none)) _ (hA.sub fun r hr => ?_) ?_ ?_ ((h1.new np).new nr) (h1.free (h7.ne npr) npr) (h7.ne npr) upd_same (((h7.new np).new nr).le (by omega))
      · rcases List.mem_append.mp hr with hr | hr
        · exact hr
        · exact List.mem_of_mem_drop (List.mem_of_mem_take hr)
      · rw [List.length_append, List.length_take, List.length_drop]
        omega
      · rw [List.map_append, List.map_take, List.map_drop]
        exact ((h4.rows keep).append (by
          have z := ((h4.rows keep).drop (HT.sIx ys.length 0 none)).take (HT.sIx ys.length ys.length (some 1) - HT.sIx ys.length 0 none)
          exact z))
    · refine ⟨_, rfl, _, rfl, bx, fl, ys, f - 6 - ((4 * n : Nat) : Int), rfl, h3, by omega, Ne.symm flb, by omega, h7, fun p zs H4 hp s4 np pb hp4 b4 => ?_⟩
      have tb := tups_box h7 s4
      obtain ⟨es, pe, he⟩ := DqAll.perm hp (h4.rows tb)
      obtain ⟨rows', rfl, pr⟩ := rows_perm pe
      exact q p zs rows' H4 (hA.sub fun r hr => pr.mem_iff.mp hr) (by rw [pr.length_eq]; omega) he (h1.trans s4) (h1.free pb np) pb hp4 (b4.le (by omega))
theorem bd_law_pairs {K : PySem.W.Frag} {mg : Str → Option Value} (T : Txt K mg) : Binds K (fdAt K (ga K "_law_pairs")) ["_law_box_here", "_law_many"] [] := T.f_law_pairs.bindsN fun _ _ _ _ _ _ us hl => match us, hl with | [_, _], _ => rfl
theorem c_law_pairs {X : Cx} {e : Expr} {es : List Expr} {t : TA} {p pos : Pos} (T : Txt X.K X.mg) (hr : Room 3 X.A) (ha : PA X (e :: es) t) (hg : Gl X "_law_pairs" := by rfl) (he : starEach (e :: es) X.env = (false, eval e X.env) :: starEach es X.env := by rfl) (hpl : (backTo pos (starEach es X.env)).any (·.1) = false := by rfl) :
    PE X (.Call (.Name "_law_pairs" p) (e :: es) [] pos) (tCall (spPairs) [] E0 t) := pe_call (ok_law_pairs T) hr hg T.g_law_pairs T.f_law_pairs.kp (bd_law_pairs T) .nil pass0 ha (by decide) he hpl
end
end K57
/-! L4 -/
namespace K57
open PySem PySem.Spec PyProof.Rows L2 He
theorem relabel_look {env : Env} : ∀ {names : List (Str × NameKind)} {x : Str}, names.lookup x = some .cell ∨ names.lookup x = some .free →
    (names.map fun (n, k) => if (k == NameKind.free && env.scope.kind == .function && env.kindOf n == some .cell) then (n, NameKind.cell) else (n, k)).lookup x = some .cell ∨
    (names.map fun (n, k) => if (k == NameKind.free && env.scope.kind == .function && env.kindOf n == some .cell) then (n, NameKind.cell) else (n, k)).lookup x = some .free
  | [], x, h => by simp at h
  | (n, k) :: r, x, h => by
    have ih := @relabel_look env r x
    show List.lookup x ((if (k == NameKind.free && env.scope.kind == .function && env.kindOf n == some .cell) = true then (n, NameKind.cell) else (n, k)) :: _) = _ ∨ List.lookup x ((if (k == NameKind.free && env.scope.kind == .function && env.kindOf n == some .cell) = true then (n, NameKind.cell) else (n, k)) :: _) = _
    cases hx : x == n with
    | true =>
      have h' : some k = some NameKind.cell ∨ some k = some NameKind.free := by simpa [List.lookup_cons, hx] using h
      split
      · exact .inl (by simp [List.lookup_cons, hx])
      · rcases h' with e | e
        · exact .inl (by simp [List.lookup_cons, hx, Option.some.inj e])
        · exact .inr (by simp [List.lookup_cons, hx, Option.some.inj e])
    | false =>
      have h' : r.lookup x = some NameKind.cell ∨ r.lookup x = some NameKind.free := by simpa [List.lookup_cons, hx] using h
      have := ih h'
      split <;> simpa [List.lookup_cons, hx] using this
/-- a comprehension within a comprehension's block -/
theorem blkOk_in {N : List Str} {sc scope : Scope} {own : List (Str × Nat)} {cl : List (Str × Addr)} {C : Addr} {env : Env} (h : blkC N sc scope own = true) : BlkOk N (compEnvC sc cl C env).scope scope own := by
  have b := blkOk_by h
  exact ⟨b.kind, b.uniq, b.ix, fun y hy e => relabel_look (b.free y hy e), b.own⟩
theorem eqv_ints : ∀ l m : List Int, PyData.eqvAll (l.map PyData.int) (m.map PyData.int) = decide (l = m)
  | [], [] => by simp [PyData.eqvAll]
  | [], b :: m => by simp [PyData.eqvAll]
  | a :: l, [] => by simp [PyData.eqvAll]
  | a :: l, b :: m => by
    have ih := eqv_ints l m
    simp only [List.map_cons, PyData.eqvAll, ih]
    have e : PyData.eqv (.int a) (.int b) = decide (a = b) := by
      simp only [PyData.eqv]
      rw [Bool.eq_iff_iff]
      simp
    rw [e]
    by_cases h1 : a = b <;> by_cases h2 : l = m <;> simp [h1, h2]
theorem eqv_tup (l m : List Int) : PyData.eqv (tupD l) (tupD m) = decide (l = m) := by
  show PyData.eqv (.tuple (l.map PyData.int)) (.tuple (m.map PyData.int)) = _
  simp only [PyData.eqv, eqv_ints]
theorem any_rows (rows : List (List Int)) (a b : Nat) : ((rows.map tupD).any fun z => PyData.eqv z (tupD (row2 a b))) = initR rows a b := by
  unfold initR
  induction rows with
  | nil => rfl
  | cons r rows ih =>
    rw [List.map_cons, List.any_cons, ih, eqv_tup, List.contains_cons]
    congr 1
    by_cases h : r = row2 a b
    · rw [decide_eq_true h, h]
      simp
    · rw [decide_eq_false h]
      exact (beq_eq_false_iff_ne.mpr (Ne.symm h)).symm
theorem rowsL_shaped {rows : List (List Int)} (h : ∀ r ∈ rows, r.length ≤ 100000) : SeqAt.shaped (.list (rows.map tupD)) = true := by
  have h1 := rows_lay rows h
  have h2 := rows_depth rows
  unfold SeqAt.shaped
  rw [Bool.and_eq_true]
  refine ⟨by simp [PyData.canLay0, h1], decide_eq_true ?_⟩
  simp only [PyData.depth]
  omega
theorem row2_shaped (a b : Nat) : SeqAt.shaped (tupD (row2 a b)) = true := by
  have h2 := tupD_depth (row2 a b)
  unfold SeqAt.shaped
  rw [Bool.and_eq_true]
  exact ⟨tupD_lay _ (by show 2 ≤ 100000; decide), decide_eq_true (by omega)⟩
theorem PairRow.len5 {n : Nat} {r : List Int} (h : PairRow n r) : r.length ≤ 100000 := by
  obtain ⟨a, b, _, _, e⟩ := h
  rw [e]
  show 2 ≤ 100000
  decide
/-- a row of Bools -/
def bls (n : Nat) (f : Nat → Bool) : List V := (List.range n).map fun b => V.bl (f b)
theorem bls_at {n b : Nat} {f : Nat → Bool} (h : b < n) : (bls n f)[b]? = some (.bl (f b)) := by
  unfold bls
  rw [List.getElem?_map, List.getElem?_range h]
  rfl
theorem bls_len (n : Nat) (f : Nat → Bool) : (bls n f).length = n := by unfold bls; simp
theorem bls_snoc (n : Nat) (f : Nat → Bool) : bls (n + 1) f = bls n f ++ [.bl (f n)] := by
  unfold bls
  rw [List.range_succ, List.map_append]
  rfl
theorem bls_set {n b : Nat} {f g : Nat → Bool} (h : b < n) (hb : ∀ y, y < n → y ≠ b → g y = f y) : (bls n f).set b (.bl (g b)) = bls n g := by
  refine List.ext_getElem? fun y => ?_
  by_cases hy : y < n
  · rw [bls_at hy, List.getElem?_set]
    by_cases z : b = y
    · subst z
      rw [if_pos rfl, if_pos (by rw [bls_len]; exact hy)]
    · rw [if_neg z, bls_at hy, hb y hy (Ne.symm z)]
  · have e1 : (bls n g)[y]? = none := List.getElem?_eq_none (by rw [bls_len]; omega)
    have e2 : ((bls n f).set b (.bl (g b)))[y]? = none := List.getElem?_eq_none (by rw [List.length_set, bls_len]; omega)
    rw [e1, e2]
theorem bls_ext {n : Nat} {f g : Nat → Bool} (h : ∀ y, y < n → f y = g y) : bls n f = bls n g := by
  unfold bls
  exact List.map_congr_left fun y hy => by rw [h y (List.mem_range.mp hy)]
/-- the table of Bools -/
structure Mat (H0 H : Hp) (r : Addr) (rs : List Addr) (n : Nat) (R : Rel2) : Prop where
  same : Same H0 H
  top : H r = some (.lst (rs.map V.ref))
  len : rs.length = n
  nd : rs.Nodup
  no : r ∉ rs
  off : H0 r = none ∧ ∀ x ∈ rs, H0 x = none
  row : ∀ a x, rs[a]? = some x → H x = some (.lst (bls n (R a)))
theorem Mat.new {H0 H : Hp} {r p : Addr} {rs : List Addr} {n : Nat} {R : Rel2} {o : HO} (m : Mat H0 H r rs n R) (np : H p = none) : Mat H0 (upd H p o) r rs n R :=
  have s := same_new (o := o) np
  ⟨m.same.trans s, s _ _ m.top, m.len, m.nd, m.no, m.off, fun a x h => s _ _ (m.row a x h)⟩
theorem Mat.ext {H0 H : Hp} {r : Addr} {rs : List Addr} {n : Nat} {R T : Rel2} (m : Mat H0 H r rs n R) (h : ∀ x y, x < n → y < n → R x y = T x y) : Mat H0 H r rs n T :=
  ⟨m.same, m.top, m.len, m.nd, m.no, m.off, fun a x e => by
    have ha : a < n := by rw [← m.len]; exact (List.getElem?_eq_some_iff.mp e).1
    rw [m.row a x e, bls_ext fun y hy => h a y ha hy]⟩
theorem Mat.set {H0 H : Hp} {r x : Addr} {rs : List Addr} {n a b : Nat} {R T : Rel2} (m : Mat H0 H r rs n R) (hx : rs[a]? = some x) (hb : b < n) (h : ∀ u y, u < n → y < n → (u ≠ a ∨ y ≠ b) → T u y = R u y) : Mat H0 (upd H x (.lst ((bls n (R a)).set b (.bl (T a b))))) r rs n T := by
  have hxm := List.mem_of_getElem? hx
  have ha : a < n := by rw [← m.len]; exact (List.getElem?_eq_some_iff.mp hx).1
  refine ⟨fun c o e => ?_, ?_, m.len, m.nd, m.no, m.off, fun u z e => ?_⟩
  · rw [upd_ne (ne_of_none e (m.off.2 x hxm))]
    exact m.same c o e
  · rw [upd_ne (fun z => m.no (by rw [z]; exact hxm))]
    exact m.top
  · have hu : u < n := by rw [← m.len]; exact (List.getElem?_eq_some_iff.mp e).1
    by_cases z2 : u = a
    · subst z2
      rw [hx] at e
      cases e
      rw [upd_same, bls_set (g := T u) hb fun y hy ny => h u y hu hy (.inr ny)]
    · have nz : z ≠ x := fun q => by
        subst q
        obtain ⟨l1, e1⟩ := List.getElem?_eq_some_iff.mp e
        obtain ⟨l2, e2⟩ := List.getElem?_eq_some_iff.mp hx
        rcases Nat.lt_or_gt_of_ne z2 with q | q
        · exact absurd (e1.trans e2.symm) (List.pairwise_iff_getElem.mp m.nd u a l1 l2 q)
        · exact absurd (e2.trans e1.symm) (List.pairwise_iff_getElem.mp m.nd a u l2 l1 q)
      rw [upd_ne nz, m.row u z e, bls_ext fun y hy => (h u y hu hy (.inl z2)).symm]
theorem ixN_of {n j : Nat} (hj : j < n) : ixN n (j : Int) = some j := by
  unfold ixN
  rw [if_pos (by omega), if_pos (by omega)]
  simp
theorem un65 {k : Nat} {A : Around} (r : Room k A) : A.units + 65 < cLine := by
  have := r.un
  omega
section
variable {P : Program} {w : World} {K : PySem.W.Frag} {mg : Str → Option Value} {base : Heap}
def spLClosed : Sp := fun vs H Q _ => ∃ (n : Nat) (l : Addr) (xs : List V) (rows : List (List Int)), vs = [.int n, .ref l] ∧ 1 ≤ n ∧ n ≤ 4 ∧ H l = some (.lst xs) ∧ DqAll H xs (rows.map tupD) ∧ (∀ r ∈ rows, PairRow n r) ∧
  ∀ p ys H1, DqAll H1 ys ((closedL n rows).map tupD) → Same H H1 → H p = none → H1 p = some (.lst ys) → Q (.ref p) H1
theorem sc_law_closed : FnScope ["_law_many", "_law_some", "_law_reach", "_law_a", "_law_b", "_law_middle", "_law_found"] ["_law_many", "_law_some"] (defScope sLawClosed) := ⟨rfl, rfl, rfl, by decide +kernel, rfl, by decide +kernel, by decide +kernel⟩
theorem ok_law_closed (T : Txt K mg) : FnOk P w K mg base CX0 1 (ga K "_law_closed") (fdAt K (ga K "_law_closed")) ["_law_many", "_law_some"] spLClosed := by
  refine T.f_law_closed.ok sc_law_closed (fun vs H Q E h => ?_) (fun cdv A outer s H vs Q E hr h => ?_)
  · obtain ⟨n, l, xs, rows, rfl, _⟩ := h
    rfl
  obtain ⟨n, l, xs, rows, rfl, h1, h2, hl, hd, hp, q⟩ := h
  refine ⟨_, PSs.nox (pss_cons (ps_set (i := 2) sc_law_closed.nd rfl (Or.inr rfl) (pe_lc (own := [("_law_a", 3)]) rfl sc_law_closed.nd (pi_range1 (by rfl) T.z_range (pa_cons (pv 0) pa_nil)) (blkOk_by (N := ["_law_many", "_law_some", "_law_reach", "_law_a", "_law_b", "_law_middle", "_law_found"]) (sc := defScope sLawClosed) (by decide +kernel)) (fun _ _ _ _ _ => pg_name (i := 3) sc_law_closed.nd rfl (Or.inr rfl)) (fun _ _ _ _ _ => pts_nil) (fun _ _ _ _ _ => (pe_lc (own := [("_law_b", 4)]) rfl sc_law_closed.nd (pi_range1 (by rfl) T.z_range (pa_cons (pv 0) pa_nil)) (blkOk_in (N := ["_law_many", "_law_some", "_law_reach", "_law_a", "_law_b", "_law_middle", "_law_found"])  (by decide +kernel)) (fun _ _ _ _ _ => pg_name (i := 4) sc_law_closed.nd rfl (Or.inl rfl)) (fun _ _ _ _ _ => pts_nil) (fun _ _ _ _ _ => (pe_cmpR (op_inDK (K := K) (un65 hr)) (pe_tup (pa_cons (pv 3) (pa_cons (pv 4) pa_nil))) (pv 1) (by rfl)))))))
    (pss_cons (ps_for PassesOwn.never rfl (pi_range1 (by rfl) T.z_range (pa_cons (pv 0) pa_nil)) (pg_name (i := 5) sc_law_closed.nd rfl (Or.inl rfl)) (pss_one (ps_for PassesOwn.never rfl (pi_range1 (by rfl) T.z_range (pa_cons (pv 0) pa_nil)) (pg_name (i := 3) sc_law_closed.nd rfl (Or.inr rfl)) (pss_one (ps_for PassesOwn.never rfl (pi_range1 (by rfl) T.z_range (pa_cons (pv 0) pa_nil)) (pg_name (i := 4) sc_law_closed.nd rfl (Or.inl rfl)) (pss_one (ps_asg (pe_or (pe_ix (ix_listK (K := K)) (pe_ix (ix_listK (K := K)) (pv 2) (pv 3) (fun _ _ => rfl)) (pv 4) (fun _ _ => rfl)) (pe_one (pe_and (pe_ix ix_list (pe_ix (ix_listK (K := K)) (pv 2) (pv 3) (fun _ _ => rfl)) (pv 5) (fun _ _ => rfl)) (pe_one (pe_ix ix_list (pe_ix ix_list (pv 2) (pv 5) (fun _ _ => rfl)) (pv 4) (fun _ _ => rfl)))))) (pg_sub (pe_ix (ix_listK (K := K)) (pv 2) (pv 3) (fun _ _ => rfl)) (pv 4) set_list))))))))
    (pss_cons (ps_set (i := 6) sc_law_closed.nd rfl (Or.inl rfl) (pe_lst pa_nil))
    (pss_cons (ps_for PassesOwn.never rfl (pi_range1 (by rfl) T.z_range (pa_cons (pv 0) pa_nil)) (pg_name (i := 3) sc_law_closed.nd rfl (Or.inr rfl)) (pss_one (ps_set (i := 6) sc_law_closed.nd rfl (Or.inl rfl) (pe_op op_cat (pv 6) (pe_lc (own := [("_law_b", 4)]) rfl sc_law_closed.nd (pi_range1 (by rfl) T.z_range (pa_cons (pv 0) pa_nil)) (blkOk_by (N := ["_law_many", "_law_some", "_law_reach", "_law_a", "_law_b", "_law_middle", "_law_found"]) (sc := defScope sLawClosed) (by decide +kernel)) (fun _ _ _ _ _ => pg_name (i := 4) sc_law_closed.nd rfl (Or.inl rfl)) (fun _ _ _ _ _ => (pts_one (pt_val (pe_ix (ix_listK (K := K)) (pe_ix (ix_listK (K := K)) (pv 2) (pv 3) (fun _ _ => rfl)) (pv 4) (fun _ _ => rfl))))) (fun _ _ _ _ _ => (pe_tup (pa_cons (pv 3) (pa_cons (pv 4) pa_nil)))))))))
    (pss_one (ps_ret (pv 6))))))), ?_⟩
  have hz : ∀ r ∈ rows, r.length ≤ 100000 := fun r hr => (hp r hr).len5
  -- the table of the given pairs
  refine ⟨_, rfl, n, rfl, by omega, by omega, fun D nD => ?_⟩
  rw [Int.toNat_natCast]
  refine lc_rng (fun i H' => ∃ rs : List Addr, Same H H' ∧ (∀ x ∈ rs, H x = none ∧ H' x ≠ none) ∧ D ∉ rs ∧ H' D = some (.lst (rs.map V.ref)) ∧ rs.length = i ∧ rs.Nodup ∧ ∀ a x, rs[a]? = some x → H' x = some (.lst (bls n (initR rows a)))) ?_ (fun i H' hi hP => ?_) (fun H' hP => ?_)
  · exact ⟨[], same_new nD, by simp, by simp, upd_same, rfl, List.nodup_nil, fun a x e => by simp at e⟩
  · obtain ⟨rs, s1, o1, no1, t1, l1, nd1, r1⟩ := hP
    refine ⟨rfl, yes_if ?_⟩
    refine ⟨_, rfl, n, rfl, by omega, by omega, fun D2 nD2 => ?_⟩
    have nDD : D ≠ D2 := fun z => by rw [← z, t1] at nD2; cases nD2
    rw [Int.toNat_natCast]
    refine lc_rng (fun j H2 => (∀ b o, b ≠ D2 → H' b = some o → H2 b = some o) ∧ H2 D2 = some (.lst (bls j (initR rows i)))) ⟨fun b o hb e => by rw [upd_ne hb]; exact e, upd_same⟩ (fun j H2 hj hP2 => ?_) (fun H2 hP2 => ?_)
    · obtain ⟨k2, e2⟩ := hP2
      refine ⟨rfl, yes_if ?_⟩
      refine ⟨_, rfl, _, rfl, (by show 2 ≤ sizeLine; decide), fun t nt => ?_⟩
      have tD : t ≠ D2 := fun z => by rw [z, e2] at nt; cases nt
      have sH : Same H (upd H2 t (.tup [.int i, .int j])) := fun b o e => by
        have hbD : b ≠ D2 := fun z => by rw [← z, s1 b o e] at nD2; cases nD2
        have e' := k2 b o hbD (s1 b o e)
        rw [upd_ne (ne_of_none e' nt)]
        exact e'
      have dt : Dq (upd H2 t (.tup [.int i, .int j])) (.ref t) (tupD (row2 i j)) := .tup upd_same (DqAll.ints (row2 i j))
      refine ⟨_, rfl, _, _, dt.dp, (Dq.lst (sH _ _ hl) (hd.mono sH)).dp, row2_shaped i j, rowsL_shaped hz, ?_⟩
      rw [any_rows]
      refine ⟨_, (by rw [upd_ne (Ne.symm tD)]; exact e2), Nat.lt_of_le_of_lt (show (bls j (initR rows i)).length ≤ 4 by rw [bls_len]; omega) (by decide), fun b o hb e => ?_, ?_⟩
      · have e' := k2 b o hb e
        rw [upd_ne hb, upd_ne (ne_of_none e' nt)]
        exact e'
      · rw [upd_same, bls_snoc]
    · obtain ⟨k2, e2⟩ := hP2
      have nD2H : H D2 = none := by
        cases q : H D2 with
        | none => rfl
        | some o => rw [s1 _ _ q] at nD2; cases nD2
      have nrs : D2 ∉ rs := fun hm => (o1 D2 hm).2 nD2
      have t2 : H2 D = some (.lst (rs.map V.ref)) := k2 _ _ nDD t1
      refine ⟨_, t2, Nat.lt_of_le_of_lt (show (rs.map V.ref).length ≤ 4 by rw [List.length_map]; omega) (by decide), rs ++ [D2], fun b o e => ?_, fun x hx => ?_, ?_, ?_, ?_, ?_, fun a x hx => ?_⟩
      · have hbD : b ≠ D := ne_of_none e nD
        have hbD2 : b ≠ D2 := ne_of_none e nD2H
        rw [upd_ne hbD]
        exact k2 b o hbD2 (s1 b o e)
      · rcases List.mem_append.mp hx with hx | hx
        · refine ⟨(o1 x hx).1, ?_⟩
          have hxD : x ≠ D := fun z => no1 (by rw [← z]; exact hx)
          rw [upd_ne hxD]
          obtain ⟨o, ho⟩ := Option.ne_none_iff_exists'.mp (o1 x hx).2
          rw [k2 x o (fun z => nrs (by rw [← z]; exact hx)) ho]
          intro z
          cases z
        · rw [List.mem_singleton] at hx
          subst hx
          refine ⟨nD2H, ?_⟩
          rw [upd_ne (Ne.symm nDD), e2]
          intro z
          cases z
      · intro hm
        rcases List.mem_append.mp hm with hm | hm
        · exact no1 hm
        · exact nDD (List.mem_singleton.mp hm)
      · rw [upd_same, List.map_append]
        rfl
      · rw [List.length_append, l1]
        rfl
      · exact nd_snoc nd1 nrs
      · by_cases hlt : a < rs.length
        · rw [List.getElem?_append_left hlt] at hx
          have hxm := List.mem_of_getElem? hx
          rw [upd_ne (fun z => no1 (by rw [← z]; exact hxm))]
          exact k2 _ _ (fun z => nrs (by rw [← z]; exact hxm)) (r1 a x hx)
        · rw [List.getElem?_append_right (by omega)] at hx
          have ha0 : a - rs.length = 0 := by
            have := (List.getElem?_eq_some_iff.mp hx).1
            rw [List.length_singleton] at this
            omega
          rw [ha0] at hx
          have hx' : D2 = x := by simpa using hx
          subst hx'
          have hai : a = i := by omega
          subst hai
          rw [upd_ne (Ne.symm nDD)]
          exact e2
  obtain ⟨rs, s1, o1, no1, t1, l1, nd1, r1⟩ := hP
  have M0 : Mat H H' D rs n (initR rows) := ⟨s1, t1, l1, nd1, no1, ⟨nD, fun x hx => (o1 x hx).1⟩, r1⟩
  clear s1 o1 no1 t1 l1 nd1 r1
  refine ⟨_, rfl, n, rfl, by omega, by omega, ?_⟩
  rw [Int.toNat_natCast]
  refine for_rng (fun m σ H' => ∃ o3 o4 o5, σ = [some (.int n), some (.ref l), some (.ref D), o3, o4, o5, none] ∧ Mat H H' D rs n (warshTo n (initR rows) m)) ⟨_, _, _, rfl, M0⟩ (fun m σ H' hm hP => ?_) (fun σ H' hP => ?_)
  · obtain ⟨o3, o4, o5, rfl, M⟩ := hP
    refine ⟨_, rfl, n, rfl, by omega, by omega, ?_⟩
    rw [Int.toNat_natCast]
    refine for_rng (fun a σ H' => ∃ o3 o4, σ = [some (.int n), some (.ref l), some (.ref D), o3, o4, some (.int m), none] ∧ Mat H H' D rs n (wmid n m (warshTo n (initR rows) m) a)) ⟨_, _, rfl, M⟩ (fun a σ H' ha hP => ?_) (fun σ H' hP => ?_)
    · obtain ⟨o3, o4, rfl, M⟩ := hP
      obtain ⟨R, hR⟩ : ∃ R, R = wmid n m (warshTo n (initR rows) m) a := ⟨_, rfl⟩
      have hR1 : wmid n m (warshTo n (initR rows) m) (a + 1) = wrow n m a R := by rw [hR]; rfl
      rw [← hR] at M
      refine ⟨_, rfl, n, rfl, by omega, by omega, ?_⟩
      rw [Int.toNat_natCast]
      refine for_rng (fun y σ H' => ∃ o4, σ = [some (.int n), some (.ref l), some (.ref D), some (.int a), o4, some (.int m), none] ∧ Mat H H' D rs n (wcell m a R y)) ⟨_, rfl, M.ext fun x y _ _ => by simp [wcell]⟩ (fun y σ H' hy hP => ?_) (fun σ H' hP => ?_)
      · obtain ⟨o4, rfl, M⟩ := hP
        obtain ⟨x, hx⟩ : ∃ x, rs[a]? = some x := ⟨_, List.getElem?_eq_getElem (by rw [M.len]; exact ha)⟩
        obtain ⟨xm, hxm⟩ : ∃ x, rs[m]? = some x := ⟨_, List.getElem?_eq_getElem (by rw [M.len]; exact hm)⟩
        have atD : atI (rs.map V.ref) ((a : Nat) : Int) = some (.ref x) := atI_nat (by rw [List.getElem?_map, hx]; rfl)
        have atM : atI (rs.map V.ref) ((m : Nat) : Int) = some (.ref xm) := atI_nat (by rw [List.getElem?_map, hxm]; rfl)
        have eW1 : wcell m a R y a m = R a m := by
          unfold wcell
          generalize decide (m < y) = b1
          cases R a m <;> cases b1 <;> cases R m m <;> simp
        have eW2 : wcell m a R y m y = R m y := by
          unfold wcell
          have : decide (y < y) = false := by simp
          rw [this]
          simp
        have hT0 : ∀ u z, wcell m a R (y + 1) u z = (wcell m a R y u z || (decide (u = a) && (decide (z = y) && (R a m && R m y)))) := fun u z => by
          unfold wcell
          by_cases z1 : z = y
          · subst z1
            have e1 : decide (z < z) = false := by simp
            have e2 : decide (z < z + 1) = true := by simp
            rw [e1, e2]
            simp
          · have e1 : decide (z < y + 1) = decide (z < y) := by
              by_cases h : z < y
              · rw [decide_eq_true h, decide_eq_true (by omega)]
              · rw [decide_eq_false h, decide_eq_false (by omega)]
            have e2 : decide (z = y) = false := by simp [z1]
            rw [e1, e2]
            simp
        have hO : ∀ u z, u < n → z < n → (u ≠ a ∨ z ≠ y) → wcell m a R (y + 1) u z = wcell m a R y u z := fun u z _ _ h => by
          rw [hT0]
          rcases h with h | h
          · rw [decide_eq_false h]
            simp
          · rw [decide_eq_false h]
            simp
        have hT1 : wcell m a R (y + 1) a y = (wcell m a R y a y || (wcell m a R y a m && wcell m a R y m y)) := by
          rw [hT0, eW1, eW2]
          simp
        refine ⟨_, rfl, _, rfl, D, _, _, _, rfl, rfl, SqL.of M.top, atD, _, rfl, x, _, _, _, rfl, rfl, SqL.of (M.row a x hx), atI_nat (bls_at hy), _, rfl, iteB (fun c => ?_) (fun c => ?_)⟩
        · have hT : true = wcell m a R (y + 1) a y := by rw [hT1, c]; rfl
          refine ⟨_, rfl, _, rfl, D, _, _, _, rfl, rfl, SqL.of M.top, atD, _, rfl, x, _, _, y, rfl, rfl, M.row a x hx, ixN_of (by rw [bls_len]; exact hy), ?_⟩
          refine ⟨_, rfl, ?_⟩
          rw [show (V.bl true) = V.bl (wcell m a R (y + 1) a y) from by rw [hT]]
          exact M.set hx hy hO
        · refine ⟨_, rfl, _, rfl, D, _, _, _, rfl, rfl, SqL.of M.top, atD, _, rfl, x, _, _, _, rfl, rfl, SqL.of (M.row a x hx), atI_nat (bls_at hm), _, rfl, iteB (fun c1 => ?_) (fun c1 => ?_)⟩
          · have hT : wcell m a R y m y = wcell m a R (y + 1) a y := by rw [hT1, c, c1]; simp
            refine ⟨_, rfl, _, rfl, D, _, _, _, rfl, rfl, SqL.of M.top, atM, _, rfl, xm, _, _, _, rfl, rfl, SqL.of (M.row m xm hxm), atI_nat (bls_at hy), ?_⟩
            refine ⟨_, rfl, _, rfl, D, _, _, _, rfl, rfl, SqL.of M.top, atD, _, rfl, x, _, _, y, rfl, rfl, M.row a x hx, ixN_of (by rw [bls_len]; exact hy), ?_⟩
            refine ⟨_, rfl, ?_⟩
            rw [show (V.bl (wcell m a R y m y)) = V.bl (wcell m a R (y + 1) a y) from by rw [hT]]
            exact M.set hx hy hO
          · have hT : false = wcell m a R (y + 1) a y := by rw [hT1, c, c1]; rfl
            refine ⟨_, rfl, _, rfl, D, _, _, _, rfl, rfl, SqL.of M.top, atD, _, rfl, x, _, _, y, rfl, rfl, M.row a x hx, ixN_of (by rw [bls_len]; exact hy), ?_⟩
            refine ⟨_, rfl, ?_⟩
            rw [show (V.bl false) = V.bl (wcell m a R (y + 1) a y) from by rw [hT]]
            exact M.set hx hy hO
      · obtain ⟨o4, rfl, M⟩ := hP
        exact ⟨_, _, rfl, M.ext fun x y _ _ => by rw [hR1]; rfl⟩
    · obtain ⟨o3, o4, rfl, M⟩ := hP
      exact ⟨_, _, _, rfl, M⟩
  obtain ⟨o3, o4, o5, rfl, M⟩ := hP
  clear M0
  -- the pairs, in order
  obtain ⟨W, hW⟩ : ∃ W, W = warsh n (initR rows) := ⟨_, rfl⟩
  have M : Mat H H' D rs n W := by rw [hW]; exact M
  have hcl : closedL n rows = pairsTo n W n := by rw [hW]; rfl
  refine ⟨Nat.zero_le _, fun fl nfl => ?_⟩
  refine ⟨_, rfl, n, rfl, by omega, by omega, ?_⟩
  rw [Int.toNat_natCast]
  refine for_rng (fun a σ H' => ∃ o3 o4 fl ys, σ = [some (.int n), some (.ref l), some (.ref D), o3, o4, o5, some (.ref fl)] ∧ Mat H H' D rs n W ∧ H fl = none ∧ H' fl = some (.lst ys) ∧ DqAll H' ys ((pairsTo n W a).map tupD)) ⟨_, _, fl, [], rfl, M.new nfl, ?_, upd_same, .nil⟩ (fun a σ H' ha hP => ?_) (fun σ H' hP => ?_)
  · cases z : H fl with
    | none => rfl
    | some o => rw [M.same _ _ z] at nfl; cases nfl
  · clear nfl M
    obtain ⟨o3, o4, fl, ys, rfl, M, nflH, hfl, hys⟩ := hP
    obtain ⟨x, hx⟩ : ∃ x, rs[a]? = some x := ⟨_, List.getElem?_eq_getElem (by rw [M.len]; exact ha)⟩
    have atD : atI (rs.map V.ref) ((a : Nat) : Int) = some (.ref x) := atI_nat (by rw [List.getElem?_map, hx]; rfl)
    have hyl : ys.length ≤ 16 := by
      have e1 := hys.length
      rw [List.length_map] at e1
      have e2 := length_pairsTo n W a
      have e3 : a * n ≤ 4 * 4 := Nat.mul_le_mul (by omega) h2
      omega
    refine ⟨_, rfl, _, rfl, n, rfl, by omega, by omega, fun D2 nD2 => ?_⟩
    rw [Int.toNat_natCast]
    refine lc_rng (fun j H2 => ∃ acc, (∀ b o, b ≠ D2 → H' b = some o → H2 b = some o) ∧ H2 D2 = some (.lst acc) ∧ DqAll H2 acc (((((List.range j).filter fun b => W a b).map (row2 a))).map tupD)) ⟨[], fun b o hb e => by rw [upd_ne hb]; exact e, upd_same, .nil⟩ (fun j H2 hj hP2 => ?_) (fun H2 hP2 => ?_)
    · obtain ⟨acc, k2, e2, d2⟩ := hP2
      have k3 : ∀ b o, b ≠ D2 → H' b = some o → H2 b = some o := k2
      have e3 : H2 D = some (.lst (rs.map V.ref)) := k2 _ _ (ne_of_none M.top nD2) M.top
      have e4 : H2 x = some (.lst (bls n (W a))) := k2 _ _ (ne_of_none (M.row a x hx) nD2) (M.row a x hx)
      have la : acc.length ≤ 4 := by
        have z := d2.length
        rw [List.length_map, List.length_map] at z
        have z2 := List.length_filter_le (fun b => W a b) (List.range j)
        rw [List.length_range] at z2
        omega
      refine ⟨rfl, _, rfl, _, rfl, D, _, _, _, rfl, rfl, SqL.of e3, atD, _, rfl, x, _, _, _, rfl, rfl, SqL.of e4, atI_nat (bls_at hj), _, rfl, iteB (fun c => ?_) (fun c => ?_)⟩
      · refine ⟨_, rfl, _, rfl, (by show 2 ≤ sizeLine; decide), fun t nt => ?_⟩
        have tD : t ≠ D2 := fun z => by rw [z, e2] at nt; cases nt
        have s3 : Same H2 (upd H2 t (.tup [.int a, .int j])) := same_new nt
        refine ⟨acc, s3 _ _ e2, Nat.lt_of_le_of_lt (show acc.length ≤ 4 from la) (by decide), acc ++ [.ref t], fun b o hb e => ?_, upd_same, ?_⟩
        · rw [upd_ne hb]
          exact s3 _ _ (k2 b o hb e)
        · rw [List.range_succ, List.filter_append, List.map_append, List.map_append]
          have ef : List.filter (fun b => W a b) [j] = [j] := by simp [c]
          rw [ef]
          have keep : ∀ b ys, upd H2 t (.tup [.int a, .int j]) b = some (.tup ys) → upd (upd H2 t (.tup [.int a, .int j])) D2 (.lst (acc ++ [.ref t])) b = some (.tup ys) := fun b ys e => by
            rw [upd_ne (fun z => by rw [z, upd_ne (Ne.symm tD), e2] at e; cases e)]
            exact e
          refine DqAll.append ?_ (.cons (d := tupD (row2 a j)) (.tup (keep _ _ upd_same) (DqAll.ints (row2 a j))) .nil)
          rw [List.map_map] at d2 ⊢
          have d3 : DqAll (upd H2 t (.tup [.int a, .int j])) acc (((List.range j).filter fun b => W a b).map (tupD ∘ row2 a)) := d2.mono s3
          rw [← List.map_map] at d3 ⊢
          exact d3.rows keep
      · refine ⟨acc, k2, e2, ?_⟩
        rw [List.range_succ, List.filter_append]
        have ef : List.filter (fun b => W a b) [j] = [] := by simp [c]
        rw [ef, List.append_nil]
        exact d2
    · obtain ⟨acc, k2, e2, d2⟩ := hP2
      have la : acc.length ≤ 4 := by
        have z := d2.length
        rw [List.length_map, List.length_map] at z
        have z2 := List.length_filter_le (fun b => W a b) (List.range n)
        rw [List.length_range] at z2
        omega
      have nDH : H D2 = none := by
        cases z : H D2 with
        | none => rfl
        | some o => rw [M.same _ _ z] at nD2; cases nD2
      have s2 : Same H' H2 := fun b o e => k2 b o (ne_of_none e nD2) e
      have M2 : Mat H H2 D rs n W := ⟨M.same.trans s2, s2 _ _ M.top, M.len, M.nd, M.no, M.off, fun a x e => s2 _ _ (M.row a x e)⟩
      refine ⟨fl, D2, ys, acc, rfl, rfl, s2 _ _ hfl, e2, Nat.le_trans (show ys.length + acc.length ≤ 20 by omega) (by decide), fun f2 nf2 => ?_⟩
      refine ⟨_, _, f2, ys ++ acc, rfl, M2.new nf2, ?_, upd_same, ?_⟩
      · cases z : H f2 with
        | none => rfl
        | some o => rw [M2.same _ _ z] at nf2; cases nf2
      · have ep : pairsTo n W (a + 1) = pairsTo n W a ++ pairsAt n W a := by
          unfold pairsTo
          rw [List.range_succ, List.flatMap_append]
          simp
        rw [ep, List.map_append]
        exact (hys.mono (s2.trans (same_new nf2))).append (DqAll.mono (same_new nf2) d2)
  · obtain ⟨o3, o4, fl, ys, rfl, M, nflH, hfl, hys⟩ := hP
    rw [← hcl] at hys
    exact ⟨_, rfl, q fl ys H' hys M.same nflH hfl⟩
theorem bd_law_closed {K : PySem.W.Frag} {mg : Str → Option Value} (T : Txt K mg) : Binds K (fdAt K (ga K "_law_closed")) ["_law_many", "_law_some"] [] := T.f_law_closed.bindsN fun _ _ _ _ _ _ us hl => match us, hl with | [_, _], _ => rfl
theorem c_law_closed {X : Cx} {e : Expr} {es : List Expr} {t : TA} {p pos : Pos} (T : Txt X.K X.mg) (hr : Room 1 X.A) (ha : PA X (e :: es) t) (hg : Gl X "_law_closed" := by rfl) (he : starEach (e :: es) X.env = (false, eval e X.env) :: starEach es X.env := by rfl) (hpl : (backTo pos (starEach es X.env)).any (·.1) = false := by rfl) :
    PE X (.Call (.Name "_law_closed" p) (e :: es) [] pos) (tCall (spLClosed) [] E0 t) := pe_call (ok_law_closed T) hr hg T.g_law_closed T.f_law_closed.kp (bd_law_closed T) .nil pass0 ha (by decide) he hpl
end
end K57
/-! L5 -/
namespace K57
open PySem PySem.Spec PyProof.Rows L2 He
theorem ifS_cut {b : Prop} [Decidable b] {ta tb : TS} {D : Ends} {σ : L2.St} {H : Hp} (R : L2.St → Hp → Prop) (h : ∀ σ H, R σ H → D.nx σ H) (hA : (∀ σ H, R σ H → D.nx σ H) → b → ta D σ H) (hB : (∀ σ H, R σ H → D.nx σ H) → ¬b → tb D σ H) : if b then ta D σ H else tb D σ H := by
  by_cases z : b
  · rw [if_pos z]
    exact hA h z
  · rw [if_neg z]
    exact hB h z
/-- the steps so far -/
def SInv (H : Hp) (bx fl : Addr) (n : Nat) (f : Int) (c : Nat) (H' : Hp) : Prop := ∃ (rows : List (List Int)) (ys : List V), Sb bx H H' ∧ H fl = none ∧ fl ≠ bx ∧ H' fl = some (.lst ys) ∧ DqAll H' ys (rows.map tupD) ∧ (∀ r ∈ rows, StepRow n r) ∧ rows.length ≤ c ∧ Box H' bx (f - c)
theorem SInv.le {H : Hp} {bx fl : Addr} {n : Nat} {f : Int} {c d : Nat} {H' : Hp} (h : SInv H bx fl n f c H') (l : c ≤ d) : SInv H bx fl n f d H' := by
  obtain ⟨rows, ys, h1, h2, h3, h4, h5, h6, h7, h8⟩ := h
  exact ⟨rows, ys, h1, h2, h3, h4, h5, h6, by omega, h8.le (by omega)⟩
theorem SInv.draw {H : Hp} {bx fl : Addr} {n : Nat} {f : Int} {c : Nat} {H' H2 : Hp} (h : SInv H bx fl n f c H') (hu : ∃ o, H2 = upd H' bx o) (hb : Box H2 bx (f - c - 1)) : SInv H bx fl n f (c + 1) H2 := by
  obtain ⟨rows, ys, h1, h2, h3, h4, h5, h6, h7, h8⟩ := h
  have s := Sb.box hu
  exact ⟨rows, ys, h1.trans s, h2, h3, s _ _ h3 h4, h5.rows (tups_box h8 s), h6, by omega, hb.le (by omega)⟩
theorem SInv.app {H : Hp} {bx fl t : Addr} {n : Nat} {f : Int} {c : Nat} {H' : Hp} {x y : Int} (h : SInv H bx fl n f c H') (hc : c ≤ 100) (nt : H' t = none) (hr : StepRow n [x, y]) :
    ∃ ys, H' fl = some (.lst ys) ∧ t ≠ fl ∧ ys.length < sizeLine ∧ SInv H bx fl n f (c + 1) (upd (upd H' t (.tup [.int x, .int y])) fl (.lst (ys ++ [.ref t]))) := by
  obtain ⟨rows, ys, h1, h2, h3, h4, h5, h6, h7, h8⟩ := h
  have tf : t ≠ fl := fun z => by rw [z, h4] at nt; cases nt
  have tb : t ≠ bx := h8.ne nt
  have hl : ys.length = rows.length := by
    have := h5.length
    rw [List.length_map] at this
    exact this
  have keep : ∀ b zs, H' b = some (.tup zs) → upd (upd H' t (.tup [.int x, .int y])) fl (.lst (ys ++ [.ref t])) b = some (.tup zs) := fun b zs e => by
    rw [upd_ne (fun z => by rw [z, h4] at e; cases e), upd_ne (ne_of_none e nt)]
    exact e
  refine ⟨ys, h4, tf, Nat.lt_of_le_of_lt (show ys.length ≤ 100 by omega) (by decide), rows ++ [[x, y]], ys ++ [.ref t], fun b o n e => ?_, h2, h3, upd_same, ?_, fun r hr' => ?_, by rw [List.length_append, List.length_singleton]; omega, ?_⟩
  · rw [upd_ne (ne_of_none e h2), upd_ne (ne_of_none (h1 _ _ n e) nt)]
    exact h1 _ _ n e
  · rw [List.map_append]
    refine (h5.rows keep).append (.cons (d := tupD [x, y]) (.tup ?_ (DqAll.ints [x, y])) .nil)
    rw [upd_ne tf, upd_same]
    rfl
  · rcases List.mem_append.mp hr' with hr' | hr'
    · exact h6 r hr'
    · rw [List.mem_singleton.mp hr']
      exact hr
  · exact ((h8.put tb).put h3).le (by omega)
theorem step_row {n : Nat} {x y : Int} (h0 : 0 ≤ x) (h1 : x < y) (h2 : y < n) : StepRow n [x, y] := by
  refine ⟨x.toNat, y.toNat, by omega, by omega, ?_⟩
  unfold row2
  rw [Int.toNat_of_nonneg h0, Int.toNat_of_nonneg (by omega)]
theorem or_val {c : Bool} {tb : TE} {σ : L2.St} {H : Hp} {Q : VK} (h : ∀ k, Q (.bl k) H) (hb : (∀ k, Q (.bl k) H) → tb σ H Q) : if c = true then Q (.bl true) H else tb σ H Q := by
  cases c
  · exact iteF (hb h)
  · exact iteT (h true)
theorem step_mod {n : Nat} {a b : Int} (h1 : 2 ≤ n) (h2 : n ≤ 4) (a0 : 0 ≤ a) (a1 : a < n) (b0 : 0 ≤ b) (b1 : b < (n : Int) - 1) :
    StepRow n [if (a + 1 + b).fmod n < a then (a + 1 + b).fmod n else a, if (a + 1 + b).fmod n > a then (a + 1 + b).fmod n else a] := by
  have e : (a + 1 + b).fmod n = (a + 1 + b) % n := Int.fmod_eq_emod_of_nonneg _ (by omega)
  rw [e]
  have hn : n = 2 ∨ n = 3 ∨ n = 4 := by omega
  rcases hn with rfl | rfl | rfl
  · have : (a + 1 + b) % ((2 : Nat) : Int) ≠ a := by omega
    refine step_row ?_ ?_ ?_ <;> split <;> (try split) <;> omega
  · have : (a + 1 + b) % ((3 : Nat) : Int) ≠ a := by omega
    refine step_row ?_ ?_ ?_ <;> split <;> (try split) <;> omega
  · have : (a + 1 + b) % ((4 : Nat) : Int) ≠ a := by omega
    refine step_row ?_ ?_ ?_ <;> split <;> (try split) <;> omega
section
variable {P : Program} {w : World} {K : PySem.W.Frag} {mg : Str → Option Value} {base : Heap}
def spSteps : Sp := fun vs H Q _ => ∃ (bx : Addr) (n : Nat) (f : Int), vs = [.ref bx, .int n, .int 5] ∧ 2 ≤ n ∧ n ≤ 4 ∧ 40 ≤ f ∧ Box H bx f ∧
  ∀ (p : Addr) (ys : List V) (rows : List (List Int)) (H1 : Hp), (∀ r ∈ rows, StepRow n r) → rows.length ≤ 32 → DqAll H1 ys (rows.map tupD) → Sb bx H H1 → H p = none → p ≠ bx → H1 p = some (.lst ys) → Box H1 bx (f - 40) → Q (.ref p) H1
theorem sc_law_steps : FnScope ["_law_box_here", "_law_many", "_law_most", "_law_found", "_law_way", "_law_last", "_law_a", "_law_turn", "_law_b"] ["_law_box_here", "_law_many", "_law_most"] (defScope sLawSteps) := ⟨rfl, rfl, rfl, by decide +kernel, rfl, by decide +kernel, by decide +kernel⟩
theorem ok_law_steps (T : Txt K mg) : FnOk P w K mg base CX0 2 (ga K "_law_steps") (fdAt K (ga K "_law_steps")) ["_law_box_here", "_law_many", "_law_most"] spSteps := by
  refine T.f_law_steps.ok sc_law_steps (fun vs H Q E h => ?_) (fun cdv A outer s H vs Q E hr h => ?_)
  · obtain ⟨bx, n, f, rfl, _⟩ := h
    rfl
  obtain ⟨bx, n, f, rfl, h1, h2, hf, hbx, q⟩ := h
  refine ⟨_, PSs.nox (pss_cons (ps_asg (pe_tup (pa_cons (pe_lst pa_nil) (pa_cons (c_law_take T (hr.mono (by decide)) (pa_cons (pv 0) (pa_cons pe_int pa_nil))) pa_nil))) (pg_tup (by rfl) (pgs_cons (pg_name (i := 3) sc_law_steps.nd rfl (Or.inl rfl)) (pgs_cons (pg_name (i := 4) sc_law_steps.nd rfl (Or.inr rfl)) pgs_nil))))
    (pss_cons (ps_if (pt_cmpR op_gt (pv 4) pe_int (nomark _)) (pss_one (ps_for PassesOwn.never rfl (pi_range3 (by rfl) T.z_range (pa_cons (pe_op op_sub (pv 1) pe_int) (pa_cons pe_int (pa_cons (pe_un un_neg pe_int) pa_nil)))) (pg_name (i := 5) sc_law_steps.nd rfl (Or.inl rfl)) (pss_one (ps_set (i := 3) sc_law_steps.nd rfl (Or.inl rfl) (pe_op op_cat (pv 3) (pe_lc (own := [("_law_a", 6)]) rfl sc_law_steps.nd (pi_range1 (by rfl) T.z_range (pa_cons (pv 5) pa_nil)) (blkOk_by (N := ["_law_box_here", "_law_many", "_law_most", "_law_found", "_law_way", "_law_last", "_law_a", "_law_turn", "_law_b"]) (sc := defScope sLawSteps) (by decide +kernel)) (fun _ _ _ _ _ => pg_name (i := 6) sc_law_steps.nd rfl (Or.inl rfl)) (fun _ _ _ _ _ => (pts_one (pt_cmpR op_ge (c_law_take T (hr.mono (by decide)) (pa_cons (pv 0) (pa_cons pe_int pa_nil))) (pe_op op_sub pe_int (pv 4)) (nomark _)))) (fun _ _ _ _ _ => (pe_tup (pa_cons (pv 6) (pa_cons (pe_op op_add (pv 6) pe_int) pa_nil)))))))))) pss_nil)
    (pss_cons (ps_for PassesOwn.never rfl (pi_range1 (by rfl) T.z_range (pa_cons (pe_op op_mul (pe_op op_mul (c_law_take T (hr.mono (by decide)) (pa_cons (pv 0) (pa_cons (pe_op op_add (pv 2) pe_int) pa_nil))) (t_int call_int1 T (pa_cons (pe_cmpR op_gt (pv 1) pe_int (nomark _)) pa_nil))) (t_int call_int1 T (pa_cons (pe_or (pe_cmpR op_lt (pv 4) pe_int (nomark _)) (pe_one (pe_cmpR op_eq (pv 4) pe_int (nomark _)))) pa_nil))) pa_nil)) (pg_name (i := 7) sc_law_steps.nd rfl (Or.inl rfl)) (pss_cons (ps_par (i := 6) (j := 8) (by rfl) sc_law_steps.nd rfl rfl (by decide) rfl rfl (pa_cons (c_law_take T (hr.mono (by decide)) (pa_cons (pv 0) (pa_cons (pv 1) pa_nil))) (pa_cons (pe_ifExp (pt_cmpR op_gt (pv 1) pe_int (nomark _)) (c_law_take T (hr.mono (by decide)) (pa_cons (pv 0) (pa_cons (pe_op op_sub (pv 1) pe_int) pa_nil))) pe_int) pa_nil)) (by rfl))
    (pss_one (ps_expr (pe_bm PySem.F.plainAttrs_list PySem.F.slot_list_append PySem.F.type_list_append mt_append (pv 3) (pa_cons (pe_tup (pa_cons (b_min (call_min2 rfl) T (pa_cons (pv 6) (pa_cons (pe_op op_modN (pe_op op_add (pe_op op_add (pv 6) pe_int) (pv 8)) (pv 1)) pa_nil))) (pa_cons (b_max (call_max2 rfl) T (pa_cons (pv 6) (pa_cons (pe_op op_modN (pe_op op_add (pe_op op_add (pv 6) pe_int) (pv 8)) (pv 1)) pa_nil))) pa_nil))) pa_nil))))))
    (pss_one (ps_ret (pv 3)))))), ?_⟩
  refine ⟨Nat.zero_le _, fun fl nfl => ⟨_, rfl, bx, 4, f, rfl, by decide, by decide, by omega, hbx.new nfl, fun way H1 w0 w1 u1 b1 => ⟨by show 2 ≤ sizeLine; decide, fun t nt => ⟨t, _, rfl, SqT.of upd_same, rfl, ?_⟩⟩⟩⟩
  have flb : fl ≠ bx := hbx.ne nfl
  have ef : H1 fl = some (.lst []) := Sb.box u1 _ _ flb upd_same
  have P0 : SInv H bx fl n f 1 (upd H1 t (.tup [.ref fl, .int way])) := ⟨[], [], ((Same.sb (same_new nfl)).trans (Sb.box u1)).new nt, nfl, flb, by rw [upd_ne (ne_of_none ef nt)]; exact ef, .nil, (fun r hr => nomatch hr), Nat.zero_le _, (b1.new nt).le (by omega)⟩
  refine ⟨_, _, rfl, _, _, rfl, rfl, ?_⟩
  refine ⟨_, rfl, _, _, rfl, rfl, _, rfl, ?_⟩
  refine ifS_cut (fun σ H' => ∃ o5 o6 fl, σ = [some (.ref bx), some (.int n), some (.int 5), some (.ref fl), some (.int way), o5, o6, none, none] ∧ SInv H bx fl n f 10 H') ?_ (fun k _ => ?_) (fun k _ => k _ _ ⟨_, _, fl, rfl, P0.le (by omega)⟩)
  rotate_left
  · refine ⟨_, rfl, _, _, rfl, rfl, _, rfl, _, _, _, _, rfl, RgC.neg (by omega) (by omega) (by omega) (by omega), ?_⟩
    refine for_rangeC (fun i σ H' => ∃ o5 o6 fl, σ = [some (.ref bx), some (.int n), some (.int 5), some (.ref fl), some (.int way), o5, o6, none, none] ∧ SInv H bx fl n f (1 + 3 * i) H') ⟨_, _, fl, rfl, P0⟩ (fun i σ H' hi hP => ?_) (fun σ H' hP => ?_)
    · clear P0 ef flb nfl nt
      obtain ⟨o5, o6, fl, rfl, hP⟩ := hP
      obtain ⟨rows, ys, i1, i2, i3, i4, i5, i6, i7, i8⟩ := hP
      obtain ⟨m, hm⟩ : ∃ m : Nat, ((n : Int) - 1 + (i : Int) * (-1)) = m := ⟨((n : Int) - 1 + (i : Int) * (-1)).toNat, by omega⟩
      have hm4 : m ≤ 3 := by omega
      have hmn : m < n := by omega
      rw [hm]
      refine ⟨_, rfl, _, rfl, _, rfl, by omega, by omega, fun D2 nD2 => ?_⟩
      rw [Int.toNat_natCast]
      have nDb := i8.ne nD2
      refine lc_rng (fun j H2 => ∃ (rws : List (List Int)) (acc : List V), (∀ b o, b ≠ D2 → b ≠ bx → H' b = some o → H2 b = some o) ∧ H2 D2 = some (.lst acc) ∧ DqAll H2 acc (rws.map tupD) ∧ (∀ r ∈ rws, StepRow n r) ∧ rws.length ≤ j ∧ Box H2 bx (f - ((1 + 3 * i + j : Nat) : Int)))
        ⟨[], [], fun b o hb _ e => by rw [upd_ne hb]; exact e, upd_same, .nil, (fun r hr => nomatch hr), Nat.le_refl _, i8.new nD2⟩ (fun j H2 hj hP2 => ?_) (fun H2 hP2 => ?_)
      · obtain ⟨rws, acc, k2, e2, d2, r2, l2, b2⟩ := hP2
        refine ⟨rfl, ?_⟩
        refine ⟨_, rfl, bx, 8, _, rfl, by decide, by decide, by omega, b2, fun d H3 d0 d1 u3 b3 => ?_⟩
        have s3 := Sb.box u3
        have tb := tups_box b2 s3
        have e3 := s3 _ _ nDb e2
        have k3 : ∀ b o, b ≠ D2 → b ≠ bx → H' b = some o → H3 b = some o := fun b o h1 h2 e => s3 _ _ h2 (k2 b o h1 h2 e)
        have la : acc.length ≤ 4 := by
          have z := d2.length
          rw [List.length_map] at z
          omega
        refine ⟨_, rfl, _, _, rfl, rfl, _, _, rfl, rfl, _, rfl, iteB (fun _ => ?_) (fun _ => ?_)⟩
        · refine ⟨_, rfl, _, rfl, _, _, rfl, rfl, (by show 2 ≤ sizeLine; decide), fun t2 nt2 => ?_⟩
          have tD : t2 ≠ D2 := fun z => by rw [z, e3] at nt2; cases nt2
          have sn : Same H3 (upd H3 t2 (.tup [.int j, .int (j + 1)])) := same_new nt2
          have keep : ∀ b zs, H3 b = some (.tup zs) → upd (upd H3 t2 (.tup [.int j, .int (j + 1)])) D2 (.lst (acc ++ [.ref t2])) b = some (.tup zs) := fun b zs e => by
            rw [upd_ne (fun z => by rw [z, e3] at e; cases e)]
            exact sn _ _ e
          refine ⟨acc, sn _ _ e3, Nat.lt_of_le_of_lt (show acc.length ≤ 4 from la) (by decide), rws ++ [[(j : Int), (j : Int) + 1]], acc ++ [.ref t2], fun b o h1 h2 e => ?_, upd_same, ?_, fun r hr' => ?_, by rw [List.length_append, List.length_singleton]; omega, ((b3.new nt2).put nDb).le (by omega)⟩
          · rw [upd_ne h1]
            exact sn _ _ (k3 b o h1 h2 e)
          · rw [List.map_append]
            refine ((d2.rows tb).rows keep).append (.cons (d := tupD [(j : Int), (j : Int) + 1]) (.tup ?_ (DqAll.ints [(j : Int), (j : Int) + 1])) .nil)
            rw [upd_ne tD, upd_same]
            rfl
          · rcases List.mem_append.mp hr' with hr' | hr'
            · exact r2 r hr'
            · rw [List.mem_singleton.mp hr']
              exact step_row (by omega) (by omega) (by omega)
        · exact ⟨rws, acc, k3, e3, d2.rows tb, r2, by omega, b3.le (by omega)⟩
      · obtain ⟨rws, acc, k2, e2, d2, r2, l2, b2⟩ := hP2
        have hl : ys.length = rows.length := by
          have := i5.length
          rw [List.length_map] at this
          exact this
        have la : acc.length = rws.length := by
          have := d2.length
          rw [List.length_map] at this
          exact this
        have fD : fl ≠ D2 := fun z => by rw [z] at i4; rw [i4] at nD2; cases nD2
        have e4 : H2 fl = some (.lst ys) := k2 _ _ fD i3 i4
        refine ⟨fl, D2, ys, acc, rfl, rfl, e4, e2, Nat.le_trans (show ys.length + acc.length ≤ 100 by omega) (by decide), fun f2 nf2 => ?_⟩
        have f2b : f2 ≠ bx := b2.ne nf2
        have sb2 : Sb bx H H2 := fun b o nb e => k2 b o (ne_of_none (i1 _ _ nb e) nD2) nb (i1 _ _ nb e)
        have keep : ∀ b zs, H' b = some (.tup zs) → H2 b = some (.tup zs) := fun b zs e => k2 b _ (ne_of_none e nD2) (fun z => by
          obtain ⟨x1, x2, x3, x4, _⟩ := i8
          rw [z, x4] at e
          cases e) e
        refine ⟨_, _, f2, rfl, rows ++ rws, ys ++ acc, sb2.new nf2, sb2.free f2b nf2, f2b, upd_same, ?_, fun r hr' => ?_, by rw [List.length_append]; omega, (b2.new nf2).le (by omega)⟩
        · rw [List.map_append]
          exact (DqAll.mono (same_new nf2) (i5.rows keep)).append (DqAll.mono (same_new nf2) d2)
        · rcases List.mem_append.mp hr' with hr' | hr'
          · exact i6 r hr'
          · exact r2 r hr'
    · obtain ⟨o5, o6, fl, rfl, hP⟩ := hP
      exact k _ _ ⟨_, _, fl, rfl, hP.le (by omega)⟩
  clear P0 ef flb nfl nt
  rintro σ H' ⟨o5, o6, fl, rfl, hP⟩
  have hb := hP
  obtain ⟨_, _, _, _, flb, _, _, _, _, hb⟩ := hb
  refine ⟨_, rfl, _, rfl, _, _, rfl, rfl, bx, 6, _, rfl, by decide, by decide, by omega, hb, fun tn H2 t0 t1 u2 b2 => ?_⟩
  have P2 := hP.draw u2 b2
  refine ⟨_, rfl, _, _, rfl, rfl, .inr ⟨_, rfl, _, _, rfl, rfl, .inl ⟨by omega, by omega⟩, ?_⟩⟩
  refine ⟨_, rfl, _, _, rfl, rfl, _, rfl, ?_⟩
  refine or_val (fun k => ?_) (fun k => ⟨_, rfl, rfl, k _⟩)
  have two : ∀ b : Bool, (if b = true then (1 : Int) else 0) = 0 ∨ (if b = true then (1 : Int) else 0) = 1 := fun b => by cases b <;> simp
  refine .inr ⟨_, rfl, _, _, rfl, rfl, .inl ⟨?_, ?_⟩, ?_⟩
  · rcases two (decide (1 < (n : Int))) with z | z <;> rw [z] <;> omega
  · rcases two (decide (1 < (n : Int))) with z | z <;> rw [z] <;> omega
  obtain ⟨m, hm, hm5⟩ : ∃ m : Nat, tn * (if decide (1 < (n : Int)) = true then 1 else 0) * (if k = true then 1 else 0) = (m : Int) ∧ m ≤ 5 := by
    rcases two (decide (1 < (n : Int))) with z | z <;> rw [z] <;> rcases two k with z2 | z2 <;> rw [z2]
    · exact ⟨0, by omega, by omega⟩
    · exact ⟨0, by omega, by omega⟩
    · exact ⟨0, by omega, by omega⟩
    · exact ⟨tn.toNat, by omega, by omega⟩
  refine ⟨_, rfl, by omega, by omega, ?_⟩
  rw [hm, Int.toNat_natCast]
  refine for_rng (fun i σ H' => ∃ o6 o7 o8, σ = [some (.ref bx), some (.int n), some (.int 5), some (.ref fl), some (.int way), o5, o6, o7, o8] ∧ SInv H bx fl n f (11 + 3 * i) H') ⟨_, _, _, rfl, P2⟩ (fun i σ H' hi hP => ?_) (fun σ H' hP => ?_)
  · clear P2 b2 u2 hb hm two k
    obtain ⟨o6, o7, o8, rfl, hP⟩ := hP
    have hb := hP
    obtain ⟨_, _, _, _, _, _, _, _, _, hb⟩ := hb
    refine ⟨_, rfl, _, rfl, bx, n, _, rfl, by omega, by omega, by omega, hb, fun a H3 a0 a1 u3 b3 => ?_⟩
    have P3 := hP.draw u3 b3
    refine ⟨_, rfl, _, _, rfl, rfl, _, rfl, iteT' (decide_eq_true (by omega)) ?_⟩
    refine ⟨_, rfl, _, rfl, _, _, rfl, rfl, bx, (n : Int) - 1, _, rfl, by omega, by omega, by omega, b3, fun b H4 b0 b1 u4 b4 => ?_⟩
    have P4 := P3.draw u4 (b4.le (by omega))
    have hb4 := P4
    obtain ⟨rows, ys, _, _, _, hfl, _, _, _, _⟩ := hb4
    refine ⟨_, _, rfl, ?_⟩
    refine ⟨_, rfl, .inl ⟨rfl, ys, SqL.of hfl⟩, ?_⟩
    refine ⟨_, rfl, _, rfl, _, _, rfl, rfl, _, rfl, _, _, rfl, rfl, _, rfl, _, _, rfl, rfl, (show (n : Int) ≠ 0 by omega), _, _, rfl, ?_⟩
    refine ⟨_, rfl, _, rfl, _, _, rfl, rfl, _, rfl, _, _, rfl, rfl, _, rfl, _, _, rfl, rfl, (show (n : Int) ≠ 0 by omega), _, _, rfl, ?_⟩
    refine ⟨by show 2 ≤ sizeLine; decide, fun t nt => ?_⟩
    have hr := step_mod (n := n) h1 h2 a0 a1 b0 b1
    obtain ⟨ys', e1, e2, e3, e4⟩ := P4.app (by omega) nt hr
    refine ⟨fl, ys', .ref t, rfl, rfl, (by rw [upd_ne (Ne.symm e2)]; exact e1), e3, ?_⟩
    exact ⟨_, _, _, rfl, e4.le (by omega)⟩
  · obtain ⟨o6, o7, o8, rfl, hP⟩ := hP
    obtain ⟨rows, ys, i1, i2, i3, i4, i5, i6, i7, i8⟩ := hP
    exact ⟨_, rfl, q fl ys rows H' i6 (by omega) i5 i1 i2 i3 i4 (i8.le (by omega))⟩
theorem bd_law_steps {K : PySem.W.Frag} {mg : Str → Option Value} (T : Txt K mg) : Binds K (fdAt K (ga K "_law_steps")) ["_law_box_here", "_law_many", "_law_most"] [] := T.f_law_steps.bindsN fun _ _ _ _ _ _ us hl => match us, hl with | [_, _, _], _ => rfl
theorem c_law_steps {X : Cx} {e : Expr} {es : List Expr} {t : TA} {p pos : Pos} (T : Txt X.K X.mg) (hr : Room 2 X.A) (ha : PA X (e :: es) t) (hg : Gl X "_law_steps" := by rfl) (he : starEach (e :: es) X.env = (false, eval e X.env) :: starEach es X.env := by rfl) (hpl : (backTo pos (starEach es X.env)).any (·.1) = false := by rfl) :
    PE X (.Call (.Name "_law_steps" p) (e :: es) [] pos) (tCall (spSteps) [] E0 t) := pe_call (ok_law_steps T) hr hg T.g_law_steps T.f_law_steps.kp (bd_law_steps T) .nil pass0 ha (by decide) he hpl
end
end K57
/-! L6 -/
namespace K57
open PySem PySem.Spec PyProof.Rows L2 He
theorem un0 {k : Nat} {A : Around} (r : Room k A) : A.units < cLine := by
  have := r.un
  omega
theorem pi_listK {X : Cx} {K : PySem.W.Frag} {tg e : Expr} {te : TE} (h : X.K = K) (he : PE X e te) : PI X tg e (iList K te) := by
  subst h
  exact pi_list he
theorem pg_tupK {X : Cx} {K : PySem.W.Frag} {es : List Expr} {k : Nat} {t : TGs} {n : Nat} {pos : Pos} (hK : X.K = K) (hc : X.calm = true) (h : PGs X es t)
    (hn : (assignEach es X.env).length = n := by rfl) (hst : (assignEach es X.env).findIdx? (·.1) = none := by rfl) : PG X (.Tuple es k pos) (gTup K n t) := by
  subst hK
  exact pg_tup hc h hn hst
/-- the lines given out so far -/
structure LInv (n : Nat) (far c : Int) (k : Nat) (vals L : List Int) : Prop where
  vl : vals.length = n
  ll : L.length + k = n
  nd : L.Nodup
  mem : ∀ x ∈ L, 0 ≤ x ∧ x < n
  own : ∀ i : Nat, i < n → (i : Int) ∉ L → ∃ t : Nat, t < k ∧ vals[i]? = some ((t : Int) * far - c)
  ne : ∀ i j : Nat, i < n → j < n → i ≠ j → (i : Int) ∉ L → (j : Int) ∉ L → vals[i]? ≠ vals[j]?
theorem mem_eraseIdx_nd {L : List Int} (nd : L.Nodup) {d : Nat} {x y : Int} (hd : L[d]? = some x) : y ∈ L.eraseIdx d ↔ y ∈ L ∧ y ≠ x := by
  obtain ⟨hlt, hx⟩ := List.getElem?_eq_some_iff.mp hd
  have p := perm_erase L d hlt
  rw [hx] at p
  have nd2 : ([x] ++ L.eraseIdx d).Nodup := p.symm.nodup nd
  have hnx : x ∉ L.eraseIdx d := (List.nodup_cons.mp nd2).1
  constructor
  · intro h
    exact ⟨p.mem_iff.mp (List.mem_append_right _ h), fun z => hnx (z ▸ h)⟩
  · rintro ⟨h, hne⟩
    rcases List.mem_append.mp (p.mem_iff.mpr h) with z | z
    · exact absurd (List.mem_singleton.mp z) hne
    · exact z
theorem LInv.start {n : Nat} {far c : Int} : LInv n far c 0 (List.replicate n 0) ((List.range n).map fun i => ((i : Nat) : Int)) where
  vl := List.length_replicate
  ll := by simp
  nd := rg_nodup n
  mem := rg_mem n
  own := fun i hi h => absurd (List.mem_map.mpr ⟨i, List.mem_range.mpr hi, rfl⟩) h
  ne := fun i _ hi _ _ h _ => absurd (List.mem_map.mpr ⟨i, List.mem_range.mpr hi, rfl⟩) h
theorem LInv.step {n : Nat} {far c : Int} {k : Nat} {vals L : List Int} (h : LInv n far c k vals L) (hf : far ≠ 0) {d : Nat} {x : Int} (hd : L[d]? = some x) : LInv n far c (k + 1) (vals.set x.toNat ((k : Int) * far - c)) (L.eraseIdx d) := by
  have hx := h.mem x (List.mem_of_getElem? hd)
  have hlt : d < L.length := (List.getElem?_eq_some_iff.mp hd).1
  have hxn : ((x.toNat : Nat) : Int) = x := Int.toNat_of_nonneg hx.1
  have out : ∀ i : Nat, (i : Int) ∉ L.eraseIdx d → i = x.toNat ∨ (i : Int) ∉ L := fun i hi => by
    by_cases z : (i : Int) = x
    · exact .inl (by omega)
    · exact .inr fun hm => hi ((mem_eraseIdx_nd h.nd hd).mpr ⟨hm, z⟩)
  have fresh : ∀ t : Nat, t < k → ((t : Int) * far - c) ≠ ((k : Int) * far - c) := fun t ht e => by
    have e2 : (t : Int) * far = (k : Int) * far := by omega
    have := Int.eq_of_mul_eq_mul_right hf e2
    omega
  have atx : (vals.set x.toNat ((k : Int) * far - c))[x.toNat]? = some ((k : Int) * far - c) := by
    rw [List.getElem?_set, if_pos rfl, if_pos (by rw [h.vl]; omega)]
  have off : ∀ i : Nat, i ≠ x.toNat → (vals.set x.toNat ((k : Int) * far - c))[i]? = vals[i]? := fun i hi => by
    rw [List.getElem?_set, if_neg (Ne.symm hi)]
  refine ⟨by rw [List.length_set]; exact h.vl, ?_, ?_, fun y hy => h.mem y ((mem_eraseIdx_nd h.nd hd).mp hy).1, fun i hi hn => ?_, fun i j hi hj hij ni nj => ?_⟩
  · rw [List.length_eraseIdx_of_lt hlt]
    have := h.ll
    omega
  · exact h.nd.sublist (List.eraseIdx_sublist _ _)
  · rcases out i hn with z | z
    · subst z
      exact ⟨k, by omega, atx⟩
    · by_cases z2 : i = x.toNat
      · subst z2
        exact ⟨k, by omega, atx⟩
      · obtain ⟨t, ht, e⟩ := h.own i hi z
        exact ⟨t, by omega, by rw [off i z2]; exact e⟩
  · by_cases zi : i = x.toNat
    · subst zi
      have nj2 : (j : Int) ∉ L := (out j nj).resolve_left (Ne.symm hij)
      rw [atx, off j (Ne.symm hij)]
      obtain ⟨t, ht, e⟩ := h.own j hj nj2
      rw [e]
      intro q
      exact fresh t ht (Option.some.inj q).symm
    · have ni2 : (i : Int) ∉ L := (out i ni).resolve_left zi
      rw [off i zi]
      by_cases zj : j = x.toNat
      · subst zj
        rw [atx]
        obtain ⟨t, ht, e⟩ := h.own i hi ni2
        rw [e]
        intro q
        exact fresh t ht (Option.some.inj q)
      · rw [off j zj]
        exact h.ne i j hi hj hij ni2 ((out j nj).resolve_left zj)
theorem LInv.done {n : Nat} {far c : Int} {vals L : List Int} (h : LInv n far c n vals L) : TestRow n vals := by
  have hl : L = [] := List.eq_nil_of_length_eq_zero (by have := h.ll; omega)
  refine ⟨h.vl, List.pairwise_iff_getElem.mpr fun i j hi hj hij e => ?_⟩
  rw [h.vl] at hi hj
  refine h.ne i j hi hj (by omega) (by rw [hl]; simp) (by rw [hl]; simp) ?_
  rw [List.getElem?_eq_getElem (by rw [h.vl]; exact hi), List.getElem?_eq_getElem (by rw [h.vl]; exact hj), e]
/-- a row with unlike items that are not too great -/
def BRow (n : Nat) (r : List Int) : Prop := TestRow n r ∧ ∀ x ∈ r, x.natAbs < 10 ^ 28
theorem LInv.small {n : Nat} {far c : Int} {vals L : List Int} (h : LInv n far c n vals L) (hn : n ≤ 4) (hf : far = 1 ∨ far = 10 ^ 27) (hc : 0 ≤ c ∧ c ≤ 3) : ∀ x ∈ vals, x.natAbs < 10 ^ 28 := by
  have hl : L = [] := List.eq_nil_of_length_eq_zero (by have := h.ll; omega)
  intro x hx
  obtain ⟨i, hi, e⟩ := List.getElem_of_mem hx
  obtain ⟨t, ht, e2⟩ := h.own i (by rw [← h.vl]; exact hi) (by rw [hl]; simp)
  rw [List.getElem?_eq_getElem hi, e] at e2
  have e3 := Option.some.inj e2
  subst e3
  have p27 : (10 : Int) ^ 27 = 1000000000000000000000000000 := by decide
  have p28 : (10 : Nat) ^ 28 = 10000000000000000000000000000 := by decide
  rw [p28]
  rcases hf with z | z
  · subst z
    omega
  · rw [z, p27]
    omega
/-- rows, the addresses of which are not these two -/
def RowsX (H : Hp) (fl bx : Addr) (ys : List V) (rows : List (List Int)) : Prop := RowsB H ys rows ∧ ∀ y ∈ ys, y ≠ .ref fl ∧ y ≠ .ref bx
theorem RowsX.keep {H H2 : Hp} {fl bx : Addr} {ys : List V} {rows : List (List Int)} (h : RowsX H fl bx ys rows) (k : ∀ b o, b ≠ fl → b ≠ bx → H b = some o → H2 b = some o) : RowsX H2 fl bx ys rows := by
  refine ⟨⟨h.1.len, fun i x r h1 h2 => ?_⟩, h.2⟩
  obtain ⟨a, e, q⟩ := h.1.at_ i x r h1 h2
  subst e
  have z := h.2 _ (List.mem_of_getElem? h1)
  have n1 : a ≠ fl := fun e => z.1 (by rw [e])
  have n2 : a ≠ bx := fun e => z.2 (by rw [e])
  exact ⟨a, rfl, q.elim (fun q => .inl (k _ _ n1 n2 q)) fun q => .inr (k _ _ n1 n2 q)⟩
theorem flat_rep {α : Type} : ∀ (n : Nat) (x : α), (List.replicate n [x]).flatten = List.replicate n x
  | 0, _ => rfl
  | n + 1, x => by
    rw [List.replicate_succ, List.flatten_cons, flat_rep n x]
    rfl
section
variable {P : Program} {w : World} {K : PySem.W.Frag} {mg : Str → Option Value} {base : Heap}
def spTests : Sp := fun vs H Q _ => ∃ (bx : Addr) (n : Nat) (l : Addr) (f : Int), vs = [.ref bx, .int n, .ref l, .int 0] ∧ 2 ≤ n ∧ n ≤ 4 ∧ H l = some (.lst []) ∧ l ≠ bx ∧ 40 ≤ f ∧ Box H bx f ∧
  ∀ (p : Addr) (ys : List V) (rows : List (List Int)) (H1 : Hp), (∀ r ∈ rows, BRow n r) → rows.length ≤ 4 → RowsB H1 ys rows → Sb bx H H1 → H p = none → p ≠ bx → H1 p = some (.lst ys) → Box H1 bx (f - 40) → Q (.ref p) H1
theorem sc_law_tests : FnScope ["_law_box_here", "_law_many", "_law_some", "_law_least", "_law_found", "_law_turn", "_law_line_up", "_law_left", "_law_far", "_law_item_here", "_law_free", "_law_a", "_law_lesser", "_law_greater", "_law_line"] ["_law_box_here", "_law_many", "_law_some", "_law_least"] (defScope sLawTests) := ⟨rfl, rfl, rfl, by decide +kernel, rfl, by decide +kernel, by decide +kernel⟩
theorem ok_law_tests (T : Txt K mg) : FnOk P w K mg base CX0 2 (ga K "_law_tests") (fdAt K (ga K "_law_tests")) ["_law_box_here", "_law_many", "_law_some", "_law_least"] spTests := by
  refine T.f_law_tests.ok sc_law_tests (fun vs H Q E h => ?_) (fun cdv A outer s H vs Q E hr h => ?_)
  · obtain ⟨bx, n, l, f, rfl, _⟩ := h
    rfl
  obtain ⟨bx, n, l, f, rfl, h1, h2, hl, hlb, hf, hbx, q⟩ := h
  refine ⟨_, PSs.nox (pss_cons (ps_set (i := 4) sc_law_tests.nd rfl (Or.inl rfl) (pe_lst pa_nil))
    (pss_cons (ps_for PassesOwn.never rfl (pi_range1 (by rfl) T.z_range (pa_cons (pe_op op_add (pv 3) (c_law_take T (hr.mono (by decide)) (pa_cons (pv 0) (pa_cons pe_int pa_nil)))) pa_nil)) (pg_name (i := 5) sc_law_tests.nd rfl (Or.inl rfl)) (pss_cons (ps_asg (pe_tup (pa_cons (pe_op op_rep (pe_lst (pa_cons pe_int pa_nil)) (pv 1)) (pa_cons (pe_listRg rfl (by rfl) T.z_list (prg_1 (by rfl) T.z_range (pv 1))) (pa_cons (pe_ix ix_list (pe_lst (pa_cons pe_int (pa_cons (pe_op op_pow pe_int pe_int) pa_nil))) (t_int call_int1 T (pa_cons (pe_cmpR op_eq (c_law_take T (hr.mono (by decide)) (pa_cons (pv 0) (pa_cons pe_int pa_nil))) pe_int (nomark _)) pa_nil)) (fun _ _ => rfl)) pa_nil)))) (pg_tup (by rfl) (pgs_cons (pg_name (i := 6) sc_law_tests.nd rfl (Or.inl rfl)) (pgs_cons (pg_name (i := 7) sc_law_tests.nd rfl (Or.inr rfl)) (pgs_cons (pg_name (i := 8) sc_law_tests.nd rfl (Or.inl rfl)) pgs_nil)))))
    (pss_cons (ps_for PassesOwn.never rfl (pi_range1 (by rfl) T.z_range (pa_cons (pv 1) pa_nil)) (pg_name (i := 9) sc_law_tests.nd rfl (Or.inl rfl)) (pss_cons (ps_setLc (i := 10) (y := "_law_free") (own := [("_law_a", 11)]) rfl sc_law_tests.nd rfl rfl (sw_true rfl rfl rfl (by decide +kernel)) (pi_list (pv 7)) (blkOk_by (N := ["_law_box_here", "_law_many", "_law_some", "_law_least", "_law_found", "_law_turn", "_law_line_up", "_law_left", "_law_far", "_law_item_here", "_law_free", "_law_a", "_law_lesser", "_law_greater", "_law_line"]) (sc := defScope sLawTests) (by decide +kernel)) (fun _ _ _ _ _ => pg_name (i := 11) sc_law_tests.nd rfl (Or.inr rfl)) (fun _ _ _ _ _ => (pts_one (pt_cmpR (op_eqN (un0 hr)) (pe_lc (own := [("_law_lesser", 12), ("_law_greater", 13)]) rfl sc_law_tests.nd (pi_listK (K := K) rfl (pv 2)) (blkOk_in (N := ["_law_box_here", "_law_many", "_law_some", "_law_least", "_law_found", "_law_turn", "_law_line_up", "_law_left", "_law_far", "_law_item_here", "_law_free", "_law_a", "_law_lesser", "_law_greater", "_law_line"])  (by decide +kernel)) (fun _ _ _ _ _ => (pg_tupK (K := K) (n := 2) rfl (by rfl) (pgs_cons (pg_name (i := 12) sc_law_tests.nd rfl (Or.inl rfl)) (pgs_cons (pg_name (i := 13) sc_law_tests.nd rfl (Or.inl rfl)) pgs_nil)))) (fun _ _ _ _ _ => (pts_one (PW.pt (pw_and (pt_cmpR op_eq (pv 13) (pv 11) (nomark _)) (pw_and1 (pt_cmpR (op_inDK (K := K) (un65 hr)) (pv 12) (pv 7) (by rfl))))))) (fun _ _ _ _ _ => pe_int)) (pe_lst pa_nil) (nomark _)))) (fun _ _ _ _ _ => (pv 11)))
    (pss_cons (ps_set (i := 14) sc_law_tests.nd rfl (Or.inl rfl) (pe_ix ix_list (pv 10) (c_law_take T (hr.mono (by decide)) (pa_cons (pv 0) (pa_cons (b_len call_len_seq T (pa_cons (pv 10) pa_nil)) pa_nil))) (fun _ _ => rfl)))
    (pss_cons (ps_asg (pe_op op_sub (pe_op op_mul (pv 9) (pv 8)) (pe_op op_mul pe_int (t_int call_int1 T (pa_cons (pe_cmpR op_gt (pv 8) pe_int (nomark _)) pa_nil)))) (pg_sub (pv 6) (pv 14) set_list))
    (pss_one (ps_expr (pe_bm PySem.F.plainAttrs_list PySem.F.slot_list_remove PySem.F.type_list_remove mt_remove (pv 7) (pa_cons (pv 14) pa_nil))))))))
    (pss_one (ps_expr (pe_bm PySem.F.plainAttrs_list PySem.F.slot_list_append PySem.F.type_list_append mt_append (pv 4) (pa_cons (pe_ix ix_list (pe_lst (pa_cons (t_tuple call_tuple_of T (pa_cons (pv 6) pa_nil)) (pa_cons (pv 6) pa_nil))) (c_law_take T (hr.mono (by decide)) (pa_cons (pv 0) (pa_cons pe_int pa_nil))) (fun _ _ => rfl)) pa_nil)))))))
    (pss_one (ps_ret (pv 4))))), ?_⟩
  refine ⟨Nat.zero_le _, fun fl nfl => ?_⟩
  have flb : fl ≠ bx := hbx.ne nfl
  refine ⟨_, rfl, _, rfl, bx, 5, f, rfl, by decide, by decide, by omega, hbx.new nfl, fun tn H1 t0 t1 u1 b1 => ?_⟩
  have P0 : Sb bx H H1 ∧ H1 fl = some (.lst []) := ⟨(Same.sb (same_new nfl)).trans (Sb.box u1), Sb.box u1 _ _ flb upd_same⟩
  refine ⟨_, _, rfl, rfl, _, rfl, by omega, by omega, ?_⟩
  obtain ⟨m, hm⟩ : ∃ m : Nat, (0 : Int) + tn = m := ⟨tn.toNat, by omega⟩
  have hm4 : m ≤ 4 := by omega
  rw [hm, Int.toNat_natCast]
  refine for_rng (fun i σ H' => ∃ o5 o6 o7 o8 o9 o10 o11 o12 o13 o14, σ = [some (.ref bx), some (.int n), some (.ref l), some (.int 0), some (.ref fl), o5, o6, o7, o8, o9, o10, o11, o12, o13, o14] ∧ ∃ (rows : List (List Int)) (ys : List V), Sb bx H H' ∧ H' fl = some (.lst ys) ∧ RowsX H' fl bx ys rows ∧ (∀ r ∈ rows, BRow n r) ∧ rows.length = i ∧ Box H' bx (f - 1 - 6 * (i : Int)))
    ⟨_, _, _, _, _, _, _, _, _, _, rfl, [], [], P0.1, P0.2, ⟨⟨rfl, fun i x r e => by simp at e⟩, fun y hy => nomatch hy⟩, (fun r hr => nomatch hr), rfl, b1.le (by omega)⟩ (fun i σ H' hi hP => ?_) (fun σ H' hP => ?_)
  · clear P0 b1 u1
    obtain ⟨o5, o6, o7, o8, o9, o10, o11, o12, o13, o14, rfl, rows, ys, i1, i2, i3, i4, i5, i6⟩ := hP
    have flD : ∀ {p : Addr}, H' p = none → p ≠ fl := fun np z => by rw [z, i2] at np; cases np
    refine ⟨by decide, fun z nz => ⟨_, rfl, z, n, [.int 0], rfl, rfl, upd_same, by omega, by omega, ?_, fun lu nlu => ⟨_, rfl, _, rfl, RgOk.of_le (by omega) (by omega) (by omega) (by omega), fun lf nlf => ?_⟩⟩⟩
    · show 1 * ((n : Int)).toNat ≤ sizeLine
      exact Nat.le_trans (show 1 * ((n : Int)).toNat ≤ 4 by omega) (by decide)
    refine ⟨_, _, rfl, rfl, ⟨by decide, by decide, by decide⟩, by decide, fun fr nfr => ?_⟩
    have b3 := (((i6.new nz).new nlu).new nlf).new (o := .lst [.int 1, .int ((10 : Int) ^ (27 : Int).toNat)]) nfr
    refine ⟨_, rfl, bx, 5, _, rfl, by decide, by decide, by omega, b3, fun dd H3 d0 d1 u3 b4 => ?_⟩
    have s3 := Sb.box u3
    have nb1 : lu ≠ bx := (i6.new nz).ne nlu
    have nb2 : lf ≠ bx := ((i6.new nz).new nlu).ne nlf
    have nb3 : fr ≠ bx := (((i6.new nz).new nlu).new nlf).ne nfr
    have ulf : lu ≠ lf := fun e => by rw [← e, upd_same] at nlf; cases nlf
    have luf : lu ≠ fr := fun e => by rw [← e, upd_ne ulf, upd_same] at nfr; cases nfr
    have lff : lf ≠ fr := fun e => by rw [← e, upd_same] at nfr; cases nfr
    have nluH : H' lu = none := by
      rw [upd_ne (fun e => by rw [e, upd_same] at nlu; cases nlu)] at nlu
      exact nlu
    have nlfH : H' lf = none := by
      rw [upd_ne (Ne.symm ulf)] at nlf
      rw [upd_ne (fun e => by rw [e, upd_same] at nlf; cases nlf)] at nlf
      exact nlf
    have s03 : ∀ b o, b ≠ bx → H' b = some o → H3 b = some o := fun b o nb e => s3 _ _ nb (same_new nfr _ _ (same_new nlf _ _ (same_new nlu _ _ (same_new nz _ _ e))))
    have e_fr := s3 _ _ nb3 upd_same
    have e_lu0 : H3 lu = some (.lst (List.replicate ((n : Int)).toNat [V.int 0]).flatten) := s3 _ _ nb1 (by rw [upd_ne luf, upd_ne ulf, upd_same])
    have e_lf0 : H3 lf = some (.lst (rgV 0 (n : Int))) := s3 _ _ nb2 (by rw [upd_ne lff, upd_same])
    have erep : (List.replicate ((n : Int)).toNat [V.int 0]).flatten = (List.replicate n (0 : Int)).map V.int := by
      rw [Int.toNat_natCast, List.map_replicate]
      exact flat_rep n _
    rw [erep] at e_lu0
    rw [rg_ints] at e_lf0
    obtain ⟨far, hfar, hf0⟩ : ∃ far : Int, atI [V.int 1, V.int ((10 : Int) ^ (27 : Int).toNat)] (if decide (V.int dd = V.int 0) = true then 1 else 0) = some (.int far) ∧ (far = 1 ∨ far = 10 ^ 27) := by
      by_cases hdd : decide (V.int dd = V.int 0) = true
      · rw [if_pos hdd]
        exact ⟨_, atI_nat (j := 1) rfl, .inr rfl⟩
      · rw [if_neg hdd]
        exact ⟨_, atI_nat (j := 0) rfl, .inl rfl⟩
    refine ⟨rfl, .inr ⟨_, rfl, fr, _, _, .int far, rfl, rfl, SqL.of e_fr, hfar, ?_⟩⟩
    refine ⟨by show 3 ≤ sizeLine; decide, fun tt ntt => ⟨tt, _, rfl, SqT.of upd_same, rfl, _, _, rfl, _, _, rfl, _, _, rfl, rfl, ?_⟩⟩
    have farN : far ≠ 0 := by rcases hf0 with e | e <;> rw [e] <;> decide
    have farB : -(2 ^ 100 : Int) < far ∧ far < 2 ^ 100 := by rcases hf0 with e | e <;> rw [e] <;> decide
    have b5 := b4.new (o := .tup [.ref lu, .ref lf, .int far]) ntt
    have sn := same_new (o := .tup [.ref lu, .ref lf, .int far]) ntt
    refine ⟨_, rfl, n, rfl, by omega, by omega, ?_⟩
    rw [Int.toNat_natCast]
    refine for_rng (fun k σ H4 => ∃ o9 o10 o11 o12 o13 o14, σ = [some (.ref bx), some (.int n), some (.ref l), some (.int 0), some (.ref fl), some (.int i), some (.ref lu), some (.ref lf), some (.int far), o9, o10, o11, o12, o13, o14] ∧ ∃ vals L : List Int, (∀ b o, b ≠ bx → H' b = some o → H4 b = some o) ∧ H4 lu = some (.lst (vals.map V.int)) ∧ H4 lf = some (.lst (L.map V.int)) ∧ LInv n far (3 * (if decide (1 < far) = true then 1 else 0)) k vals L ∧ Box H4 bx (f - 2 - 6 * (i : Int) - (k : Int)))
      ⟨_, _, _, _, _, _, rfl, _, _, fun b o nb e => sn _ _ (s03 b o nb e), sn _ _ e_lu0, sn _ _ e_lf0, .start, b5.le (by omega)⟩ (fun k σ H4 hk hP => ?_) (fun σ H4 hP => ?_)
    · clear sn b5 e_lf0 e_lu0 e_fr s03 s3 b4 b3 u3 ntt nfr nlf nlu
      obtain ⟨o9, o10, o11, o12, o13, o14, rfl, vals, L, k1, k2, k3, k4, k5⟩ := hP
      refine ⟨_, rfl, lf, rfl, ⟨_, SqL.of k3⟩, fun D nD => ?_⟩
      have nDb := k5.ne nD
      have hLl : L.length ≤ 4 := by have := k4.ll; omega
      refine lc_it (walk_list (xs := L.map V.int)) (fun j H5 => (∀ b o, b ≠ D → H4 b = some o → H5 b = some o) ∧ H5 D = some (.lst ((L.take j).map V.int))) ⟨fun b o hb e => by rw [upd_ne hb]; exact e, upd_same⟩ (fun j H5 _ hP => SqL.of (hP.1 _ _ (ne_of_none k3 nD) k3)) ?_ ?_
      · rintro j x H5 H6 hj ⟨p1, p2⟩ ⟨rfl, hx⟩
        have hx' := hx
        rw [List.getElem?_map] at hx'
        obtain ⟨y, hy, rfl⟩ := Option.map_eq_some_iff.mp hx'
        have el : H6 l = some (.lst []) := p1 _ _ (ne_of_none (k1 _ _ hlb (i1 _ _ hlb hl)) nD) (k1 _ _ hlb (i1 _ _ hlb hl))
        refine ⟨rfl, ?_⟩
        refine ⟨_, rfl, l, rfl, ⟨[], SqL.of el⟩, fun D2 nD2 => ?_⟩
        have DD : D ≠ D2 := fun z => by rw [← z, p2] at nD2; cases nD2
        refine lc_it (walk_list (xs := ([] : List V))) (fun _ H7 => (∀ b o, b ≠ D2 → H6 b = some o → H7 b = some o) ∧ H7 D2 = some (.lst [])) ⟨fun b o hb e => by rw [upd_ne hb]; exact e, upd_same⟩ (fun _ H7 _ hP => SqL.of (hP.1 _ _ (ne_of_none el nD2) el)) (fun i x H H' hi => absurd hi (Nat.not_lt_zero _)) ?_
        rintro H7 ⟨r1, r2⟩
        refine ⟨Nat.zero_le _, fun e ne => ⟨D2, e, [], rfl, rfl, (by rw [upd_ne (ne_of_none r2 ne)]; exact r2), upd_same, _, rfl, iteT ?_⟩⟩
        have p3 : ∀ b o, b ≠ D → H4 b = some o → upd H7 e (.lst []) b = some o := fun b o hb q => by
          have q2 := p1 b o hb q
          have q3 := r1 b o (ne_of_none q2 nD2) q2
          rw [upd_ne (ne_of_none q3 ne)]
          exact q3
        have p4 : upd H7 e (.lst []) D = some (.lst ((L.take j).map V.int)) := by
          have q3 := r1 D _ DD p2
          rw [upd_ne (ne_of_none q3 ne)]
          exact q3
        refine ⟨_, rfl, _, p4, Nat.lt_of_le_of_lt (show ((L.take j).map V.int).length ≤ 4 by rw [List.length_map, List.length_take]; omega) (by decide), fun b o hb q => ?_, ?_⟩
        · rw [upd_ne hb]
          exact p3 b o hb q
        · rw [upd_same, take_succ_get hy, List.map_append]
          rfl
      · rintro H5 ⟨p1, p2⟩
        rw [List.length_map, List.take_length] at p2
        have p3 : ∀ b o, H4 b = some o → H5 b = some o := fun b o e => p1 b o (ne_of_none e nD) e
        have k5' : Box H5 bx (f - 2 - 6 * (i : Int) - (k : Int)) := by
          obtain ⟨x1, x2, x3, x4, x5⟩ := k5
          exact ⟨x1, x2, x3, p3 _ _ x4, x5⟩
        have hL1 : 1 ≤ L.length := by have := k4.ll; omega
        refine ⟨_, rfl, _, rfl, _, rfl, D, _, rfl, .inl (SqL.of p2), bx, _, _, rfl, ?_, ?_, ?_, k5', fun d H6 d0 d1 u6 b6 => ?_⟩
        · rw [List.length_map]; omega
        · rw [List.length_map]; omega
        · omega
        rw [List.length_map] at d1
        have s6 := Sb.box u6
        obtain ⟨x, hx⟩ : ∃ x, L[d.toNat]? = some x := ⟨_, List.getElem?_eq_getElem (by omega)⟩
        have hd0 : ((d.toNat : Nat) : Int) = d := Int.toNat_of_nonneg d0
        have atx : atI (L.map V.int) d = some (.int x) := by
          rw [← hd0]
          exact atI_nat (by rw [List.getElem?_map, hx]; rfl)
        have hxm := k4.mem x (List.mem_of_getElem? hx)
        have e_lu := s6 _ _ nb1 (p3 _ _ k2)
        have e_lf := s6 _ _ nb2 (p3 _ _ k3)
        refine ⟨D, _, _, .int x, rfl, rfl, SqL.of (s6 _ _ nDb p2), atx, ?_⟩
        refine ⟨_, rfl, _, rfl, _, _, rfl, rfl, .inl ⟨by omega, by omega⟩, _, rfl, _, _, rfl, rfl, .inr ⟨_, rfl, _, _, rfl, rfl, .inl ⟨by decide, by decide⟩, _, _, rfl, rfl, _, rfl, _, rfl, lu, _, _, x.toNat, rfl, rfl, e_lu, ?_, ?_⟩⟩
        · rw [List.length_map, k4.vl]
          have : ixN n ((x.toNat : Nat) : Int) = some x.toNat := ixN_of (by omega)
          rw [Int.toNat_of_nonneg hxm.1] at this
          exact this
        have e_lf2 : upd H6 lu (.lst ((vals.map V.int).set x.toNat (.int ((k : Int) * far - (3 * (if decide (1 < far) = true then 1 else 0)))))) lf = some (.lst (L.map V.int)) := by rw [upd_ne (Ne.symm ulf)]; exact e_lf
        refine ⟨_, rfl, .inl ⟨rfl, _, SqL.of e_lf2⟩, _, rfl, lf, L, x, d.toNat, rfl, rfl, e_lf2, hx, fun m hm e => ?_, ?_⟩
        · have := at_once k4.nd e hx
          omega
        refine ⟨_, _, _, _, _, _, rfl, _, _, fun b o nb e => ?_, ?_, upd_same, k4.step farN hx, ?_⟩
        · rw [upd_ne (fun z => by rw [z, nlfH] at e; cases e), upd_ne (fun z => by rw [z, nluH] at e; cases e)]
          exact s6 _ _ nb (p3 _ _ (k1 b o nb e))
        · rw [upd_ne ulf, upd_same]
          exact congrArg (fun z => some (HO.lst z)) List.map_set.symm
        · exact ((b6.put nb1).put nb2).le (by omega)
    · clear sn b5 e_lf0 e_lu0 e_fr s03 s3 b4 b3 u3 ntt nfr nlf nlu
      obtain ⟨o9, o10, o11, o12, o13, o14, rfl, vals, L, k1, k2, k3, k4, k5⟩ := hP
      have hrow : BRow n vals := ⟨k4.done, k4.small h2 hf0 (by split <;> omega)⟩
      have e_fl : H4 fl = some (.lst ys) := k1 _ _ flb i2
      have yl : ys.length = rows.length := i3.1.len
      refine ⟨_, rfl, .inl ⟨rfl, _, SqL.of e_fl⟩, ?_⟩
      refine ⟨_, rfl, lu, _, rfl, .inl ⟨SqL.of k2, fun tu ntu => ⟨_, rfl, (show 2 ≤ sizeLine by decide), fun pr npr => ?_⟩⟩⟩
      have b6 := (k5.new (o := .tup (vals.map V.int)) ntu).new (o := .lst [.ref tu, .ref lu]) npr
      refine ⟨_, rfl, bx, 2, _, rfl, by decide, by decide, by omega, b6, fun d H5 d0 d1 u5 b7 => ?_⟩
      have s5 := Sb.box u5
      have tub : tu ≠ bx := k5.ne ntu
      have prb : pr ≠ bx := (k5.new (o := .tup (vals.map V.int)) ntu).ne npr
      have tpr : tu ≠ pr := fun z => by rw [← z, upd_same] at npr; cases npr
      have k6 : ∀ b o, b ≠ bx → H4 b = some o → H5 b = some o := fun b o nb e => s5 _ _ nb (same_new npr _ _ (same_new ntu _ _ e))
      have e_pr := s5 _ _ prb upd_same
      have e_tu : H5 tu = some (.tup (vals.map V.int)) := s5 _ _ tub (by rw [upd_ne tpr, upd_same])
      have e_lu := k6 _ _ nb1 k2
      have tufl : tu ≠ fl := fun z => by rw [z, e_fl] at ntu; cases ntu
      have lufl : lu ≠ fl := flD nluH
      obtain ⟨v, hv, hv2⟩ : ∃ v : Addr, atI [V.ref tu, V.ref lu] d = some (.ref v) ∧ SqB H5 v (vals.map V.int) ∧ v ≠ fl ∧ v ≠ bx := by
        have : d = ((0 : Nat) : Int) ∨ d = ((1 : Nat) : Int) := by omega
        rcases this with z | z <;> rw [z]
        · exact ⟨tu, atI_nat rfl, .inr e_tu, tufl, tub⟩
        · exact ⟨lu, atI_nat rfl, .inl e_lu, lufl, nb1⟩
      refine ⟨pr, _, _, .ref v, rfl, rfl, SqL.of e_pr, hv, fl, ys, .ref v, rfl, rfl, k6 _ _ flb e_fl, Nat.lt_of_le_of_lt (show ys.length ≤ 4 by omega) (by decide), ?_⟩
      have X5 : RowsX H5 fl bx ys rows := i3.keep fun b o h1 h2 e => k6 _ _ h2 (k1 _ _ h2 e)
      have X6 : RowsX (upd H5 fl (.lst (ys ++ [.ref v]))) fl bx ys rows := X5.keep fun b o h1 h2 e => by rw [upd_ne h1]; exact e
      refine ⟨_, _, _, _, _, _, _, _, _, _, rfl, rows ++ [vals], ys ++ [.ref v], fun b o nb e => ?_, upd_same, ⟨⟨by rw [List.length_append, List.length_append, yl] <;> rfl, fun j x r h1 h2 => ?_⟩, fun y hy => ?_⟩, fun r hr' => ?_, by rw [List.length_append, i5] <;> rfl, (b7.put flb).le (by omega)⟩
      · rw [upd_ne (ne_of_none e nfl)]
        exact k6 _ _ nb (k1 _ _ nb (i1 _ _ nb e))
      · by_cases hj : j < ys.length
        · rw [List.getElem?_append_left hj] at h1
          rw [List.getElem?_append_left (by omega)] at h2
          exact X6.1.at_ j x r h1 h2
        · rw [List.getElem?_append_right (by omega)] at h1
          rw [List.getElem?_append_right (by omega)] at h2
          have hj0 : j - ys.length = 0 := by
            have := (List.getElem?_eq_some_iff.mp h1).1
            rw [List.length_singleton] at this
            omega
          have hj1 : j - rows.length = 0 := by omega
          rw [hj0] at h1
          rw [hj1] at h2
          have e1 : V.ref v = x := by simpa using h1
          have e2 : vals = r := by simpa using h2
          subst e1
          subst e2
          refine ⟨v, rfl, ?_⟩
          exact hv2.1.elim (fun z => .inl (by rw [upd_ne hv2.2.1]; exact z)) fun z => .inr (by rw [upd_ne hv2.2.1]; exact z)
      · rcases List.mem_append.mp hy with hy | hy
        · exact X5.2 y hy
        · rw [List.mem_singleton.mp hy]
          exact ⟨fun z => hv2.2.1 (V.ref.inj z), fun z => hv2.2.2 (V.ref.inj z)⟩
      · rcases List.mem_append.mp hr' with hr' | hr'
        · exact i4 r hr'
        · rw [List.mem_singleton.mp hr']
          exact hrow
  · obtain ⟨o5, o6, o7, o8, o9, o10, o11, o12, o13, o14, rfl, rows, ys, i1, i2, i3, i4, i5, i6⟩ := hP
    exact ⟨_, rfl, q fl ys rows H' i4 (by omega) i3.1 i1 nfl flb i2 (i6.le (by omega))⟩
theorem bd_law_tests {K : PySem.W.Frag} {mg : Str → Option Value} (T : Txt K mg) : Binds K (fdAt K (ga K "_law_tests")) ["_law_box_here", "_law_many", "_law_some", "_law_least"] [] := T.f_law_tests.bindsN fun _ _ _ _ _ _ us hl => match us, hl with | [_, _, _, _], _ => rfl
theorem c_law_tests {X : Cx} {e : Expr} {es : List Expr} {t : TA} {p pos : Pos} (T : Txt X.K X.mg) (hr : Room 2 X.A) (ha : PA X (e :: es) t) (hg : Gl X "_law_tests" := by rfl) (he : starEach (e :: es) X.env = (false, eval e X.env) :: starEach es X.env := by rfl) (hpl : (backTo pos (starEach es X.env)).any (·.1) = false := by rfl) :
    PE X (.Call (.Name "_law_tests" p) (e :: es) [] pos) (tCall (spTests) [] E0 t) := pe_call (ok_law_tests T) hr hg T.g_law_tests T.f_law_tests.kp (bd_law_tests T) .nil pass0 ha (by decide) he hpl
end
end K57
/-! L7 -/
namespace K57
open PySem PySem.Spec PyProof.Rows L2 He
/-! ### things as the law has them -/
/-- the law's list of a thing -/
def LThing (H : Hp) (v : V) (t : Thing) : Prop := ∃ (p l : Addr) (ys : List V), v = .ref p ∧ H p = some (.lst [.str (kindS t.k), .ref l]) ∧ H l = some (.lst ys) ∧ DqAll H ys (t.rows.map tupD)
/-- the same, all of it new -/
def LThingN (H0 H : Hp) (v : V) (t : Thing) : Prop := ∃ (p l : Addr) (ys : List V), v = .ref p ∧ H0 p = none ∧ H0 l = none ∧ H p = some (.lst [.str (kindS t.k), .ref l]) ∧ H l = some (.lst ys) ∧ DqAll H ys (t.rows.map tupD)
theorem LThing.mono {H H' : Hp} {v : V} {t : Thing} (h : LThing H v t) (s : Same H H') : LThing H' v t := by
  obtain ⟨p, l, ys, e, h1, h2, h3⟩ := h
  exact ⟨p, l, ys, e, s _ _ h1, s _ _ h2, h3.mono s⟩
/-- a thing that is what it should be -/
structure Good (n : Nat) (t : Thing) : Prop where
  rows : RowsOk n t
  ord : t.k = .ord → closedL n t.rows = t.rows ∧ ringL n (warsh n (initR t.rows)) = []
  sm : t.k = .tst → ∀ r ∈ t.rows, ∀ x ∈ r, x.natAbs < 10 ^ 28
theorem acyc_ring {n : Nat} {rows : List (List Int)} (h : Acyc n rows) : ringL n (warsh n (initR rows)) = [] := by
  obtain ⟨h1, pos, h2⟩ := h
  refine ringL_nil.mpr fun a ha => no_ring pos (fun x y _ _ e => h2 x y ?_) ha
  unfold initR at e
  exact List.contains_iff_mem.mp e
theorem initR_closed {n x y : Nat} {rows : List (List Int)} (hx : x < n) (hy : y < n) : warsh n (initR (closedL n rows)) x y = warsh n (initR rows) x y := by
  unfold closedL
  rw [warsh_ext (fun a b ha hb => initR_pairsOf ha hb) hx hy]
  exact warsh_self warsh_trans hx hy
theorem ring_closed {n : Nat} {rows : List (List Int)} (h : ringL n (warsh n (initR rows)) = []) : ringL n (warsh n (initR (closedL n rows))) = [] := by
  refine ringL_nil.mpr fun a ha => ?_
  rw [initR_closed ha ha]
  exact ringL_nil.mp h a ha
/-- a closed order is what it should be -/
theorem good_ord {n : Nat} {rows : List (List Int)} (hn : n ≤ 4) (h : ringL n (warsh n (initR rows)) = []) : Good n ⟨.ord, closedL n rows⟩ := by
  refine ⟨⟨?_, fun r hr => ?_⟩, fun _ => ⟨closedL_idem n rows, ring_closed h⟩, fun z => nomatch z⟩
  · have h1 := length_pairsOf n (warsh n (initR rows))
    have h2 : n * n ≤ 4 * 4 := Nat.mul_le_mul hn hn
    show (pairsOf n (warsh n (initR rows))).length < 90
    omega
  · obtain ⟨a, b, ha, hb, e, rfl⟩ := mem_pairsOf.mp hr
    refine ⟨⟨a, b, ha, hb, rfl⟩, ?_⟩
    have hne : a ≠ b := fun z => by
      subst z
      rw [ringL_nil.mp h a ha] at e
      cases e
    show (lineB n (.int a) && (lineB n (.int b) && neD (.int a) (.int b))) = true
    simp [lineB, neD]
    omega
section
variable {P : Program} {w : World} {K : PySem.W.Frag} {mg : Str → Option Value} {base : Heap}
def spThing : Sp := fun vs H Q _ => ∃ (bx : Addr) (n : Nat) (f : Int), vs = [.ref bx, .int n] ∧ 2 ≤ n ∧ n ≤ 4 ∧ 100 ≤ f ∧ Box H bx f ∧
  ∀ v t H1, Good n t → t.rows.length ≤ 32 → LThingN H H1 v t → Sb bx H H1 → Box H1 bx (f - 100) → Q v H1
theorem sc_law_thing : FnScope ["_law_box_here", "_law_many", "_law_way", "_law_line_up"] ["_law_box_here", "_law_many"] (defScope sLawThing) := ⟨rfl, rfl, rfl, by decide +kernel, rfl, by decide +kernel, by decide +kernel⟩
theorem ok_law_thing (T : Txt K mg) : FnOk P w K mg base CX0 4 (ga K "_law_thing") (fdAt K (ga K "_law_thing")) ["_law_box_here", "_law_many"] spThing := by
  refine T.f_law_thing.ok sc_law_thing (fun vs H Q E h => ?_) (fun cdv A outer s H vs Q E hr h => ?_)
  · obtain ⟨bx, n, f, rfl, _⟩ := h
    rfl
  obtain ⟨bx, n, f, rfl, h1, h2, hf, hbx, q⟩ := h
  refine ⟨_, PSs.nox (pss_cons (ps_set (i := 2) sc_law_thing.nd rfl (Or.inl rfl) (c_law_take T (hr.mono (by decide)) (pa_cons (pv 0) (pa_cons pe_int pa_nil))))
    (pss_cons (ps_if (pt_cmpR op_eq (pv 2) pe_int (nomark _)) (pss_one (ps_ret (pe_lst (pa_cons pe_str (pa_cons (c_law_steps T (hr.mono (by decide)) (pa_cons (pv 0) (pa_cons (pv 1) (pa_cons pe_int pa_nil)))) pa_nil))))) pss_nil)
    (pss_cons (ps_if (pt_cmpR op_eq (pv 2) pe_int (nomark _)) (pss_one (ps_ret (pe_lst (pa_cons pe_str (pa_cons (c_law_closed T (hr.mono (by decide)) (pa_cons (pv 1) (pa_cons (c_law_pairs T (hr.mono (by decide)) (pa_cons (pv 0) (pa_cons (pv 1) pa_nil))) pa_nil))) pa_nil))))) pss_nil)
    (pss_one (ps_ret (pe_lst (pa_cons pe_str (pa_cons (pe_lc (own := [("_law_line_up", 3)]) rfl sc_law_thing.nd (pi_list (c_law_tests T (hr.mono (by decide)) (pa_cons (pv 0) (pa_cons (pv 1) (pa_cons (pe_lst pa_nil) (pa_cons pe_int pa_nil)))))) (blkOk_by (N := ["_law_box_here", "_law_many", "_law_way", "_law_line_up"]) (sc := defScope sLawThing) (by decide +kernel)) (fun _ _ _ _ _ => pg_name (i := 3) sc_law_thing.nd rfl (Or.inl rfl)) (fun _ _ _ _ _ => pts_nil) (fun _ _ _ _ _ => (t_tuple (call_tupK (K := K)) T (pa_cons (pv 3) pa_nil)))) pa_nil)))))))), ?_⟩
  refine ⟨_, rfl, bx, 3, f, rfl, by decide, by decide, by omega, hbx, fun way H1 w0 w1 u1 b1 => ?_⟩
  have s1 : Sb bx H H1 := Sb.box u1
  refine ⟨_, rfl, rfl, _, rfl, iteB (fun _ => ?_) (fun _ => ?_)⟩
  · refine ⟨_, rfl, _, rfl, bx, n, f - 1, rfl, h1, h2, by omega, b1, fun p ys rows H2 hr2 hl hd s2 np pb hp b2 => ⟨by show 2 ≤ sizeLine; decide, fun r nr => ?_⟩⟩
    have s12 := s1.trans s2
    have sn := same_new (o := .lst [.str (Str.ofString "network"), .ref p]) nr
    exact q _ ⟨.net, rows⟩ _ ⟨⟨by show rows.length < 90; omega, hr2⟩, (fun z => nomatch z), (fun z => nomatch z)⟩ hl ⟨r, p, ys, rfl, s12.free (b2.ne nr) nr, s1.free pb np, upd_same, sn _ _ hp, hd.mono sn⟩ (s12.new nr) ((b2.new nr).le (by omega))
  · refine ⟨_, rfl, rfl, _, rfl, iteB (fun _ => ?_) (fun _ => ?_)⟩
    · refine ⟨_, rfl, _, rfl, _, rfl, bx, n, f - 1, rfl, by omega, h2, by omega, b1, fun p ys rows H2 hA hl hd s2 np pb hp b2 => ⟨n, p, ys, rows, rfl, by omega, h2, hp, hd, hA.1, fun p3 ys3 H3 d3 s3 np3 hp3 => ⟨by show 2 ≤ sizeLine; decide, fun r nr => ?_⟩⟩⟩
      have s12 := s1.trans s2
      have pb3 : p3 ≠ bx := b2.ne np3
      have b3 : Box H3 bx (f - 1 - 40) := by
        obtain ⟨x1, x2, x3, x4, x5⟩ := b2
        exact ⟨x1, x2, x3, s3 _ _ x4, x5⟩
      have s13 := s12.trans (Same.sb s3)
      have sn := same_new (o := .lst [.str (Str.ofString "order"), .ref p3]) nr
      have g := good_ord h2 (acyc_ring hA)
      have hlen := length_pairsOf n (warsh n (initR rows))
      have hnn : n * n ≤ 4 * 4 := Nat.mul_le_mul h2 h2
      exact q _ ⟨.ord, closedL n rows⟩ _ g (by show (pairsOf n (warsh n (initR rows))).length ≤ 32; omega) ⟨r, p3, ys3, rfl, s13.free (b3.ne nr) nr, s12.free pb3 np3, upd_same, sn _ _ hp3, d3.mono sn⟩ (s13.new nr) ((b3.new nr).le (by omega))
    · refine ⟨_, rfl, _, rfl, Nat.zero_le _, fun e ne => ⟨bx, n, e, f - 1, rfl, h1, h2, upd_same, b1.ne ne, by omega, b1.new ne, fun p ys rows H2 hr2 hl hX s2 np pb hp b2 => ⟨p, rfl, ⟨ys, SqL.of hp⟩, fun D nD => ?_⟩⟩⟩
      have s12 : Sb bx H H2 := (s1.new ne).trans s2
      have nDb := b2.ne nD
      have yl : ys.length = rows.length := hX.len
      refine lc_it (walk_list (xs := ys)) (fun j H3 => ∃ acc, (∀ b o, b ≠ D → H2 b = some o → H3 b = some o) ∧ H3 D = some (.lst acc) ∧ DqAll H3 acc ((rows.take j).map tupD)) ⟨[], fun b o hb e => by rw [upd_ne hb]; exact e, upd_same, .nil⟩ (fun j H3 _ hP => by
        obtain ⟨acc, p1, _⟩ := hP
        exact SqL.of (p1 _ _ (ne_of_none hp nD) hp)) ?_ ?_
      · rintro j x H3 H4 hj ⟨acc, p1, p2, p3⟩ ⟨rfl, hx⟩
        obtain ⟨r, hr3⟩ : ∃ r, rows[j]? = some r := ⟨_, List.getElem?_eq_getElem (by omega)⟩
        obtain ⟨a, rfl, ha⟩ := hX.at_ j x r hx hr3
        have la : acc.length ≤ 4 := by
          have z := p3.length
          rw [List.length_map, List.length_take] at z
          omega
        have fin : ∀ (H5 : Hp) (u : Addr), Same H4 H5 → H5 u = some (.tup (r.map V.int)) → ∃ acc, H5 D = some (.lst acc) ∧ acc.length < sizeLine ∧ ∃ acc', (∀ b o, b ≠ D → H2 b = some o → upd H5 D (.lst (acc ++ [V.ref u])) b = some o) ∧ upd H5 D (.lst (acc ++ [V.ref u])) D = some (.lst acc') ∧ DqAll (upd H5 D (.lst (acc ++ [V.ref u]))) acc' ((rows.take (j + 1)).map tupD) := fun H5 u s5 hu => by
          have eD := s5 _ _ p2
          refine ⟨acc, eD, Nat.lt_of_le_of_lt la (by decide), acc ++ [.ref u], fun b o hb e => ?_, upd_same, ?_⟩
          · rw [upd_ne hb]
            exact s5 _ _ (p1 b o hb e)
          · have keep : ∀ b zs, H5 b = some (.tup zs) → upd H5 D (.lst (acc ++ [V.ref u])) b = some (.tup zs) := fun b zs e => by
              rw [upd_ne (fun z => by rw [z, eD] at e; cases e)]
              exact e
            rw [take_succ_get hr3, List.map_append]
            exact ((p3.mono s5).rows keep).append (.cons (d := tupD r) (.tup (keep _ _ hu) (DqAll.ints r)) .nil)
        refine ⟨rfl, yes_if ⟨_, rfl, a, r.map V.int, rfl, ?_⟩⟩
        rcases ha with ha | ha
        · exact .inl ⟨SqL.of (p1 _ _ (fun z => by rw [z, nD] at ha; cases ha) ha), fun u nu => fin _ u (same_new nu) upd_same⟩
        · have e := p1 _ _ (fun z => by rw [z, nD] at ha; cases ha) ha
          exact .inr ⟨SqT.of e, fin _ a (Same.refl _) e⟩
      · rintro H3 ⟨acc, p1, p2, p3⟩
        rw [yl, List.take_length] at p3
        have s3 : Same H2 H3 := fun b o e => p1 b o (ne_of_none e nD) e
        have b3 : Box H3 bx (f - 1 - 40) := by
          obtain ⟨x1, x2, x3, x4, x5⟩ := b2
          exact ⟨x1, x2, x3, s3 _ _ x4, x5⟩
        refine ⟨by show 2 ≤ sizeLine; decide, fun r nr => ?_⟩
        have s13 := s12.trans (Same.sb s3)
        have sn := same_new (o := .lst [.str (Str.ofString "tests"), .ref D]) nr
        exact q _ ⟨.tst, rows⟩ _ ⟨⟨by show rows.length < 90; omega, fun r hr => (hr2 r hr).1⟩, (fun z => nomatch z), fun _ r hr => (hr2 r hr).2⟩ (by show rows.length ≤ 32; omega) ⟨r, D, acc, rfl, s13.free (b3.ne nr) nr, s12.free nDb nD, upd_same, sn _ _ p2, p3.mono sn⟩ (s13.new nr) ((b3.new nr).le (by omega))
theorem bd_law_thing {K : PySem.W.Frag} {mg : Str → Option Value} (T : Txt K mg) : Binds K (fdAt K (ga K "_law_thing")) ["_law_box_here", "_law_many"] [] := T.f_law_thing.bindsN fun _ _ _ _ _ _ us hl => match us, hl with | [_, _], _ => rfl
theorem c_law_thing {X : Cx} {e : Expr} {es : List Expr} {t : TA} {p pos : Pos} (T : Txt X.K X.mg) (hr : Room 4 X.A) (ha : PA X (e :: es) t) (hg : Gl X "_law_thing" := by rfl) (he : starEach (e :: es) X.env = (false, eval e X.env) :: starEach es X.env := by rfl) (hpl : (backTo pos (starEach es X.env)).any (·.1) = false := by rfl) :
    PE X (.Call (.Name "_law_thing" p) (e :: es) [] pos) (tCall (spThing) [] E0 t) := pe_call (ok_law_thing T) hr hg T.g_law_thing T.f_law_thing.kp (bd_law_thing T) .nil pass0 ha (by decide) he hpl
end
end K57
/-! L8 -/
namespace K57
open PySem PySem.Spec PyProof.Rows L2 He
/-! ### a thing made to be handed in -/
def MIn (K : PySem.W.Frag) (H0 H : Hp) (n : Nat) (v : V) (t : Thing) : Prop := match t.k with
  | .net => ∃ x, v = .ref x ∧ H0 x = none ∧ HasRows H (ga K "Network") x "own_steps" n t.rows
  | .ord => ∃ x, v = .ref x ∧ H0 x = none ∧ HasRows H (ga K "Order") x "own_pairs" n t.rows
  | .tst => ∃ (a : Addr) (xs : List V), v = .ref a ∧ H0 a = none ∧ RowsB H xs t.rows ∧ (H a = some (.tup xs) ∨ (H a = some (.lst xs) ∧ ∀ x ∈ xs, ∃ b zs, x = .ref b ∧ H0 b = none ∧ H b = some (.lst zs)))
theorem call_lstK {X : Cx} {K : PySem.W.Frag} (h : X.K = K := by rfl) : CallR X (.type "list") (fun xs H Q => ∃ p ys, xs = [.ref p] ∧ (SqL K H p ys ∨ SqT K H p ys) ∧ ∀ l, H l = none → Q (.ref l) (upd H l (.lst ys))) := by
  subst h
  exact call_list_of
theorem DqAll.rowsB {H : Hp} {xs : List V} {rows : List (List Int)} (h : DqAll H xs (rows.map tupD)) : RowsB H xs rows := by
  refine ⟨by have := h.length; rw [List.length_map] at this; exact this, fun i x r h1 h2 => ?_⟩
  obtain ⟨d, e1, e2⟩ := h.get' h1
  rw [List.getElem?_map, h2] at e1
  cases e1
  obtain ⟨b, e, hb⟩ := tupD_ e2
  exact ⟨b, e, .inr hb⟩
theorem refused_none {H : Hp} {C : Addr} {f : Str} {ok : PyData → Bool} {xs : List V} {ds : List PyData} {E : XK} (hall : ∀ d ∈ ds, ok d = true) : Refused H C f ok xs ds E := by
  intro i u du hu hdu hno
  rw [hall du (List.mem_of_getElem? hdu)] at hno
  cases hno
theorem map_tupD_inj {a b : List (List Int)} (h : a.map tupD = b.map tupD) : a = b := by
  have := congrArg (List.map intsOf) h
  rw [map_intsOf, map_intsOf] at this
  exact this
section
variable {P : Program} {w : World} {K : PySem.W.Frag} {mg : Str → Option Value} {base : Heap}
def spMade (K : PySem.W.Frag) : Sp := fun vs H Q _ => ∃ (n : Nat) (v : V) (t : Thing), vs = [.int n, v] ∧ 2 ≤ n ∧ n ≤ 4 ∧ LThing H v t ∧ Good n t ∧ ∀ v' H1, Same H H1 → MIn K H H1 n v' t → Q v' H1
theorem sc_law_made : FnScope ["_law_many", "_law_thing_here", "_law_line_up"] ["_law_many", "_law_thing_here"] (defScope sLawMade) := ⟨rfl, rfl, rfl, by decide +kernel, rfl, by decide +kernel, by decide +kernel⟩
theorem ok_law_made (T : Txt K mg) : FnOk P w K mg base CX0 6 (ga K "_law_made") (fdAt K (ga K "_law_made")) ["_law_many", "_law_thing_here"] (spMade K) := by
  refine T.f_law_made.ok sc_law_made (fun vs H Q E h => ?_) (fun cdv A outer s H vs Q E hr h => ?_)
  · obtain ⟨n, v, t, rfl, _⟩ := h
    rfl
  obtain ⟨n, v, t, rfl, h1, h2, ⟨p, l, ys, rfl, hp, hl, hd⟩, hg, q⟩ := h
  refine ⟨_, PSs.nox (pss_cons (ps_if (pt_cmpR op_eq (pe_ix ix_list (pv 1) pe_int (fun _ _ => rfl)) pe_str (nomark _)) (pss_one (ps_ret (c_Network T (hr.mono (by decide)) pass_non (pa_cons (pv 0) (pa_cons (pe_ix ix_list (pv 1) pe_int (fun _ _ => rfl)) pa_nil))))) pss_nil)
    (pss_cons (ps_if (pt_cmpR op_eq (pe_ix ix_list (pv 1) pe_int (fun _ _ => rfl)) pe_str (nomark _)) (pss_one (ps_ret (c_Order T (hr.mono (by decide)) pass_non (pa_cons (pv 0) (pa_cons (pe_ix ix_list (pv 1) pe_int (fun _ _ => rfl)) pa_nil))))) pss_nil)
    (pss_one (ps_ret (pe_ifExp (pt_cmpR op_eq (pe_op op_modN (t_int call_int1 T (pa_cons (b_len call_len_seq T (pa_cons (pe_ix ix_list (pv 1) pe_int (fun _ _ => rfl)) pa_nil)) pa_nil)) pe_int) pe_int (nomark _)) (t_tuple call_tuple_of T (pa_cons (pe_ix ix_list (pv 1) pe_int (fun _ _ => rfl)) pa_nil)) (pe_lc (own := [("_law_line_up", 2)]) rfl sc_law_made.nd (pi_list (pe_ix ix_list (pv 1) pe_int (fun _ _ => rfl))) (blkOk_by (N := ["_law_many", "_law_thing_here", "_law_line_up"]) (sc := defScope sLawMade) (by decide +kernel)) (fun _ _ _ _ _ => pg_name (i := 2) sc_law_made.nd rfl (Or.inl rfl)) (fun _ _ _ _ _ => pts_nil) (fun _ _ _ _ _ => (t_list (call_lstK (K := K)) T (pa_cons (pv 2) pa_nil))))))))), ?_⟩
  have at0 : atI [V.str (kindS t.k), V.ref l] 0 = some (V.str (kindS t.k)) := atI_nat (j := 0) rfl
  have at1 : atI [V.str (kindS t.k), V.ref l] 1 = some (V.ref l) := atI_nat (j := 1) rfl
  refine ⟨_, rfl, p, _, _, _, rfl, rfl, SqL.of hp, at0, rfl, _, rfl, ?_⟩
  obtain ⟨k, rows⟩ := t
  obtain ⟨⟨hrl, hrows⟩, hord, _⟩ := hg
  have hrl' : rows.length < 90 := hrl
  have yl : ys.length = rows.length := by
    have := hd.length
    rw [List.length_map] at this
    exact this
  cases k with
  | net =>
    refine iteT' (decide_eq_true rfl) ?_
    refine ⟨_, rfl, _, rfl, p, _, _, _, rfl, rfl, SqL.of hp, at1, ?_⟩
    refine net_mk (ds := rows.map tupD) (by omega) (by omega) hl hd (refused_none fun d hdm => ?_) fun rows' er hr' H1 x s nx hx => ?_
    · obtain ⟨r, hr2, e⟩ := List.mem_map.mp hdm
      subst e
      exact step_ok (hrows r hr2)
    · have e := map_tupD_inj er
      subst e
      exact q _ H1 s ⟨x, rfl, nx, hx⟩
  | ord =>
    have nk : ¬ (kindS .ord = Str.ofString "network") := by decide +kernel
    refine iteF' (decide_eq_false fun z => nk (V.str.inj z)) ?_
    refine ⟨_, rfl, p, _, _, _, rfl, rfl, SqL.of hp, at0, rfl, _, rfl, ?_⟩
    refine iteT' (decide_eq_true rfl) ?_
    refine ⟨_, rfl, _, rfl, p, _, _, _, rfl, rfl, SqL.of hp, at1, ?_⟩
    have hall : ∀ d ∈ rows.map tupD, pairB n d = true := fun d hdm => by
      obtain ⟨r, hr2, e⟩ := List.mem_map.mp hdm
      subst e
      exact (hrows r hr2).2
    refine ord_mk (ds := rows.map tupD) (by omega) (by omega) hl hd (refused_none hall) (fun rows' _ er _ hring => ?_) fun rows' _ er hr' hring H1 x s nx hx => ?_
    · have e := map_tupD_inj er
      subst e
      exact absurd (hord rfl).2 hring
    · have e := map_tupD_inj er
      subst e
      have hx' : HasRows H1 (ga K "Order") x "own_pairs" n (closedL n rows) := hx
      rw [show closedL n rows = rows from (hord rfl).1] at hx'
      exact q _ H1 s ⟨x, rfl, nx, hx'⟩
  | tst =>
    have nk : ¬ (kindS .tst = Str.ofString "network") := by decide +kernel
    have nk2 : ¬ (kindS .tst = Str.ofString "order") := by decide +kernel
    refine iteF' (decide_eq_false fun z => nk (V.str.inj z)) ?_
    refine ⟨_, rfl, p, _, _, _, rfl, rfl, SqL.of hp, at0, rfl, _, rfl, ?_⟩
    refine iteF' (decide_eq_false fun z => nk2 (V.str.inj z)) ?_
    refine ⟨_, rfl, p, _, _, _, rfl, rfl, SqL.of hp, at1, l, ys, rfl, .inl (SqL.of hl), .inl ⟨_, rfl, _, _, rfl, rfl, (show (2 : Int) ≠ 0 by decide), rfl, _, rfl, iteB (fun _ => ?_) (fun _ => ?_)⟩⟩
    · refine ⟨_, rfl, p, _, _, _, rfl, rfl, SqL.of hp, at1, l, ys, rfl, .inl ⟨SqL.of hl, fun u nu => ?_⟩⟩
      have s := same_new (o := .tup ys) nu
      exact q _ _ s ⟨u, ys, rfl, nu, (hd.mono s).rowsB, .inl upd_same⟩
    · refine ⟨_, rfl, p, _, _, _, rfl, rfl, SqL.of hp, at1, l, rfl, ⟨ys, SqL.of hl⟩, fun D nD => ?_⟩
      refine lc_it (walk_list (xs := ys)) (fun j H3 => ∃ acc : List V, Same H H3 ∧ D ∉ acc.filterMap (fun | .ref a => some a | _ => none) ∧ H3 D = some (.lst acc) ∧ acc.length = j ∧ ∀ (i : Nat) r, i < j → rows[i]? = some r → ∃ b, acc[i]? = some (.ref b) ∧ H b = none ∧ b ≠ D ∧ H3 b = some (.lst (r.map V.int))) ⟨[], same_new nD, by simp, upd_same, rfl, fun i r hi => absurd hi (Nat.not_lt_zero _)⟩ (fun j H3 _ hP => by
        obtain ⟨acc, p1, _⟩ := hP
        exact SqL.of (p1 _ _ hl)) ?_ ?_
      · rintro j x H3 H4 hj ⟨acc, p1, p0, p2, p3, p4⟩ ⟨rfl, hx⟩
        obtain ⟨r, hr3⟩ : ∃ r, rows[j]? = some r := ⟨_, List.getElem?_eq_getElem (by omega)⟩
        obtain ⟨a, rfl, ha⟩ := hd.rowsB.at_ j x r hx hr3
        have ha4 := SqB.mono p1 ha
        refine ⟨rfl, yes_if ⟨_, rfl, a, r.map V.int, rfl, ha4.elim (fun z => .inl (SqL.of z)) (fun z => .inr (SqT.of z)), fun u nu => ?_⟩⟩
        have uD : u ≠ D := fun z => by rw [z, p2] at nu; cases nu
        have nuH : H u = none := p1.free nu
        have sn := same_new (o := .lst (r.map V.int)) nu
        refine ⟨acc, sn _ _ p2, Nat.lt_of_le_of_lt (show acc.length ≤ 90 by omega) (by decide), acc ++ [.ref u], fun b o e => ?_, ?_, upd_same, by rw [List.length_append, p3] <;> rfl, fun i r' hi hr' => ?_⟩
        · rw [upd_ne (ne_of_none e nD)]
          exact sn _ _ (p1 _ _ e)
        · rw [List.filterMap_append]
          intro hm
          rcases List.mem_append.mp hm with hm | hm
          · exact p0 hm
          · simp at hm
            exact uD hm.symm
        · by_cases hij : i < j
          · obtain ⟨b, e1, e2, e3, e4⟩ := p4 i r' hij hr'
            refine ⟨b, by rw [List.getElem?_append_left (by omega)]; exact e1, e2, e3, ?_⟩
            rw [upd_ne e3]
            exact sn _ _ e4
          · have e : i = j := by omega
            subst e
            rw [hr3] at hr'
            cases hr'
            refine ⟨u, by rw [List.getElem?_append_right (by omega), p3]; simp, nuH, uD, ?_⟩
            rw [upd_ne uD, upd_same]
      · rintro H3 ⟨acc, p1, p0, p2, p3, p4⟩
        refine q _ H3 p1 ⟨D, acc, rfl, nD, ⟨by show acc.length = rows.length; omega, fun i x r h1 h2 => ?_⟩, .inr ⟨p2, fun x hx => ?_⟩⟩
        · obtain ⟨b, e1, e2, e3, e4⟩ := p4 i r (by have := (List.getElem?_eq_some_iff.mp h1).1; omega) h2
          rw [h1] at e1
          cases e1
          exact ⟨b, rfl, .inl e4⟩
        · obtain ⟨i, hi, e⟩ := List.getElem_of_mem hx
          obtain ⟨r, hr3⟩ : ∃ r, rows[i]? = some r := ⟨_, List.getElem?_eq_getElem (by omega)⟩
          obtain ⟨b, e1, e2, e3, e4⟩ := p4 i r (by omega) hr3
          rw [List.getElem?_eq_getElem hi, e] at e1
          cases e1
          exact ⟨b, _, rfl, e2, e4⟩
theorem bd_law_made {K : PySem.W.Frag} {mg : Str → Option Value} (T : Txt K mg) : Binds K (fdAt K (ga K "_law_made")) ["_law_many", "_law_thing_here"] [] := T.f_law_made.bindsN fun _ _ _ _ _ _ us hl => match us, hl with | [_, _], _ => rfl
theorem c_law_made {X : Cx} {e : Expr} {es : List Expr} {t : TA} {p pos : Pos} (T : Txt X.K X.mg) (hr : Room 6 X.A) (ha : PA X (e :: es) t) (hg : Gl X "_law_made" := by rfl) (he : starEach (e :: es) X.env = (false, eval e X.env) :: starEach es X.env := by rfl) (hpl : (backTo pos (starEach es X.env)).any (·.1) = false := by rfl) :
    PE X (.Call (.Name "_law_made" p) (e :: es) [] pos) (tCall ((spMade X.K)) [] E0 t) := pe_call (ok_law_made T) hr hg T.g_law_made T.f_law_made.kp (bd_law_made T) .nil pass0 ha (by decide) he hpl
end
end K57
/-! L9 -/
namespace K57
open PySem PySem.Spec PyProof.Rows L2 He
/-! ### names -/
def nameL : List Str := ["a", "net", "few", "know", "zz", "abcdefgh"]
def Nm (x : Str) : Prop := x ∈ nameL
theorem nm_at {d : Int} (d0 : 0 ≤ d) (d1 : d < 6) : ∃ x, atI [V.str (Str.ofString "a"), V.str (Str.ofString "net"), V.str (Str.ofString "few"), V.str (Str.ofString "know"), V.str (Str.ofString "zz"), V.str (Str.ofString "abcdefgh")] d = some (.str x) ∧ Nm x := by
  have h : d = ((0 : Nat) : Int) ∨ d = ((1 : Nat) : Int) ∨ d = ((2 : Nat) : Int) ∨ d = ((3 : Nat) : Int) ∨ d = ((4 : Nat) : Int) ∨ d = ((5 : Nat) : Int) := by omega
  rcases h with z | z | z | z | z | z <;> rw [z]
  · exact ⟨_, atI_nat rfl, by simp [Nm, nameL]⟩
  · exact ⟨_, atI_nat rfl, by simp [Nm, nameL]⟩
  · exact ⟨_, atI_nat rfl, by simp [Nm, nameL]⟩
  · exact ⟨_, atI_nat rfl, by simp [Nm, nameL]⟩
  · exact ⟨_, atI_nat rfl, by simp [Nm, nameL]⟩
  · exact ⟨_, atI_nat rfl, by simp [Nm, nameL]⟩
theorem seq_cut {a b : TS} {D : Ends} {σ : L2.St} {H : Hp} (R : L2.St → Hp → Prop) (hb : ∀ σ H, R σ H → b D σ H) (ha : (∀ σ H, R σ H → b D σ H) → a { D with nx := b D } σ H) : tSeq a b D σ H := ha hb
section
variable {P : Program} {w : World} {K : PySem.W.Frag} {mg : Str → Option Value} {base : Heap}
def spName : Sp := fun vs H Q _ => ∃ (bx sd : Addr) (kvs : List (Key × V)) (ks : List Str) (f : Int), vs = [.ref bx, .ref sd] ∧ H sd = some (.dK kvs) ∧ kvs.map (·.1) = ks.map Sum.inr ∧ ks.length < 64 ∧ (∀ x ∈ ks, Nm x) ∧ 2 ≤ f ∧ Box H bx f ∧
  ∀ x H1, Nm x → Sb bx H H1 → Box H1 bx (f - 2) → Q (.str x) H1
theorem sc_law_name : FnScope ["_law_box_here", "_law_state"] ["_law_box_here", "_law_state"] (defScope sLawName) := ⟨rfl, rfl, rfl, by decide +kernel, rfl, by decide +kernel, by decide +kernel⟩
theorem ok_law_name (T : Txt K mg) : FnOk P w K mg base CX0 2 (ga K "_law_name") (fdAt K (ga K "_law_name")) ["_law_box_here", "_law_state"] spName := by
  refine T.f_law_name.ok sc_law_name (fun vs H Q E h => ?_) (fun cdv A outer s H vs Q E hr h => ?_)
  · obtain ⟨bx, sd, kvs, ks, f, rfl, _⟩ := h
    rfl
  obtain ⟨bx, sd, kvs, ks, f, rfl, hsd, hks, hlt, hnm, hf, hbx, q⟩ := h
  refine ⟨_, PSs.nox (pss_cons (ps_if (PW.pt (pw_and (pt_cmpR (op_neE (un0 hr)) (pv 1) pe_dnewK (nomark _)) (pw_and1 (pt_cmpR op_gt (c_law_take T (hr.mono (by decide)) (pa_cons (pv 0) (pa_cons pe_int pa_nil))) pe_int (nomark _))))) (pss_one (ps_ret (pe_ix ix_list (b_sorted (call_sortedD rfl) T (pa_cons (pv 1) pa_nil)) (c_law_take T (hr.mono (by decide)) (pa_cons (pv 0) (pa_cons (b_len call_lenD T (pa_cons (pv 1) pa_nil)) pa_nil))) (fun _ _ => rfl)))) pss_nil)
    (pss_one (ps_ret (pe_ix ix_list (pe_lst (pa_cons pe_str (pa_cons pe_str (pa_cons pe_str (pa_cons pe_str (pa_cons pe_str (pa_cons pe_str pa_nil))))))) (c_law_take T (hr.mono (by decide)) (pa_cons (pv 0) (pa_cons pe_int pa_nil))) (fun _ _ => rfl))))), ?_⟩
  have klen : kvs.length = ks.length := by
    have := congrArg List.length hks
    rw [List.length_map, List.length_map] at this
    exact this
  have sdb : sd ≠ bx := fun z => by
    obtain ⟨x1, x2, x3, x4, _⟩ := hbx
    rw [z, x4] at hsd
    cases hsd
  refine seq_cut (fun σ H' => σ = [some (.ref bx), some (.ref sd)] ∧ Sb bx H H' ∧ Box H' bx (f - 1)) ?_ (fun k => ?_)
  · rintro σ H' ⟨rfl, s1, b1⟩
    refine ⟨by show 6 ≤ sizeLine; decide, fun l nl => ⟨_, rfl, bx, 6, f - 1, rfl, by decide, by decide, by omega, b1.new nl, fun d H2 d0 d1 u2 b2 => ?_⟩⟩
    obtain ⟨x, hx, hx2⟩ := nm_at d0 d1
    exact ⟨l, _, d, _, rfl, rfl, SqL.of (Sb.box u2 _ _ (b1.ne nl) upd_same), hx, q x H2 hx2 ((s1.new nl).trans (Sb.box u2)) (b2.le (by omega))⟩
  · refine ⟨_, rfl, fun e ne => ⟨sd, e, kvs, rfl, rfl, same_new ne _ _ hsd, upd_same, _, rfl, iteB (fun c => ?_) (fun _ => iteF (k _ _ ⟨rfl, Same.sb (same_new ne), (hbx.new ne).le (by omega)⟩))⟩⟩
    have s0 := same_new (o := .dK []) ne
    have hne : 1 ≤ ks.length := by
      cases ks with
      | nil =>
        have : kvs = [] := List.eq_nil_of_length_eq_zero klen
        rw [this] at c
        cases c
      | cons a l => exact Nat.succ_le_succ (Nat.zero_le _)
    refine ⟨_, rfl, bx, 4, f, rfl, by decide, by decide, by omega, hbx.new ne, fun d H2 d0 d1 u2 b2 => ⟨_, _, rfl, rfl, _, rfl, iteB (fun _ => ?_) (fun _ => k _ _ ⟨rfl, (Same.sb s0).trans (Sb.box u2), b2⟩)⟩⟩
    have e_sd : H2 sd = some (.dK kvs) := Sb.box u2 _ _ sdb (s0 _ _ hsd)
    refine ⟨_, rfl, sd, kvs, ks, rfl, .of e_sd, hks, hlt, fun ys p hp _ np => ⟨_, rfl, _, rfl, sd, kvs, rfl, same_new np _ _ e_sd, bx, _, f - 1, rfl, by omega, by omega, by omega, b2.new np, fun d2 H3 e0 e1 u3 b3 => ?_⟩⟩
    have hyl : ys.length = kvs.length := by rw [klen]; exact hp.length_eq
    obtain ⟨x, hx⟩ : ∃ x, ys[d2.toNat]? = some x := ⟨_, List.getElem?_eq_getElem (by omega)⟩
    have hd : ((d2.toNat : Nat) : Int) = d2 := Int.toNat_of_nonneg e0
    have at_ : atI (ys.map V.str) d2 = some (.str x) := by
      rw [← hd]
      exact atI_nat (by rw [List.getElem?_map, hx]; rfl)
    exact ⟨p, _, d2, _, rfl, rfl, SqL.of (Sb.box u3 _ _ (b2.ne np) upd_same), at_, q x H3 (hnm x (hp.mem_iff.mp (List.mem_of_getElem? hx))) (((Same.sb s0).trans (Sb.box u2)).trans ((Same.sb (same_new np)).trans (Sb.box u3))) (b3.le (by omega))⟩
theorem bd_law_name {K : PySem.W.Frag} {mg : Str → Option Value} (T : Txt K mg) : Binds K (fdAt K (ga K "_law_name")) ["_law_box_here", "_law_state"] [] := T.f_law_name.bindsN fun _ _ _ _ _ _ us hl => match us, hl with | [_, _], _ => rfl
theorem c_law_name {X : Cx} {e : Expr} {es : List Expr} {t : TA} {p pos : Pos} (T : Txt X.K X.mg) (hr : Room 2 X.A) (ha : PA X (e :: es) t) (hg : Gl X "_law_name" := by rfl) (he : starEach (e :: es) X.env = (false, eval e X.env) :: starEach es X.env := by rfl) (hpl : (backTo pos (starEach es X.env)).any (·.1) = false := by rfl) :
    PE X (.Call (.Name "_law_name" p) (e :: es) [] pos) (tCall (spName) [] E0 t) := pe_call (ok_law_name T) hr hg T.g_law_name T.f_law_name.kp (bd_law_name T) .nil pass0 ha (by decide) he hpl
end
end K57
/-! L10 -/
namespace K57
open PySem PySem.Spec PyProof.Rows L2 He
/-! ### items -/
def rgI (n : Nat) : List Int := (List.range n).map fun i => ((i : Nat) : Int)
/-- what may be handed to add -/
def ItemD (d : PyData) : Prop := d = .none ∨ d = .int 3 ∨ d = .str "01" ∨ (∃ ns : List Int, d = tupD ns ∧ 1 ≤ ns.length ∧ ns.length ≤ 4 ∧ ∀ x ∈ ns, 0 ≤ x ∧ x ≤ 4) ∨ (∃ a b : Int, d = .list [.int a, .int b] ∧ (0 ≤ a ∧ a ≤ 4) ∧ 0 ≤ b ∧ b ≤ 4) ∨ d = .tuple [.bool true, .int 1]
/-- the lines in some order, told of more than two lines only -/
def PermI (n : Nat) (d : PyData) : Prop := 2 < n ∧ ∃ ns : List Int, d = tupD ns ∧ ns.Perm (rgI n)
theorem PermI.short {n : Nat} {ns : List Int} (h : PermI n (tupD ns)) (hl : ns.length ≤ 2) : False := by
  obtain ⟨h1, ms, e, p⟩ := h
  have e2 : ns = ms := by
    have := congrArg intsOf e
    rw [intsOf_tup, intsOf_tup] at this
    exact this
  subst e2
  have := p.length_eq
  unfold rgI at this
  rw [List.length_map, List.length_range] at this
  omega
theorem PermI.zeros {n k : Nat} (h : PermI n (tupD (List.replicate k 0))) : False := by
  obtain ⟨h1, ms, e, p⟩ := h
  have e2 : List.replicate k 0 = ms := by
    have := congrArg intsOf e
    rw [intsOf_tup, intsOf_tup] at this
    exact this
  subst e2
  have hm : (1 : Int) ∈ rgI n := List.mem_map.mpr ⟨1, List.mem_range.mpr (by omega), rfl⟩
  have := List.eq_of_mem_replicate (p.mem_iff.mpr hm)
  omega
theorem item_tup {ns : List Int} (h1 : 1 ≤ ns.length) (h2 : ns.length ≤ 4) (h : ∀ x ∈ ns, 0 ≤ x ∧ x ≤ 4) : ItemD (tupD ns) := .inr (.inr (.inr (.inl ⟨ns, rfl, h1, h2, h⟩)))
section
variable {P : Program} {w : World} {K : PySem.W.Frag} {mg : Str → Option Value} {base : Heap}
def spItem : Sp := fun vs H Q _ => ∃ (bx : Addr) (n : Nat) (kd : Str) (f : Int), vs = [.ref bx, .int n, .str kd] ∧ 2 ≤ n ∧ n ≤ 4 ∧ 20 ≤ f ∧ Box H bx f ∧
  ∀ v d H1, ItemD d → (PermI n d → kd = Str.ofString "tests") → Dq H1 v d → (∀ ds, d = .list ds → ∃ p, v = .ref p ∧ H p = none) → Sb bx H H1 → Box H1 bx (f - 20) → Q v H1
theorem sc_law_item : FnScope ["_law_box_here", "_law_many", "_law_kind", "_law_a", "_law_b", "_law_odd"] ["_law_box_here", "_law_many", "_law_kind"] (defScope sLawItem) := ⟨rfl, rfl, rfl, by decide +kernel, rfl, by decide +kernel, by decide +kernel⟩
theorem ok_law_item (T : Txt K mg) : FnOk P w K mg base CX0 3 (ga K "_law_item") (fdAt K (ga K "_law_item")) ["_law_box_here", "_law_many", "_law_kind"] spItem := by
  refine T.f_law_item.ok sc_law_item (fun vs H Q E h => ?_) (fun cdv A outer s H vs Q E hr h => ?_)
  · obtain ⟨bx, n, kd, f, rfl, _⟩ := h
    rfl
  obtain ⟨bx, n, kd, f, rfl, h1, h2, hf, hbx, q⟩ := h
  refine ⟨_, PSs.nox (pss_cons (ps_par (i := 3) (j := 4) (by rfl) sc_law_item.nd rfl rfl (by decide) rfl rfl (pa_cons (c_law_take T (hr.mono (by decide)) (pa_cons (pv 0) (pa_cons (pv 1) pa_nil))) (pa_cons (c_law_take T (hr.mono (by decide)) (pa_cons (pv 0) (pa_cons (pv 1) pa_nil))) pa_nil)) (by rfl))
    (pss_cons (ps_if (pt_cmpR op_eq (c_law_take T (hr.mono (by decide)) (pa_cons (pv 0) (pa_cons pe_int pa_nil))) pe_int (nomark _)) (pss_cons (ps_set (i := 5) sc_law_item.nd rfl (Or.inl rfl) (pe_lst (pa_cons pe_non (pa_cons pe_int (pa_cons (pe_tup (pa_cons (pv 3) pa_nil)) (pa_cons (pe_tup (pa_cons (pv 3) (pa_cons (pv 3) pa_nil))) (pa_cons (pe_tup (pa_cons (pv 1) (pa_cons (pv 3) pa_nil))) (pa_cons (pe_lst (pa_cons (pv 3) (pa_cons (pv 4) pa_nil))) (pa_cons pe_str (pa_cons (pe_op op_repT (pe_tup (pa_cons pe_int pa_nil)) (pv 1)) (pa_cons (pe_tup (pa_cons pe_bl (pa_cons pe_int pa_nil))) pa_nil)))))))))))
    (pss_one (ps_ret (pe_ix ix_list (pv 5) (c_law_take T (hr.mono (by decide)) (pa_cons (pv 0) (pa_cons pe_int pa_nil))) (fun _ _ => rfl))))) pss_nil)
    (pss_cons (ps_if (pt_cmpR op_eq (pv 2) pe_str (nomark _)) (pss_one (ps_ret (t_tuple call_tuple_of T (pa_cons (c_law_mixed T (hr.mono (by decide)) (pa_cons (pv 0) (pa_cons (pe_listRg rfl (by rfl) T.z_list (prg_1 (by rfl) T.z_range (pv 1))) pa_nil))) pa_nil)))) pss_nil)
    (pss_one (ps_ret (pe_ifExp (pt_cmpR op_eq (pv 2) pe_str (nomark _)) (pe_tup (pa_cons (b_min (call_min2 rfl) T (pa_cons (pv 3) (pa_cons (pv 4) pa_nil))) (pa_cons (b_max (call_max2 rfl) T (pa_cons (pv 3) (pa_cons (pv 4) pa_nil))) pa_nil))) (pe_tup (pa_cons (pv 3) (pa_cons (pv 4) pa_nil))))))))), ?_⟩
  refine ⟨_, rfl, _, rfl, bx, n, f, rfl, by omega, by omega, by omega, hbx, fun a H1 a0 a1 u1 b1 => ⟨_, rfl, _, rfl, bx, n, f - 1, rfl, by omega, by omega, by omega, b1, fun b H2 c0 c1 u2 b2 => ⟨_, _, rfl, ?_⟩⟩⟩
  refine ⟨_, rfl, bx, 7, f - 1 - 1, rfl, by decide, by decide, by omega, b2, fun w H3 w0 w1 u3 b3 => ⟨rfl, _, rfl, iteB (fun _ => ?_) (fun _ => ?_)⟩⟩
  · have s3 : Sb bx H H3 := ((Sb.box u1).trans (Sb.box u2)).trans (Sb.box u3)
    refine ⟨_, rfl, (show 1 ≤ sizeLine by decide), fun t1 n1 => ⟨_, rfl, _, rfl, (show 2 ≤ sizeLine by decide), fun t2 n2 => ⟨_, rfl, _, rfl, (show 2 ≤ sizeLine by decide), fun t3 n3 => ⟨_, rfl, _, rfl, (show 2 ≤ sizeLine by decide), fun l1 n4 => ⟨(show 1 ≤ sizeLine by decide), fun t0 n5 => ⟨_, rfl, t0, n, _, rfl, rfl, SqT.of upd_same, by simp, by omega, by omega, (show 1 ≤ 1000 by decide), fun tz n6 => ⟨(show 2 ≤ sizeLine by decide), fun tb n7 => ⟨(show 9 ≤ sizeLine by decide), fun L n8 => ?_⟩⟩⟩⟩⟩⟩⟩⟩
    obtain ⟨G1, hG1⟩ : ∃ G, G = upd H3 t1 (.tup [.int a]) := ⟨_, rfl⟩
    rw [← hG1] at n2 n3 n4 n5 n6 n7 n8 ⊢
    have s1 : Same H3 G1 := by rw [hG1]; exact same_new n1
    have e1 : G1 t1 = some (.tup [.int a]) := by rw [hG1]; exact upd_same
    obtain ⟨G2, hG2⟩ : ∃ G, G = upd G1 t2 (.tup [.int a, .int a]) := ⟨_, rfl⟩
    rw [← hG2] at n3 n4 n5 n6 n7 n8 ⊢
    have s2 : Same G1 G2 := by rw [hG2]; exact same_new n2
    have e2 : G2 t2 = some (.tup [.int a, .int a]) := by rw [hG2]; exact upd_same
    obtain ⟨G3, hG3⟩ : ∃ G, G = upd G2 t3 (.tup [.int n, .int a]) := ⟨_, rfl⟩
    rw [← hG3] at n4 n5 n6 n7 n8 ⊢
    have s3' : Same G2 G3 := by rw [hG3]; exact same_new n3
    have e3 : G3 t3 = some (.tup [.int n, .int a]) := by rw [hG3]; exact upd_same
    obtain ⟨G4, hG4⟩ : ∃ G, G = upd G3 l1 (.lst [.int a, .int b]) := ⟨_, rfl⟩
    rw [← hG4] at n5 n6 n7 n8 ⊢
    have s4 : Same G3 G4 := by rw [hG4]; exact same_new n4
    have e4 : G4 l1 = some (.lst [.int a, .int b]) := by rw [hG4]; exact upd_same
    obtain ⟨G5, hG5⟩ : ∃ G, G = upd G4 t0 (.tup [.int 0]) := ⟨_, rfl⟩
    rw [← hG5] at n6 n7 n8 ⊢
    have s5 : Same G4 G5 := by rw [hG5]; exact same_new n5
    obtain ⟨G6, hG6⟩ : ∃ G, G = upd G5 tz (.tup (List.replicate ((n : Int)).toNat [V.int 0]).flatten) := ⟨_, rfl⟩
    rw [← hG6] at n7 n8 ⊢
    have s6 : Same G5 G6 := by rw [hG6]; exact same_new n6
    have e6 : G6 tz = some (.tup ((List.replicate n (0 : Int)).map V.int)) := by
      rw [hG6, upd_same, Int.toNat_natCast, flat_rep, List.map_replicate]
    obtain ⟨G7, hG7⟩ : ∃ G, G = upd G6 tb (.tup [.bl true, .int 1]) := ⟨_, rfl⟩
    rw [← hG7] at n8 ⊢
    have s7 : Same G6 G7 := by rw [hG7]; exact same_new n7
    have e7 : G7 tb = some (.tup [.bl true, .int 1]) := by rw [hG7]; exact upd_same
    have s17 : Same G1 G7 := s2.trans (s3'.trans (s4.trans (s5.trans (s6.trans s7))))
    have s8 := same_new (o := .lst [.non, .int 3, .ref t1, .ref t2, .ref t3, .ref l1, .str (Str.ofString "01"), .ref tz, .ref tb]) n8
    have b8 : Box (upd G7 L (.lst [.non, .int 3, .ref t1, .ref t2, .ref t3, .ref l1, .str (Str.ofString "01"), .ref tz, .ref tb])) bx (f - 1 - 1 - 1) := by
      obtain ⟨x1, x2, x3, x4, x5⟩ := b3
      exact ⟨x1, x2, x3, s8 _ _ (s17 _ _ (s1 _ _ x4)), x5⟩
    refine ⟨_, rfl, _, rfl, bx, 9, f - 1 - 1 - 1, rfl, by decide, by decide, by omega, b8, fun d H5 d0 d1 u5 b9 => ?_⟩
    have sb5 : Sb bx H H5 := (s3.trans (Same.sb (s1.trans (s17.trans s8)))).trans (Sb.box u5)
    have hbx8 : ∃ o, H3 bx = some o := by
      obtain ⟨x1, x2, x3, x4, x5⟩ := b3
      exact ⟨_, x4⟩
    have nb : ∀ {p : Addr}, H3 p = none → p ≠ bx := fun np z => by
      obtain ⟨o, ho⟩ := hbx8
      rw [z, ho] at np
      cases np
    have m1 : H3 t1 = none := n1
    have m2 := s1.free n2
    have m3 := s1.free (s2.free n3)
    have m4 := s1.free (s2.free (s3'.free n4))
    have m6 := s1.free (s2.free (s3'.free (s4.free (s5.free n6))))
    have m7 := s1.free (s2.free (s3'.free (s4.free (s5.free (s6.free n7)))))
    have m8 := s1.free (s17.free n8)
    have f1 : H5 t1 = some (.tup [.int a]) := Sb.box u5 _ _ (nb m1) (s8 _ _ (s17 _ _ e1))
    have f2 : H5 t2 = some (.tup [.int a, .int a]) := Sb.box u5 _ _ (nb m2) (s8 _ _ (s7 _ _ (s6 _ _ (s5 _ _ (s4 _ _ (s3' _ _ e2))))))
    have f3 : H5 t3 = some (.tup [.int n, .int a]) := Sb.box u5 _ _ (nb m3) (s8 _ _ (s7 _ _ (s6 _ _ (s5 _ _ (s4 _ _ e3)))))
    have f4 : H5 l1 = some (.lst [.int a, .int b]) := Sb.box u5 _ _ (nb m4) (s8 _ _ (s7 _ _ (s6 _ _ (s5 _ _ e4))))
    have f6 : H5 tz = some (.tup ((List.replicate n (0 : Int)).map V.int)) := Sb.box u5 _ _ (nb m6) (s8 _ _ (s7 _ _ e6))
    have f7 : H5 tb = some (.tup [.bl true, .int 1]) := Sb.box u5 _ _ (nb m7) (s8 _ _ e7)
    have f8 := Sb.box u5 _ _ (nb m8) upd_same
    have hb5 : Box H5 bx (f - 20) := b9.le (by omega)
    have ra : 0 ≤ a ∧ a ≤ 4 := ⟨a0, by omega⟩
    have cases9 : d = ((0 : Nat) : Int) ∨ d = ((1 : Nat) : Int) ∨ d = ((2 : Nat) : Int) ∨ d = ((3 : Nat) : Int) ∨ d = ((4 : Nat) : Int) ∨ d = ((5 : Nat) : Int) ∨ d = ((6 : Nat) : Int) ∨ d = ((7 : Nat) : Int) ∨ d = ((8 : Nat) : Int) := by omega
    have noL : ∀ {x : V} {ns : List Int}, ∀ ds, tupD ns = PyData.list ds → ∃ p, x = V.ref p ∧ H p = none := fun ds z => nomatch z
    rcases cases9 with z | z | z | z | z | z | z | z | z <;> rw [z]
    · exact ⟨L, _, _, .non, rfl, rfl, SqL.of f8, atI_nat rfl, q .non .none H5 (.inl rfl) (fun h => nomatch h.2.choose_spec.1) .non (fun ds z => nomatch z) sb5 hb5⟩
    · exact ⟨L, _, _, .int 3, rfl, rfl, SqL.of f8, atI_nat rfl, q (.int 3) (.int 3) H5 (.inr (.inl rfl)) (fun h => nomatch h.2.choose_spec.1) (.int 3) (fun ds z => nomatch z) sb5 hb5⟩
    · exact ⟨L, _, _, .ref t1, rfl, rfl, SqL.of f8, atI_nat rfl, q (.ref t1) (tupD [a]) H5 (item_tup (by simp) (by simp) (fun x hx => by rw [List.mem_singleton] at hx; rw [hx]; exact ra)) (fun h => (h.short (by simp)).elim) (.tup f1 (DqAll.ints [a])) noL sb5 hb5⟩
    · exact ⟨L, _, _, .ref t2, rfl, rfl, SqL.of f8, atI_nat rfl, q (.ref t2) (tupD [a, a]) H5 (item_tup (by simp) (by simp) (fun x hx => by
        have hx2 : x = a := by simpa using hx
        rw [hx2]; exact ra)) (fun h => (h.short (by simp)).elim) (.tup f2 (DqAll.ints [a, a])) noL sb5 hb5⟩
    · exact ⟨L, _, _, .ref t3, rfl, rfl, SqL.of f8, atI_nat rfl, q (.ref t3) (tupD [(n : Int), a]) H5 (item_tup (by simp) (by simp) (fun x hx => by
        have hx2 : x = n ∨ x = a := by simpa using hx
        rcases hx2 with e | e <;> rw [e]
        · omega
        · exact ra)) (fun h => (h.short (by simp)).elim) (.tup f3 (DqAll.ints [(n : Int), a])) noL sb5 hb5⟩
    · exact ⟨L, _, _, .ref l1, rfl, rfl, SqL.of f8, atI_nat rfl, q (.ref l1) (.list [.int a, .int b]) H5 (.inr (.inr (.inr (.inr (.inl ⟨a, b, rfl, ra, c0, by omega⟩))))) (fun h => nomatch h.2.choose_spec.1) (.lst f4 (DqAll.ints [a, b])) (fun ds _ => ⟨l1, rfl, s3.free (nb m4) m4⟩) sb5 hb5⟩
    · exact ⟨L, _, _, .str (Str.ofString "01"), rfl, rfl, SqL.of f8, atI_nat rfl, q (.str (Str.ofString "01")) (.str (Str.ofString "01")) H5 (.inr (.inr (.inl rfl))) (fun h => nomatch h.2.choose_spec.1) (.str _) (fun ds z => nomatch z) sb5 hb5⟩
    · exact ⟨L, _, _, .ref tz, rfl, rfl, SqL.of f8, atI_nat rfl, q (.ref tz) (tupD (List.replicate n 0)) H5 (item_tup (by rw [List.length_replicate]; omega) (by rw [List.length_replicate]; omega) (fun x hx => by rw [List.eq_of_mem_replicate hx]; decide)) (fun h => h.zeros.elim) (.tup f6 (DqAll.ints _)) noL sb5 hb5⟩
    · exact ⟨L, _, _, .ref tb, rfl, rfl, SqL.of f8, atI_nat rfl, q (.ref tb) (.tuple [.bool true, .int 1]) H5 (.inr (.inr (.inr (.inr (.inr rfl))))) (fun h => by
        obtain ⟨_, ns, e, _⟩ := h
        cases ns with
        | nil => cases e
        | cons x r => cases e) (.tup f7 (.cons (.bl true) (.cons (.int 1) .nil))) (fun ds z => nomatch z) sb5 hb5⟩
  · have s3 : Sb bx H H3 := ((Sb.box u1).trans (Sb.box u2)).trans (Sb.box u3)
    have noL : ∀ {x : V} {ns : List Int}, ∀ ds, tupD ns = PyData.list ds → ∃ p, x = V.ref p ∧ H p = none := fun ds z => nomatch z
    refine ⟨_, rfl, rfl, _, rfl, iteB (fun c => ?_) (fun _ => ?_)⟩
    · have hk : kd = Str.ofString "tests" := V.str.inj (of_decide_eq_true c)
      refine ⟨_, rfl, _, rfl, _, rfl, RgOk.of_le (by omega) (by omega) (by omega) (by omega), fun p np => ⟨bx, p, rgV 0 n, f - 1 - 1 - 1, rfl, upd_same, by rw [rgV_length]; omega, Ne.symm (b3.ne np), by rw [rgV_length]; omega, b3.new np, fun p2 ys H4 hp s4 np2 pb2 hp2 hb4 => ?_⟩⟩
      rw [rg_ints] at hp
      obtain ⟨ms, rfl, hm⟩ := ints_perm hp
      have hml : ms.length = n := by rw [hm.length_eq]; simp
      rw [rgV_length] at hb4
      refine ⟨p2, _, rfl, .inl ⟨SqL.of hp2, fun u nu => ?_⟩⟩
      exact q _ (tupD ms) _ (item_tup (by omega) (by omega) fun x hx => by
        have := rg_mem n x (hm.mem_iff.mp hx)
        omega) (fun _ => hk) (.tup upd_same (DqAll.ints ms)) noL (((s3.new np).trans s4).new nu) ((hb4.new nu).le (by omega))
    · refine ⟨_, rfl, rfl, _, rfl, iteB (fun _ => ?_) (fun _ => ?_)⟩
      · refine ⟨_, rfl, _, rfl, _, _, rfl, _, rfl, _, rfl, _, _, rfl, (show 2 ≤ sizeLine by decide), fun t nt => ?_⟩
        exact q _ (tupD [if b < a then b else a, if b > a then b else a]) _ (item_tup (by simp) (by simp) fun x hx => by
          have hx2 : x = (if b < a then b else a) ∨ x = (if b > a then b else a) := by simpa using hx
          rcases hx2 with e | e <;> rw [e] <;> split <;> omega) (fun h => (h.short (by simp)).elim) (.tup upd_same (DqAll.ints [if b < a then b else a, if b > a then b else a])) noL (s3.new nt) ((b3.new nt).le (by omega))
      · refine ⟨_, rfl, _, rfl, (show 2 ≤ sizeLine by decide), fun t nt => ?_⟩
        exact q _ (tupD [a, b]) _ (item_tup (by simp) (by simp) fun x hx => by
          have hx2 : x = a ∨ x = b := by simpa using hx
          rcases hx2 with e | e <;> rw [e] <;> omega) (fun h => (h.short (by simp)).elim) (.tup upd_same (DqAll.ints [a, b])) noL (s3.new nt) ((b3.new nt).le (by omega))
theorem bd_law_item {K : PySem.W.Frag} {mg : Str → Option Value} (T : Txt K mg) : Binds K (fdAt K (ga K "_law_item")) ["_law_box_here", "_law_many", "_law_kind"] [] := T.f_law_item.bindsN fun _ _ _ _ _ _ us hl => match us, hl with | [_, _, _], _ => rfl
theorem c_law_item {X : Cx} {e : Expr} {es : List Expr} {t : TA} {p pos : Pos} (T : Txt X.K X.mg) (hr : Room 3 X.A) (ha : PA X (e :: es) t) (hg : Gl X "_law_item" := by rfl) (he : starEach (e :: es) X.env = (false, eval e X.env) :: starEach es X.env := by rfl) (hpl : (backTo pos (starEach es X.env)).any (·.1) = false := by rfl) :
    PE X (.Call (.Name "_law_item" p) (e :: es) [] pos) (tCall (spItem) [] E0 t) := pe_call (ok_law_item T) hr hg T.g_law_item T.f_law_item.kp (bd_law_item T) .nil pass0 ha (by decide) he hpl
end
end K57
/-! L11 -/
namespace K57
open PySem PySem.Spec PyProof.Rows L2 He
/-! ### deeds -/
inductive Deed where
  | put (x : Str) (t : Thing)
  | add (x : Str) (u : V) (d : PyData)
  | drop (x : Str)
  | ren (x y : Str)
  | undo
def LDeed (H0 H : Hp) (v : V) : Deed → Prop
  | .put x t => ∃ p u, v = .ref p ∧ H p = some (.lst [.str (Str.ofString "put"), .str x, u]) ∧ LThingN H0 H u t
  | .add x u d => ∃ p, v = .ref p ∧ H p = some (.lst [.str (Str.ofString "add"), .str x, u]) ∧ Dq H u d ∧ ∀ ds, d = .list ds → ∃ b, u = .ref b ∧ H0 b = none ∧ b ≠ p
  | .drop x => ∃ p, v = .ref p ∧ H p = some (.lst [.str (Str.ofString "drop"), .str x])
  | .ren x y => ∃ p, v = .ref p ∧ H p = some (.lst [.str (Str.ofString "rename"), .str x, .str y])
  | .undo => ∃ p, v = .ref p ∧ H p = some (.lst [.str (Str.ofString "undo")])
def DeedOk (n : Nat) (st : State) : Deed → Prop
  | .put x t => Nm x ∧ Good n t ∧ t.rows.length ≤ 32
  | .add x _ d => Nm x ∧ ItemD d ∧ ∀ t, st.lookup x = some t → PermI n d → t.k = .tst
  | .drop x => Nm x
  | .ren x y => Nm x ∧ Nm y
  | .undo => True
/-- the law's state -/
def LPD (H : Hp) (kvs : List (Key × V)) (st : State) : Prop := Paired (fun p q => p.1 = Sum.inr q.1 ∧ LThing H p.2 q.2) kvs st
theorem LPD.mono {H H' : Hp} (s : Same H H') {kvs : List (Key × V)} {st : State} (h : LPD H kvs st) : LPD H' kvs st := by
  unfold LPD at *
  induction h with
  | nil => exact .nil
  | cons a _ ih => exact .cons ⟨a.1, a.2.mono s⟩ ih
theorem LPD.keys {H : Hp} {kvs : List (Key × V)} {st : State} (h : LPD H kvs st) : kvs.map (·.1) = (st.map (·.1)).map Sum.inr := by
  unfold LPD at h
  induction h with
  | nil => rfl
  | cons a _ ih =>
    rw [List.map_cons, List.map_cons, List.map_cons, ih, a.1]
theorem LPD.look {H : Hp} {kvs : List (Key × V)} {st : State} (h : LPD H kvs st) (x : Str) : (∃ v t, valV kvs (Sum.inr x) = some v ∧ st.lookup x = some t ∧ LThing H v t) ∨ (valV kvs (Sum.inr x) = none ∧ st.lookup x = none) := by
  unfold LPD at h
  induction h with
  | nil => exact .inr ⟨rfl, rfl⟩
  | @cons p q ps qs a _ ih =>
    obtain ⟨k, v⟩ := p
    obtain ⟨y, t⟩ := q
    obtain ⟨e, ht⟩ := a
    have e : k = Sum.inr y := e
    subst e
    by_cases z : x = y
    · subst z
      refine .inl ⟨v, t, ?_, ?_, ht⟩
      · simp [valV]
      · simp [List.lookup]
    · have z1 : ¬ (Sum.inr y : Key) = Sum.inr x := fun e => z (Sum.inr.inj e).symm
      have z2 : (x == y) = false := beq_eq_false_iff_ne.mpr z
      rcases ih with ⟨v', t', h1, h2, h3⟩ | ⟨h1, h2⟩
      · refine .inl ⟨v', t', ?_, ?_, h3⟩
        · simpa [valV, z1] using h1
        · simpa [List.lookup, z2] using h2
      · refine .inr ⟨?_, ?_⟩
        · simpa [valV, z1] using h1
        · simpa [List.lookup, z2] using h2
theorem LThing.sb {bx : Addr} {H H1 : Hp} {f : Int} {v : V} {t : Thing} (h : LThing H v t) (hb : Box H bx f) (s : Sb bx H H1) : LThing H1 v t := by
  obtain ⟨p, l, ys, e, h1, h2, h3⟩ := h
  have tb := tups_box hb s
  obtain ⟨x1, x2, x3, x4, _⟩ := hb
  refine ⟨p, l, ys, e, s _ _ (fun z => ?_) h1, s _ _ (fun z => ?_) h2, h3.rows tb⟩
  · rw [z, x4] at h1
    cases h1
  · rw [z, x4] at h2
    have e2 : ys = [.int x1, .int x2, .int x3] := by
      injection h2 with h2
      injection h2 with h2
      exact h2.symm
    rw [e2] at h3
    obtain ⟨d, e3, e4⟩ := h3.get' (i := 0) rfl
    rw [List.getElem?_map] at e3
    obtain ⟨r, _, er⟩ := Option.map_eq_some_iff.mp e3
    subst er
    obtain ⟨b, e5, _⟩ := tupD_ e4
    cases e5
theorem LPD.sb {bx : Addr} {H H1 : Hp} {f : Int} (hb : Box H bx f) (s : Sb bx H H1) {kvs : List (Key × V)} {st : State} (h : LPD H kvs st) : LPD H1 kvs st := by
  unfold LPD at *
  induction h with
  | nil => exact .nil
  | cons a _ ih => exact .cons ⟨a.1, a.2.sb hb s⟩ ih
section
variable {P : Program} {w : World} {K : PySem.W.Frag} {mg : Str → Option Value} {base : Heap}
def spDeed : Sp := fun vs H Q _ => ∃ (bx sd : Addr) (n : Nat) (kvs : List (Key × V)) (st : State) (f : Int), vs = [.ref bx, .int n, .ref sd] ∧ 2 ≤ n ∧ n ≤ 4 ∧ H sd = some (.dK kvs) ∧ LPD H kvs st ∧ st.length < 64 ∧ (∀ x ∈ st.map (·.1), Nm x) ∧ 150 ≤ f ∧ Box H bx f ∧
  ∀ v dm H1, DeedOk n st dm → LDeed H H1 v dm → Sb bx H H1 → Box H1 bx (f - 150) → Q v H1
theorem sc_law_deed : FnScope ["_law_box_here", "_law_many", "_law_state", "_law_way", "_law_label", "_law_fresh", "_law_kind"] ["_law_box_here", "_law_many", "_law_state"] (defScope sLawDeed) := ⟨rfl, rfl, rfl, by decide +kernel, rfl, by decide +kernel, by decide +kernel⟩
theorem ok_law_deed (T : Txt K mg) : FnOk P w K mg base CX0 5 (ga K "_law_deed") (fdAt K (ga K "_law_deed")) ["_law_box_here", "_law_many", "_law_state"] spDeed := by
  refine T.f_law_deed.ok sc_law_deed (fun vs H Q E h => ?_) (fun cdv A outer s H vs Q E hr h => ?_)
  · obtain ⟨bx, sd, n, kvs, st, f, rfl, _⟩ := h
    rfl
  obtain ⟨bx, sd, n, kvs, st, f, rfl, h1, h2, hsd, hL, hlt, hnm, hf, hbx, q⟩ := h
  refine ⟨_, PSs.nox (pss_cons (ps_par (i := 3) (j := 4) (by rfl) sc_law_deed.nd rfl rfl (by decide) rfl rfl (pa_cons (c_law_take T (hr.mono (by decide)) (pa_cons (pv 0) (pa_cons pe_int pa_nil))) (pa_cons (c_law_name T (hr.mono (by decide)) (pa_cons (pv 0) (pa_cons (pv 2) pa_nil))) pa_nil)) (by rfl))
    (pss_cons (ps_if (pt_cmpR op_lt (pv 3) pe_int (nomark _)) (pss_cons (ps_set (i := 5) sc_law_deed.nd rfl (Or.inl rfl) (pe_ix ix_list (pe_lst (pa_cons pe_str (pa_cons pe_str (pa_cons pe_str (pa_cons pe_str (pa_cons pe_str (pa_cons pe_str pa_nil))))))) (c_law_take T (hr.mono (by decide)) (pa_cons (pv 0) (pa_cons pe_int pa_nil))) (fun _ _ => rfl)))
    (pss_one (ps_ret (pe_lst (pa_cons pe_str (pa_cons (pv 5) (pa_cons (c_law_thing T (hr.mono (by decide)) (pa_cons (pv 0) (pa_cons (pv 1) pa_nil))) pa_nil))))))) pss_nil)
    (pss_cons (ps_if (pt_cmpR op_lt (pv 3) pe_int (nomark _)) (pss_cons (ps_set (i := 6) sc_law_deed.nd rfl (Or.inl rfl) (pe_ifExp (pt_cmp (pc_din (hu_of hr) (pv 4) (pv 2))) (pe_ix ix_list (pe_dget (hu_of hr) (pv 2) (pv 4) (fun _ _ => rfl)) pe_int (fun _ _ => rfl)) pe_str))
    (pss_one (ps_ret (pe_lst (pa_cons pe_str (pa_cons (pv 4) (pa_cons (c_law_item T (hr.mono (by decide)) (pa_cons (pv 0) (pa_cons (pv 1) (pa_cons (pv 6) pa_nil)))) pa_nil))))))) pss_nil)
    (pss_cons (ps_if (pt_cmpR op_eq (pv 3) pe_int (nomark _)) (pss_one (ps_ret (pe_lst (pa_cons pe_str (pa_cons (pv 4) pa_nil))))) pss_nil)
    (pss_one (ps_ret (pe_ifExp (pt_cmpR op_eq (pv 3) pe_int (nomark _)) (pe_lst (pa_cons pe_str (pa_cons (pv 4) (pa_cons (c_law_name T (hr.mono (by decide)) (pa_cons (pv 0) (pa_cons (pv 2) pa_nil))) pa_nil)))) (pe_lst (pa_cons pe_str pa_nil))))))))), ?_⟩
  have sdb : ∀ {H' : Hp} {g : Int}, Box H' bx g → H' sd = some (.dK kvs) → sd ≠ bx := fun hb e z => by
    obtain ⟨x1, x2, x3, x4, _⟩ := hb
    rw [z, x4] at e
    cases e
  have hks := hL.keys
  have hkl : (st.map (·.1)).length < 64 := by rw [List.length_map]; exact hlt
  refine ⟨_, rfl, bx, 9, f, rfl, by decide, by decide, by omega, hbx, fun way H1 w0 w1 u1 b1 => ?_⟩
  have s1 : Sb bx H H1 := Sb.box u1
  have e1 := s1 _ _ (sdb hbx hsd) hsd
  refine ⟨_, rfl, _, rfl, bx, sd, kvs, st.map (·.1), f - 1, rfl, e1, hks, hkl, hnm, by omega, b1, fun x H2 hx s2 b2 => ⟨_, _, rfl, ?_⟩⟩
  have s12 := s1.trans s2
  have e2 := s2 _ _ (sdb b1 e1) e1
  have L2 := hL.sb hbx s12
  refine ⟨_, rfl, _, _, rfl, rfl, _, rfl, iteB (fun _ => ?_) (fun _ => ?_)⟩
  · refine ⟨by show 6 ≤ sizeLine; decide, fun l nl => ⟨_, rfl, bx, 6, f - 1 - 2, rfl, by decide, by decide, by omega, b2.new nl, fun d H3 d0 d1 u3 b3 => ?_⟩⟩
    obtain ⟨y, hy, hy2⟩ := nm_at d0 d1
    have s13 := (s12.new nl).trans (Sb.box u3)
    refine ⟨l, _, d, _, rfl, rfl, SqL.of (Sb.box u3 _ _ (b2.ne nl) upd_same), hy, ?_⟩
    refine ⟨_, rfl, _, rfl, _, rfl, bx, n, _, rfl, h1, h2, by omega, b3, fun v t H4 hg ht hT s4 b4 => ⟨by show 3 ≤ sizeLine; decide, fun p np => ?_⟩⟩
    have sn := same_new (o := .lst [.str (Str.ofString "put"), .str y, v]) np
    obtain ⟨p1, l1, ys, q1, q2, q3, q4, q5, q6⟩ := hT
    have fr : ∀ {a : Addr} {o : HO}, H3 a = none → H4 a = some o → a ≠ bx → H a = none := fun na _ nb => s13.free nb na
    have n1 : p1 ≠ bx := b3.ne q2
    have n2 : l1 ≠ bx := b3.ne q3
    exact q _ (.put y t) _ ⟨hy2, hg, ht⟩ ⟨p, v, rfl, upd_same, p1, l1, ys, q1, s13.free n1 q2, s13.free n2 q3, sn _ _ q4, sn _ _ q5, q6.mono sn⟩ ((s13.trans s4).new np) ((b4.new np).le (by omega))
  · refine ⟨_, rfl, _, _, rfl, rfl, _, rfl, iteB (fun _ => ?_) (fun _ => ?_)⟩
    · have fin : ∀ (kd : Str), (∀ t, st.lookup x = some t → kd = kindS t.k) → spItem [.ref bx, .int n, .str kd] H2 (fun v H3 => [V.str (Str.ofString "add"), V.str x, v].length ≤ sizeLine ∧ ∀ p, H3 p = none → Q (.ref p) (upd H3 p (.lst [.str (Str.ofString "add"), .str x, v]))) E0 := fun kd hkd => by
        refine ⟨bx, n, kd, f - 1 - 2, rfl, h1, h2, by omega, b2, fun v d H3 hi hp hd hl s3 b3 => ⟨by show 3 ≤ sizeLine; decide, fun p np => ?_⟩⟩
        have sn := same_new (o := .lst [.str (Str.ofString "add"), .str x, v]) np
        refine q _ (.add x v d) _ ⟨hx, hi, fun t ht hperm => ?_⟩ ⟨p, rfl, upd_same, hd.mono sn, fun ds e => ?_⟩ ((s12.trans s3).new np) ((b3.new np).le (by omega))
        · have e := (hkd t ht).symm.trans (hp hperm)
          cases hk : t.k with
          | tst => rfl
          | net =>
            rw [hk] at e
            exact absurd e (by decide +kernel)
          | ord =>
            rw [hk] at e
            exact absurd e (by decide +kernel)
        · obtain ⟨b, eb, nb⟩ := hl ds e
          refine ⟨b, eb, s12.free (b2.ne nb) nb, fun z => ?_⟩
          rw [e, eb] at hd
          cases hd with
          | lst h3 _ => rw [z, np] at h3; cases h3
      refine ⟨_, rfl, _, rfl, sd, _, rfl, DGet.k (k := Sum.inr x) e2, _, rfl, ?_⟩
      rcases L2.look x with ⟨v, t, q1, q2, q3⟩ | ⟨q1, q2⟩
      · rw [q1]
        obtain ⟨a, l, ys, rfl, ha, _, _⟩ := q3
        refine iteT ⟨_, rfl, _, rfl, sd, _, rfl, q1 ▸ DGet.k (k := Sum.inr x) e2, a, _, 0, .str (kindS t.k), rfl, rfl, SqL.of ha, atI_nat (j := 0) rfl, ?_⟩
        exact ⟨_, rfl, _, rfl, _, rfl, _, rfl, fin (kindS t.k) fun t' e => by rw [q2] at e; cases e; rfl⟩
      · rw [q1]
        exact iteF ⟨_, rfl, _, rfl, _, rfl, _, rfl, fin _ fun t' e => by rw [q2] at e; cases e⟩
    · refine ⟨_, rfl, rfl, _, rfl, iteB (fun _ => ?_) (fun _ => ?_)⟩
      · refine ⟨_, rfl, (by show 2 ≤ sizeLine; decide), fun p np => ?_⟩
        exact q _ (.drop x) _ hx ⟨p, rfl, upd_same⟩ (s12.new np) ((b2.new np).le (by omega))
      · refine ⟨_, rfl, rfl, _, rfl, iteB (fun _ => ?_) (fun _ => ?_)⟩
        · refine ⟨_, rfl, _, rfl, _, rfl, bx, sd, kvs, st.map (·.1), f - 1 - 2, rfl, e2, hks, hkl, hnm, by omega, b2, fun y H3 hy s3 b3 => ⟨by show 3 ≤ sizeLine; decide, fun p np => ?_⟩⟩
          exact q _ (.ren x y) _ ⟨hx, hy⟩ ⟨p, rfl, upd_same⟩ ((s12.trans s3).new np) ((b3.new np).le (by omega))
        · refine ⟨(by show 1 ≤ sizeLine; decide), fun p np => ?_⟩
          exact q _ .undo _ trivial ⟨p, rfl, upd_same⟩ (s12.new np) ((b2.new np).le (by omega))
theorem bd_law_deed {K : PySem.W.Frag} {mg : Str → Option Value} (T : Txt K mg) : Binds K (fdAt K (ga K "_law_deed")) ["_law_box_here", "_law_many", "_law_state"] [] := T.f_law_deed.bindsN fun _ _ _ _ _ _ us hl => match us, hl with | [_, _, _], _ => rfl
theorem c_law_deed {X : Cx} {e : Expr} {es : List Expr} {t : TA} {p pos : Pos} (T : Txt X.K X.mg) (hr : Room 5 X.A) (ha : PA X (e :: es) t) (hg : Gl X "_law_deed" := by rfl) (he : starEach (e :: es) X.env = (false, eval e X.env) :: starEach es X.env := by rfl) (hpl : (backTo pos (starEach es X.env)).any (·.1) = false := by rfl) :
    PE X (.Call (.Name "_law_deed" p) (e :: es) [] pos) (tCall (spDeed) [] E0 t) := pe_call (ok_law_deed T) hr hg T.g_law_deed T.f_law_deed.kp (bd_law_deed T) .nil pass0 ha (by decide) he hpl
end
end K57
/-! L12 -/
namespace K57
open PySem PySem.Spec PyProof.Rows L2 He
def outB (n : Nat) (m : Int) : Bool := !(decide (0 ≤ m) && decide (m < n))
section
variable {P : Program} {w : World} {K : PySem.W.Frag} {mg : Str → Option Value} {base : Heap}
def spCouple : Sp := fun vs H Q _ => ∃ (n : Nat) (v : V) (d : PyData), vs = [.int n, v] ∧ Dq H v d ∧ ItemD d ∧ ∀ H1, Same H H1 → Q (.bl (pairB n d)) H1
theorem sc_law_is_couple : FnScope ["_law_many", "_law_item_here", "_law_a"] ["_law_many", "_law_item_here"] (defScope sLawIsCouple) := ⟨rfl, rfl, rfl, by decide +kernel, rfl, by decide +kernel, by decide +kernel⟩
theorem ok_law_is_couple (T : Txt K mg) : FnOk P w K mg base CX0 2 (ga K "_law_is_couple") (fdAt K (ga K "_law_is_couple")) ["_law_many", "_law_item_here"] spCouple := by
  refine T.f_law_is_couple.ok sc_law_is_couple (fun vs H Q E h => ?_) (fun cdv A outer s H vs Q E hr h => ?_)
  · obtain ⟨n, v, d, rfl, _⟩ := h
    rfl
  obtain ⟨n, v, d, rfl, hd, hi, q⟩ := h
  refine ⟨_, PSs.nox (pss_cons (ps_if (PW.pt (pw_or (pt_not (pt_val (b_isinstance call_isi T (pa_cons (pv 1) (pa_cons (n_tuple T) pa_nil))))) (pw_or (pt_cmpR op_ne (b_len call_len_seq T (pa_cons (pv 1) pa_nil)) pe_int (nomark _)) (pw_or1 (pt_cmpR (op_neD hr.units) (pe_lc (own := [("_law_a", 2)]) rfl sc_law_is_couple.nd (pi_tup (pv 1)) (blkOk_by (N := ["_law_many", "_law_item_here", "_law_a"]) (sc := defScope sLawIsCouple) (by decide +kernel)) (fun _ _ _ _ _ => pg_name (i := 2) sc_law_is_couple.nd rfl (Or.inl rfl)) (fun _ _ _ _ _ => (pts_one (pt_val (b_isinstance (call_isiK (K := K)) T (pa_cons (pv 2) (pa_cons (n_bool T) pa_nil)))))) (fun _ _ _ _ _ => pe_int)) (pe_lst pa_nil) (nomark _)))))) (pss_one (ps_ret pe_bl)) pss_nil)
    (pss_one (ps_ret (pe_and (pe_cmpR (op_eqD hr.units) (pe_lc (own := [("_law_a", 2)]) rfl sc_law_is_couple.nd (pi_tup (pv 1)) (blkOk_by (N := ["_law_many", "_law_item_here", "_law_a"]) (sc := defScope sLawIsCouple) (by decide +kernel)) (fun _ _ _ _ _ => pg_name (i := 2) sc_law_is_couple.nd rfl (Or.inl rfl)) (fun _ _ _ _ _ => (pts_one (PW.pt (pw_or (pt_not (pt_val (b_isinstance (call_isiK (K := K)) T (pa_cons (pv 2) (pa_cons (n_int T) pa_nil))))) (pw_or1 (pt_not (pt_chain op_le op_lt pe_int (pv 2) (pv 0)))))))) (fun _ _ _ _ _ => (pv 2))) (pe_lst pa_nil) (nomark _)) (pe_one (pe_cmpR op_ne (pe_ix ix_tup (pv 1) pe_int (fun _ _ => rfl)) (pe_ix ix_tup (pv 1) pe_int (fun _ _ => rfl)) (nomark _))))))), ?_⟩
  refine ⟨_, rfl, _, _, _, _, _, rfl, .ty _, hd.ty, kit_dt "tuple" (by simp) d, _, rfl, ?_⟩
  refine iteB (fun c => ?_) (fun c => ?_)
  · have c' : isT "tuple" d = false := by rw [Bool.not_eq_true'] at c; exact c
    have e : pairB n d = false := coupB_no c'
    rw [e] at q
    exact iteT (q H (Same.refl H))
  cases hd with
  | @tup a xs ds ha hds =>
    have hl := hds.length
    refine ⟨_, rfl, a, xs, rfl, .inr (SqT.of ha), rfl, _, rfl, ?_⟩
    refine iteB (fun c1 => ?_) (fun c1 => ?_)
    · have c2 : ds.length ≠ 2 := fun z => by rw [hl, z] at c1; cases c1
      have e : pairB n (.tuple ds) = false := coupB_len c2
      rw [e] at q
      exact iteT (q H (Same.refl H))
    · have c2 : ds.length = 2 := by
        rw [Bool.not_eq_false'] at c1
        have := V.int.inj (of_decide_eq_true c1)
        omega
      have key : (∃ i j : Int, ds = [.int i, .int j]) ∨ ds = [.bool true, .int 1] := by
        rcases hi with h | h | h | ⟨ns, e, _⟩ | ⟨_, _, e, _⟩ | e
        · cases h
        · cases h
        · cases h
        · have e2 : ds = ns.map PyData.int := by injection e
          subst e2
          match ns, c2 with
          | [i, j], _ => exact .inl ⟨i, j, rfl⟩
        · cases e
        · exact .inr (by injection e)
      rcases key with ⟨i, j, rfl⟩ | rfl
      · have hxs : xs = [V.int i, V.int j] := DqAll.of_ints (ns := [i, j]) hds
        subst hxs
        refine ⟨_, rfl, a, rfl, ⟨_, SqT.of ha⟩, fun D nD => ?_⟩
        refine lc_it (walk_tup (xs := [V.int i, V.int j])) (fun k H3 => (∀ b o, b ≠ D → H b = some o → H3 b = some o) ∧ H3 D = some (.lst [])) ⟨fun b o hb e => by rw [upd_ne hb]; exact e, upd_same⟩ (fun k H3 _ hP => SqT.of (hP.1 _ _ (ne_of_none ha nD) ha)) ?_ ?_
        · rintro k x H3 H4 hk ⟨p1, p2⟩ ⟨rfl, hx⟩
          obtain ⟨m, rfl⟩ : ∃ m, x = V.int m := by
            have hx' : ([i, j].map V.int)[k]? = some x := hx
            rw [List.getElem?_map] at hx'
            obtain ⟨m, _, e⟩ := Option.map_eq_some_iff.mp hx'
            exact ⟨m, e.symm⟩
          exact ⟨rfl, _, rfl, _, _, _, _, _, rfl, .ty _, (Dq.int (H := H4) m).ty, kit_dt "bool" (by simp) (.int m), _, rfl, iteF' rfl ⟨p1, p2⟩⟩
        · rintro H3 ⟨p1, p2⟩
          have s3 : Same H H3 := fun b o e => p1 b o (ne_of_none e nD) e
          refine ⟨Nat.zero_le _, fun z nz => ?_⟩
          have s4 := s3.trans (same_new (o := .lst []) nz)
          have eD : upd H3 z (.lst []) D = some (.lst (([] : List Int).map V.int)) := by rw [upd_ne (ne_of_none p2 nz)]; exact p2
          refine ⟨_, _, (Dq.lst eD (DqAll.ints [])).dp, (Dq.lst upd_same .nil).dp, ints_lay [], ints_lay [], _, rfl, ?_⟩
          rw [ints_nil]
          refine iteF' rfl ?_
          have ha4 := s4 _ _ ha
          refine ⟨_, rfl, a, rfl, ⟨_, SqT.of ha4⟩, fun D2 nD2 => ?_⟩
          refine lc_it (walk_tup (xs := [V.int i, V.int j])) (fun k H5 => (∀ b o, b ≠ D2 → upd H3 z (.lst []) b = some o → H5 b = some o) ∧ H5 D2 = some (.lst (((([i, j] : List Int).take k).filter (outB n)).map V.int))) ⟨fun b o hb e => by rw [upd_ne hb]; exact e, upd_same⟩ (fun k H5 _ hP => SqT.of (hP.1 _ _ (ne_of_none ha4 nD2) ha4)) ?_ ?_
          · rintro k x H5 H6 hk ⟨p3, p4⟩ ⟨rfl, hx⟩
            have hx' : ([i, j].map V.int)[k]? = some x := hx
            rw [List.getElem?_map] at hx'
            obtain ⟨m, hm, e⟩ := Option.map_eq_some_iff.mp hx'
            subst e
            have etake : ([i, j] : List Int).take (k + 1) = ([i, j] : List Int).take k ++ [m] := take_succ_get hm
            have llen : ((((([i, j] : List Int).take k).filter (outB n)).map V.int)).length < sizeLine := by
              rw [List.length_map]
              have z1 := List.length_filter_le (outB n) (([i, j] : List Int).take k)
              rw [List.length_take] at z1
              exact Nat.lt_of_le_of_lt (show _ ≤ 2 from Nat.le_trans z1 (Nat.min_le_right _ _)) (by decide)
            have keepIt : (decide (0 ≤ m) && decide (m < n)) = true → (∀ b o, b ≠ D2 → upd H3 z (.lst []) b = some o → H6 b = some o) ∧ H6 D2 = some (.lst (((([i, j] : List Int).take (k + 1)).filter (outB n)).map V.int)) := fun hb => ⟨p3, by
              rw [etake, List.filter_append]
              have e1 : List.filter (outB n) [m] = [] := by simp [outB, hb]
              rw [e1, List.append_nil]
              exact p4⟩
            have putIt : (decide (0 ≤ m) && decide (m < n)) = false → ∃ acc, H6 D2 = some (.lst acc) ∧ acc.length < sizeLine ∧ (∀ b o, b ≠ D2 → upd H3 z (.lst []) b = some o → upd H6 D2 (.lst (acc ++ [.int m])) b = some o) ∧ upd H6 D2 (.lst (acc ++ [.int m])) D2 = some (.lst (((([i, j] : List Int).take (k + 1)).filter (outB n)).map V.int)) := fun hb => ⟨_, p4, llen, fun b o hbD e => by rw [upd_ne hbD]; exact p3 b o hbD e, by
              rw [upd_same, etake, List.filter_append, List.map_append]
              have e1 : List.filter (outB n) [m] = [m] := by simp [outB, hb]
              rw [e1]
              rfl⟩
            refine ⟨rfl, _, rfl, _, _, _, _, _, rfl, .ty _, (Dq.int (H := H6) m).ty, kit_dt "int" (by simp) (.int m), _, rfl, iteF' rfl ?_⟩
            refine ⟨_, rfl, _, _, rfl, rfl, _, rfl, iteB (fun q0 => ?_) (fun q0 => ?_)⟩
            · refine ⟨_, rfl, _, _, rfl, rfl, _, rfl, iteB (fun q1 => ?_) (fun q1 => ?_)⟩
              · refine ⟨_, rfl, putIt ?_⟩
                have q1' : decide (m < (n : Int)) = false := by simpa using q1
                rw [q1', Bool.and_false]
              · refine keepIt ?_
                have q1' : decide (m < (n : Int)) = true := by simpa using q1
                have q0' : decide (0 ≤ m) = true := q0
                rw [q1', q0']
                rfl
            · refine ⟨_, rfl, iteT ⟨_, rfl, putIt ?_⟩⟩
              have q0' : decide (0 ≤ m) = false := q0
              rw [q0', Bool.false_and]
          · rintro H5 ⟨p3, p4⟩
            have s5 : Same (upd H3 z (.lst [])) H5 := fun b o e => p3 b o (ne_of_none e nD2) e
            have p5 : H5 D2 = some (.lst ((([i, j] : List Int).filter (outB n)).map V.int)) := p4
            refine ⟨Nat.zero_le _, fun z2 nz2 => ?_⟩
            have s6 := s4.trans (s5.trans (same_new (o := .lst []) nz2))
            have eD2 : upd H5 z2 (.lst []) D2 = some (.lst ((([i, j] : List Int).filter (outB n)).map V.int)) := by rw [upd_ne (ne_of_none p5 nz2)]; exact p5
            have ha6 := s6 _ _ ha
            refine ⟨_, _, (Dq.lst eD2 (DqAll.ints _)).dp, (Dq.lst upd_same .nil).dp, ints_lay _, ints_lay [], _, rfl, ?_⟩
            rw [ints_nil]
            have ev : pairB n (.tuple [.int i, .int j]) = (!outB n i && (!outB n j && !decide (i = j))) := by
              show (lineB n (.int i) && (lineB n (.int j) && neD (.int i) (.int j))) = _
              unfold outB
              rw [Bool.not_not, Bool.not_not]
              rfl
            refine iteB (fun c3 => ?_) (fun c3 => ?_)
            · have c4 : ([i, j] : List Int).filter (outB n) = [] := of_decide_eq_true c3
              have o1 : outB n i = false := by
                have := List.filter_eq_nil_iff.mp c4 i (by simp)
                simpa using this
              have o2 : outB n j = false := by
                have := List.filter_eq_nil_iff.mp c4 j (by simp)
                simpa using this
              refine ⟨_, rfl, a, _, _, _, rfl, rfl, SqT.of ha6, at0, _, rfl, a, _, _, _, rfl, rfl, SqT.of ha6, at1, rfl, ?_⟩
              have e2 : (!decide (V.int i = V.int j)) = pairB n (.tuple [.int i, .int j]) := by
                rw [ev, o1, o2]
                by_cases hij : i = j
                · simp [hij]
                · simp [hij]
              rw [e2]
              exact q _ s6
            · have c4 : ¬ ([i, j] : List Int).filter (outB n) = [] := of_decide_eq_false c3
              have e2 : pairB n (.tuple [.int i, .int j]) = false := by
                rw [ev]
                cases o1 : outB n i
                · cases o2 : outB n j
                  · refine absurd ?_ c4
                    simp [o1, o2]
                  · rfl
                · rfl
              rw [e2] at q
              exact q _ s6
      · have hxs : xs = [V.bl true, V.int 1] := by
          cases hds with
          | cons a1 r1 =>
            cases r1 with
            | cons a2 r2 =>
              cases r2
              cases a1
              cases a2
              rfl
        subst hxs
        refine ⟨_, rfl, a, rfl, ⟨_, SqT.of ha⟩, fun D nD => ?_⟩
        refine lc_it (walk_tup (xs := [V.bl true, V.int 1])) (fun k H3 => (∀ b o, b ≠ D → H b = some o → H3 b = some o) ∧ H3 D = some (.lst ((([1] : List Int).take k).map V.int))) ⟨fun b o hb e => by rw [upd_ne hb]; exact e, upd_same⟩ (fun k H3 _ hP => SqT.of (hP.1 _ _ (ne_of_none ha nD) ha)) ?_ ?_
        · rintro k x H3 H4 hk ⟨p1, p2⟩ ⟨rfl, hx⟩
          have hk2 : k = 0 ∨ k = 1 := by
            have : k < 2 := hk
            omega
          rcases hk2 with rfl | rfl
          · have ex : x = V.bl true := by simpa using hx.symm
            subst ex
            refine ⟨rfl, _, rfl, _, _, _, _, _, rfl, .ty _, (Dq.bl (H := H4) true).ty, kit_dt "bool" (by simp) (.bool true), _, rfl, iteT' rfl ⟨_, p2, (by decide), fun b o hb e => ?_, upd_same⟩⟩
            rw [upd_ne hb]
            exact p1 b o hb e
          · have ex : x = V.int 1 := by simpa using hx.symm
            subst ex
            exact ⟨rfl, _, rfl, _, _, _, _, _, rfl, .ty _, (Dq.int (H := H4) 1).ty, kit_dt "bool" (by simp) (.int 1), _, rfl, iteF' rfl ⟨p1, p2⟩⟩
        · rintro H3 ⟨p1, p2⟩
          have s3 : Same H H3 := fun b o e => p1 b o (ne_of_none e nD) e
          refine ⟨Nat.zero_le _, fun z nz => ?_⟩
          have s4 := s3.trans (same_new (o := .lst []) nz)
          have eD : upd H3 z (.lst []) D = some (.lst (([1] : List Int).map V.int)) := by rw [upd_ne (ne_of_none p2 nz)]; exact p2
          refine ⟨_, _, (Dq.lst eD (DqAll.ints [1])).dp, (Dq.lst upd_same .nil).dp, ints_lay [1], ints_lay [], _, rfl, ?_⟩
          rw [ints_nil]
          exact iteT' rfl (q _ s4)
  | _ => cases c
theorem bd_law_is_couple {K : PySem.W.Frag} {mg : Str → Option Value} (T : Txt K mg) : Binds K (fdAt K (ga K "_law_is_couple")) ["_law_many", "_law_item_here"] [] := T.f_law_is_couple.bindsN fun _ _ _ _ _ _ us hl => match us, hl with | [_, _], _ => rfl
theorem c_law_is_couple {X : Cx} {e : Expr} {es : List Expr} {t : TA} {p pos : Pos} (T : Txt X.K X.mg) (hr : Room 2 X.A) (ha : PA X (e :: es) t) (hg : Gl X "_law_is_couple" := by rfl) (he : starEach (e :: es) X.env = (false, eval e X.env) :: starEach es X.env := by rfl) (hpl : (backTo pos (starEach es X.env)).any (·.1) = false := by rfl) :
    PE X (.Call (.Name "_law_is_couple" p) (e :: es) [] pos) (tCall (spCouple) [] E0 t) := pe_call (ok_law_is_couple T) hr hg T.g_law_is_couple T.f_law_is_couple.kp (bd_law_is_couple T) .nil pass0 ha (by decide) he hpl
end
end K57
/-! L13 -/
namespace K57
open PySem PySem.Spec PyProof.Rows L2 He
/-! ### repr of what is no container -/
def reprV : PyData → Str
  | .int i => Str.ofString (toString i)
  | .bool b => if b then "True" else "False"
  | _ => ""
def rReprS : List V → Hp → VK → Prop := fun xs H Q => (∃ i : Int, xs = [.int i] ∧ i.natAbs.log2 < 1920 ∧ Q (.str (Str.ofString (toString i))) H) ∨ ∃ b : Bool, xs = [.bl b] ∧ Q (.str (if b then "True" else "False")) H
theorem call_reprS {X : Cx} : CallR X (.builtin "repr") rReprS := by
  intro pins s σ H xs us Q I r h
  rcases h with ⟨i, rfl, hz, q⟩ | ⟨b, rfl, q⟩
  · obtain ⟨u, rfl, t, rfl⟩ := vals1 r
    exact PySem.P.repr_of_int hz ⟨.str _, H, I.tok _, ⟨_, rfl⟩, q⟩
  · obtain ⟨u, rfl, e⟩ := vals1 r
    obtain rfl : u = Value.bool b := e
    exact PySem.P.repr_of_bool ⟨.str _, H, I.tok _, ⟨_, rfl⟩, q⟩
/-- what the law's list of a longer thing comes to -/
def LongR (H0 H : Hp) (v iv : V) : AddR → Prop
  | .ok t => LThingN H0 H v t
  | .step => ∃ p, v = .ref p ∧ H0 p = none ∧ H p = some (.lst [.str (Str.ofString "step"), iv])
  | .pair => ∃ p, v = .ref p ∧ H0 p = none ∧ H p = some (.lst [.str (Str.ofString "pair"), iv])
  | .row => ∃ p, v = .ref p ∧ H0 p = none ∧ H p = some (.lst [.str (Str.ofString "row"), iv])
  | .ring l => ∃ p r, v = .ref p ∧ H0 p = none ∧ H p = some (.lst [.str (Str.ofString "ring"), .ref r]) ∧ H r = some (.lst (l.map V.int))
/-- small ints, and True -/
def SmallD (d : PyData) : Prop := (∃ i : Int, d = .int i ∧ 0 ≤ i ∧ i ≤ 4) ∨ d = .bool true
theorem item_small {d : PyData} (hi : ItemD d) (hs : isSq d = true) : (∀ e ∈ itemsD d, SmallD e) ∧ (itemsD d).length ≤ 4 := by
  rcases hi with h | h | h | ⟨ns, e, n1, n2, nr⟩ | ⟨a, b, e, ra, rb⟩ | e
  · subst h; cases hs
  · subst h; cases hs
  · subst h; cases hs
  · subst e
    refine ⟨fun x hx => ?_, by show (ns.map PyData.int).length ≤ 4; rw [List.length_map]; exact n2⟩
    obtain ⟨i, hm, e⟩ := List.mem_map.mp (show x ∈ ns.map PyData.int from hx)
    exact .inl ⟨i, e.symm, nr i hm⟩
  · subst e
    refine ⟨fun x hx => ?_, by show 2 ≤ 4; decide⟩
    have hx2 : x = .int a ∨ x = .int b := by simpa [itemsD] using hx
    rcases hx2 with e | e
    · exact .inl ⟨a, e, ra⟩
    · exact .inl ⟨b, e, rb⟩
  · subst e
    refine ⟨fun x hx => ?_, by show 2 ≤ 4; decide⟩
    have hx2 : x = .bool true ∨ x = .int 1 := by simpa [itemsD] using hx
    rcases hx2 with e | e
    · exact .inr e
    · exact .inl ⟨1, e, by decide, by decide⟩
theorem repr_inj {d e : PyData} (hd : SmallD d) (he : SmallD e) (h : reprV d = reprV e) : d = e := by
  have five : ∀ i : Int, 0 ≤ i → i ≤ 4 → i = 0 ∨ i = 1 ∨ i = 2 ∨ i = 3 ∨ i = 4 := fun i _ _ => by omega
  rcases hd with ⟨i, rfl, i0, i1⟩ | rfl <;> rcases he with ⟨j, rfl, j0, j1⟩ | rfl
  · rcases five i i0 i1 with rfl | rfl | rfl | rfl | rfl <;> rcases five j j0 j1 with rfl | rfl | rfl | rfl | rfl <;> first | rfl | exact absurd h (by decide +kernel)
  · rcases five i i0 i1 with rfl | rfl | rfl | rfl | rfl <;> exact absurd h (by decide +kernel)
  · rcases five j j0 j1 with rfl | rfl | rfl | rfl | rfl <;> exact absurd h (by decide +kernel)
  · rfl
theorem coup_parts {R : PyData → PyData → Bool} {n : Int} {d : PyData} (h : coupB R n d = true) : ∃ i j : Int, d = .tuple [.int i, .int j] ∧ 0 ≤ i ∧ i < n ∧ 0 ≤ j ∧ j < n ∧ R (.int i) (.int j) = true := by
  match d, h with
  | .tuple [a, b], h =>
    have h' : (lineB n a && (lineB n b && R a b)) = true := h
    rw [Bool.and_eq_true, Bool.and_eq_true] at h'
    obtain ⟨ha, hb, hr⟩ := h'
    obtain ⟨i, rfl, i0, i1⟩ := lineB_int ha
    obtain ⟨j, rfl, j0, j1⟩ := lineB_int hb
    exact ⟨i, j, rfl, i0, i1, j0, j1, hr⟩
theorem step_pair {n : Int} {d : PyData} (h : stepB n d = true) : pairB n d = true := by
  obtain ⟨i, j, rfl, i0, i1, j0, j1, hr⟩ := coup_parts h
  show (lineB n (.int i) && (lineB n (.int j) && neD (.int i) (.int j))) = true
  have : i < j := by simpa [ltD] using hr
  simp [lineB, neD]
  omega
section
variable {P : Program} {w : World} {K : PySem.W.Frag} {mg : Str → Option Value} {base : Heap}
def spLonger : Sp := fun vs H Q _ => ∃ (n : Nat) (tv iv : V) (t : Thing) (d : PyData), vs = [.int n, tv, iv] ∧ 2 ≤ n ∧ n ≤ 4 ∧ LThing H tv t ∧ Good n t ∧ Dq H iv d ∧ ItemD d ∧ ∀ v H1, Same H H1 → LongR H H1 v iv (addT n t d) → Q v H1
theorem sc_law_longer : FnScope ["_law_many", "_law_thing_here", "_law_item_here", "_law_kind", "_law_some", "_law_a", "_law_found", "_law_ring"] ["_law_many", "_law_thing_here", "_law_item_here"] (defScope sLawLonger) := ⟨rfl, rfl, rfl, by decide +kernel, rfl, by decide +kernel, by decide +kernel⟩
theorem ok_law_longer (T : Txt K mg) : FnOk P w K mg base CX0 3 (ga K "_law_longer") (fdAt K (ga K "_law_longer")) ["_law_many", "_law_thing_here", "_law_item_here"] spLonger := by
  refine T.f_law_longer.ok sc_law_longer (fun vs H Q E h => ?_) (fun cdv A outer s H vs Q E hr h => ?_)
  · obtain ⟨n, tv, iv, t, d, rfl, _⟩ := h
    rfl
  obtain ⟨n, tv, iv, t, d, rfl, h1, h2, ⟨p, l, ys, rfl, hp, hl, hys⟩, hg, hd, hi, q⟩ := h
  refine ⟨_, PSs.nox (pss_cons (ps_asg (pv 1) (L2.pg_unl (by rfl) (pgs_cons (pg_name (i := 3) sc_law_longer.nd rfl (Or.inl rfl)) (pgs_cons (pg_name (i := 4) sc_law_longer.nd rfl (Or.inl rfl)) pgs_nil))))
    (pss_cons (ps_if (pt_cmpR op_eq (pv 3) pe_str (nomark _)) (pss_cons (ps_if (PW.pt (pw_or (pt_not (pt_val (b_isinstance call_isiT T (pa_cons (pv 2) (pa_cons (pe_tup (pa_cons (n_list T) (pa_cons (n_tuple T) pa_nil))) pa_nil))))) (pw_or (pt_cmpR op_ne (b_len call_len_seq T (pa_cons (pv 2) pa_nil)) (pv 0) (nomark _)) (pw_or1 (pt_cmpR op_ne (c_lenSet T (pe_lc (own := [("_law_a", 5)]) rfl sc_law_longer.nd (pi_seq (pv 2)) (blkOk_by (N := ["_law_many", "_law_thing_here", "_law_item_here", "_law_kind", "_law_some", "_law_a", "_law_found", "_law_ring"]) (sc := defScope sLawLonger) (by decide +kernel)) (fun _ _ _ _ _ => pg_name (i := 5) sc_law_longer.nd rfl (Or.inl rfl)) (fun _ _ _ _ _ => pts_nil) (fun _ _ _ _ _ => (b_repr call_reprS T (pa_cons (pv 5) pa_nil))))) (pv 0) (nomark _)))))) (pss_one (ps_ret (pe_lst (pa_cons pe_str (pa_cons (pv 2) pa_nil))))) pss_nil)
    (pss_cons (ps_if (pt_cmpR (op_neD hr.units) (pe_lc (own := [("_law_a", 5)]) rfl sc_law_longer.nd (pi_seq (pv 2)) (blkOk_by (N := ["_law_many", "_law_thing_here", "_law_item_here", "_law_kind", "_law_some", "_law_a", "_law_found", "_law_ring"]) (sc := defScope sLawLonger) (by decide +kernel)) (fun _ _ _ _ _ => pg_name (i := 5) sc_law_longer.nd rfl (Or.inl rfl)) (fun _ _ _ _ _ => (pts_one (PW.pt (pw_or (pt_not (pt_val (b_isinstance (call_isiK (K := K)) T (pa_cons (pv 5) (pa_cons (n_int T) pa_nil))))) (pw_or1 (pt_val (b_isinstance (call_isiK (K := K)) T (pa_cons (pv 5) (pa_cons (n_bool T) pa_nil))))))))) (fun _ _ _ _ _ => (pv 5))) (pe_lst pa_nil) (nomark _)) (pss_one (ps_ret (pe_lst (pa_cons pe_str (pa_cons (pv 2) pa_nil))))) pss_nil)
    (pss_one (ps_ret (pe_lst (pa_cons pe_str (pa_cons (pe_op op_cat (pv 4) (pe_lst (pa_cons (t_tuple call_tuple_of T (pa_cons (pv 2) pa_nil)) pa_nil))) pa_nil))))))) pss_nil)
    (pss_cons (ps_if (PW.pt (pw_or (pt_not (pt_val (c_law_is_couple T (hr.mono (by decide)) (pa_cons (pv 0) (pa_cons (pv 2) pa_nil))))) (pw_or1 (PW.pt (pw_and (pt_cmpR op_eq (pv 3) pe_str (nomark _)) (pw_and1 (pt_cmpR op_gt (pe_ix ix_tup (pv 2) pe_int (fun _ _ => rfl)) (pe_ix ix_tup (pv 2) pe_int (fun _ _ => rfl)) (nomark _)))))))) (pss_one (ps_ret (pe_lst (pa_cons (pe_ix ix_list (pe_lst (pa_cons pe_str (pa_cons pe_str pa_nil))) (t_int call_int1 T (pa_cons (pe_cmpR op_eq (pv 3) pe_str (nomark _)) pa_nil)) (fun _ _ => rfl)) (pa_cons (pv 2) pa_nil))))) pss_nil)
    (pss_cons (ps_if (pt_cmpR op_eq (pv 3) pe_str (nomark _)) (pss_one (ps_ret (pe_lst (pa_cons pe_str (pa_cons (pe_op op_cat (pv 4) (pe_lst (pa_cons (pv 2) pa_nil))) pa_nil))))) pss_nil)
    (pss_cons (ps_set (i := 6) sc_law_longer.nd rfl (Or.inr rfl) (c_law_closed T (hr.mono (by decide)) (pa_cons (pv 0) (pa_cons (pe_op op_cat (pv 4) (pe_lst (pa_cons (pv 2) pa_nil))) pa_nil))))
    (pss_cons (ps_setLc (i := 7) (y := "_law_ring") (own := [("_law_a", 5)]) rfl sc_law_longer.nd rfl rfl (sw_true rfl rfl rfl (by decide +kernel)) (pi_range1 (by rfl) T.z_range (pa_cons (pv 0) pa_nil)) (blkOk_by (N := ["_law_many", "_law_thing_here", "_law_item_here", "_law_kind", "_law_some", "_law_a", "_law_found", "_law_ring"]) (sc := defScope sLawLonger) (by decide +kernel)) (fun _ _ _ _ _ => pg_name (i := 5) sc_law_longer.nd rfl (Or.inl rfl)) (fun _ _ _ _ _ => (pts_one (pt_cmpR (op_inDK (K := K) (un65 hr)) (pe_tup (pa_cons (pv 5) (pa_cons (pv 5) pa_nil))) (pv 6) (by rfl)))) (fun _ _ _ _ _ => (pv 5)))
    (pss_one (ps_ret (pe_ifExp (pt_cmpR (op_eqD hr.units) (pv 7) (pe_lst pa_nil) (nomark _)) (pe_lst (pa_cons pe_str (pa_cons (pv 6) pa_nil))) (pe_lst (pa_cons pe_str (pa_cons (pv 7) pa_nil)))))))))))), ?_⟩
  refine ⟨_, rfl, p, _, rfl, SqL.of hp, rfl, _, _, rfl, _, _, rfl, rfl, ?_⟩
  obtain ⟨k, rows⟩ := t
  refine ⟨_, rfl, rfl, _, rfl, ?_⟩
  cases k with
  | tst =>
    refine iteT' (decide_eq_true rfl) ?_
    have hrow : addT n ⟨.tst, rows⟩ d = .row → ∀ (H1 : Hp), Same H H1 → ([V.str (Str.ofString "row"), iv].length ≤ sizeLine ∧ ∀ p, H1 p = none → Q (.ref p) (upd H1 p (.lst [.str (Str.ofString "row"), iv]))) := fun e H1 s => ⟨by show 2 ≤ sizeLine; decide, fun r nr => q _ _ (s.trans (same_new nr)) (by rw [e]; exact ⟨r, rfl, s.free nr, upd_same⟩)⟩
    have hadd : addT n ⟨.tst, rows⟩ d = (if testB n d = true then .ok ⟨.tst, rows ++ [intsOf d]⟩ else .row) := rfl
    refine ⟨_, rfl, (by show 2 ≤ sizeLine; decide), fun tp ntp => ?_⟩
    have s1 : Same H (upd H tp (.tup [V.ty "list", V.ty "tuple"])) := same_new ntp
    generalize hH1 : upd H tp (.tup [V.ty "list", V.ty "tuple"]) = H1 at *
    refine ⟨_, tp, _, _, _, _, rfl, (by rw [← hH1]; exact upd_same), two_cls, (hd.mono s1).ty, isT2 d, _, rfl, ?_⟩
    rw [isSq_eq]
    refine iteB (fun c => ?_) (fun c => ?_)
    · have e : testB n d = false := by
        unfold testB rowB
        rw [Bool.not_eq_true'] at c
        rw [c]
        rfl
      rw [e] at hadd
      exact iteT ⟨_, rfl, hrow hadd H1 s1⟩
    rw [Bool.not_eq_false'] at c
    obtain ⟨hsm, hl4⟩ := item_small hi c
    obtain ⟨a, xs, rfl, ha, hds⟩ := (hd.mono s1).sq c
    have hlen := hds.length
    refine ⟨_, rfl, a, xs, rfl, ha.seq, _, rfl, rfl, _, rfl, ?_⟩
    refine iteB (fun c1 => ?_) (fun c1 => ?_)
    · have e : testB n d = false := by
        unfold testB rowB
        have h2 : decide (((itemsD d).length : Int) = n) = false := by
          rw [Bool.not_eq_true', decide_eq_false_iff_not] at c1
          rw [decide_eq_false_iff_not]
          intro z
          apply c1
          rw [hlen, z]
        rw [h2]
        simp
      rw [e] at hadd
      exact iteT ⟨_, rfl, hrow hadd H1 s1⟩
    have hxn : xs.length = n := by
      rw [Bool.not_eq_false'] at c1
      have := V.int.inj (of_decide_eq_true c1)
      omega
    refine ⟨_, rfl, a, xs, rfl, ha, fun J w D nD => ?_⟩
    have sD : ∀ {H3 : Hp}, (∀ b o, b ≠ D → H1 b = some o → H3 b = some o) → Same H1 H3 := fun h b o e => h b o (ne_of_none e nD) e
    refine lc_it w (fun k H3 => (∀ b o, b ≠ D → H1 b = some o → H3 b = some o) ∧ H3 D = some (.lst (((itemsD d).take k).map fun e => V.str (reprV e)))) ⟨fun b o hb e => by rw [upd_ne hb]; exact e, upd_same⟩ (fun k H3 _ hP => ha.at_ (sD hP.1)) ?_ ?_
    · rintro k x H3 H4 hk ⟨p1, p2⟩ ⟨rfl, hx⟩
      obtain ⟨e, he, hde⟩ := hds.get' hx
      have hse := hsm e (List.mem_of_getElem? he)
      have fin : ∃ acc, H4 D = some (.lst acc) ∧ acc.length < sizeLine ∧ (∀ b o, b ≠ D → H1 b = some o → upd H4 D (.lst (acc ++ [V.str (reprV e)])) b = some o) ∧ upd H4 D (.lst (acc ++ [V.str (reprV e)])) D = some (.lst (((itemsD d).take (k + 1)).map fun e => V.str (reprV e))) := by
        refine ⟨_, p2, Nat.lt_of_le_of_lt (show _ ≤ 4 by rw [List.length_map, List.length_take]; omega) (by decide), fun b o hb q => ?_, ?_⟩
        · rw [upd_ne hb]
          exact p1 b o hb q
        · rw [upd_same, take_succ_get he, List.map_append]
          rfl
      refine ⟨rfl, yes_if ⟨_, rfl, ?_⟩⟩
      rcases hse with ⟨i, rfl, i0, i1⟩ | rfl
      · cases hde.int_
        exact .inl ⟨i, rfl, by
          have : i = 0 ∨ i = 1 ∨ i = 2 ∨ i = 3 ∨ i = 4 := by omega
          rcases this with z | z | z | z | z <;> rw [z] <;> decide +kernel, fin⟩
      · cases hde
        exact .inr ⟨true, rfl, fin⟩
    rintro H3 ⟨p1, p2⟩
    have s3 := sD p1
    have s13 : Same H H3 := s1.trans s3
    obtain ⟨ks, hks⟩ : ∃ ks : List Key, ks = (itemsD d).map fun e => Sum.inr (reprV e) := ⟨_, rfl⟩
    have hkl : ks.length = n := by rw [hks, List.length_map]; omega
    have ekv : ks.map kV = (itemsD d).map fun e => V.str (reprV e) := by rw [hks, List.map_map]; rfl
    have hkn : ks.Nodup ↔ (itemsD d).Nodup := by
      rw [hks]
      constructor
      · intro h
        exact (List.pairwise_map.mp h).imp fun {a b} hne z => hne (by rw [z])
      · intro h
        refine List.pairwise_map.mpr (h.imp_of_mem fun {a b} ha hb hne z => hne (repr_inj (hsm a ha) (hsm b hb) (Sum.inr.inj z)))
    have p4 : H3 D = some (.lst (ks.map kV)) := by
      rw [ekv, p2]
      have : (itemsD d).take xs.length = itemsD d := by rw [hlen, List.take_length]
      rw [this]
    refine ⟨D, ks, rfl, .inl (SqL.of p4), by omega, _, rfl, rfl, _, rfl, ?_⟩
    refine iteB (fun c2 => ?_) (fun c2 => ?_)
    · have e : testB n d = false := by
        cases z : testB n d with
        | false => rfl
        | true =>
          unfold testB at z
          rw [Bool.and_eq_true] at z
          have z2 : ((itemsD d).map toI).Nodup := of_decide_eq_true z.2
          have z3 : (itemsD d).Nodup := (List.pairwise_map.mp z2).imp fun {a b} hne q => hne (by rw [q])
          have z4 := dcount_nodup.mpr (hkn.mpr z3)
          rw [Bool.not_eq_true', decide_eq_false_iff_not] at c2
          exact absurd (by rw [z4, hkl]) c2
      rw [e] at hadd
      exact ⟨_, rfl, hrow hadd H3 s13⟩
    have hnd : (itemsD d).Nodup := by
      refine hkn.mp (dcount_nodup.mp ?_)
      rw [Bool.not_eq_false'] at c2
      have := V.int.inj (of_decide_eq_true c2)
      omega
    have ha3 := ha.mono s3
    refine ⟨_, rfl, a, xs, rfl, ha3, fun J2 w2 D2 nD2 => ?_⟩
    have sD2 : ∀ {H4 : Hp}, (∀ b o, b ≠ D2 → H3 b = some o → H4 b = some o) → Same H3 H4 := fun h b o e => h b o (ne_of_none e nD2) e
    refine lc_it w2 (fun k H4 => (∀ b o, b ≠ D2 → H3 b = some o → H4 b = some o) ∧ H4 D2 = some (.lst ((((itemsD d).take k).filter fun e => !isInt e).map fun _ => V.bl true))) ⟨fun b o hb e => by rw [upd_ne hb]; exact e, upd_same⟩ (fun k H4 _ hP => ha3.at_ (sD2 hP.1)) ?_ ?_
    · rintro k x H4 H5 hk ⟨q1, q2⟩ ⟨rfl, hx⟩
      obtain ⟨e, he, hde⟩ := hds.get' hx
      have hse := hsm e (List.mem_of_getElem? he)
      rcases hse with ⟨i, rfl, i0, i1⟩ | rfl
      · cases hde.int_
        refine ⟨rfl, _, rfl, _, _, _, _, _, rfl, .ty _, (Dq.int (H := H5) i).ty, kit_dt "int" (by simp) (.int i), _, rfl, iteF' rfl ⟨_, rfl, _, _, _, _, _, rfl, .ty _, (Dq.int (H := H5) i).ty, kit_dt "bool" (by simp) (.int i), _, rfl, iteF' rfl ⟨q1, ?_⟩⟩⟩
        rw [take_succ_get he, List.filter_append]
        simpa [isInt] using q2
      · cases hde
        refine ⟨rfl, _, rfl, _, _, _, _, _, rfl, .ty _, (Dq.bl (H := H5) true).ty, kit_dt "int" (by simp) (.bool true), _, rfl, iteF' rfl ⟨_, rfl, _, _, _, _, _, rfl, .ty _, (Dq.bl (H := H5) true).ty, kit_dt "bool" (by simp) (.bool true), _, rfl, iteT' rfl ⟨_, rfl, _, q2, ?_, fun b o hb q => ?_, ?_⟩⟩⟩
        · rw [List.length_map]
          have z1 := List.length_filter_le (fun e => !isInt e) ((itemsD d).take k)
          rw [List.length_take] at z1
          exact Nat.lt_of_le_of_lt (show _ ≤ 4 by omega) (by decide)
        · rw [upd_ne hb]
          exact q1 b o hb q
        · rw [upd_same, take_succ_get he, List.filter_append, List.map_append]
          rfl
    · rintro H4 ⟨q1, q2⟩
      have s4 := sD2 q1
      have etk : (itemsD d).take xs.length = itemsD d := by rw [hlen, List.take_length]
      rw [etk] at q2
      obtain ⟨m, hm⟩ : ∃ m, m = ((itemsD d).filter fun e => !isInt e).length := ⟨_, rfl⟩
      have hm4 : m ≤ 4 := by rw [hm]; exact Nat.le_trans (List.length_filter_le _ _) hl4
      have q3 : H4 D2 = some (.lst (List.replicate m (V.bl true))) := by rw [q2, hm, List.map_const']
      refine ⟨Nat.zero_le _, fun z nz => ?_⟩
      have s5 := s13.trans (s4.trans (same_new (o := .lst []) nz))
      have e2 : upd H4 z (.lst []) D2 = some (.lst (List.replicate m (V.bl true))) := by rw [upd_ne (ne_of_none q3 nz)]; exact q3
      have hB : ∀ m : Nat, DqAll (upd H4 z (.lst [])) (List.replicate m (V.bl true)) (List.replicate m (PyData.bool true)) := fun m => by
        induction m with
        | zero => exact .nil
        | succ m ih => exact .cons (.bl true) ih
      have hsh : ∀ m : Nat, m ≤ 4 → SeqAt.shaped (.list (List.replicate m (PyData.bool true))) = true ∧ PyData.eqv (.list (List.replicate m (PyData.bool true))) (.list []) = decide (m = 0) := fun m hm => by
        have : m = 0 ∨ m = 1 ∨ m = 2 ∨ m = 3 ∨ m = 4 := by omega
        rcases this with rfl | rfl | rfl | rfl | rfl <;> exact ⟨by decide +kernel, by decide +kernel⟩
      obtain ⟨h6, h7⟩ := hsh m hm4
      refine ⟨_, _, (Dq.lst e2 (hB m)).dp, (Dq.lst upd_same .nil).dp, h6, ints_lay [], _, rfl, ?_⟩
      rw [h7]
      have hall : m = 0 ↔ (itemsD d).all isInt = true := by
        rw [hm, List.length_eq_zero_iff, List.filter_eq_nil_iff, List.all_eq_true]
        constructor
        · intro h x hx
          have := h x hx
          simpa using this
        · intro h x hx
          simp [h x hx]
      refine iteB (fun c3 => ?_) (fun c3 => ?_)
      · have hz : ¬ m = 0 := by
          rw [Bool.not_eq_true', decide_eq_false_iff_not] at c3
          exact c3
        have e : testB n d = false := by
          have h8 : (itemsD d).all isInt = false := by
            cases z : (itemsD d).all isInt with
            | false => rfl
            | true => exact absurd (hall.mpr z) hz
          unfold testB rowB
          rw [h8]
          simp
        rw [e] at hadd
        exact ⟨_, rfl, hrow hadd _ s5⟩
      · have hz : m = 0 := by
          rw [Bool.not_eq_false', decide_eq_true_eq] at c3
          exact c3
        have h8 := hall.mp hz
        obtain ⟨ns, e1, e2⟩ := ints_of hds h8
        have e3 : intsOf d = ns := by
          unfold intsOf
          rw [e2]
          exact map_toI ns
        have e : testB n d = true := by
          have hlen2 : (itemsD d).length = n := by omega
          have hdist : distB d = true := by
            unfold distB
            rw [e2, map_toI]
            refine decide_eq_true ?_
            rw [e2] at hnd
            exact (List.pairwise_map.mp hnd).imp fun {a b} hne q => hne (by rw [q])
          unfold testB rowB
          rw [c, h8, hdist, hlen2]
          simp
          omega
        rw [if_pos e, e3] at hadd
        have fin : ∀ (H6 : Hp) (u : Addr), Same H H6 → H6 u = some (.tup xs) → [V.ref u].length ≤ sizeLine ∧ ∀ t1, H6 t1 = none → ∃ lx b xs' zs, V.ref l = .ref lx ∧ V.ref t1 = .ref b ∧ upd H6 t1 (.lst [V.ref u]) lx = some (.lst xs') ∧ upd H6 t1 (.lst [V.ref u]) b = some (.lst zs) ∧ xs'.length + zs.length ≤ sizeLine ∧ ∀ p, upd H6 t1 (.lst [V.ref u]) p = none → [V.str (Str.ofString "tests"), V.ref p].length ≤ sizeLine ∧ ∀ r, upd (upd H6 t1 (.lst [V.ref u])) p (.lst (xs' ++ zs)) r = none → Q (.ref r) (upd (upd (upd H6 t1 (.lst [V.ref u])) p (.lst (xs' ++ zs))) r (.lst [V.str (Str.ofString "tests"), V.ref p])) := fun H6 u s6 hu => by
          refine ⟨by show 1 ≤ sizeLine; decide, fun t1 nt1 => ⟨l, t1, ys, [V.ref u], rfl, rfl, ?_, upd_same, ?_, fun p2 np2 => ⟨by show 2 ≤ sizeLine; decide, fun r nr => ?_⟩⟩⟩
          · exact same_new nt1 _ _ (s6 _ _ hl)
          · have z1 : ys.length = rows.length := by
              have z0 := hys.length
              rw [List.length_map] at z0
              exact z0
            have z2 : rows.length < 90 := hg.rows.1
            exact Nat.le_trans (show ys.length + 1 ≤ 91 by omega) (by decide)
          · have sa := s6.trans (same_new (o := .lst [V.ref u]) nt1)
            have sb := sa.trans (same_new (o := .lst (ys ++ [V.ref u])) np2)
            have sc := sb.trans (same_new (o := .lst [V.str (Str.ofString "tests"), V.ref p2]) nr)
            refine q _ _ sc ?_
            rw [hadd]
            refine ⟨r, p2, ys ++ [V.ref u], rfl, sb.free nr, sa.free np2, upd_same, same_new nr _ _ upd_same, ?_⟩
            show DqAll _ _ ((rows ++ [ns]).map tupD)
            rw [List.map_append]
            refine (hys.mono sc).snoc ?_
            refine Dq.row ?_
            rw [← e1]
            exact same_new nr _ _ (same_new np2 _ _ (same_new nt1 _ _ hu))
        refine ⟨_, rfl, _, rfl, a, xs, rfl, ?_⟩
        rcases (ha.mono (s3.trans (s4.trans (same_new (o := .lst []) nz)))) with hq | hq
        · exact .inl ⟨SqL.of hq, fun u nu => fin _ u (s5.trans (same_new nu)) upd_same⟩
        · exact .inr ⟨SqT.of hq, fin _ a s5 hq⟩
  | net =>
    have nt : ¬ (kindS .net = Str.ofString "tests") := by decide +kernel
    have nk : ¬ (kindS .net = Str.ofString "order") := by decide +kernel
    refine iteF' (decide_eq_false fun z => nt (V.str.inj z)) ?_
    have hadd : addT n ⟨.net, rows⟩ d = (if stepB n d = true then .ok ⟨.net, rows ++ [intsOf d]⟩ else .step) := rfl
    have hix : atI [V.str (Str.ofString "step"), V.str (Str.ofString "pair")] (if decide (V.str (kindS .net) = V.str (Str.ofString "order")) = true then 1 else 0) = some (V.str (Str.ofString "step")) := by
      rw [decide_eq_false fun z => nk (V.str.inj z)]
      exact atI_nat (j := 0) rfl
    have hstep : stepB n d = false → ∀ (H2 : Hp), Same H H2 → ([V.str (Str.ofString "step"), iv].length ≤ sizeLine ∧ ∀ r, H2 r = none → Q (.ref r) (upd H2 r (.lst [V.str (Str.ofString "step"), iv]))) := fun e H2 s2 => by
      rw [e] at hadd
      exact ⟨by show 2 ≤ sizeLine; decide, fun r nr => q _ _ (s2.trans (same_new nr)) (by rw [hadd]; exact ⟨r, rfl, s2.free nr, upd_same⟩)⟩
    refine ⟨_, rfl, _, rfl, n, iv, d, rfl, hd, hi, fun H1 s1 => ⟨_, rfl, ?_⟩⟩
    cases hc : pairB n d with
    | false =>
      have e : stepB n d = false := by
        cases z : stepB n d with
        | false => rfl
        | true => rw [step_pair z] at hc; cases hc
      exact iteT' rfl ⟨by show 2 ≤ sizeLine; decide, fun lp nlp => ⟨_, rfl, rfl, .inr ⟨_, rfl, lp, _, _, _, rfl, rfl, SqL.of upd_same, hix, _, rfl, hstep e _ (s1.trans (same_new nlp))⟩⟩⟩
    | true =>
      refine iteF' rfl ?_
      obtain ⟨i, j, rfl, i0, i1, j0, j1, hne⟩ := coup_parts hc
      obtain ⟨a, xs, rfl, ha, hxs⟩ := Dq.tup_ (hd.mono s1)
      have exs : xs = [V.int i, V.int j] := DqAll.of_ints (ns := [i, j]) hxs
      subst exs
      refine ⟨_, rfl, rfl, _, rfl, iteT' (decide_eq_true rfl) ?_⟩
      refine ⟨_, rfl, a, _, _, _, rfl, rfl, SqT.of ha, at0, _, rfl, a, _, _, _, rfl, rfl, SqT.of ha, at1, _, _, rfl, rfl, _, rfl, ?_⟩
      refine iteB (fun c => ?_) (fun c => ?_)
      · have c' : j < i := of_decide_eq_true c
        have e : stepB n (.tuple [.int i, .int j]) = false := by
          show (lineB n (.int i) && (lineB n (.int j) && ltD (.int i) (.int j))) = false
          have : ltD (.int i) (.int j) = false := by simp [ltD]; omega
          rw [this]
          simp
        exact ⟨by show 2 ≤ sizeLine; decide, fun lp nlp => ⟨_, rfl, rfl, .inr ⟨_, rfl, lp, _, _, _, rfl, rfl, SqL.of upd_same, hix, _, rfl, hstep e _ (s1.trans (same_new nlp))⟩⟩⟩
      · have c' : ¬ j < i := of_decide_eq_false c
        have hne' : i ≠ j := by simpa [neD] using hne
        have e : stepB n (.tuple [.int i, .int j]) = true := by
          show (lineB n (.int i) && (lineB n (.int j) && ltD (.int i) (.int j))) = true
          simp [lineB, ltD]
          omega
        rw [if_pos e] at hadd
        refine ⟨_, rfl, rfl, _, rfl, iteT' (decide_eq_true rfl) ?_⟩
        refine ⟨_, rfl, _, rfl, by show 1 ≤ sizeLine; decide, fun t1 nt1 => ⟨l, t1, ys, [V.ref a], rfl, rfl, ?_, upd_same, ?_, fun p2 np2 => ⟨by show 2 ≤ sizeLine; decide, fun r nr => ?_⟩⟩⟩
        · exact same_new nt1 _ _ (s1 _ _ hl)
        · have z1 : ys.length = rows.length := by
            have z0 := hys.length
            rw [List.length_map] at z0
            exact z0
          have z2 : rows.length < 90 := hg.rows.1
          exact Nat.le_trans (show ys.length + 1 ≤ 91 by omega) (by decide)
        · have sa := s1.trans (same_new (o := .lst [V.ref a]) nt1)
          have sb := sa.trans (same_new (o := .lst (ys ++ [V.ref a])) np2)
          have sc := sb.trans (same_new (o := .lst [V.str (Str.ofString "network"), V.ref p2]) nr)
          refine q _ _ sc ?_
          rw [hadd]
          refine ⟨r, p2, ys ++ [V.ref a], rfl, sb.free nr, sa.free np2, upd_same, same_new nr _ _ upd_same, ?_⟩
          show DqAll _ _ ((rows ++ [[i, j]]).map tupD)
          rw [List.map_append]
          exact (hys.mono sc).snoc (hd.mono sc)
  | ord =>
    have nt : ¬ (kindS .ord = Str.ofString "tests") := by decide +kernel
    have nk : ¬ (kindS .ord = Str.ofString "network") := by decide +kernel
    refine iteF' (decide_eq_false fun z => nt (V.str.inj z)) ?_
    have hadd : addT n ⟨.ord, rows⟩ d = (if pairB n d = true then (if ringL n (warsh n (initR (rows ++ [intsOf d]))) = [] then .ok ⟨.ord, closedL n (rows ++ [intsOf d])⟩ else .ring (ringL n (warsh n (initR (rows ++ [intsOf d]))))) else .pair) := rfl
    have hix : atI [V.str (Str.ofString "step"), V.str (Str.ofString "pair")] (if decide (V.str (kindS .ord) = V.str (Str.ofString "order")) = true then 1 else 0) = some (V.str (Str.ofString "pair")) := by
      rw [decide_eq_true (show V.str (kindS .ord) = V.str (Str.ofString "order") from rfl)]
      exact atI_nat (j := 1) rfl
    refine ⟨_, rfl, _, rfl, n, iv, d, rfl, hd, hi, fun H1 s1 => ⟨_, rfl, ?_⟩⟩
    cases hc : pairB n d with
    | false =>
      rw [hc] at hadd
      refine iteT' rfl ⟨by show 2 ≤ sizeLine; decide, fun lp nlp => ⟨_, rfl, rfl, .inr ⟨_, rfl, lp, _, _, _, rfl, rfl, SqL.of upd_same, hix, _, rfl, by show 2 ≤ sizeLine; decide, fun r nr => ?_⟩⟩⟩
      have s2 := s1.trans (same_new (o := .lst [V.str (Str.ofString "step"), V.str (Str.ofString "pair")]) nlp)
      exact q _ _ (s2.trans (same_new nr)) (by rw [hadd]; exact ⟨r, rfl, s2.free nr, upd_same⟩)
    | true =>
      rw [if_pos hc] at hadd
      refine iteF' rfl ?_
      obtain ⟨i, j, rfl, i0, i1, j0, j1, hne⟩ := coup_parts hc
      refine ⟨_, rfl, rfl, _, rfl, iteF' (decide_eq_false fun z => nk (V.str.inj z)) ?_⟩
      refine ⟨_, rfl, rfl, _, rfl, iteF' (decide_eq_false fun z => nk (V.str.inj z)) ?_⟩
      obtain ⟨rs, hrs⟩ : ∃ rs, rs = rows ++ [[i, j]] := ⟨_, rfl⟩
      have hadd' : addT n ⟨.ord, rows⟩ (.tuple [.int i, .int j]) = (if ringL n (warsh n (initR rs)) = [] then .ok ⟨.ord, closedL n rs⟩ else .ring (ringL n (warsh n (initR rs)))) := by rw [hrs]; exact hadd
      have hrp : ∀ r ∈ rs, PairRow n r := fun r hr => by
        rw [hrs] at hr
        rcases List.mem_append.mp hr with hr | hr
        · exact (hg.rows.2 r hr).1
        · rw [List.mem_singleton.mp hr]
          exact ⟨i.toNat, j.toNat, by omega, by omega, by show [i, j] = [((i.toNat : Nat) : Int), ((j.toNat : Nat) : Int)]; rw [Int.toNat_of_nonneg i0, Int.toNat_of_nonneg j0]⟩
      refine ⟨_, rfl, _, rfl, _, rfl, by show 1 ≤ sizeLine; decide, fun t1 nt1 => ⟨l, t1, ys, [iv], rfl, rfl, ?_, upd_same, ?_, fun p2 np2 => ⟨n, p2, ys ++ [iv], rs, rfl, by omega, h2, upd_same, ?_, hrp, fun p3 ys3 H3 d3 s3 np3 hp3 => ?_⟩⟩⟩
      · exact same_new nt1 _ _ (s1 _ _ hl)
      · have z1 : ys.length = rows.length := by
          have z0 := hys.length
          rw [List.length_map] at z0
          exact z0
        have z2 : rows.length < 90 := hg.rows.1
        exact Nat.le_trans (show ys.length + 1 ≤ 91 by omega) (by decide)
      · have sa := (s1.trans (same_new (o := .lst [iv]) nt1)).trans (same_new (o := .lst (ys ++ [iv])) np2)
        rw [hrs, List.map_append]
        exact (hys.mono sa).snoc (hd.mono sa)
      have sa := (s1.trans (same_new (o := .lst [iv]) nt1)).trans (same_new (o := .lst (ys ++ [iv])) np2)
      have sb := sa.trans s3
      obtain ⟨R, hR⟩ : ∃ R, R = warsh n (initR rs) := ⟨_, rfl⟩
      rw [← hR] at hadd'
      have hin : ∀ k : Nat, k < n → initR (closedL n rs) k k = R k k := fun k hk => by
        unfold closedL
        rw [← hR]
        exact initR_pairsOf hk hk
      refine ⟨_, rfl, _, rfl, (by omega), (by omega), fun D nD => lc_rng (n := n) (fun k H4 => (∀ b o, b ≠ D → H3 b = some o → H4 b = some o) ∧ H4 D = some (.lst ((((List.range k).filter fun a => R a a).map fun (a : Nat) => (a : Int)).map V.int))) ⟨fun b o hb e => by rw [upd_ne hb]; exact e, upd_same⟩ (fun k H4 hk hP => ?_) (fun H4 hP => ?_)⟩
      · obtain ⟨p1, p2x⟩ := hP
        have s4 : Same H3 H4 := fun b o e => p1 b o (ne_of_none e nD) e
        refine ⟨rfl, _, rfl, _, rfl, by show 2 ≤ sizeLine; decide, fun t nt => ?_⟩
        have st := s4.trans (same_new (o := .tup [V.int k, V.int k]) nt)
        have dt : Dq (upd H4 t (.tup [V.int k, V.int k])) (.ref t) (tupD (row2 k k)) := Dq.row upd_same
        have dl : Dq (upd H4 t (.tup [V.int k, V.int k])) (.ref p3) (.list ((closedL n rs).map tupD)) := .lst (st _ _ hp3) (d3.mono st)
        refine ⟨_, rfl, _, _, dt.dp, dl.dp, row2_shaped k k, rowsL_shaped (fun r hr => ?_), _, rfl, ?_⟩
        · obtain ⟨a, b, ha, hb, _, rfl⟩ := mem_pairsOf.mp hr
          show 2 ≤ 100000
          decide
        rw [any_rows, hin k hk]
        have tD : t ≠ D := fun z => by rw [z, p2x] at nt; cases nt
        have nt' := nt
        have p1' : ∀ b o, b ≠ D → H3 b = some o → upd H4 t (.tup [V.int k, V.int k]) b = some o := fun b o hb e => same_new nt _ _ (p1 b o hb e)
        have p2' := same_new (o := .tup [V.int k, V.int k]) nt _ _ p2x
        refine iteB (fun c => ?_) (fun c => ?_)
        · refine ⟨_, rfl, _, p2', ?_, fun b o hb e => ?_, ?_⟩
          · rw [List.length_map, List.length_map]
            have z1 := List.length_filter_le (fun a => R a a) (List.range k)
            rw [List.length_range] at z1
            exact Nat.lt_of_le_of_lt (show _ ≤ 4 by omega) (by decide)
          · rw [upd_ne hb]
            exact p1' b o hb e
          · rw [upd_same, List.range_succ, List.filter_append, List.map_append, List.map_append]
            have e1 : List.filter (fun a => R a a) [k] = [k] := by simp [c]
            rw [e1]
            rfl
        · refine ⟨p1', ?_⟩
          rw [p2', List.range_succ, List.filter_append]
          have e1 : List.filter (fun a => R a a) [k] = [] := by simp [c]
          rw [e1, List.append_nil]
      · obtain ⟨p1, p2x⟩ := hP
        have s4 : Same H3 H4 := fun b o e => p1 b o (ne_of_none e nD) e
        have p2r : H4 D = some (.lst ((ringL n R).map V.int)) := p2x
        have sc := sb.trans s4
        have rl : (ringL n R).length ≤ 4 := by
          unfold ringL
          rw [List.length_map]
          have z1 := List.length_filter_le (fun a => R a a) (List.range n)
          rw [List.length_range] at z1
          omega
        refine ⟨_, rfl, Nat.zero_le _, fun z nz => ?_⟩
        have sz := same_new (o := .lst []) nz
        have eD := sz _ _ p2r
        refine ⟨_, _, (Dq.lst eD (DqAll.ints _)).dp, (Dq.lst upd_same .nil).dp, ints_lay _, ints_lay [], _, rfl, ?_⟩
        rw [ints_nil]
        have nDH : H D = none := sb.free nD
        refine iteB (fun c => ?_) (fun c => ?_)
        · have c' : ringL n R = [] := of_decide_eq_true c
          rw [if_pos c'] at hadd'
          refine ⟨_, rfl, by show 2 ≤ sizeLine; decide, fun r nr => q _ _ ((sc.trans sz).trans (same_new nr)) ?_⟩
          rw [hadd']
          have sn := same_new (o := .lst [V.str (Str.ofString "order"), V.ref p3]) nr
          exact ⟨r, p3, ys3, rfl, (sc.trans sz).free nr, sa.free np3, upd_same, sn _ _ (sz _ _ (s4 _ _ hp3)), d3.mono (s4.trans (sz.trans sn))⟩
        · have c' : ¬ ringL n R = [] := of_decide_eq_false c
          rw [if_neg c'] at hadd'
          refine ⟨_, rfl, by show 2 ≤ sizeLine; decide, fun r nr => q _ _ ((sc.trans sz).trans (same_new nr)) ?_⟩
          rw [hadd']
          exact ⟨r, D, rfl, (sc.trans sz).free nr, upd_same, same_new nr _ _ eD⟩
theorem bd_law_longer {K : PySem.W.Frag} {mg : Str → Option Value} (T : Txt K mg) : Binds K (fdAt K (ga K "_law_longer")) ["_law_many", "_law_thing_here", "_law_item_here"] [] := T.f_law_longer.bindsN fun _ _ _ _ _ _ us hl => match us, hl with | [_, _, _], _ => rfl
theorem c_law_longer {X : Cx} {e : Expr} {es : List Expr} {t : TA} {p pos : Pos} (T : Txt X.K X.mg) (hr : Room 3 X.A) (ha : PA X (e :: es) t) (hg : Gl X "_law_longer" := by rfl) (he : starEach (e :: es) X.env = (false, eval e X.env) :: starEach es X.env := by rfl) (hpl : (backTo pos (starEach es X.env)).any (·.1) = false := by rfl) :
    PE X (.Call (.Name "_law_longer" p) (e :: es) [] pos) (tCall (spLonger) [] E0 t) := pe_call (ok_law_longer T) hr hg T.g_law_longer T.f_law_longer.kp (bd_law_longer T) .nil pass0 ha (by decide) he hpl
end
end K57
/-! L14 -/
namespace K57
open PySem PySem.Spec PyProof.Rows L2 He
/-! ### the model's change -/
inductive ChR where
  | done (st : State)
  | taken (x : Str)
  | unknown (x : Str)
  | bad (r : AddR)
def chg (n : Nat) (st : State) : Deed → ChR
  | .put x t => match st.lookup x with
    | some _ => .taken x
    | none => .done (st ++ [(x, t)])
  | .add x _ d => match st.lookup x with
    | none => .unknown x
    | some t => match addT n t d with
      | .ok t' => .done (setS st x t')
      | .step => .bad .step
      | .pair => .bad .pair
      | .row => .bad .row
      | .ring l => .bad (.ring l)
  | .drop x => match st.lookup x with
    | none => .unknown x
    | some _ => .done (dropS st x)
  | .ren x y => match st.lookup x with
    | none => .unknown x
    | some t => match st.lookup y with
      | some _ => .taken y
      | none => .done (dropS st x ++ [(y, t)])
  | .undo => .unknown ""
def badD (d : PyData) : AddR → PyData
  | .ok _ => .none
  | .step => .list [.str (Str.ofString "step"), d]
  | .pair => .list [.str (Str.ofString "pair"), d]
  | .row => .list [.str (Str.ofString "row"), d]
  | .ring l => .list [.str (Str.ofString "ring"), .list (l.map .int)]
def itemD : Deed → PyData
  | .add _ _ d => d
  | _ => .none
/-- what a change answers -/
def chD (d : PyData) : ChR → PyData
  | .done _ => .list [.str (Str.ofString "done"), .none]
  | .taken x => .list [.str (Str.ofString "taken"), .str x]
  | .unknown x => .list [.str (Str.ofString "unknown"), .str x]
  | .bad r => badD d r
/-- no change: a sign and a value -/
def ErrV (H : Hp) (v : V) (D : PyData) : Prop := Dq H v D ∧ ∃ p s u, v = .ref p ∧ H p = some (.lst [.str s, u]) ∧ s ≠ Str.ofString "done"
def ChV (G H0 H : Hp) (v : V) (d : PyData) : ChR → Prop
  | .done st => ∃ p sd kvs, v = .ref p ∧ H p = some (.lst [.str (Str.ofString "done"), .ref sd]) ∧ H0 sd = none ∧ H sd = some (.dK kvs) ∧ LPD (fzt G H0 H) kvs st
  | .taken x => ErrV H v (chD d (.taken x))
  | .unknown x => ErrV H v (chD d (.unknown x))
  | .bad r => ErrV H v (chD d (.bad r))
theorem fzt_mono {G H H1 H2 : Hp} (sG : Same G H) (s1 : Same H H1) (s : Same H1 H2) : Same (fzt G H H1) (fzt G H H2) := by
  have a : Same (fz G H H1) (fz G H H2) := fun p o e => by
    cases q : H p with
    | none =>
      rw [fz_new q] at e ⊢
      exact s p o e
    | some v =>
      rw [fz_old q] at e ⊢
      exact e
  intro p o e
  unfold fzt gt at e ⊢
  cases q : H1 p with
  | none =>
    rw [q] at e
    have e' : fz G H H1 p = some o := e
    have h1 : H p = none := by
      cases z : H p with
      | none => rfl
      | some v => have := s1 p v z; rw [q] at this; cases this
    rw [fz_new h1, q] at e'
    cases e'
  | some v =>
    rw [s p v q]
    rw [q] at e
    cases v with
    | tup xs => exact e
    | _ => exact a p o e
theorem fzt_sub {G H H1 : Hp} (sG : Same G H) (s1 : Same H H1) : Same G (fzt G H H1) := (Go.fzt (M := []) sG s1).sub
theorem LThingN.fzt {G H H1 : Hp} {v : V} {t : Thing} (h : LThingN H H1 v t) : LThing (fzt G H H1) v t := by
  obtain ⟨p, l, ys, e, n1, n2, h1, h2, h3⟩ := h
  exact ⟨p, l, ys, e, fzt_new n1 h1, fzt_new n2 h2, h3.gt⟩
/-- a deed, its thing for ever -/
def LDeedG (G H : Hp) (v : V) : Deed → Prop
  | .put x t => ∃ p u, v = .ref p ∧ H p = some (.lst [.str (Str.ofString "put"), .str x, u]) ∧ LThing G u t
  | .add x u d => ∃ p, v = .ref p ∧ H p = some (.lst [.str (Str.ofString "add"), .str x, u]) ∧ Dq H u d
  | .drop x => ∃ p, v = .ref p ∧ H p = some (.lst [.str (Str.ofString "drop"), .str x])
  | .ren x y => ∃ p, v = .ref p ∧ H p = some (.lst [.str (Str.ofString "rename"), .str x, .str y])
  | .undo => ∃ p, v = .ref p ∧ H p = some (.lst [.str (Str.ofString "undo")])
section
variable {R : V → Thing → Prop}
abbrev KP (R : V → Thing → Prop) (kvs : List (Key × V)) (st : State) : Prop := Paired (fun (p : Key × V) (q : Str × Thing) => p.1 = Sum.inr q.1 ∧ R p.2 q.2) kvs st
theorem kp_new {kvs : List (Key × V)} {st : State} {x : Str} {v : V} {t : Thing} (h : KP R kvs st) (hn : valV kvs (Sum.inr x) = none) (hv : R v t) : KP R (putK kvs (Sum.inr x) v) (st ++ [(x, t)]) := by
  rw [putK_new v hn]
  exact Paired.snoc h ⟨rfl, hv⟩
theorem kp_set {kvs : List (Key × V)} {st : State} {x : Str} {v v0 : V} {t : Thing} (h : KP R kvs st) (hn : valV kvs (Sum.inr x) = some v0) (hv : R v t) : KP R (putK kvs (Sum.inr x) v) (setS st x t) := by
  have ha : (kvs.any fun kv => decide (kv.1 = Sum.inr x)) = true := by rw [valV_any, hn]; rfl
  have e : putK kvs (Sum.inr x) v = kvs.map fun kv => if kv.1 = Sum.inr x then (kv.1, v) else kv := by
    unfold putK
    rw [if_pos ha]
  rw [e]
  clear e ha hn
  unfold setS KP at *
  induction h with
  | nil => exact .nil
  | @cons p q ps qs h r ih =>
    refine .cons ?_ ih
    by_cases z : q.1 = x
    · have z1 : p.1 = Sum.inr x := by rw [h.1, z]
      show (if p.1 = Sum.inr x then (p.1, v) else p).1 = Sum.inr (if q.1 = x then (q.1, t) else q).1 ∧ R (if p.1 = Sum.inr x then (p.1, v) else p).2 (if q.1 = x then (q.1, t) else q).2
      rw [if_pos z, if_pos z1]
      exact ⟨h.1, hv⟩
    · have z1 : ¬ p.1 = Sum.inr x := fun e => z (Sum.inr.inj (h.1.symm.trans e))
      show (if p.1 = Sum.inr x then (p.1, v) else p).1 = Sum.inr (if q.1 = x then (q.1, t) else q).1 ∧ R (if p.1 = Sum.inr x then (p.1, v) else p).2 (if q.1 = x then (q.1, t) else q).2
      rw [if_neg z, if_neg z1]
      exact h
theorem kp_drop {x : Str} : ∀ {kvs : List (Key × V)} {st : State}, KP R kvs st → KP R (dropK kvs (Sum.inr x)) (dropS st x)
  | _, _, .nil => .nil
  | p :: kvs, q :: st, .cons h r => by
    have ih := kp_drop (x := x) r
    unfold dropK dropS
    by_cases z : q.1 = x
    · have z1 : p.1 = Sum.inr x := by rw [h.1, z]
      rw [List.filter_cons_of_neg (by simp [z1]), List.filter_cons_of_neg (by simp [z])]
      exact ih
    · have z1 : ¬ p.1 = Sum.inr x := fun e => z (Sum.inr.inj (h.1.symm.trans e))
      rw [List.filter_cons_of_pos (by simp [z1]), List.filter_cons_of_pos (by simp [z])]
      exact .cons h ih
end
theorem look_drop {kvs : List (Key × V)} {x y : Str} (h : valV kvs (Sum.inr y) = none) : valV (dropK kvs (Sum.inr x)) (Sum.inr y) = none := look_filter _ h
theorem LThingN.thing {H0 H : Hp} {v : V} {t : Thing} (h : LThingN H0 H v t) : LThing H v t := by
  obtain ⟨p, l, ys, e, _, _, h1, h2, h3⟩ := h
  exact ⟨p, l, ys, e, h1, h2, h3⟩
theorem LThingN.mono {H0 H H' : Hp} {v : V} {t : Thing} (s : Same H H') (h : LThingN H0 H v t) : LThingN H0 H' v t := by
  obtain ⟨p, l, ys, e, n1, n2, h1, h2, h3⟩ := h
  exact ⟨p, l, ys, e, n1, n2, s _ _ h1, s _ _ h2, h3.mono s⟩
theorem LDeedG.mono {G G' H H' : Hp} {v : V} (sg : Same G G') (s : Same H H') : ∀ {dm : Deed}, LDeedG G H v dm → LDeedG G' H' v dm
  | .put _ _, h => by
    obtain ⟨p, u, e, h1, h2⟩ := h
    exact ⟨p, u, e, s _ _ h1, h2.mono sg⟩
  | .add _ _ _, h => by
    obtain ⟨p, e, h1, h2⟩ := h
    exact ⟨p, e, s _ _ h1, h2.mono s⟩
  | .drop _, h => by
    obtain ⟨p, e, h1⟩ := h
    exact ⟨p, e, s _ _ h1⟩
  | .ren _ _, h => by
    obtain ⟨p, e, h1⟩ := h
    exact ⟨p, e, s _ _ h1⟩
  | .undo, h => by
    obtain ⟨p, e, h1⟩ := h
    exact ⟨p, e, s _ _ h1⟩
theorem err_of {H : Hp} {p : Addr} {s : Str} {u : V} {d : PyData} (h : H p = some (.lst [.str s, u])) (hu : Dq H u d) (hs : s ≠ Str.ofString "done") : ErrV H (.ref p) (.list [.str s, d]) := ⟨.lst h (.cons (.str s) (.cons hu .nil)), p, s, u, rfl, h, hs⟩
section
variable {P : Program} {w : World} {K : PySem.W.Frag} {mg : Str → Option Value} {base : Heap}
def spChanged : Sp := fun vs H Q _ => ∃ (n : Nat) (sd : Addr) (dv : V) (kvs : List (Key × V)) (st : State) (dm : Deed) (G : Hp), vs = [.int n, .ref sd, dv] ∧ 2 ≤ n ∧ n ≤ 4 ∧ Same G H ∧ H sd = some (.dK kvs) ∧ LPD G kvs st ∧ st.length < 900 ∧ (∀ p ∈ st, Good n p.2) ∧ LDeedG G H dv dm ∧ DeedOk n st dm ∧ dm ≠ .undo ∧
  ∀ v H1, Same H H1 → ChV G H H1 v (itemD dm) (chg n st dm) → Q v H1
theorem three_flat {x : Str} : ([V.str (Str.ofString "network"), V.str (Str.ofString "order"), V.str (Str.ofString "tests")]).all flatV = true := rfl
theorem sc_law_changed : FnScope ["_law_many", "_law_state", "_law_deed_here", "_law_label", "_law_fresh", "_law_longer_here"] ["_law_many", "_law_state", "_law_deed_here"] (defScope sLawChanged) := ⟨rfl, rfl, rfl, by decide +kernel, rfl, by decide +kernel, by decide +kernel⟩
theorem ok_law_changed (T : Txt K mg) : FnOk P w K mg base CX0 4 (ga K "_law_changed") (fdAt K (ga K "_law_changed")) ["_law_many", "_law_state", "_law_deed_here"] spChanged := by
  refine T.f_law_changed.ok sc_law_changed (fun vs H Q E h => ?_) (fun cdv A outer s H vs Q E hr h => ?_)
  · obtain ⟨n, sd, dv, kvs, st, dm, G, rfl, _⟩ := h
    rfl
  obtain ⟨n, sd, dv, kvs, st, dm, G, rfl, h1, h2, sG, hsd, hLG, hlt, hgood, hdm, hok, hnu, q⟩ := h
  refine ⟨_, PSs.nox (pss_cons (ps_par (i := 3) (j := 4) (by rfl) sc_law_changed.nd rfl rfl (by decide) rfl rfl (pa_cons (pe_ix ix_list (pv 2) pe_int (fun _ _ => rfl)) (pa_cons (t_dict call_dictD T (pa_cons (pv 1) pa_nil)) pa_nil)) (by rfl))
    (pss_cons (ps_if (pt_cmpR op_eq (pe_ix ix_list (pv 2) pe_int (fun _ _ => rfl)) pe_str (nomark _)) (pss_cons (ps_if (pt_cmp (pc_din (hu_of hr) (pv 3) (pv 1))) (pss_one (ps_ret (pe_lst (pa_cons pe_str (pa_cons (pv 3) pa_nil))))) pss_nil)
    (pss_cons (ps_dput (hu_of hr) (pv 4) (pv 3) (pe_ix ix_list (pv 2) pe_int (fun _ _ => rfl)) rfl)
    (pss_one (ps_ret (pe_lst (pa_cons pe_str (pa_cons (pv 4) pa_nil))))))) pss_nil)
    (pss_cons (ps_if (pt_cmp (pc_dnotin (hu_of hr) (pv 3) (pv 1))) (pss_one (ps_ret (pe_lst (pa_cons pe_str (pa_cons (pv 3) pa_nil))))) pss_nil)
    (pss_cons (ps_if (pt_cmpR op_eq (pe_ix ix_list (pv 2) pe_int (fun _ _ => rfl)) pe_str (nomark _)) (pss_cons (ps_set (i := 5) sc_law_changed.nd rfl (Or.inl rfl) (c_law_longer T (hr.mono (by decide)) (pa_cons (pv 0) (pa_cons (pe_dget (hu_of hr) (pv 1) (pv 3) (fun _ _ => rfl)) (pa_cons (pe_ix ix_list (pv 2) pe_int (fun _ _ => rfl)) pa_nil)))))
    (pss_cons (ps_dput (hu_of hr) (pv 4) (pv 3) (pv 5) rfl)
    (pss_one (ps_ret (pe_ifExp (pt_cmpR op_in_seq (pe_ix ix_list (pv 5) pe_int (fun _ _ => rfl)) (pe_lst (pa_cons pe_str (pa_cons pe_str (pa_cons pe_str pa_nil)))) (by rfl)) (pe_lst (pa_cons pe_str (pa_cons (pv 4) pa_nil))) (pv 5)))))) pss_nil)
    (pss_cons (ps_expr (pe_dpop1 (pv 4) (pv 3) ⟨rfl, rfl, rfl, rfl⟩))
    (pss_cons (ps_if (pt_cmpR op_eq (pe_ix ix_list (pv 2) pe_int (fun _ _ => rfl)) pe_str (nomark _)) (pss_cons (ps_if (pt_cmp (pc_din (hu_of hr) (pe_ix ix_list (pv 2) pe_int (fun _ _ => rfl)) (pv 1))) (pss_one (ps_ret (pe_lst (pa_cons pe_str (pa_cons (pe_ix ix_list (pv 2) pe_int (fun _ _ => rfl)) pa_nil))))) pss_nil)
    (pss_one (ps_dput (hu_of hr) (pv 4) (pe_ix ix_list (pv 2) pe_int (fun _ _ => rfl)) (pe_dget (hu_of hr) (pv 1) (pv 3) (fun _ _ => rfl)) rfl))) pss_nil)
    (pss_one (ps_ret (pe_lst (pa_cons pe_str (pa_cons (pv 4) pa_nil))))))))))), ?_⟩
  have hL := hLG.mono sG
  have hkl : kvs.length = st.length := Paired.length hL
  have klt : ∀ {ks : List (Key × V)}, ks.length < 1000 → ks.length < sizeLine := fun h => Nat.lt_trans h (by decide)
  cases dm with
  | undo => exact absurd rfl hnu
  | put x t =>
    obtain ⟨p, u, rfl, hp, hu⟩ := hdm
    have at1 : atI [V.str (Str.ofString "put"), V.str x, u] 1 = some (V.str x) := atI_nat (j := 1) rfl
    have at0 : atI [V.str (Str.ofString "put"), V.str x, u] 0 = some (V.str (Str.ofString "put")) := atI_nat (j := 0) rfl
    have at2 : atI [V.str (Str.ofString "put"), V.str x, u] 2 = some u := atI_nat (j := 2) rfl
    refine ⟨_, rfl, p, _, _, _, rfl, rfl, SqL.of hp, at1, _, rfl, sd, kvs, rfl, .of hsd, fun sd2 nsd2 => ⟨_, _, rfl, ?_⟩⟩
    have s1 := same_new (o := .dK kvs) nsd2
    refine ⟨_, rfl, p, _, _, _, rfl, rfl, SqL.of (s1 _ _ hp), at0, rfl, _, rfl, iteT' rfl ?_⟩
    refine ⟨_, rfl, _, rfl, sd, _, rfl, DGet.k (k := Sum.inr x) (s1 _ _ hsd), _, rfl, ?_⟩
    rcases hL.look x with ⟨v, t0, q1, q2, q3⟩ | ⟨q1, q2⟩
    · rw [q1]
      have hc : chg n st (.put x t) = .taken x := by simp only [chg, q2]
      refine iteT ⟨_, rfl, by show 2 ≤ sizeLine; decide, fun r nr => q _ _ (s1.trans (same_new nr)) ?_⟩
      rw [hc]
      exact err_of upd_same (.str x) (by decide +kernel)
    · rw [q1]
      have hc : chg n st (.put x t) = .done (st ++ [(x, t)]) := by simp only [chg, q2]
      refine iteF ⟨_, rfl, p, _, _, _, rfl, rfl, SqL.of (s1 _ _ hp), at2, _, rfl, _, rfl, sd2, _, rfl, DPut.k (k := Sum.inr x) upd_same (klt (by omega)), ?_⟩
      rw [upd_upd]
      have s2 := same_new (o := .dK (putK kvs (Sum.inr x) u)) nsd2
      refine ⟨_, rfl, by show 2 ≤ sizeLine; decide, fun r nr => q _ _ (s2.trans (same_new nr)) ?_⟩
      rw [hc]
      exact ⟨r, sd2, _, rfl, upd_same, nsd2, same_new nr _ _ upd_same, kp_new (hLG.mono (fzt_sub sG (s2.trans (same_new nr)))) q1 (hu.mono (fzt_sub sG (s2.trans (same_new nr))))⟩
  | add x iv d =>
    obtain ⟨p, rfl, hp, hd⟩ := hdm
    have at1 : atI [V.str (Str.ofString "add"), V.str x, iv] 1 = some (V.str x) := atI_nat (j := 1) rfl
    have at0 : atI [V.str (Str.ofString "add"), V.str x, iv] 0 = some (V.str (Str.ofString "add")) := atI_nat (j := 0) rfl
    have at2 : atI [V.str (Str.ofString "add"), V.str x, iv] 2 = some iv := atI_nat (j := 2) rfl
    refine ⟨_, rfl, p, _, _, _, rfl, rfl, SqL.of hp, at1, _, rfl, sd, kvs, rfl, .of hsd, fun sd2 nsd2 => ⟨_, _, rfl, ?_⟩⟩
    have s1 := same_new (o := .dK kvs) nsd2
    refine ⟨_, rfl, p, _, _, _, rfl, rfl, SqL.of (s1 _ _ hp), at0, rfl, _, rfl, iteF' (decide_eq_false fun z => absurd (V.str.inj z) (by decide +kernel)) ?_⟩
    refine ⟨_, rfl, _, rfl, sd, _, rfl, DGet.k (k := Sum.inr x) (s1 _ _ hsd), _, rfl, ?_⟩
    rcases hL.look x with ⟨v, t, q1, q2, q3⟩ | ⟨q1, q2⟩
    · rw [q1]
      refine iteF ⟨_, rfl, p, _, _, _, rfl, rfl, SqL.of (s1 _ _ hp), at0, rfl, _, rfl, iteT' rfl ?_⟩
      refine ⟨_, rfl, _, rfl, _, rfl, sd, _, rfl, q1 ▸ DGet.k (k := Sum.inr x) (s1 _ _ hsd), _, rfl, p, _, _, _, rfl, rfl, SqL.of (s1 _ _ hp), at2, ?_⟩
      have hg : Good n t := hgood (x, t) (PySem.mem_of_lookup q2)
      refine ⟨n, v, iv, t, d, rfl, h1, h2, q3.mono s1, hg, hd.mono s1, hok.2.1, fun lv H3 s3 hlong => ?_⟩
      have e_sd2 := s3 _ _ (show upd H sd2 (.dK kvs) sd2 = _ from upd_same)
      refine ⟨_, rfl, _, rfl, _, rfl, sd2, _, rfl, DPut.k (k := Sum.inr x) e_sd2 (klt (by omega)), ?_⟩
      have s13 := s1.trans s3
      have s4 : Same H (upd H3 sd2 (.dK (putK kvs (Sum.inr x) lv))) := fun b o e => by
        rw [upd_ne (ne_of_none e nsd2)]
        exact s13 b o e
      have keepL : ∀ {b : Addr} {zs : List V}, H3 b = some (.lst zs) → upd H3 sd2 (.dK (putK kvs (Sum.inr x) lv)) b = some (.lst zs) := fun {b zs} e => by
        rw [upd_ne (fun z => by rw [z, e_sd2] at e; cases e)]
        exact e
      have keepT : ∀ b zs, H3 b = some (.tup zs) → upd H3 sd2 (.dK (putK kvs (Sum.inr x) lv)) b = some (.tup zs) := fun b zs e => by
        rw [upd_ne (fun z => by rw [z, e_sd2] at e; cases e)]
        exact e
      have e_new : upd H3 sd2 (.dK (putK kvs (Sum.inr x) lv)) sd2 = some (.dK (putK kvs (Sum.inr x) lv)) := upd_same
      have hc0 : chg n st (.add x iv d) = match addT n t d with
        | .ok t' => .done (setS st x t')
        | .step => .bad .step
        | .pair => .bad .pair
        | .row => .bad .row
        | .ring l => .bad (.ring l) := by simp only [chg, q2]
      generalize hH4 : upd H3 sd2 (.dK (putK kvs (Sum.inr x) lv)) = H4 at *
      cases ha : addT n t d with
      | ok t' =>
        rw [ha] at hlong hc0
        obtain ⟨lp, ll, lys, rfl, n1, n2, e1, e2, e3⟩ := hlong
        have at0' : atI [V.str (kindS t'.k), V.ref ll] 0 = some (V.str (kindS t'.k)) := atI_nat (j := 0) rfl
        refine ⟨_, rfl, lp, _, _, _, rfl, rfl, SqL.of (keepL e1), at0', by show 3 ≤ sizeLine; decide, fun z nz => ⟨z, _, rfl, .inl (SqL.of upd_same), rfl, rfl, _, rfl, ?_⟩⟩
        have hin : inV (V.str (kindS t'.k)) [V.str (Str.ofString "network"), V.str (Str.ofString "order"), V.str (Str.ofString "tests")] = true := by
          cases t'.k <;> decide +kernel
        have sz := same_new (o := .lst [V.str (Str.ofString "network"), V.str (Str.ofString "order"), V.str (Str.ofString "tests")]) nz
        refine iteT' hin ⟨_, rfl, by show 2 ≤ sizeLine; decide, fun r nr => q _ _ ((s4.trans sz).trans (same_new nr)) ?_⟩
        have sn := same_new (o := .lst [V.str (Str.ofString "done"), V.ref sd2]) nr
        rw [hc0]
        refine ⟨r, sd2, _, rfl, upd_same, nsd2, sn _ _ (sz _ _ e_new), ?_⟩
        have sAll := (s4.trans sz).trans sn
        have n1' : H lp = none := s1.free n1
        have n2' : H ll = none := s1.free n2
        refine kp_set (hLG.mono (fzt_sub sG sAll)) q1 ⟨lp, ll, lys, rfl, fzt_new n1' (sn _ _ (sz _ _ (keepL e1))), fzt_new n2' (sn _ _ (sz _ _ (keepL e2))), ((e3.rows keepT).mono (sz.trans sn)).gt⟩
      | step =>
        rw [ha] at hlong hc0
        obtain ⟨lp, rfl, n1, e1⟩ := hlong
        have at0' : atI [V.str (Str.ofString "step"), iv] 0 = some (V.str (Str.ofString "step")) := atI_nat (j := 0) rfl
        refine ⟨_, rfl, lp, _, _, _, rfl, rfl, SqL.of (keepL e1), at0', by show 3 ≤ sizeLine; decide, fun z nz => ⟨z, _, rfl, .inl (SqL.of upd_same), rfl, rfl, _, rfl, iteF' (by decide +kernel) ⟨_, rfl, q _ _ (s4.trans (same_new nz)) ?_⟩⟩⟩
        rw [hc0]
        exact err_of (same_new nz _ _ (keepL e1)) (hd.mono (s4.trans (same_new nz))) (by decide +kernel)
      | pair =>
        rw [ha] at hlong hc0
        obtain ⟨lp, rfl, n1, e1⟩ := hlong
        have at0' : atI [V.str (Str.ofString "pair"), iv] 0 = some (V.str (Str.ofString "pair")) := atI_nat (j := 0) rfl
        refine ⟨_, rfl, lp, _, _, _, rfl, rfl, SqL.of (keepL e1), at0', by show 3 ≤ sizeLine; decide, fun z nz => ⟨z, _, rfl, .inl (SqL.of upd_same), rfl, rfl, _, rfl, iteF' (by decide +kernel) ⟨_, rfl, q _ _ (s4.trans (same_new nz)) ?_⟩⟩⟩
        rw [hc0]
        exact err_of (same_new nz _ _ (keepL e1)) (hd.mono (s4.trans (same_new nz))) (by decide +kernel)
      | row =>
        rw [ha] at hlong hc0
        obtain ⟨lp, rfl, n1, e1⟩ := hlong
        have at0' : atI [V.str (Str.ofString "row"), iv] 0 = some (V.str (Str.ofString "row")) := atI_nat (j := 0) rfl
        refine ⟨_, rfl, lp, _, _, _, rfl, rfl, SqL.of (keepL e1), at0', by show 3 ≤ sizeLine; decide, fun z nz => ⟨z, _, rfl, .inl (SqL.of upd_same), rfl, rfl, _, rfl, iteF' (by decide +kernel) ⟨_, rfl, q _ _ (s4.trans (same_new nz)) ?_⟩⟩⟩
        rw [hc0]
        exact err_of (same_new nz _ _ (keepL e1)) (hd.mono (s4.trans (same_new nz))) (by decide +kernel)
      | ring l =>
        rw [ha] at hlong hc0
        obtain ⟨lp, lr, rfl, n1, e1, e2⟩ := hlong
        have at0' : atI [V.str (Str.ofString "ring"), V.ref lr] 0 = some (V.str (Str.ofString "ring")) := atI_nat (j := 0) rfl
        refine ⟨_, rfl, lp, _, _, _, rfl, rfl, SqL.of (keepL e1), at0', by show 3 ≤ sizeLine; decide, fun z nz => ⟨z, _, rfl, .inl (SqL.of upd_same), rfl, rfl, _, rfl, iteF' (by decide +kernel) ⟨_, rfl, q _ _ (s4.trans (same_new nz)) ?_⟩⟩⟩
        rw [hc0]
        exact err_of (same_new nz _ _ (keepL e1)) (.lst (same_new nz _ _ (keepL e2)) (DqAll.ints l)) (by decide +kernel)
    · rw [q1]
      have hc : chg n st (.add x iv d) = .unknown x := by simp only [chg, q2]
      refine iteT ⟨_, rfl, by show 2 ≤ sizeLine; decide, fun r nr => q _ _ (s1.trans (same_new nr)) ?_⟩
      rw [hc]
      exact err_of upd_same (.str x) (by decide +kernel)
  | drop x =>
    obtain ⟨p, rfl, hp⟩ := hdm
    have at1 : atI [V.str (Str.ofString "drop"), V.str x] 1 = some (V.str x) := atI_nat (j := 1) rfl
    have at0 : atI [V.str (Str.ofString "drop"), V.str x] 0 = some (V.str (Str.ofString "drop")) := atI_nat (j := 0) rfl
    refine ⟨_, rfl, p, _, _, _, rfl, rfl, SqL.of hp, at1, _, rfl, sd, kvs, rfl, .of hsd, fun sd2 nsd2 => ⟨_, _, rfl, ?_⟩⟩
    have s1 := same_new (o := .dK kvs) nsd2
    refine ⟨_, rfl, p, _, _, _, rfl, rfl, SqL.of (s1 _ _ hp), at0, rfl, _, rfl, iteF' (decide_eq_false fun z => absurd (V.str.inj z) (by decide +kernel)) ?_⟩
    refine ⟨_, rfl, _, rfl, sd, _, rfl, DGet.k (k := Sum.inr x) (s1 _ _ hsd), _, rfl, ?_⟩
    rcases hL.look x with ⟨v, t, q1, q2, q3⟩ | ⟨q1, q2⟩
    · rw [q1]
      have hc : chg n st (.drop x) = .done (dropS st x) := by simp only [chg, q2]
      refine iteF ⟨_, rfl, p, _, _, _, rfl, rfl, SqL.of (s1 _ _ hp), at0, rfl, _, rfl, iteF' (decide_eq_false fun z => absurd (V.str.inj z) (by decide +kernel)) ?_⟩
      refine ⟨_, rfl, sd2, rfl, .inl ⟨kvs, .of upd_same⟩, _, rfl, kvs, Sum.inr x, v, upd_same, rfl, q1, ?_⟩
      rw [upd_upd]
      have s2 := same_new (o := .dK (dropK kvs (Sum.inr x))) nsd2
      refine ⟨_, rfl, p, _, _, _, rfl, rfl, SqL.of (s2 _ _ hp), at0, rfl, _, rfl, iteF' (decide_eq_false fun z => absurd (V.str.inj z) (by decide +kernel)) ?_⟩
      refine ⟨_, rfl, by show 2 ≤ sizeLine; decide, fun r nr => q _ _ (s2.trans (same_new nr)) ?_⟩
      rw [hc]
      exact ⟨r, sd2, _, rfl, upd_same, nsd2, same_new nr _ _ upd_same, kp_drop (hLG.mono (fzt_sub sG (s2.trans (same_new nr))))⟩
    · rw [q1]
      have hc : chg n st (.drop x) = .unknown x := by simp only [chg, q2]
      refine iteT ⟨_, rfl, by show 2 ≤ sizeLine; decide, fun r nr => q _ _ (s1.trans (same_new nr)) ?_⟩
      rw [hc]
      exact err_of upd_same (.str x) (by decide +kernel)
  | ren x y =>
    obtain ⟨p, rfl, hp⟩ := hdm
    have at1 : atI [V.str (Str.ofString "rename"), V.str x, V.str y] 1 = some (V.str x) := atI_nat (j := 1) rfl
    have at0 : atI [V.str (Str.ofString "rename"), V.str x, V.str y] 0 = some (V.str (Str.ofString "rename")) := atI_nat (j := 0) rfl
    have at2 : atI [V.str (Str.ofString "rename"), V.str x, V.str y] 2 = some (V.str y) := atI_nat (j := 2) rfl
    refine ⟨_, rfl, p, _, _, _, rfl, rfl, SqL.of hp, at1, _, rfl, sd, kvs, rfl, .of hsd, fun sd2 nsd2 => ⟨_, _, rfl, ?_⟩⟩
    have s1 := same_new (o := .dK kvs) nsd2
    refine ⟨_, rfl, p, _, _, _, rfl, rfl, SqL.of (s1 _ _ hp), at0, rfl, _, rfl, iteF' (decide_eq_false fun z => absurd (V.str.inj z) (by decide +kernel)) ?_⟩
    refine ⟨_, rfl, _, rfl, sd, _, rfl, DGet.k (k := Sum.inr x) (s1 _ _ hsd), _, rfl, ?_⟩
    rcases hLG.look x with ⟨v, t, q1, q2, q3G⟩ | ⟨q1, q2⟩
    · rw [q1]
      refine iteF ⟨_, rfl, p, _, _, _, rfl, rfl, SqL.of (s1 _ _ hp), at0, rfl, _, rfl, iteF' (decide_eq_false fun z => absurd (V.str.inj z) (by decide +kernel)) ?_⟩
      refine ⟨_, rfl, sd2, rfl, .inl ⟨kvs, .of upd_same⟩, _, rfl, kvs, Sum.inr x, v, upd_same, rfl, q1, ?_⟩
      rw [upd_upd]
      have s2 := same_new (o := .dK (dropK kvs (Sum.inr x))) nsd2
      refine ⟨_, rfl, p, _, _, _, rfl, rfl, SqL.of (s2 _ _ hp), at0, rfl, _, rfl, iteT' rfl ?_⟩
      refine ⟨_, rfl, p, _, _, _, rfl, rfl, SqL.of (s2 _ _ hp), at2, _, rfl, sd, _, rfl, DGet.k (k := Sum.inr y) (s2 _ _ hsd), _, rfl, ?_⟩
      rcases hL.look y with ⟨v2, t2, r1, r2, r3⟩ | ⟨r1, r2⟩
      · rw [r1]
        have hc : chg n st (.ren x y) = .taken y := by simp only [chg, q2, r2]
        refine iteT ⟨_, rfl, p, _, _, _, rfl, rfl, SqL.of (s2 _ _ hp), at2, by show 2 ≤ sizeLine; decide, fun r nr => q _ _ (s2.trans (same_new nr)) ?_⟩
        rw [hc]
        exact err_of upd_same (.str y) (by decide +kernel)
      · rw [r1]
        have hc : chg n st (.ren x y) = .done (dropS st x ++ [(y, t)]) := by simp only [chg, q2, r2]
        have hdl : (dropK kvs (Sum.inr x)).length < 1000 := Nat.lt_of_le_of_lt (List.length_filter_le _ _) (by omega)
        refine iteF ⟨_, rfl, _, rfl, sd, _, rfl, q1 ▸ DGet.k (k := Sum.inr x) (s2 _ _ hsd), _, rfl, _, rfl, p, _, _, _, rfl, rfl, SqL.of (s2 _ _ hp), at2, sd2, _, rfl, DPut.k (k := Sum.inr y) upd_same (klt hdl), ?_⟩
        rw [upd_upd]
        have s3 := same_new (o := .dK (putK (dropK kvs (Sum.inr x)) (Sum.inr y) v)) nsd2
        refine ⟨_, rfl, by show 2 ≤ sizeLine; decide, fun r nr => q _ _ (s3.trans (same_new nr)) ?_⟩
        rw [hc]
        exact ⟨r, sd2, _, rfl, upd_same, nsd2, same_new nr _ _ upd_same, kp_new (kp_drop (hLG.mono (fzt_sub sG (s3.trans (same_new nr))))) (look_drop r1) (q3G.mono (fzt_sub sG (s3.trans (same_new nr))))⟩
    · rw [q1]
      have hc : chg n st (.ren x y) = .unknown x := by simp only [chg, q2]
      refine iteT ⟨_, rfl, by show 2 ≤ sizeLine; decide, fun r nr => q _ _ (s1.trans (same_new nr)) ?_⟩
      rw [hc]
      exact err_of upd_same (.str x) (by decide +kernel)
theorem bd_law_changed {K : PySem.W.Frag} {mg : Str → Option Value} (T : Txt K mg) : Binds K (fdAt K (ga K "_law_changed")) ["_law_many", "_law_state", "_law_deed_here"] [] := T.f_law_changed.bindsN fun _ _ _ _ _ _ us hl => match us, hl with | [_, _, _], _ => rfl
theorem c_law_changed {X : Cx} {e : Expr} {es : List Expr} {t : TA} {p pos : Pos} (T : Txt X.K X.mg) (hr : Room 4 X.A) (ha : PA X (e :: es) t) (hg : Gl X "_law_changed" := by rfl) (he : starEach (e :: es) X.env = (false, eval e X.env) :: starEach es X.env := by rfl) (hpl : (backTo pos (starEach es X.env)).any (·.1) = false := by rfl) :
    PE X (.Call (.Name "_law_changed" p) (e :: es) [] pos) (tCall (spChanged) [] E0 t) := pe_call (ok_law_changed T) hr hg T.g_law_changed T.f_law_changed.kp (bd_law_changed T) .nil pass0 ha (by decide) he hpl
end
end K57
/-! L15 -/
namespace K57
open PySem PySem.Spec PyProof.Rows L2 He
/-! ### what was handed in is spoiled -/
section
variable {P : Program} {w : World} {K : PySem.W.Frag} {mg : Str → Option Value} {base : Heap}
/-- the items of what is spoiled -/
def SpI (M : List Addr) (G H : Hp) (a : Addr) (x : V) : Prop := (∃ i, x = .int i) ∨ ∃ b zs, x = .ref b ∧ b ≠ a ∧ b ∈ M ∧ G b = none ∧ H b = some (.lst zs)
def spSpoil (K : PySem.W.Frag) : Sp := fun vs H Q _ => (∃ v t, vs = [v] ∧ TyX K H v t ∧ PySem.W.kitOne K t (.type "list") = some false ∧ Q .non H) ∨
  ∃ (a : Addr) (xs : List V) (M : List Addr) (G : Hp), vs = [.ref a] ∧ H a = some (.lst xs) ∧ xs.length ≤ 1000 ∧ Same G H ∧ a ∈ M ∧ G a = none ∧ (∀ x ∈ xs, SpI M G H a x) ∧ ∀ H1, Go M G H G H1 → Q .non H1
theorem sc_law_spoil : FnScope ["_law_handed", "_law_line_up"] ["_law_handed"] (defScope sLawSpoil) := ⟨rfl, rfl, rfl, by decide +kernel, rfl, by decide +kernel, by decide +kernel⟩
theorem ok_law_spoil (T : Txt K mg) : FnOk P w K mg base CX0 1 (ga K "_law_spoil") (fdAt K (ga K "_law_spoil")) ["_law_handed"] (spSpoil K) := by
  refine T.f_law_spoil.ok sc_law_spoil (fun vs H Q E h => ?_) (fun cdv A outer s H vs Q E hr h => ?_)
  · rcases h with ⟨v, t, rfl, _⟩ | ⟨a, xs, M, G, rfl, _⟩ <;> rfl
  refine ⟨_, PSs.nox (pss_one (ps_if (pt_val (b_isinstance call_isi T (pa_cons (pv 0) (pa_cons (n_list T) pa_nil)))) (pss_cons (ps_for PassesOwn.never rfl (pi_list (pv 0)) (pg_name (i := 1) sc_law_spoil.nd rfl (Or.inl rfl)) (pss_one (ps_if (pt_val (b_isinstance call_isi T (pa_cons (pv 1) (pa_cons (n_list T) pa_nil)))) (pss_one (ps_expr (pe_bm0 PySem.F.plainAttrs_list PySem.F.slot_list_reverse PySem.F.type_list_reverse mt_reverse (pv 1)))) pss_nil)))
    (pss_one (ps_expr (pe_bm PySem.F.plainAttrs_list PySem.F.slot_list_append PySem.F.type_list_append mt_append (pv 0) (pa_cons pe_str pa_nil))))) pss_nil)), ?_⟩
  rcases h with ⟨v, t, rfl, ht, hk, q⟩ | ⟨a, xs, M, G, rfl, ha, hlen, sG, hM, hG, hx, q⟩
  · exact ⟨_, rfl, _, _, _, _, _, rfl, .ty _, ht, hk, _, rfl, iteF' rfl q⟩
  · refine ⟨_, rfl, _, _, _, _, _, rfl, .ty _, .base (.lst ha), kit_dt "list" (by simp) (.list []), _, rfl, iteT' rfl ?_⟩
    refine ⟨_, rfl, a, rfl, ⟨xs, SqL.of ha⟩, for_list (K := K) (a := a) (xs := xs) (fun i σ H' => (∃ o1, σ = [some (.ref a), o1]) ∧ Go M G H G H' ∧ H' a = some (.lst xs) ∧ ∀ x ∈ xs, SpI M G H' a x)
      ⟨⟨_, rfl⟩, Go.start sG, ha, hx⟩ (fun i σ H' _ hP => SqL.of hP.2.2.1) (fun i x σ H' hxi hP => ?_) (fun σ H' hP => ?_)⟩
    · obtain ⟨⟨o1, rfl⟩, g, e, hx'⟩ := hP
      have hmem := List.mem_of_getElem? hxi
      rcases hx' x hmem with ⟨m, rfl⟩ | ⟨b, zs, rfl, hba, hbM, hbG, hb⟩
      · exact ⟨_, rfl, _, _, _, _, _, rfl, .ty _, (Dq.int (H := H') m).ty, kit_dt "list" (by simp) (.int m), _, rfl, iteF' rfl ⟨⟨_, rfl⟩, g, e, hx'⟩⟩
      · refine ⟨_, rfl, _, _, _, _, _, rfl, .ty _, .base (.lst hb), kit_dt "list" (by simp) (.list []), _, rfl, iteT' rfl ?_⟩
        refine ⟨_, rfl, .inl ⟨rfl, _, SqL.of hb⟩, b, zs, rfl, rfl, hb, ?_⟩
        refine ⟨⟨_, rfl⟩, g.put (.inl hbM) hbG, by rw [upd_ne (Ne.symm hba)]; exact e, fun y hy => ?_⟩
        rcases hx' y hy with h | ⟨c, ws, rfl, k1, k2, k3, k4⟩
        · exact .inl h
        · by_cases z : c = b
          · subst z
            exact .inr ⟨c, _, rfl, k1, k2, k3, upd_same⟩
          · exact .inr ⟨c, ws, rfl, k1, k2, k3, by rw [upd_ne z]; exact k4⟩
    · obtain ⟨⟨o1, rfl⟩, g, e, hx'⟩ := hP
      refine ⟨_, rfl, .inl ⟨rfl, _, SqL.of e⟩, a, xs, _, rfl, rfl, e, Nat.lt_of_le_of_lt hlen (by decide), ?_⟩
      exact q _ (g.put (.inl hM) hG)
theorem bd_law_spoil {K : PySem.W.Frag} {mg : Str → Option Value} (T : Txt K mg) : Binds K (fdAt K (ga K "_law_spoil")) ["_law_handed"] [] := T.f_law_spoil.bindsN fun _ _ _ _ _ _ us hl => match us, hl with | [_], _ => rfl
theorem c_law_spoil {X : Cx} {e : Expr} {es : List Expr} {t : TA} {p pos : Pos} (T : Txt X.K X.mg) (hr : Room 1 X.A) (ha : PA X (e :: es) t) (hg : Gl X "_law_spoil" := by rfl) (he : starEach (e :: es) X.env = (false, eval e X.env) :: starEach es X.env := by rfl) (hpl : (backTo pos (starEach es X.env)).any (·.1) = false := by rfl) :
    PE X (.Call (.Name "_law_spoil" p) (e :: es) [] pos) (tCall ((spSpoil X.K)) [] E0 t) := pe_call (ok_law_spoil T) hr hg T.g_law_spoil T.f_law_spoil.kp (bd_law_spoil T) .nil pass0 ha (by decide) he hpl
end
end K57
/-! L16 -/
namespace K57
open PySem PySem.Spec PyProof.Rows L2 He
mutual
theorem Dq.keep2 {H H' : Hp} (kl : ∀ b xs, H b = some (.lst xs) → H' b = some (.lst xs)) (kt : ∀ b xs, H b = some (.tup xs) → H' b = some (.tup xs)) : ∀ {v : V} {d : PyData}, Dq H v d → Dq H' v d
  | _, _, .non => .non
  | _, _, .bl b => .bl b
  | _, _, .int i => .int i
  | _, _, .str x => .str x
  | _, _, .lst h a => .lst (kl _ _ h) (DqAll.keep2 kl kt a)
  | _, _, .tup h a => .tup (kt _ _ h) (DqAll.keep2 kl kt a)
theorem DqAll.keep2 {H H' : Hp} (kl : ∀ b xs, H b = some (.lst xs) → H' b = some (.lst xs)) (kt : ∀ b xs, H b = some (.tup xs) → H' b = some (.tup xs)) : ∀ {vs : List V} {ds : List PyData}, DqAll H vs ds → DqAll H' vs ds
  | _, _, .nil => .nil
  | _, _, .cons h r => .cons (Dq.keep2 kl kt h) (DqAll.keep2 kl kt r)
end
theorem nm_ok {x : Str} (h : Nm x) : NameOk x := by
  unfold Nm nameL at h
  simp only [List.mem_cons, List.not_mem_nil, or_false] at h
  rcases h with rfl | rfl | rfl | rfl | rfl | rfl <;> exact ⟨by decide +kernel, by decide +kernel, by decide +kernel⟩
theorem same_none {G H : Hp} {p : Addr} (s : Same G H) (h : H p = none) : G p = none := by
  cases q : G p with
  | none => rfl
  | some o =>
    have := s p o q
    rw [h] at this
    cases this
def refsOf (xs : List V) : List Addr := xs.filterMap fun
  | .ref a => some a
  | _ => none
theorem mem_refsOf {xs : List V} {b : Addr} : b ∈ refsOf xs ↔ V.ref b ∈ xs := by
  unfold refsOf
  rw [List.mem_filterMap]
  constructor
  · rintro ⟨x, hx, e⟩
    cases x <;> first | cases e | skip
    exact hx
  · intro h
    exact ⟨_, h, rfl⟩
theorem eqv_lst (l m : List Int) : PyData.eqv (.list (l.map PyData.int)) (.list (m.map PyData.int)) = decide (l = m) := by
  simp only [PyData.eqv, eqv_ints]
theorem fzt_rows {G H Hf : Hp} {C x : Addr} {f : Str} {n : Int} {rows : List (List Int)} (nx : H x = none) (h : HasRows Hf C x f n rows) : HasRows (fzt G H Hf) C x f n rows := by
  obtain ⟨t, xs, ⟨dx, h1⟩, h2, h3⟩ := h.at_
  exact ⟨t, xs, ⟨dx, fzt_new nx h1⟩, gt_tup h2, h3.gt⟩
/-- what the bench's change promises -/
def DoneOk (K : PySem.W.Frag) (M : List Addr) (G H : Hp) (b : Addr) (n : Nat) (sts : List State) (st : State) (d : PyData) (Q : VK) (E : XK) : ChR → Prop
  | .done st' => ∀ G2 H2, Go M G H G2 H2 → BSt K G2 H2 b n (sts ++ [st]) st' → Q .non H2
  | .taken x => ∀ H1 e, Same H H1 → H1 e = none → E (.ref (ga K "NameTaken")) (some e) (upd H1 e (.xd [("name", .str x)]))
  | .unknown x => ∀ H1 e, Same H H1 → H1 e = none → E (.ref (ga K "UnknownName")) (some e) (upd H1 e (.xd [("name", .str x)]))
  | .bad .step => ∀ H1 e v', Same H H1 → Dq H1 v' d → H1 e = none → E (.ref (ga K "InvalidStep")) (some e) (upd H1 e (.xd [("value", v')]))
  | .bad .pair => ∀ H1 e v', Same H H1 → Dq H1 v' d → H1 e = none → E (.ref (ga K "InvalidPair")) (some e) (upd H1 e (.xd [("value", v')]))
  | .bad .row => ∀ H1 e v', Same H H1 → Dq H1 v' d → H1 e = none → E (.ref (ga K "InvalidRow")) (some e) (upd H1 e (.xd [("value", v')]))
  | .bad (.ring l) => ∀ H1 e l1, Same H H1 → H1 l1 = some (.lst (l.map V.int)) → H1 e = none → E (.ref (ga K "Ring")) (some e) (upd H1 e (.xd [("lines", .ref l1)]))
  | .bad (.ok _) => True
section
variable {P : Program} {w : World} {K : PySem.W.Frag} {mg : Str → Option Value} {base : Heap}
theorem bd_Bench_put {K : PySem.W.Frag} {mg : Str → Option Value} (T : Txt K mg) : Binds K (fdAt K (ma K (ga K "Bench") "put")) ["self", "name", "thing"] [] := T.f_Bench_put.bindsN fun _ _ _ _ _ _ us hl => match us, hl with | [_, _, _], _ => rfl
theorem m_put {X : Cx} {E : XK} {o e : Expr} {ta : TE} {es : List Expr} {t : TA} {apos pos : Pos} {pl : Sem Bool} (T : Txt X.K X.mg) (hr : Room 7 X.A) (hx : Passes (L2.CX X.prog X.w) X E) (ho : PE X o ta) (ha : PA X (e :: es) t) (hst : starEach (e :: es) X.env = (false, eval e X.env) :: starEach es X.env := by rfl) (hpl : (backTo pos (starEach es X.env)).any (·.1) = false := by rfl)
    (ht : eval (.Call (.Attribute o "put" apos) (e :: es) [] pos) X.env = (do
      let ov ← eval o X.env
      standAt apos.atName
      let (f, first) ← holding [ov] (getMethod ov "put" pl)
      callWith pos f first (backTo pos (starEach (e :: es) X.env)) (backToKw pos (keywordEach [] X.env))) := by rfl) :
    PE X (.Call (.Attribute o "put" apos) (e :: es) [] pos) (tMeth (ga X.K "Bench") "put" ((spPut X.K)) [] E ta t) := pe_meth (pl := pl) ho T.ins_Bench.cl T.m_Bench_put (ok_Bench_put T) hr (bd_Bench_put T) .nil hx ha hst hpl ht
/-- adding what is a list adds what the tuple adds, for tests -/
theorem addT_seq {n : Nat} {t : Thing} {ns : List Int} (h : t.k = .tst) : addT n t (.list (ns.map .int)) = addT n t (tupD ns) := by
  obtain ⟨k, rows⟩ := t
  have h : k = .tst := h
  subst h
  rfl
def spDone (K : PySem.W.Frag) : Sp := fun vs H Q E => ∃ (b : Addr) (n : Nat) (dv : V) (G : Hp) (sts : List State) (st : State) (dm : Deed) (M : List Addr), vs = [.ref b, .int n, dv] ∧ 2 ≤ n ∧ n ≤ 4 ∧ BSt K G H b n sts st ∧ Same G H ∧ G b = none ∧ LDeedG G H dv dm ∧ DeedOk n st dm ∧
  (∀ p ∈ st, Good n p.2) ∧ (st.map (·.1)).Nodup ∧ sts.length < 900 ∧ st.length < 900 ∧ b ∈ M ∧ (∀ x u ds, dm = .add x u (.list ds) → ∃ a, u = .ref a ∧ a ∈ M ∧ G a = none) ∧
  (dm ≠ .undo → DoneOk K M G H b n sts st (itemD dm) Q E (chg n st dm)) ∧
  (dm = .undo → (sts = [] → ∀ H1, Same H H1 → E (.ref (ga K "NothingToUndo")) none H1) ∧ (∀ sts' st', sts = sts' ++ [st'] → ∀ G2 H2, Go M G H G2 H2 → BSt K G2 H2 b n sts' st' → Q .non H2))
/-- the spoiling of what was put -/
theorem spoil_put {H H1 H2 G G1 G2 : Hp} {b : Addr} {n : Nat} {v : V} {t : Thing} {M : List Addr} {sts : List State} {st : State} {Q : VK} (T : Txt K mg) (hm : MIn K H H1 n v t) (hlen : t.rows.length ≤ 100) (g1 : Go M G H G1 H1) (gt1 : t.k = .tst → G1 = G) (sG : Same G H) (hbM : b ∈ M) (hb : ∃ C dx fs, H b = some (.ins C dx fs)) (hb1 : ∃ C dx fs, H1 b = some (.ins C dx fs)) (g : Go [b] G1 H1 G2 H2) (hS : BSt K G2 H2 b n sts st)
    (q : ∀ G3 H3, Go M G H G3 H3 → BSt K G3 H3 b n sts st → Q .non H3) : spSpoil K [v] H2 Q E0 := by
  obtain ⟨C, dx, fs, hb⟩ := hb
  obtain ⟨C1, dx1, fs1, hb1⟩ := hb1
  have g2 : Go M G H G2 H2 := g1.trans g fun m hm => by
    rw [List.mem_singleton] at hm
    rw [hm]
    exact .inl hbM
  have kp : ∀ p o, p ≠ b → H1 p = some o → H2 p = some o := fun p o hp e => g.keep p o (by simpa using hp) e
  obtain ⟨k, rows⟩ := t
  cases k with
  | net =>
    obtain ⟨x, rfl, nx, hx⟩ := hm
    obtain ⟨_, _, ⟨_, hx1⟩, _⟩ := hx.at_
    have hx2 := kp x _ (fun z => by rw [z, hb] at nx; cases nx) hx1
    exact .inl ⟨_, _, rfl, .base (.ins hx2 T.ins_Network.cl T.ins_Network.ha T.ins_Network.hn T.ins_Network.htk T.ins_Network.hm), T.q_Network_list, q _ _ g2 hS⟩
  | ord =>
    obtain ⟨x, rfl, nx, hx⟩ := hm
    obtain ⟨_, _, ⟨_, hx1⟩, _⟩ := hx.at_
    have hx2 := kp x _ (fun z => by rw [z, hb] at nx; cases nx) hx1
    exact .inl ⟨_, _, rfl, .base (.ins hx2 T.ins_Order.cl T.ins_Order.ha T.ins_Order.hn T.ins_Order.htk T.ins_Order.hm), T.q_Order_list, q _ _ g2 hS⟩
  | tst =>
    obtain ⟨a, xs, rfl, na, hrows, hsq⟩ := hm
    have nab : a ≠ b := fun z => by rw [z, hb] at na; cases na
    rcases hsq with ha | ⟨ha, hin⟩
    · exact .inl ⟨_, _, rfl, .base (.tup (kp a _ nab ha)), kit_dt "list" (by simp) (.tuple []), q _ _ g2 hS⟩
    · have e1 : G1 = G := gt1 rfl
      have off : ∀ {p : Addr} {zs : List V}, H p = none → H1 p = some (.lst zs) → G2 p = none := fun {p zs} np hp => g.off (by rw [e1]; exact same_none sG np) hp
      have hne : ∀ c zs, V.ref c ∈ xs → H1 c = some (.lst zs) → c ≠ a := fun c zs hc hz z => by
        subst z
        obtain ⟨i, hi, ei⟩ := List.getElem_of_mem hc
        obtain ⟨r, hr⟩ : ∃ r, rows[i]? = some r := ⟨_, List.getElem?_eq_getElem (by rw [← hrows.len]; exact hi)⟩
        obtain ⟨c', e2, h3⟩ := hrows.at_ i (.ref c) r (by rw [List.getElem?_eq_getElem hi, ei]) hr
        cases e2
        rcases h3 with h3 | h3
        · rw [ha] at h3
          have e4 : xs = r.map V.int := by
            injection h3 with h3
            injection h3
          rw [e4] at hc
          obtain ⟨i, _, e5⟩ := List.mem_map.mp hc
          cases e5
        · rw [ha] at h3
          cases h3
      refine .inr ⟨a, xs, a :: refsOf xs, G2, rfl, kp a _ nab ha, ?_, g.on, List.mem_cons_self, off na ha, fun x hx => ?_, fun H3 g3 => ?_⟩
      · have z : xs.length = rows.length := hrows.len
        have z2 : rows.length ≤ 100 := hlen
        omega
      · obtain ⟨c, zs, rfl, nc, hc⟩ := hin x hx
        exact .inr ⟨c, zs, rfl, hne c zs hx hc, List.mem_cons_of_mem _ (mem_refsOf.mpr hx), off nc hc, kp c _ (fun z => by rw [z, hb] at nc; cases nc) hc⟩
      · have nin : ∀ m ∈ a :: refsOf xs, H m = none := fun m hm => by
          rcases List.mem_cons.mp hm with e | hm
          · rw [e]
            exact na
          · obtain ⟨c, zs, e, nc, _⟩ := hin _ (mem_refsOf.mp hm)
            cases e
            exact nc
        refine q _ _ (g2.trans g3 fun m hm => .inr (nin m hm)) (hS.mono g3.sub fun o e => g3.keep b o (fun z => ?_) e)
        have := nin b z
        rw [hb] at this
        cases this
theorem dq_ins {H H1 G G1 : Hp} {b C dx : Addr} {fs : List (Str × V)} {v : V} {d : PyData} (g : Go [b] G H G1 H1) (hb : H b = some (.ins C dx fs)) (h : Dq H v d) : Dq H1 v d :=
  h.keep2 (fun c xs e => g.keep c _ (fun z => by rw [List.mem_singleton] at z; rw [z, hb] at e; cases e) e) (fun c xs e => g.keep c _ (fun z => by rw [List.mem_singleton] at z; rw [z, hb] at e; cases e) e)
theorem item_len {d : PyData} (hi : ItemD d) : isSq d = true → (itemsD d).length ≤ 4000 := fun h => by
  have := (item_small hi h).2
  omega
theorem perm_test {n : Nat} {d : PyData} (h2 : 2 ≤ n) (h4 : n ≤ 4) (h : PermI n d) : testB n d = true := by
  obtain ⟨_, ns, rfl, hp⟩ := h
  have hl : ns.length = n := by rw [hp.length_eq]; unfold rgI; simp
  exact testB_row (r := ns) rfl rfl ⟨hl, hp.symm.nodup (rg_nodup n)⟩ (by omega) (by omega)
theorem spoil_add {H H' H2 G G2 : Hp} {b C dx : Addr} {fs : List (Str × V)} {n : Nat} {v : V} {d : PyData} {M : List Addr} {sts : List State} {st : State} {Q : VK} (sG : Same G H) (s : Same H H') (hbM : b ∈ M) (hb : H' b = some (.ins C dx fs)) (hd : Dq H' v d)
    (hl : isT "list" d = false ∨ ∃ (a : Addr) (ns : List Int), v = .ref a ∧ H' a = some (.lst (ns.map V.int)) ∧ ns.length ≤ 1000 ∧ (a ∈ M ∨ H a = none) ∧ G a = none) (g : Go [b] G H' G2 H2) (hS : BSt K G2 H2 b n sts st)
    (q : ∀ G3 H3, Go M G H G3 H3 → BSt K G3 H3 b n sts st → Q .non H3) : spSpoil K [v] H2 Q E0 := by
  have gg : Go M G H G2 H2 := (Same.go sG s).trans g fun m hm => by
    rw [List.mem_singleton] at hm
    rw [hm]
    exact .inl hbM
  rcases hl with hl | ⟨a, ns, rfl, ha, hn, hm, hGa⟩
  · refine .inl ⟨v, _, rfl, (dq_ins g hb hd).ty, ?_, q _ _ gg hS⟩
    rw [kit_dt "list" (by simp) d, hl]
  · have hab : b ≠ a := fun z => by rw [z, ha] at hb; cases hb
    have ha2 := g.keep a _ (fun z => hab (List.mem_singleton.mp z).symm) ha
    refine .inr ⟨a, ns.map V.int, [a], G2, rfl, ha2, by rw [List.length_map]; exact hn, g.on, List.mem_singleton.mpr rfl, g.off hGa ha, fun x hx => ?_, fun H3 g3 => ?_⟩
    · obtain ⟨i, _, e⟩ := List.mem_map.mp hx
      exact .inl ⟨i, e.symm⟩
    · exact q _ _ (gg.trans g3 fun m h => by rw [List.mem_singleton] at h; rw [h]; exact hm) (hS.mono g3.sub fun o e => g3.keep b o (fun z => hab (List.mem_singleton.mp z)) e)
theorem sc_law_done : FnScope ["_law_bench", "_law_many", "_law_deed_here", "_law_handed", "_law_answer"] ["_law_bench", "_law_many", "_law_deed_here"] (defScope sLawDone) := ⟨rfl, rfl, rfl, by decide +kernel, rfl, by decide +kernel, by decide +kernel⟩
theorem ok_law_done (T : Txt K mg) : FnOk P w K mg base (L2.CX P w) 8 (ga K "_law_done") (fdAt K (ga K "_law_done")) ["_law_bench", "_law_many", "_law_deed_here"] (spDone K) := by
  refine T.f_law_done.ok sc_law_done (fun vs H Q E h => ?_) (fun cdv A outer s H vs Q E hr h => ?_)
  · obtain ⟨b, n, dv, G, sts, st, dm, M, rfl, _⟩ := h
    rfl
  obtain ⟨b, n, dv, G, sts, st, dm, M, rfl, h1, h2, hS, sG, hGb, hdm, hok, hgood, hnd, hl1, hl2, hbM, hit, qd, qu⟩ := h
  obtain ⟨th, pa, vs0, kvs, ⟨dx, hb⟩, hth, hkv, hpa, hpast⟩ := hS.ex
  have bmn : ∀ {m : Str}, (m == Str.ofString "own_size") = false → (m == Str.ofString "things") = false → (m == Str.ofString "past") = false → List.lookup m (bFs n th pa) = none := fun a b c => bm_none a b c
  have mono1 : ∀ {G2 H2 : Hp}, Go [b] G H G2 H2 → Go M G H G2 H2 := fun g => g.mono fun m hm => by
    rw [List.mem_singleton] at hm
    rw [hm]
    exact hbM
  refine ⟨_, (pss_cons (ps_if (pt_cmpR op_eq (pe_ix ix_list (pv 2) pe_int (fun _ _ => rfl)) pe_str (nomark _)) (pss_cons (ps_set (i := 3) sc_law_done.nd rfl (Or.inl rfl) (c_law_made T (hr.mono (by decide)) (pa_cons (pv 1) (pa_cons (pe_ix ix_list (pv 2) pe_int (fun _ _ => rfl)) pa_nil))))
    (pss_cons (ps_set (i := 4) sc_law_done.nd rfl (Or.inl rfl) (m_put T (hr.mono (by decide)) pass_own (pv 0) (pa_cons (pe_ix ix_list (pv 2) pe_int (fun _ _ => rfl)) (pa_cons (pv 3) pa_nil))))
    (pss_cons (ps_expr (c_law_spoil T (hr.mono (by decide)) (pa_cons (pv 3) pa_nil)))
    (pss_one (ps_ret (pv 4)))))) pss_nil)
    (pss_cons (ps_if (pt_cmpR op_eq (pe_ix ix_list (pv 2) pe_int (fun _ _ => rfl)) pe_str (nomark _)) (pss_cons (ps_set (i := 3) sc_law_done.nd rfl (Or.inl rfl) (pe_ix ix_list (pv 2) pe_int (fun _ _ => rfl)))
    (pss_cons (ps_if (PW.pt (pw_and (pt_cmpR op_gt (pv 1) pe_int (nomark _)) (pw_and (pt_val (b_isinstance call_isi T (pa_cons (pv 3) (pa_cons (n_tuple T) pa_nil)))) (pw_and1 (pt_cmpR (op_eqD hr.units) (b_sorted SrtT.cr_sortedTp T (pa_cons (pv 3) pa_nil)) (pe_listRg rfl (by rfl) T.z_list (prg_1 (by rfl) T.z_range (pv 1))) (nomark _)))))) (pss_one (ps_set (i := 3) sc_law_done.nd rfl (Or.inl rfl) (t_list call_list_of T (pa_cons (pv 3) pa_nil)))) pss_nil)
    (pss_cons (ps_set (i := 4) sc_law_done.nd rfl (Or.inl rfl) (m_add T (hr.mono (by decide)) pass_own (pv 0) (pa_cons (pe_ix ix_list (pv 2) pe_int (fun _ _ => rfl)) (pa_cons (pv 3) pa_nil))))
    (pss_cons (ps_expr (c_law_spoil T (hr.mono (by decide)) (pa_cons (pv 3) pa_nil)))
    (pss_one (ps_ret (pv 4))))))) pss_nil)
    (pss_cons (ps_if (pt_cmpR op_eq (pe_ix ix_list (pv 2) pe_int (fun _ _ => rfl)) pe_str (nomark _)) (pss_one (ps_ret (m_drop T (hr.mono (by decide)) pass_own (pv 0) (pa_cons (pe_ix ix_list (pv 2) pe_int (fun _ _ => rfl)) pa_nil)))) pss_nil)
    (pss_one (ps_ret (pe_ifExp (pt_cmpR op_eq (pe_ix ix_list (pv 2) pe_int (fun _ _ => rfl)) pe_str (nomark _)) (m_rename T (hr.mono (by decide)) pass_own (pv 0) (pa_cons (pe_ix ix_list (pv 2) pe_int (fun _ _ => rfl)) (pa_cons (pe_ix ix_list (pv 2) pe_int (fun _ _ => rfl)) pa_nil))) (m_undo T (hr.mono (by decide)) pass_own (pv 0)))))))), ?_⟩
  cases dm with
  | put x t =>
    obtain ⟨p, u, rfl, hp, hu⟩ := hdm
    have at1 : atI [V.str (Str.ofString "put"), V.str x, u] 1 = some (V.str x) := atI_nat (j := 1) rfl
    have at0 : atI [V.str (Str.ofString "put"), V.str x, u] 0 = some (V.str (Str.ofString "put")) := atI_nat (j := 0) rfl
    have at2 : atI [V.str (Str.ofString "put"), V.str x, u] 2 = some u := atI_nat (j := 2) rfl
    have qd := qd (by intro z; cases z)
    refine ⟨_, rfl, p, _, _, _, rfl, rfl, SqL.of hp, at0, rfl, _, rfl, iteT' rfl ?_⟩
    refine ⟨_, rfl, _, rfl, p, _, _, _, rfl, rfl, SqL.of hp, at2, n, u, t, rfl, h1, h2, hu.mono sG, hok.2.1, fun v' H1 s1 hm => ?_⟩
    have hlen : t.rows.length ≤ 100 := by
      have := hok.2.1.rows.1
      omega
    obtain ⟨G1, g1, hK, hgt⟩ : ∃ G1, Go M G H G1 H1 ∧ KIn K G1 H1 n v' t ∧ (t.k = .tst → G1 = G) := by
      have hgo := hok.2.1
      obtain ⟨k, rows⟩ := t
      cases k with
      | net =>
        obtain ⟨y, e, ny, hy⟩ := hm
        exact ⟨_, Go.fzt sG s1, ⟨y, e, fzt_rows ny hy⟩, fun z => nomatch z⟩
      | ord =>
        obtain ⟨y, e, ny, hy⟩ := hm
        exact ⟨_, Go.fzt sG s1, ⟨y, e, fzt_rows ny hy⟩, fun z => nomatch z⟩
      | tst =>
        obtain ⟨a, xs, e, na, hr1, hr2⟩ := hm
        exact ⟨G, Same.go sG s1, ⟨a, xs, e, hr2.elim (fun z => .inr z) (fun z => .inl z.1), hr1, hlen, hgo.rows.2⟩, fun _ => rfl⟩
    have hb1 := s1 _ _ hb
    have hS1 : BSt K G1 H1 b n sts st := hS.mono g1.sub fun o e => s1 _ _ e
    refine ⟨_, rfl, b, dx, _, rfl, hb1, bmn (by decide +kernel) (by decide +kernel) (by decide +kernel), _, rfl, p, _, _, _, rfl, rfl, SqL.of (s1 _ _ hp), at1, _, rfl, ?_⟩
    refine ⟨b, n, x, v', G1, sts, st, t, rfl, by omega, by omega, hS1, g1.on, g1.off hGb hb, nm_ok hok.1, hK, hl1, hl2, fun hs H2 e s2 ne => ?_, fun hn G2 H2 g hS2 => ?_⟩
    · obtain ⟨t0, ht0⟩ := Option.isSome_iff_exists.mp hs
      have hc : chg n st (.put x t) = .taken x := by simp only [chg, ht0]
      rw [hc] at qd
      exact qd H2 e (s1.trans s2) ne
    · have hc : chg n st (.put x t) = .done (st ++ [(x, t)]) := by simp only [chg, hn]
      rw [hc] at qd
      refine ⟨_, rfl, ?_⟩
      dsimp only [tNil]
      exact spoil_put T hm hlen g1 hgt sG hbM ⟨_, _, _, hb⟩ ⟨_, _, _, hb1⟩ g hS2 fun G3 H3 g3 hS3 => ⟨_, rfl, qd G3 H3 g3 hS3⟩
  | add x u d =>
    obtain ⟨p, rfl, hp, hd⟩ := hdm
    have at1 : atI [V.str (Str.ofString "add"), V.str x, u] 1 = some (V.str x) := atI_nat (j := 1) rfl
    have at0 : atI [V.str (Str.ofString "add"), V.str x, u] 0 = some (V.str (Str.ofString "add")) := atI_nat (j := 0) rfl
    have at2 : atI [V.str (Str.ofString "add"), V.str x, u] 2 = some u := atI_nat (j := 2) rfl
    have qd := qd (by intro z; cases z)
    have hi := hok.2.1
    refine ⟨_, rfl, p, _, _, _, rfl, rfl, SqL.of hp, at0, rfl, _, rfl, iteF' (decide_eq_false fun z => absurd (V.str.inj z) (by decide +kernel)) ?_⟩
    refine ⟨_, rfl, p, _, _, _, rfl, rfl, SqL.of hp, at0, rfl, _, rfl, iteT' rfl ?_⟩
    refine ⟨_, rfl, p, _, _, _, rfl, rfl, SqL.of hp, at2, ?_⟩
    refine seq_cut (fun σ H' => σ = [some (.ref b), some (.int n), some (.ref p), some u, none] ∧ H = H') ?_ (fun k => k _ _ ⟨rfl, rfl⟩)
    rintro σ Hx ⟨rfl, eHx⟩
    subst eHx
    refine seq_cut (fun σ H' => ∃ v', σ = [some (.ref b), some (.int n), some (.ref p), some v', none] ∧ Same H H' ∧ ((v' = u) ∨ (∃ (ns : List Int) (l : Addr), d = tupD ns ∧ PermI n d ∧ v' = .ref l ∧ H l = none ∧ H' l = some (.lst (ns.map V.int))))) ?_ (fun k => ?_)
    · rintro σ H' ⟨v', rfl, s1, hv⟩
      have hb1 := s1 _ _ hb
      obtain ⟨d', hd', hcase⟩ : ∃ d', Dq H' v' d' ∧ ((d' = d ∧ v' = u) ∨ (∃ (ns : List Int) (l : Addr), d = tupD ns ∧ d' = .list (ns.map .int) ∧ PermI n d ∧ v' = .ref l ∧ H l = none ∧ H' l = some (.lst (ns.map V.int)))) := by
        rcases hv with rfl | ⟨ns, l, e1, e2, e3, e4, e5⟩
        · exact ⟨d, hd.mono s1, .inl ⟨rfl, rfl⟩⟩
        · exact ⟨_, e3 ▸ .lst e5 (DqAll.ints ns), .inr ⟨ns, l, e1, rfl, e2, e3, e4, e5⟩⟩
      have hlen' : isSq d' = true → (itemsD d').length ≤ 4000 := by
        rcases hcase with ⟨rfl, _⟩ | ⟨ns, l, e1, e2, hperm, _⟩
        · exact item_len hi
        · intro _
          rw [e2]
          have := item_len hi (by rw [e1]; rfl)
          rw [e1] at this
          exact this
      refine ⟨_, rfl, b, dx, _, rfl, hb1, bmn (by decide +kernel) (by decide +kernel) (by decide +kernel), _, rfl, p, _, _, _, rfl, rfl, SqL.of (s1 _ _ hp), at1, _, rfl, ?_⟩
      refine ⟨b, n, x, v', d', G, sts, st, rfl, by omega, by omega, hS.mono (Same.refl G) fun o e => s1 _ _ e, sG.trans s1, hGb, hd', hlen', hl1, hl2, fun hn e ne => ?_, fun t ht => ⟨(hgood (x, t) (PySem.mem_of_lookup ht)).rows, ?_⟩⟩
      · have hc : chg n st (.add x u d) = .unknown x := by simp only [chg, hn]
        rw [hc] at qd
        exact qd H' e s1 ne
      · have hc0 : chg n st (.add x u d) = match addT n t d with
          | .ok t' => .done (setS st x t')
          | .step => .bad .step
          | .pair => .bad .pair
          | .row => .bad .row
          | .ring l => .bad (.ring l) := by
          simp only [chg, ht]
          all_goals (cases addT n t d <;> rfl)
        have hadd : addT n t d' = addT n t d ∧ (d' = d ∨ ∃ t', addT n t d = .ok t') := by
          rcases hcase with ⟨rfl, _⟩ | ⟨ns, l, e1, e2, hperm, _⟩
          · exact ⟨rfl, .inl rfl⟩
          · have hk := hok.2.2 t ht hperm
            refine ⟨by rw [e2, e1]; exact addT_seq hk, .inr ?_⟩
            have htb := perm_test h1 h2 hperm
            obtain ⟨k, rows⟩ := t
            have hk : k = .tst := hk
            subst hk
            exact ⟨_, if_pos htb⟩
        obtain ⟨ha1, ha2⟩ := hadd
        rw [ha1]
        have same_d : (∀ t', addT n t d ≠ .ok t') → d' = d := fun h => ha2.resolve_right fun ⟨t', e⟩ => h t' e
        have hsp : isT "list" d' = false ∨ ∃ (a : Addr) (ns : List Int), v' = .ref a ∧ H' a = some (.lst (ns.map V.int)) ∧ ns.length ≤ 1000 ∧ (a ∈ M ∨ H a = none) ∧ G a = none := by
          rcases hcase with ⟨rfl, rfl⟩ | ⟨ns, l, e1, e2, hperm, e3, e4, e5⟩
          · rcases hi with h | h | h | ⟨ns, e, _⟩ | ⟨i, j, e, _⟩ | e
            · subst h; exact .inl rfl
            · subst h; exact .inl rfl
            · subst h; exact .inl rfl
            · subst e; exact .inl rfl
            · subst e
              obtain ⟨a, e2, hM, hG⟩ := hit x v' _ rfl
              subst e2
              obtain ⟨a', xs, e3, h3, h4⟩ := Dq.lst_ hd'
              cases e3
              have e5 : xs = [V.int i, V.int j] := DqAll.of_ints (ns := [i, j]) h4
              subst e5
              exact .inr ⟨a, [i, j], rfl, h3, by show 2 ≤ 1000; decide, .inl hM, hG⟩
            · subst e; exact .inl rfl
          · refine .inr ⟨l, ns, e3, e5, ?_, .inr e4, same_none sG e4⟩
            obtain ⟨_, ms, e6, hp2⟩ := hperm
            have e7 : ns = ms := by
              have := congrArg intsOf (e1.symm.trans e6)
              rw [intsOf_tup, intsOf_tup] at this
              exact this
            rw [e7, hp2.length_eq]
            unfold rgI
            simp
            omega
        cases ha : addT n t d with
        | ok t' =>
          rw [ha] at hc0
          rw [hc0] at qd
          intro G2 H2 g hS2
          refine ⟨_, rfl, ?_⟩
          dsimp only [tNil]
          exact spoil_add sG s1 hbM hb1 hd' hsp g hS2 fun G3 H3 g3 hS3 => ⟨_, rfl, qd G3 H3 g3 hS3⟩
        | step =>
          rw [ha] at hc0
          rw [hc0] at qd
          have e := same_d (fun t' z => by rw [ha] at z; cases z)
          subst e
          exact fun H1 e s2 ne => qd H1 e v' (s1.trans s2) (hd'.mono s2) ne
        | pair =>
          rw [ha] at hc0
          rw [hc0] at qd
          have e := same_d (fun t' z => by rw [ha] at z; cases z)
          subst e
          exact fun H1 e s2 ne => qd H1 e v' (s1.trans s2) (hd'.mono s2) ne
        | row =>
          rw [ha] at hc0
          rw [hc0] at qd
          have e := same_d (fun t' z => by rw [ha] at z; cases z)
          subst e
          exact fun H1 e s2 ne => qd H1 e v' (s1.trans s2) (hd'.mono s2) ne
        | ring l =>
          rw [ha] at hc0
          rw [hc0] at qd
          exact fun H1 e l1 s2 nl hl ne => qd H1 e l1 (s1.trans s2) hl ne
    · have stay : ∀ H', Same H H' → (∃ v', [some (V.ref b), some (V.int n), some (V.ref p), some u, none] = [some (V.ref b), some (V.int n), some (V.ref p), some v', none] ∧ Same H H' ∧ ((v' = u) ∨ (∃ (ns : List Int) (l : Addr), d = tupD ns ∧ PermI n d ∧ v' = .ref l ∧ H l = none ∧ H' l = some (.lst (ns.map V.int))))) := fun H' s' => ⟨u, rfl, s', .inl rfl⟩
      refine ⟨_, rfl, _, _, rfl, rfl, _, rfl, iteB (fun c => ?_) (fun _ => iteF' rfl (k _ _ (stay H (Same.refl H))))⟩
      have hn3 : 2 < n := by
        have := of_decide_eq_true c
        omega
      refine ⟨_, rfl, _, _, _, _, _, rfl, .ty _, hd.ty, kit_dt "tuple" (by simp) d, _, rfl, iteB (fun c1 => ?_) (fun _ => iteF' rfl (k _ _ (stay H (Same.refl H))))⟩
      have hform : (∃ ns : List Int, d = tupD ns ∧ ns.length ≤ 4) ∨ d = .tuple [.bool true, .int 1] := by
        rcases hi with h | h | h | ⟨ns, e, _, n2, _⟩ | ⟨_, _, e, _⟩ | e
        · subst h; cases c1
        · subst h; cases c1
        · subst h; cases c1
        · exact .inl ⟨ns, e, n2⟩
        · subst e; cases c1
        · exact .inr e
      rcases hform with ⟨ns, rfl, hn4⟩ | rfl
      · obtain ⟨a, rfl, ha⟩ := tupD_ hd
        refine ⟨_, rfl, a, _, rfl, SqT.of ha, .inl ⟨ns, rfl, by omega⟩, fun ys q hp nq => ?_⟩
        obtain ⟨ms, rfl, hm⟩ := ints_perm hp
        have sq := same_new (o := .lst (ms.map V.int)) nq
        refine ⟨_, rfl, _, rfl, RgOk.of_le (by omega) (by omega) (by omega) (by omega), fun q2 nq2 => ?_⟩
        have sq2 := same_new (o := .lst (rgV 0 (n : Int))) nq2
        have s3 := sq.trans sq2
        refine ⟨_, _, (Dq.lst (sq2 _ _ upd_same) (DqAll.ints ms)).dp, (Dq.lst upd_same (rg_ints n ▸ DqAll.ints _)).dp, ints_lay _, ints_lay _, _, rfl, ?_⟩
        rw [eqv_lst]
        refine iteB (fun c2 => ?_) (fun _ => k _ _ (stay _ s3))
        have e2 : ms = rgI n := of_decide_eq_true c2
        refine ⟨_, rfl, a, _, rfl, .inr (SqT.of (s3 _ _ ha)), fun l nl => k _ _ ⟨.ref l, rfl, s3.trans (same_new nl), .inr ⟨ns, l, rfl, ⟨hn3, ns, rfl, ?_⟩, rfl, s3.free nl, upd_same⟩⟩⟩
        rw [← e2]
        exact hm.symm
      · obtain ⟨a, xs, rfl, ha, hxs⟩ := Dq.tup_ hd
        have exs : xs = [V.bl true, V.int 1] := by
          cases hxs with
          | cons a1 r1 =>
            cases r1 with
            | cons a2 r2 =>
              cases r2
              cases a1
              cases a2
              rfl
        subst exs
        refine ⟨_, rfl, a, _, rfl, SqT.of ha, .inr ⟨true, 1, rfl⟩, fun ys q hp nq => ?_⟩
        have sq := same_new (o := .lst ys) nq
        refine ⟨_, rfl, _, rfl, RgOk.of_le (by omega) (by omega) (by omega) (by omega), fun q2 nq2 => ?_⟩
        have sq2 := same_new (o := .lst (rgV 0 (n : Int))) nq2
        have s3 := sq.trans sq2
        obtain ⟨ds, hds, hds2⟩ : ∃ ds, DqAll (upd (upd H q (.lst ys)) q2 (.lst (rgV 0 (n : Int)))) ys ds ∧ (ds = [.bool true, .int 1] ∨ ds = [.int 1, .bool true]) := by
          have hl := hp.length_eq
          match ys, hl, hp with
          | [y1, y2], _, hp =>
            have m1 : y1 = V.bl true ∨ y1 = V.int 1 := by simpa using hp.mem_iff.mp (List.mem_cons_self (a := y1) (l := [y2]))
            rcases m1 with rfl | rfl
            · have := (List.perm_cons _).mp hp
              have e := List.perm_singleton.mp this
              cases e
              exact ⟨_, .cons (.bl true) (.cons (.int 1) .nil), .inl rfl⟩
            · have h3 : [V.int 1, y2].Perm [V.int 1, V.bl true] := hp.trans (List.Perm.swap _ _ _)
              have := (List.perm_cons _).mp h3
              have e := List.perm_singleton.mp this
              cases e
              exact ⟨_, .cons (.int 1) (.cons (.bl true) .nil), .inr rfl⟩
        have hsh : SeqAt.shaped (.list ds) = true ∧ PyData.eqv (.list ds) (.list ((rgI n).map .int)) = false := by
          have : n = 3 ∨ n = 4 := by omega
          rcases hds2 with rfl | rfl <;> rcases this with rfl | rfl <;> exact ⟨by decide +kernel, by decide +kernel⟩
        refine ⟨_, _, (Dq.lst (sq2 _ _ upd_same) hds).dp, (Dq.lst (ds := (rgI n).map .int) upd_same (rg_ints n ▸ DqAll.ints _)).dp, hsh.1, ints_lay _, _, rfl, ?_⟩
        rw [hsh.2]
        exact iteF' rfl (k _ _ (stay _ s3))
  | drop x =>
    obtain ⟨p, rfl, hp⟩ := hdm
    have at1 : atI [V.str (Str.ofString "drop"), V.str x] 1 = some (V.str x) := atI_nat (j := 1) rfl
    have at0 : atI [V.str (Str.ofString "drop"), V.str x] 0 = some (V.str (Str.ofString "drop")) := atI_nat (j := 0) rfl
    have qd := qd (by intro z; cases z)
    refine ⟨_, rfl, p, _, _, _, rfl, rfl, SqL.of hp, at0, rfl, _, rfl, iteF' (decide_eq_false fun z => absurd (V.str.inj z) (by decide +kernel)) ?_⟩
    refine ⟨_, rfl, p, _, _, _, rfl, rfl, SqL.of hp, at0, rfl, _, rfl, iteF' (decide_eq_false fun z => absurd (V.str.inj z) (by decide +kernel)) ?_⟩
    refine ⟨_, rfl, p, _, _, _, rfl, rfl, SqL.of hp, at0, rfl, _, rfl, iteT' rfl ?_⟩
    refine ⟨_, rfl, b, dx, _, rfl, hb, bmn (by decide +kernel) (by decide +kernel) (by decide +kernel), _, rfl, p, _, _, _, rfl, rfl, SqL.of hp, at1, ?_⟩
    refine ⟨b, n, x, G, sts, st, rfl, hS, sG, hGb, hnd, hl1, hl2, fun hn e ne => ?_, fun t ht G2 H2 g hS2 => ?_⟩
    · have hc : chg n st (.drop x) = .unknown x := by simp only [chg, hn]
      rw [hc] at qd
      exact qd H e (Same.refl H) ne
    · have hc : chg n st (.drop x) = .done (dropS st x) := by simp only [chg, ht]
      rw [hc] at qd
      exact qd G2 H2 (mono1 g) hS2
  | ren x y =>
    obtain ⟨p, rfl, hp⟩ := hdm
    have at1 : atI [V.str (Str.ofString "rename"), V.str x, V.str y] 1 = some (V.str x) := atI_nat (j := 1) rfl
    have at0 : atI [V.str (Str.ofString "rename"), V.str x, V.str y] 0 = some (V.str (Str.ofString "rename")) := atI_nat (j := 0) rfl
    have at2 : atI [V.str (Str.ofString "rename"), V.str x, V.str y] 2 = some (V.str y) := atI_nat (j := 2) rfl
    have qd := qd (by intro z; cases z)
    refine ⟨_, rfl, p, _, _, _, rfl, rfl, SqL.of hp, at0, rfl, _, rfl, iteF' (decide_eq_false fun z => absurd (V.str.inj z) (by decide +kernel)) ?_⟩
    refine ⟨_, rfl, p, _, _, _, rfl, rfl, SqL.of hp, at0, rfl, _, rfl, iteF' (decide_eq_false fun z => absurd (V.str.inj z) (by decide +kernel)) ?_⟩
    refine ⟨_, rfl, p, _, _, _, rfl, rfl, SqL.of hp, at0, rfl, _, rfl, iteF' (decide_eq_false fun z => absurd (V.str.inj z) (by decide +kernel)) ?_⟩
    refine ⟨_, rfl, p, _, _, _, rfl, rfl, SqL.of hp, at0, rfl, _, rfl, iteT' rfl ?_⟩
    refine ⟨_, rfl, b, dx, _, rfl, hb, bmn (by decide +kernel) (by decide +kernel) (by decide +kernel), _, rfl, p, _, _, _, rfl, rfl, SqL.of hp, at1, _, rfl, p, _, _, _, rfl, rfl, SqL.of hp, at2, ?_⟩
    refine ⟨b, n, x, y, G, sts, st, rfl, hS, sG, hGb, nm_ok hok.2, hnd, hl1, hl2, fun hn e ne => ?_, fun t ht hs H1 e s1 ne => ?_, fun t ht hn G2 H2 g hS2 => ?_⟩
    · have hc : chg n st (.ren x y) = .unknown x := by simp only [chg, hn]
      rw [hc] at qd
      exact qd H e (Same.refl H) ne
    · obtain ⟨t0, ht0⟩ := Option.isSome_iff_exists.mp hs
      have hc : chg n st (.ren x y) = .taken y := by simp only [chg, ht, ht0]
      rw [hc] at qd
      exact qd H1 e s1 ne
    · have hc : chg n st (.ren x y) = .done (dropS st x ++ [(y, t)]) := by simp only [chg, ht, hn]
      rw [hc] at qd
      exact qd G2 H2 (mono1 g) hS2
  | undo =>
    obtain ⟨p, rfl, hp⟩ := hdm
    have at0 : atI [V.str (Str.ofString "undo")] 0 = some (V.str (Str.ofString "undo")) := atI_nat (j := 0) rfl
    obtain ⟨qu1, qu2⟩ := qu rfl
    refine ⟨_, rfl, p, _, _, _, rfl, rfl, SqL.of hp, at0, rfl, _, rfl, iteF' (decide_eq_false fun z => absurd (V.str.inj z) (by decide +kernel)) ?_⟩
    refine ⟨_, rfl, p, _, _, _, rfl, rfl, SqL.of hp, at0, rfl, _, rfl, iteF' (decide_eq_false fun z => absurd (V.str.inj z) (by decide +kernel)) ?_⟩
    refine ⟨_, rfl, p, _, _, _, rfl, rfl, SqL.of hp, at0, rfl, _, rfl, iteF' (decide_eq_false fun z => absurd (V.str.inj z) (by decide +kernel)) ?_⟩
    refine ⟨_, rfl, p, _, _, _, rfl, rfl, SqL.of hp, at0, rfl, _, rfl, iteF' (decide_eq_false fun z => absurd (V.str.inj z) (by decide +kernel)) ?_⟩
    refine ⟨_, rfl, b, dx, _, rfl, hb, bmn (by decide +kernel) (by decide +kernel) (by decide +kernel), ?_⟩
    exact ⟨b, n, G, sts, st, rfl, hS, sG, hGb, hl1, qu1, fun sts' st' e G2 H2 g hS2 => qu2 sts' st' e G2 H2 (mono1 g) hS2⟩
theorem bd_law_done {K : PySem.W.Frag} {mg : Str → Option Value} (T : Txt K mg) : Binds K (fdAt K (ga K "_law_done")) ["_law_bench", "_law_many", "_law_deed_here"] [] := T.f_law_done.bindsN fun _ _ _ _ _ _ us hl => match us, hl with | [_, _, _], _ => rfl
theorem c_law_done {X : Cx} {E : XK} {e : Expr} {es : List Expr} {t : TA} {p pos : Pos} (T : Txt X.K X.mg) (hr : Room 8 X.A) (hx : Passes (L2.CX X.prog X.w) X E) (ha : PA X (e :: es) t) (hg : Gl X "_law_done" := by rfl) (he : starEach (e :: es) X.env = (false, eval e X.env) :: starEach es X.env := by rfl) (hpl : (backTo pos (starEach es X.env)).any (·.1) = false := by rfl) :
    PE X (.Call (.Name "_law_done" p) (e :: es) [] pos) (tCall ((spDone X.K)) [] E t) := pe_call (ok_law_done T) hr hg T.g_law_done T.f_law_done.kp (bd_law_done T) .nil hx ha (by decide) he hpl
end
end K57
/-! L17 -/
namespace K57
open PySem PySem.Spec PyProof.Rows L2 He
section
variable {K : PySem.W.Frag} {mg : Str → Option Value}
theorem xf_NameTaken (T : Txt K mg) : XfC K (ga K "NameTaken") := ⟨T.xa_NameTaken, T.xb_NameTaken, T.x_NameTaken.exC, T.xd_NameTaken⟩
theorem xf_UnknownName (T : Txt K mg) : XfC K (ga K "UnknownName") := ⟨T.xa_UnknownName, T.xb_UnknownName, T.x_UnknownName.exC, T.xd_UnknownName⟩
theorem xf_InvalidStep (T : Txt K mg) : XfC K (ga K "InvalidStep") := ⟨T.xa_InvalidStep, T.xb_InvalidStep, T.x_InvalidStep.exC, T.xd_InvalidStep⟩
theorem xf_InvalidPair (T : Txt K mg) : XfC K (ga K "InvalidPair") := ⟨T.xa_InvalidPair, T.xb_InvalidPair, T.x_InvalidPair.exC, T.xd_InvalidPair⟩
theorem xf_InvalidRow (T : Txt K mg) : XfC K (ga K "InvalidRow") := ⟨T.xa_InvalidRow, T.xb_InvalidRow, T.x_InvalidRow.exC, T.xd_InvalidRow⟩
theorem xf_Ring (T : Txt K mg) : XfC K (ga K "Ring") := ⟨T.xa_Ring, T.xb_Ring, T.x_Ring.exC, T.xd_Ring⟩
theorem ec_Nothing (T : Txt K mg) : ExcC K (ga K "NothingToUndo") := ⟨T.xa_NothingToUndo, T.xb_NothingToUndo, T.x_NothingToUndo.exC, T.xd_NothingToUndo, T.xc_NothingToUndo, T.ins_Order.hn, T.ins_Order.htk, T.xm_NothingToUndo⟩
end
section
variable {X : Cx} {a : Addr} {oe : Obj} {cls : Value} {d : Option Addr} {pn : List (Addr × Obj)} {pos : Pos}
theorem n_ValueError (T : Txt X.K X.mg) (hg : Gl X "ValueError" := by rfl) : PE X (.Name "ValueError" pos) (tC (.ty "ValueError")) := pe_bltn hg T.z_ValueError bt_ValueError rfl
theorem call_isVE (T : Txt X.K X.mg) (hz : Zc cls d oe) (hf : ∃ vs, oe.data = .fields vs) : CallR (X.suite a ((a, oe) :: pn)) (.builtin "isinstance") (fun xs H Q => xs = [.ref a, .ty "ValueError"] ∧ cls = .ref (ga X.K "NothingToUndo") ∧ d = none ∧ Q (.bl true) H) := by
  intro pins s σ H xs us Q I r h
  obtain ⟨rfl, e1, e2, q⟩ := h
  subst e1
  subst e2
  exact call_isE (ec_Nothing T) hz hf pins s σ H _ us Q I r ⟨.ty "ValueError", .type "ValueError", true, rfl, fun u h => h, T.xk_NothingToUndo, q⟩
theorem c_law_doneS {K : PySem.W.Frag} {W : WX} {e : Expr} {es : List Expr} {t : TA} {p pos : Pos} (T : Txt X.K X.mg) (hr : Room 8 X.A) (tk : Takes X W) (ha : PA X (e :: es) t) (hK : X.K = K := by rfl) (hg : Gl X "_law_done" := by rfl) (he : starEach (e :: es) X.env = (false, eval e X.env) :: starEach es X.env := by rfl) (hpl : (backTo pos (starEach es X.env)).any (·.1) = false := by rfl) :
    PE X (.Call (.Name "_law_done" p) (e :: es) [] pos) (tCallSD (spDone K) [] (WE W) t) := by
  subst hK
  exact pe_callSD (ok_law_done T) hr hg T.g_law_done T.f_law_done.kp (bd_law_done T) .nil (fun σ => passAt tk σ) ha (by decide) he hpl
end
/-- what is told of a deed -/
def ToldOk (K : PySem.W.Frag) (M : List Addr) (G H : Hp) (b : Addr) (n : Nat) (sts : List State) (st : State) (d : PyData) (Q : VK) : ChR → Prop
  | .done st' => ∀ v G2 H2, Go M G H G2 H2 → BSt K G2 H2 b n (sts ++ [st]) st' → Dq H2 v (.list [.str (Str.ofString "done"), .none]) → Q v H2
  | .taken x => ∀ v H1, Same H H1 → Dq H1 v (chD d (.taken x)) → Q v H1
  | .unknown x => ∀ v H1, Same H H1 → Dq H1 v (chD d (.unknown x)) → Q v H1
  | .bad r => ∀ v H1, Same H H1 → Dq H1 v (badD d r) → Q v H1
section
variable {P : Program} {w : World} {K : PySem.W.Frag} {mg : Str → Option Value} {base : Heap}
def spTold (K : PySem.W.Frag) : Sp := fun vs H Q _ => ∃ (b : Addr) (n : Nat) (dv : V) (G : Hp) (sts : List State) (st : State) (dm : Deed) (M : List Addr), vs = [.ref b, .int n, dv] ∧ 2 ≤ n ∧ n ≤ 4 ∧ BSt K G H b n sts st ∧ Same G H ∧ G b = none ∧ LDeedG G H dv dm ∧ DeedOk n st dm ∧
  (∀ p ∈ st, Good n p.2) ∧ (st.map (·.1)).Nodup ∧ sts.length < 900 ∧ st.length < 900 ∧ b ∈ M ∧ (∀ x u ds, dm = .add x u (.list ds) → ∃ a, u = .ref a ∧ a ∈ M ∧ G a = none) ∧
  (dm ≠ .undo → ToldOk K M G H b n sts st (itemD dm) Q (chg n st dm)) ∧
  (dm = .undo → (sts = [] → ∀ v H1, Same H H1 → Dq H1 v (.list [.str (Str.ofString "none"), .bool true]) → Q v H1) ∧ (∀ sts' st', sts = sts' ++ [st'] → ∀ v G2 H2, Go M G H G2 H2 → BSt K G2 H2 b n sts' st' → Dq H2 v (.list [.str (Str.ofString "done"), .none]) → Q v H2))
theorem sc_law_told : FnScope ["_law_bench", "_law_many", "_law_deed_here", "e"] ["_law_bench", "_law_many", "_law_deed_here"] (defScope sLawTold) := ⟨rfl, rfl, rfl, by decide +kernel, rfl, by decide +kernel, by decide +kernel⟩
theorem ok_law_told (T : Txt K mg) : FnOk P w K mg base CX0 9 (ga K "_law_told") (fdAt K (ga K "_law_told")) ["_law_bench", "_law_many", "_law_deed_here"] (spTold K) := by
  refine T.f_law_told.ok sc_law_told (fun vs H Q E h => ?_) (fun cdv A outer s H vs Q E hr h => ?_)
  · obtain ⟨b, n, dv, G, sts, st, dm, M, rfl, _⟩ := h
    rfl
  obtain ⟨b, n, dv, G, sts, st, dm, M, rfl, h1, h2, hS, sG, hGb, hdm, hok, hgood, hnd, hl1, hl2, hbM, hit, qd, qu⟩ := h
  refine ⟨_, PSs.nox (pss_one (TryX.ps_try_mix rfl rfl sc_law_told.nd takes0 (fun W pn xe tk _ => (pss_one (ps_ret (pe_lst (pa_cons pe_str (pa_cons (c_law_doneS (K := K) T (hr.mono (by decide)) tk (pa_cons (pv 0) (pa_cons (pv 1) (pa_cons (pv 2) pa_nil)))) pa_nil))))))
    (TryX.HdsX.as_ (i := 3) rfl rfl ⟨rfl, by decide, .inl T.g_NameTaken⟩ (fun a oe cls d pn hz hf => (pss_one (ps_ret (pe_lst (pa_cons pe_str (pa_cons (pe_xf (xf_NameTaken T) T.xn_NameTaken hz hf (pv 3)) pa_nil))))))
    (TryX.HdsX.as_ (i := 3) rfl rfl ⟨rfl, by decide, .inl T.g_UnknownName⟩ (fun a oe cls d pn hz hf => (pss_one (ps_ret (pe_lst (pa_cons pe_str (pa_cons (pe_xf (xf_UnknownName T) T.xn_UnknownName hz hf (pv 3)) pa_nil))))))
    (TryX.HdsX.as_ (i := 3) rfl rfl ⟨rfl, by decide, .inl T.g_InvalidStep⟩ (fun a oe cls d pn hz hf => (pss_one (ps_ret (pe_lst (pa_cons pe_str (pa_cons (pe_xf (xf_InvalidStep T) T.xn_InvalidStep hz hf (pv 3)) pa_nil))))))
    (TryX.HdsX.as_ (i := 3) rfl rfl ⟨rfl, by decide, .inl T.g_InvalidPair⟩ (fun a oe cls d pn hz hf => (pss_one (ps_ret (pe_lst (pa_cons pe_str (pa_cons (pe_xf (xf_InvalidPair T) T.xn_InvalidPair hz hf (pv 3)) pa_nil))))))
    (TryX.HdsX.as_ (i := 3) rfl rfl ⟨rfl, by decide, .inl T.g_InvalidRow⟩ (fun a oe cls d pn hz hf => (pss_one (ps_ret (pe_lst (pa_cons pe_str (pa_cons (pe_xf (xf_InvalidRow T) T.xn_InvalidRow hz hf (pv 3)) pa_nil))))))
    (TryX.HdsX.as_ (i := 3) rfl rfl ⟨rfl, by decide, .inl T.g_Ring⟩ (fun a oe cls d pn hz hf => (pss_one (ps_ret (pe_lst (pa_cons pe_str (pa_cons (pe_xf (xf_Ring T) T.xn_Ring hz hf (pv 3)) pa_nil))))))
    (TryX.HdsX.as_ (i := 3) rfl rfl ⟨rfl, by decide, .inl T.g_NothingToUndo⟩ (fun a oe cls d pn hz hf => (pss_one (ps_ret (pe_lst (pa_cons pe_str (pa_cons (b_isinstance (call_isVE T hz hf) T (pa_cons (pv 3) (pa_cons (n_ValueError T) pa_nil))) pa_nil))))))
    (TryX.HdsX.one ⟨rfl, by decide, .inl T.g_SorterError⟩ (fun a oe cls d pn hz hf => (pss_one (ps_ret (pe_lst (pa_cons pe_str (pa_cons pe_int pa_nil))))))
    TryX.HdsX.nil)))))))))), ?_⟩
  refine ⟨_, rfl, _, rfl, _, rfl, b, n, dv, G, sts, st, dm, M, rfl, h1, h2, hS, sG, hGb, hdm, hok, hgood, hnd, hl1, hl2, hbM, hit, fun hnu => ?_, fun hu => ?_⟩
  · have qd := qd hnu
    generalize chg n st dm = r at qd ⊢
    cases r with
    | done st' =>
      intro G2 H2 g hS2
      refine ⟨by show 2 ≤ sizeLine; decide, fun p np => ?_⟩
      have sn := same_new (o := .lst [.str (Str.ofString "done"), .non]) np
      exact qd _ G2 _ (g.same sn) (hS2.mono (Same.refl G2) fun o e => sn _ _ e) (.lst upd_same (.cons (.str _) (.cons .non .nil)))
    | taken x =>
      intro H1 e s1 ne
      have se := s1.trans (same_new (o := .xd [("name", .str x)]) ne)
      exact ⟨true, T.e_NameTaken_NameTaken, (fun _ a na => ⟨_, rfl, rfl, rfl, e, _, _, rfl, upd_same, (by simp [List.lookup]), by show 2 ≤ sizeLine; decide, fun p np => qd _ _ (se.trans (same_new np)) (.lst upd_same (.cons (.str _) (.cons (.str x) .nil)))⟩), fun z => nomatch z⟩
    | unknown x =>
      intro H1 e s1 ne
      have se := s1.trans (same_new (o := .xd [("name", .str x)]) ne)
      exact ⟨false, T.e_UnknownName_NameTaken, (fun z => nomatch z), fun _ => ⟨true, T.e_UnknownName_UnknownName, (fun _ a na => ⟨_, rfl, rfl, rfl, e, _, _, rfl, upd_same, (by simp [List.lookup]), by show 2 ≤ sizeLine; decide, fun p np => qd _ _ (se.trans (same_new np)) (.lst upd_same (.cons (.str _) (.cons (.str x) .nil)))⟩), fun z => nomatch z⟩⟩
    | bad r =>
      cases r with
      | ok t => exact trivial
      | step =>
        intro H1 e v' s1 hv ne
        have se := s1.trans (same_new (o := .xd [("value", v')]) ne)
        exact ⟨false, T.e_InvalidStep_NameTaken, (fun z => nomatch z), fun _ => ⟨false, T.e_InvalidStep_UnknownName, (fun z => nomatch z), fun _ => ⟨true, T.e_InvalidStep_InvalidStep, (fun _ a na => ⟨_, rfl, rfl, rfl, e, _, _, rfl, upd_same, (by simp [List.lookup]), by show 2 ≤ sizeLine; decide, fun p np => qd _ _ (se.trans (same_new np)) (.lst upd_same (.cons (.str _) (.cons (hv.mono ((same_new ne).trans (same_new np))) .nil)))⟩), fun z => nomatch z⟩⟩⟩
      | pair =>
        intro H1 e v' s1 hv ne
        have se := s1.trans (same_new (o := .xd [("value", v')]) ne)
        exact ⟨false, T.e_InvalidPair_NameTaken, (fun z => nomatch z), fun _ => ⟨false, T.e_InvalidPair_UnknownName, (fun z => nomatch z), fun _ => ⟨false, T.e_InvalidPair_InvalidStep, (fun z => nomatch z), fun _ => ⟨true, T.e_InvalidPair_InvalidPair, (fun _ a na => ⟨_, rfl, rfl, rfl, e, _, _, rfl, upd_same, (by simp [List.lookup]), by show 2 ≤ sizeLine; decide, fun p np => qd _ _ (se.trans (same_new np)) (.lst upd_same (.cons (.str _) (.cons (hv.mono ((same_new ne).trans (same_new np))) .nil)))⟩), fun z => nomatch z⟩⟩⟩⟩
      | row =>
        intro H1 e v' s1 hv ne
        have se := s1.trans (same_new (o := .xd [("value", v')]) ne)
        exact ⟨false, T.e_InvalidRow_NameTaken, (fun z => nomatch z), fun _ => ⟨false, T.e_InvalidRow_UnknownName, (fun z => nomatch z), fun _ => ⟨false, T.e_InvalidRow_InvalidStep, (fun z => nomatch z), fun _ => ⟨false, T.e_InvalidRow_InvalidPair, (fun z => nomatch z), fun _ => ⟨true, T.e_InvalidRow_InvalidRow, (fun _ a na => ⟨_, rfl, rfl, rfl, e, _, _, rfl, upd_same, (by simp [List.lookup]), by show 2 ≤ sizeLine; decide, fun p np => qd _ _ (se.trans (same_new np)) (.lst upd_same (.cons (.str _) (.cons (hv.mono ((same_new ne).trans (same_new np))) .nil)))⟩), fun z => nomatch z⟩⟩⟩⟩⟩
      | ring l =>
        intro H1 e l1 s1 hl ne
        have se := s1.trans (same_new (o := .xd [("lines", .ref l1)]) ne)
        exact ⟨false, T.e_Ring_NameTaken, (fun z => nomatch z), fun _ => ⟨false, T.e_Ring_UnknownName, (fun z => nomatch z), fun _ => ⟨false, T.e_Ring_InvalidStep, (fun z => nomatch z), fun _ => ⟨false, T.e_Ring_InvalidPair, (fun z => nomatch z), fun _ => ⟨false, T.e_Ring_InvalidRow, (fun z => nomatch z), fun _ => ⟨true, T.e_Ring_Ring, (fun _ a na => ⟨_, rfl, rfl, rfl, e, _, _, rfl, upd_same, (by simp [List.lookup]), by show 2 ≤ sizeLine; decide, fun p np => qd _ _ (se.trans (same_new np)) (.lst upd_same (.cons (.str _) (.cons (.lst (same_new np _ _ (same_new ne _ _ hl)) (DqAll.ints l)) .nil)))⟩), fun z => nomatch z⟩⟩⟩⟩⟩⟩
  · obtain ⟨qu1, qu2⟩ := qu hu
    refine ⟨fun he H1 s1 => ?_, fun sts' st' he G2 H2 g hS2 => ?_⟩
    · exact ⟨false, T.e_NothingToUndo_NameTaken, (fun z => nomatch z), fun _ => ⟨false, T.e_NothingToUndo_UnknownName, (fun z => nomatch z), fun _ => ⟨false, T.e_NothingToUndo_InvalidStep, (fun z => nomatch z), fun _ => ⟨false, T.e_NothingToUndo_InvalidPair, (fun z => nomatch z), fun _ => ⟨false, T.e_NothingToUndo_InvalidRow, (fun z => nomatch z), fun _ => ⟨false, T.e_NothingToUndo_Ring, (fun z => nomatch z), fun _ => ⟨true, T.e_NothingToUndo_NothingToUndo, (fun _ a na => ⟨_, rfl, rfl, rfl, rfl, by show 2 ≤ sizeLine; decide, fun p np => qu1 he _ _ (s1.trans (same_new np)) (.lst upd_same (.cons (.str _) (.cons (.bl true) .nil)))⟩), fun z => nomatch z⟩⟩⟩⟩⟩⟩⟩
    · refine ⟨by show 2 ≤ sizeLine; decide, fun p np => ?_⟩
      have sn := same_new (o := .lst [.str (Str.ofString "done"), .non]) np
      exact qu2 sts' st' he _ G2 _ (g.same sn) (hS2.mono (Same.refl G2) fun o e => sn _ _ e) (.lst upd_same (.cons (.str _) (.cons .non .nil)))
theorem bd_law_told {K : PySem.W.Frag} {mg : Str → Option Value} (T : Txt K mg) : Binds K (fdAt K (ga K "_law_told")) ["_law_bench", "_law_many", "_law_deed_here"] [] := T.f_law_told.bindsN fun _ _ _ _ _ _ us hl => match us, hl with | [_, _, _], _ => rfl
theorem c_law_told {X : Cx} {e : Expr} {es : List Expr} {t : TA} {p pos : Pos} (T : Txt X.K X.mg) (hr : Room 9 X.A) (ha : PA X (e :: es) t) (hg : Gl X "_law_told" := by rfl) (he : starEach (e :: es) X.env = (false, eval e X.env) :: starEach es X.env := by rfl) (hpl : (backTo pos (starEach es X.env)).any (·.1) = false := by rfl) :
    PE X (.Call (.Name "_law_told" p) (e :: es) [] pos) (tCall ((spTold X.K)) [] E0 t) := pe_call (ok_law_told T) hr hg T.g_law_told T.f_law_told.kp (bd_law_told T) .nil pass0 ha (by decide) he hpl
end
end K57
/-! S1 -/
/-! what is shown is bounded -/
namespace K57
open PySem PySem.Spec PyProof.Rows L2 He
theorem log_lt {n : Nat} (h : n < 10 ^ 28) : n.log2 < 1920 ∧ (if n = 0 then 0 else n.log2 + 1) ≤ 100 := by
  by_cases z : n = 0
  · subst z
    exact ⟨by decide, by decide⟩
  · have h1 : n < 2 ^ 94 := Nat.lt_of_lt_of_le h (by decide)
    have h2 : n.log2 < 94 := (Nat.log2_lt z).mpr h1
    rw [if_neg z]
    omega
theorem int_short {i : Int} (h : i.natAbs < 10 ^ 28) : (PyData.shown (.int i)).length ≤ 40 := by
  have e := int_text_length_le10 (k := 39) (by decide) (Nat.lt_of_lt_of_le h (by decide) : i.natAbs < 10 ^ 39)
  show (Str.ofString (toString i)).length ≤ 40
  rw [PySem.ofString_length]
  exact e
theorem sh_ints : ∀ ns : List Int, (∀ x ∈ ns, x.natAbs < 10 ^ 28) → PyData.showableAll (ns.map .int) = true ∧ PyData.hasDictAll (ns.map .int) = false ∧ PyData.depthAll (ns.map .int) = 0 ∧ PyData.leavesShortAll 40 (ns.map .int) = true ∧ PyData.weightAll (ns.map .int) ≤ ns.length * 101
  | [], _ => ⟨rfl, rfl, rfl, rfl, by simp [PyData.weightAll]⟩
  | n :: r, h => by
    obtain ⟨h1, h2, h3, h4, h5⟩ := sh_ints r fun x hx => h x (List.mem_cons_of_mem _ hx)
    have hn := h n List.mem_cons_self
    obtain ⟨l1, l2⟩ := log_lt hn
    refine ⟨?_, ?_, ?_, ?_, ?_⟩
    · simp only [List.map_cons, PyData.showableAll, PyData.showable, h1, Bool.and_true, decide_eq_true_eq]
      exact l1
    · simp only [List.map_cons, PyData.hasDictAll, PyData.hasDict, h2, Bool.or_self]
    · simp only [List.map_cons, PyData.depthAll, PyData.depth, h3, Nat.max_self]
    · simp only [List.map_cons, PyData.leavesShortAll, PyData.leavesShort, h4, Bool.and_true, decide_eq_true_eq]
      exact int_short hn
    · simp only [List.map_cons, PyData.weightAll, PyData.weight, List.length_cons]
      have e : (if (n == 0) = true then 0 else n.natAbs.log2 + 1) ≤ 100 := by
        by_cases z : n = 0
        · subst z; decide
        · rw [if_neg (by simpa using z)]
          have : n.natAbs ≠ 0 := by omega
          rw [if_neg this] at l2
          exact l2
      omega
theorem sh_rows : ∀ rows : List (List Int), (∀ r ∈ rows, r.length ≤ 4 ∧ ∀ x ∈ r, x.natAbs < 10 ^ 28) → PyData.showableAll (rows.map tupD) = true ∧ PyData.hasDictAll (rows.map tupD) = false ∧ PyData.depthAll (rows.map tupD) ≤ 1 ∧ PyData.leavesShortAll 40 (rows.map tupD) = true ∧ PyData.weightAll (rows.map tupD) ≤ rows.length * 405
  | [], _ => ⟨rfl, rfl, by simp [PyData.depthAll], rfl, by simp [PyData.weightAll]⟩
  | r :: rs, h => by
    obtain ⟨h1, h2, h3, h4, h5⟩ := sh_rows rs fun x hx => h x (List.mem_cons_of_mem _ hx)
    obtain ⟨hl, hx⟩ := h r List.mem_cons_self
    obtain ⟨g1, g2, g3, g4, g5⟩ := sh_ints r hx
    refine ⟨?_, ?_, ?_, ?_, ?_⟩
    · simp only [List.map_cons, PyData.showableAll, tupD, PyData.showable, g1, Bool.true_and]
      exact h1
    · simp only [List.map_cons, PyData.hasDictAll, tupD, PyData.hasDict, g2, Bool.false_or]
      exact h2
    · simp only [List.map_cons, PyData.depthAll, tupD, PyData.depth, g3]
      exact Nat.max_le.mpr ⟨by decide, h3⟩
    · simp only [List.map_cons, PyData.leavesShortAll, tupD, PyData.leavesShort, g4, Bool.true_and]
      exact h4
    · have e : PyData.weight (tupD r) = PyData.weightAll (r.map .int) := by simp only [tupD, PyData.weight]
      simp only [List.map_cons, PyData.weightAll, List.length_cons]
      rw [e]
      have h5' : PyData.weightAll (rs.map tupD) ≤ rs.length * 405 := h5
      omega
theorem shown_rows {rows : List (List Int)} (hl : rows.length ≤ 100) (h : ∀ r ∈ rows, r.length ≤ 4 ∧ ∀ x ∈ r, x.natAbs < 10 ^ 28) : Shown (.list (rows.map tupD)) := by
  obtain ⟨h1, h2, h3, h4, h5⟩ := sh_rows rows h
  refine ⟨?_, ?_, ?_, ?_, ?_⟩
  · simpa only [PyData.showable] using h1
  · simpa only [PyData.hasDict] using h2
  · simp only [PyData.depth]; omega
  · simpa only [PyData.leavesShort] using h4
  · simp only [PyData.weight]; omega
/-- a sign and a datum -/
theorem shown_two {s : Str} {d : PyData} (hs : s.cps.size ≤ 100 ∧ (s.cps.toList.all fun c => decide (c < 16 ^ 8)) = true) (h1 : PyData.showable d = true) (h2 : PyData.hasDict d = false) (h3 : d.depth ≤ 5) (h4 : PyData.leavesShort 40 d = true) (h5 : d.weight ≤ 1000) : Shown (.list [.str s, d]) := by
  refine ⟨?_, ?_, ?_, ?_, ?_⟩
  · simp [PyData.showable, PyData.showableAll, h1]
  · simp [PyData.hasDict, PyData.hasDictAll, h2]
  · simp [PyData.depth, PyData.depthAll]; omega
  · simp only [PyData.leavesShort, PyData.leavesShortAll, h4, Bool.and_true]
    exact hs.2
  · simp only [PyData.weight, PyData.weightAll]
    have := hs.1
    omega
theorem item_shown {d : PyData} (h : ItemD d) : PyData.showable d = true ∧ PyData.hasDict d = false ∧ d.depth ≤ 5 ∧ PyData.leavesShort 40 d = true ∧ d.weight ≤ 1000 := by
  have small : ∀ x : Int, 0 ≤ x ∧ x ≤ 4 → x.natAbs < 10 ^ 28 := fun x hx => Nat.lt_of_le_of_lt (show x.natAbs ≤ 4 by omega) (by decide)
  rcases h with h | h | h | ⟨ns, e, n1, n2, nr⟩ | ⟨a, b, e, ra, rb⟩ | e
  · subst h; exact ⟨by decide +kernel, by decide +kernel, by decide +kernel, by decide +kernel, by decide +kernel⟩
  · subst h; exact ⟨by decide +kernel, by decide +kernel, by decide +kernel, by decide +kernel, by decide +kernel⟩
  · subst h; exact ⟨by decide +kernel, by decide +kernel, by decide +kernel, by decide +kernel, by decide +kernel⟩
  · subst e
    obtain ⟨h1, h2, h3, h4, h5⟩ := sh_ints ns fun x hx => small x (nr x hx)
    refine ⟨?_, ?_, ?_, ?_, ?_⟩
    · simpa only [tupD, PyData.showable] using h1
    · simpa only [tupD, PyData.hasDict] using h2
    · simp only [tupD, PyData.depth, h3]; decide
    · simpa only [tupD, PyData.leavesShort] using h4
    · simp only [tupD, PyData.weight]; omega
  · subst e
    obtain ⟨h1, h2, h3, h4, h5⟩ := sh_ints [a, b] fun x hx => by
      have : x = a ∨ x = b := by simpa using hx
      rcases this with e | e <;> rw [e]
      · exact small a ra
      · exact small b rb
    simp only [List.map_cons, List.map_nil] at h1 h2 h4
    refine ⟨?_, ?_, ?_, ?_, ?_⟩
    · simpa only [PyData.showable] using h1
    · simpa only [PyData.hasDict] using h2
    · show PyData.depthAll ([a, b].map .int) + 1 ≤ 5
      rw [h3]; decide
    · simpa only [PyData.leavesShort] using h4
    · show PyData.weightAll ([a, b].map .int) ≤ 1000
      have : ([a, b] : List Int).length = 2 := rfl
      omega
  · subst e; exact ⟨by decide +kernel, by decide +kernel, by decide +kernel, by decide +kernel, by decide +kernel⟩
theorem nm_shown {x : Str} (h : Nm x) : PyData.showable (.str x) = true ∧ PyData.hasDict (.str x) = false ∧ (PyData.str x).depth ≤ 5 ∧ PyData.leavesShort 40 (.str x) = true ∧ (PyData.str x).weight ≤ 1000 := by
  unfold Nm nameL at h
  simp only [List.mem_cons, List.not_mem_nil, or_false] at h
  rcases h with rfl | rfl | rfl | rfl | rfl | rfl <;> exact ⟨by decide +kernel, by decide +kernel, by decide +kernel, by decide +kernel, by decide +kernel⟩
theorem ringL_mem {n : Nat} {R : Rel2} {x : Int} (h : x ∈ ringL n R) : 0 ≤ x ∧ x < n := by
  unfold ringL at h
  obtain ⟨a, ha, e⟩ := List.mem_map.mp h
  have := List.mem_range.mp (List.mem_filter.mp ha).1
  omega
theorem ringL_len (n : Nat) (R : Rel2) : (ringL n R).length ≤ n := by
  unfold ringL
  rw [List.length_map]
  have z1 := List.length_filter_le (fun a => R a a) (List.range n)
  rw [List.length_range] at z1
  exact z1
/-- the errors of a change are shown in a bounded text -/
theorem chg_shown {n : Nat} {st : State} {dm : Deed} (h4 : n ≤ 4) (hok : DeedOk n st dm) (hu : dm ≠ .undo) (hd : ∀ st', chg n st dm ≠ .done st') : Shown (chD (itemD dm) (chg n st dm)) := by
  have sg : ∀ s : Str, s = Str.ofString "taken" ∨ s = Str.ofString "unknown" ∨ s = Str.ofString "step" ∨ s = Str.ofString "pair" ∨ s = Str.ofString "row" ∨ s = Str.ofString "ring" → s.cps.size ≤ 100 ∧ (s.cps.toList.all fun c => decide (c < 16 ^ 8)) = true := fun s h => by
    rcases h with rfl | rfl | rfl | rfl | rfl | rfl <;> exact ⟨by decide +kernel, by decide +kernel⟩
  have tk : ∀ x, Nm x → Shown (chD (itemD dm) (.taken x)) := fun x hx => by
    obtain ⟨h1, h2, h3, h4, h5⟩ := nm_shown hx
    exact shown_two (sg _ (by simp)) h1 h2 h3 h4 h5
  have un : ∀ x, Nm x → Shown (chD (itemD dm) (.unknown x)) := fun x hx => by
    obtain ⟨h1, h2, h3, h4, h5⟩ := nm_shown hx
    exact shown_two (sg _ (by simp)) h1 h2 h3 h4 h5
  cases dm with
  | undo => exact absurd rfl hu
  | put x t =>
    cases hl : st.lookup x with
    | none => exact absurd (by simp only [chg, hl]) (hd (st ++ [(x, t)]))
    | some t0 =>
      have hc : chg n st (.put x t) = .taken x := by simp only [chg, hl]
      rw [hc]
      exact tk x hok.1
  | drop x =>
    cases hl : st.lookup x with
    | some t => exact absurd (by simp only [chg, hl]) (hd (dropS st x))
    | none =>
      have hc : chg n st (.drop x) = .unknown x := by simp only [chg, hl]
      rw [hc]
      exact un x hok
  | ren x y =>
    cases hl : st.lookup x with
    | none =>
      have hc : chg n st (.ren x y) = .unknown x := by simp only [chg, hl]
      rw [hc]
      exact un x hok.1
    | some t =>
      cases hl2 : st.lookup y with
      | some t2 =>
        have hc : chg n st (.ren x y) = .taken y := by simp only [chg, hl, hl2]
        rw [hc]
        exact tk y hok.2
      | none => exact absurd (by simp only [chg, hl, hl2]) (hd (dropS st x ++ [(y, t)]))
  | add x u d =>
    obtain ⟨i1, i2, i3, i4, i5⟩ := item_shown hok.2.1
    cases hl : st.lookup x with
    | none =>
      have hc : chg n st (.add x u d) = .unknown x := by simp only [chg, hl]
      rw [hc]
      exact un x hok.1
    | some t =>
      cases ha : addT n t d with
      | ok t' => exact absurd (by simp only [chg, hl, ha]) (hd (setS st x t'))
      | step =>
        have hc : chg n st (.add x u d) = .bad .step := by simp only [chg, hl, ha]
        rw [hc]
        exact shown_two (sg _ (by simp)) i1 i2 i3 i4 i5
      | pair =>
        have hc : chg n st (.add x u d) = .bad .pair := by simp only [chg, hl, ha]
        rw [hc]
        exact shown_two (sg _ (by simp)) i1 i2 i3 i4 i5
      | row =>
        have hc : chg n st (.add x u d) = .bad .row := by simp only [chg, hl, ha]
        rw [hc]
        exact shown_two (sg _ (by simp)) i1 i2 i3 i4 i5
      | ring l =>
        have hc : chg n st (.add x u d) = .bad (.ring l) := by simp only [chg, hl, ha]
        rw [hc]
        have hl4 : l.length ≤ 4 ∧ ∀ y ∈ l, y.natAbs < 10 ^ 28 := by
          obtain ⟨k, rows⟩ := t
          cases k with
          | net =>
            have e : addT n ⟨.net, rows⟩ d = (if stepB n d = true then .ok ⟨.net, rows ++ [intsOf d]⟩ else .step) := rfl
            rw [e] at ha
            split at ha <;> cases ha
          | tst =>
            have e : addT n ⟨.tst, rows⟩ d = (if testB n d = true then .ok ⟨.tst, rows ++ [intsOf d]⟩ else .row) := rfl
            rw [e] at ha
            split at ha <;> cases ha
          | ord =>
            have e : addT n ⟨.ord, rows⟩ d = (if pairB n d = true then (if ringL n (warsh n (initR (rows ++ [intsOf d]))) = [] then .ok ⟨.ord, closedL n (rows ++ [intsOf d])⟩ else .ring (ringL n (warsh n (initR (rows ++ [intsOf d]))))) else .pair) := rfl
            rw [e] at ha
            split at ha
            · split at ha
              · cases ha
              · injection ha with ha
                subst ha
                exact ⟨Nat.le_trans (ringL_len _ _) h4, fun y hy => by
                  have := ringL_mem hy
                  exact Nat.lt_of_le_of_lt (show y.natAbs ≤ 4 by omega) (by decide)⟩
            · cases ha
        obtain ⟨h1, h2, h3, h4', h5⟩ := sh_ints l hl4.2
        refine shown_two (sg _ (by simp)) ?_ ?_ ?_ ?_ ?_
        · simpa only [PyData.showable] using h1
        · simpa only [PyData.hasDict] using h2
        · simp only [PyData.depth, h3]; decide
        · simpa only [PyData.leavesShort] using h4'
        · simp only [PyData.weight]
          have := hl4.1
          omega
end K57
/-! L18 -/
namespace K57
open PySem PySem.Spec PyProof.Rows L2 He
/-! ### the model's states -/
def StG (n c : Nat) (st : State) : Prop := (∀ p ∈ st, Good n p.2 ∧ p.2.rows.length ≤ 32 + c ∧ Nm p.1) ∧ (st.map (·.1)).Nodup
structure StOk (n c : Nat) (sts : List State) : Prop where
  all : ∀ st ∈ sts, StG n c st
  len : sts.length ≤ c + 1
theorem StG.mono {n c c' : Nat} {st : State} (h : StG n c st) (l : c ≤ c') : StG n c' st := ⟨fun p hp => by
  obtain ⟨h1, h2, h3⟩ := h.1 p hp
  exact ⟨h1, by omega, h3⟩, h.2⟩
theorem StOk.mono {n c c' : Nat} {sts : List State} (h : StOk n c sts) (l : c ≤ c') : StOk n c' sts := ⟨fun st hst => (h.all st hst).mono l, by have := h.len; omega⟩
theorem nd_len {α : Type} [BEq α] [LawfulBEq α] : ∀ (l m : List α), l.Nodup → (∀ x ∈ l, x ∈ m) → l.length ≤ m.length
  | [], _, _, _ => Nat.zero_le _
  | x :: l, m, nd, h => by
    have hx := h x List.mem_cons_self
    have ih := nd_len l (m.erase x) (List.nodup_cons.mp nd).2 fun y hy => (List.mem_erase_of_ne (show y ≠ x from fun z => (List.nodup_cons.mp nd).1 (by rw [← z]; exact hy))).mpr (h y (List.mem_cons_of_mem _ hy))
    rw [List.length_erase_of_mem hx] at ih
    have : 0 < m.length := List.length_pos_of_mem hx
    rw [List.length_cons]
    omega
theorem StG.len6 {n c : Nat} {st : State} (h : StG n c st) : st.length ≤ 6 := by
  have := nd_len (st.map (·.1)) nameL h.2 fun x hx => by
    obtain ⟨p, hp, e⟩ := List.mem_map.mp hx
    rw [← e]
    exact (h.1 p hp).2.2
  rw [List.length_map] at this
  exact this
theorem lookup_none {st : State} {x : Str} (h : st.lookup x = none) : x ∉ st.map (·.1) := fun hm => by
  obtain ⟨p, hp, e⟩ := List.mem_map.mp hm
  induction st with
  | nil => cases hp
  | cons q r ih =>
    obtain ⟨y, t⟩ := q
    by_cases z : x = y
    · subst z
      simp [List.lookup] at h
    · have z2 : (x == y) = false := beq_eq_false_iff_ne.mpr z
      simp only [List.lookup, z2] at h
      rcases List.mem_cons.mp hp with e2 | hp
      · rw [e2] at e
        exact z e.symm
      · exact ih h (List.mem_map.mpr ⟨p, hp, e⟩) hp
theorem stG_new {n c : Nat} {st : State} {x : Str} {t : Thing} (h : StG n c st) (hn : x ∉ st.map (·.1)) (hg : Good n t) (hl : t.rows.length ≤ 32 + c) (hx : Nm x) : StG n c (st ++ [(x, t)]) := by
  refine ⟨fun p hp => ?_, ?_⟩
  · rcases List.mem_append.mp hp with hp | hp
    · exact h.1 p hp
    · rw [List.mem_singleton.mp hp]
      exact ⟨hg, hl, hx⟩
  · rw [List.map_append]
    refine List.nodup_append.mpr ⟨h.2, by simp, fun a ha b hb e => ?_⟩
    have : b = x := by simpa using hb
    subst this
    subst e
    exact hn ha
theorem stG_drop {n c : Nat} {st : State} {x : Str} (h : StG n c st) : StG n c (dropS st x) :=
  ⟨fun p hp => h.1 p (List.mem_filter.mp hp).1, h.2.sublist (List.Sublist.map _ List.filter_sublist)⟩
theorem drop_sub {st : State} {x y : Str} (h : y ∉ st.map (·.1)) : y ∉ (dropS st x).map (·.1) := fun hm => by
  obtain ⟨p, hp, e⟩ := List.mem_map.mp hm
  exact h (List.mem_map.mpr ⟨p, (List.mem_filter.mp hp).1, e⟩)
theorem setS_keys (st : State) (x : Str) (t : Thing) : (setS st x t).map (·.1) = st.map (·.1) := by
  unfold setS
  rw [List.map_map]
  refine List.map_congr_left fun p _ => ?_
  show (if p.1 = x then (p.1, t) else p).1 = p.1
  split <;> rfl
theorem stG_set {n c : Nat} {st : State} {x : Str} {t : Thing} (h : StG n c st) (hg : Good n t) (hl : t.rows.length ≤ 32 + c) : StG n c (setS st x t) := by
  refine ⟨fun p hp => ?_, by rw [setS_keys]; exact h.2⟩
  unfold setS at hp
  obtain ⟨q, hq, e⟩ := List.mem_map.mp hp
  obtain ⟨h1, h2, h3⟩ := h.1 q hq
  by_cases z : q.1 = x
  · rw [if_pos z] at e
    subst e
    exact ⟨hg, hl, h3⟩
  · rw [if_neg z] at e
    subst e
    exact ⟨h1, h2, h3⟩
theorem addT_ok {n c : Nat} {t t' : Thing} {d : PyData} (h2 : 2 ≤ n) (h4 : n ≤ 4) (hc : c ≤ 50) (hg : Good n t) (hl : t.rows.length ≤ 32 + c) (hi : ItemD d) (h : addT n t d = .ok t') : Good n t' ∧ t'.rows.length ≤ 32 + (c + 1) := by
  obtain ⟨k, rows⟩ := t
  have hl' : rows.length ≤ 32 + c := hl
  cases k with
  | net =>
    have e : addT n ⟨.net, rows⟩ d = (if stepB n d = true then .ok ⟨.net, rows ++ [intsOf d]⟩ else .step) := rfl
    rw [e] at h
    split at h
    · rename_i hs
      injection h with h
      subst h
      obtain ⟨i, j, rfl, i0, i1, j0, j1, hlt⟩ := coup_parts hs
      have hij : i < j := by simpa [ltD] using hlt
      have hrow : StepRow n (intsOf (.tuple [.int i, .int j])) := ⟨i.toNat, j.toNat, by omega, by omega, by show [i, j] = [((i.toNat : Nat) : Int), ((j.toNat : Nat) : Int)]; rw [Int.toNat_of_nonneg i0, Int.toNat_of_nonneg j0]⟩
      have hlen : (rows ++ [intsOf (.tuple [.int i, .int j])]).length = rows.length + 1 := by simp
      refine ⟨⟨⟨by show (rows ++ [intsOf (.tuple [.int i, .int j])]).length < 90; omega, fun r hr => ?_⟩, (fun z => nomatch z), (fun z => nomatch z)⟩, by show (rows ++ [intsOf (.tuple [.int i, .int j])]).length ≤ 32 + (c + 1); omega⟩
      rcases List.mem_append.mp hr with hr | hr
      · exact hg.rows.2 r hr
      · rw [List.mem_singleton.mp hr]
        exact hrow
    · cases h
  | ord =>
    have e : addT n ⟨.ord, rows⟩ d = (if pairB n d = true then (if ringL n (warsh n (initR (rows ++ [intsOf d]))) = [] then .ok ⟨.ord, closedL n (rows ++ [intsOf d])⟩ else .ring (ringL n (warsh n (initR (rows ++ [intsOf d]))))) else .pair) := rfl
    rw [e] at h
    split at h
    · split at h
      · rename_i hr
        injection h with h
        subst h
        refine ⟨good_ord h4 hr, ?_⟩
        have h3 := length_pairsOf n (warsh n (initR (rows ++ [intsOf d])))
        have h5 : n * n ≤ 4 * 4 := Nat.mul_le_mul h4 h4
        show (pairsOf n (warsh n (initR (rows ++ [intsOf d])))).length ≤ 32 + (c + 1)
        omega
      · cases h
    · cases h
  | tst =>
    have e : addT n ⟨.tst, rows⟩ d = (if testB n d = true then .ok ⟨.tst, rows ++ [intsOf d]⟩ else .row) := rfl
    rw [e] at h
    split at h
    · rename_i ht
      injection h with h
      subst h
      unfold testB at ht
      rw [Bool.and_eq_true] at ht
      obtain ⟨hr, hd⟩ := ht
      obtain ⟨p1, p2, p3, p4, p5⟩ := row_parts hr
      have hrow : TestRow n (intsOf d) := ⟨by unfold intsOf; rw [List.length_map]; omega, of_decide_eq_true hd⟩
      have hsm : ∀ x ∈ intsOf d, x.natAbs < 10 ^ 28 := fun x hx => by
        unfold intsOf at hx
        obtain ⟨y, hy, ey⟩ := List.mem_map.mp hx
        rcases (item_small hi p1).1 y hy with ⟨i, e, i0, i1⟩ | e
        · subst e
          subst ey
          exact Nat.lt_of_le_of_lt (show i.natAbs ≤ 4 by omega) (by decide)
        · subst e
          subst ey
          exact (by decide : (0 : Nat) < 10 ^ 28)
      have hlen : (rows ++ [intsOf d]).length = rows.length + 1 := by simp
      refine ⟨⟨⟨by show (rows ++ [intsOf d]).length < 90; omega, fun r hr => ?_⟩, (fun z => nomatch z), fun _ r hr => ?_⟩, by show (rows ++ [intsOf d]).length ≤ 32 + (c + 1); omega⟩
      · rcases List.mem_append.mp hr with hr | hr
        · exact hg.rows.2 r hr
        · rw [List.mem_singleton.mp hr]
          exact hrow
      · rcases List.mem_append.mp hr with hr | hr
        · exact hg.sm rfl r hr
        · rw [List.mem_singleton.mp hr]
          exact hsm
    · cases h
theorem chg_ok {n c : Nat} {st st' : State} {dm : Deed} (h2 : 2 ≤ n) (h4 : n ≤ 4) (hc : c ≤ 50) (hs : StG n c st) (hok : DeedOk n st dm) (h : chg n st dm = .done st') : StG n (c + 1) st' := by
  have hs1 := hs.mono (Nat.le_succ c)
  cases dm with
  | undo => cases h
  | put x t =>
    cases hl : st.lookup x with
    | some t0 => simp only [chg, hl] at h; cases h
    | none =>
      simp only [chg, hl] at h
      injection h with h
      subst h
      exact stG_new hs1 (lookup_none hl) hok.2.1 (by have := hok.2.2; omega) hok.1
  | drop x =>
    cases hl : st.lookup x with
    | none => simp only [chg, hl] at h; cases h
    | some t0 =>
      simp only [chg, hl] at h
      injection h with h
      subst h
      exact stG_drop hs1
  | ren x y =>
    cases hl : st.lookup x with
    | none => simp only [chg, hl] at h; cases h
    | some t0 =>
      cases hl2 : st.lookup y with
      | some t2 => simp only [chg, hl, hl2] at h; cases h
      | none =>
        simp only [chg, hl, hl2] at h
        injection h with h
        subst h
        have hm := hs1.1 (x, t0) (PySem.mem_of_lookup hl)
        exact stG_new (stG_drop hs1) (drop_sub (lookup_none hl2)) hm.1 hm.2.1 hok.2
  | add x u d =>
    cases hl : st.lookup x with
    | none => simp only [chg, hl] at h; cases h
    | some t =>
      have hm := hs.1 (x, t) (PySem.mem_of_lookup hl)
      cases ha : addT n t d with
      | ok t' =>
        simp only [chg, hl, ha] at h
        injection h with h
        subst h
        obtain ⟨g1, g2⟩ := addT_ok h2 h4 hc hm.1 hm.2.1 hok.2.1 ha
        exact stG_set hs1 g1 g2
      | step => simp only [chg, hl, ha] at h; cases h
      | pair => simp only [chg, hl, ha] at h; cases h
      | row => simp only [chg, hl, ha] at h; cases h
      | ring l => simp only [chg, hl, ha] at h; cases h
/-! ### the law's past -/
def LDictAt (G : Hp) (v : V) (st : State) : Prop := ∃ sd kvs, v = .ref sd ∧ G sd = some (.dK kvs) ∧ LPD G kvs st
def LPast (G : Hp) (vs : List V) (sts : List State) : Prop := Paired (LDictAt G) vs sts
def PastAt (G H : Hp) (pl : Addr) (sts : List State) : Prop := ∃ vs, H pl = some (.lst vs) ∧ LPast G vs sts
theorem LDictAt.mono {G G' : Hp} {v : V} {st : State} (s : Same G G') (h : LDictAt G v st) : LDictAt G' v st := by
  obtain ⟨sd, kvs, e, h1, h2⟩ := h
  exact ⟨sd, kvs, e, s _ _ h1, h2.mono s⟩
theorem LPast.mono {G G' : Hp} {vs : List V} {sts : List State} (s : Same G G') (h : LPast G vs sts) : LPast G' vs sts := Paired.mapP h fun p q z => z.mono s
theorem PastAt.mono {G G' H H' : Hp} {pl : Addr} {sts : List State} (s : Same G G') (k : ∀ o, H pl = some o → H' pl = some o) (h : PastAt G H pl sts) : PastAt G' H' pl sts := by
  obtain ⟨vs, h1, h2⟩ := h
  exact ⟨vs, k _ h1, h2.mono s⟩
end K57
/-! L19 -/
namespace K57
open PySem PySem.Spec PyProof.Rows L2 He
/-- a deed lies apart from what is written at pl -/
def Apart (pl : Addr) (dv : V) (dm : Deed) : Prop := dv ≠ .ref pl ∧ ∀ x u ds, dm = .add x u (.list ds) → u ≠ .ref pl
theorem dq_put {H : Hp} {pl : Addr} {o : HO} {u : V} {d : PyData} (hi : ItemD d) (hn : ∀ xs, H pl ≠ some (.tup xs)) (hu : ∀ ds, d = .list ds → u ≠ .ref pl) (h : Dq H u d) : Dq (upd H pl o) u d := by
  have kt : ∀ b xs, H b = some (.tup xs) → upd H pl o b = some (.tup xs) := fun b xs e => by
    rw [upd_ne (fun z => hn xs (by rw [← z]; exact e))]
    exact e
  rcases hi with h1 | h1 | h1 | ⟨ns, e, _⟩ | ⟨a, b, e, _⟩ | e
  · subst h1; cases h; exact .non
  · subst h1; cases h; exact .int _
  · subst h1; cases h; exact .str _
  · subst e
    obtain ⟨a, e1, e2⟩ := tupD_ h
    subst e1
    exact Dq.row (kt _ _ e2)
  · subst e
    have hne := hu _ rfl
    obtain ⟨c, xs, e1, e2, e3⟩ := Dq.lst_ h
    subst e1
    have exs : xs = [V.int a, V.int b] := DqAll.of_ints (ns := [a, b]) e3
    subst exs
    exact .lst (by rw [upd_ne (fun z => hne (by rw [z]))]; exact e2) (DqAll.ints [a, b])
  · subst e
    obtain ⟨c, xs, e1, e2, e3⟩ := Dq.tup_ h
    subst e1
    refine .tup (kt _ _ e2) ?_
    cases e3 with
    | cons a1 r1 =>
      cases r1 with
      | cons a2 r2 =>
        cases r2
        cases a1
        cases a2
        exact .cons (.bl true) (.cons (.int 1) .nil)
theorem ldeed_put {G H : Hp} {pl : Addr} {o : HO} {dv : V} {dm : Deed} {n : Nat} {st : State} (ap : Apart pl dv dm) (hok : DeedOk n st dm) (hn : ∀ xs, H pl ≠ some (.tup xs)) (h : LDeedG G H dv dm) : LDeedG G (upd H pl o) dv dm := by
  have k : ∀ {p : Addr} {z : HO}, dv = .ref p → H p = some z → upd H pl o p = some z := fun {p z} e1 e => by
    rw [upd_ne (fun q => ap.1 (by rw [e1, q]))]
    exact e
  cases dm with
  | put x t =>
    obtain ⟨p, u, e, h1, h2⟩ := h
    exact ⟨p, u, e, k e h1, h2⟩
  | add x u d =>
    obtain ⟨p, e, h1, h2⟩ := h
    exact ⟨p, e, k e h1, dq_put hok.2.1 hn (fun ds z => ap.2 x u ds (by rw [z])) h2⟩
  | drop x =>
    obtain ⟨p, e, h1⟩ := h
    exact ⟨p, e, k e h1⟩
  | ren x y =>
    obtain ⟨p, e, h1⟩ := h
    exact ⟨p, e, k e h1⟩
  | undo =>
    obtain ⟨p, e, h1⟩ := h
    exact ⟨p, e, k e h1⟩
theorem told_err {K : PySem.W.Frag} {M : List Addr} {G H : Hp} {b : Addr} {n : Nat} {sts : List State} {st : State} {d : PyData} {Q : VK} {r : ChR} (hr : ∀ st', r ≠ .done st') (h : ∀ v H1, Same H H1 → Dq H1 v (chD d r) → Q v H1) : ToldOk K M G H b n sts st d Q r := by
  cases r with
  | done st' => exact absurd rfl (hr st')
  | taken x => exact h
  | unknown x => exact h
  | bad r => exact h
theorem chv_err {G H0 H : Hp} {v : V} {d : PyData} {r : ChR} (hr : ∀ st', r ≠ .done st') (h : ChV G H0 H v d r) : ErrV H v (chD d r) := by
  cases r with
  | done st' => exact absurd rfl (hr st')
  | taken x => exact h
  | unknown x => exact h
  | bad r => exact h
theorem deed_head {G H : Hp} {dv : V} {dm : Deed} (hu : dm ≠ .undo) (h : LDeedG G H dv dm) : ∃ p s rest, dv = .ref p ∧ H p = some (.lst (.str s :: rest)) ∧ s ≠ Str.ofString "undo" := by
  cases dm with
  | undo => exact absurd rfl hu
  | put x t =>
    obtain ⟨p, u, e, h1, h2⟩ := h
    exact ⟨p, _, _, e, h1, by decide +kernel⟩
  | add x u d =>
    obtain ⟨p, e, h1, h2⟩ := h
    exact ⟨p, _, _, e, h1, by decide +kernel⟩
  | drop x =>
    obtain ⟨p, e, h1⟩ := h
    exact ⟨p, _, _, e, h1, by decide +kernel⟩
  | ren x y =>
    obtain ⟨p, e, h1⟩ := h
    exact ⟨p, _, _, e, h1, by decide +kernel⟩
section
variable {P : Program} {w : World} {K : PySem.W.Frag} {mg : Str → Option Value} {base : Heap}
def spLStep (K : PySem.W.Frag) : Sp := fun vs H Q _ => ∃ (b pl : Addr) (n c : Nat) (dv : V) (G : Hp) (sts : List State) (st : State) (dm : Deed) (M : List Addr), vs = [.ref b, .int n, .ref pl, dv] ∧ 2 ≤ n ∧ n ≤ 4 ∧ Same G H ∧ BSt K G H b n sts st ∧ PastAt G H pl (sts ++ [st]) ∧ StOk n c (sts ++ [st]) ∧ c ≤ 40 ∧ LDeedG G H dv dm ∧ DeedOk n st dm ∧
  Apart pl dv dm ∧ b ∈ M ∧ pl ∈ M ∧ (∀ m ∈ M, H m ≠ none) ∧ G b = none ∧ G pl = none ∧ (∀ x u ds, dm = .add x u (.list ds) → ∃ a, u = .ref a ∧ a ∈ M ∧ G a = none) ∧
  ∀ G2 H2 sts2 st2, Go M G H G2 H2 → BSt K G2 H2 b n sts2 st2 → PastAt G2 H2 pl (sts2 ++ [st2]) → StOk n (c + 1) (sts2 ++ [st2]) → Q (.bl true) H2
theorem bst_ins {G H : Hp} {b : Addr} {n : Nat} {sts : List State} {st : State} (h : BSt K G H b n sts st) : ∃ dx fs, H b = some (.ins (ga K "Bench") dx fs) := by
  obtain ⟨th, pa, vs, kvs, ⟨dx, h1⟩, _⟩ := h.ex
  exact ⟨dx, _, h1⟩
theorem sc_law_step : FnScope ["_law_bench", "_law_many", "_law_past", "_law_deed_here", "_law_due", "_law_found"] ["_law_bench", "_law_many", "_law_past", "_law_deed_here"] (defScope sLawStep) := ⟨rfl, rfl, rfl, by decide +kernel, rfl, by decide +kernel, by decide +kernel⟩
theorem ok_law_step (T : Txt K mg) : FnG P w K mg base CX0 10 (ga K "_law_step") (fdAt K (ga K "_law_step")) ["_law_bench", "_law_many", "_law_past", "_law_deed_here"] (spLStep K) := by
  refine okG T.f_law_step sc_law_step (fun vs H Q E h => ?_) (fun cdv A outer s H vs Q E hG hcd hr h => ?_)
  · obtain ⟨b, pl, n, c, dv, G, sts, st, dm, M, rfl, _⟩ := h
    rfl
  obtain ⟨b, pl, n, c, dv, G, sts, st, dm, M, rfl, h1, h2, sG, hS, hP, hok, hc, hdm, hdk, ap, hbM, hpM, hlive, hGb, hGp, hit, q⟩ := h
  refine ⟨_, PSs.nox (pss_cons (ps_if (pt_cmpR op_eq (pe_ix ix_list (pv 3) pe_int (fun _ _ => rfl)) pe_str (nomark _)) (pss_cons (ps_set (i := 4) sc_law_step.nd rfl (Or.inl rfl) (pe_ifExp (pt_cmpR op_eq (b_len call_len_seq T (pa_cons (pv 2) pa_nil)) pe_int (nomark _)) (pe_lst (pa_cons pe_str (pa_cons pe_bl pa_nil))) (pe_lst (pa_cons pe_str (pa_cons pe_non pa_nil)))))
    (pss_cons (ps_if (pt_cmpR op_gt (b_len call_len_seq T (pa_cons (pv 2) pa_nil)) pe_int (nomark _)) (pss_one (ps_expr (pe_bm0 PySem.F.plainAttrs_list PySem.F.slot_list_pop PySem.F.type_list_pop mt_pop (pv 2)))) pss_nil)
    (pss_one (ps_ret (pe_cmpR (op_eqD hr.units) (c_law_told T (hr.mono (by decide)) (pa_cons (pv 0) (pa_cons (pv 1) (pa_cons (pv 3) pa_nil)))) (pv 4) (nomark _)))))) pss_nil)
    (pss_cons (ps_set (i := 5) sc_law_step.nd rfl (Or.inl rfl) (c_law_changed T (hr.mono (by decide)) (pa_cons (pv 1) (pa_cons (pe_ix ix_list (pv 2) (pe_un un_neg pe_int) (fun _ _ => rfl)) (pa_cons (pv 3) pa_nil)))))
    (pss_cons (ps_if (pt_cmpR op_eq (pe_ix ix_list (pv 5) pe_int (fun _ _ => rfl)) pe_str (nomark _)) (pss_cons (ps_expr (pe_bm PySem.F.plainAttrs_list PySem.F.slot_list_append PySem.F.type_list_append mt_append (pv 2) (pa_cons (pe_ix ix_list (pv 5) pe_int (fun _ _ => rfl)) pa_nil)))
    (pss_one (ps_ret (pe_cmpR (op_eqD hr.units) (c_law_told T (hr.mono (by decide)) (pa_cons (pv 0) (pa_cons (pv 1) (pa_cons (pv 3) pa_nil)))) (pe_lst (pa_cons pe_str (pa_cons pe_non pa_nil))) (nomark _))))) pss_nil)
    (pss_one (ps_ret (pe_cmpR op_eq (b_repr (call_reprD hG hr.units) T (pa_cons (c_law_told T (hr.mono (by decide)) (pa_cons (pv 0) (pa_cons (pv 1) (pa_cons (pv 3) pa_nil)))) pa_nil)) (b_repr (call_reprD hG hr.units) T (pa_cons (pv 5) pa_nil)) (nomark _))))))), ?_⟩
  obtain ⟨pvs, hpl, hpp⟩ := hP
  obtain ⟨bdx, bfs, hbi⟩ := bst_ins hS
  have hbp : b ≠ pl := fun z => by rw [z, hpl] at hbi; cases hbi
  have hlen : pvs.length = sts.length + 1 := by
    have := Paired.length hpp
    rw [this, List.length_append] <;> rfl
  have hst := hok.all st (List.mem_append_right _ (List.mem_singleton.mpr rfl))
  have hl6 := hst.len6
  have hsl : sts.length < 900 := by
    have := hok.len
    rw [List.length_append, List.length_singleton] at this
    omega
  have hgood : ∀ p ∈ st, Good n p.2 := fun p hp => (hst.1 p hp).1
  -- what told is given to change
  obtain ⟨M', hM'⟩ : ∃ M', M' = M.filter fun m => decide (m ≠ pl) := ⟨_, rfl⟩
  have hbM' : b ∈ M' := by rw [hM']; exact List.mem_filter.mpr ⟨hbM, by simp [hbp]⟩
  have hpM' : pl ∉ M' := by rw [hM']; simp
  have hsub : ∀ m ∈ M', m ∈ M := fun m hm => by rw [hM'] at hm; exact (List.mem_filter.mp hm).1
  have hit' : ∀ x u ds, dm = .add x u (.list ds) → ∃ a, u = .ref a ∧ a ∈ M' ∧ G a = none := fun x u ds e => by
    obtain ⟨a, e1, e2, e3⟩ := hit x u ds e
    refine ⟨a, e1, ?_, e3⟩
    rw [hM']
    exact List.mem_filter.mpr ⟨e2, by simpa using fun z => ap.2 x u ds e (by rw [e1, z])⟩
  have nT : ∀ xs, H pl ≠ some (.tup xs) := fun xs z => by rw [hpl] at z; cases z
  have hnone : ∀ {m : Addr}, H m = none → m ∉ M := fun hm z => hlive _ z hm
  have hnone' : ∀ {m : Addr}, H m = none → m ∉ M' := fun hm z => hnone hm (hsub _ z)
  by_cases hu : dm = .undo
  · subst hu
    obtain ⟨p, rfl, hp⟩ := id hdm
    have at0 : atI [V.str (Str.ofString "undo")] 0 = some (V.str (Str.ofString "undo")) := atI_nat (j := 0) rfl
    refine ⟨_, rfl, p, _, _, _, rfl, rfl, SqL.of hp, at0, rfl, _, rfl, iteT' rfl ?_⟩
    refine ⟨_, rfl, pl, _, rfl, .inl (SqL.of hpl), rfl, _, rfl, ?_⟩
    rcases snoc_cases sts with e | ⟨sts', st', e⟩
    · subst e
      have hl1 : pvs.length = 1 := hlen
      refine iteT' (decide_eq_true (by rw [hl1] <;> rfl)) ⟨by show 2 ≤ sizeLine; decide, fun dl ndl => ?_⟩
      have sd := same_new (o := .lst [.str (Str.ofString "none"), .bl true]) ndl
      refine ⟨_, rfl, pl, _, rfl, .inl (SqL.of (sd _ _ hpl)), _, _, rfl, rfl, _, rfl, iteF' (decide_eq_false (by omega)) ?_⟩
      refine ⟨_, rfl, _, rfl, _, rfl, b, n, _, G, [], st, .undo, M', rfl, h1, h2, hS.mono (Same.refl G) (fun o e => sd _ _ e), sG.trans sd, hGb, hdm.mono (Same.refl G) sd, hdk, hgood, hst.2, by decide, by omega, hbM', hit', fun z => absurd rfl z, fun _ => ⟨fun _ v H1 s1 hv => ?_, fun sts' st' e => ?_⟩⟩
      · have s2 := sd.trans s1
        have ed : Dq H1 (.ref dl) (.list [.str (Str.ofString "none"), .bool true]) := .lst (s1 _ _ upd_same) (.cons (.str _) (.cons (.bl true) .nil))
        refine ⟨_, rfl, _, _, hv.dp, ed.dp, by decide +kernel, by decide +kernel, ?_⟩
        have e1 : PyData.eqv (.list [.str (Str.ofString "none"), .bool true]) (.list [.str (Str.ofString "none"), .bool true]) = true := by decide +kernel
        rw [e1]
        exact q G H1 [] st (Same.go sG s2) (hS.mono (Same.refl G) fun o e => s2 _ _ e) ⟨pvs, s2 _ _ hpl, hpp⟩ (hok.mono (Nat.le_succ c))
      · have := congrArg List.length e
        simp at this
    · subst e
      obtain ⟨pvs', v, ep, hp1, hp2⟩ := Paired.unsnoc hpp
      subst ep
      have hl2 : (pvs' ++ [v]).length = sts'.length + 2 := by rw [hlen, List.length_append] <;> rfl
      have hl3 : ((pvs' ++ [v]).length : Int) ≠ 1 := by omega
      refine iteF' (decide_eq_false fun z => hl3 (V.int.inj z)) ⟨by show 2 ≤ sizeLine; decide, fun dl ndl => ?_⟩
      have sd := same_new (o := .lst [.str (Str.ofString "done"), .non]) ndl
      have dpl : dl ≠ pl := fun z => by rw [z, hpl] at ndl; cases ndl
      refine ⟨_, rfl, pl, _, rfl, .inl (SqL.of (sd _ _ hpl)), _, _, rfl, rfl, _, rfl, iteT' (decide_eq_true (by omega)) ?_⟩
      refine ⟨_, rfl, .inl ⟨rfl, _, SqL.of (sd _ _ hpl)⟩, pl, _, v, rfl, rfl, sd _ _ hpl, by simp, ?_⟩
      rw [List.dropLast_concat]
      have g1 : Go M G H G (upd (upd H dl (.lst [.str (Str.ofString "done"), .non])) pl (.lst pvs')) := (Same.go sG sd).put (.inl hpM) hGp
      have hd1 : LDeedG G (upd (upd H dl (.lst [.str (Str.ofString "done"), .non])) pl (.lst pvs')) (.ref p) .undo := ldeed_put (n := n) (st := st) ap hdk (fun xs z => by rw [sd _ _ hpl] at z; cases z) (hdm.mono (Same.refl G) sd)
      refine ⟨_, rfl, _, rfl, _, rfl, b, n, _, G, sts' ++ [st'], st, .undo, M', rfl, h1, h2, hS.mono (Same.refl G) (fun o e => by rw [upd_ne hbp]; exact sd _ _ e), g1.on, hGb, hd1, hdk, hgood, hst.2, hsl, by omega, hbM', hit', fun z => absurd rfl z, fun _ => ⟨fun z => ?_, fun sts2 st2 e v2 G2 H2 g2 hS2 hv => ?_⟩⟩
      · simp at z
      · obtain ⟨e1, e2⟩ := List.append_inj' e rfl
        subst e1
        have e2 : st2 = st' := by injection e2 with e2; exact e2.symm
        subst e2
        have edl : H2 dl = some (.lst [.str (Str.ofString "done"), .non]) := g2.keep dl _ (hnone' ndl) (by rw [upd_ne dpl, upd_same])
        have ed : Dq H2 (.ref dl) (.list [.str (Str.ofString "done"), .none]) := .lst edl (.cons (.str _) (.cons .non .nil))
        refine ⟨_, rfl, _, _, hv.dp, ed.dp, by decide +kernel, by decide +kernel, ?_⟩
        have e1 : PyData.eqv (.list [.str (Str.ofString "done"), .none]) (.list [.str (Str.ofString "done"), .none]) = true := by decide +kernel
        rw [e1]
        refine q G2 H2 _ _ (g1.then (g2.mono hsub)) hS2 ⟨pvs', g2.keep pl _ hpM' upd_same, LPast.mono g2.sub hp1⟩ ⟨fun x hx => (hok.all x (List.mem_append_left _ hx)).mono (Nat.le_succ c), ?_⟩
        have := hok.len
        rw [List.length_append, List.length_singleton] at this
        omega
  · obtain ⟨p, hs0, rest, rfl, hp, hsu⟩ := deed_head hu hdm
    have at0 : atI (V.str hs0 :: rest) 0 = some (V.str hs0) := atI_nat (j := 0) rfl
    refine ⟨_, rfl, p, _, _, _, rfl, rfl, SqL.of hp, at0, rfl, _, rfl, iteF' (decide_eq_false fun z => hsu (V.str.inj z)) ?_⟩
    obtain ⟨pvs', v, ep, hp1, sd, kvs, rfl, hsd, hlpd⟩ := Paired.unsnoc hpp
    subst ep
    refine ⟨_, rfl, _, rfl, _, rfl, pl, _, _, _, rfl, rfl, SqL.of hpl, atI_last _ _, _, rfl, ?_⟩
    refine ⟨n, sd, _, kvs, st, dm, G, rfl, h1, h2, sG, sG _ _ hsd, hlpd, by omega, hgood, hdm, hdk, hu, fun fv H1 s1 hch => ?_⟩
    have hpl1 := s1 _ _ hpl
    by_cases hdn : ∃ st', chg n st dm = .done st'
    · obtain ⟨st', hc1⟩ := hdn
      rw [hc1] at hch
      obtain ⟨fp, sd2, kvs2, rfl, hfp, nsd2, hsd2, hL2⟩ := hch
      have at0 : atI [V.str (Str.ofString "done"), V.ref sd2] 0 = some (V.str (Str.ofString "done")) := atI_nat (j := 0) rfl
      have at1 : atI [V.str (Str.ofString "done"), V.ref sd2] 1 = some (V.ref sd2) := atI_nat (j := 1) rfl
      have g1 : Go M G H (fzt G H H1) H1 := Go.fzt sG s1
      have hGp1 : fzt G H H1 pl = none := g1.off hGp hpl
      have hGb1 : fzt G H H1 b = none := g1.off hGb hbi
      have g2 : Go M G H (fzt G H H1) (upd H1 pl (.lst (pvs' ++ [.ref sd] ++ [.ref sd2]))) := g1.put (.inl hpM) hGp1
      refine ⟨_, rfl, fp, _, _, _, rfl, rfl, SqL.of hfp, at0, rfl, _, rfl, iteT' rfl ?_⟩
      refine ⟨_, rfl, .inl ⟨rfl, _, SqL.of hpl1⟩, _, rfl, fp, _, _, _, rfl, rfl, SqL.of hfp, at1, pl, _, _, rfl, rfl, hpl1, Nat.lt_of_le_of_lt (show (pvs' ++ [V.ref sd]).length ≤ 1000 by omega) (by decide), ?_⟩
      have hd1 : LDeedG (fzt G H H1) (upd H1 pl (.lst (pvs' ++ [.ref sd] ++ [.ref sd2]))) (.ref p) dm := ldeed_put ap hdk (fun xs z => by rw [hpl1] at z; cases z) (hdm.mono g1.sub s1)
      have hit1 : ∀ x u ds, dm = .add x u (.list ds) → ∃ a, u = .ref a ∧ a ∈ M' ∧ fzt G H H1 a = none := fun x u ds e => by
        obtain ⟨a, e1, e2, e3⟩ := hit' x u ds e
        subst e
        obtain ⟨_, _, _, hdd⟩ := hdm
        obtain ⟨a', xs, e4, h4, _⟩ := Dq.lst_ hdd
        rw [e1] at e4
        cases e4
        exact ⟨a, e1, e2, g1.off e3 h4⟩
      refine ⟨_, rfl, _, rfl, _, rfl, b, n, _, fzt G H H1, sts, st, dm, M', rfl, h1, h2, hS.mono g1.sub (fun o e => by rw [upd_ne hbp]; exact s1 _ _ e), g2.on, hGb1, hd1, hdk, hgood, hst.2, hsl, by omega, hbM', hit1, fun _ => ?_, fun z => absurd z hu⟩
      rw [hc1]
      intro v3 G3 H3 g3 hS3 hv3
      refine ⟨by show 2 ≤ sizeLine; decide, fun z nz => ?_⟩
      have sz := same_new (o := .lst [.str (Str.ofString "done"), .non]) nz
      have ed : Dq (upd H3 z (.lst [.str (Str.ofString "done"), .non])) (.ref z) (.list [.str (Str.ofString "done"), .none]) := .lst upd_same (.cons (.str _) (.cons .non .nil))
      refine ⟨_, _, (hv3.mono sz).dp, ed.dp, by decide +kernel, by decide +kernel, ?_⟩
      have e1 : PyData.eqv (.list [.str (Str.ofString "done"), .none]) (.list [.str (Str.ofString "done"), .none]) = true := by decide +kernel
      rw [e1]
      have g4 := (g2.then (g3.mono hsub)).same sz
      refine q G3 _ (sts ++ [st]) st' g4 (hS3.mono (Same.refl G3) fun o e => sz _ _ e) ⟨_, sz _ _ (g3.keep pl _ hpM' upd_same), ?_⟩ ⟨fun x hx => ?_, ?_⟩
      · exact Paired.snoc (hpp.mono (g1.sub.trans g3.sub)) ⟨sd2, kvs2, rfl, g3.sub _ _ (fzt_new nsd2 hsd2), hL2.mono g3.sub⟩
      · rcases List.mem_append.mp hx with hx | hx
        · exact (hok.all x hx).mono (Nat.le_succ c)
        · rw [List.mem_singleton.mp hx]
          exact chg_ok h1 h2 (by omega) hst hdk hc1
      · have := hok.len
        rw [List.length_append, List.length_singleton]
        omega
    · have hne : ∀ st', chg n st dm ≠ .done st' := fun st' z => hdn ⟨st', z⟩
      obtain ⟨hfd, fp, fs, fu, rfl, hfp, hfs⟩ := chv_err hne hch
      have at0 : atI [V.str fs, fu] 0 = some (V.str fs) := atI_nat (j := 0) rfl
      have hsh := chg_shown h2 hdk hu hne
      refine ⟨_, rfl, fp, _, _, _, rfl, rfl, SqL.of hfp, at0, rfl, _, rfl, iteF' (decide_eq_false fun z => hfs (V.str.inj z)) ?_⟩
      refine ⟨_, rfl, _, rfl, _, rfl, b, n, _, G, sts, st, dm, M', rfl, h1, h2, hS.mono (Same.refl G) (fun o e => s1 _ _ e), sG.trans s1, hGb, hdm.mono (Same.refl G) s1, hdk, hgood, hst.2, hsl, by omega, hbM', hit', fun _ => told_err hne fun v H2 s2 hv => ?_, fun z => absurd z hu⟩
      have s12 := s1.trans s2
      refine ⟨v, _, rfl, hv.dp, hsh, _, rfl, _, _, rfl, (hfd.mono s2).dp, hsh, rfl, ?_⟩
      rw [decide_eq_true rfl]
      exact q G H2 sts st (Same.go sG s12) (hS.mono (Same.refl G) fun o e => s12 _ _ e) ⟨_, s12 _ _ hpl, hpp⟩ (hok.mono (Nat.le_succ c))
theorem bd_law_step {K : PySem.W.Frag} {mg : Str → Option Value} (T : Txt K mg) : Binds K (fdAt K (ga K "_law_step")) ["_law_bench", "_law_many", "_law_past", "_law_deed_here"] [] := T.f_law_step.bindsN fun _ _ _ _ _ _ us hl => match us, hl with | [_, _, _, _], _ => rfl
theorem c_law_step {X : Cx} {e : Expr} {es : List Expr} {t : TA} {p pos : Pos} (T : Txt X.K X.mg) (hG : X.A.guards = some []) (hr : Room 10 X.A) (ha : PA X (e :: es) t) (hg : Gl X "_law_step" := by rfl) (he : starEach (e :: es) X.env = (false, eval e X.env) :: starEach es X.env := by rfl) (hpl : (backTo pos (starEach es X.env)).any (·.1) = false := by rfl) :
    PE X (.Call (.Name "_law_step" p) (e :: es) [] pos) (tCall ((spLStep X.K)) [] E0 t) := pe_callG (ok_law_step T) hG hr hg T.g_law_step T.f_law_step.kp (bd_law_step T) .nil pass0 ha (by decide) he hpl
end
end K57
/-! S2 -/
/-! for the look at the bench -/
namespace K57
open PySem PySem.Spec PyProof.Rows L2 He
theorem le_tr {a b c : List Nat} (h1 : ltCps b a = false) (h2 : ltCps c b = false) : ltCps c a = false := by
  rw [ltCps_eq, decide_eq_false_iff_not] at *
  exact List.le_trans (α := Nat) h1 h2
theorem pw_rising : ∀ (p : Str) (l : List Str), risingS p l = true → (p :: l).Pairwise (fun a b => ltCps b.cps.toList a.cps.toList = false)
  | p, [], _ => List.pairwise_singleton _ _
  | p, x :: r, h => by
    have h' : (!ltCps x.cps.toList p.cps.toList && risingS x r) = true := h
    rw [Bool.and_eq_true, Bool.not_eq_true'] at h'
    have ih := pw_rising x r h'.2
    refine List.pairwise_cons.mpr ⟨fun y hy => ?_, ih⟩
    rcases List.mem_cons.mp hy with e | hy
    · rw [e]
      exact h'.1
    · exact le_tr h'.1 ((List.pairwise_cons.mp ih).1 y hy)
theorem pw_sorted {l : List Str} (h : sortedS l = true) : l.Pairwise (fun a b => ltCps b.cps.toList a.cps.toList = false) := by
  cases l with
  | nil => exact .nil
  | cons x r => exact pw_rising x r h
theorem str_ext {a b : Str} (h : a.cps.toList = b.cps.toList) : a = b := by
  obtain ⟨x⟩ := a
  obtain ⟨y⟩ := b
  exact congrArg Str.mk (Array.toList_inj.mp h)
theorem sorted_eq {l m : List Str} (hl : sortedS l = true) (hm : sortedS m = true) (hp : l.Perm m) : l = m :=
  List.Perm.eq_of_pairwise (fun a b _ _ h1 h2 => str_ext (by
    rw [ltCps_eq, decide_eq_false_iff_not] at h1 h2
    exact List.le_antisymm (α := Nat) h1 h2)) (pw_sorted hl) (pw_sorted hm) hp
theorem names_lay : ∀ ys : List Str, (∀ x ∈ ys, Nm x) → PyData.canLayAll0 (ys.map .str) = true ∧ PyData.depthAll (ys.map .str) = 0
  | [], _ => ⟨rfl, rfl⟩
  | x :: r, h => by
    obtain ⟨h1, h2⟩ := names_lay r fun y hy => h y (List.mem_cons_of_mem _ hy)
    have hx := h x List.mem_cons_self
    have h3 : PyData.canLay0 (.str x) = true := by
      unfold Nm nameL at hx
      simp only [List.mem_cons, List.not_mem_nil, or_false] at hx
      rcases hx with rfl | rfl | rfl | rfl | rfl | rfl <;> decide +kernel
    refine ⟨?_, ?_⟩
    · simp only [List.map_cons, PyData.canLayAll0, h3, h1, Bool.and_self]
    · simp only [List.map_cons, PyData.depthAll, PyData.depth, h2, Nat.max_self]
theorem names_shaped {ys : List Str} (h : ∀ x ∈ ys, Nm x) : SeqAt.shaped (.list (ys.map .str)) = true := by
  obtain ⟨h1, h2⟩ := names_lay ys h
  unfold SeqAt.shaped
  have e1 : PyData.canLay0 (.list (ys.map .str)) = true := by simpa only [PyData.canLay0] using h1
  have e2 : PyData.depth (.list (ys.map .str)) = 1 := by simp only [PyData.depth, h2]
  rw [e1, e2]
  rfl
theorem eqv_same {d : PyData} (h : SeqAt.shaped d = true) : PyData.eqv d d = true := SeqAt.eqv_refl d (SeqAt.canLay_of_shaped h)
theorem DqAll.strs {H : Hp} : ∀ ys : List Str, DqAll H (ys.map V.str) (ys.map PyData.str)
  | [] => .nil
  | x :: r => .cons (.str x) (DqAll.strs r)
theorem look_at : ∀ {st : State} {i : Nat} {x : Str} {t : Thing}, (st.map (·.1)).Nodup → st[i]? = some (x, t) → st.lookup x = some t
  | [], _, _, _, _, e => by simp at e
  | (y, u) :: r, 0, x, t, _, e => by
    simp at e
    obtain ⟨rfl, rfl⟩ := e
    simp [List.lookup]
  | (y, u) :: r, i + 1, x, t, nd, e => by
    have e' : r[i]? = some (x, t) := by simpa using e
    have nd' : y ∉ r.map (·.1) ∧ (r.map (·.1)).Nodup := List.nodup_cons.mp nd
    have hne : (x == y) = false := beq_eq_false_iff_ne.mpr fun z => nd'.1 (z ▸ List.mem_map.mpr ⟨(x, t), List.mem_of_getElem? e', rfl⟩)
    simp only [List.lookup, hne]
    exact look_at nd'.2 e'
section
variable {X : Cx}
theorem op_or {f : Value → Value → Sem Value} {r1 r2 : R2} (h1 : OpR X f r1) (h2 : OpR X f r2) : OpR X f (fun x y H Q => r1 x y H Q ∨ r2 x y H Q) := fun pins s σ H x y v u Q I rx ry h => h.elim (h1 pins s σ H x y v u Q I rx ry) (h2 pins s σ H x y v u Q I rx ry)
theorem be_Network {K : PySem.W.Frag} {mg : Str → Option Value} (T : Txt K mg) : L2.Binds K (fdAt K (ma K (ga K "Network") "__eq__")) ["self", "other"] [] := T.f_Network_eq.bindsN fun _ _ _ _ _ _ us hl => match us, hl with | [_, _], _ => rfl
theorem be_Order {K : PySem.W.Frag} {mg : Str → Option Value} (T : Txt K mg) : L2.Binds K (fdAt K (ma K (ga K "Order") "__eq__")) ["self", "other"] [] := T.f_Order_eq.bindsN fun _ _ _ _ _ _ us hl => match us, hl with | [_, _], _ => rfl
theorem bn_len {K : PySem.W.Frag} {mg : Str → Option Value} (T : Txt K mg) : L2.Binds K (fdAt K (ma K (ga K "Bench") "__len__")) ["self"] [] := T.f_Bench_len.bindsN fun _ _ _ _ _ _ us hl => match us, hl with | [_], _ => rfl
theorem bn_in {K : PySem.W.Frag} {mg : Str → Option Value} (T : Txt K mg) : L2.Binds K (fdAt K (ma K (ga K "Bench") "__contains__")) ["self", "value"] [] := T.f_Bench_contains.bindsN fun _ _ _ _ _ _ us hl => match us, hl with | [_, _], _ => rfl
theorem bn_get {K : PySem.W.Frag} {mg : Str → Option Value} (T : Txt K mg) : L2.Binds K (fdAt K (ma K (ga K "Bench") "__getitem__")) ["self", "name"] [] := T.f_Bench_getitem.bindsN fun _ _ _ _ _ _ us hl => match us, hl with | [_, _], _ => rfl
theorem bn_size {K : PySem.W.Frag} {mg : Str → Option Value} (T : Txt K mg) : L2.Binds K (fdAt K (pAd K "Bench" "size")) ["self"] [] := T.f_Bench_size.bindsN fun _ _ _ _ _ _ us hl => match us, hl with | [_], _ => rfl
theorem bn_deeds {K : PySem.W.Frag} {mg : Str → Option Value} (T : Txt K mg) : L2.Binds K (fdAt K (pAd K "Bench" "deeds")) ["self"] [] := T.f_Bench_deeds.bindsN fun _ _ _ _ _ _ us hl => match us, hl with | [_], _ => rfl
theorem call_lenB (T : Txt X.K X.mg) (hr : Room 2 X.A) : CallR X (.builtin "len") (rLenOwn (ga X.K "Bench") (spBLen X.K)) := call_lenOwn T.m_Bench___len__ (ok_Bench_len T) (bn_len T) hr
theorem op_ninB (T : Txt X.K X.mg) (hr : Room 1 X.A) : OpR X (compareOp .NotIn) (rInOwn (ga X.K "Bench") (spBIn X.K) not) := op_ninOwn T.m_Bench___contains__ (ok_Bench_contains T) (bn_in T) hr
theorem op_inBK {K : PySem.W.Frag} (T : Txt X.K X.mg) (hr : Room 1 X.A) (h : X.K = K := by rfl) : OpR X (compareOp .In) (rInOwn (ga K "Bench") (spBIn K) id) := by
  subst h
  exact op_inOwn T.m_Bench___contains__ (ok_Bench_contains T) (bn_in T) hr
theorem op_neB (T : Txt X.K X.mg) (hr : Room 2 X.A) : OpR X (compareOp .NotEq) (fun x y H Q => rNeOwn (ga X.K "Network") (spEq (ga X.K "Network") "own_steps") x y H Q ∨ rNeOwn (ga X.K "Order") (spEq (ga X.K "Order") "own_pairs") x y H Q) :=
  op_or (op_neOwn T.ins_Network T.ne_Network T.m_Network___eq__ (ok_Network_eq T) (be_Network T) hr) (op_neOwn T.ins_Order T.ne_Order T.m_Order___eq__ (ok_Order_eq T) (be_Order T) hr)
end
/-- all but what is told at p -/
def delG (G : Hp) (p : Addr) : Hp := fun b => if b = p then none else G b
theorem delG_ne {G : Hp} {p b : Addr} (h : b ≠ p) : delG G p b = G b := if_neg h
theorem delG_keep {G : Hp} {p b : Addr} {kvs : List (Key × V)} {o : HO} (hp : G p = some (.dK kvs)) (e : G b = some o) (ho : ∀ k, o ≠ .dK k) : delG G p b = some o := by
  rw [delG_ne (fun z => by rw [z, hp] at e; cases e; exact ho _ rfl)]
  exact e
theorem DqAll.delG {G : Hp} {p : Addr} {kvs : List (Key × V)} (hp : G p = some (.dK kvs)) {xs : List V} {rows : List (List Int)} (h : DqAll G xs (rows.map tupD)) : DqAll (delG G p) xs (rows.map tupD) := h.rows fun b ys e => delG_keep hp e (fun k z => by cases z)
theorem PT.delG {K : PySem.W.Frag} {G : Hp} {p : Addr} {kvs : List (Key × V)} {n : Nat} {v : V} {t : Thing} (hp : G p = some (.dK kvs)) (h : PT K G n v t) : PT K (delG G p) n v t := by
  obtain ⟨k, rows⟩ := t
  cases k with
  | net =>
    obtain ⟨x, e, hx⟩ := h
    obtain ⟨tu, xs, ⟨dx, h1⟩, h2, h3⟩ := hx.at_
    exact ⟨x, e, tu, xs, ⟨dx, delG_keep hp h1 (fun k z => by cases z)⟩, delG_keep hp h2 (fun k z => by cases z), h3.delG hp⟩
  | ord =>
    obtain ⟨x, e, hx⟩ := h
    obtain ⟨tu, xs, ⟨dx, h1⟩, h2, h3⟩ := hx.at_
    exact ⟨x, e, tu, xs, ⟨dx, delG_keep hp h1 (fun k z => by cases z)⟩, delG_keep hp h2 (fun k z => by cases z), h3.delG hp⟩
  | tst =>
    obtain ⟨tu, xs, e, h1, h2⟩ := h
    exact ⟨tu, xs, e, delG_keep hp h1 (fun k z => by cases z), h2.delG hp⟩
theorem LThing.delG {G : Hp} {p : Addr} {kvs : List (Key × V)} {v : V} {t : Thing} (hp : G p = some (.dK kvs)) (h : LThing G v t) : LThing (delG G p) v t := by
  obtain ⟨q, l, ys, e, h1, h2, h3⟩ := h
  exact ⟨q, l, ys, e, delG_keep hp h1 (fun k z => by cases z), delG_keep hp h2 (fun k z => by cases z), h3.delG hp⟩
/-- what the law holds is not what the bench holds -/
theorem pt_not_law {K : PySem.W.Frag} {G : Hp} {n : Nat} {v : V} {t t' : Thing} (h : PT K G n v t) (h' : LThing G v t') : False := by
  obtain ⟨q, l, ys, e, h1, _, _⟩ := h'
  subst e
  obtain ⟨k, rows⟩ := t
  cases k with
  | net =>
    obtain ⟨x, e, hx⟩ := h
    obtain ⟨tu, xs, ⟨dx, h2⟩, _⟩ := hx.at_
    cases e
    rw [h1] at h2
    cases h2
  | ord =>
    obtain ⟨x, e, hx⟩ := h
    obtain ⟨tu, xs, ⟨dx, h2⟩, _⟩ := hx.at_
    cases e
    rw [h1] at h2
    cases h2
  | tst =>
    obtain ⟨tu, xs, e, h2, _⟩ := h
    cases e
    rw [h1] at h2
    cases h2
end K57
/-! L20 -/
namespace K57
open PySem PySem.Spec PyProof.Rows L2 He
section
variable {P : Program} {w : World} {K : PySem.W.Frag} {mg : Str → Option Value} {base : Heap}
def spLook (K : PySem.W.Frag) : Sp := fun vs H Q _ => ∃ (b pl : Addr) (n c : Nat) (G : Hp) (sts : List State) (st : State), vs = [.ref b, .int n, .ref pl] ∧ 2 ≤ n ∧ n ≤ 4 ∧ Same G H ∧ BSt K G H b n sts st ∧ PastAt G H pl (sts ++ [st]) ∧ StOk n c (sts ++ [st]) ∧ c ≤ 50 ∧ ∀ H1, Same H H1 → Q (.bl true) H1
theorem sc_law_look : FnScope ["_law_bench", "_law_many", "_law_past", "_law_state", "_law_label", "_law_told_here", "_law_odd"] ["_law_bench", "_law_many", "_law_past"] (defScope sLawLook) := ⟨rfl, rfl, rfl, by decide +kernel, rfl, by decide +kernel, by decide +kernel⟩
theorem ok_law_look (T : Txt K mg) : FnG P w K mg base CX0 8 (ga K "_law_look") (fdAt K (ga K "_law_look")) ["_law_bench", "_law_many", "_law_past"] (spLook K) := by
  refine okG T.f_law_look sc_law_look (fun vs H Q E h => ?_) (fun cdv A outer s H vs Q E hG hcd hr h => ?_)
  · obtain ⟨b, pl, n, c, G, sts, st, rfl, _⟩ := h
    rfl
  obtain ⟨b, pl, n, c, G, sts, st, rfl, h1, h2, sG, hS, hP, hok, hc, q⟩ := h
  refine ⟨_, PSs.nox (pss_cons (ps_set (i := 3) sc_law_look.nd rfl (Or.inl rfl) (pe_ix ix_list (pv 2) (pe_un un_neg pe_int) (fun _ _ => rfl)))
    (pss_cons (ps_if (pt_cmpR (op_neD hr.units) (pe_lst (pa_cons (b_len (call_lenB T (hr.mono (by decide))) T (pa_cons (pv 0) pa_nil)) (pa_cons (pe_prop (pv 0) T.ins_Bench.cl T.p_Bench_deeds (ok_Bench_deeds T) (hr.mono (by decide)) (bn_deeds T) .nil pass0 rfl) (pa_cons (pe_prop (pv 0) T.ins_Bench.cl T.p_Bench_size (ok_Bench_size T) (hr.mono (by decide)) (bn_size T) .nil pass0 rfl) pa_nil)))) (pe_lst (pa_cons (b_len call_lenD T (pa_cons (pv 3) pa_nil)) (pa_cons (pe_op op_sub (b_len call_len_seq T (pa_cons (pv 2) pa_nil)) pe_int) (pa_cons (pv 1) pa_nil)))) (nomark _)) (pss_one (ps_ret pe_bl)) pss_nil)
    (pss_cons (ps_if (pt_cmpR (op_neD hr.units) (m_names T (hr.mono (by decide)) (pv 0)) (b_sorted (call_sortedD rfl) T (pa_cons (pv 3) pa_nil)) (nomark _)) (pss_one (ps_ret pe_bl)) pss_nil)
    (pss_cons (ps_lock (ps_for PassesOwn.never rfl (pi_keys (pv 3)) (pg_name (i := 4) sc_law_look.nd rfl (Or.inl rfl)) (pss_cons (ps_if (PW.pt (pw_or (pt_cmpR (op_ninB T (hr.mono (by decide))) (pv 4) (pv 0) (by rfl)) (pw_or1 (pt_cmpR op_ne (m_kind T (hr.mono (by decide)) (pv 0) (pa_cons (pv 4) pa_nil)) (pe_ix ix_list (pe_dget (hu_of hr) (pv 3) (pv 4) (fun _ _ => rfl)) pe_int (fun _ _ => rfl)) (nomark _))))) (pss_one (ps_ret pe_bl)) pss_nil)
    (pss_cons (ps_set (i := 5) sc_law_look.nd rfl (Or.inl rfl) (pe_subOwn T.m_Bench___getitem__ T.fi_getitem (ok_Bench_getitem T) (bn_get T) (hr.mono (by decide)) pass0 (pv 0) (pv 4) (fun _ _ => rfl)))
    (pss_one (ps_if (pt_cmpR op_eq (pe_ix ix_list (pe_dget (hu_of hr) (pv 3) (pv 4) (fun _ _ => rfl)) pe_int (fun _ _ => rfl)) pe_str (nomark _)) (pss_cons (ps_if (pt_cmpR op_ne (b_repr (call_reprD hG hr.units) T (pa_cons (pv 5) pa_nil)) (b_repr (call_reprD hG hr.units) T (pa_cons (pe_ix ix_list (pe_dget (hu_of hr) (pv 3) (pv 4) (fun _ _ => rfl)) pe_int (fun _ _ => rfl)) pa_nil)) (nomark _)) (pss_one (ps_ret pe_bl)) pss_nil)
    (pss_one (ps_expr (pe_bm PySem.F.plainAttrs_list PySem.F.slot_list_append PySem.F.type_list_append mt_append (pv 5) (pa_cons pe_str pa_nil))))) (pss_one (ps_if (pt_cmpR (op_neB T (hr.mono (by decide))) (pv 5) (c_law_made T (hr.mono (by decide)) (pa_cons (pv 1) (pa_cons (pe_dget (hu_of hr) (pv 3) (pv 4) (fun _ _ => rfl)) pa_nil))) (nomark _)) (pss_one (ps_ret pe_bl)) pss_nil))))))))
    (pss_cons (ps_expr (pe_bm PySem.F.plainAttrs_list PySem.F.slot_list_append PySem.F.type_list_append mt_append (m_names T (hr.mono (by decide)) (pv 0)) (pa_cons pe_str pa_nil)))
    (pss_one (ps_ret (pe_cmpR (op_eqD hr.units) (pe_lc (own := [("_law_odd", 6)]) rfl sc_law_look.nd (pi_list (pe_lst (pa_cons pe_str (pa_cons pe_str (pa_cons pe_non (pa_cons pe_int (pa_cons (pe_tup pa_nil) (pa_cons (pe_lst (pa_cons pe_str pa_nil)) (pa_cons pe_str pa_nil))))))))) (blkOk_by (N := ["_law_bench", "_law_many", "_law_past", "_law_state", "_law_label", "_law_told_here", "_law_odd"]) (sc := defScope sLawLook) (by decide +kernel)) (fun _ _ _ _ _ => pg_name (i := 6) sc_law_look.nd rfl (Or.inl rfl)) (fun _ _ _ _ _ => (pts_one (pt_cmpR (op_inBK (K := K) T (hr.mono (by decide))) (pv 6) (pv 0) (by rfl)))) (fun _ _ _ _ _ => (pv 6))) (pe_lst pa_nil) (nomark _))))))))), ?_⟩
  obtain ⟨pvs, hpl, hpp⟩ := hP
  obtain ⟨th, pa, pvB, kvB, ⟨dx, hb⟩, hth, hkv, hpa, hpast⟩ := hS.ex
  have bmn : ∀ {m : Str}, (m == Str.ofString "own_size") = false → (m == Str.ofString "things") = false → (m == Str.ofString "past") = false → List.lookup m (bFs n th pa) = none := fun a b c => bm_none a b c
  have hst := hok.all st (List.mem_append_right _ (List.mem_singleton.mpr rfl))
  have hl6 := hst.len6
  have hsl : sts.length ≤ c := by
    have := hok.len
    rw [List.length_append, List.length_singleton] at this
    omega
  obtain ⟨pvs', v, ep, hp1, sd, kvs, rfl, hsd, hlpd⟩ := Paired.unsnoc hpp
  subst ep
  have hsdH := sG _ _ hsd
  have hthH := sG _ _ hth
  have hpaH := sG _ _ hpa
  have kB : kvB.length = st.length := PDict.length hkv
  have kL : kvs.length = st.length := Paired.length hlpd
  have pB : pvB.length = sts.length := Paired.length hpast
  have pL : pvs'.length = sts.length := Paired.length hp1
  -- state = past[-1]
  refine ⟨_, rfl, _, rfl, pl, _, _, _, rfl, rfl, SqL.of hpl, atI_last _ _, ?_⟩
  -- the numbers
  refine ⟨_, rfl, b, dx, _, rfl, hb, b, _, th, pa, kvB, rfl, ⟨dx, hb⟩, hthH, kvB.length, rfl, Nat.lt_of_le_of_lt (show kvB.length ≤ 6 by omega) (by decide), _, rfl, b, dx, _, rfl, hb, b, _, th, pa, pvB, rfl, ⟨dx, hb⟩, hpaH, _, rfl, b, dx, _, rfl, hb, b, dx, _, _, rfl, hb, b_size, by show 3 ≤ sizeLine; decide, fun l1 nl1 => ?_⟩
  have s1 := same_new (o := .lst [.int kvB.length, .int pvB.length, .int n]) nl1
  refine ⟨_, rfl, sd, kvs, rfl, s1 _ _ hsdH, _, rfl, pl, _, rfl, .inl (SqL.of (s1 _ _ hpl)), _, _, rfl, rfl, _, rfl, by show 3 ≤ sizeLine; decide, fun l2 nl2 => ?_⟩
  have s2 := s1.trans (same_new (o := .lst [.int kvs.length, .int (((pvs' ++ [V.ref sd]).length : Int) - 1), .int n]) nl2)
  refine ⟨_, _, (Dq.lst (same_new nl2 _ _ upd_same) (DqAll.ints [(kvB.length : Int), (pvB.length : Int), (n : Int)])).dp, (Dq.lst upd_same (DqAll.ints [(kvs.length : Int), (((pvs' ++ [V.ref sd]).length : Int) - 1), (n : Int)])).dp, ints_lay _, ints_lay _, _, rfl, ?_⟩
  rw [eqv_lst]
  have eN : ([(kvB.length : Int), (pvB.length : Int), (n : Int)] : List Int) = [(kvs.length : Int), (((pvs' ++ [V.ref sd]).length : Int) - 1), (n : Int)] := by
    rw [List.length_append, List.length_singleton, kB, kL, pB, pL]
    have : (sts.length : Int) = ((sts.length + 1 : Nat) : Int) - 1 := by omega
    rw [this]
  rw [decide_eq_true eN]
  refine iteF' rfl ?_
  -- the names
  have hkeys : ∀ x ∈ st.map (·.1), Nm x := fun x hx => by
    obtain ⟨p, hp, e⟩ := List.mem_map.mp hx
    rw [← e]
    exact (hst.1 p hp).2.2
  have hk64 : (st.map (·.1)).length < 64 := by rw [List.length_map]; omega
  refine ⟨_, rfl, b, dx, _, rfl, s2 _ _ hb, bmn (by decide +kernel) (by decide +kernel) (by decide +kernel), b, _, th, pa, kvB, st.map (·.1), rfl, ⟨dx, s2 _ _ hb⟩, s2 _ _ hthH, hkv.keys, hk64, fun ys p H3 s3 hy sy np hp => ?_⟩
  have s03 := s2.trans s3
  refine ⟨_, rfl, sd, kvs, st.map (·.1), rfl, .of (s03 _ _ hsdH), hlpd.keys, hk64, fun zs p2 hz sz np2 => ?_⟩
  have s4 := same_new (o := .lst (zs.map V.str)) np2
  have s04 := s03.trans s4
  have eyz : ys = zs := sorted_eq sy sz (hy.trans hz.symm)
  subst eyz
  have hnm : ∀ x ∈ ys, Nm x := fun x hx => hkeys x (hy.mem_iff.mp hx)
  have hsh := names_shaped hnm
  refine ⟨_, _, (Dq.lst (s4 _ _ hp) (DqAll.strs ys)).dp, (Dq.lst upd_same (DqAll.strs ys)).dp, hsh, hsh, _, rfl, ?_⟩
  rw [eqv_same hsh]
  refine iteF' rfl ?_
  -- the things
  generalize hH4 : upd H3 p2 (.lst (ys.map V.str)) = H4 at *
  have hsd4 := s04 _ _ hsdH
  have sG4 := sG.trans s04
  clear hy hz sy sz s4 s3 s2 s1 eN hH4
  refine ⟨sd, .dK kvs, hsd4, trivial, fun od => ⟨_, rfl, sd, od, rfl, .inl ⟨kvs, upd_same, ?_⟩⟩⟩
  have frz0 : (upd H4 sd (.frz od (.dK kvs))) sd = some (.frz od (.dK kvs)) := upd_same
  refine for_it walk_keys (fun i σ H' => (∃ o4 o5 o6, σ = [some (.ref b), some (.int n), some (.ref pl), some (.ref sd), o4, o5, o6]) ∧ Same (upd H4 sd (.frz od (.dK kvs))) H') ⟨⟨_, _, _, rfl⟩, Same.refl _⟩ (fun i σ H' _ hP => hP.2 _ _ frz0) ?_ ?_
  · rintro i x σ H0' H' hi ⟨⟨o4, o5, o6, rfl⟩, sl⟩ ⟨eH, k, u, hku, ex⟩
    subst eH
    subst ex
    have hi2 : i < st.length := by omega
    obtain ⟨lab, t, hlt⟩ : ∃ lab t, st[i]? = some (lab, t) := ⟨st[i].1, st[i].2, List.getElem?_eq_getElem hi2⟩
    have hk : k = Sum.inr lab := by
      have e1 := congrArg (fun l => l[i]?) hlpd.keys
      simp only [List.getElem?_map, hku, hlt, Option.map_some] at e1
      exact Option.some.inj e1
    subst hk
    have hlk := look_at hst.2 hlt
    obtain ⟨v, q1, q3⟩ : ∃ v, valV kvs (Sum.inr lab) = some v ∧ LThing G v t := by
      rcases hlpd.look lab with ⟨v, t', e1, e2, e3⟩ | ⟨_, e2⟩
      · rw [hlk] at e2
        cases e2
        exact ⟨v, e1, e3⟩
      · rw [hlk] at e2
        cases e2
    obtain ⟨v', r1, r3⟩ : ∃ v', valV kvB (Sum.inr lab) = some v' ∧ PT K G n v' t := by
      rcases hkv.look lab with ⟨v, t', e1, e2, e3⟩ | ⟨_, e2⟩
      · rw [hlk] at e2
        cases e2
        exact ⟨v, e1, e3⟩
      · rw [hlk] at e2
        cases e2
    have thsd : th ≠ sd := fun z => by
      rw [z, hsd] at hth
      cases hth
      rw [q1] at r1
      cases r1
      exact pt_not_law r3 q3
    have bsd : b ≠ sd := fun z => by rw [z, hsdH] at hb; cases hb
    have kp : ∀ p o, p ≠ sd → H4 p = some o → H' p = some o := fun p o hp e => sl _ _ (by rw [upd_ne hp]; exact e)
    have hb' := kp b _ bsd (s04 _ _ hb)
    have hth' := kp th _ thsd (s04 _ _ hthH)
    have hsd' := sl _ _ frz0
    have sGx : Same (delG G sd) H' := fun p o e => by
      by_cases hp : p = sd
      · unfold delG at e
        rw [if_pos hp] at e
        cases e
      · rw [delG_ne hp] at e
        exact kp p o hp (sG4 _ _ e)
    have pt := r3.delG hsd
    obtain ⟨lp, ll, lys, rfl, e1, e2, e3⟩ := (q3.delG hsd).mono sGx
    have lt : LThing H' (.ref lp) t := ⟨lp, ll, lys, rfl, e1, e2, e3⟩
    have at0 : atI [V.str (kindS t.k), V.ref ll] 0 = some (V.str (kindS t.k)) := atI_nat (j := 0) rfl
    have at1 : atI [V.str (kindS t.k), V.ref ll] 1 = some (V.ref ll) := atI_nat (j := 1) rfl
    have dg : ∀ {Hx : Hp}, Hx sd = some (.frz od (.dK kvs)) → DGet Hx sd (.str lab) (some (V.ref lp)) := fun e => .inl ⟨kvs, Sum.inr lab, .inr ⟨od, e⟩, rfl, q1.symm⟩
    have hgd := (hst.1 (lab, t) (PySem.mem_of_lookup hlk))
    have hrl : t.rows.length ≤ 82 := by
      have h82 : t.rows.length ≤ 32 + c := hgd.2.1
      omega
    refine ⟨_, rfl, _, rfl, b, dx, _, rfl, hb', b, _, th, pa, kvB, .str lab, .str lab, rfl, ⟨dx, hb'⟩, hth', .str lab, _, rfl, _, rfl, iteF' (by show (!(valV kvB (Sum.inr lab)).isSome) = false; rw [r1] <;> rfl) ?_⟩
    refine ⟨_, rfl, b, dx, _, rfl, hb', bmn (by decide +kernel) (by decide +kernel) (by decide +kernel), _, rfl, b, _, th, pa, kvB, lab, v', delG G sd, n, t, rfl, ⟨dx, hb'⟩, hth', r1, sGx, pt, _, rfl, _, rfl, sd, _, rfl, dg hsd', lp, _, _, _, rfl, rfl, SqL.of e1, at0, rfl, _, rfl, iteF' (by simp) ?_⟩
    refine ⟨_, rfl, _, rfl, b, dx, _, rfl, hb', b, _, th, pa, kvB, lab, v', delG G sd, n, t, rfl, ⟨dx, hb'⟩, hth', r1, sGx, pt, by omega, fun hk => ?_, fun y xs D ev hy nD => ?_⟩
    · -- a network, an order
      refine ⟨_, rfl, _, rfl, sd, _, rfl, dg hsd', lp, _, _, _, rfl, rfl, SqL.of e1, at0, rfl, _, rfl, iteF' (decide_eq_false fun z => ?_) ?_⟩
      · have z := V.str.inj z
        cases hkk : t.k with
        | tst => exact hk hkk
        | net => rw [hkk] at z; exact absurd z (by decide +kernel)
        | ord => rw [hkk] at z; exact absurd z (by decide +kernel)
      refine ⟨_, rfl, _, rfl, _, rfl, _, rfl, sd, _, rfl, dg hsd', n, .ref lp, t, rfl, h1, h2, lt, hgd.1, fun v2 H2 s2 hm => ?_⟩
      have pt2 := pt.mono (sGx.trans s2)
      obtain ⟨kd, rows⟩ := t
      have hrows := hgd.1.rows.2
      cases kd with
      | tst => exact absurd rfl hk
      | net =>
        obtain ⟨y, rfl, hy⟩ := pt2
        obtain ⟨x2, rfl, nx2, hx2⟩ := hm
        obtain ⟨_, _, ⟨_, hy1⟩, _⟩ := hy.at_
        obtain ⟨_, _, ⟨_, hx1⟩, _⟩ := hx2.at_
        refine .inl ⟨y, _, _, x2, _, _, rfl, rfl, hy1, hx1, y, x2, n, rows, rfl, hy, hx2, fun r hr => ?_, true, rfl, _, rfl, iteF' rfl ⟨⟨_, _, _, rfl⟩, sl.trans s2⟩⟩
        obtain ⟨a, b, _, _, e⟩ := hrows r hr
        rw [e]
        show 2 ≤ 100000
        decide
      | ord =>
        obtain ⟨y, rfl, hy⟩ := pt2
        obtain ⟨x2, rfl, nx2, hx2⟩ := hm
        obtain ⟨_, _, ⟨_, hy1⟩, _⟩ := hy.at_
        obtain ⟨_, _, ⟨_, hx1⟩, _⟩ := hx2.at_
        refine .inr ⟨y, _, _, x2, _, _, rfl, rfl, hy1, hx1, y, x2, n, rows, rfl, hy, hx2, fun r hr => (hrows r hr).1.len5, true, rfl, _, rfl, iteF' rfl ⟨⟨_, _, _, rfl⟩, sl.trans s2⟩⟩
    · -- tests
      subst ev
      have pt2 := pt.mono sGx
      obtain ⟨kd, rows⟩ := t
      cases kd with
      | net =>
        obtain ⟨x, e, hx⟩ := pt2
        cases e
        obtain ⟨_, _, ⟨_, hy1⟩, _⟩ := hx.at_
        rw [hy] at hy1
        cases hy1
      | ord =>
        obtain ⟨x, e, hx⟩ := pt2
        cases e
        obtain ⟨_, _, ⟨_, hy1⟩, _⟩ := hx.at_
        rw [hy] at hy1
        cases hy1
      | tst =>
        obtain ⟨x, xs', e, hx1, hx2⟩ := pt2
        cases e
        rw [hy] at hx1
        cases hx1
        have sD := same_new (o := .lst xs) nD
        have hshow : Shown (.list (rows.map tupD)) := shown_rows (by have : rows.length ≤ 82 := hrl; omega) fun r hr => ⟨by have := (hgd.1.rows.2 r hr).1; omega, hgd.1.sm rfl r hr⟩
        refine ⟨_, rfl, _, rfl, sd, _, rfl, dg (sD _ _ hsd'), lp, _, _, _, rfl, rfl, SqL.of (sD _ _ e1), at0, rfl, _, rfl, iteT' (decide_eq_true rfl) ?_⟩
        refine ⟨_, rfl, .ref D, .list (rows.map tupD), rfl, (Dq.lst upd_same (hx2.mono sD)).dp, hshow, _, rfl, _, rfl, sd, _, rfl, dg (sD _ _ hsd'), lp, _, _, _, rfl, rfl, SqL.of (sD _ _ e1), at1, .ref ll, .list (rows.map tupD), rfl, (Dq.lst (sD _ _ e2) (e3.mono sD)).dp, hshow, rfl, _, rfl, iteF' (by simp) ?_⟩
        have hxl : xs.length ≤ 82 := by
          have := hx2.length
          rw [List.length_map] at this
          have h82 : rows.length ≤ 82 := hrl
          omega
        refine ⟨_, rfl, .inl ⟨rfl, _, SqL.of upd_same⟩, D, xs, _, rfl, rfl, upd_same, Nat.lt_of_le_of_lt hxl (by decide), ⟨_, _, _, rfl⟩, ?_⟩
        rw [upd_upd]
        exact sl.trans (same_new nD)
  · rintro σ H' ⟨⟨o4, o5, o6, rfl⟩, sl⟩
    refine ⟨sl _ _ frz0, ?_⟩
    have s5 : Same H4 (upd H' sd (.dK kvs)) := fun p o e => by
      by_cases hp : p = sd
      · rw [hp, hsd4] at e
        cases e
        rw [hp, upd_same]
      · rw [upd_ne hp]
        exact sl _ _ (by rw [upd_ne hp]; exact e)
    generalize upd H' sd (.dK kvs) = H5 at *
    have s05 := s04.trans s5
    refine ⟨_, rfl, b, dx, _, rfl, s05 _ _ hb, bmn (by decide +kernel) (by decide +kernel) (by decide +kernel), b, _, th, pa, kvB, st.map (·.1), rfl, ⟨dx, s05 _ _ hb⟩, s05 _ _ hthH, hkv.keys, hk64, fun ys p H6 s6 hy sy np hp => ?_⟩
    have hyl : (ys.map V.str).length ≤ 6 := by
      rw [List.length_map, hy.length_eq, List.length_map]
      exact hl6
    refine ⟨.inl ⟨rfl, _, SqL.of hp⟩, p, _, _, rfl, rfl, hp, Nat.lt_of_le_of_lt hyl (by decide), ?_⟩
    have s7 : Same H5 (upd H6 p (.lst (ys.map V.str ++ [.str (Str.ofString "zzz")]))) := fun a o e => by
      rw [upd_ne (ne_of_none e np)]
      exact s6 _ _ e
    have s07 := s05.trans s7
    generalize upd H6 p (.lst (ys.map V.str ++ [.str (Str.ofString "zzz")])) = H7 at *
    refine ⟨Nat.zero_le _, fun t nt => ⟨by show 1 ≤ sizeLine; decide, fun l nl => ⟨by show 7 ≤ sizeLine; decide, fun L nL => ⟨L, rfl, ⟨_, SqL.of upd_same⟩, fun D nD => ?_⟩⟩⟩⟩
    have s8 := s07.trans (same_new (o := .tup []) nt)
    have s9 := s8.trans (same_new (o := .lst [.str (Str.ofString "a")]) nl)
    have e_t := same_new (o := .lst [.str (Str.ofString "nothere"), .str (Str.ofString "A"), .non, .int 3, .ref t, .ref l, .str (Str.ofString "")]) nL _ _ (same_new (o := .lst [.str (Str.ofString "a")]) nl _ _ (show upd H7 t (.tup []) t = _ from upd_same))
    have e_l := same_new (o := .lst [.str (Str.ofString "nothere"), .str (Str.ofString "A"), .non, .int 3, .ref t, .ref l, .str (Str.ofString "")]) nL _ _ (show upd (upd H7 t (.tup [])) l (.lst [.str (Str.ofString "a")]) l = _ from upd_same)
    have s10 := s9.trans (same_new (o := .lst [.str (Str.ofString "nothere"), .str (Str.ofString "A"), .non, .int 3, .ref t, .ref l, .str (Str.ofString "")]) nL)
    have hLL : upd (upd (upd H7 t (.tup [])) l (.lst [.str (Str.ofString "a")])) L (.lst [.str (Str.ofString "nothere"), .str (Str.ofString "A"), .non, .int 3, .ref t, .ref l, .str (Str.ofString "")]) L = some (.lst [.str (Str.ofString "nothere"), .str (Str.ofString "A"), .non, .int 3, .ref t, .ref l, .str (Str.ofString "")]) := upd_same
    generalize upd (upd (upd H7 t (.tup [])) l (.lst [.str (Str.ofString "a")])) L (.lst [.str (Str.ofString "nothere"), .str (Str.ofString "A"), .non, .int 3, .ref t, .ref l, .str (Str.ofString "")]) = H8 at *
    have hds : DqAll H8 [.str (Str.ofString "nothere"), .str (Str.ofString "A"), .non, .int 3, .ref t, .ref l, .str (Str.ofString "")] [.str (Str.ofString "nothere"), .str (Str.ofString "A"), .none, .int 3, .tuple [], .list [.str (Str.ofString "a")], .str (Str.ofString "")] :=
      .cons (.str _) (.cons (.str _) (.cons .non (.cons (.int 3) (.cons (.tup e_t .nil) (.cons (.lst e_l (.cons (.str _) .nil)) (.cons (.str _) .nil))))))
    have hno : ∀ d ∈ ([.str (Str.ofString "nothere"), .str (Str.ofString "A"), .none, .int 3, .tuple [], .list [.str (Str.ofString "a")], .str (Str.ofString "")] : List PyData), hasB kvB d = false := fun d hd => by
      have odd : ∀ x : Str, ¬ Nm x → hasB kvB (.str x) = false := fun x hx => by
        show (valV kvB (Sum.inr x)).isSome = false
        rcases hkv.look x with ⟨v, t', e1, e2, e3⟩ | ⟨e1, e2⟩
        · exact absurd (hkeys x (List.mem_map.mpr ⟨(x, t'), PySem.mem_of_lookup e2, rfl⟩)) hx
        · rw [e1] <;> rfl
      have nn : ∀ x : Str, (nameL.contains x) = false → ¬ Nm x := fun x hx hm => by
        have : nameL.contains x = true := List.contains_iff_mem.mpr hm
        rw [hx] at this
        cases this
      simp only [List.mem_cons, List.not_mem_nil, or_false] at hd
      rcases hd with rfl | rfl | rfl | rfl | rfl | rfl | rfl
      · exact odd _ (nn _ (by decide +kernel))
      · exact odd _ (nn _ (by decide +kernel))
      · rfl
      · rfl
      · rfl
      · rfl
      · exact odd _ (nn _ (by decide +kernel))
    refine lc_it (walk_list (xs := [.str (Str.ofString "nothere"), .str (Str.ofString "A"), .non, .int 3, .ref t, .ref l, .str (Str.ofString "")])) (fun k H9 => (∀ b o, b ≠ D → H8 b = some o → H9 b = some o) ∧ H9 D = some (.lst [])) ⟨fun b o hb e => by rw [upd_ne hb]; exact e, upd_same⟩ (fun k H9 _ hP => SqL.of (hP.1 _ _ (ne_of_none hLL nD) hLL)) ?_ ?_
    · rintro k x H9 H10 hk ⟨p1, p2⟩ ⟨rfl, hx⟩
      have sm : Same H8 H10 := fun b o e => p1 b o (ne_of_none e nD) e
      obtain ⟨d, hd1, hd2⟩ := hds.get' hx
      have hf := hno d (List.mem_of_getElem? hd1)
      have sA := s10.trans sm
      exact ⟨rfl, _, rfl, _, rfl, b, dx, _, rfl, sA _ _ hb, b, _, th, pa, kvB, x, d, rfl, ⟨dx, sA _ _ hb⟩, sA _ _ hthH, hd2.mono sm, _, rfl, _, rfl, iteF' (by rw [hf] <;> rfl) ⟨p1, p2⟩⟩
    · rintro H9 ⟨p1, p2⟩
      have sm : Same H8 H9 := fun b o e => p1 b o (ne_of_none e nD) e
      refine ⟨Nat.zero_le _, fun z nz => ?_⟩
      have sz := same_new (o := .lst []) nz
      have eD : upd H9 z (.lst []) D = some (.lst (([] : List Int).map V.int)) := by rw [upd_ne (ne_of_none p2 nz)]; exact p2
      refine ⟨_, _, (Dq.lst eD (DqAll.ints [])).dp, (Dq.lst upd_same .nil).dp, ints_lay [], ints_lay [], ?_⟩
      rw [ints_nil]
      exact q _ ((s10.trans sm).trans sz)
theorem bd_law_look {K : PySem.W.Frag} {mg : Str → Option Value} (T : Txt K mg) : Binds K (fdAt K (ga K "_law_look")) ["_law_bench", "_law_many", "_law_past"] [] := T.f_law_look.bindsN fun _ _ _ _ _ _ us hl => match us, hl with | [_, _, _], _ => rfl
theorem c_law_look {X : Cx} {e : Expr} {es : List Expr} {t : TA} {p pos : Pos} (T : Txt X.K X.mg) (hG : X.A.guards = some []) (hr : Room 8 X.A) (ha : PA X (e :: es) t) (hg : Gl X "_law_look" := by rfl) (he : starEach (e :: es) X.env = (false, eval e X.env) :: starEach es X.env := by rfl) (hpl : (backTo pos (starEach es X.env)).any (·.1) = false := by rfl) :
    PE X (.Call (.Name "_law_look" p) (e :: es) [] pos) (tCall ((spLook X.K)) [] E0 t) := pe_callG (ok_law_look T) hG hr hg T.g_law_look T.f_law_look.kp (bd_law_look T) .nil pass0 ha (by decide) he hpl
end
end K57
/-! L21 -/
namespace K57
open PySem PySem.Spec PyProof.Rows L2 He
/-! ### the whole state -/
def qLam (K : PySem.W.Frag) : Str := (envOfC d_law_tried.qual d_law_tried.scope 0 (d_law_tried.at_ K) .none).qual ++ "<lambda>"
abbrev PTb (K : PySem.W.Frag) : Addr := lamT K
structure Wd (K : PySem.W.Frag) (G H : Hp) (bx b pl : Addr) (n c : Nat) (f : Int) (sts : List State) (st : State) : Prop where
  sG : Same G H
  bench : BSt K G H b n sts st
  past : PastAt G H pl (sts ++ [st])
  ok : StOk n c (sts ++ [st])
  box : Box H bx f
  tab : LamX.TabS H (PTb K) (qLam K)
  gb : G b = none
  gp : G pl = none
  gx : G bx = none
  gt : G (PTb K) = none
abbrev M4 (K : PySem.W.Frag) (bx b pl : Addr) : List Addr := [bx, b, pl, PTb K]
section
variable {K : PySem.W.Frag} {G H G1 H1 : Hp} {bx b pl : Addr} {n c : Nat} {f f1 : Int} {sts : List State} {st : State} {M : List Addr}
theorem past_head {vs : List V} {x : State} {xs : List State} (h : LPast G vs (xs ++ [x])) : ∃ sd r, vs = .ref sd :: r := by
  cases xs with
  | nil =>
    cases h with
    | cons a r =>
      obtain ⟨sd, _, e, _⟩ := a
      subst e
      exact ⟨sd, _, rfl⟩
  | cons y ys =>
    cases h with
    | cons a r =>
      obtain ⟨sd, _, e, _⟩ := a
      subst e
      exact ⟨sd, _, rfl⟩
theorem Wd.ins (h : Wd K G H bx b pl n c f sts st) : ∃ dx fs, H b = some (.ins (ga K "Bench") dx fs) := bst_ins h.bench
theorem Wd.lstP (h : Wd K G H bx b pl n c f sts st) : ∃ sd r, H pl = some (.lst (.ref sd :: r)) := by
  obtain ⟨vs, h1, h2⟩ := h.past
  obtain ⟨sd, r, e⟩ := past_head h2
  subst e
  exact ⟨sd, r, h1⟩
theorem Wd.lstX (h : Wd K G H bx b pl n c f sts st) : ∃ x r, H bx = some (.lst (.int x :: r)) := by
  obtain ⟨x, y, z, e, _⟩ := h.box
  exact ⟨x, _, e⟩
theorem Wd.tbl (h : Wd K G H bx b pl n c f sts st) : ∃ ps, H (PTb K) = some (.tbl ps) := by
  obtain ⟨ps, e, _⟩ := h.tab
  exact ⟨ps, e⟩
theorem Wd.bp (h : Wd K G H bx b pl n c f sts st) : b ≠ pl := fun z => by
  obtain ⟨_, _, e1⟩ := h.ins
  obtain ⟨_, _, e2⟩ := h.lstP
  rw [z, e2] at e1
  cases e1
theorem Wd.bbx (h : Wd K G H bx b pl n c f sts st) : b ≠ bx := fun z => by
  obtain ⟨_, _, e1⟩ := h.ins
  obtain ⟨_, _, e2⟩ := h.lstX
  rw [z, e2] at e1
  cases e1
theorem Wd.pbx (h : Wd K G H bx b pl n c f sts st) : pl ≠ bx := fun z => by
  obtain ⟨_, _, e1⟩ := h.lstP
  obtain ⟨_, _, e2⟩ := h.lstX
  rw [z, e2] at e1
  cases e1
theorem tab_keep {P : Addr} {q : Str} (t : LamX.TabS H P q) (k : ∀ p o, H p = some o → (∀ xs, o ≠ .lst xs) → (∀ C dx fs, o ≠ .ins C dx fs) → H1 p = some o) : LamX.TabS H1 P q := by
  obtain ⟨ps, h1, h2, h3⟩ := t
  refine ⟨ps, k _ _ h1 (fun xs z => by cases z) (fun C dx fs z => by cases z), h2, fun pos cv hc => ?_⟩
  obtain ⟨c, e1, e2⟩ := h3 pos cv hc
  exact ⟨c, e1, k _ _ e2 (fun xs z => by cases z) (fun C dx fs z => by cases z)⟩
def LI (H : Hp) (m : Addr) : Prop := (∃ xs, H m = some (.lst xs)) ∨ ∃ C dx fs, H m = some (.ins C dx fs)
theorem tab_go {P : Addr} {q : Str} (g : Go M G H G1 H1) (hM : ∀ m ∈ M, LI H m) (t : LamX.TabS H P q) : LamX.TabS H1 P q := tab_keep t fun p o e n1 n2 => g.keep p o (fun hm => by
  rcases hM p hm with ⟨xs, z⟩ | ⟨C, dx, fs, z⟩
  · rw [e] at z
    cases z
    exact n1 _ rfl
  · rw [e] at z
    cases z
    exact n2 _ _ _ rfl) e
/-- a draw -/
theorem Wd.draw (h : Wd K G H bx b pl n c f sts st) (hu : ∃ o, H1 = upd H bx o) (hb : Box H1 bx f1) : Wd K G H1 bx b pl n c f1 sts st ∧ Go (M4 K bx b pl) G H G H1 := by
  obtain ⟨o, rfl⟩ := hu
  have ho : ∃ xs, o = .lst xs := by
    obtain ⟨x, y, z, e, _⟩ := hb
    rw [upd_same] at e
    cases e
    exact ⟨_, rfl⟩
  obtain ⟨xs, rfl⟩ := ho
  have g : Go (M4 K bx b pl) G H G (upd H bx (.lst xs)) := (Go.start h.sG).put (.inl List.mem_cons_self) h.gx
  obtain ⟨x, r, hx⟩ := h.lstX
  refine ⟨⟨g.on, h.bench.mono (Same.refl G) fun o e => by rw [upd_ne h.bbx]; exact e, h.past.mono (Same.refl G) fun o e => by rw [upd_ne h.pbx]; exact e, h.ok, hb, tab_keep h.tab fun p o e n1 n2 => ?_, h.gb, h.gp, h.gx, h.gt⟩, g⟩
  rw [upd_ne (fun z => by rw [z, hx] at e; cases e; exact n1 _ rfl)]
  exact e
/-- only what is new differs -/
theorem Wd.same (h : Wd K G H bx b pl n c f sts st) (s : Same H H1) : Wd K G H1 bx b pl n c f sts st :=
  ⟨h.sG.trans s, h.bench.mono (Same.refl G) fun o e => s _ _ e, h.past.mono (Same.refl G) fun o e => s _ _ e, h.ok, by
    obtain ⟨x, y, z, e, r⟩ := h.box
    exact ⟨x, y, z, s _ _ e, r⟩, h.tab.ext fun p o e => s _ _ e, h.gb, h.gp, h.gx, h.gt⟩
theorem Wd.le (h : Wd K G H bx b pl n c f sts st) {c' : Nat} (hc : c ≤ c') (hf : f1 ≤ f) : Wd K G H bx b pl n c' f1 sts st := ⟨h.sG, h.bench, h.past, h.ok.mono hc, h.box.le hf, h.tab, h.gb, h.gp, h.gx, h.gt⟩
/-- all that is new stands, but these -/
def fzS (S : List Addr) (G H Hf : Hp) : Hp := K57.gt (fun p => if p ∈ S then G p else fz G H Hf p) Hf
theorem go_fzS {S : List Addr} (sG : Same G H) (s : Same H H1) : Go M G H (K57.fzS S G H H1) H1 := by
  have g0 : Go M G H (fun p => if p ∈ S then G p else fz G H H1 p) H1 := by
    have g := (Go.start (M := M) sG).fz s
    refine ⟨g.keep, g.live, fun p o e => ?_, fun p o e => ?_, fun p o e hp => ?_, g.tup⟩
    · show (if p ∈ S then G p else fz G H H1 p) = some o
      split
      · exact e
      · exact g.sub p o e
    · have e : (if p ∈ S then G p else fz G H H1 p) = some o := e
      split at e
      · exact s _ _ (sG _ _ e)
      · exact g.on p o e
    · have e : (if p ∈ S then G p else fz G H H1 p) = some o := e
      split at e
      · exact .inl e
      · exact g.ext p o e hp
  exact g0.tups
theorem fzS_new {S : List Addr} {p : Addr} {o : HO} (h : H p = none) (hS : p ∉ S) (e : H1 p = some o) : K57.fzS S G H H1 p = some o := by
  unfold K57.fzS K57.gt
  rw [e]
  have e1 : (if p ∈ S then G p else fz G H H1 p) = some o := by rw [if_neg hS, fz_new h]; exact e
  cases o <;> first | rfl | exact e1
theorem fzS_off {S : List Addr} {p : Addr} {xs : List V} (h : G p = none) (hS : p ∈ S) (e : H1 p = some (.lst xs)) : K57.fzS S G H H1 p = none := by
  unfold K57.fzS K57.gt
  rw [e]
  show (if p ∈ S then G p else fz G H H1 p) = none
  rw [if_pos hS]
  exact h
def itemsOf : Deed → List Addr
  | .add _ (.ref a) (.list _) => [a]
  | _ => []
/-- a drawn deed -/
theorem Wd.deed {v : V} {dm : Deed} (h : Wd K G H bx b pl n c f sts st) (s : Sb bx H H1) (hb : Box H1 bx f1) (hd : LDeed H H1 v dm) :
    ∃ G1, Go (M4 K bx b pl) G H G1 H1 ∧ Wd K G1 H1 bx b pl n c f1 sts st ∧ LDeedG G1 H1 v dm ∧ Apart pl v dm ∧ (∀ a ∈ itemsOf dm, H a = none ∧ G1 a = none ∧ ∃ xs, H1 a = some (.lst xs)) ∧ (∀ x u ds, dm = .add x u (.list ds) → ∃ a, u = .ref a ∧ a ∈ itemsOf dm) := by
  obtain ⟨x0, r0, hx0⟩ := h.lstX
  obtain ⟨x1, y1, z1, hx1, hrest⟩ := id hb
  -- the heap with the box as it is now
  have h0 := h.draw (H1 := upd H bx (boxL x1 y1 z1)) ⟨_, rfl⟩ ⟨x1, y1, z1, upd_same, hrest⟩
  obtain ⟨w0, g0⟩ := h0
  have s1 : Same (upd H bx (boxL x1 y1 z1)) H1 := fun p o e => by
    by_cases hp : p = bx
    · rw [hp, upd_same] at e
      rw [hp, hx1]
      exact e
    · rw [upd_ne hp] at e
      exact s p o hp e
  have free : ∀ {p : Addr}, H p = none → upd H bx (boxL x1 y1 z1) p = none := fun {p} hp => by
    rw [upd_ne (fun z => by rw [z, hx0] at hp; cases hp)]
    exact hp
  have g1 : Go (M4 K bx b pl) G (upd H bx (boxL x1 y1 z1)) (K57.fzS (itemsOf dm) G (upd H bx (boxL x1 y1 z1)) H1) H1 := go_fzS w0.sG s1
  obtain ⟨sdp, rp, hpl⟩ := h.lstP
  have hpl1 : H1 pl = some (.lst (.ref sdp :: rp)) := s _ _ h.pbx hpl
  obtain ⟨dxb, fsb, hbi⟩ := h.ins
  have w1 := w0.same s1
  obtain ⟨dx1, fs1, hb1⟩ := w1.ins
  obtain ⟨ps, hps⟩ := w0.tbl
  obtain ⟨x2, r2, hx2⟩ := w0.lstX
  obtain ⟨dx2, fs2, hb2⟩ := w0.ins
  obtain ⟨sd2, r3, hp2⟩ := w0.lstP
  have headP : ∀ {p : Addr} {z : Str} {rest : List V}, H1 p = some (.lst (.str z :: rest)) → p ≠ pl := fun e z => by
    rw [z, hpl1] at e
    cases e
  have items : (∀ a ∈ itemsOf dm, H a = none ∧ K57.fzS (itemsOf dm) G (upd H bx (boxL x1 y1 z1)) H1 a = none ∧ ∃ xs, H1 a = some (.lst xs)) ∧ (∀ x u ds, dm = .add x u (.list ds) → ∃ a, u = .ref a ∧ a ∈ itemsOf dm) := by
    cases dm with
    | put x t => exact ⟨fun a ha => (nomatch ha), fun x u ds e => (nomatch e)⟩
    | drop x => exact ⟨fun a ha => (nomatch ha), fun x u ds e => (nomatch e)⟩
    | ren x y => exact ⟨fun a ha => (nomatch ha), fun x u ds e => (nomatch e)⟩
    | undo => exact ⟨fun a ha => (nomatch ha), fun x u ds e => (nomatch e)⟩
    | add x u d =>
      obtain ⟨p, e, h1, h2, h3⟩ := hd
      refine ⟨fun a ha => ?_, fun x' u' ds e2 => ?_⟩
      · cases d with
        | list ds =>
          obtain ⟨a', e3, na, _⟩ := h3 ds rfl
          subst e3
          have ha2 : a = a' := List.mem_singleton.mp ha
          subst ha2
          obtain ⟨a'', xs, e4, h5, _⟩ := Dq.lst_ h2
          cases e4
          exact ⟨na, fzS_off (same_none h.sG na) ha h5, xs, h5⟩
        | _ => cases u <;> cases ha
      · cases e2
        obtain ⟨a', e3, na, _⟩ := h3 ds rfl
        subst e3
        exact ⟨a', rfl, List.mem_singleton.mpr rfl⟩
  refine ⟨K57.fzS (itemsOf dm) G (upd H bx (boxL x1 y1 z1)) H1, g0.then g1, ⟨g1.on, w1.bench.mono g1.sub fun o e => e, w1.past.mono g1.sub fun o e => e, h.ok, hb, w1.tab, g1.off h.gb hb2, g1.off h.gp hp2, g1.off h.gx hx2, g1.off h.gt hps⟩, ?_, ?_, items.1, items.2⟩
  · cases dm with
    | put x t =>
      obtain ⟨p, u, e, h1, p1, l1, ys, e1, n1, n2, q1, q2, q3⟩ := hd
      exact ⟨p, u, e, h1, p1, l1, ys, e1, fzS_new (free n1) (fun z => nomatch z) q1, fzS_new (free n2) (fun z => nomatch z) q2, q3.gt⟩
    | add x u d =>
      obtain ⟨p, e, h1, h2, h3⟩ := hd
      exact ⟨p, e, h1, h2⟩
    | drop x => exact hd
    | ren x y => exact hd
    | undo => exact hd
  · refine ⟨?_, fun x u ds e => ?_⟩
    · cases dm with
      | put x t =>
        obtain ⟨p, u, e, h1, _⟩ := hd
        rw [e]
        exact fun z => headP h1 (V.ref.inj z)
      | add x u d =>
        obtain ⟨p, e, h1, _⟩ := hd
        rw [e]
        exact fun z => headP h1 (V.ref.inj z)
      | drop x =>
        obtain ⟨p, e, h1⟩ := hd
        rw [e]
        exact fun z => headP h1 (V.ref.inj z)
      | ren x y =>
        obtain ⟨p, e, h1⟩ := hd
        rw [e]
        exact fun z => headP h1 (V.ref.inj z)
      | undo =>
        obtain ⟨p, e, h1⟩ := hd
        rw [e]
        exact fun z => headP h1 (V.ref.inj z)
    · obtain ⟨a, e1, e2⟩ := items.2 x u ds e
      obtain ⟨na, _⟩ := items.1 a e2
      rw [e1]
      intro z
      have z := V.ref.inj z
      rw [z, hpl] at na
      cases na
/-- what a step needs and leaves -/
theorem Wd.step {v : V} {dm : Deed} (h : Wd K G H bx b pl n c f sts st) (hd : LDeedG G H v dm) (hok : DeedOk n st dm) (ap : Apart pl v dm) (hi : ∀ a ∈ itemsOf dm, G a = none ∧ ∃ xs, H a = some (.lst xs)) (hi2 : ∀ x u ds, dm = .add x u (.list ds) → ∃ a, u = .ref a ∧ a ∈ itemsOf dm) (hx : bx ∉ itemsOf dm) (hb : b ∉ itemsOf dm) (h2 : 2 ≤ n) (h4 : n ≤ 4) (hc : c ≤ 40) {Q : VK}
    (q : ∀ G2 H2 sts2 st2, Go (b :: pl :: itemsOf dm) G H G2 H2 → Wd K G2 H2 bx b pl n (c + 1) f sts2 st2 → Q (.bl true) H2) : spLStep K [.ref b, .int n, .ref pl, v] H Q E0 := by
  obtain ⟨dxb, fsb, hbi⟩ := h.ins
  obtain ⟨sdp, rp, hpl⟩ := h.lstP
  obtain ⟨xx, rx, hbx⟩ := h.lstX
  obtain ⟨ps, hps⟩ := h.tbl
  have hM : ∀ m ∈ b :: pl :: itemsOf dm, LI H m := fun m hm => by
    rcases List.mem_cons.mp hm with e | hm
    · rw [e]; exact .inr ⟨_, _, _, hbi⟩
    · rcases List.mem_cons.mp hm with e | hm
      · rw [e]; exact .inl ⟨_, hpl⟩
      · exact .inl (hi m hm).2
  refine ⟨b, pl, n, c, v, G, sts, st, dm, b :: pl :: itemsOf dm, rfl, h2, h4, h.sG, h.bench, h.past, h.ok, hc, hd, hok, ap, List.mem_cons_self, List.mem_cons_of_mem _ List.mem_cons_self, fun m hm => ?_, h.gb, h.gp, fun x u ds e => ?_, fun G2 H2 sts2 st2 g hS hP hO => q G2 H2 sts2 st2 g ?_⟩
  · rcases hM m hm with ⟨xs, e⟩ | ⟨C, dx, fs, e⟩ <;> exact ne_none e
  · obtain ⟨a, e1, e2⟩ := hi2 x u ds e
    exact ⟨a, e1, List.mem_cons_of_mem _ (List.mem_cons_of_mem _ e2), (hi a e2).1⟩
  · have kx : ∀ o, H bx = some o → H2 bx = some o := fun o e => g.keep bx o (fun z => by
      rcases List.mem_cons.mp z with z | z
      · exact h.bbx z.symm
      · rcases List.mem_cons.mp z with z | z
        · exact h.pbx z.symm
        · exact hx z) e
    refine ⟨g.on, hS, hP, hO, ?_, tab_go g hM h.tab, g.off h.gb hbi, g.off h.gp hpl, g.off h.gx hbx, g.off h.gt hps⟩
    obtain ⟨x, y, z, e, r⟩ := h.box
    exact ⟨x, y, z, kx _ e, r⟩
end
end K57
/-! L22 -/
namespace K57
open PySem PySem.Spec PyProof.Rows L2 He
def costD : Nat → Int
  | 0 => 1 + 4 * 153
  | j + 1 => 1 + 4 * (153 + costD j)
/-- a turn's draws -/
def costT : Nat → Int
  | 0 => 153
  | j + 1 => 153 + costD j
theorem costD_eq (j : Nat) : costD j = 1 + 4 * costT j := by cases j <;> rfl
theorem costD_pos : ∀ j, 0 ≤ costD j
  | 0 => by decide
  | j + 1 => by have := costD_pos j; show 0 ≤ 1 + 4 * (153 + costD j); omega
theorem costT_ge (j : Nat) : 153 ≤ costT j := by
  cases j with
  | zero => decide
  | succ j => have := costD_pos j; show 153 ≤ 153 + costD j; omega
section
variable {P : Program} {w : World} {K : PySem.W.Frag} {mg : Str → Option Value} {base : Heap}
def spWithin (K : PySem.W.Frag) (j : Nat) : Sp := fun vs H Q _ => ∃ (bx b pl : Addr) (n c : Nat) (f : Int) (G : Hp) (sts : List State) (st : State), vs = [.ref bx, .ref b, .int n, .ref pl, .int j] ∧ 2 ≤ n ∧ n ≤ 4 ∧ c + 4 * (j + 1) ≤ 40 ∧ costD j ≤ f ∧ Wd K G H bx b pl n c f sts st ∧
  ∀ G2 H2 sts2 st2, Go (M4 K bx b pl) G H G2 H2 → Wd K G2 H2 bx b pl n (c + 4) (f - costD j) sts2 st2 → Q (.bl true) H2
def spTR (K : PySem.W.Frag) (j : Nat) : Sp := fun vs H Q _ => ∃ (bx b pl : Addr) (n c : Nat) (f : Int) (G : Hp) (sts : List State) (st : State), vs = [.ref bx, .ref b, .int n, .ref pl, .int j] ∧ 2 ≤ n ∧ n ≤ 4 ∧ c + 4 * (j + 1) ≤ 40 ∧ 1 + costD j ≤ f ∧ Wd K G H bx b pl n c f sts st ∧
  ∀ G2 H2, Go (M4 K bx b pl) G H G2 H2 → Wd K G2 H2 bx b pl n c (f - 1 - costD j) sts st → Q (.bl true) H2
/-- what within calls: nothing at the depth 0 -/
def spTRp (K : PySem.W.Frag) : Nat → Sp
  | 0 => fun _ _ _ _ => False
  | j + 1 => spTR K j
theorem bd_TR {K : PySem.W.Frag} {mg : Str → Option Value} (T : Txt K mg) : Binds K (fdAt K (ga K "_law_tried_right")) ["_law_box_here", "_law_bench", "_law_many", "_law_past", "_law_deep"] [] := T.f_law_tried_right.bindsN fun _ _ _ _ _ _ us hl => match us, hl with | [_, _, _, _, _], _ => rfl
theorem sc_law_deeds_within : FnScope ["_law_box_here", "_law_bench", "_law_many", "_law_past", "_law_deep", "_law_turn", "_law_deed_here"] ["_law_box_here", "_law_bench", "_law_many", "_law_past", "_law_deep"] (defScope sLawDeedsWithin) := ⟨rfl, rfl, rfl, by decide +kernel, rfl, by decide +kernel, by decide +kernel⟩
theorem ok_law_within (T : Txt K mg) (j k : Nat) (hk : 10 ≤ k) (FT : FnG P w K mg base CX0 k (ga K "_law_tried_right") (fdAt K (ga K "_law_tried_right")) ["_law_box_here", "_law_bench", "_law_many", "_law_past", "_law_deep"] (spTRp K j)) :
    FnG P w K mg base CX0 (k + 1) (ga K "_law_deeds_within") (fdAt K (ga K "_law_deeds_within")) ["_law_box_here", "_law_bench", "_law_many", "_law_past", "_law_deep"] (spWithin K j) := by
  refine okG T.f_law_deeds_within sc_law_deeds_within (fun vs H Q E h => ?_) (fun cdv A outer s H vs Q E hG hcd hr h => ?_)
  · obtain ⟨bx, b, pl, n, c, f, G, sts, st, rfl, _⟩ := h
    rfl
  obtain ⟨bx, b, pl, n, c, f, G, sts, st, rfl, h2, h4, hc, hf, hw, q⟩ := h
  refine ⟨_, PSs.nox (pss_cons (ps_for PassesOwn.never rfl (pi_range1 (by rfl) T.z_range (pa_cons (pe_op op_add pe_int (c_law_take T (hr.mono (by omega)) (pa_cons (pv 0) (pa_cons pe_int pa_nil)))) pa_nil)) (pg_name (i := 5) sc_law_deeds_within.nd rfl (Or.inl rfl)) (pss_cons (ps_set (i := 6) sc_law_deeds_within.nd rfl (Or.inl rfl) (pe_ifExp (pt_cmpR op_eq (c_law_take T (hr.mono (by omega)) (pa_cons (pv 0) (pa_cons pe_int pa_nil))) pe_int (nomark _)) (pe_lst (pa_cons pe_str pa_nil)) (c_law_deed T (hr.mono (by omega)) (pa_cons (pv 0) (pa_cons (pv 2) (pa_cons (pe_ix ix_list (pv 3) (pe_un un_neg pe_int) (fun _ _ => rfl)) pa_nil))))))
    (pss_cons (ps_if (PW.pt (pw_or (pt_not (pt_val (c_law_step T hG (hr.mono (by omega)) (pa_cons (pv 1) (pa_cons (pv 2) (pa_cons (pv 3) (pa_cons (pv 6) pa_nil))))))) (pw_or1 (pt_not (pt_val (c_law_look T hG (hr.mono (by omega)) (pa_cons (pv 1) (pa_cons (pv 2) (pa_cons (pv 3) pa_nil))))))))) (pss_one (ps_ret pe_bl)) pss_nil)
    (pss_one (ps_if (PW.pt (pw_and (pt_cmpR op_gt (pv 4) pe_int (nomark _)) (pw_and1 (pt_cmpR op_eq (c_law_take T (hr.mono (by omega)) (pa_cons (pv 0) (pa_cons pe_int pa_nil))) pe_int (nomark _))))) (pss_one (ps_if (pt_not (pt_val (pe_callG FT hG (hr.mono (by omega)) rfl T.g_law_tried_right T.f_law_tried_right.kp (bd_TR T) .nil pass0 (pa_cons (pv 0) (pa_cons (pv 1) (pa_cons (pv 2) (pa_cons (pv 3) (pa_cons (pe_op op_sub (pv 4) pe_int) pa_nil))))) (by decide) rfl rfl))) (pss_one (ps_ret pe_bl)) pss_nil)) pss_nil)))))
    (pss_one (ps_ret pe_bl))), ?_⟩
  have hcd0 := costD_eq j
  have hct := costT_ge j
  refine ⟨_, rfl, bx, 4, f, rfl, by decide, by decide, by omega, hw.box, fun tn H1 t0 t1 u1 b1 => ?_⟩
  obtain ⟨w1, g1⟩ := hw.draw u1 b1
  refine ⟨_, _, rfl, rfl, _, rfl, by omega, by omega, ?_⟩
  obtain ⟨m, hm⟩ : ∃ m : Nat, (1 : Int) + tn = m := ⟨(1 + tn).toNat, by omega⟩
  have hm4 : m ≤ 4 := by omega
  rw [hm, Int.toNat_natCast]
  have hbx0 : H bx ≠ none := by
    obtain ⟨x, r, e⟩ := hw.lstX
    exact ne_none e
  have hb0 : H b ≠ none := by
    obtain ⟨x, r, e⟩ := hw.ins
    exact ne_none e
  refine for_rng (fun i σ H' => ∃ o5 o6, σ = [some (.ref bx), some (.ref b), some (.int n), some (.ref pl), some (.int j), o5, o6] ∧ ∃ G' sts' st', Go (M4 K bx b pl) G H G' H' ∧ Wd K G' H' bx b pl n (c + i) (f - 1 - (i : Int) * costT j) sts' st')
    ⟨_, _, rfl, G, sts, st, g1, w1.le (Nat.le_add_right _ _) (by simp)⟩ (fun i σ H' hi hP => ?_) (fun σ H' hP => ?_)
  · obtain ⟨o5, o6, rfl, G', sts', st', g, w'⟩ := hP
    have hi3 : i ≤ 3 := by omega
    have hmul : (i : Int) * costT j ≤ 3 * costT j := Int.mul_le_mul_of_nonneg_right (by omega) (by omega)
    have hmul1 : ((i + 1 : Nat) : Int) * costT j = (i : Int) * costT j + costT j := by
      rw [Int.natCast_add, Int.add_mul]
      simp
    generalize hfe : (i : Int) * costT j = fe at *
    refine seq_cut (fun σ H3 => ∃ v, σ = [some (.ref bx), some (.ref b), some (.int n), some (.ref pl), some (.int j), some (.int i), some v] ∧ ∃ dm G3, Go (M4 K bx b pl) G H G3 H3 ∧ Wd K G3 H3 bx b pl n (c + i) (f - 1 - fe - 151) sts' st' ∧ LDeedG G3 H3 v dm ∧ DeedOk n st' dm ∧ Apart pl v dm ∧ (∀ a ∈ itemsOf dm, H a = none ∧ G3 a = none ∧ ∃ xs, H3 a = some (.lst xs)) ∧ (∀ x u ds, dm = .add x u (.list ds) → ∃ a, u = .ref a ∧ a ∈ itemsOf dm)) ?_ (fun k' => ?_)
    · rintro σ H3 ⟨v, rfl, dm, G3, g3, w3, hd3, hok3, ap3, hi3', hi4⟩
      refine ⟨_, rfl, _, rfl, _, rfl, _, rfl, ?_⟩
      dsimp only [tNil]
      refine w3.step hd3 hok3 ap3 (fun a ha => (hi3' a ha).2) hi4 (fun z => hbx0 (hi3' _ z).1) (fun z => hb0 (hi3' _ z).1) h2 h4 (by omega) fun G4 H4 sts4 st4 g4 w4 => ?_
      have gg4 : Go (M4 K bx b pl) G H G4 H4 := g3.trans g4 fun m hm => by
        rcases List.mem_cons.mp hm with e | hm
        · exact .inl (by rw [e]; simp)
        · rcases List.mem_cons.mp hm with e | hm
          · exact .inl (by rw [e]; simp)
          · exact .inr (hi3' m hm).1
      refine ⟨_, rfl, iteF' rfl ?_⟩
      refine ⟨_, rfl, _, rfl, _, rfl, b, pl, n, c + i + 1, G4, sts4, st4, rfl, h2, h4, w4.sG, w4.bench, w4.past, w4.ok, by omega, fun H5 s5 => ⟨_, rfl, iteF' rfl ?_⟩⟩
      have w5 := w4.same s5
      have g5 := gg4.same s5
      have next : ∀ (H6 : Hp) (G6 : Hp) (sts6 : List State) (st6 : State) (f6 : Int), Go (M4 K bx b pl) G H G6 H6 → Wd K G6 H6 bx b pl n (c + i + 1) f6 sts6 st6 → f - 1 - fe - costT j ≤ f6 → (∃ o5 o6, [some (V.ref bx), some (V.ref b), some (V.int n), some (V.ref pl), some (V.int j), some (V.int i), some v] = [some (V.ref bx), some (V.ref b), some (V.int n), some (V.ref pl), some (V.int j), o5, o6] ∧ ∃ G' sts' st', Go (M4 K bx b pl) G H G' H6 ∧ Wd K G' H6 bx b pl n (c + (i + 1)) (f - 1 - ((i + 1 : Nat) : Int) * costT j) sts' st') := fun H6 G6 sts6 st6 f6 gg ww hf6 => ⟨_, _, rfl, G6, sts6, st6, gg, ww.le (by omega) (by rw [hmul1]; omega)⟩
      refine ⟨_, rfl, _, _, rfl, rfl, _, rfl, iteB (fun cj => ?_) (fun _ => iteF' rfl (next _ _ _ _ _ g5 w5 (by omega)))⟩
      obtain ⟨j', rfl⟩ : ∃ j', j = j' + 1 := ⟨j - 1, by have := of_decide_eq_true cj; omega⟩
      have hct' : costT (j' + 1) = 153 + costD j' := rfl
      have hcp := costD_pos j'
      refine ⟨_, rfl, bx, 2, f - 1 - fe - 151, rfl, by decide, by decide, by omega, w5.box, fun d H6 d0 d1 u6 b6 => ⟨rfl, _, rfl, ?_⟩⟩
      obtain ⟨w6, g6⟩ := w5.draw u6 b6
      have gg6 := g5.then g6
      refine iteB (fun _ => ?_) (fun _ => next _ _ _ _ _ gg6 w6 (by omega))
      refine ⟨_, rfl, _, rfl, _, rfl, _, rfl, _, rfl, _, _, rfl, rfl, ?_⟩
      refine ⟨bx, b, pl, n, c + i + 1, _, G4, sts4, st4, ?_, h2, h4, by omega, ?_, w6, fun G7 H7 g7 w7 => ⟨_, rfl, iteF' rfl (next _ _ _ _ _ (gg6.then g7) w7 (by omega))⟩⟩
      · have : ((j' + 1 : Nat) : Int) - 1 = (j' : Int) := by omega
        exact congrArg (fun z => [V.ref bx, V.ref b, V.int n, V.ref pl, V.int z]) this
      · omega
    · refine ⟨_, rfl, bx, 4, f - 1 - fe, rfl, by decide, by decide, by omega, w'.box, fun d H2 d0 d1 u2 b2 => ⟨rfl, _, rfl, ?_⟩⟩
      obtain ⟨w2, g2⟩ := w'.draw u2 b2
      have gg2 := g.then g2
      have fin : ∀ v dm H3 f3, Sb bx H2 H3 → Box H3 bx f3 → f - 1 - fe - 151 ≤ f3 → LDeed H2 H3 v dm → DeedOk n st' dm → (∃ v', [some (V.ref bx), some (V.ref b), some (V.int n), some (V.ref pl), some (V.int j), some (V.int i), some v] = [some (V.ref bx), some (V.ref b), some (V.int n), some (V.ref pl), some (V.int j), some (V.int i), some v'] ∧ ∃ dm G3, Go (M4 K bx b pl) G H G3 H3 ∧ Wd K G3 H3 bx b pl n (c + i) (f - 1 - fe - 151) sts' st' ∧ LDeedG G3 H3 v' dm ∧ DeedOk n st' dm ∧ Apart pl v' dm ∧ (∀ a ∈ itemsOf dm, H a = none ∧ G3 a = none ∧ ∃ xs, H3 a = some (.lst xs)) ∧ (∀ x u ds, dm = .add x u (.list ds) → ∃ a, u = .ref a ∧ a ∈ itemsOf dm)) := fun v dm H3 f3 sb b3 hf3 ld dok => by
        obtain ⟨G3, g3, w3, hd3, ap3, i3, i4⟩ := w2.deed sb b3 ld
        refine ⟨v, rfl, dm, G3, gg2.then g3, w3.le (Nat.le_refl _) hf3, hd3, dok, ap3, fun a ha => ?_, i4⟩
        obtain ⟨n1, n2, n3⟩ := i3 a ha
        exact ⟨gg2.fresh n1, n2, n3⟩
      refine iteB (fun _ => ⟨by show 1 ≤ sizeLine; decide, fun p np => k' _ _ (fin _ .undo _ _ ((Sb.refl H2).new np) (w2.box.new np) (by omega) ⟨p, rfl, upd_same⟩ trivial)⟩) (fun _ => ?_)
      obtain ⟨pvs, hpl, hpp⟩ := w2.past
      obtain ⟨pvs', v, ep, hp1, sd, kvs, rfl, hsd, hlpd⟩ := Paired.unsnoc hpp
      subst ep
      have hst := w2.ok.all st' (List.mem_append_right _ (List.mem_singleton.mpr rfl))
      have hl6 := hst.len6
      refine ⟨_, rfl, _, rfl, _, rfl, _, rfl, pl, _, _, _, rfl, rfl, SqL.of hpl, atI_last _ _, ?_⟩
      exact ⟨bx, sd, n, kvs, st', f - 1 - fe - 1, rfl, h2, h4, w2.sG _ _ hsd, hlpd.mono w2.sG, by omega, fun x hx => by
        obtain ⟨p, hp, e⟩ := List.mem_map.mp hx
        rw [← e]
        exact (hst.1 p hp).2.2, by omega, w2.box, fun v dm H3 dok ld sb b3 => k' _ _ (fin v dm H3 _ sb b3 (by omega) ld dok)⟩
  · obtain ⟨o5, o6, rfl, G', sts', st', g, w'⟩ := hP
    have hmul : (m : Int) * costT j ≤ 4 * costT j := Int.mul_le_mul_of_nonneg_right (by omega) (by omega)
    exact q G' H' sts' st' g (w'.le (by omega) (by omega))
end
end K57
/-! L23 -/
namespace K57
open PySem PySem.Spec PyProof.Rows L2 He
def wayD : Nat → PyData
  | 2 => .list []
  | 3 => .int 0
  | _ => .str (Str.ofString "")
def EndOk (K : PySem.W.Frag) (H : Hp) (Q : VK) (E : XK) (way : Nat) : Prop :=
  (way = 0 → ∀ d H3, Same H H3 → E (.type "KeyError") d H3) ∧
  (way = 1 → ∀ e H3, Same H H3 → H3 e = none → E (.ref (ga K "UnknownName")) (some e) (upd H3 e (.xd [("name", .str (Str.ofString "nothere"))]))) ∧
  (2 ≤ way → ∀ v H3, Same H H3 → Dq H3 v (wayD way) → Q v H3)
section
variable {P : Program} {w : World} {K : PySem.W.Frag} {mg : Str → Option Value} {base : Heap}
def spEnded (K : PySem.W.Frag) (j : Nat) : Sp := fun vs H Q E => ∃ (bx b pl : Addr) (n c : Nat) (f : Int) (G : Hp) (sts : List State) (st : State) (way : Nat), vs = [.ref bx, .ref b, .ref b, .int n, .ref pl, .int j, .int way] ∧ way ≤ 4 ∧ 2 ≤ n ∧ n ≤ 4 ∧ c + 4 * (j + 1) ≤ 40 ∧ costD j ≤ f ∧ Wd K G H bx b pl n c f sts st ∧
  ∀ G2 H2 sts2 st2, Go (M4 K bx b pl) G H G2 H2 → Wd K G2 H2 bx b pl n (c + 4) (f - costD j) sts2 st2 → EndOk K H2 Q E way
theorem bd_law_within {K : PySem.W.Frag} {mg : Str → Option Value} (T : Txt K mg) : Binds K (fdAt K (ga K "_law_deeds_within")) ["_law_box_here", "_law_bench", "_law_many", "_law_past", "_law_deep"] [] := T.f_law_deeds_within.bindsN fun _ _ _ _ _ _ us hl => match us, hl with | [_, _, _, _, _], _ => rfl
theorem sc_law_ended : FnScope ["_law_box_here", "_law_bench", "_law_held", "_law_many", "_law_past", "_law_deep", "_law_way"] ["_law_box_here", "_law_bench", "_law_held", "_law_many", "_law_past", "_law_deep", "_law_way"] (defScope sLawEnded) := ⟨rfl, rfl, rfl, by decide +kernel, rfl, by decide +kernel, by decide +kernel⟩
theorem ok_law_ended (T : Txt K mg) (j k : Nat) (hk : 10 ≤ k) (FW : FnG P w K mg base CX0 k (ga K "_law_deeds_within") (fdAt K (ga K "_law_deeds_within")) ["_law_box_here", "_law_bench", "_law_many", "_law_past", "_law_deep"] (spWithin K j)) :
    FnG P w K mg base (L2.CX P w) (k + 1) (ga K "_law_ended") (fdAt K (ga K "_law_ended")) ["_law_box_here", "_law_bench", "_law_held", "_law_many", "_law_past", "_law_deep", "_law_way"] (spEnded K j) := by
  refine okG T.f_law_ended sc_law_ended (fun vs H Q E h => ?_) (fun cdv A outer s H vs Q E hG hcd hr h => ?_)
  · obtain ⟨bx, b, pl, n, c, f, G, sts, st, way, rfl, _⟩ := h
    rfl
  obtain ⟨bx, b, pl, n, c, f, G, sts, st, way, rfl, hw4, h2, h4, hc, hf, hw, q⟩ := h
  refine ⟨_, (pss_cons (ps_if (PW.pt (pw_or (pt_not (pt_val (pe_callG FW hG (hr.mono (by omega)) rfl T.g_law_deeds_within T.f_law_deeds_within.kp (bd_law_within T) .nil pass0 (pa_cons (pv 0) (pa_cons (pv 2) (pa_cons (pv 3) (pa_cons (pv 4) (pa_cons (pv 5) pa_nil))))) (by decide) rfl rfl))) (pw_or1 (pt_not (pt_val (c_law_look T hG (hr.mono (by omega)) (pa_cons (pv 1) (pa_cons (pv 3) (pa_cons (pv 4) pa_nil))))))))) (pss_one (ps_ret pe_str)) pss_nil)
    (pss_cons (ps_if (pt_cmpR op_eq (pv 6) pe_int (nomark _)) (pss_one (ps_raise rfl (takes_of rfl rfl rfl rfl) (pmk_exc excClass_KeyError ty_KeyError rfl T.z_KeyError bt_KeyError (pa_cons (pv 3) pa_nil)))) pss_nil)
    (pss_cons (ps_if (pt_cmpR op_eq (pv 6) pe_int (nomark _)) (pss_one (ps_expr (m_drop T (hr.mono (by omega)) pass_own (pv 2) (pa_cons pe_str pa_nil)))) pss_nil)
    (pss_one (ps_ret (pe_ix ix_list (pe_lst (pa_cons (pe_lst pa_nil) (pa_cons pe_int (pa_cons pe_str pa_nil)))) (pe_op op_sub (pv 6) pe_int) (fun _ _ => rfl))))))), ?_⟩
  refine ⟨_, rfl, _, rfl, _, rfl, _, rfl, _, rfl, bx, b, pl, n, c, f, G, sts, st, rfl, h2, h4, hc, hf, hw, fun G2 H2 sts2 st2 g w2 => ⟨_, rfl, iteF' rfl ?_⟩⟩
  refine ⟨_, rfl, _, rfl, _, rfl, b, pl, n, c + 4, G2, sts2, st2, rfl, h2, h4, w2.sG, w2.bench, w2.past, w2.ok, by omega, fun H5 s5 => ⟨_, rfl, iteF' rfl ?_⟩⟩
  obtain ⟨q0, q1, q2⟩ := q G2 H2 sts2 st2 g w2
  have w5 := w2.same s5
  have hst := w5.ok.all st2 (List.mem_append_right _ (List.mem_singleton.mpr rfl))
  have hl6 := hst.len6
  have hsl : sts2.length ≤ 44 := by
    have := w5.ok.len
    rw [List.length_append, List.length_singleton] at this
    omega
  obtain ⟨th, pa, pvB, kvB, ⟨dx, hb⟩, hth, hkv, hpa, hpast⟩ := w5.bench.ex
  by_cases e0 : way = 0
  · subst e0
    refine ⟨_, rfl, rfl, _, rfl, ?_⟩
    refine iteT' rfl ?_
    exact ⟨_, rfl, by show 1 ≤ sizeLine; decide, fun d => q0 rfl d H5 s5⟩
  refine ⟨_, rfl, rfl, _, rfl, iteF' (decide_eq_false fun z => by have := V.int.inj z; omega) ?_⟩
  by_cases e1 : way = 1
  · subst e1
    refine ⟨_, rfl, rfl, _, rfl, ?_⟩
    refine iteT' rfl ?_
    refine ⟨_, rfl, b, dx, _, rfl, hb, bm_none (by decide +kernel) (by decide +kernel) (by decide +kernel), b, n, Str.ofString "nothere", G2, sts2, st2, rfl, w5.bench, w5.sG, w5.gb, hst.2, by omega, by omega, fun _ e ne => q1 rfl e H5 s5 ne, fun t ht => ?_⟩
    have hm := (hst.1 _ (PySem.mem_of_lookup ht)).2.2
    have hc2 : nameL.contains (Str.ofString "nothere") = true := List.contains_iff_mem.mpr hm
    rw [show nameL.contains (Str.ofString "nothere") = false by decide +kernel] at hc2
    cases hc2
  refine ⟨_, rfl, rfl, _, rfl, iteF' (decide_eq_false fun z => by have := V.int.inj z; omega) ?_⟩
  refine ⟨Nat.zero_le _, fun p np => ⟨by show 3 ≤ sizeLine; decide, fun L nL => ?_⟩⟩
  have s6 := same_new (o := .lst []) np
  have s7 := s6.trans (same_new (o := .lst [V.ref p, V.int 0, V.str (Str.ofString "")]) nL)
  have e2 : (way : Int) - 2 = ((way - 2 : Nat) : Int) := by omega
  have hp : upd (upd H5 p (.lst [])) L (.lst [V.ref p, V.int 0, V.str (Str.ofString "")]) p = some (.lst []) := same_new (o := .lst [V.ref p, V.int 0, V.str (Str.ofString "")]) nL _ _ (show upd H5 p (.lst []) p = _ from upd_same)
  rcases (show way = 2 ∨ way = 3 ∨ way = 4 by omega) with e | e | e
  · refine ⟨_, rfl, _, _, rfl, rfl, L, _, _, V.ref p, rfl, rfl, SqL.of upd_same, by rw [e2]; exact atI_nat (by rw [e]; rfl), ?_⟩
    exact q2 (by omega) _ _ (s5.trans s7) (by rw [e]; exact .lst hp .nil)
  · refine ⟨_, rfl, _, _, rfl, rfl, L, _, _, V.int 0, rfl, rfl, SqL.of upd_same, by rw [e2]; exact atI_nat (by rw [e]; rfl), ?_⟩
    exact q2 (by omega) _ _ (s5.trans s7) (by rw [e]; exact .int 0)
  · refine ⟨_, rfl, _, _, rfl, rfl, L, _, _, V.str (Str.ofString ""), rfl, rfl, SqL.of upd_same, by rw [e2]; exact atI_nat (by rw [e]; rfl), ?_⟩
    exact q2 (by omega) _ _ (s5.trans s7) (by rw [e]; exact .str _)
end
end K57
/-! L24 -/
namespace K57
open PySem PySem.Spec PyProof.Rows L2 He
def triedD (n : Nat) : Nat → PyData
  | 0 => .list [.str (Str.ofString "key"), .int n]
  | 1 => .list [.str (Str.ofString "unknown"), .str (Str.ofString "nothere")]
  | w => wayD w
section
variable {P : Program} {w : World} {K : PySem.W.Frag} {mg : Str → Option Value} {base : Heap}
theorem code_tried (T : Txt K mg) : (fdAt K (ga K "_law_tried")).code = .ref (lamC K) := by
  obtain ⟨oc, od, dV, kV, doc, pm, an, cdv, ct, osl, efd, lk, hcd, _, _⟩ := T.f_law_tried.ex
  obtain ⟨c, e⟩ := codeIn_ref hcd
  subst e
  have e2 : (fdAt K (d_law_tried.at_ K)).code = .ref c := by
    rw [efd] <;> rfl
  have e3 : codeOf K ("_law_tried", none) = c := codeOf_eq (p := ("_law_tried", none)) lk e2
  show (fdAt K (d_law_tried.at_ K)).code = .ref (codeOf K ("_law_tried", none))
  rw [e3, e2]
def spTried (K : PySem.W.Frag) (j : Nat) : Sp := fun vs H Q _ => ∃ (bx b pl : Addr) (n c : Nat) (f : Int) (G : Hp) (sts : List State) (st : State) (way : Nat), vs = [.ref bx, .ref b, .int n, .ref pl, .int j, .int way] ∧ way ≤ 4 ∧ 2 ≤ n ∧ n ≤ 4 ∧ c + 4 * (j + 1) ≤ 40 ∧ costD j ≤ f ∧ Wd K G H bx b pl n c f sts st ∧
  ∀ v G2 H2, Go (M4 K bx b pl) G H G2 H2 → BSt K G2 H2 b n sts st → Box H2 bx (f - costD j) → LamX.TabS H2 (PTb K) (qLam K) → Dq H2 v (triedD n way) → Q v H2
/-- the lambda's table has grown -/
theorem Wd.tabled {G H H1 : Hp} {bx b pl : Addr} {n c : Nat} {f : Int} {sts : List State} {st : State} (h : Wd K G H bx b pl n c f sts st) (e : ExtB (PTb K) H H1) (t : LamX.TabS H1 (PTb K) (qLam K)) : Wd K G H1 bx b pl n c f sts st ∧ Go (M4 K bx b pl) G H G H1 := by
  obtain ⟨ps0, h0⟩ := h.tbl
  obtain ⟨dxb, fsb, hb⟩ := h.ins
  obtain ⟨sd, r, hp⟩ := h.lstP
  obtain ⟨x, r2, hx⟩ := h.lstX
  have nb : b ≠ PTb K := fun z => by rw [z, h0] at hb; cases hb
  have np : pl ≠ PTb K := fun z => by rw [z, h0] at hp; cases hp
  have nx : bx ≠ PTb K := fun z => by rw [z, h0] at hx; cases hx
  have nG : ∀ p o, G p = some o → p ≠ PTb K := fun p o q z => by rw [z, h.gt] at q; cases q
  have sG : Same G H1 := fun p o q => e p o (nG p o q) (h.sG p o q)
  obtain ⟨ps1, h1, _⟩ := id t
  have g : Go (M4 K bx b pl) G H G H1 := by
    refine ⟨fun p o hm q => e p o (fun z => hm (by rw [z]; simp)) q, fun p q => ?_, fun _ _ q => q, sG, fun _ _ q _ => .inl q, fun p xs q hn => ?_⟩
    · by_cases hp : p = PTb K
      · rw [hp]
        exact ne_none h1
      · obtain ⟨o, q2⟩ := some_of q
        exact ne_none (e p o hp q2)
    · by_cases hp : p = PTb K
      · rw [hp, h1] at q
        cases q
      · obtain ⟨o, q2⟩ := some_of hn
        rw [e p o hp q2] at q
        rw [q2, q]
  refine ⟨⟨sG, h.bench.mono (Same.refl G) fun o q => e _ _ nb q, h.past.mono (Same.refl G) fun o q => e _ _ np q, h.ok, ?_, t, h.gb, h.gp, h.gx, h.gt⟩, g⟩
  obtain ⟨x, y, z, q, r⟩ := h.box
  exact ⟨x, y, z, e _ _ nx q, r⟩
def tTr (K : PySem.W.Frag) (j : Nat) (W : WX) : TS := tRet (fun σ H Q => tTried K (lamT K) (qLam K) (tVar 1) (fun E => tCall (spEnded K j) [] E (tCons (tVar 0) (tCons (tVar 1) (tCons (tVar 7) (tCons (tVar 2) (tCons (tVar 3) (tCons (tVar 4) (tCons (tVar 5) tNil)))))))) (WE W σ) σ H Q)
theorem bd_law_ended {K : PySem.W.Frag} {mg : Str → Option Value} (T : Txt K mg) : Binds K (fdAt K (ga K "_law_ended")) ["_law_box_here", "_law_bench", "_law_held", "_law_many", "_law_past", "_law_deep", "_law_way"] [] := T.f_law_ended.bindsN fun _ _ _ _ _ _ us hl => match us, hl with | [_, _, _, _, _, _, _], _ => rfl
theorem sc_law_tried : FnScope ["_law_box_here", "_law_bench", "_law_many", "_law_past", "_law_deep", "_law_way", "e"] ["_law_box_here", "_law_bench", "_law_many", "_law_past", "_law_deep", "_law_way"] (defScope sLawTried) := ⟨rfl, rfl, rfl, by decide +kernel, rfl, by decide +kernel, by decide +kernel⟩
theorem ok_law_tried (T : Txt K mg) (TB : LamX.TabB base mg (lamC K) (lamT K)) (j k : Nat) (hk : 10 ≤ k) (FE : FnG P w K mg base (L2.CX P w) k (ga K "_law_ended") (fdAt K (ga K "_law_ended")) ["_law_box_here", "_law_bench", "_law_held", "_law_many", "_law_past", "_law_deep", "_law_way"] (spEnded K j)) :
    FnG P w K mg base CX0 (k + 3) (ga K "_law_tried") (fdAt K (ga K "_law_tried")) ["_law_box_here", "_law_bench", "_law_many", "_law_past", "_law_deep", "_law_way"] (spTried K j) := by
  refine okG T.f_law_tried sc_law_tried (fun vs H Q E h => ?_) (fun cdv A outer s H vs Q E hG hcd hr h => ?_)
  · obtain ⟨bx, b, pl, n, c, f, G, sts, st, way, rfl, _⟩ := h
    rfl
  obtain ⟨bx, b, pl, n, c, f, G, sts, st, way, rfl, hw4, h2, h4, hc, hf, hw, q⟩ := h
  have hcode : cdv = .ref (lamC K) := hcd.symm.trans (code_tried T)
  refine ⟨_, PSs.nox (pss_one (TryX.ps_try_mix (tb := fun W => tTr K j W) rfl rfl sc_law_tried.nd takes0 (fun W pn xe tk _ => (pss_one (ps_ret ?_)))
    (TryX.HdsX.one ⟨rfl, by decide, .inr ⟨T.z_KeyError, bt_KeyError, by intro z; cases z⟩⟩ (fun a oe cls d pn hz hf => (pss_one (ps_ret (pe_lst (pa_cons pe_str (pa_cons (pv 2) pa_nil))))))
    (TryX.HdsX.as_ (i := 6) rfl rfl ⟨rfl, by decide, .inl T.g_UnknownName⟩ (fun a oe cls d pn hz hf => (pss_one (ps_ret (pe_lst (pa_cons pe_str (pa_cons (pe_xf (xf_UnknownName T) T.xn_UnknownName hz hf (pv 6)) pa_nil))))))
    TryX.HdsX.nil)))), ?_⟩
  · refine pe_tried (K := K) (c := lamC K) (PT := lamT K) (k := k) (pr := "_law_held") (t := fun E => tCall (spEnded K j) [] E (tCons (tVar 0) (tCons (tVar 1) (tCons (tVar 7) (tCons (tVar 2) (tCons (tVar 3) (tCons (tVar 4) (tCons (tVar 5) tNil)))))))) T (pv 1) (hr.mono (by omega)) (by omega) (fun σ => passAt tk σ) TB hcode ?_ ?_ ?_ ?_ ?_
    · exact WX.lam1_by (sc := d_law_tried.scope) (by decide +kernel)
    · exact (by decide +kernel : Str.ofString "_law_held" ∉ (["_law_box_here", "_law_bench", "_law_many", "_law_past", "_law_deep", "_law_way", "e"] : List Str))
    · rfl
    · intros
      rfl
    · exact fun A outer s H E f c' hA hr2 => pe_callG FE (hA.trans hG) hr2 rfl T.g_law_ended T.f_law_ended.kp (bd_law_ended T) .nil (passes_call (W := fun cls d _ H => E cls d H) (takes_of rfl rfl rfl rfl) fun _ _ _ _ h => h) (pa_cons (pv 0) (pa_cons (pv 1) (pa_cons (pv 7) (pa_cons (pv 2) (pa_cons (pv 3) (pa_cons (pv 4) (pa_cons (pv 5) pa_nil))))))) (by decide) rfl rfl
  obtain ⟨th, pa, pvB, kvB, ⟨dx, hb⟩, hth, hkv, hpa, hpast⟩ := hw.bench.ex
  refine ⟨_, rfl, b, dx, n, th, pa, rfl, hb, hw.tab, fun H2 e2 t2 H3 x dx3 s3 nx hx3 => ?_⟩
  obtain ⟨w2, g2⟩ := hw.tabled e2 t2
  have w3 := w2.same s3
  have g3 := g2.same s3
  obtain ⟨dxb2, fsb2, hb2⟩ := w2.ins
  obtain ⟨sd2, rp2, hp2⟩ := w2.lstP
  obtain ⟨xx2, rx2, hx2⟩ := w2.lstX
  obtain ⟨ps2, ht2⟩ := w2.tbl
  have xb : x ≠ b := fun z => by rw [z, hb2] at nx; cases nx
  have xM : x ∉ M4 K bx b pl := fun z => by
    simp only [List.mem_cons, List.not_mem_nil, or_false] at z
    rcases z with z | z | z | z
    · rw [z, hx2] at nx; cases nx
    · rw [z, hb2] at nx; cases nx
    · rw [z, hp2] at nx; cases nx
    · rw [z, ht2] at nx; cases nx
  refine ⟨_, rfl, _, rfl, _, rfl, _, rfl, _, rfl, _, rfl, _, rfl, ?_⟩
  refine ⟨bx, b, pl, n, c, f, G, sts, st, way, rfl, hw4, h2, h4, hc, hf, w3, fun G4 H4 sts4 st4 g4 w4 => ?_⟩
  have gg := g3.then g4
  have hx4 := g4.keep x _ xM hx3
  obtain ⟨th4, pa4, _, _, ⟨dx4, hb4⟩, _⟩ := w4.bench.ex
  obtain ⟨ps4, ht4⟩ := w4.tbl
  have tb : PTb K ≠ b := fun z => by rw [z, hb4] at ht4; cases ht4
  have exit_ : ∀ (H5 : Hp) (kv ev tv : V) (Q' : VK), Same H4 H5 → Q' .non (upd H5 b (.ins (ga K "Bench") dx4 (bFs n th pa))) → spExit K [.ref x, kv, ev, tv] H5 Q' E0 := fun H5 kv ev tv Q' s5 hq => ⟨x, dx3, b, dx4, n, th4, pa4, th, pa, kv, ev, tv, rfl, s5 _ _ hx4, s5 _ _ hb4, xb, hq⟩
  have fin : ∀ (H5 H7 : Hp) (v : V), Same H4 H5 → Same (upd H5 b (.ins (ga K "Bench") dx4 (bFs n th pa))) H7 → Dq H7 v (triedD n way) → Q v H7 := fun H5 H7 v s5 s7 hv => by
    refine q v G4 H7 (((gg.same s5).put (.inl (by simp)) w4.gb).same s7) ⟨th, pa, pvB, kvB, ⟨dx4, s7 _ _ upd_same⟩, gg.sub _ _ hth, hkv.mono gg.sub, gg.sub _ _ hpa, hpast.mono gg.sub⟩ ?_ ?_ hv
    · obtain ⟨x', y', z', e', r'⟩ := w4.box
      exact ⟨x', y', z', s7 _ _ (by rw [upd_ne (Ne.symm w4.bbx)]; exact s5 _ _ e'), r'⟩
    · refine tab_keep w4.tab fun p o e n1 n2 => s7 _ _ ?_
      rw [upd_ne (fun z => by rw [z, hb4] at e; cases e; exact n2 _ _ _ rfl)]
      exact s5 _ _ e
  refine ⟨fun e0 d H5 s5 => ?_, fun e1 e H5 s5 ne => ?_, fun e2 v H5 s5 hv => ?_⟩
  · subst e0
    refine ⟨⟨.ty "KeyError", rfl⟩, fun kv ev tv => exit_ H5 kv ev tv _ s5 ⟨rfl, true, T.e_key_key, (fun _ a na => ?_), fun z => nomatch z⟩⟩
    refine ⟨_, rfl, by show 2 ≤ sizeLine; decide, fun p np => ?_⟩
    exact fin H5 _ _ s5 (same_new np) (.lst upd_same (.cons (.str _) (.cons (.int _) .nil)))
  · subst e1
    have s6 : Same H4 (upd H5 e (.xd [("name", .str (Str.ofString "nothere"))])) := s5.trans (same_new ne)
    refine ⟨⟨.ref (ga K "UnknownName"), rfl⟩, fun kv ev tv => exit_ _ kv ev tv _ s6 ⟨rfl, false, T.e_UnknownName_key, (fun z => nomatch z), fun _ => ⟨true, T.e_UnknownName_UnknownName, (fun _ a na => ?_), fun z => nomatch z⟩⟩⟩
    have be : e ≠ b := fun z => by rw [z, s5 _ _ hb4] at ne; cases ne
    refine ⟨_, rfl, rfl, rfl, e, [("name", .str (Str.ofString "nothere"))], .str (Str.ofString "nothere"), rfl, (by rw [upd_ne be]; exact upd_same), (by simp [List.lookup]), by show 2 ≤ sizeLine; decide, fun p np => ?_⟩
    exact fin _ _ _ s6 (same_new np) (.lst upd_same (.cons (.str _) (.cons (.str _) .nil)))
  · refine exit_ H5 _ _ _ _ s5 (fin H5 _ v s5 (Same.refl _) ?_)
    have hb5 := s5 _ _ hb4
    have e3 : triedD n way = wayD way := by
      rcases (show way = 2 ∨ way = 3 ∨ way = 4 by omega) with e | e | e <;> rw [e] <;> rfl
    rw [e3]
    rcases (show way = 2 ∨ way = 3 ∨ way = 4 by omega) with e | e | e
    · rw [e] at hv ⊢
      have hv : Dq H5 v (.list []) := hv
      obtain ⟨a, xs, e4, h5, h6⟩ := Dq.lst_ hv
      subst e4
      cases h6
      refine .lst ?_ .nil
      rw [upd_ne (fun z => by rw [z, hb5] at h5; cases h5)]
      exact h5
    · rw [e] at hv ⊢
      have hv : Dq H5 v (.int 0) := hv
      cases hv
      exact .int 0
    · rw [e] at hv ⊢
      have hv : Dq H5 v (.str (Str.ofString "")) := hv
      cases hv
      exact .str _
end
end K57
/-! L25 -/
namespace K57
open PySem PySem.Spec PyProof.Rows L2 He
theorem shown_small {n : Nat} (h4 : n ≤ 4) : PyData.showable (.int n) = true ∧ PyData.hasDict (.int n) = false ∧ (PyData.int n).depth ≤ 5 ∧ PyData.leavesShort 40 (.int n) = true ∧ (PyData.int n).weight ≤ 1000 := by
  rcases (show n = 0 ∨ n = 1 ∨ n = 2 ∨ n = 3 ∨ n = 4 by omega) with e | e | e | e | e <;> subst e <;> exact ⟨by decide +kernel, by decide +kernel, by decide +kernel, by decide +kernel, by decide +kernel⟩
theorem shown_tried {n m : Nat} (h4 : n ≤ 4) (hm : m ≤ 4) : Shown (triedD n m) := by
  rcases (show m = 0 ∨ m = 1 ∨ m = 2 ∨ m = 3 ∨ m = 4 by omega) with e | e | e | e | e <;> subst e
  · obtain ⟨a1, a2, a3, a4, a5⟩ := shown_small h4
    exact shown_two (by decide +kernel) a1 a2 a3 a4 a5
  · exact shown_two (by decide +kernel) (by decide +kernel) (by decide +kernel) (by decide +kernel) (by decide +kernel) (by decide +kernel)
  · show Shown (wayD 2)
    exact ⟨by decide +kernel, by decide +kernel, by decide +kernel, by decide +kernel, by decide +kernel⟩
  · show Shown (wayD 3)
    exact ⟨by decide +kernel, by decide +kernel, by decide +kernel, by decide +kernel, by decide +kernel⟩
  · show Shown (wayD 4)
    exact ⟨by decide +kernel, by decide +kernel, by decide +kernel, by decide +kernel, by decide +kernel⟩
section
variable {P : Program} {w : World} {K : PySem.W.Frag} {mg : Str → Option Value} {base : Heap}
theorem bd_law_tried {K : PySem.W.Frag} {mg : Str → Option Value} (T : Txt K mg) : Binds K (fdAt K (ga K "_law_tried")) ["_law_box_here", "_law_bench", "_law_many", "_law_past", "_law_deep", "_law_way"] [] := T.f_law_tried.bindsN fun _ _ _ _ _ _ us hl => match us, hl with | [_, _, _, _, _, _], _ => rfl
/-- a list of its own of the states -/
theorem Wd.copy {G H : Hp} {bx b pl p : Addr} {n c : Nat} {f : Int} {sts : List State} {st : State} {vs : List V} (h : Wd K G H bx b pl n c f sts st) (np : H p = none) (hv : H pl = some (.lst vs)) : Wd K G (upd H p (.lst vs)) bx b p n c f sts st := by
  have h1 := h.same (same_new (o := .lst vs) np)
  obtain ⟨ws, e, hp⟩ := h.past
  rw [hv] at e
  cases e
  exact ⟨h1.sG, h1.bench, ⟨vs, upd_same, hp⟩, h1.ok, h1.box, h1.tab, h1.gb, same_none h.sG np, h1.gx, h1.gt⟩
theorem lpast_eq {G H : Hp} {vs : List V} {xs : List State} (h : LPast G vs xs) : Paired (EqV K H 1) vs vs := by
  induction h with
  | nil => exact .nil
  | cons a r ih =>
    obtain ⟨sd, _, e, _⟩ := a
    subst e
    exact .cons (.inr (.inl ⟨sd, rfl, rfl⟩)) ih
theorem sc_law_tried_right : FnScope ["_law_box_here", "_law_bench", "_law_many", "_law_past", "_law_deep", "_law_way", "_law_before", "_law_due"] ["_law_box_here", "_law_bench", "_law_many", "_law_past", "_law_deep"] (defScope sLawTriedRight) := ⟨rfl, rfl, rfl, by decide +kernel, rfl, by decide +kernel, by decide +kernel⟩
theorem ok_law_tried_right (T : Txt K mg) (j k : Nat) (hk : 10 ≤ k) (FT : FnG P w K mg base CX0 k (ga K "_law_tried") (fdAt K (ga K "_law_tried")) ["_law_box_here", "_law_bench", "_law_many", "_law_past", "_law_deep", "_law_way"] (spTried K j)) :
    FnG P w K mg base CX0 (k + 1) (ga K "_law_tried_right") (fdAt K (ga K "_law_tried_right")) ["_law_box_here", "_law_bench", "_law_many", "_law_past", "_law_deep"] (spTR K j) := by
  refine okG T.f_law_tried_right sc_law_tried_right (fun vs H Q E h => ?_) (fun cdv A outer s H vs Q E hG hcd hr h => ?_)
  · obtain ⟨bx, b, pl, n, c, f, G, sts, st, rfl, _⟩ := h
    rfl
  obtain ⟨bx, b, pl, n, c, f, G, sts, st, rfl, h2, h4, hc, hf, hw, q⟩ := h
  refine ⟨_, PSs.nox (pss_cons (ps_par (i := 5) (j := 6) (by rfl) sc_law_tried_right.nd rfl rfl (by decide) rfl rfl (pa_cons (c_law_take T (hr.mono (by omega)) (pa_cons (pv 0) (pa_cons pe_int pa_nil))) (pa_cons (t_list call_list_of T (pa_cons (pv 3) pa_nil)) pa_nil)) (by rfl))
    (pss_cons (ps_set (i := 7) sc_law_tried_right.nd rfl (Or.inl rfl) (pe_ix ix_list (pe_lst (pa_cons (pe_lst (pa_cons pe_str (pa_cons (pv 2) pa_nil))) (pa_cons (pe_lst (pa_cons pe_str (pa_cons pe_str pa_nil))) (pa_cons (pe_lst pa_nil) (pa_cons pe_int (pa_cons pe_str pa_nil)))))) (pv 5) (fun _ _ => rfl)))
    (pss_cons (ps_if (pt_cmpR op_ne (b_repr (call_reprD hG hr.units) T (pa_cons (pe_callG FT hG (hr.mono (by omega)) rfl T.g_law_tried T.f_law_tried.kp (bd_law_tried T) .nil pass0 (pa_cons (pv 0) (pa_cons (pv 1) (pa_cons (pv 2) (pa_cons (t_list call_list_of T (pa_cons (pv 3) pa_nil)) (pa_cons (pv 4) (pa_cons (pv 5) pa_nil)))))) (by decide) rfl rfl) pa_nil)) (b_repr (call_reprD hG hr.units) T (pa_cons (pv 7) pa_nil)) (nomark _)) (pss_one (ps_ret pe_bl)) pss_nil)
    (pss_one (ps_ret (pe_and (pe_cmpR (op_eqV hr.units) (pv 3) (pv 6) (nomark _)) (pe_one (c_law_look T hG (hr.mono (by omega)) (pa_cons (pv 1) (pa_cons (pv 2) (pa_cons (pv 3) pa_nil))))))))))), ?_⟩
  have hcp := costD_pos j
  refine ⟨_, rfl, bx, 5, f, rfl, by decide, by decide, by omega, hw.box, fun way H1 d0 d1 u1 b1 => ?_⟩
  obtain ⟨w1, g1⟩ := hw.draw u1 b1
  obtain ⟨m, rfl⟩ : ∃ m : Nat, way = m := ⟨way.toNat, by omega⟩
  have hm4 : m ≤ 4 := by omega
  obtain ⟨vs, hpl, hpp⟩ := w1.past
  refine ⟨_, rfl, pl, vs, rfl, .inl (SqL.of hpl), fun bf nbf => ?_⟩
  have s2 := same_new (o := .lst vs) nbf
  have hbf : upd H1 bf (.lst vs) bf = some (.lst vs) := upd_same
  refine ⟨_, _, rfl, ?_⟩
  generalize upd H1 bf (.lst vs) = H2 at s2 hbf ⊢
  refine ⟨_, rfl, by show 2 ≤ sizeLine; decide, fun p1 n1 => ⟨by show 2 ≤ sizeLine; decide, fun p2 n2 => ⟨Nat.zero_le _, fun p3 n3 => ⟨by show 5 ≤ sizeLine; decide, fun L nL => ⟨_, rfl, ?_⟩⟩⟩⟩⟩
  have t1 := same_new (o := .lst [.str (Str.ofString "key"), .int n]) n1
  have t2 := same_new (o := .lst [.str (Str.ofString "unknown"), .str (Str.ofString "nothere")]) n2
  have t3 := same_new (o := .lst []) n3
  have t4 := same_new (o := .lst [.ref p1, .ref p2, .ref p3, .int 0, .str (Str.ofString "")]) nL
  have due : ∃ v, ([.ref p1, .ref p2, .ref p3, .int 0, .str (Str.ofString "")] : List V)[m]? = some v ∧ ∀ H8 : Hp, (∀ p xs, H2 p = none → (upd (upd (upd (upd H2 p1 (.lst [.str (Str.ofString "key"), .int n])) p2 (.lst [.str (Str.ofString "unknown"), .str (Str.ofString "nothere")])) p3 (.lst [])) L (.lst [.ref p1, .ref p2, .ref p3, .int 0, .str (Str.ofString "")])) p = some (.lst xs) → H8 p = some (.lst xs)) → Dq H8 v (triedD n m) := by
    rcases (show m = 0 ∨ m = 1 ∨ m = 2 ∨ m = 3 ∨ m = 4 by omega) with e | e | e | e | e <;> subst e
    · exact ⟨_, rfl, fun H8 k8 => .lst (k8 _ _ n1 (t4 _ _ (t3 _ _ (t2 _ _ upd_same)))) (.cons (.str _) (.cons (.int _) .nil))⟩
    · exact ⟨_, rfl, fun H8 k8 => .lst (k8 _ _ (same_none t1 n2) (t4 _ _ (t3 _ _ upd_same))) (.cons (.str _) (.cons (.str _) .nil))⟩
    · exact ⟨_, rfl, fun H8 k8 => .lst (k8 _ _ (same_none (t1.trans t2) n3) (t4 _ _ upd_same)) .nil⟩
    · exact ⟨_, rfl, fun H8 k8 => .int 0⟩
    · exact ⟨_, rfl, fun H8 k8 => .str _⟩
  obtain ⟨v, hat, hv⟩ := due
  refine ⟨L, _, _, v, rfl, rfl, SqL.of upd_same, atI_nat hat, ?_⟩
  have s6 := s2.trans (t1.trans (t2.trans (t3.trans t4)))
  have hbf6 := (t1.trans (t2.trans (t3.trans t4))) _ _ hbf
  generalize upd (upd (upd (upd H2 p1 _) p2 _) p3 _) L _ = H6 at hv s6 hbf6 ⊢
  have w6 := w1.same s6
  have g6 := g1.same s6
  have hpl6 := s6 _ _ hpl
  refine ⟨_, rfl, _, rfl, _, rfl, _, rfl, pl, vs, rfl, .inl (SqL.of hpl6), fun pl2 np2 => ?_⟩
  have s7 := same_new (o := .lst vs) np2
  refine ⟨_, rfl, _, rfl, bx, b, pl2, n, c, f - 1, G, sts, st, m, rfl, hm4, h2, h4, hc, by omega, w6.copy np2 hpl6, fun v2 G2 H8 g8 hS8 hB8 hT8 hv8 => ?_⟩
  obtain ⟨dxb, fsb, hb6⟩ := w6.ins
  obtain ⟨xx, rx, hx6⟩ := w6.lstX
  obtain ⟨ps, ht6⟩ := w6.tbl
  have keepL : ∀ p xs, p ≠ bx → H6 p = some (.lst xs) → H8 p = some (.lst xs) := fun p xs hp e => g8.keep p _ (fun z => by
    simp only [List.mem_cons, List.not_mem_nil, or_false] at z
    rcases z with z | z | z | z
    · exact hp z
    · rw [z, hb6] at e; cases e
    · rw [z, np2] at e; cases e
    · rw [z, ht6] at e; cases e) (s7 _ _ e)
  have gg : Go (M4 K bx b pl) G H G2 H8 := (g6.same s7).trans g8 fun p hp => by
    simp only [List.mem_cons, List.not_mem_nil, or_false] at hp
    rcases hp with z | z | z | z
    · exact .inl (by rw [z]; simp)
    · exact .inl (by rw [z]; simp)
    · exact .inr (by rw [z]; exact g6.fresh np2)
    · exact .inl (by rw [z]; simp)
  have hpl8 := keepL pl vs w6.pbx hpl6
  obtain ⟨x0, y0, z0, hx1, _⟩ := w1.box
  have bfx : bf ≠ bx := Ne.symm (ne_of_none hx1 nbf)
  have hbf8 := keepL bf vs bfx hbf6
  have hv := hv H8 fun p xs n e => keepL p xs (fun z => by rw [z, s2 _ _ hx1] at n; cases n) e
  have hsh := shown_tried (n := n) h4 hm4
  refine ⟨v2, triedD n m, rfl, hv8.dp, hsh, _, rfl, v, triedD n m, rfl, hv.dp, hsh, rfl, _, rfl, iteF' (by simp) ?_⟩
  obtain ⟨dxb0, fsb0, hb0⟩ := hw.ins
  obtain ⟨xx0, rx0, hx0⟩ := hw.lstX
  obtain ⟨sdp0, rp0, hp0⟩ := hw.lstP
  obtain ⟨ps0, ht0⟩ := hw.tbl
  have w8 : Wd K G2 H8 bx b pl n c (f - 1 - costD j) sts st := ⟨gg.on, hS8, ⟨vs, hpl8, hpp.mono gg.sub⟩, hw.ok, hB8, hT8, gg.off hw.gb hb0, gg.off hw.gp hp0, gg.off hw.gx hx0, gg.off hw.gt ht0⟩
  refine ⟨_, rfl, _, rfl, 1, by decide, .inl ⟨pl, bf, vs, vs, rfl, rfl, SqL.of hpl8, SqL.of hbf8, lpast_eq hpp⟩, true, rfl, ?_⟩
  refine iteT' rfl ?_
  exact ⟨_, rfl, _, rfl, _, rfl, b, pl, n, c, G2, sts, st, rfl, h2, h4, w8.sG, w8.bench, w8.past, w8.ok, by omega, fun H9 s9 => q G2 H9 (gg.same s9) (w8.same s9)⟩
end
end K57
/-! L26 -/
namespace K57
open PySem PySem.Spec PyProof.Rows L2 He
section
variable {P : Program} {w : World} {K : PySem.W.Frag} {mg : Str → Option Value} {base : Heap}
theorem right_all (T : Txt K mg) (TB : LamX.TabB base mg (lamC K) (lamT K)) (j k : Nat) (hk : 10 ≤ k) (FT : FnG P w K mg base CX0 k (ga K "_law_tried_right") (fdAt K (ga K "_law_tried_right")) ["_law_box_here", "_law_bench", "_law_many", "_law_past", "_law_deep"] (spTRp K j)) :
    FnG P w K mg base CX0 (k + 6) (ga K "_law_tried_right") (fdAt K (ga K "_law_tried_right")) ["_law_box_here", "_law_bench", "_law_many", "_law_past", "_law_deep"] (spTR K j) :=
  ok_law_tried_right T j (k + 5) (by omega) (ok_law_tried T TB j (k + 2) (by omega) (ok_law_ended T j (k + 1) (by omega) (ok_law_within T j k hk FT)))
theorem ok_right2 (T : Txt K mg) (TB : LamX.TabB base mg (lamC K) (lamT K)) : FnG P w K mg base CX0 28 (ga K "_law_tried_right") (fdAt K (ga K "_law_tried_right")) ["_law_box_here", "_law_bench", "_law_many", "_law_past", "_law_deep"] (spTR K 2) :=
  right_all T TB 2 22 (by decide) (right_all T TB 1 16 (by decide) (right_all T TB 0 10 (by decide) FnG.never))
theorem SqL.extB {H H1 : Hp} {a : Addr} {zs : List V} {q : Str} (h : SqL K H a zs) (t : LamX.TabS H (PTb K) q) (e : ExtB (PTb K) H H1) : SqL K H1 a zs := by
  obtain ⟨ps, ht, _⟩ := t
  rcases h with (h | ⟨o, h⟩) | h
  · exact .inl (.inl (e _ _ (fun z => by rw [z, ht] at h; cases h) h))
  · exact .inl (.inr ⟨o, e _ _ (fun z => by rw [z, ht] at h; cases h) h⟩)
  · exact .inr h
theorem Wd.init {H : Hp} {bx b pl th pa sd dx : Addr} {n : Nat} {f : Int} (hx : Box H bx f) (hb : H b = some (.ins (ga K "Bench") dx (bFs n th pa))) (hth : H th = some (.dK [])) (hpa : H pa = some (.lst [])) (hsd : H sd = some (.dK [])) (hpl : H pl = some (.lst [.ref sd])) (ht : LamX.TabS H (PTb K) (qLam K)) :
    ∃ G, Wd K G H bx b pl n 0 f [] [] := by
  obtain ⟨x, y, z, hbx, _⟩ := id hx
  obtain ⟨ps, hps, _⟩ := id ht
  refine ⟨fun p => if p = th then some (.dK []) else if p = pa then some (.lst []) else if p = sd then some (.dK []) else none, ?_⟩
  have sm : Same (fun p => if p = th then some (HO.dK []) else if p = pa then some (.lst []) else if p = sd then some (.dK []) else none) H := fun p o e => by
    have e : (if p = th then some (HO.dK []) else if p = pa then some (.lst []) else if p = sd then some (.dK []) else none) = some o := e
    split at e
    · rename_i h
      rw [h, hth]; exact e
    · split at e
      · rename_i h
        rw [h, hpa]; exact e
      · split at e
        · rename_i h
          rw [h, hsd]; exact e
        · cases e
  have off : ∀ {p : Addr} {o : HO}, H p = some o → o ≠ .dK [] → o ≠ .lst [] → (if p = th then some (HO.dK []) else if p = pa then some (.lst []) else if p = sd then some (.dK []) else none) = none := fun {p o} e n1 n2 => by
    rw [if_neg (fun z => by rw [z, hth] at e; exact n1 (Option.some.inj e).symm), if_neg (fun z => by rw [z, hpa] at e; exact n2 (Option.some.inj e).symm), if_neg (fun z => by rw [z, hsd] at e; exact n1 (Option.some.inj e).symm)]
  have pt : pa ≠ th := fun z => by rw [z, hth] at hpa; cases hpa
  have gsd : (if sd = th then some (HO.dK []) else if sd = pa then some (.lst []) else if sd = sd then some (.dK []) else none) = some (.dK []) := by
    split
    · rfl
    · rw [if_neg (fun z => by rw [z, hpa] at hsd; cases hsd), if_pos rfl]
  exact ⟨sm, ⟨th, pa, [], [], ⟨dx, hb⟩, if_pos rfl, .nil, by show (if pa = th then _ else _) = _; rw [if_neg pt, if_pos rfl], .nil⟩, ⟨[.ref sd], hpl, .cons ⟨sd, [], rfl, gsd, .nil⟩ .nil⟩,
    ⟨fun st hst => by
      have e : st = [] := List.mem_singleton.mp hst
      subst e
      exact ⟨fun p hp => (nomatch hp), List.nodup_nil⟩, by decide⟩, hx, ht,
    off hb (fun z => nomatch z) (fun z => nomatch z), off hpl (fun z => nomatch z) (fun z => nomatch z), off hbx (fun z => nomatch z) (fun z => nomatch z), off hps (fun z => nomatch z) (fun z => nomatch z)⟩
/-- a drawn deed is done -/
theorem Wd.turn {G H : Hp} {bx b pl : Addr} {n c : Nat} {f : Int} {sts : List State} {st : State} (h : Wd K G H bx b pl n c f sts st) (h2 : 2 ≤ n) (h4 : n ≤ 4) (hc : c ≤ 40) (hf : 150 ≤ f) :
    ∃ sd r, H pl = some (.lst r) ∧ atI r (-1) = some (V.ref sd) ∧ ∀ Q : VK, (∀ G4 H4 sts4 st4, Go (M4 K bx b pl) G H G4 H4 → Wd K G4 H4 bx b pl n (c + 1) (f - 150) sts4 st4 → Q (.bl true) H4) →
      spDeed [.ref bx, .int n, .ref sd] H (fun v H3 => spLStep K [.ref b, .int n, .ref pl, v] H3 Q E0) E0 := by
  obtain ⟨pvs, hpl, hpp⟩ := h.past
  obtain ⟨pvs', v, ep, hp1, sd, kvs, rfl, hsd, hlpd⟩ := Paired.unsnoc hpp
  subst ep
  obtain ⟨x, r, hx⟩ := h.lstX
  obtain ⟨dxb, fsb, hb⟩ := h.ins
  have hst := h.ok.all st (List.mem_append_right _ (List.mem_singleton.mpr rfl))
  have hl6 := hst.len6
  refine ⟨sd, _, hpl, atI_last _ _, fun Q q => ?_⟩
  refine ⟨bx, sd, n, kvs, st, f, rfl, h2, h4, h.sG _ _ hsd, hlpd.mono h.sG, by omega, fun x hx => by
    obtain ⟨p, hp, e⟩ := List.mem_map.mp hx
    rw [← e]
    exact (hst.1 p hp).2.2, hf, h.box, fun v dm H3 dok ld sb b3 => ?_⟩
  obtain ⟨G3, g3, w3, hd3, ap3, i3, i4⟩ := h.deed sb b3 ld
  refine w3.step hd3 dok ap3 (fun a ha => (i3 a ha).2) i4 (fun z => by
    have := (i3 _ z).1
    rw [hx] at this
    cases this) (fun z => by
    have := (i3 _ z).1
    rw [hb] at this
    cases this) h2 h4 hc fun G4 H4 sts4 st4 g4 w4 => q G4 H4 sts4 st4 (g3.trans g4 fun m hm => ?_) w4
  rcases List.mem_cons.mp hm with e | hm
  · exact .inl (by rw [e]; simp)
  · rcases List.mem_cons.mp hm with e | hm
    · exact .inl (by rw [e]; simp)
    · exact .inr (i3 m hm).1
/-- a deed is taken back -/
theorem Wd.pop {G H : Hp} {bx b pl : Addr} {n c : Nat} {f : Int} {sts : List State} {st st' : State} (h : Wd K G H bx b pl n c f (sts ++ [st']) st) :
    ∃ vs v, H pl = some (.lst (vs ++ [v])) ∧ BSt K G (upd H pl (.lst vs)) b n (sts ++ [st']) st ∧ Same G (upd H pl (.lst vs)) ∧ ∀ G2 H2, Go [b] G (upd H pl (.lst vs)) G2 H2 → BSt K G2 H2 b n sts st' → Wd K G2 H2 bx b pl n c f sts st' ∧ Go (M4 K bx b pl) G H G2 H2 := by
  obtain ⟨pvs, hpl, hpp⟩ := h.past
  obtain ⟨vs, v, ep, hp1, hp2⟩ := Paired.unsnoc hpp
  subst ep
  obtain ⟨dxb, fsb, hb⟩ := h.ins
  obtain ⟨x0, y0, z0, hx, hr⟩ := h.box
  obtain ⟨ps, ht⟩ := h.tbl
  have g1 : Go (M4 K bx b pl) G H G (upd H pl (.lst vs)) := (Go.start h.sG).put (.inl (by simp)) h.gp
  refine ⟨vs, v, hpl, h.bench.mono (Same.refl G) fun o e => by rw [upd_ne h.bp]; exact e, g1.on, fun G2 H2 g2 hS => ?_⟩
  have gg : Go (M4 K bx b pl) G H G2 H2 := g1.trans g2 fun m hm => .inl (by rw [List.mem_singleton.mp hm]; simp)
  have kp : ∀ p o, p ≠ b → p ≠ pl → H p = some o → H2 p = some o := fun p o e1 e2 e => g2.keep p o (fun z => e1 (List.mem_singleton.mp z)) (by rw [upd_ne e2]; exact e)
  have tb : PTb K ≠ b := fun z => by rw [z, hb] at ht; cases ht
  have tp : PTb K ≠ pl := fun z => by rw [z, hpl] at ht; cases ht
  refine ⟨⟨gg.on, hS, ⟨vs, g2.keep pl _ (fun z => h.bp (List.mem_singleton.mp z).symm) upd_same, LPast.mono gg.sub hp1⟩, ⟨fun s hs => h.ok.all s (List.mem_append_left _ hs), ?_⟩, ⟨x0, y0, z0, kp _ _ (Ne.symm h.bbx) (Ne.symm h.pbx) hx, hr⟩, ?_, gg.off h.gb hb, gg.off h.gp hpl, gg.off h.gx hx, gg.off h.gt ht⟩, gg⟩
  · have := h.ok.len
    simp only [List.length_append, List.length_singleton] at this ⊢
    omega
  · exact tab_keep h.tab fun p o e n1 n2 => kp p o (fun z => by rw [z, hb] at e; cases e; exact n2 _ _ _ rfl) (fun z => by rw [z, hpl] at e; cases e; exact n1 _ rfl) e
def spLaw (K : PySem.W.Frag) : Sp := fun vs H Q _ => ∃ (a : Addr) (zs : List Int), vs = [.ref a] ∧ SqL K H a (zs.map V.int) ∧ LamX.TabS H (PTb K) (qLam K) ∧ ∀ H1, Q (.bl true) H1
theorem sc_law : FnScope ["_law_script", "_law_k", "_law_box_here", "_law_many", "_law_bench", "_law_past", "_law_turn"] ["_law_script"] (defScope sLaw) := ⟨rfl, rfl, rfl, by decide +kernel, rfl, by decide +kernel, by decide +kernel⟩
theorem ok_law (T : Txt K mg) (TB : LamX.TabB base mg (lamC K) (lamT K)) : FnG P w K mg base CX0 29 (ga K "law") (fdAt K (ga K "law")) ["_law_script"] (spLaw K) := by
  refine okG T.f_law sc_law (fun vs H Q E h => ?_) (fun cdv A outer s H vs Q E hG hcd hr h => ?_)
  · obtain ⟨a, zs, rfl, _⟩ := h
    rfl
  obtain ⟨a, zs, rfl, ha, ht, q⟩ := h
  refine ⟨_, PSs.nox (pss_cons (ps_for PassesOwn.never rfl (pi_range1 (by rfl) T.z_range (pa_cons (b_max (call_max2 rfl) T (pa_cons pe_int (pa_cons (b_min (call_min2 rfl) T (pa_cons pe_int (pa_cons (b_len call_len_seq T (pa_cons (pv 0) pa_nil)) pa_nil))) pa_nil))) pa_nil)) (pg_name (i := 1) sc_law.nd rfl (Or.inl rfl)) (pss_cons (ps_set (i := 2) sc_law.nd rfl (Or.inl rfl) (c_law_box T (hr.mono (by decide)) (pa_cons (c_law_cell T (hr.mono (by decide)) (pa_cons (pv 0) (pa_cons (pv 1) pa_nil))) pa_nil)))
    (pss_cons (ps_set (i := 3) sc_law.nd rfl (Or.inl rfl) (pe_op op_add pe_int (t_int call_int1 T (pa_cons (c_law_take T (hr.mono (by decide)) (pa_cons (pv 2) (pa_cons pe_int pa_nil))) pa_nil))))
    (pss_cons (ps_par (i := 4) (j := 5) (by rfl) sc_law.nd rfl rfl (by decide) rfl rfl (pa_cons (c_Bench T (hr.mono (by decide)) (pa_cons (pv 3) pa_nil)) (pa_cons (pe_lst (pa_cons pe_dnewK pa_nil)) pa_nil)) (by rfl))
    (pss_cons (ps_for PassesOwn.never rfl (pi_range1 (by rfl) T.z_range (pa_cons (pe_op op_add pe_int (c_law_take T (hr.mono (by decide)) (pa_cons (pv 2) (pa_cons pe_int pa_nil)))) pa_nil)) (pg_name (i := 6) sc_law.nd rfl (Or.inl rfl)) (pss_one (ps_if (pt_not (pt_val (c_law_step T hG (hr.mono (by decide)) (pa_cons (pv 4) (pa_cons (pv 3) (pa_cons (pv 5) (pa_cons (c_law_deed T (hr.mono (by decide)) (pa_cons (pv 2) (pa_cons (pv 3) (pa_cons (pe_ix ix_list (pv 5) (pe_un un_neg pe_int) (fun _ _ => rfl)) pa_nil)))) pa_nil))))))) (pss_one (ps_ret pe_bl)) pss_nil)))
    (pss_cons (ps_for PassesOwn.never rfl (pi_range1 (by rfl) T.z_range (pa_cons pe_int pa_nil)) (pg_name (i := 6) sc_law.nd rfl (Or.inl rfl)) (pss_cons (ps_if (pt_not (pt_val (pe_callG (ok_right2 T TB) hG (hr.mono (by decide)) rfl T.g_law_tried_right T.f_law_tried_right.kp (bd_TR T) .nil pass0 (pa_cons (pv 2) (pa_cons (pv 4) (pa_cons (pv 3) (pa_cons (pv 5) (pa_cons pe_int pa_nil))))) (by decide) rfl rfl))) (pss_one (ps_ret pe_bl)) pss_nil)
    (pss_one (ps_if (PW.pt (pw_or (pt_not (pt_val (c_law_step T hG (hr.mono (by decide)) (pa_cons (pv 4) (pa_cons (pv 3) (pa_cons (pv 5) (pa_cons (c_law_deed T (hr.mono (by decide)) (pa_cons (pv 2) (pa_cons (pv 3) (pa_cons (pe_ix ix_list (pv 5) (pe_un un_neg pe_int) (fun _ _ => rfl)) pa_nil)))) pa_nil))))))) (pw_or1 (pt_not (pt_val (c_law_look T hG (hr.mono (by decide)) (pa_cons (pv 4) (pa_cons (pv 3) (pa_cons (pv 5) pa_nil))))))))) (pss_one (ps_ret pe_bl)) pss_nil))))
    (pss_one (ps_for PassesOwn.never rfl (pi_range1 (by rfl) T.z_range (pa_cons (pe_op op_sub (b_len call_len_seq T (pa_cons (pv 5) pa_nil)) pe_int) pa_nil)) (pg_name (i := 6) sc_law.nd rfl (Or.inl rfl)) (pss_cons (ps_expr (pe_bm0 PySem.F.plainAttrs_list PySem.F.slot_list_pop PySem.F.type_list_pop mt_pop (pv 5)))
    (pss_one (ps_if (PW.pt (pw_or (pt_cmp (pc_notN (m_undo T (hr.mono (by decide)) pass_non (pv 4)))) (pw_or1 (pt_not (pt_val (c_law_look T hG (hr.mono (by decide)) (pa_cons (pv 4) (pa_cons (pv 3) (pa_cons (pv 5) pa_nil))))))))) (pss_one (ps_ret pe_bl)) pss_nil)))))))))))
    (pss_one (ps_ret pe_bl))), ?_⟩
  have cnt : ∀ L : Nat, ∃ m : Nat, (if (if (L : Int) < 8 then (L : Int) else 8) > 2 then (if (L : Int) < 8 then (L : Int) else 8) else 2) = (m : Int) ∧ m ≤ 8 := fun L => by
    by_cases h : (L : Int) < 8
    · rw [if_pos h]
      by_cases h2 : (L : Int) > 2
      · exact ⟨L, if_pos h2, by omega⟩
      · exact ⟨2, if_neg h2, by omega⟩
    · rw [if_neg h]
      exact ⟨8, (if_pos (by decide)).trans rfl, by omega⟩
  obtain ⟨m, em, hm8⟩ := cnt (zs.map V.int).length
  refine ⟨_, rfl, a, _, rfl, .inl ha, _, _, rfl, _, _, rfl, _, rfl, by rw [em]; omega, by rw [em]; omega, ?_⟩
  rw [em, Int.toNat_natCast]
  refine for_rng (fun i σ H' => (∃ o1 o2 o3 o4 o5 o6, σ = [some (V.ref a), o1, o2, o3, o4, o5, o6]) ∧ ExtB (PTb K) H H' ∧ LamX.TabS H' (PTb K) (qLam K)) ⟨⟨_, _, _, _, _, _, rfl⟩, fun _ _ _ e => e, ht⟩ (fun i σ H1 hi hP => ?_) (fun σ H' hP => ?_)
  · obtain ⟨⟨o1, o2, o3, o4, o5, o6, rfl⟩, x1, t1⟩ := hP
    have ha1 := K57.SqL.extB ha ht x1
    refine ⟨_, rfl, _, rfl, a, zs, i, rfl, ha1, by omega, fun cell => ⟨cell, rfl, fun bx a0 b0 nbx p0 p1 p2 => ?_⟩⟩
    have s1 := same_new (o := boxL a0 b0 0) nbx
    have hbox : Box (upd H1 bx (boxL a0 b0 0)) bx LIM := ⟨a0, b0, 0, upd_same, p0, p1, p2, by decide, by decide⟩
    refine ⟨_, rfl, bx, 3, LIM, rfl, by decide, by decide, by decide, hbox, fun d H2 d0 d1 u2 b2 => ?_⟩
    obtain ⟨n, hn⟩ : ∃ n : Nat, (2 : Int) + d = n := ⟨(2 + d).toNat, by omega⟩
    refine .inl ⟨_, rfl, _, _, rfl, rfl, ?_⟩
    dsimp only []
    rw [hn]
    have s2 : Same H1 H2 := fun p o e => by
      obtain ⟨ob, rfl⟩ := u2
      have np : p ≠ bx := ne_of_none e nbx
      rw [upd_ne np, upd_ne np]
      exact e
    clear u2 hbox s1
    refine ⟨_, rfl, fun b dx nb ndx ndb => ?_⟩
    refine ⟨b, dx, n, rfl, by omega, by omega, upd_same, fun H5 th pa k5 nth npa nthpa hth hpa hb5 => ⟨rfl, ?_⟩⟩
    have s5 : Same H2 H5 := fun p o e => k5 p o (ne_of_none e nb) (by rw [upd_ne (ne_of_none e nb), upd_ne (ne_of_none e ndx)]; exact e)
    clear k5 nth npa ndx ndb
    refine fun sd nsd => ⟨by show 1 ≤ sizeLine; decide, fun pl npl => ⟨_, _, rfl, ?_⟩⟩
    have s6 := same_new (o := .dK []) nsd
    have s7 := same_new (o := .lst [.ref sd]) npl
    have hsd : upd (upd H5 sd (.dK [])) pl (.lst [.ref sd]) sd = some (.dK []) := s7 _ _ (show upd H5 sd (.dK []) sd = _ from upd_same)
    have hpl : upd (upd H5 sd (.dK [])) pl (.lst [.ref sd]) pl = some (.lst [.ref sd]) := upd_same
    have s57 := s6.trans s7
    have npl5 : H5 pl = none := same_none s6 npl
    generalize upd (upd H5 sd (.dK [])) pl (.lst [.ref sd]) = H7 at s57 hsd hpl ⊢
    have s17 := s2.trans (s5.trans s57)
    have hbx7 : Box H7 bx (LIM - 1) := by
      obtain ⟨a', b', c', e, r⟩ := b2
      exact ⟨a', b', c', s57 _ _ (s5 _ _ e), r⟩
    obtain ⟨G, w7⟩ := Wd.init (K := K) hbx7 (s57 _ _ hb5) (s57 _ _ hth) (s57 _ _ hpa) hsd hpl (t1.ext fun p o e => s17 _ _ e)
    have nb1 : H1 b = none := same_none s2 nb
    have npl1 : H1 pl = none := same_none (s2.trans s5) npl5
    have h2 : 2 ≤ n := by omega
    have h4 : n ≤ 4 := by omega
    have x7 : ∀ {G' H' : Hp}, Go (M4 K bx b pl) G H7 G' H' → ExtB (PTb K) H H' := fun {G' H'} g p o hp e => g.keep p o (fun z => by
      have e1 := x1 p o hp e
      simp only [List.mem_cons, List.not_mem_nil, or_false] at z
      rcases z with z | z | z | z
      · rw [z, nbx] at e1; cases e1
      · rw [z, nb1] at e1; cases e1
      · rw [z, npl1] at e1; cases e1
      · exact hp z) (s17 _ _ (x1 p o hp e))
    clear hsd hpl hb5 hth hpa nsd npl b2 s2 s5 s6 s7 s57 nb npl5
    -- some deeds ahead
    refine ⟨_, rfl, bx, 5, LIM - 1, rfl, by decide, by decide, by decide, w7.box, fun tn H8 t0 t5 u8 b8 => ?_⟩
    obtain ⟨w8, g8⟩ := w7.draw u8 b8
    refine ⟨_, _, rfl, rfl, _, rfl, by omega, by omega, ?_⟩
    obtain ⟨m1, hm1⟩ : ∃ m : Nat, (3 : Int) + tn = m := ⟨(3 + tn).toNat, by omega⟩
    have hm7 : m1 ≤ 7 := by omega
    rw [hm1, Int.toNat_natCast]
    have hL : LIM = 1000000000 := rfl
    refine for_rng (fun k σ H' => ∃ o6, σ = [some (V.ref a), some (V.int i), some (V.ref bx), some (V.int n), some (V.ref b), some (V.ref pl), o6] ∧ ∃ G' sts st, Go (M4 K bx b pl) G H7 G' H' ∧ Wd K G' H' bx b pl n k (LIM - 2 - (k : Int) * 150) sts st)
      ⟨_, rfl, G, [], [], g8, w8.le (Nat.le_refl _) (by simp; omega)⟩ (fun k σ H' hk hP => ?_) (fun σ H' hP => ?_)
    · obtain ⟨o6, rfl, G', sts, st, g, wd⟩ := hP
      obtain ⟨sd', r, hpl', hat, turn⟩ := wd.turn h2 h4 (by omega) (by omega)
      refine ⟨_, rfl, _, rfl, _, rfl, _, rfl, _, rfl, _, rfl, _, rfl, pl, _, _, _, rfl, rfl, SqL.of hpl', hat, ?_⟩
      dsimp only [tNil]
      refine turn _ fun G4 H4 sts4 st4 g4 w4 => ?_
      exact ⟨_, rfl, iteF' rfl ⟨_, rfl, G4, sts4, st4, g.then g4, w4.le (Nat.le_refl _) (by rw [Int.natCast_add]; omega)⟩⟩
    · obtain ⟨o6, rfl, G', sts, st, g, wd⟩ := hP
      -- two trials
      have hc2 : costD 2 = 12873 := by decide
      refine ⟨_, rfl, by decide, by decide, ?_⟩
      refine for_rng (n := 2) (fun k σ H' => ∃ o6, σ = [some (V.ref a), some (V.int i), some (V.ref bx), some (V.int n), some (V.ref b), some (V.ref pl), o6] ∧ ∃ G' sts st, Go (M4 K bx b pl) G H7 G' H' ∧ Wd K G' H' bx b pl n (m1 + k) (LIM - 2 - (m1 : Int) * 150 - (k : Int) * 20000) sts st)
        ⟨_, rfl, G', sts, st, g, wd.le (Nat.le_refl _) (by simp)⟩ (fun k σ H' hk hP => ?_) (fun σ H' hP => ?_)
      · clear g wd
        obtain ⟨o6, rfl, G', sts, st, g, wd⟩ := hP
        refine ⟨_, rfl, _, rfl, _, rfl, _, rfl, bx, b, pl, n, m1 + k, _, G', sts, st, rfl, h2, h4, by omega, by omega, wd, fun G2 H2 g2 w2 => ⟨_, rfl, iteF' rfl ?_⟩⟩
        obtain ⟨sd', r, hpl', hat, turn⟩ := w2.turn h2 h4 (by omega) (by omega)
        refine ⟨_, rfl, _, rfl, _, rfl, _, rfl, _, rfl, _, rfl, _, rfl, pl, _, _, _, rfl, rfl, SqL.of hpl', hat, ?_⟩
        dsimp only [tNil]
        refine turn _ fun G4 H4 sts4 st4 g4 w4 => ?_
        refine ⟨_, rfl, iteF' rfl ?_⟩
        refine ⟨_, rfl, _, rfl, _, rfl, b, pl, n, m1 + k + 1, G4, sts4, st4, rfl, h2, h4, w4.sG, w4.bench, w4.past, w4.ok, by omega, fun H5 s5 => ⟨_, rfl, iteF' rfl ?_⟩⟩
        exact ⟨_, rfl, G4, sts4, st4, ((g.then g2).then g4).same s5, (w4.same s5).le (by omega) (by rw [Int.natCast_add]; omega)⟩
      · clear g wd
        obtain ⟨o6, rfl, G', sts, st, g, wd⟩ := hP
        -- all is taken back
        obtain ⟨pvs, hpl', hpp'⟩ := wd.past
        have hlen : pvs.length = sts.length + 1 := by
          have := Paired.length hpp'
          rw [this, List.length_append] <;> rfl
        have hsl : sts.length ≤ 9 := by
          have := wd.ok.len
          rw [List.length_append, List.length_singleton] at this
          omega
        refine ⟨_, rfl, pl, _, rfl, .inl (SqL.of hpl'), _, _, rfl, rfl, _, rfl, by omega, by omega, ?_⟩
        have e3 : ((pvs.length : Int) - 1).toNat = sts.length := by omega
        rw [e3]
        refine for_rng (fun k σ H' => ∃ o6, σ = [some (V.ref a), some (V.int i), some (V.ref bx), some (V.int n), some (V.ref b), some (V.ref pl), o6] ∧ ∃ G' sts' st', Go (M4 K bx b pl) G H7 G' H' ∧ Wd K G' H' bx b pl n (m1 + 2) 0 sts' st' ∧ sts'.length + k = sts.length)
          ⟨_, rfl, G', sts, st, g, wd.le (Nat.le_refl _) (by simp; omega), rfl⟩ (fun k σ H' hk hP => ?_) (fun σ H' hP => ?_)
        · clear g wd
          obtain ⟨o6, rfl, G', sts', st', g, wd, hn'⟩ := hP
          rcases snoc_cases sts' with e | ⟨sts2, st2, e⟩
          · subst e
            simp at hn'
            omega
          · subst e
            obtain ⟨vs, v, hp, hB, sG, back⟩ := wd.pop
            refine ⟨_, rfl, .inl ⟨rfl, _, SqL.of hp⟩, pl, _, v, rfl, rfl, hp, by simp, ?_⟩
            rw [List.dropLast_concat]
            obtain ⟨th', pa', _, _, ⟨dxb, hb⟩, _⟩ := hB.ex
            refine ⟨_, rfl, b, dxb, _, rfl, hb, bm_none (by decide +kernel) (by decide +kernel) (by decide +kernel), b, n, G', sts2 ++ [st2], st', rfl, hB, sG, wd.gb, by omega, fun z => ?_, fun sts3 st3 e G2 H2 g2 hS2 => ?_⟩
            · have := congrArg List.length z
              simp at this
            · obtain ⟨e1, e2⟩ := List.append_inj' e rfl
              injection e2 with e2
              subst e1
              subst e2
              obtain ⟨w2, gg2⟩ := back G2 H2 g2 hS2
              refine ⟨_, rfl, iteF' rfl ?_⟩
              refine ⟨_, rfl, _, rfl, _, rfl, b, pl, n, m1 + 2, G2, sts2, st2, rfl, h2, h4, w2.sG, w2.bench, w2.past, w2.ok, by omega, fun H5 s5 => ⟨_, rfl, iteF' rfl ?_⟩⟩
              refine ⟨_, rfl, G2, sts2, st2, (g.then gg2).same s5, w2.same s5, ?_⟩
              rw [List.length_append, List.length_singleton] at hn'
              omega
        · obtain ⟨o6, rfl, G', sts', st', g, wd, hn'⟩ := hP
          exact ⟨⟨_, _, _, _, _, _, rfl⟩, x7 g, wd.tab⟩
  · obtain ⟨⟨o1, o2, o3, o4, o5, o6, rfl⟩, x1, t1⟩ := hP
    exact q _
end
end K57
/-! E2 -/
namespace K57
open PySem PySem.Spec PyProof.Rows L2 He
theorem walk_all : PySem.W.WalkO (PySem.W.view hR.prog [89]) names (PySem.W.XL (PySem.W.view hR.prog [89]) []) hookK.says hR.toRowW (HandSHeadRun.topDef hR.prog 89) [] (fun f vs => PySem.call f vs) := by
  refine _root_.Att.attach_callB (l := PySem.Challenge.rw_enoughtests_k57_whole_trials_and_takings) (n := 63) rfl (by kernel_rfl) fun w s₀ s₁ mg mb fa o pm cd doc a vs ns G Y ho hd hcd hmg0 hobj hints hlen hbits hg => ?_
  obtain ⟨K, KX, c⟩ := Y
  have T : Txt K mg := txt_of KX G.T.g c
  have hmg : mg ("law" : Str) = some (.ref fa) := by
    have e : (HandSHeadRun.topDef hR.prog 89).name = ("law" : Str) := by kernel_rfl
    rw [← e]
    exact hmg0
  have e := hmg.symm.trans T.g_law
  cases e
  exact law_callG (c := lamC K) (t := lamT K) (k := 29) (CX := CX0) (sp := spLaw K) (x := "_law_script") (fd := fdAt K (ga K "law")) KX G.T.g G.T.b G.T.builtins G.T.nolimit hg c.empty c.out (PySem.W.codeHd_of_K KX c.hd) G.T.bmain hobj hints (Nat.le_trans hlen (by decide)) ⟨rfl, by decide, by decide⟩
    (fun base _ _ TB => ok_law T TB) (fun s u => FunD.bindsA (ps := ["_law_script"]) T.f_law (fun _ _ _ _ _ _ us hl => match us, hl with | [_], _ => rfl) s [u] rfl) (fun H ht hS => ⟨a, ns, rfl, hS, LamX.TabS.nil ht, fun _ => rfl⟩) (fun _ _ _ z => z)
end K57
open PySem PySem.W PySem.Calls PyProof.Rows
theorem PySem.Challenge.cw_enoughtests_k57_whole_trials_and_takings_holds : PySem.Challenge.rw_enoughtests_k57_whole_trials_and_takings.Holds := by
  w_on; o_law
  refine HandSHeadRun.head_any (r := OpenLaw.row PySem.Challenge.rw_enoughtests_k57_whole_trials_and_takings) (q := view (OpenLaw.row PySem.Challenge.rw_enoughtests_k57_whole_trials_and_takings).prog [89]) (H := K57.hookK) (ob := K57.hOb) (M := 20000) (loose := K57.names) (d := HandSHeadRun.topDef (OpenLaw.row PySem.Challenge.rw_enoughtests_k57_whole_trials_and_takings).prog 89) (kwd := []) K57.hOb_eq
    (by kernel_rfl) (fun s => by kernel_rfl) K57.hRun (by kernel_rfl) (by kernel_rfl) (by kernel_rfl) (by rfl) (by first | assumption | decide +kernel) (by decide +kernel) ⟨rfl, rfl, rfl, rfl, rfl, by decide +kernel⟩ ?hw ?hc
  case hw => w_witness2
  case hc => exact K57.walk_all
