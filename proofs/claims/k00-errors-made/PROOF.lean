import PyProof.Rows.All
import Wide.All
import OpenK.AllK
import Wide.FinOn
import HandS.ForMost
import HandS.ExcInit
import HandS.WordsExc
import KE.KNestM
import KE.OsRunLaw
import PySem.Challenge.RW_twoslots_k00_errors_made
import HandS.IsInst
import HandS.Deep
import HandS.Conv
import HandS.TupAny
import HandS.Style
import HandS.Zip
import HandS.OwnEq
import HandS.ListItems
import HandS.More
import KE.GoesMore
import PyProof.P3In
import HandS.Small
import HandS.Walk
import HandS.MakeKw
import HandS.ExcField
import HandS.Nested
import HandS.Lambda
import HandS.ExcIs
import HandS.MakeKwOnly
import HandS.ExcValue
import HandS.Dict
import HandS.Ends
import HandS.TryMany
import HandS.Iter
import HandS.NoneIn
import HandS.EndOwn
section
set_option Elab.async false
set_option linter.all false
set_option maxRecDepth 100000
set_option maxHeartbeats 4000000
namespace Tw
open PySem L2 PyProof.Rows
def top (i : Nat) : Stmt := PySem.Challenge.pw_twoslots_k00_errors_made.main.body.getD i (.Pass ⟨0, 0, 0, 0⟩)
abbrev s_p_BadBegun_init : Stmt := inClass (top 2) 0
abbrev s_p_BadBox_init : Stmt := inClass (top 3) 0
abbrev s_p_BadCells_init : Stmt := inClass (top 4) 0
abbrev s_p_BadChain_init : Stmt := inClass (top 5) 0
abbrev s_p_BadCount_init : Stmt := inClass (top 6) 0
abbrev s_p_BadDeed_init : Stmt := inClass (top 7) 0
abbrev s_p_BadHeld_init : Stmt := inClass (top 8) 0
abbrev s_p_BadHours_init : Stmt := inClass (top 9) 0
abbrev s_p_BadLine_init : Stmt := inClass (top 10) 0
abbrev s_p_BadLines_init : Stmt := inClass (top 11) 0
abbrev s_p_BadListing_init : Stmt := inClass (top 12) 0
abbrev s_p_BadMany_init : Stmt := inClass (top 13) 0
abbrev s_p_BadNumber_init : Stmt := inClass (top 14) 0
abbrev s_p_BadOrder_init : Stmt := inClass (top 15) 0
abbrev s_p_BadPairs_init : Stmt := inClass (top 16) 0
abbrev s_p_BadPlace_init : Stmt := inClass (top 17) 0
abbrev s_p_BadPlan_init : Stmt := inClass (top 18) 0
abbrev s_p_BadProgram_init : Stmt := inClass (top 19) 0
abbrev s_p_BadQuestion_init : Stmt := inClass (top 20) 0
abbrev s_p_BadReads_init : Stmt := inClass (top 21) 0
abbrev s_p_BadRow_init : Stmt := inClass (top 22) 0
abbrev s_p_BadRows_init : Stmt := inClass (top 23) 0
abbrev s_p_BadSeen_init : Stmt := inClass (top 24) 0
abbrev s_p_BadSession_init : Stmt := inClass (top 25) 0
abbrev s_p_BadSome_init : Stmt := inClass (top 26) 0
abbrev s_p_BadSource_init : Stmt := inClass (top 27) 0
abbrev s_p_BadSpots_init : Stmt := inClass (top 28) 0
abbrev s_p_BadTeller_init : Stmt := inClass (top 29) 0
abbrev s_p_BadTells_init : Stmt := inClass (top 30) 0
abbrev s_p_BadText_init : Stmt := inClass (top 31) 0
abbrev s_p_InUse_init : Stmt := inClass (top 32) 0
abbrev s_p_IsWatched_init : Stmt := inClass (top 33) 0
abbrev s_p_NoCell_init : Stmt := inClass (top 34) 0
abbrev s_p_NoCount_init : Stmt := inClass (top 35) 0
abbrev s_p_NoHour_init : Stmt := inClass (top 36) 0
abbrev s_p_NoLine_init : Stmt := inClass (top 37) 0
abbrev s_p_NoSpot_init : Stmt := inClass (top 38) 0
abbrev s_p_NoText_init : Stmt := inClass (top 39) 0
abbrev s_p_NoThing_init : Stmt := inClass (top 40) 0
abbrev s_p_NoTold_init : Stmt := inClass (top 41) 0
abbrev s_p_NotSound_init : Stmt := inClass (top 42) 0
abbrev s_p_NotWatched_init : Stmt := inClass (top 43) 0
abbrev s_p_WouldChange_init : Stmt := inClass (top 44) 0
abbrev s_l_start : Stmt := top 46
abbrev s_l_draw : Stmt := top 47
abbrev s_l_mixed : Stmt := top 48
abbrev s_l_made_a : Stmt := top 49
abbrev s_l_made_b : Stmt := top 50
abbrev s_l_made_c : Stmt := top 51
abbrev s_l_kinds_a : Stmt := top 52
abbrev s_l_kinds_b : Stmt := top 53
abbrev s_l_kinds_c : Stmt := top 54
abbrev s_l_kinds : Stmt := top 55
abbrev s_l_is_own : Stmt := top 56
abbrev s_l_are_these : Stmt := top 57
abbrev s_law : Stmt := top 58
abbrev veT : List Value := [.type "ValueError", .type "Exception", .type "BaseException", .type "object"]
def clsB (K : PySem.W.Frag) (C : Addr) (fl : List Str) : Bool := decide (PySem.W.findIn K (.ref C) "__setattr__" = some (some (.builtin "object.__setattr__"))) && (PySem.W.keepIn K (.ref C) && (decide (PySem.W.findIn K (.ref C) "__getattribute__" = some (some (.builtin "BaseException.__getattribute__"))) &&
  (decide (PySem.W.findIn K (.ref C) "__getattr__" = some none) && (decide (PySem.W.findIn K (.ref C) "__class__" = some (some (.builtin "object.__class__"))) && fl.all fun x => decide (PySem.W.findIn K (.ref C) x = some none)))))
theorem clsB_ok {K : PySem.W.Frag} {C : Addr} {fl : List Str} (h : clsB K C fl = true) : PySem.W.findIn K (.ref C) "__setattr__" = some (some (.builtin "object.__setattr__")) ∧ PySem.W.keepIn K (.ref C) = true ∧ PySem.W.findIn K (.ref C) "__getattribute__" = some (some (.builtin "BaseException.__getattribute__")) ∧
    PySem.W.findIn K (.ref C) "__getattr__" = some none ∧ PySem.W.findIn K (.ref C) "__class__" = some (some (.builtin "object.__class__")) ∧ ∀ x ∈ fl, PySem.W.findIn K (.ref C) x = some none := by
  unfold clsB at h
  simp only [Bool.and_eq_true, decide_eq_true_eq, List.all_eq_true] at h
  exact h
inductive ClsF (K : PySem.W.Frag) (cE C f : Addr) (n q : Str) (fl : List Str) (s : Stmt) : Prop
  | mk {N : Addr} {nm q' : Str} {bs : List Value} {sn : List Str} {sub : List Value} {ab : Bool} {col : Option Bool} {dd : Option Addr} {k0 k1 k2 k3 k5 : Option Value} {od an : Option Addr} {osl : Array (Option Value)} {kV dc pm cd ct : Value}
    (a : PySem.W.nsIn K mainGlobals n = some (some (.ref C)))
    (x : K.lookup C = some (excClassObj nm q' C N bs (.ref cE :: veT) true sn sub ab col dd k0 k1 k2 k3 k5 "ValueError.__new__"))
    (b : clsB K C fl = true)
    (ai : PySem.W.findIn K (.ref C) "__init__" = some (some (.ref f)))
    (l : K.lookup f = some ⟨.type "function", od, .func (PySem.W.fnOf "__init__" q (defArgs s) (defBody s) (defScope s) .none kV dc pm an cd ct), osl⟩)
    (c : (PySem.W.codeIn K cd q && PySem.W.keepIn K (.ref f)) = true) : ClsF K cE C f n q fl s
inductive Fact (K : PySem.W.Frag) (qq : Program) : Prop
  | mk {cE NE c0 c1 c2 c3 c4 c5 c6 c7 c8 c9 c10 c11 c12 c13 c14 c15 c16 c17 c18 c19 c20 c21 c22 c23 c24 c25 c26 c27 c28 c29 c30 c31 c32 c33 c34 c35 c36 c37 c38 c39 c40 c41 c42 f0 f1 f2 f3 f4 f5 f6 f7 f8 f9 f10 f11 f12 f13 f14 f15 f16 f17 f18 f19 f20 f21 f22 f23 f24 f25 f26 f27 f28 f29 f30 f31 f32 f33 f34 f35 f36 f37 f38 f39 f40 f41 f42 f_l_start f_l_draw f_l_mixed f_l_made_a cdA PA f_l_made_b cdB PB f_l_made_c cdC PC f_l_kinds_a f_l_kinds_b f_l_kinds_c f_l_kinds f_l_is_own f_l_are_these f_law : Addr} {od_l_start an_l_start od_l_draw an_l_draw od_l_mixed an_l_mixed od_l_made_a an_l_made_a eDA od_l_made_b an_l_made_b eDB od_l_made_c an_l_made_c eDC od_l_kinds_a an_l_kinds_a od_l_kinds_b an_l_kinds_b od_l_kinds_c an_l_kinds_c od_l_kinds an_l_kinds od_l_is_own an_l_is_own od_l_are_these an_l_are_these od_law an_law ddE : Option Addr} {sl_l_start sl_l_draw sl_l_mixed sl_l_made_a eSA sl_l_made_b eSB sl_l_made_c eSC sl_l_kinds_a sl_l_kinds_b sl_l_kinds_c sl_l_kinds sl_l_is_own sl_l_are_these sl_law : Array (Option Value)} {oc_l_start kV_l_start dc_l_start pm_l_start ct_l_start cd_l_start oc_l_draw kV_l_draw dc_l_draw pm_l_draw ct_l_draw cd_l_draw oc_l_mixed kV_l_mixed dc_l_mixed pm_l_mixed ct_l_mixed cd_l_mixed oc_l_made_a kV_l_made_a dc_l_made_a pm_l_made_a ct_l_made_a eVA oc_l_made_b kV_l_made_b dc_l_made_b pm_l_made_b ct_l_made_b eVB oc_l_made_c kV_l_made_c dc_l_made_c pm_l_made_c ct_l_made_c eVC oc_l_kinds_a kV_l_kinds_a dc_l_kinds_a pm_l_kinds_a ct_l_kinds_a cd_l_kinds_a oc_l_kinds_b kV_l_kinds_b dc_l_kinds_b pm_l_kinds_b ct_l_kinds_b cd_l_kinds_b oc_l_kinds_c kV_l_kinds_c dc_l_kinds_c pm_l_kinds_c ct_l_kinds_c cd_l_kinds_c oc_l_kinds kV_l_kinds dc_l_kinds pm_l_kinds ct_l_kinds cd_l_kinds oc_l_is_own kV_l_is_own dc_l_is_own pm_l_is_own ct_l_is_own cd_l_is_own oc_l_are_these kV_l_are_these dc_l_are_these pm_l_are_these ct_l_are_these cd_l_are_these oc_law kV_law dc_law pm_law ct_law cd_law : Value} {vsA vsB vsC : Array Value} {nmE qE : Str} {bsE subE : List Value} {hdE abE : Bool} {snE : List Str} {colE : Option Bool} {m0E m1E m2E m3E m5E : Option Value}
    (h_0 : ClsF K cE c0 f0 "BadBegun" "BadBegun.__init__" ["thing"] s_p_BadBegun_init)
    (h_1 : ClsF K cE c1 f1 "BadBox" "BadBox.__init__" ["thing"] s_p_BadBox_init)
    (h_2 : ClsF K cE c2 f2 "BadCells" "BadCells.__init__" ["thing"] s_p_BadCells_init)
    (h_3 : ClsF K cE c3 f3 "BadChain" "BadChain.__init__" ["thing"] s_p_BadChain_init)
    (h_4 : ClsF K cE c4 f4 "BadCount" "BadCount.__init__" ["thing"] s_p_BadCount_init)
    (h_5 : ClsF K cE c5 f5 "BadDeed" "BadDeed.__init__" ["thing"] s_p_BadDeed_init)
    (h_6 : ClsF K cE c6 f6 "BadHeld" "BadHeld.__init__" ["index"] s_p_BadHeld_init)
    (h_7 : ClsF K cE c7 f7 "BadHours" "BadHours.__init__" ["index"] s_p_BadHours_init)
    (h_8 : ClsF K cE c8 f8 "BadLine" "BadLine.__init__" ["thing"] s_p_BadLine_init)
    (h_9 : ClsF K cE c9 f9 "BadLines" "BadLines.__init__" ["index"] s_p_BadLines_init)
    (h_10 : ClsF K cE c10 f10 "BadListing" "BadListing.__init__" ["index"] s_p_BadListing_init)
    (h_11 : ClsF K cE c11 f11 "BadMany" "BadMany.__init__" ["thing"] s_p_BadMany_init)
    (h_12 : ClsF K cE c12 f12 "BadNumber" "BadNumber.__init__" ["thing"] s_p_BadNumber_init)
    (h_13 : ClsF K cE c13 f13 "BadOrder" "BadOrder.__init__" ["thing"] s_p_BadOrder_init)
    (h_14 : ClsF K cE c14 f14 "BadPairs" "BadPairs.__init__" ["index"] s_p_BadPairs_init)
    (h_15 : ClsF K cE c15 f15 "BadPlace" "BadPlace.__init__" ["thing"] s_p_BadPlace_init)
    (h_16 : ClsF K cE c16 f16 "BadPlan" "BadPlan.__init__" ["thing"] s_p_BadPlan_init)
    (h_17 : ClsF K cE c17 f17 "BadProgram" "BadProgram.__init__" ["thing"] s_p_BadProgram_init)
    (h_18 : ClsF K cE c18 f18 "BadQuestion" "BadQuestion.__init__" ["thing"] s_p_BadQuestion_init)
    (h_19 : ClsF K cE c19 f19 "BadReads" "BadReads.__init__" ["index"] s_p_BadReads_init)
    (h_20 : ClsF K cE c20 f20 "BadRow" "BadRow.__init__" ["index"] s_p_BadRow_init)
    (h_21 : ClsF K cE c21 f21 "BadRows" "BadRows.__init__" ["index"] s_p_BadRows_init)
    (h_22 : ClsF K cE c22 f22 "BadSeen" "BadSeen.__init__" ["index"] s_p_BadSeen_init)
    (h_23 : ClsF K cE c23 f23 "BadSession" "BadSession.__init__" ["thing"] s_p_BadSession_init)
    (h_24 : ClsF K cE c24 f24 "BadSome" "BadSome.__init__" ["index"] s_p_BadSome_init)
    (h_25 : ClsF K cE c25 f25 "BadSource" "BadSource.__init__" ["thing"] s_p_BadSource_init)
    (h_26 : ClsF K cE c26 f26 "BadSpots" "BadSpots.__init__" ["index"] s_p_BadSpots_init)
    (h_27 : ClsF K cE c27 f27 "BadTeller" "BadTeller.__init__" ["thing"] s_p_BadTeller_init)
    (h_28 : ClsF K cE c28 f28 "BadTells" "BadTells.__init__" ["index"] s_p_BadTells_init)
    (h_29 : ClsF K cE c29 f29 "BadText" "BadText.__init__" ["line", "sign"] s_p_BadText_init)
    (h_30 : ClsF K cE c30 f30 "InUse" "InUse.__init__" ["question"] s_p_InUse_init)
    (h_31 : ClsF K cE c31 f31 "IsWatched" "IsWatched.__init__" ["question"] s_p_IsWatched_init)
    (h_32 : ClsF K cE c32 f32 "NoCell" "NoCell.__init__" ["thing"] s_p_NoCell_init)
    (h_33 : ClsF K cE c33 f33 "NoCount" "NoCount.__init__" ["thing"] s_p_NoCount_init)
    (h_34 : ClsF K cE c34 f34 "NoHour" "NoHour.__init__" ["hour"] s_p_NoHour_init)
    (h_35 : ClsF K cE c35 f35 "NoLine" "NoLine.__init__" ["thing"] s_p_NoLine_init)
    (h_36 : ClsF K cE c36 f36 "NoSpot" "NoSpot.__init__" ["hour", "slot"] s_p_NoSpot_init)
    (h_37 : ClsF K cE c37 f37 "NoText" "NoText.__init__" ["index"] s_p_NoText_init)
    (h_38 : ClsF K cE c38 f38 "NoThing" "NoThing.__init__" ["thing"] s_p_NoThing_init)
    (h_39 : ClsF K cE c39 f39 "NoTold" "NoTold.__init__" ["thing"] s_p_NoTold_init)
    (h_40 : ClsF K cE c40 f40 "NotSound" "NotSound.__init__" ["fault"] s_p_NotSound_init)
    (h_41 : ClsF K cE c41 f41 "NotWatched" "NotWatched.__init__" ["question"] s_p_NotWatched_init)
    (h_42 : ClsF K cE c42 f42 "WouldChange" "WouldChange.__init__" ["question", "why"] s_p_WouldChange_init)
    (aE : PySem.W.nsIn K mainGlobals "SlotError" = some (some (.ref cE)))
    (xE : K.lookup cE = some (excClassObj nmE qE cE NE bsE veT hdE snE subE abE colE ddE m0E m1E m2E m3E m5E "ValueError.__new__"))
    (exE : PySem.W.excIn K cE [.type "ValueError", .type "Exception", .type "BaseException", .type "object"] "ValueError.__new__" = true)
    (kE : PySem.W.keepIn K (.ref cE) = true)
    (gaE : PySem.W.findIn K (.ref cE) "__getattribute__" = some (some (.builtin "BaseException.__getattribute__")))
    (ggE : PySem.W.findIn K (.ref cE) "__getattr__" = some none)
    (haE : PySem.W.findIn K (.ref cE) "__class__" = some (some (.builtin "object.__class__")))
    (hdE_ : PySem.W.hasDictIn K cE = true)
    (hn : PySem.W.specialIn K (.builtin "object.__class__") "__get__" = some (some (.builtin "getset_descriptor.__get__")))
    (htk : PySem.W.takesIn K (.builtin "object.__class__") = some true)
    (a_l_start : PySem.W.nsIn K mainGlobals "_law_start" = some (some (.ref f_l_start)))
    (l_l_start : K.lookup f_l_start = some ⟨oc_l_start, od_l_start, .func (PySem.W.fnOf "_law_start" "_law_start" (defArgs s_l_start) (defBody s_l_start) (defScope s_l_start) .none kV_l_start dc_l_start pm_l_start an_l_start cd_l_start ct_l_start), sl_l_start⟩)
    (c_l_start : PySem.W.codeIn K cd_l_start "_law_start" = true)
    (k_l_start : PySem.W.keepIn K (.ref f_l_start) = true)
    (a_l_draw : PySem.W.nsIn K mainGlobals "_law_draw" = some (some (.ref f_l_draw)))
    (l_l_draw : K.lookup f_l_draw = some ⟨oc_l_draw, od_l_draw, .func (PySem.W.fnOf "_law_draw" "_law_draw" (defArgs s_l_draw) (defBody s_l_draw) (defScope s_l_draw) .none kV_l_draw dc_l_draw pm_l_draw an_l_draw cd_l_draw ct_l_draw), sl_l_draw⟩)
    (c_l_draw : PySem.W.codeIn K cd_l_draw "_law_draw" = true)
    (k_l_draw : PySem.W.keepIn K (.ref f_l_draw) = true)
    (a_l_mixed : PySem.W.nsIn K mainGlobals "_law_mixed" = some (some (.ref f_l_mixed)))
    (l_l_mixed : K.lookup f_l_mixed = some ⟨oc_l_mixed, od_l_mixed, .func (PySem.W.fnOf "_law_mixed" "_law_mixed" (defArgs s_l_mixed) (defBody s_l_mixed) (defScope s_l_mixed) .none kV_l_mixed dc_l_mixed pm_l_mixed an_l_mixed cd_l_mixed ct_l_mixed), sl_l_mixed⟩)
    (c_l_mixed : PySem.W.codeIn K cd_l_mixed "_law_mixed" = true)
    (k_l_mixed : PySem.W.keepIn K (.ref f_l_mixed) = true)
    (a_l_made_a : PySem.W.nsIn K mainGlobals "_law_made_a" = some (some (.ref f_l_made_a)))
    (l_l_made_a : K.lookup f_l_made_a = some ⟨oc_l_made_a, od_l_made_a, .func (PySem.W.fnOf "_law_made_a" "_law_made_a" (defArgs s_l_made_a) (defBody s_l_made_a) (defScope s_l_made_a) .none kV_l_made_a dc_l_made_a pm_l_made_a an_l_made_a (.ref cdA) ct_l_made_a), sl_l_made_a⟩)
    (c_l_made_a : PySem.W.codeIn K ((.ref cdA)) "_law_made_a" = true)
    (k_l_made_a : PySem.W.keepIn K (.ref f_l_made_a) = true)
    (vA : K.lookup cdA = some ⟨eVA, eDA, .fields vsA, eSA⟩)
    (pA : vsA[11]? = some (.ref PA))
    (dA : PySem.W.codeHdIn K cdA PA = true)
    (nA : K.lookup PA = none)
    (a_l_made_b : PySem.W.nsIn K mainGlobals "_law_made_b" = some (some (.ref f_l_made_b)))
    (l_l_made_b : K.lookup f_l_made_b = some ⟨oc_l_made_b, od_l_made_b, .func (PySem.W.fnOf "_law_made_b" "_law_made_b" (defArgs s_l_made_b) (defBody s_l_made_b) (defScope s_l_made_b) .none kV_l_made_b dc_l_made_b pm_l_made_b an_l_made_b (.ref cdB) ct_l_made_b), sl_l_made_b⟩)
    (c_l_made_b : PySem.W.codeIn K ((.ref cdB)) "_law_made_b" = true)
    (k_l_made_b : PySem.W.keepIn K (.ref f_l_made_b) = true)
    (vB : K.lookup cdB = some ⟨eVB, eDB, .fields vsB, eSB⟩)
    (pB : vsB[11]? = some (.ref PB))
    (dB : PySem.W.codeHdIn K cdB PB = true)
    (nB : K.lookup PB = none)
    (a_l_made_c : PySem.W.nsIn K mainGlobals "_law_made_c" = some (some (.ref f_l_made_c)))
    (l_l_made_c : K.lookup f_l_made_c = some ⟨oc_l_made_c, od_l_made_c, .func (PySem.W.fnOf "_law_made_c" "_law_made_c" (defArgs s_l_made_c) (defBody s_l_made_c) (defScope s_l_made_c) .none kV_l_made_c dc_l_made_c pm_l_made_c an_l_made_c (.ref cdC) ct_l_made_c), sl_l_made_c⟩)
    (c_l_made_c : PySem.W.codeIn K ((.ref cdC)) "_law_made_c" = true)
    (k_l_made_c : PySem.W.keepIn K (.ref f_l_made_c) = true)
    (vC : K.lookup cdC = some ⟨eVC, eDC, .fields vsC, eSC⟩)
    (pC : vsC[11]? = some (.ref PC))
    (dC : PySem.W.codeHdIn K cdC PC = true)
    (nC : K.lookup PC = none)
    (a_l_kinds_a : PySem.W.nsIn K mainGlobals "_law_kinds_a" = some (some (.ref f_l_kinds_a)))
    (l_l_kinds_a : K.lookup f_l_kinds_a = some ⟨oc_l_kinds_a, od_l_kinds_a, .func (PySem.W.fnOf "_law_kinds_a" "_law_kinds_a" (defArgs s_l_kinds_a) (defBody s_l_kinds_a) (defScope s_l_kinds_a) .none kV_l_kinds_a dc_l_kinds_a pm_l_kinds_a an_l_kinds_a cd_l_kinds_a ct_l_kinds_a), sl_l_kinds_a⟩)
    (c_l_kinds_a : PySem.W.codeIn K cd_l_kinds_a "_law_kinds_a" = true)
    (k_l_kinds_a : PySem.W.keepIn K (.ref f_l_kinds_a) = true)
    (a_l_kinds_b : PySem.W.nsIn K mainGlobals "_law_kinds_b" = some (some (.ref f_l_kinds_b)))
    (l_l_kinds_b : K.lookup f_l_kinds_b = some ⟨oc_l_kinds_b, od_l_kinds_b, .func (PySem.W.fnOf "_law_kinds_b" "_law_kinds_b" (defArgs s_l_kinds_b) (defBody s_l_kinds_b) (defScope s_l_kinds_b) .none kV_l_kinds_b dc_l_kinds_b pm_l_kinds_b an_l_kinds_b cd_l_kinds_b ct_l_kinds_b), sl_l_kinds_b⟩)
    (c_l_kinds_b : PySem.W.codeIn K cd_l_kinds_b "_law_kinds_b" = true)
    (k_l_kinds_b : PySem.W.keepIn K (.ref f_l_kinds_b) = true)
    (a_l_kinds_c : PySem.W.nsIn K mainGlobals "_law_kinds_c" = some (some (.ref f_l_kinds_c)))
    (l_l_kinds_c : K.lookup f_l_kinds_c = some ⟨oc_l_kinds_c, od_l_kinds_c, .func (PySem.W.fnOf "_law_kinds_c" "_law_kinds_c" (defArgs s_l_kinds_c) (defBody s_l_kinds_c) (defScope s_l_kinds_c) .none kV_l_kinds_c dc_l_kinds_c pm_l_kinds_c an_l_kinds_c cd_l_kinds_c ct_l_kinds_c), sl_l_kinds_c⟩)
    (c_l_kinds_c : PySem.W.codeIn K cd_l_kinds_c "_law_kinds_c" = true)
    (k_l_kinds_c : PySem.W.keepIn K (.ref f_l_kinds_c) = true)
    (a_l_kinds : PySem.W.nsIn K mainGlobals "_law_kinds" = some (some (.ref f_l_kinds)))
    (l_l_kinds : K.lookup f_l_kinds = some ⟨oc_l_kinds, od_l_kinds, .func (PySem.W.fnOf "_law_kinds" "_law_kinds" (defArgs s_l_kinds) (defBody s_l_kinds) (defScope s_l_kinds) .none kV_l_kinds dc_l_kinds pm_l_kinds an_l_kinds cd_l_kinds ct_l_kinds), sl_l_kinds⟩)
    (c_l_kinds : PySem.W.codeIn K cd_l_kinds "_law_kinds" = true)
    (k_l_kinds : PySem.W.keepIn K (.ref f_l_kinds) = true)
    (a_l_is_own : PySem.W.nsIn K mainGlobals "_law_is_own" = some (some (.ref f_l_is_own)))
    (l_l_is_own : K.lookup f_l_is_own = some ⟨oc_l_is_own, od_l_is_own, .func (PySem.W.fnOf "_law_is_own" "_law_is_own" (defArgs s_l_is_own) (defBody s_l_is_own) (defScope s_l_is_own) .none kV_l_is_own dc_l_is_own pm_l_is_own an_l_is_own cd_l_is_own ct_l_is_own), sl_l_is_own⟩)
    (c_l_is_own : PySem.W.codeIn K cd_l_is_own "_law_is_own" = true)
    (k_l_is_own : PySem.W.keepIn K (.ref f_l_is_own) = true)
    (a_l_are_these : PySem.W.nsIn K mainGlobals "_law_are_these" = some (some (.ref f_l_are_these)))
    (l_l_are_these : K.lookup f_l_are_these = some ⟨oc_l_are_these, od_l_are_these, .func (PySem.W.fnOf "_law_are_these" "_law_are_these" (defArgs s_l_are_these) (defBody s_l_are_these) (defScope s_l_are_these) .none kV_l_are_these dc_l_are_these pm_l_are_these an_l_are_these cd_l_are_these ct_l_are_these), sl_l_are_these⟩)
    (c_l_are_these : PySem.W.codeIn K cd_l_are_these "_law_are_these" = true)
    (k_l_are_these : PySem.W.keepIn K (.ref f_l_are_these) = true)
    (a_law : PySem.W.nsIn K mainGlobals "law" = some (some (.ref f_law)))
    (l_law : K.lookup f_law = some ⟨oc_law, od_law, .func (PySem.W.fnOf "law" "law" (defArgs s_law) (defBody s_law) (defScope s_law) .none kV_law dc_law pm_law an_law cd_law ct_law), sl_law⟩)
    (c_law : PySem.W.codeIn K cd_law "law" = true)
    (k_law : PySem.W.keepIn K (.ref f_law) = true)
    (z_LookupError : PySem.W.nsIn K mainGlobals "LookupError" = some none)
    (z_ValueError : PySem.W.nsIn K mainGlobals "ValueError" = some none)
    (z_enumerate : PySem.W.nsIn K mainGlobals "enumerate" = some none)
    (z_int : PySem.W.nsIn K mainGlobals "int" = some none)
    (z_isinstance : PySem.W.nsIn K mainGlobals "isinstance" = some none)
    (z_len : PySem.W.nsIn K mainGlobals "len" = some none)
    (z_list : PySem.W.nsIn K mainGlobals "list" = some none)
    (z_range : PySem.W.nsIn K mainGlobals "range" = some none)
    (z_repr : PySem.W.nsIn K mainGlobals "repr" = some none)
    (nd : (cE :: [c0, c1, c2, c3, c4, c5, c6, c7, c8, c9, c10, c11, c12, c13, c14, c15, c16, c17, c18, c19, c20, c21, c22, c23, c24, c25, c26, c27, c28, c29, c30, c31, c32, c33, c34, c35, c36, c37, c38, c39, c40, c41, c42] : List Addr).Nodup)
    (nAB : PA ≠ PB)
    (nAC : PA ≠ PC)
    (nBC : PB ≠ PC)
    (mV : PySem.W.kitMeta "ValueError" = true)
    (mL : PySem.W.kitMeta "LookupError" = true)
    (rA : ((recsOf qq).any fun e => e.name == "_law_made_a") = true)
    (rB : ((recsOf qq).any fun e => e.name == "_law_made_b") = true)
    (rC : ((recsOf qq).any fun e => e.name == "_law_made_c") = true) : Fact K qq
theorem kf {P Q : Prop} (_ : P) (h : Q) : Q := h
end Tw
open PySem PySem.W PyProof.Rows
open Lean in
local macro_rules
  | `(tactic| o_headL ($f:ident $k $a $p)) => `(tactic| o_headL $f $k $a (Tw.kf $(mkIdent `W) $p))
set_option maxRecDepth 100000 in
set_option maxHeartbeats 0 in
theorem Tw.head (W : ∀ (q : Program) (loose : List Str) (XP : (Str → Option Value) → Heap → Prop) (YP : World → Heap → Prop) (d : DefRec) (K : Params → Frag), d.params.defaults = [] → d.name = "law" → (∀ w h, YP w h → (K w.params).In h) → (∀ w : World, Tw.Fact (K w.params) q) →
    WalkO q loose XP YP (PySem.Challenge.rw_twoslots_k00_errors_made).row.toRowW d [] (fun f vs => PySem.call f vs)) : PySem.Challenge.rw_twoslots_k00_errors_made.Holds := by
  w_on; o_law; k_headL; (case hw => w_witness2)
  k_fill
  refine' W _ _ _ _ _ _ ?hd ?hn (fun w h Y => PySem.W.kIn_of Y) ?F
  case hd => rfl
  case hn => rfl
  case F =>
   as_aux_lemma =>
    intro w
    refine' Tw.Fact.mk ?h_0 ?h_1 ?h_2 ?h_3 ?h_4 ?h_5 ?h_6 ?h_7 ?h_8 ?h_9 ?h_10 ?h_11 ?h_12 ?h_13 ?h_14 ?h_15 ?h_16 ?h_17 ?h_18 ?h_19 ?h_20 ?h_21 ?h_22 ?h_23 ?h_24 ?h_25 ?h_26 ?h_27 ?h_28 ?h_29 ?h_30 ?h_31 ?h_32 ?h_33 ?h_34 ?h_35 ?h_36 ?h_37 ?h_38 ?h_39 ?h_40 ?h_41 ?h_42 ?aE ?xE ?exE ?kE ?gaE ?ggE ?haE ?hdE_ ?hn ?htk ?a_l_start ?l_l_start ?c_l_start ?k_l_start ?a_l_draw ?l_l_draw ?c_l_draw ?k_l_draw ?a_l_mixed ?l_l_mixed ?c_l_mixed ?k_l_mixed ?a_l_made_a ?l_l_made_a ?c_l_made_a ?k_l_made_a ?vA ?pA ?dA ?nA ?a_l_made_b ?l_l_made_b ?c_l_made_b ?k_l_made_b ?vB ?pB ?dB ?nB ?a_l_made_c ?l_l_made_c ?c_l_made_c ?k_l_made_c ?vC ?pC ?dC ?nC ?a_l_kinds_a ?l_l_kinds_a ?c_l_kinds_a ?k_l_kinds_a ?a_l_kinds_b ?l_l_kinds_b ?c_l_kinds_b ?k_l_kinds_b ?a_l_kinds_c ?l_l_kinds_c ?c_l_kinds_c ?k_l_kinds_c ?a_l_kinds ?l_l_kinds ?c_l_kinds ?k_l_kinds ?a_l_is_own ?l_l_is_own ?c_l_is_own ?k_l_is_own ?a_l_are_these ?l_l_are_these ?c_l_are_these ?k_l_are_these ?a_law ?l_law ?c_law ?k_law ?z_LookupError ?z_ValueError ?z_enumerate ?z_int ?z_isinstance ?z_len ?z_list ?z_range ?z_repr ?nd ?nAB ?nAC ?nBC ?mV ?mL ?rA ?rB ?rC
    (case h_0 =>
      refine' Tw.ClsF.mk ?g0_a ?g0_x ?g0_b ?g0_ai ?g0_l ?g0_c
      (case g0_a => k_is)
      (case g0_x => k_is)
      (case g0_b => kernel_rfl)
      (case g0_ai => k_is)
      (case g0_l => k_is)
      (case g0_c => kernel_rfl))
    (case h_1 =>
      refine' Tw.ClsF.mk ?g1_a ?g1_x ?g1_b ?g1_ai ?g1_l ?g1_c
      (case g1_a => k_is)
      (case g1_x => k_is)
      (case g1_b => kernel_rfl)
      (case g1_ai => k_is)
      (case g1_l => k_is)
      (case g1_c => kernel_rfl))
    (case h_2 =>
      refine' Tw.ClsF.mk ?g2_a ?g2_x ?g2_b ?g2_ai ?g2_l ?g2_c
      (case g2_a => k_is)
      (case g2_x => k_is)
      (case g2_b => kernel_rfl)
      (case g2_ai => k_is)
      (case g2_l => k_is)
      (case g2_c => kernel_rfl))
    (case h_3 =>
      refine' Tw.ClsF.mk ?g3_a ?g3_x ?g3_b ?g3_ai ?g3_l ?g3_c
      (case g3_a => k_is)
      (case g3_x => k_is)
      (case g3_b => kernel_rfl)
      (case g3_ai => k_is)
      (case g3_l => k_is)
      (case g3_c => kernel_rfl))
    (case h_4 =>
      refine' Tw.ClsF.mk ?g4_a ?g4_x ?g4_b ?g4_ai ?g4_l ?g4_c
      (case g4_a => k_is)
      (case g4_x => k_is)
      (case g4_b => kernel_rfl)
      (case g4_ai => k_is)
      (case g4_l => k_is)
      (case g4_c => kernel_rfl))
    (case h_5 =>
      refine' Tw.ClsF.mk ?g5_a ?g5_x ?g5_b ?g5_ai ?g5_l ?g5_c
      (case g5_a => k_is)
      (case g5_x => k_is)
      (case g5_b => kernel_rfl)
      (case g5_ai => k_is)
      (case g5_l => k_is)
      (case g5_c => kernel_rfl))
    (case h_6 =>
      refine' Tw.ClsF.mk ?g6_a ?g6_x ?g6_b ?g6_ai ?g6_l ?g6_c
      (case g6_a => k_is)
      (case g6_x => k_is)
      (case g6_b => kernel_rfl)
      (case g6_ai => k_is)
      (case g6_l => k_is)
      (case g6_c => kernel_rfl))
    (case h_7 =>
      refine' Tw.ClsF.mk ?g7_a ?g7_x ?g7_b ?g7_ai ?g7_l ?g7_c
      (case g7_a => k_is)
      (case g7_x => k_is)
      (case g7_b => kernel_rfl)
      (case g7_ai => k_is)
      (case g7_l => k_is)
      (case g7_c => kernel_rfl))
    (case h_8 =>
      refine' Tw.ClsF.mk ?g8_a ?g8_x ?g8_b ?g8_ai ?g8_l ?g8_c
      (case g8_a => k_is)
      (case g8_x => k_is)
      (case g8_b => kernel_rfl)
      (case g8_ai => k_is)
      (case g8_l => k_is)
      (case g8_c => kernel_rfl))
    (case h_9 =>
      refine' Tw.ClsF.mk ?g9_a ?g9_x ?g9_b ?g9_ai ?g9_l ?g9_c
      (case g9_a => k_is)
      (case g9_x => k_is)
      (case g9_b => kernel_rfl)
      (case g9_ai => k_is)
      (case g9_l => k_is)
      (case g9_c => kernel_rfl))
    (case h_10 =>
      refine' Tw.ClsF.mk ?g10_a ?g10_x ?g10_b ?g10_ai ?g10_l ?g10_c
      (case g10_a => k_is)
      (case g10_x => k_is)
      (case g10_b => kernel_rfl)
      (case g10_ai => k_is)
      (case g10_l => k_is)
      (case g10_c => kernel_rfl))
    (case h_11 =>
      refine' Tw.ClsF.mk ?g11_a ?g11_x ?g11_b ?g11_ai ?g11_l ?g11_c
      (case g11_a => k_is)
      (case g11_x => k_is)
      (case g11_b => kernel_rfl)
      (case g11_ai => k_is)
      (case g11_l => k_is)
      (case g11_c => kernel_rfl))
    (case h_12 =>
      refine' Tw.ClsF.mk ?g12_a ?g12_x ?g12_b ?g12_ai ?g12_l ?g12_c
      (case g12_a => k_is)
      (case g12_x => k_is)
      (case g12_b => kernel_rfl)
      (case g12_ai => k_is)
      (case g12_l => k_is)
      (case g12_c => kernel_rfl))
    (case h_13 =>
      refine' Tw.ClsF.mk ?g13_a ?g13_x ?g13_b ?g13_ai ?g13_l ?g13_c
      (case g13_a => k_is)
      (case g13_x => k_is)
      (case g13_b => kernel_rfl)
      (case g13_ai => k_is)
      (case g13_l => k_is)
      (case g13_c => kernel_rfl))
    (case h_14 =>
      refine' Tw.ClsF.mk ?g14_a ?g14_x ?g14_b ?g14_ai ?g14_l ?g14_c
      (case g14_a => k_is)
      (case g14_x => k_is)
      (case g14_b => kernel_rfl)
      (case g14_ai => k_is)
      (case g14_l => k_is)
      (case g14_c => kernel_rfl))
    (case h_15 =>
      refine' Tw.ClsF.mk ?g15_a ?g15_x ?g15_b ?g15_ai ?g15_l ?g15_c
      (case g15_a => k_is)
      (case g15_x => k_is)
      (case g15_b => kernel_rfl)
      (case g15_ai => k_is)
      (case g15_l => k_is)
      (case g15_c => kernel_rfl))
    (case h_16 =>
      refine' Tw.ClsF.mk ?g16_a ?g16_x ?g16_b ?g16_ai ?g16_l ?g16_c
      (case g16_a => k_is)
      (case g16_x => k_is)
      (case g16_b => kernel_rfl)
      (case g16_ai => k_is)
      (case g16_l => k_is)
      (case g16_c => kernel_rfl))
    (case h_17 =>
      refine' Tw.ClsF.mk ?g17_a ?g17_x ?g17_b ?g17_ai ?g17_l ?g17_c
      (case g17_a => k_is)
      (case g17_x => k_is)
      (case g17_b => kernel_rfl)
      (case g17_ai => k_is)
      (case g17_l => k_is)
      (case g17_c => kernel_rfl))
    (case h_18 =>
      refine' Tw.ClsF.mk ?g18_a ?g18_x ?g18_b ?g18_ai ?g18_l ?g18_c
      (case g18_a => k_is)
      (case g18_x => k_is)
      (case g18_b => kernel_rfl)
      (case g18_ai => k_is)
      (case g18_l => k_is)
      (case g18_c => kernel_rfl))
    (case h_19 =>
      refine' Tw.ClsF.mk ?g19_a ?g19_x ?g19_b ?g19_ai ?g19_l ?g19_c
      (case g19_a => k_is)
      (case g19_x => k_is)
      (case g19_b => kernel_rfl)
      (case g19_ai => k_is)
      (case g19_l => k_is)
      (case g19_c => kernel_rfl))
    (case h_20 =>
      refine' Tw.ClsF.mk ?g20_a ?g20_x ?g20_b ?g20_ai ?g20_l ?g20_c
      (case g20_a => k_is)
      (case g20_x => k_is)
      (case g20_b => kernel_rfl)
      (case g20_ai => k_is)
      (case g20_l => k_is)
      (case g20_c => kernel_rfl))
    (case h_21 =>
      refine' Tw.ClsF.mk ?g21_a ?g21_x ?g21_b ?g21_ai ?g21_l ?g21_c
      (case g21_a => k_is)
      (case g21_x => k_is)
      (case g21_b => kernel_rfl)
      (case g21_ai => k_is)
      (case g21_l => k_is)
      (case g21_c => kernel_rfl))
    (case h_22 =>
      refine' Tw.ClsF.mk ?g22_a ?g22_x ?g22_b ?g22_ai ?g22_l ?g22_c
      (case g22_a => k_is)
      (case g22_x => k_is)
      (case g22_b => kernel_rfl)
      (case g22_ai => k_is)
      (case g22_l => k_is)
      (case g22_c => kernel_rfl))
    (case h_23 =>
      refine' Tw.ClsF.mk ?g23_a ?g23_x ?g23_b ?g23_ai ?g23_l ?g23_c
      (case g23_a => k_is)
      (case g23_x => k_is)
      (case g23_b => kernel_rfl)
      (case g23_ai => k_is)
      (case g23_l => k_is)
      (case g23_c => kernel_rfl))
    (case h_24 =>
      refine' Tw.ClsF.mk ?g24_a ?g24_x ?g24_b ?g24_ai ?g24_l ?g24_c
      (case g24_a => k_is)
      (case g24_x => k_is)
      (case g24_b => kernel_rfl)
      (case g24_ai => k_is)
      (case g24_l => k_is)
      (case g24_c => kernel_rfl))
    (case h_25 =>
      refine' Tw.ClsF.mk ?g25_a ?g25_x ?g25_b ?g25_ai ?g25_l ?g25_c
      (case g25_a => k_is)
      (case g25_x => k_is)
      (case g25_b => kernel_rfl)
      (case g25_ai => k_is)
      (case g25_l => k_is)
      (case g25_c => kernel_rfl))
    (case h_26 =>
      refine' Tw.ClsF.mk ?g26_a ?g26_x ?g26_b ?g26_ai ?g26_l ?g26_c
      (case g26_a => k_is)
      (case g26_x => k_is)
      (case g26_b => kernel_rfl)
      (case g26_ai => k_is)
      (case g26_l => k_is)
      (case g26_c => kernel_rfl))
    (case h_27 =>
      refine' Tw.ClsF.mk ?g27_a ?g27_x ?g27_b ?g27_ai ?g27_l ?g27_c
      (case g27_a => k_is)
      (case g27_x => k_is)
      (case g27_b => kernel_rfl)
      (case g27_ai => k_is)
      (case g27_l => k_is)
      (case g27_c => kernel_rfl))
    (case h_28 =>
      refine' Tw.ClsF.mk ?g28_a ?g28_x ?g28_b ?g28_ai ?g28_l ?g28_c
      (case g28_a => k_is)
      (case g28_x => k_is)
      (case g28_b => kernel_rfl)
      (case g28_ai => k_is)
      (case g28_l => k_is)
      (case g28_c => kernel_rfl))
    (case h_29 =>
      refine' Tw.ClsF.mk ?g29_a ?g29_x ?g29_b ?g29_ai ?g29_l ?g29_c
      (case g29_a => k_is)
      (case g29_x => k_is)
      (case g29_b => kernel_rfl)
      (case g29_ai => k_is)
      (case g29_l => k_is)
      (case g29_c => kernel_rfl))
    (case h_30 =>
      refine' Tw.ClsF.mk ?g30_a ?g30_x ?g30_b ?g30_ai ?g30_l ?g30_c
      (case g30_a => k_is)
      (case g30_x => k_is)
      (case g30_b => kernel_rfl)
      (case g30_ai => k_is)
      (case g30_l => k_is)
      (case g30_c => kernel_rfl))
    (case h_31 =>
      refine' Tw.ClsF.mk ?g31_a ?g31_x ?g31_b ?g31_ai ?g31_l ?g31_c
      (case g31_a => k_is)
      (case g31_x => k_is)
      (case g31_b => kernel_rfl)
      (case g31_ai => k_is)
      (case g31_l => k_is)
      (case g31_c => kernel_rfl))
    (case h_32 =>
      refine' Tw.ClsF.mk ?g32_a ?g32_x ?g32_b ?g32_ai ?g32_l ?g32_c
      (case g32_a => k_is)
      (case g32_x => k_is)
      (case g32_b => kernel_rfl)
      (case g32_ai => k_is)
      (case g32_l => k_is)
      (case g32_c => kernel_rfl))
    (case h_33 =>
      refine' Tw.ClsF.mk ?g33_a ?g33_x ?g33_b ?g33_ai ?g33_l ?g33_c
      (case g33_a => k_is)
      (case g33_x => k_is)
      (case g33_b => kernel_rfl)
      (case g33_ai => k_is)
      (case g33_l => k_is)
      (case g33_c => kernel_rfl))
    (case h_34 =>
      refine' Tw.ClsF.mk ?g34_a ?g34_x ?g34_b ?g34_ai ?g34_l ?g34_c
      (case g34_a => k_is)
      (case g34_x => k_is)
      (case g34_b => kernel_rfl)
      (case g34_ai => k_is)
      (case g34_l => k_is)
      (case g34_c => kernel_rfl))
    (case h_35 =>
      refine' Tw.ClsF.mk ?g35_a ?g35_x ?g35_b ?g35_ai ?g35_l ?g35_c
      (case g35_a => k_is)
      (case g35_x => k_is)
      (case g35_b => kernel_rfl)
      (case g35_ai => k_is)
      (case g35_l => k_is)
      (case g35_c => kernel_rfl))
    (case h_36 =>
      refine' Tw.ClsF.mk ?g36_a ?g36_x ?g36_b ?g36_ai ?g36_l ?g36_c
      (case g36_a => k_is)
      (case g36_x => k_is)
      (case g36_b => kernel_rfl)
      (case g36_ai => k_is)
      (case g36_l => k_is)
      (case g36_c => kernel_rfl))
    (case h_37 =>
      refine' Tw.ClsF.mk ?g37_a ?g37_x ?g37_b ?g37_ai ?g37_l ?g37_c
      (case g37_a => k_is)
      (case g37_x => k_is)
      (case g37_b => kernel_rfl)
      (case g37_ai => k_is)
      (case g37_l => k_is)
      (case g37_c => kernel_rfl))
    (case h_38 =>
      refine' Tw.ClsF.mk ?g38_a ?g38_x ?g38_b ?g38_ai ?g38_l ?g38_c
      (case g38_a => k_is)
      (case g38_x => k_is)
      (case g38_b => kernel_rfl)
      (case g38_ai => k_is)
      (case g38_l => k_is)
      (case g38_c => kernel_rfl))
    (case h_39 =>
      refine' Tw.ClsF.mk ?g39_a ?g39_x ?g39_b ?g39_ai ?g39_l ?g39_c
      (case g39_a => k_is)
      (case g39_x => k_is)
      (case g39_b => kernel_rfl)
      (case g39_ai => k_is)
      (case g39_l => k_is)
      (case g39_c => kernel_rfl))
    (case h_40 =>
      refine' Tw.ClsF.mk ?g40_a ?g40_x ?g40_b ?g40_ai ?g40_l ?g40_c
      (case g40_a => k_is)
      (case g40_x => k_is)
      (case g40_b => kernel_rfl)
      (case g40_ai => k_is)
      (case g40_l => k_is)
      (case g40_c => kernel_rfl))
    (case h_41 =>
      refine' Tw.ClsF.mk ?g41_a ?g41_x ?g41_b ?g41_ai ?g41_l ?g41_c
      (case g41_a => k_is)
      (case g41_x => k_is)
      (case g41_b => kernel_rfl)
      (case g41_ai => k_is)
      (case g41_l => k_is)
      (case g41_c => kernel_rfl))
    (case h_42 =>
      refine' Tw.ClsF.mk ?g42_a ?g42_x ?g42_b ?g42_ai ?g42_l ?g42_c
      (case g42_a => k_is)
      (case g42_x => k_is)
      (case g42_b => kernel_rfl)
      (case g42_ai => k_is)
      (case g42_l => k_is)
      (case g42_c => kernel_rfl))
    (case aE => k_is)
    (case xE => k_is)
    (case exE => kernel_rfl)
    (case kE => k_is)
    (case gaE => k_is)
    (case ggE => k_is)
    (case haE => k_is)
    (case hdE_ => k_is)
    (case hn => k_is)
    (case htk => k_is)
    (case a_l_start => k_is)
    (case l_l_start => k_is)
    (case c_l_start => k_is)
    (case k_l_start => k_is)
    (case a_l_draw => k_is)
    (case l_l_draw => k_is)
    (case c_l_draw => k_is)
    (case k_l_draw => k_is)
    (case a_l_mixed => k_is)
    (case l_l_mixed => k_is)
    (case c_l_mixed => k_is)
    (case k_l_mixed => k_is)
    (case a_l_made_a => k_is)
    (case l_l_made_a => k_is)
    (case c_l_made_a => k_is)
    (case k_l_made_a => k_is)
    (case vA => k_is)
    (case pA => first | rfl | k_is)
    (case dA => kernel_rfl)
    (case nA => kernel_rfl)
    (case a_l_made_b => k_is)
    (case l_l_made_b => k_is)
    (case c_l_made_b => k_is)
    (case k_l_made_b => k_is)
    (case vB => k_is)
    (case pB => first | rfl | k_is)
    (case dB => kernel_rfl)
    (case nB => kernel_rfl)
    (case a_l_made_c => k_is)
    (case l_l_made_c => k_is)
    (case c_l_made_c => k_is)
    (case k_l_made_c => k_is)
    (case vC => k_is)
    (case pC => first | rfl | k_is)
    (case dC => kernel_rfl)
    (case nC => kernel_rfl)
    (case a_l_kinds_a => k_is)
    (case l_l_kinds_a => k_is)
    (case c_l_kinds_a => k_is)
    (case k_l_kinds_a => k_is)
    (case a_l_kinds_b => k_is)
    (case l_l_kinds_b => k_is)
    (case c_l_kinds_b => k_is)
    (case k_l_kinds_b => k_is)
    (case a_l_kinds_c => k_is)
    (case l_l_kinds_c => k_is)
    (case c_l_kinds_c => k_is)
    (case k_l_kinds_c => k_is)
    (case a_l_kinds => k_is)
    (case l_l_kinds => k_is)
    (case c_l_kinds => k_is)
    (case k_l_kinds => k_is)
    (case a_l_is_own => k_is)
    (case l_l_is_own => k_is)
    (case c_l_is_own => k_is)
    (case k_l_is_own => k_is)
    (case a_l_are_these => k_is)
    (case l_l_are_these => k_is)
    (case c_l_are_these => k_is)
    (case k_l_are_these => k_is)
    (case a_law => k_is)
    (case l_law => k_is)
    (case c_law => k_is)
    (case k_law => k_is)
    (case z_LookupError => k_is)
    (case z_ValueError => k_is)
    (case z_enumerate => k_is)
    (case z_int => k_is)
    (case z_isinstance => k_is)
    (case z_len => k_is)
    (case z_list => k_is)
    (case z_range => k_is)
    (case z_repr => k_is)
    (case nd => decide +kernel)
    (case nAB => decide +kernel)
    (case nAC => decide +kernel)
    (case nBC => decide +kernel)
    (case mV => decide +kernel)
    (case mL => decide +kernel)
    (case rA => decide +kernel)
    (case rB => decide +kernel)
    (case rC => decide +kernel)
end

section
set_option Elab.async false
set_option linter.all false
set_option maxRecDepth 100000
set_option maxHeartbeats 4000000
/-! Rules of any kind of operand, data over the heap, and what stays. -/
namespace Tw
open PySem L2 PyProof.Rows

/-! ### unions: a rule holds if one of two does -/
section
variable {X : Cx} {e a b : Expr} {t u : TE} {r q : R2} {f : Value → Value → Sem Value}
theorem pe_or (h : PE X e t) (k : PE X e u) : PE X e (fun σ H Q => t σ H Q ∨ u σ H Q) :=
  ⟨fun pins s σ H Q I z => z.elim (h.run pins s σ H Q I) (k.run pins s σ H Q I)⟩
theorem op_or (h : OpR X f r) (k : OpR X f q) : OpR X f (fun x y H Q => r x y H Q ∨ q x y H Q) :=
  fun pins s σ H x y v u Q I rx ry z => z.elim (h pins s σ H x y v u Q I rx ry) (k pins s σ H x y v u Q I rx ry)
theorem call_or {f : Value} {r q : List V → Hp → VK → Prop} (h : CallR X f r) (k : CallR X f q) : CallR X f (fun xs H Q => r xs H Q ∨ q xs H Q) :=
  fun pins s σ H xs us Q I rx z => z.elim (h pins s σ H xs us Q I rx) (k pins s σ H xs us Q I rx)
theorem mt_or {id : String} {r q : V → List V → Hp → VK → Prop} (h : MtR X id r) (k : MtR X id q) : MtR X id (fun x xs H Q => r x xs H Q ∨ q x xs H Q) := by
  intro pins s σ H x xs u us Q I rx rs z
  exact z.elim (h pins s σ H x xs u us Q I rx rs) (k pins s σ H x xs u us Q I rx rs)
theorem pi_or {tg it : Expr} {w1 w2 : TI} (h : PI X tg it w1) (k : PI X tg it w2) : PI X tg it (fun σ H R => w1 σ H R ∨ w2 σ H R) :=
  ⟨fun pins s σ H R I z => z.elim (h.run pins s σ H R I) (k.run pins s σ H R I)⟩
end

/-! ### list.extend by a tuple -/
theorem list_extend_tup (l : Addr) (items : Array Value) (n : Nat) (b : Addr) (items2 : Array Value) (n2 : Nat) (dd : Option Addr) (sl : Array (Option Value)) (hs0 : ¬(!items.isEmpty && Builtin.List.listTooLong (items.size + items2.size)) = true) (hs1 : items.size ≤ sizeLine) (hs2 : items.size + items2.size ≤ sizeLine + 1) :
    Meets (Builtin.«list.extend» ⟨[.ref l, .ref b], []⟩) (fun _ R s => s.heap.get? l = some { cls := .type "list", dict := none, data := .seq items n, slots := #[] } ∧ s.heap.get? b = some { cls := .type "tuple", dict := dd, data := .seq items2 n2, slots := sl } ∧ R (.ok (.ret Value.none)) { s with heap := s.heap.update l (Obj.mapSeq fun x => x ++ items2), toks := s.toks }) :=
  .of_wp fun prog w A R s h => by
    obtain ⟨hp, g, d, tk, os⟩ := s; obtain ⟨hl, hb, h⟩ := h; have f1 := AutoSeq1.idx_int; have f2 := AutoSeq1.sub_tuple_tuple; have f3 := AutoSeq1.sub_list_list; have f4 := AutoSeq1.sub_tuple_list; have f5 := AutoSeq1.sub_list_tuple;
    have hz' : (items ++ items2).size ≤ sizeLine + 1 := by rw [Array.size_append]; exact hs2
    wp_walk using (wpAny_updateSeq hl rfl (hz := hs1) (_hz' := hz')), AutoSeq1.wpAny_loadPart' hl, AutoSeq1.wpAny_loadPart' hb; exact ⟨_, rfl, h⟩
section
variable {X : Cx}
def rExtT (K : PySem.W.Frag) : V → List V → Hp → VK → Prop := fun x vs H Q => ∃ l b xs zs, x = .ref l ∧ vs = [.ref b] ∧ H l = some (.lst xs) ∧ SqT K H b zs ∧ xs.length + zs.length ≤ sizeLine ∧ Q .non (upd H l (.lst (xs ++ zs)))
theorem mt_extendT : MtR X "list.extend" (rExtT X.K) := by
  intro pins s σ H x vs v us Q I rx rv h
  obtain ⟨l, b, xs, zs, rfl, rfl, hH, hB, hz, q⟩ := h
  cases rx
  obtain ⟨u, rfl, ru⟩ := rv.one
  cases ru
  obtain ⟨z, its, n, r, hl, e⟩ := I.lstM hH
  obtain ⟨its2, r2, p2, hl2⟩ := I.tuple hB
  obtain ⟨⟨oc, od, odt, osl⟩, e2, c2, n2, d2⟩ := p2
  replace c2 : oc = .type "tuple" := c2
  replace d2 : odt = .seq its2.toArray n2 := d2
  subst c2 d2
  have hsz : its.toArray.size + its2.toArray.size ≤ sizeLine := by
    rw [List.size_toArray, List.size_toArray]
    have h1 := r.length
    have h2 := r2.length
    omega
  have hlong : ¬ (!its.toArray.isEmpty && Builtin.List.listTooLong (its.toArray.size + its2.toArray.size)) = true := by
    rw [notLongL hsz, Bool.and_false]
    exact Bool.false_ne_true
  refine call_meets F.slot_list_extend ⟨_, e, rfl⟩ F.entry_list_extend (F.args_list_extend_2 _ _)
    (list_extend_tup l its.toArray n b its2.toArray n2 od osl hlong (by omega) (by omega)) ⟨e, e2, ?_⟩
  refine ⟨.non, _, I.lset (its' := its ++ its2) hH e (by simp) (r.append r2) ?_, rfl, q⟩
  rw [List.length_append]
  omega
/-- extend by a list or a tuple -/
theorem mt_extU : MtR X "list.extend" (fun x xs H Q => rExtend x xs H Q ∨ rExtT X.K x xs H Q) := mt_or (fun pins s σ H x xs v us Q I rx rs z => mt_extend pins s σ H x xs v us Q I rx rs z) mt_extendT

/-! ### in, not in: lists and tuples of data -/
def rInT (K : PySem.W.Frag) : R2 := fun x y H Q => ∃ d ds, Dp K H x d ∧ Dp K H y (.tuple ds) ∧ SeqAt.shaped d = true ∧ SeqAt.shaped (.tuple ds) = true ∧ Q (.bl (ds.any fun z => PyData.eqv z d)) H
def rNotInT (K : PySem.W.Frag) : R2 := fun x y H Q => ∃ d ds, Dp K H x d ∧ Dp K H y (.tuple ds) ∧ SeqAt.shaped d = true ∧ SeqAt.shaped (.tuple ds) = true ∧ Q (.bl (!ds.any fun z => PyData.eqv z d)) H
theorem room_inT {A : Around} {ds : List PyData} {d : PyData} (h : SeqAt.shaped d = true) (hu : A.units + 65 < cLine) : A.units + 1 + min (PyData.depthAll ds) d.depth < cLine := by
  have h1 := SeqAt.depth_of_shaped h
  have h2 : min (PyData.depthAll ds) d.depth ≤ d.depth := Nat.min_le_right _ _
  omega
theorem op_inT (hu : X.A.units + 65 < cLine) : OpR X (compareOp .In) (rInT X.K) := by
  intro pins s σ H x y v u Q I rx ry h
  obtain ⟨d, ds, hd, he, sd, se, q⟩ := h
  obtain ⟨as, r1⟩ := Dp.reads I d x v hd rx
  obtain ⟨bs, r2⟩ := Dp.reads I (.tuple ds) y u he ry
  exact SeqAt.in_tuple_reads r2 r1 (SeqAt.canLay_of_shaped se) (SeqAt.canLay_of_shaped sd) (room_inT sd hu) ⟨.bl _, H, I, rfl, q⟩
theorem op_notInT (hu : X.A.units + 65 < cLine) : OpR X (compareOp .NotIn) (rNotInT X.K) := by
  intro pins s σ H x y v u Q I rx ry h
  obtain ⟨d, ds, hd, he, sd, se, q⟩ := h
  obtain ⟨as, r1⟩ := Dp.reads I d x v hd rx
  obtain ⟨bs, r2⟩ := Dp.reads I (.tuple ds) y u he ry
  exact SeqAt.notIn_tuple_reads r2 r1 (SeqAt.canLay_of_shaped se) (SeqAt.canLay_of_shaped sd) (room_inT sd hu) ⟨.bl _, H, I, rfl, q⟩
end

/-! ### enumerate of a tuple -/
theorem meets_enumerate_newT (l : Addr) (items : Array Value) (n : Nat) (dct : Option Addr) (sl : Array (Option Value)) :
    Meets (Builtin.«enumerate.__new__» ⟨[.type "enumerate", .ref l], []⟩) (fun _ R s => s.heap.get? l = some { cls := .type "tuple", dict := dct, data := .seq items n, slots := sl } ∧
      R (.ok (.ret (.ref (s.heap.push { cls := .type "tuple_iterator", data := .fields #[.ref l, .int 0 0] }).objs.size)))
        { s with heap := (s.heap.push { cls := .type "tuple_iterator", data := .fields #[.ref l, .int 0 0] }).push { cls := .type "enumerate", data := .fields #[.none, .bool false, .ref s.heap.objs.size, rawInt 0, .none, .none] } }) :=
  .of_wp fun prog w A R s h => by
    obtain ⟨hp, g, d, tk, os⟩ := s; obtain ⟨hl, h⟩ := h
    have hsub := sub_enumerate
    have hL : Heap.IsTuple (Shared.heap ⟨hp, g, d, tk, os⟩) l items := ⟨_, hl, rfl, n, rfl⟩
    wp_walk using AutoSeq1.wpAny_loadPart' hl
    refine wpAny_stack_any fun st => wpAny_pure ?_
    split
    · rename_i c _ _ _ _ _
      cases (c == Value.type "enumerate")
      · wp_walk using AutoSeq1.wpAny_loadPart' hl, wpAny_pyIter_tuple hL
        exact ⟨_, rfl, h⟩
      · wp_walk using AutoSeq1.wpAny_loadPart' hl, wpAny_pyIter_tuple hL
        exact ⟨_, rfl, h⟩
    · wp_walk using AutoSeq1.wpAny_loadPart' hl, wpAny_pyIter_tuple hL
      exact ⟨_, rfl, h⟩
theorem call_enumerate_tuple {prog : Program} {w : World} {A : Around} {E : Value → Shared → Prop} {s : Shared} {l : Addr} {items : Array Value} {Q : Value → Shared → Prop} (hL : s.heap.IsTuple l items)
    (h : ∀ h', IsEnum h' (s.heap.objs.size + 1) s.heap.objs.size 0 .none → h'.IsTupleIter s.heap.objs.size l 0 → h'.objs.size = s.heap.objs.size + 2 →
      (∀ b o, s.heap.get? b = some o → h'.get? b = some o) → Q (.ref (s.heap.objs.size + 1)) { s with heap := h' }) :
    wpAny (model prog w) A (call (.type "enumerate") [.ref l]) Q E s := by
  obtain ⟨⟨c, dct, dt, sl⟩, hl, hc, n, hd⟩ := hL
  replace hc : c = .type "tuple" := hc
  replace hd : dt = .seq items n := hd
  subst hc hd
  refine callType_new F.called_enumerate (by decide) (F.typeCall_enumerate_1 _) (F.newCall_enumerate_1 _) (fun obj => F.args_object_init_2 obj _) F.entry_enumerate_new
    (meets_enumerate_newT l items n dct sl) ⟨hl, ?_⟩
  have hz : (s.heap.push { cls := .type "tuple_iterator", data := .fields #[.ref l, .int 0 0] }).objs.size = s.heap.objs.size + 1 := Heap.size_push ..
  show _ ∧ _
  rw [hz]
  have he : IsEnum ((s.heap.push { cls := .type "tuple_iterator", data := .fields #[.ref l, .int 0 0] }).push
      { cls := .type "enumerate", data := .fields #[.none, .bool false, .ref s.heap.objs.size, rawInt 0, .none, .none] }) (s.heap.objs.size + 1) s.heap.objs.size 0 .none := by
    have := Heap.get?_push_size (s.heap.push { cls := .type "tuple_iterator", data := .fields #[.ref l, .int 0 0] })
      (o := { cls := .type "enumerate", data := .fields #[.none, .bool false, .ref s.heap.objs.size, rawInt 0, .none, .none] }) rfl
    rw [hz] at this; exact this
  refine ⟨⟨_, he, rfl⟩, h _ he ⟨_, Heap.get?_push_of_some _ (Heap.get?_push_size _ rfl), rfl, rfl⟩ (by rw [Heap.size_push, hz]) fun b o x => Heap.get?_push_of_some _ (Heap.get?_push_of_some _ x)⟩
/-- the tuple at a, each item in a new pair -/
def IteT (K : PySem.W.Frag) (a : Addr) : It :=
  ⟨fun i H => ∃ (xs : List V) (x : V), SqT K H a xs ∧ xs[i]? = some x, fun i H v H' => ∃ T x, v = .ref T ∧ H T = none ∧ H' = upd H T (.tup [.int (i : Nat), x]) ∧ ∀ xs, SqT K H a xs → xs[i]? = some x, fun i H => ∃ xs : List V, SqT K H a xs ∧ xs.length = i⟩
theorem turn_enumT {P : Program} {w : World} {K : PySem.W.Frag} {elts : List Expr} {kk : Nat} {tpos : Pos} (a e it : Addr) :
    Turn P w K (.Tuple elts kk tpos) (IteT K a) [e, it] e (fun i h => (∃ old, IsEnum h e it ((i : Nat) : Int) old) ∧ h.IsTupleIter it a i ∧ e ≠ it) where
  mem := by simp
  obj := fun i h st b hb => by
    obtain ⟨⟨old, he⟩, ⟨o, ho, hc, hd⟩, _⟩ := st
    have e' : b = e ∨ b = it := by simpa using hb
    rcases e' with z | z
    · rw [z]; exact ⟨_, he, fun v q => nomatch q⟩
    · rw [z]; exact ⟨o, ho, fun v q => by rw [hd] at q; cases q⟩
  keep := fun i h h' st k => let ⟨⟨old, he⟩, hi, hne⟩ := st; ⟨⟨old, k e (by simp) _ he⟩, hi.at fun o q => k it (by simp) o q, hne⟩
  item := by
    intro X hP hw hK hc i pins s σ H E I hf st hg
    subst hP hw hK
    obtain ⟨⟨old, he⟩, hit, hne⟩ := st
    obtain ⟨xs, x, hq, hx⟩ := hg
    obtain ⟨its, rv, p, hz⟩ := I.tuple hq
    obtain ⟨u, hu, ru⟩ := rv.get hx
    have hel : e < s.heap.objs.size := Heap.lt_size he
    have hil : it < s.heap.objs.size := by obtain ⟨_, q, _⟩ := hit; exact Heap.lt_size q
    have hai : a ≠ it := fun z => by
      obtain ⟨o1, q1, c1, _⟩ := p
      obtain ⟨o2, q2, c2, _⟩ := hit
      rw [z, q2] at q1
      cases q1
      rw [c2] at c1
      exact absurd c1 (by decide)
    have hae : e ∉ [it, a] := by
      intro z
      have z' : e = it ∨ e = a := by simpa using z
      rcases z' with z' | z'
      · exact hne z'
      · obtain ⟨o1, q1, c1, _⟩ := p
        rw [← z'] at q1
        have q2 : s.heap.get? e = _ := he
        rw [q2] at q1
        cases q1
        exact absurd (show Value.type "enumerate" = Value.type "tuple" from c1) (by decide)
    have hilt : i < its.toArray.size := by
      rw [List.size_toArray]
      exact (List.getElem?_eq_some_iff.mp hu).1
    refine wpAny_pyNext_enum_itemD (Draws.tuple (A := X.A.in1) (I.ok.hd hc) it a hai its.toArray) he ⟨hit, p⟩ hilt hne hae fun x' h' tk hx' ho hst' hT hsz hk => ?_
    have ex' : x' = u := by
      have z : its[i]? = some x' := by simpa using hx'
      rw [hu] at z
      exact (Option.some.inj z).symm
    subst ex'
    have hit' := hst'.1
    refine ⟨_, rfl, wpAny_letOwnedTupleGo_enum (s := { s with heap := h', toks := tk + 1 }) ho fun h'' he' sb => ?_⟩
    have hT2 : h''.get? s.heap.objs.size = some { cls := .type "tuple", data := .seq #[.int i tk, x'] } := (sb.2 _ (Nat.ne_of_gt hel)).trans hT
    have new : ObjOk X.prog X.w (upd H s.heap.objs.size (.tup [.int (i : Nat), x])) h'' s.heap.objs.size (.tup [.int (i : Nat), x]) :=
      ⟨by show 2 ≤ sizeLine; decide, [.int i tk, x'], .cons ⟨_, rfl⟩ (.cons ru .nil), ⟨_, hT2, rfl, _, rfl⟩⟩
    have I1 : Inv X pins σ (upd H s.heap.objs.size (.tup [.int (i : Nat), x])) { s with heap := h'', toks := tk + 1 } :=
      I.turnedNew (ch := [e, it]) (fun b ob hb q => (sb.2 b (fun z => hb (by simp [z]))).trans (hk b ob (fun z => hb (by simp [z])) (fun z => hb (by simp [z])) q)) hf (Nat.le_refl _) new
    refine ⟨.ref s.heap.objs.size, _, I1, rfl, ⟨_, x, rfl, I.hok.fresh (Nat.le_refl _), rfl, fun ys hy => by rw [I.tuple_inj hy hq]; exact hx⟩, ⟨⟨x', ?_⟩, hit'.at fun o q => (sb.2 it (Ne.symm hne)).trans q, hne⟩, fun b hb => ?_⟩
    · have e1 : ((i + 1 : Nat) : Int) = (i : Int) + 1 := by omega
      rw [e1]; exact he'
    · have hb' : b < s.heap.objs.size := by
        have e' : b = e ∨ b = it := by simpa using hb
        rcases e' with z | z
        · rw [z]; exact hel
        · rw [z]; exact hil
      rw [upd_ne (Nat.ne_of_lt hb')]
      exact (hf b hb).1
  done := by
    intro X hP hw hK hc i pins s σ H E I hf st hg
    subst hP hw hK
    obtain ⟨⟨old, he⟩, hit, hne⟩ := st
    obtain ⟨xs, hq, hx⟩ := hg
    obtain ⟨its, rv, p, hz⟩ := I.tuple hq
    obtain ⟨f0, f1, f2, f3, f4, f5⟩ := hf it (by simp)
    have hl := rv.length
    have hai : a ≠ it := fun z => by
      obtain ⟨o1, q1, c1, _⟩ := p
      obtain ⟨o2, q2, c2, _⟩ := hit
      rw [z, q2] at q1
      cases q1
      rw [c2] at c1
      exact absurd c1 (by decide)
    have hsi : i = its.toArray.size := by
      rw [List.size_toArray]
      omega
    subst hsi
    exact wpAny_pyNext_enum_endD (Draws.tuple (A := X.A.in1) (I.ok.hd hc) it a hai its.toArray) he ⟨hit, p⟩ fun h' eb => ⟨rfl, I.turned (t' := s.toks) (fun b o hb q => eb b o hb q) f0 f1 f3 f4 f5⟩
  self := fun A i s Q E st h => let ⟨⟨_, he⟩, _⟩ := st; wpAny_pyIter_enum he h
def iEnumT (K : PySem.W.Frag) (ta : TA) : TI := fun σ H R => ta σ H fun vs H1 => ∃ a xs, vs = [.ref a] ∧ SqT K H1 a xs ∧ R (IteT K a) H1
theorem pi_enumT {X : Cx} {e : Expr} {ta : TA} {p pos tpos : Pos} {elts : List Expr} {kk : Nat} (hg : Gl X "enumerate") (hm : X.mg "enumerate" = none) (ha : PA X [e] ta) (hs : starEach [e] X.env = [(false, eval e X.env)] := by rfl) :
    PI X (.Tuple elts kk tpos) (.Call (.Name "enumerate" p) [e] [] pos) (iEnumT X.K ta) := by
  refine ⟨fun pins s σ H R I h => ?_⟩
  refine Call_ (ld_blt I hg hm boot_enumerate (PyProof.Rows.callWith_type1 (thn (ha.run pos pins s σ H _ I h) fun us s1 ⟨vs, H1, I1, r1, q1⟩ => ?_) hs rfl))
  obtain ⟨a, xs, ex, hq, q⟩ := q1
  subst ex
  cases r1 with
  | cons r rr =>
    cases rr
    cases r
    obtain ⟨its, rv, p', hz⟩ := I1.tuple hq
    refine call_enumerate_tuple p' fun h' he hit hsz hk => wpAny_pyIter_enum he ?_
    have I2 : Inv X pins σ H1 { s1 with heap := h' } := I1.kept (t' := s1.toks) hk
    refine ⟨s1.heap.objs.size + 1, [s1.heap.objs.size + 1, s1.heap.objs.size], _, _, H1, rfl, I2, turn_enumT a (s1.heap.objs.size + 1) s1.heap.objs.size, ⟨⟨.none, he⟩, hit, Nat.succ_ne_self _⟩, fun b hb => ?_, q⟩
    have e' : b = s1.heap.objs.size + 1 ∨ b = s1.heap.objs.size := by simpa using hb
    have hle : s1.heap.objs.size ≤ b := by
      rcases e' with z | z
      · rw [z]; exact Nat.le_add_right _ _
      · rw [z]; exact Nat.le_refl _
    exact I1.fpOk hle (I1.hok.fresh hle)
/-- enumerate of a list or a tuple -/
theorem pi_enumU {X : Cx} {e : Expr} {ta : TA} {p pos tpos : Pos} {elts : List Expr} {kk : Nat} (hg : Gl X "enumerate") (hm : X.mg "enumerate" = none) (ha : PA X [e] ta) (hs : starEach [e] X.env = [(false, eval e X.env)] := by rfl) :
    PI X (.Tuple elts kk tpos) (.Call (.Name "enumerate" p) [e] [] pos) (fun σ H R => iEnum X.K ta σ H R ∨ iEnumT X.K ta σ H R) := pi_or (pi_enum hg hm ha hs) (pi_enumT hg hm ha hs)
/-- a list, a tuple, a text -/
def iSeq (K : PySem.W.Frag) (tl : TE) : TI := fun σ H R => iList K tl σ H R ∨ iTup K tl σ H R ∨ iStr tl σ H R
end Tw
end

section
set_option Elab.async false
set_option linter.all false
set_option maxRecDepth 100000
set_option maxHeartbeats 4000000
namespace Tw
open PySem L2 PyProof.Rows

/-! ### rules of any kind of operand -/
section
variable {X : Cx}
def rAddStr : R2 := fun x y H Q => ∃ i j : Str, x = .str i ∧ y = .str j ∧ i.length + j.length ≤ sizeLine ∧ Q (.str (i ++ j)) H
@[irreducible] def rAddU (K : PySem.W.Frag) : R2 := fun x y H Q => rI0 (fun i j => .int (i + j)) x y H Q ∨ rAddStr x y H Q ∨ rCat x y H Q ∨ rCatA K x y H Q
theorem op_addU : OpR X (binaryOp .Add) (rAddU X.K) := by
  unfold rAddU
  exact op_or op_add (op_or op_add_str (op_or op_cat op_catA))
@[irreducible] def rMulU : R2 := fun x y H Q => rI CMul (fun i j => .int (i * j)) x y H Q ∨ rRep x y H Q
theorem op_mulU : OpR X (binaryOp .Mult) rMulU := by
  unfold rMulU
  exact op_or op_mul op_rep
def rInStr : R2 := fun x y H Q => ∃ i j : Str, x = .str i ∧ y = .str j ∧ Q (.bl (!(Builtin.Str.occurrences j i 0 j.length 1).isEmpty)) H
def rNotInStr : R2 := fun x y H Q => ∃ i j : Str, x = .str i ∧ y = .str j ∧ Q (.bl (!(!(Builtin.Str.occurrences j i 0 j.length 1).isEmpty))) H
@[irreducible] def rInU (K : PySem.W.Frag) : R2 := fun x y H Q => rInD K x y H Q ∨ rInT K x y H Q ∨ rInStr x y H Q ∨ rIn K false x y H Q
@[irreducible] def rNotInU (K : PySem.W.Frag) : R2 := fun x y H Q => rNotInD K x y H Q ∨ rNotInT K x y H Q ∨ rNotInStr x y H Q ∨ rIn K true x y H Q
theorem op_inU (hu : X.A.units + 65 < cLine) : OpR X (compareOp .In) (rInU X.K) := by
  unfold rInU
  exact op_or (op_inD hu) (op_or (op_inT hu) (op_or op_in_str op_in_seq))
theorem op_notInU (hu : X.A.units + 65 < cLine) : OpR X (compareOp .NotIn) (rNotInU X.K) := by
  unfold rNotInU
  exact op_or (op_notInD hu) (op_or (op_notInT hu) (op_or op_notin_str op_notIn_seq))
/-- a list of anything beside an empty list -/
def rEqE : R2 := fun x y H Q => ∃ a b xs, x = .ref a ∧ y = .ref b ∧ H a = some (.lst xs) ∧ H b = some (.lst []) ∧ Q (.bl xs.isEmpty) H
def rNeE : R2 := fun x y H Q => ∃ a b xs, x = .ref a ∧ y = .ref b ∧ H a = some (.lst xs) ∧ H b = some (.lst []) ∧ Q (.bl (!xs.isEmpty)) H
theorem op_eqE (hu : X.A.units < cLine) : OpR X (compareOp .Eq) rEqE := by
  intro pins s σ H x y v u Q I rx ry h
  obtain ⟨a, b, xs, rfl, rfl, ha, hb, q⟩ := h
  cases rx
  cases ry
  obtain ⟨its, r, p, _⟩ := I.list (.inl (.inl ha))
  obtain ⟨its2, r2, p2, _⟩ := I.list (.inl (.inl hb))
  cases r2
  cases xs with
  | nil =>
    cases r
    refine SeqAt.RcAt.lists (A := X.A) (e := fun _ => true) p.isList p2.isList rfl hu (fun j h1 _ => ?_) X.prog X.w X.xe _ ⟨.bl true, H, I, rfl, q⟩
    exact absurd h1 (by simp)
  | cons x xs =>
    cases r with
    | cons r1 r2 =>
      exact SeqAt.RcAt.lists_lengths (A := X.A) p.isList p2.isList (by simp) hu X.prog X.w X.xe _ ⟨.bl false, H, I, rfl, q⟩
theorem op_neE (hu : X.A.units < cLine) : OpR X (compareOp .NotEq) rNeE := by
  intro pins s σ H x y v u Q I rx ry h
  obtain ⟨a, b, xs, rfl, rfl, ha, hb, q⟩ := h
  cases rx
  cases ry
  obtain ⟨its, r, p, _⟩ := I.list (.inl (.inl ha))
  obtain ⟨its2, r2, p2, _⟩ := I.list (.inl (.inl hb))
  cases r2
  cases xs with
  | nil =>
    cases r
    refine SeqAt.RcNeAt.lists (A := X.A) (e := fun _ => true) p.isList p2.isList rfl hu (fun j h1 _ => ?_) X.prog X.w X.xe _ ⟨.bl false, H, I, rfl, q⟩
    exact absurd h1 (by simp)
  | cons x xs =>
    cases r with
    | cons r1 r2 =>
      exact SeqAt.RcNeAt.lists_lengths (A := X.A) p.isList p2.isList (by simp) hu X.prog X.w X.xe _ ⟨.bl true, H, I, rfl, q⟩
@[irreducible] def rEqU (K : PySem.W.Frag) : R2 := fun x y H Q => rEq x y H Q ∨ rEqD K x y H Q ∨ rEqE x y H Q
@[irreducible] def rNeU (K : PySem.W.Frag) : R2 := fun x y H Q => rNe x y H Q ∨ rNeD K x y H Q ∨ rNeE x y H Q
theorem op_eqU (hu : X.A.units + 64 < cLine) : OpR X (compareOp .Eq) (rEqU X.K) := by
  unfold rEqU
  exact op_or op_eq (op_or (op_eqD hu) (op_eqE (by omega)))
theorem op_neU (hu : X.A.units + 64 < cLine) : OpR X (compareOp .NotEq) (rNeU X.K) := by
  unfold rNeU
  exact op_or op_ne (op_or (op_neD hu) (op_neE (by omega)))
def rLenD : List V → Hp → VK → Prop := fun xs H Q => ∃ a kvs, xs = [V.ref a] ∧ H a = some (.dK kvs) ∧ Q (.int kvs.length) H
def rLenA (K : PySem.W.Frag) : List V → Hp → VK → Prop := fun xs H Q => ∃ x n, xs = [x] ∧ LenV K x H n ∧ Q (.int n) H
@[irreducible] def rLenU (K : PySem.W.Frag) : List V → Hp → VK → Prop := fun xs H Q => rLenA K xs H Q ∨ rLenD xs H Q
theorem call_lenU : CallR X (.builtin "len") (rLenU X.K) := by
  unfold rLenU
  exact call_or call_len call_lenD
@[irreducible] def rLstOf (K : PySem.W.Frag) : List V → Hp → VK → Prop := fun xs H Q => ∃ p ys, xs = [V.ref p] ∧ (SqL K H p ys ∨ SqT K H p ys) ∧ ∀ (l : Addr), H l = none → Q (V.ref l) (upd H l (.lst ys))
theorem call_lstOf : CallR X (.type "list") (rLstOf X.K) := by
  unfold rLstOf
  exact call_list_of
@[irreducible] def rTupOf (K : PySem.W.Frag) : List V → Hp → VK → Prop := fun xs H Q => ∃ p ys, xs = [.ref p] ∧ ((SqL K H p ys ∧ ∀ l, H l = none → Q (.ref l) (upd H l (.tup ys))) ∨ (SqT K H p ys ∧ Q (.ref p) H))
theorem call_tupOf : CallR X (.type "tuple") (rTupOf X.K) := by
  unfold rTupOf
  exact call_tuple_of
@[irreducible] def rMax2 : List V → Hp → VK → Prop := fun xs H Q => ∃ i j, xs = [.int i, .int j] ∧ Q (.int (if j > i then j else i)) H
theorem call_mx2 (hc : X.calm = true) : CallR X (.builtin "max") rMax2 := by
  unfold rMax2
  exact call_max2 hc
@[irreducible] def rInt1 : List V → Hp → VK → Prop := fun xs H Q => (∃ i, xs = [.int i] ∧ Q (.int i) H) ∨ ∃ k, xs = [.bl k] ∧ Q (.int (if k then 1 else 0)) H
theorem call_in1 : CallR X (.type "int") rInt1 := by
  unfold rInt1
  exact call_int1
@[irreducible] def rStr1 : List V → Hp → VK → Prop := fun xs H Q => ∃ i, xs = [V.int i] ∧ i.natAbs.log2 < 1920 ∧ Q (V.str (Str.ofString (toString i))) H
theorem call_st1 : CallR X (.type "str") rStr1 := by
  unfold rStr1
  exact call_str_int
theorem sl_or {r q : V → Option Int → Option Int → Hp → VK → Prop} (h : SlR X r) (k : SlR X q) : SlR X (fun x lo hi H Q => r x lo hi H Q ∨ q x lo hi H Q) :=
  fun pins s σ H x v vl vu lo hi sl Q I rx hs pl pu z => z.elim (h pins s σ H x v vl vu lo hi sl Q I rx hs pl pu) (k pins s σ H x v vl vu lo hi sl Q I rx hs pl pu)
@[irreducible] def rSlU (K : PySem.W.Frag) : V → Option Int → Option Int → Hp → VK → Prop := fun x lo hi H Q => rSlL K x lo hi H Q ∨ rSlA K x lo hi H Q ∨ rSlS x lo hi H Q
theorem sl_U : SlR X (rSlU X.K) := by
  unfold rSlU
  exact sl_or sl_list (sl_or sl_tupA sl_str)
def iSeqU (K : PySem.W.Frag) (tl : TE) : TI := fun σ H R => iList K tl σ H R ∨ iTup K tl σ H R ∨ iStr tl σ H R
theorem pi_U {tg l : Expr} {tl : TE} (h : PE X l tl) : PI X tg l (iSeqU X.K tl) := pi_or (pi_list h) (pi_or (pi_tup h) (pi_str h))
def iEnumU (K : PySem.W.Frag) (ta : TA) : TI := fun σ H R => iEnum K ta σ H R ∨ iEnumT K ta σ H R
@[irreducible] def rIsiU (K : PySem.W.Frag) : List V → Hp → VK → Prop := fun xs H Q => rIsi K xs H Q ∨ rIsiT K xs H Q
theorem call_isiU : CallR X (.builtin "isinstance") (rIsiU X.K) := by
  unfold rIsiU
  exact call_or call_isi call_isiT
@[irreducible] def rExtU (K : PySem.W.Frag) : V → List V → Hp → VK → Prop := fun x xs H Q => rExtend x xs H Q ∨ rExtT K x xs H Q
@[irreducible] def rInsert : V → List V → Hp → VK → Prop := fun x vs H Q => ∃ (l : Addr) (xs : List V) (i : Int) (y : V), x = .ref l ∧ vs = [.int i, y] ∧ H l = some (.lst xs) ∧ xs.length < sizeLine ∧ 0 ≤ i ∧ i < 2 ^ 63 ∧
    Q .non (upd H l (.lst (xs.take i.toNat ++ [y] ++ xs.drop i.toNat)))
theorem mt_extendU : MtR X "list.extend" (rExtU X.K) := by
  unfold rExtU
  exact mt_extU
theorem mt_insertU : MtR X "list.insert" rInsert := by
  unfold rInsert
  exact mt_insert
@[irreducible] def rAppendU : V → List V → Hp → VK → Prop := rAppend
theorem mt_appendU : MtR X "list.append" rAppendU := by
  unfold rAppendU
  exact fun pins s σ H x xs v us Q I rx rs z => mt_append pins s σ H x xs v us Q I rx rs z
@[irreducible] def rPopU : V → List V → Hp → VK → Prop := rPop
theorem mt_popU : MtR X "list.pop" rPopU := by
  unfold rPopU
  exact fun pins s σ H x xs v us Q I rx rs z => mt_pop pins s σ H x xs v us Q I rx rs z
@[irreducible] def rPopAtU : V → List V → Hp → VK → Prop := rPopAt
theorem mt_popAtU : MtR X "list.pop" rPopAtU := by
  unfold rPopAtU
  exact fun pins s σ H x xs v us Q I rx rs z => mt_popAt pins s σ H x xs v us Q I rx rs z
@[irreducible] def rAllU (K : PySem.W.Frag) : List V → Hp → VK → Prop := rAll K
theorem call_allU (hc : X.calm = true) : CallR X (.builtin "all") (rAllU X.K) := by
  unfold rAllU
  exact cr_all hc
@[irreducible] def rAnyU (K : PySem.W.Frag) : List V → Hp → VK → Prop := rAny K
theorem call_anyU (hc : X.calm = true) : CallR X (.builtin "any") (rAnyU X.K) := by
  unfold rAnyU
  exact cr_any hc
@[irreducible] def rIxU (K : PySem.W.Frag) : R2 := rIx K
theorem ix_U : IxR X (rIxU X.K) := by
  unfold rIxU
  exact ix_seq
/-- a comparison by any of two readings: as a value, as a test -/
theorem pt_or {e : Expr} {t u : TT} (h : PT X e t) (k : PT X e u) : PT X e (fun σ H Q => t σ H Q ∨ u σ H Q) :=
  ⟨fun pins s σ H Q I z => z.elim (h.run pins s σ H Q I) (k.run pins s σ H Q I)⟩
end
/-! ### new tuples and lists, the heap behind them a letter -/
def tTupU (t : TA) : TE := fun σ H Q => t σ H fun xs H1 => xs.length ≤ sizeLine ∧ ∀ p H', H1 p = none → H' = upd H1 p (.tup xs) → Q (.ref p) H'
def tLstU (t : TA) : TE := fun σ H Q => t σ H fun xs H1 => xs.length ≤ sizeLine ∧ ∀ p H', H1 p = none → H' = upd H1 p (.lst xs) → Q (.ref p) H'
theorem all_eq {H : Hp} {Q : VK} {o : HO} : (∀ p H', H p = none → H' = upd H p o → Q (.ref p) H') = ∀ p, H p = none → Q (.ref p) (upd H p o) :=
  propext ⟨fun h p hp => h p _ hp rfl, fun h p H' hp e => by rw [e]; exact h p hp⟩
theorem tTupU_eq (t : TA) : tTupU t = tTup t := by
  funext σ H Q
  unfold tTupU tTup
  congr
  funext xs H1
  rw [all_eq]
theorem tLstU_eq (t : TA) : tLstU t = tLst t := by
  funext σ H Q
  unfold tLstU tLst
  congr
  funext xs H1
  rw [all_eq]
theorem pe_tupU {X : Cx} {es : List Expr} {x1 : Nat} {t : TA} {pos : Pos} (h : PA X es t) : PE X (.Tuple es x1 pos) (tTupU t) := by
  rw [tTupU_eq]
  exact pe_tup h
theorem pe_lstU {X : Cx} {es : List Expr} {t : TA} {pos : Pos} (h : PA X es t) : PE X (.List es pos) (tLstU t) := by
  rw [tLstU_eq]
  exact pe_lst h
/-! ### comprehensions and loops under names that stay folded -/
@[irreducible] def tLcU (wi : TI) (g : TG) (tt : TT) (te : TE) (vs : List Nat) : TE := tLc wi g tt te vs
@[irreducible] def tForU (wi : TI) (g : TG) (tb : TS) : TS := tFor wi g tb
section
variable {X : Cx}
theorem pe_lcU {elt tg iter : Expr} {ifs : List Expr} {scope : Scope} {own : List (Str × Nat)} {pos : Pos} {wi : TI} {g : TG} {tt : TT} {te : TE} (hc : X.calm = true) (hN : X.N.Nodup) (hi : PI X tg iter wi) (ok : BlkOk X.N X.env.scope scope own)
    (hg : ∀ (s : Shared) (H : Hp) (C : Addr) (cl : List (Str × Addr)) (fp : List Addr), PG (X.blk s H scope (compEnvC scope cl C X.env) fp) tg g) (ht : ∀ (s : Shared) (H : Hp) (C : Addr) (cl : List (Str × Addr)) (fp : List Addr), PTs (X.blk s H scope (compEnvC scope cl C X.env) fp) ifs tt)
    (he : ∀ (s : Shared) (H : Hp) (C : Addr) (cl : List (Str × Addr)) (fp : List Addr), PE (X.blk s H scope (compEnvC scope cl C X.env) fp) elt te) (hs : ∀ x, foldedSetIterable iter X.env x = pure x := by intro _; rfl) :
    PE X (.ListComp elt [⟨tg, iter, ifs, 0⟩] scope pos) (tLcU wi g tt te (own.map (·.2))) := by
  unfold tLcU
  exact pe_lc hc hN hi ok hg ht he hs
theorem ps_setLcU {i : Nat} {y : Str} {py : Pos} {elt tg iter : Expr} {ifs : List Expr} {scope : Scope} {own : List (Str × Nat)} {pos spos : Pos} {wi : TI} {g : TG} {tt : TT} {te : TE} (hc : X.calm = true) (hN : X.N.Nodup) (hy : X.N[i]? = some y) (hyl : X.env.scope.names.lookup y = some .local)
    (hsw : swapsWith (.ListComp elt [⟨tg, iter, ifs, 0⟩] scope pos) (some (.Name y py)) spos.line X.env = pure true) (hi : PI X tg iter wi) (ok : BlkOk X.N X.env.scope scope own)
    (hg : ∀ (s : Shared) (H : Hp) (C : Addr) (cl : List (Str × Addr)) (fp : List Addr), PG (X.blk s H scope (compEnvC scope cl C X.env) fp) tg g) (ht : ∀ (s : Shared) (H : Hp) (C : Addr) (cl : List (Str × Addr)) (fp : List Addr), PTs (X.blk s H scope (compEnvC scope cl C X.env) fp) ifs tt)
    (he : ∀ (s : Shared) (H : Hp) (C : Addr) (cl : List (Str × Addr)) (fp : List Addr), PE (X.blk s H scope (compEnvC scope cl C X.env) fp) elt te) (hs : ∀ x, foldedSetIterable iter X.env x = pure x := by intro _; rfl) :
    PS X (.Assign [.Name y py] (.ListComp elt [⟨tg, iter, ifs, 0⟩] scope pos) spos) (tAsg (tLcU wi g tt te (own.map (·.2))) (gName i)) := by
  unfold tLcU
  exact ps_setLc hc hN hy hyl hsw hi ok hg ht he hs
theorem ps_forU {tg iter : Expr} {body : List Stmt} {wi : TI} {g : TG} {tb : TS} {pos : Pos} (hp : PassesOwn (model X.prog X.w) X.A X.env X.xe) (hc : X.calm = true) (hi : PI X tg iter wi) (hg : PG X tg g) (hb : PSs X body tb)
    (hs : ∀ x, foldedSetIterable iter X.env x = pure x := by intro _; rfl) : PS X (.For tg iter body [] pos) (tForU wi g tb) := by
  unfold tForU
  exact ps_for hp hc hi hg hb hs
end
/-- in, not in: lists, tuples, texts, dicts -/
def tInU (K : PySem.W.Frag) (ta tb : TE) : TE := fun σ H Q => tOp (rInU K) ta tb σ H Q ∨ tDIn ta tb σ H Q
def tNotInU (K : PySem.W.Frag) (ta tb : TE) : TE := fun σ H Q => tOp (rNotInU K) ta tb σ H Q ∨ tDNotIn ta tb σ H Q
section
variable {X : Cx} {a b : Expr} {ta tb : TE} {pos : Pos}
theorem pe_inU (hu : X.A.units + 65 < cLine) (ha : PE X a ta) (hb : PE X b tb) (hm : behindInMarks .In b = false := by rfl) : PE X (.Compare a [.In] [b] pos) (tInU X.K ta tb) :=
  pe_or (pe_cmpR (op_inU hu) ha hb hm) (pe_cmp (pc_din (by omega) ha hb) hm)
theorem pe_notInU (hu : X.A.units + 65 < cLine) (ha : PE X a ta) (hb : PE X b tb) (hm : behindInMarks .NotIn b = false := by rfl) : PE X (.Compare a [.NotIn] [b] pos) (tNotInU X.K ta tb) :=
  pe_or (pe_cmpR (op_notInU hu) ha hb hm) (pe_cmp (pc_dnotin (by omega) ha hb) hm)
/-- a comparison that is a PE as a test -/
theorem pt_inU (hu : X.A.units + 65 < cLine) (ha : PE X a ta) (hb : PE X b tb) (hm : behindInMarks .In b = false := by rfl) : PT X (.Compare a [.In] [b] pos) (tB (tInU X.K ta tb)) :=
  ⟨fun pins s σ H Q I z => z.elim ((pt_cmpR (op_inU hu) ha hb hm).run pins s σ H Q I) ((pt_cmp (pc_din (by omega) ha hb) hm).run pins s σ H Q I)⟩
theorem pt_notInU (hu : X.A.units + 65 < cLine) (ha : PE X a ta) (hb : PE X b tb) (hm : behindInMarks .NotIn b = false := by rfl) : PT X (.Compare a [.NotIn] [b] pos) (tB (tNotInU X.K ta tb)) :=
  ⟨fun pins s σ H Q I z => z.elim ((pt_cmpR (op_notInU hu) ha hb hm).run pins s σ H Q I) ((pt_cmp (pc_dnotin (by omega) ha hb) hm).run pins s σ H Q I)⟩
end
end Tw
end

section
set_option Elab.async false
set_option linter.all false
set_option maxRecDepth 100000
set_option maxHeartbeats 4000000
namespace Tw
open PySem L2 PyProof.Rows

/-! ### what stays: all tracked objects but those at F; nothing is forgotten -/
structure ExF (F : List Addr) (H H' : Hp) : Prop where
  at_ : ∀ a o, a ∉ F → H a = some o → H' a = some o
  kept : ∀ a, H a ≠ none → H' a ≠ none
section
variable {F G : List Addr} {H H' H1 H2 : Hp} {p a : Addr} {o : HO}
theorem ExF.refl : ExF F H H := ⟨fun _ _ _ h => h, fun _ h => h⟩
theorem ExF.trans (h : ExF F H H1) (k : ExF F H1 H2) : ExF F H H2 := ⟨fun a o n e => k.at_ a o n (h.at_ a o n e), fun a e => k.kept a (h.kept a e)⟩
theorem ExF.sub (h : ExF F H H') (k : ∀ a ∈ F, a ∈ G) : ExF G H H' := ⟨fun a o n e => h.at_ a o (fun z => n (k a z)) e, h.kept⟩
theorem ExF.of (h : ExF [] H H') : ExF G H H' := h.sub fun a z => absurd z (by simp)
theorem ExF.free (h : ExF F H H') (e : H' p = none) : H p = none := by
  cases q : H p with
  | none => rfl
  | some o => exact absurd e (h.kept p (by rw [q]; exact fun z => nomatch z))
theorem upd_kept (h : H a ≠ none) : upd H p o a ≠ none := by
  by_cases e : a = p
  · subst e
    rw [upd_same]
    exact fun z => nomatch z
  · rw [upd_ne e]
    exact h
theorem ExF.new (e : H p = none) : ExF F H (upd H p o) := ⟨fun a u _ q => by rw [upd_ne (ne_of_none q e)]; exact q, fun a q => upd_kept q⟩
/-- an object that was not there ahead, or is one of F, may change -/
theorem ExF.mut (h : ExF F H H') (e : H p = none ∨ p ∈ F) : ExF F H (upd H' p o) := ⟨fun a u n q => by
  rw [upd_ne]
  · exact h.at_ a u n q
  · intro z
    subst z
    rcases e with e | e
    · rw [e] at q; cases q
    · exact n e, fun a q => upd_kept (h.kept a q)⟩
/-- F's new ones may be left out: they were not there ahead -/
theorem ExF.drop (h : ExF (p :: F) H H') (e : H p = none) : ExF F H H' := ⟨fun a u n q => h.at_ a u (fun z => by
  rcases List.mem_cons.mp z with z | z
  · subst z; rw [e] at q; cases q
  · exact n z) q, h.kept⟩
theorem ExF.add (h : ExF F H H') : ExF (p :: F) H H' := h.sub fun a z => List.mem_cons_of_mem _ z
theorem ExF.same (h : Same H H') : ExF F H H' := ⟨fun a o _ e => h a o e, fun a e => by
  cases q : H a with
  | none => exact absurd q e
  | some o => rw [h a o q]; exact fun z => nomatch z⟩
theorem ExF.toSame (h : ExF [] H H') : Same H H' := fun a o e => h.at_ a o (by simp) e
/-- all of F is tracked -/
def Trk (F : List Addr) (H : Hp) : Prop := ∀ a ∈ F, H a ≠ none
theorem Trk.ex (t : Trk F H) (h : ExF G H H') : Trk F H' := fun a z => h.kept a (t a z)
theorem Trk.nin (t : Trk F H) (e : H p = none) : p ∉ F := fun z => t p z e
theorem Trk.nil : Trk [] H := fun a z => absurd z (by simp)
theorem Trk.cons (t : Trk F H) (e : H p = some o) : Trk (p :: F) H := fun a z => by
  rcases List.mem_cons.mp z with z | z
  · subst z; rw [e]; exact fun z => nomatch z
  · exact t a z
end

/-! ### data over the heap, none of it at F -/
inductive Rp (F : List Addr) (H : Hp) : V → PyData → Prop
  | non : Rp F H .non .none
  | bl (b : Bool) : Rp F H (.bl b) (.bool b)
  | int (i : Int) : Rp F H (.int i) (.int i)
  | str (x : Str) : Rp F H (.str x) (.str x)
  | lst {a : Addr} {xs : List V} {ds : List PyData} : a ∉ F → H a = some (.lst xs) → xs.length = ds.length → (∀ (i : Nat) v d, xs[i]? = some v → ds[i]? = some d → Rp F H v d) → Rp F H (.ref a) (.list ds)
  | tup {a : Addr} {xs : List V} {ds : List PyData} : a ∉ F → H a = some (.tup xs) → xs.length = ds.length → (∀ (i : Nat) v d, xs[i]? = some v → ds[i]? = some d → Rp F H v d) → Rp F H (.ref a) (.tuple ds)
  | dct {a : Addr} : a ∉ F → H a = some (.dK []) → Rp F H (.ref a) (.dict [])
/-- a row of data -/
def RpL (F : List Addr) (H : Hp) (xs : List V) (ds : List PyData) : Prop := xs.length = ds.length ∧ ∀ (i : Nat) v d, xs[i]? = some v → ds[i]? = some d → Rp F H v d
section
variable {F G : List Addr} {H H' H1 H2 : Hp} {p a : Addr} {o : HO} {v : V} {d : PyData} {xs ys : List V} {ds es : List PyData}
theorem Rp.list (n : a ∉ F) (h : H a = some (.lst xs)) (r : RpL F H xs ds) : Rp F H (.ref a) (.list ds) := .lst n h r.1 r.2
theorem Rp.tuple (n : a ∉ F) (h : H a = some (.tup xs)) (r : RpL F H xs ds) : Rp F H (.ref a) (.tuple ds) := .tup n h r.1 r.2
theorem Rp.ex (x : ExF F H H') (r : Rp F H v d) : Rp F H' v d := by
  induction r with
  | non => exact .non
  | bl b => exact .bl b
  | int i => exact .int i
  | str s => exact .str s
  | lst n h l _ ih => exact .lst n (x.at_ _ _ n h) l ih
  | tup n h l _ ih => exact .tup n (x.at_ _ _ n h) l ih
  | dct n h => exact .dct n (x.at_ _ _ n h)
theorem Rp.sub (k : ∀ a ∈ G, a ∈ F) (r : Rp F H v d) : Rp G H v d := by
  induction r with
  | non => exact .non
  | bl b => exact .bl b
  | int i => exact .int i
  | str s => exact .str s
  | lst n h l _ ih => exact .lst (fun z => n (k _ z)) h l ih
  | tup n h l _ ih => exact .tup (fun z => n (k _ z)) h l ih
  | dct n h => exact .dct (fun z => n (k _ z)) h
/-- a place that is free now is none of it -/
theorem Rp.add (e : H p = none) (r : Rp F H v d) : Rp (p :: F) H v d := by
  have ne : ∀ {b : Addr} {u : HO}, b ∉ F → H b = some u → b ∉ p :: F := fun n h z => by
    rcases List.mem_cons.mp z with z | z
    · subst z; rw [e] at h; cases h
    · exact n z
  induction r with
  | non => exact .non
  | bl b => exact .bl b
  | int i => exact .int i
  | str s => exact .str s
  | lst n h l _ ih => exact .lst (ne n h) h l ih
  | tup n h l _ ih => exact .tup (ne n h) h l ih
  | dct n h => exact .dct (ne n h) h
theorem Rp.drop (r : Rp (p :: F) H v d) : Rp F H v d := r.sub fun a z => List.mem_cons_of_mem _ z
theorem RpL.ex (x : ExF F H H') (r : RpL F H xs ds) : RpL F H' xs ds := ⟨r.1, fun i v d h k => (r.2 i v d h k).ex x⟩
theorem RpL.sub (k : ∀ a ∈ G, a ∈ F) (r : RpL F H xs ds) : RpL G H xs ds := ⟨r.1, fun i v d h e => (r.2 i v d h e).sub k⟩
theorem RpL.add (e : H p = none) (r : RpL F H xs ds) : RpL (p :: F) H xs ds := ⟨r.1, fun i v d h k => (r.2 i v d h k).add e⟩
theorem RpL.drop (r : RpL (p :: F) H xs ds) : RpL F H xs ds := r.sub fun a z => List.mem_cons_of_mem _ z
theorem RpL.nil : RpL F H [] [] := ⟨rfl, fun i v d h _ => by simp at h⟩
theorem RpL.cons (h : Rp F H v d) (r : RpL F H xs ds) : RpL F H (v :: xs) (d :: ds) := by
  refine ⟨by simp [r.1], fun i u e h1 h2 => ?_⟩
  cases i with
  | zero => simp at h1 h2; subst h1 h2; exact h
  | succ i => exact r.2 i u e (by simpa using h1) (by simpa using h2)
theorem RpL.nil_inv (r : RpL F H xs []) : xs = [] := List.eq_nil_of_length_eq_zero (by rw [r.1]; rfl)
theorem RpL.cons_inv (r : RpL F H xs (d :: ds)) : ∃ v vs, xs = v :: vs ∧ Rp F H v d ∧ RpL F H vs ds := by
  cases xs with
  | nil => exact absurd r.1 (by simp)
  | cons v vs => exact ⟨v, vs, rfl, r.2 0 v d rfl rfl, by simpa using r.1, fun i u e h k => r.2 (i + 1) u e (by simpa using h) (by simpa using k)⟩
theorem RpL.get (r : RpL F H xs ds) {i : Nat} (h : ds[i]? = some d) : ∃ v, xs[i]? = some v ∧ Rp F H v d := by
  have hl := (List.getElem?_eq_some_iff.mp h).1
  have hx : i < xs.length := by rw [r.1]; exact hl
  exact ⟨xs[i], by simp [hx], r.2 i _ d (by simp [hx]) h⟩
theorem RpL.get' (r : RpL F H xs ds) {i : Nat} (h : xs[i]? = some v) : ∃ d, ds[i]? = some d ∧ Rp F H v d := by
  have hl := (List.getElem?_eq_some_iff.mp h).1
  have hx : i < ds.length := by rw [← r.1]; exact hl
  exact ⟨ds[i], by simp [hx], r.2 i v _ h (by simp [hx])⟩
theorem RpL.append (r : RpL F H xs ds) (q : RpL F H ys es) : RpL F H (xs ++ ys) (ds ++ es) := by
  refine ⟨by simp [r.1, q.1], fun i u e h1 h2 => ?_⟩
  by_cases hi : i < xs.length
  · rw [List.getElem?_append_left hi] at h1
    rw [List.getElem?_append_left (by rw [← r.1]; exact hi)] at h2
    exact r.2 i u e h1 h2
  · rw [List.getElem?_append_right (by omega)] at h1
    rw [List.getElem?_append_right (by have := r.1; omega), ← r.1] at h2
    exact q.2 _ u e h1 h2
theorem RpL.one (h : Rp F H v d) : RpL F H [v] [d] := .cons h .nil
theorem RpL.snoc (r : RpL F H xs ds) (h : Rp F H v d) : RpL F H (xs ++ [v]) (ds ++ [d]) := r.append (.one h)
theorem RpL.take (n : Nat) (r : RpL F H xs ds) : RpL F H (xs.take n) (ds.take n) := ⟨by simp [r.1], fun i u e h1 h2 => by
  rw [List.getElem?_take] at h1 h2
  split at h1
  · rename_i hi; rw [if_pos hi] at h2; exact r.2 i u e h1 h2
  · cases h1⟩
theorem RpL.dropN (n : Nat) (r : RpL F H xs ds) : RpL F H (xs.drop n) (ds.drop n) := ⟨by simp [r.1], fun i u e h1 h2 => by
  rw [List.getElem?_drop] at h1 h2
  exact r.2 _ u e h1 h2⟩
theorem RpL.eraseIdx (n : Nat) (r : RpL F H xs ds) : RpL F H (xs.eraseIdx n) (ds.eraseIdx n) := by
  rw [List.eraseIdx_eq_take_drop_succ, List.eraseIdx_eq_take_drop_succ]
  exact (r.take n).append (r.dropN (n + 1))
theorem RpL.reverse (r : RpL F H xs ds) : RpL F H xs.reverse ds.reverse := by
  refine ⟨by simp [r.1], fun i u e h1 h2 => ?_⟩
  have hi : i < xs.length := by simpa using (List.getElem?_eq_some_iff.mp h1).1
  rw [List.getElem?_reverse hi] at h1
  rw [List.getElem?_reverse (by rw [← r.1]; exact hi), ← r.1] at h2
  exact r.2 _ u e h1 h2
theorem RpL.all_str {zs : List Str} (r : RpL F H xs (zs.map PyData.str)) : xs = zs.map V.str := by
  apply List.ext_getElem?
  intro i
  cases e : zs[i]? with
  | none =>
    have hz := List.getElem?_eq_none_iff.mp e
    have hx := r.1
    rw [List.length_map] at hx
    rw [List.getElem?_eq_none (by omega), List.getElem?_eq_none (by rw [List.length_map]; omega)]
  | some z =>
    obtain ⟨v, h1, h2⟩ := r.get (i := i) (d := .str z) (by rw [List.getElem?_map, e]; rfl)
    cases h2
    rw [h1, List.getElem?_map, e]
    rfl
theorem RpL.strs (zs : List Str) : RpL F H (zs.map V.str) (zs.map PyData.str) := ⟨by simp, fun i v d h1 h2 => by
  rw [List.getElem?_map] at h1 h2
  cases e : zs[i]? with
  | none => rw [e] at h1; cases h1
  | some z =>
    rw [e] at h1 h2
    cases h1; cases h2
    exact .str z⟩
theorem RpL.all_int {zs : List Int} (r : RpL F H xs (zs.map PyData.int)) : xs = zs.map V.int := by
  apply List.ext_getElem?
  intro i
  cases e : zs[i]? with
  | none =>
    have hz := List.getElem?_eq_none_iff.mp e
    have hx := r.1
    rw [List.length_map] at hx
    rw [List.getElem?_eq_none (by omega), List.getElem?_eq_none (by rw [List.length_map]; omega)]
  | some z =>
    obtain ⟨v, h1, h2⟩ := r.get (i := i) (d := .int z) (by rw [List.getElem?_map, e]; rfl)
    cases h2
    rw [h1, List.getElem?_map, e]
    rfl
theorem RpL.ints (zs : List Int) : RpL F H (zs.map V.int) (zs.map PyData.int) := ⟨by simp, fun i v d h1 h2 => by
  rw [List.getElem?_map] at h1 h2
  cases e : zs[i]? with
  | none => rw [e] at h1; cases h1
  | some z =>
    rw [e] at h1 h2
    cases h1; cases h2
    exact .int z⟩
theorem Rp.str_inv {z : Str} (r : Rp F H v (.str z)) : v = .str z := by cases r; rfl
theorem Rp.list_inv (r : Rp F H v (.list ds)) : ∃ a xs, v = .ref a ∧ a ∉ F ∧ H a = some (.lst xs) ∧ RpL F H xs ds := by
  cases r with
  | lst n h l k => exact ⟨_, _, rfl, n, h, l, k⟩
theorem Rp.tuple_inv (r : Rp F H v (.tuple ds)) : ∃ a xs, v = .ref a ∧ a ∉ F ∧ H a = some (.tup xs) ∧ RpL F H xs ds := by
  cases r with
  | tup n h l k => exact ⟨_, _, rfl, n, h, l, k⟩
end

/-! ### the reading of data by the layer's own relation -/
mutual
/-- without dicts -/
def plain : PyData → Bool
  | .none => true | .bool _ => true | .int _ => true | .str _ => true
  | .list ds => plains ds
  | .tuple ds => plains ds
  | .dict _ => false
def plains : List PyData → Bool
  | [] => true
  | d :: ds => plain d && plains ds
end
section
variable {F : List Addr} {K : PySem.W.Frag} {H : Hp}
mutual
theorem Rp.dp : ∀ {v : V} {d : PyData}, plain d = true → Rp F H v d → Dp K H v d
  | _, .none, _, r => by cases r; exact .non
  | _, .bool b, _, r => by cases r; exact .bl b
  | _, .int i, _, r => by cases r; exact .int i
  | _, .str s, _, r => by cases r; exact .str s
  | _, .list ds, p, r => by
    obtain ⟨a, xs, rfl, n, h, q⟩ := r.list_inv
    exact .lst (.inl (.inl h)) (RpL.dp (by simpa [plain] using p) q)
  | _, .tuple ds, p, r => by
    obtain ⟨a, xs, rfl, n, h, q⟩ := r.tuple_inv
    exact .tup (.inl (.inl h)) (RpL.dp (by simpa [plain] using p) q)
  | _, .dict _, p, _ => by simp [plain] at p
theorem RpL.dp : ∀ {xs : List V} {ds : List PyData}, plains ds = true → RpL F H xs ds → DpAll K H xs ds
  | xs, [], _, r => by rw [r.nil_inv]; exact .nil
  | xs, d :: ds, p, r => by
    obtain ⟨v, vs, rfl, h, q⟩ := r.cons_inv
    have p' : plain d = true ∧ plains ds = true := by simpa [plains] using p
    exact .cons (Rp.dp p'.1 h) (RpL.dp p'.2 q)
end
end
end Tw
end

section
set_option Elab.async false
set_option linter.all false
set_option maxRecDepth 100000
set_option maxHeartbeats 4000000
namespace Tw
open PySem L2 PyProof.Rows

theorem hu65 {A : Around} {k : Nat} (hr : Room k A) : A.units + 65 < cLine := by
  have := hr.un
  omega
def rSetU : V → V → V → Hp → (Hp → Prop) → Prop := fun o i v H Q => rSetL o i v H Q ∨ rSetD o i v H Q
theorem set_U {X : Cx} (hu : X.A.units + 1 < cLine) : PSet X rSetU := by
  intro pins s σ H o i v ov iv u Q I ro ri rv h
  exact h.elim (set_list pins s σ H o i v ov iv u Q I ro ri rv) (set_dict hu pins s σ H o i v ov iv u Q I ro ri rv)
def rIsN : R2 := fun x y H Q => y = .non ∧ Q (.bl (decide (x = .non))) H
def rNotN : R2 := fun x y H Q => y = .non ∧ Q (.bl (!decide (x = .non))) H

/-! ### isinstance -/
def tyName : PyData → String
  | .none => "NoneType" | .bool _ => "bool" | .int _ => "int" | .str _ => "str" | .list _ => "list" | .tuple _ => "tuple" | .dict _ => "dict"
def isStr : PyData → Bool | .str _ => true | _ => false
def isInt : PyData → Bool | .int _ => true | .bool _ => true | _ => false
def isBool : PyData → Bool | .bool _ => true | _ => false
def isList : PyData → Bool | .list _ => true | _ => false
def isTup : PyData → Bool | .tuple _ => true | _ => false
def isDict : PyData → Bool | .dict _ => true | _ => false
def isSeq : PyData → Bool | .list _ => true | .tuple _ => true | _ => false
section
variable {F : List Addr} {K : PySem.W.Frag} {H : Hp} {v : V} {d : PyData} {Q : VK} {b : Bool} {c : String} {p : Addr} {x y : Str}
theorem Rp.ty (r : Rp F H v d) : TyX K H v (.type (tyName d)) := by
  cases r with
  | non => exact .base .non
  | bl b => exact .base (.bl b)
  | int i => exact .base (.int i)
  | str s => exact .base (.str s)
  | lst n h l _ => exact .base (.lst h)
  | tup n h l _ => exact .base (.tup h)
  | dct n h => exact .base (.dK h)
theorem isi1 (r : Rp F H v d) (h : kitB (tyName d) c = some b) (q : Q (.bl b) H) : rIsiU K [v, .ty c] H Q := by
  unfold rIsiU
  exact .inl ⟨v, .ty c, _, _, b, rfl, .ty c, r.ty, kit_ty h, q⟩
theorem isi_str (r : Rp F H v d) (q : Q (.bl (isStr d)) H) : rIsiU K [v, .ty "str"] H Q := isi1 (b := isStr d) r (by cases d <;> (simp only [tyName, isStr]; decide +kernel)) q
theorem isi_int (r : Rp F H v d) (q : Q (.bl (isInt d)) H) : rIsiU K [v, .ty "int"] H Q := isi1 (b := isInt d) r (by cases d <;> (simp only [tyName, isInt]; decide +kernel)) q
theorem isi_bool (r : Rp F H v d) (q : Q (.bl (isBool d)) H) : rIsiU K [v, .ty "bool"] H Q := isi1 (b := isBool d) r (by cases d <;> (simp only [tyName, isBool]; decide +kernel)) q
theorem isi_list (r : Rp F H v d) (q : Q (.bl (isList d)) H) : rIsiU K [v, .ty "list"] H Q := isi1 (b := isList d) r (by cases d <;> (simp only [tyName, isList]; decide +kernel)) q
theorem isi_tuple (r : Rp F H v d) (q : Q (.bl (isTup d)) H) : rIsiU K [v, .ty "tuple"] H Q := isi1 (b := isTup d) r (by cases d <;> (simp only [tyName, isTup]; decide +kernel)) q
theorem isi_dict (r : Rp F H v d) (q : Q (.bl (isDict d)) H) : rIsiU K [v, .ty "dict"] H Q := isi1 (b := isDict d) r (by cases d <;> (simp only [tyName, isDict]; decide +kernel)) q
theorem isi_seq (r : Rp F H v d) (hp : H p = some (.tup [.ty "list", .ty "tuple"])) (q : Q (.bl (isSeq d)) H) : rIsiU K [v, .ref p] H Q := by
  unfold rIsiU
  exact .inr ⟨v, p, _, _, [.type "list", .type "tuple"], isSeq d, rfl, hp, .cons (.ty _) (.cons (.ty _) .nil), r.ty,
      kitAny_cons (b := isList d) (kit_ty (a := tyName d) (by cases d <;> (simp only [tyName, isList]; decide +kernel))) (fun hl => kitAny_cons (b := isTup d) (kit_ty (a := tyName d) (by cases d <;> (simp only [tyName, isTup]; decide +kernel))) (fun ht => by
        rw [kitAny_nil]; cases d <;> simp_all [isList, isTup, isSeq]) (fun ht => by cases d <;> simp_all [isList, isTup, isSeq])) (fun hl => by cases d <;> simp_all [isList, isTup, isSeq]), q⟩
theorem isi_iltd (r : Rp F H v d) (hp : H p = some (.tup [.ty "int", .ty "list", .ty "tuple", .ty "dict"])) (q : Q (.bl (isInt d || isSeq d || isDict d)) H) : rIsiU K [v, .ref p] H Q := by
  unfold rIsiU
  exact .inr ⟨v, p, _, _, [.type "int", .type "list", .type "tuple", .type "dict"], isInt d || isSeq d || isDict d, rfl, hp, .cons (.ty _) (.cons (.ty _) (.cons (.ty _) (.cons (.ty _) .nil))), r.ty,
      kitAny_cons (b := isInt d) (kit_ty (a := tyName d) (by cases d <;> (simp only [tyName, isInt]; decide +kernel))) (fun h1 => kitAny_cons (b := isList d) (kit_ty (a := tyName d) (by cases d <;> (simp only [tyName, isList]; decide +kernel))) (fun h2 => kitAny_cons (b := isTup d) (kit_ty (a := tyName d) (by cases d <;> (simp only [tyName, isTup]; decide +kernel)))
        (fun h3 => kitAny_cons (b := isDict d) (kit_ty (a := tyName d) (by cases d <;> (simp only [tyName, isDict]; decide +kernel))) (fun h4 => by rw [kitAny_nil]; cases d <;> simp_all [isInt, isList, isTup, isSeq, isDict]) (fun h4 => by cases d <;> simp_all [isInt, isList, isTup, isSeq, isDict]))
          (fun h3 => by cases d <;> simp_all [isInt, isList, isTup, isSeq, isDict])) (fun h2 => by cases d <;> simp_all [isInt, isList, isTup, isSeq, isDict])) (fun h1 => by cases d <;> simp_all [isInt, isList, isTup, isSeq, isDict]), q⟩

/-! ### operators at known operands -/
theorem addI {i j : Int} (q : Q (.int (i + j)) H) : rAddU K (.int i) (.int j) H Q := by
  unfold rAddU
  exact .inl ⟨i, j, rfl, rfl, q⟩
theorem addS (h : x.length + y.length ≤ sizeLine) (q : Q (.str (x ++ y)) H) : rAddU K (.str x) (.str y) H Q := by
  unfold rAddU
  exact .inr (.inl ⟨x, y, rfl, rfl, h, q⟩)
theorem addL {a b : Addr} {xs ys : List V} (ha : H a = some (.lst xs)) (hb : H b = some (.lst ys)) (h : xs.length + ys.length ≤ sizeLine) (q : ∀ p, H p = none → Q (.ref p) (upd H p (.lst (xs ++ ys)))) : rAddU K (.ref a) (.ref b) H Q := by
  unfold rAddU
  exact .inr (.inr (.inl ⟨a, b, xs, ys, rfl, rfl, ha, hb, h, q⟩))
theorem mulI {i j : Int} (h : CMul i j) (q : Q (.int (i * j)) H) : rMulU (.int i) (.int j) H Q := by
  unfold rMulU
  exact .inl ⟨i, j, rfl, rfl, h, q⟩
theorem eqI {i j : Int} (q : Q (.bl (decide (i = j))) H) : rEqU K (.int i) (.int j) H Q := by
  unfold rEqU
  exact .inl ⟨rfl, by
    have e : decide (V.int i = V.int j) = decide (i = j) := by simp
    rw [e]; exact q⟩
theorem neI {i j : Int} (q : Q (.bl (!decide (i = j))) H) : rNeU K (.int i) (.int j) H Q := by
  unfold rNeU
  exact .inl ⟨rfl, by
    have e : decide (V.int i = V.int j) = decide (i = j) := by simp
    rw [e]; exact q⟩
theorem eqS (q : Q (.bl (decide (x = y))) H) : rEqU K (.str x) (.str y) H Q := by
  unfold rEqU
  exact .inl ⟨rfl, by
    have e : decide (V.str x = V.str y) = decide (x = y) := by simp
    rw [e]; exact q⟩
theorem neS (q : Q (.bl (!decide (x = y))) H) : rNeU K (.str x) (.str y) H Q := by
  unfold rNeU
  exact .inl ⟨rfl, by
    have e : decide (V.str x = V.str y) = decide (x = y) := by simp
    rw [e]; exact q⟩
theorem neB {a b : Bool} (q : Q (.bl (a != b)) H) : rNeU K (.bl a) (.bl b) H Q := by
  unfold rNeU
  exact .inl ⟨rfl, by
    have e : (!decide (V.bl a = V.bl b)) = (a != b) := by cases a <;> cases b <;> rfl
    rw [e]; exact q⟩
theorem eqB {a b : Bool} (q : Q (.bl (a == b)) H) : rEqU K (.bl a) (.bl b) H Q := by
  unfold rEqU
  exact .inl ⟨rfl, by
    have e : (decide (V.bl a = V.bl b)) = (a == b) := by cases a <;> cases b <;> rfl
    rw [e]; exact q⟩
theorem eqD {u : V} {e : PyData} (r : Rp F H v d) (r' : Rp F H u e) (pd : plain d = true) (pe : plain e = true) (sd : SeqAt.shaped d = true) (se : SeqAt.shaped e = true) (q : Q (.bl (PyData.eqv d e)) H) : rEqU K v u H Q := by
  unfold rEqU
  exact .inr (.inl ⟨d, e, r.dp pd, r'.dp pe, sd, se, q⟩)
theorem neD {u : V} {e : PyData} (r : Rp F H v d) (r' : Rp F H u e) (pd : plain d = true) (pe : plain e = true) (sd : SeqAt.shaped d = true) (se : SeqAt.shaped e = true) (q : Q (.bl (!PyData.eqv d e)) H) : rNeU K v u H Q := by
  unfold rNeU
  exact .inr (.inl ⟨d, e, r.dp pd, r'.dp pe, sd, se, q⟩)
theorem eqE {a b : Addr} {xs : List V} (ha : H a = some (.lst xs)) (hb : H b = some (.lst [])) (q : Q (.bl xs.isEmpty) H) : rEqU K (.ref a) (.ref b) H Q := by
  unfold rEqU
  exact .inr (.inr ⟨a, b, xs, rfl, rfl, ha, hb, q⟩)
theorem neE {a b : Addr} {xs : List V} (ha : H a = some (.lst xs)) (hb : H b = some (.lst [])) (q : Q (.bl (!xs.isEmpty)) H) : rNeU K (.ref a) (.ref b) H Q := by
  unfold rNeU
  exact .inr (.inr ⟨a, b, xs, rfl, rfl, ha, hb, q⟩)
theorem ixL {a : Addr} {xs : List V} {i : Int} (ha : H a = some (.lst xs)) (h : atI xs i = some v) (q : Q v H) : rIxU K (.ref a) (.int i) H Q := by
  unfold rIxU
  exact .inl ⟨a, xs, i, v, rfl, rfl, .inl (.inl ha), h, q⟩
theorem ixT {a : Addr} {xs : List V} {i : Int} (ha : H a = some (.tup xs)) (h : atI xs i = some v) (q : Q v H) : rIxU K (.ref a) (.int i) H Q := by
  unfold rIxU
  exact .inr (.inl ⟨a, xs, i, v, rfl, rfl, .inl (.inl ha), h, q⟩)
theorem ixS {i : Int} {c : Nat} (hz : x.length ≤ sizeLine) (h : atI x.cps.toList i = some c) (q : Q (.str ⟨#[c]⟩) H) : rIxU K (.str x) (.int i) H Q := by
  unfold rIxU
  exact .inr (.inr ⟨x, i, c, rfl, rfl, hz, h, q⟩)
theorem lenS (hz : x.length ≤ sizeLine) (q : Q (.int (x.length : Int)) H) : rLenU K [.str x] H Q := by
  unfold rLenU
  exact .inl ⟨_, _, rfl, ⟨hz, rfl⟩, q⟩
theorem lenL {a : Addr} {xs : List V} (ha : H a = some (.lst xs)) (q : Q (.int (xs.length : Int)) H) : rLenU K [.ref a] H Q := by
  unfold rLenU
  exact .inl ⟨_, _, rfl, .inl ⟨xs, .inl (.inl ha), rfl⟩, q⟩
theorem lenT {a : Addr} {xs : List V} (ha : H a = some (.tup xs)) (q : Q (.int (xs.length : Int)) H) : rLenU K [.ref a] H Q := by
  unfold rLenU
  exact .inl ⟨_, _, rfl, .inr ⟨xs, .inl (.inl ha), rfl⟩, q⟩
theorem inStr (q : Q (.bl (!(Builtin.Str.occurrences y x 0 y.length 1).isEmpty)) H) : rInU K (.str x) (.str y) H Q := by
  unfold rInU
  exact .inr (.inr (.inl ⟨x, y, rfl, rfl, q⟩))
theorem notInStr (q : Q (.bl (!(!(Builtin.Str.occurrences y x 0 y.length 1).isEmpty))) H) : rNotInU K (.str x) (.str y) H Q := by
  unfold rNotInU
  exact .inr (.inr (.inl ⟨x, y, rfl, rfl, q⟩))
theorem inV_str : ∀ zs : List Str, inV (.str x) (zs.map V.str) = decide (x ∈ zs)
  | [] => by simp [inV]
  | z :: zs => by
    have ih := inV_str zs
    unfold inV at ih ⊢
    rw [List.map_cons, List.any_cons, ih]
    have e : eqV (V.str z) (V.str x) = decide (z = x) := by
      show (z == x) = decide (z = x)
      rw [Bool.eq_iff_iff]
      simp
    rw [e, Bool.eq_iff_iff]
    simp only [Bool.or_eq_true, decide_eq_true_eq, List.mem_cons]
    exact ⟨fun h => h.elim (fun h => .inl h.symm) .inr, fun h => h.elim (fun h => .inl h.symm) .inr⟩
theorem flat_str : ∀ zs : List Str, (zs.map V.str).all flatV = true
  | [] => rfl
  | z :: zs => by rw [List.map_cons, List.all_cons, flat_str zs]; rfl
theorem inStrs {a : Addr} {zs : List Str} (ha : H a = some (.lst (zs.map V.str))) (q : Q (.bl (decide (x ∈ zs))) H) : rInU K (.str x) (.ref a) H Q := by
  unfold rInU
  exact .inr (.inr (.inr ⟨a, zs.map V.str, rfl, .inl (.inl (.inl ha)), rfl, flat_str zs, by rw [inV_str]; exact q⟩))
theorem notInStrs {a : Addr} {zs : List Str} (ha : H a = some (.lst (zs.map V.str))) (q : Q (.bl (!decide (x ∈ zs))) H) : rNotInU K (.str x) (.ref a) H Q := by
  unfold rNotInU
  exact .inr (.inr (.inr ⟨a, zs.map V.str, rfl, .inl (.inl (.inl ha)), rfl, flat_str zs, by rw [inV_str]; exact q⟩))
theorem inStrsT {a : Addr} {zs : List Str} (ha : SqT K H a (zs.map V.str)) (q : Q (.bl (decide (x ∈ zs))) H) : rInU K (.str x) (.ref a) H Q := by
  unfold rInU
  exact .inr (.inr (.inr ⟨a, zs.map V.str, rfl, .inr ha, rfl, flat_str zs, by rw [inV_str]; exact q⟩))
theorem inDat {u : V} {ds : List PyData} (r : Rp F H v d) (r' : Rp F H u (.list ds)) (pd : plain d = true) (pe : plain (.list ds) = true) (sd : SeqAt.shaped d = true) (se : SeqAt.shaped (.list ds) = true) (q : Q (.bl (ds.any fun z => PyData.eqv z d)) H) : rInU K v u H Q := by
  unfold rInU
  exact .inl ⟨d, ds, r.dp pd, r'.dp pe, sd, se, q⟩
theorem notInDat {u : V} {ds : List PyData} (r : Rp F H v d) (r' : Rp F H u (.list ds)) (pd : plain d = true) (pe : plain (.list ds) = true) (sd : SeqAt.shaped d = true) (se : SeqAt.shaped (.list ds) = true) (q : Q (.bl (!ds.any fun z => PyData.eqv z d)) H) : rNotInU K v u H Q := by
  unfold rNotInU
  exact .inl ⟨d, ds, r.dp pd, r'.dp pe, sd, se, q⟩
theorem inDatT {u : V} {ds : List PyData} (r : Rp F H v d) (r' : Rp F H u (.tuple ds)) (pd : plain d = true) (pe : plain (.tuple ds) = true) (sd : SeqAt.shaped d = true) (se : SeqAt.shaped (.tuple ds) = true) (q : Q (.bl (ds.any fun z => PyData.eqv z d)) H) : rInU K v u H Q := by
  unfold rInU
  exact .inr (.inl ⟨d, ds, r.dp pd, r'.dp pe, sd, se, q⟩)
theorem notInDatT {u : V} {ds : List PyData} (r : Rp F H v d) (r' : Rp F H u (.tuple ds)) (pd : plain d = true) (pe : plain (.tuple ds) = true) (sd : SeqAt.shaped d = true) (se : SeqAt.shaped (.tuple ds) = true) (q : Q (.bl (!ds.any fun z => PyData.eqv z d)) H) : rNotInU K v u H Q := by
  unfold rNotInU
  exact .inr (.inl ⟨d, ds, r.dp pd, r'.dp pe, sd, se, q⟩)
end

/-! ### the spring of draws -/
/-- the list at st: the cells left (at cl), what is left of a great one, how many were drawn, the mix -/
structure Strm (st cl : Addr) (H : Hp) (c : Nat) : Prop where
  ex : ∃ (a b : Int) (ns : List Int), H st = some (.lst [.ref cl, .int a, .int (c : Int), .int b]) ∧ H cl = some (.lst (ns.map V.int)) ∧ 0 ≤ a ∧ 0 ≤ b ∧ b < 2147483647 ∧ ns.length ≤ 1000
theorem Strm.ne {st cl : Addr} {H : Hp} {c : Nat} (s : Strm st cl H c) : st ≠ cl := by
  obtain ⟨a, b, ns, h1, h2, _⟩ := s.ex
  intro e
  rw [e, h2] at h1
  have h3 := Option.some.inj h1
  injection h3 with h3
  cases ns with
  | nil => cases h3
  | cons n ns => injection h3 with h4 _; cases h4
theorem Strm.ex' {st cl : Addr} {H H' : Hp} {c : Nat} {F : List Addr} (s : Strm st cl H c) (h1 : st ∉ F) (h2 : cl ∉ F) (x : ExF F H H') : Strm st cl H' c := by
  obtain ⟨a, b, ns, k1, k2, r⟩ := s.ex
  exact ⟨a, b, ns, x.at_ _ _ h1 k1, x.at_ _ _ h2 k2, r⟩
theorem Strm.trk {st cl : Addr} {H : Hp} {c : Nat} (s : Strm st cl H c) : Trk [st, cl] H := by
  obtain ⟨a, b, ns, k1, k2, r⟩ := s.ex
  exact (Trk.nil.cons k2).cons k1
def spDraw : Sp := fun vs H Q _ => ∃ (st cl : Addr) (c : Nat) (m : Int), vs = [.ref st, .int m] ∧ Strm st cl H c ∧ c < 2 ^ 48 ∧ 0 < m ∧ m < 2 ^ 30 ∧
  ∀ (k : Int) H', 0 ≤ k → k < m → Strm st cl H' (c + 1) → ExF [st, cl] H H' → Q (.int k) H'
end Tw
end

section
set_option Elab.async false
set_option linter.all false
set_option maxRecDepth 100000
set_option maxHeartbeats 4000000
namespace Tw
open PySem L2 PyProof.Rows

/-! ### good data: no dicts, short texts of real signs, n deep at most -/
def okS (s : Str) : Bool := PyData.strOk s && decide (s.length ≤ 200)
mutual
def ok : Nat → PyData → Bool
  | _, .none => true
  | _, .bool _ => true
  | _, .int _ => true
  | _, .str s => okS s
  | 0, .list _ => false
  | 0, .tuple _ => false
  | n + 1, .list ds => oks n ds && decide (ds.length ≤ 100000)
  | n + 1, .tuple ds => oks n ds && decide (ds.length ≤ 100000)
  | _, .dict _ => false
def oks : Nat → List PyData → Bool
  | _, [] => true
  | n, d :: ds => ok n d && oks n ds
end
theorem oks_iff {n : Nat} : ∀ {ds : List PyData}, oks n ds = true ↔ ∀ d ∈ ds, ok n d = true
  | [] => by simp [oks]
  | d :: ds => by rw [oks, Bool.and_eq_true, oks_iff (ds := ds)]; simp
theorem oks_cons {n : Nat} {d : PyData} {ds : List PyData} : oks n (d :: ds) = true ↔ ok n d = true ∧ oks n ds = true := by rw [oks, Bool.and_eq_true]
theorem ok_list {n : Nat} {ds : List PyData} : ok (n + 1) (.list ds) = true ↔ oks n ds = true ∧ ds.length ≤ 100000 := by rw [ok, Bool.and_eq_true, decide_eq_true_eq]
theorem ok_tuple {n : Nat} {ds : List PyData} : ok (n + 1) (.tuple ds) = true ↔ oks n ds = true ∧ ds.length ≤ 100000 := by rw [ok, Bool.and_eq_true, decide_eq_true_eq]
theorem ok_str {n : Nat} {s : Str} : ok n (.str s) = okS s := by cases n <;> rw [ok]
theorem ok_int {n : Nat} {i : Int} : ok n (.int i) = true := by cases n <;> rw [ok]
theorem ok_bool {n : Nat} {b : Bool} : ok n (.bool b) = true := by cases n <;> rw [ok]
theorem ok_none {n : Nat} : ok n .none = true := by cases n <;> rw [ok]
theorem oks_ints {n : Nat} (ns : List Int) : oks n (ns.map PyData.int) = true := oks_iff.mpr fun d hd => by
  obtain ⟨i, _, rfl⟩ := List.mem_map.mp hd
  exact ok_int
theorem oks_append {n : Nat} {ds es : List PyData} : oks n (ds ++ es) = true ↔ oks n ds = true ∧ oks n es = true := by
  rw [oks_iff, oks_iff, oks_iff]
  exact ⟨fun h => ⟨fun d k => h d (List.mem_append_left _ k), fun d k => h d (List.mem_append_right _ k)⟩, fun h d k => (List.mem_append.mp k).elim (h.1 d) (h.2 d)⟩
mutual
theorem ok_succ : ∀ {n : Nat} {d : PyData}, ok n d = true → ok (n + 1) d = true
  | n, .none, _ => ok_none
  | n, .bool _, _ => ok_bool
  | n, .int _, _ => ok_int
  | n, .str s, h => by rw [ok_str] at h ⊢; exact h
  | 0, .list _, h => by simp [ok] at h
  | 0, .tuple _, h => by simp [ok] at h
  | n + 1, .list ds, h => by rw [ok_list] at h ⊢; exact ⟨oks_succ h.1, h.2⟩
  | n + 1, .tuple ds, h => by rw [ok_tuple] at h ⊢; exact ⟨oks_succ h.1, h.2⟩
  | n, .dict _, h => by cases n <;> simp [ok] at h
theorem oks_succ : ∀ {n : Nat} {ds : List PyData}, oks n ds = true → oks (n + 1) ds = true
  | n, [], _ => by rw [oks]
  | n, d :: ds, h => by rw [oks_cons] at h ⊢; exact ⟨ok_succ h.1, oks_succ h.2⟩
end
theorem ok_le {n m : Nat} {d : PyData} (h : ok n d = true) (k : n ≤ m) : ok m d = true := by
  induction k with
  | refl => exact h
  | step _ ih => exact ok_succ ih
theorem oks_le {n m : Nat} {ds : List PyData} (h : oks n ds = true) (k : n ≤ m) : oks m ds = true := by
  induction k with
  | refl => exact h
  | step _ ih => exact oks_succ ih
mutual
theorem ok_plain : ∀ {n : Nat} {d : PyData}, ok n d = true → plain d = true
  | _, .none, _ => by rw [plain]
  | _, .bool _, _ => by rw [plain]
  | _, .int _, _ => by rw [plain]
  | _, .str _, _ => by rw [plain]
  | 0, .list _, h => by simp [ok] at h
  | 0, .tuple _, h => by simp [ok] at h
  | n + 1, .list ds, h => by rw [ok_list] at h; rw [plain]; exact oks_plain h.1
  | n + 1, .tuple ds, h => by rw [ok_tuple] at h; rw [plain]; exact oks_plain h.1
  | n, .dict _, h => by cases n <;> simp [ok] at h
theorem oks_plain : ∀ {n : Nat} {ds : List PyData}, oks n ds = true → plains ds = true
  | n, [], _ => by rw [plains]
  | n, d :: ds, h => by rw [oks_cons] at h; rw [plains, ok_plain h.1, oks_plain h.2]; rfl
end
mutual
theorem ok_lay : ∀ {n : Nat} {d : PyData}, ok n d = true → d.canLay0 = true ∧ d.depth ≤ n
  | _, .none, _ => ⟨by rw [PyData.canLay0], by rw [PyData.depth]; exact Nat.zero_le _⟩
  | _, .bool _, _ => ⟨by rw [PyData.canLay0], by rw [PyData.depth]; exact Nat.zero_le _⟩
  | _, .int _, _ => ⟨by rw [PyData.canLay0], by rw [PyData.depth]; exact Nat.zero_le _⟩
  | _, .str s, h => by
    rw [ok_str] at h
    unfold okS at h
    rw [Bool.and_eq_true] at h
    exact ⟨by rw [PyData.canLay0]; exact h.1, by rw [PyData.depth]; exact Nat.zero_le _⟩
  | 0, .list _, h => by simp [ok] at h
  | 0, .tuple _, h => by simp [ok] at h
  | n + 1, .list ds, h => by
    rw [ok_list] at h
    have q := oks_lay h.1
    exact ⟨by rw [PyData.canLay0]; exact q.1, by rw [PyData.depth]; exact Nat.succ_le_succ q.2⟩
  | n + 1, .tuple ds, h => by
    rw [ok_tuple] at h
    have q := oks_lay h.1
    exact ⟨by rw [PyData.canLay0]; exact q.1, by rw [PyData.depth]; exact Nat.succ_le_succ q.2⟩
  | n, .dict _, h => by cases n <;> simp [ok] at h
theorem oks_lay : ∀ {n : Nat} {ds : List PyData}, oks n ds = true → PyData.canLayAll0 ds = true ∧ PyData.depthAll ds ≤ n
  | n, [], _ => ⟨by rw [PyData.canLayAll0], by rw [PyData.depthAll]; exact Nat.zero_le _⟩
  | n, d :: ds, h => by
    rw [oks_cons] at h
    have q := ok_lay h.1
    have q2 := oks_lay h.2
    exact ⟨by rw [PyData.canLayAll0, q.1, q2.1]; rfl, by rw [PyData.depthAll]; exact Nat.max_le.mpr ⟨q.2, q2.2⟩⟩
end
theorem ok_shaped {n : Nat} {d : PyData} (h : ok n d = true) (k : n ≤ 64 := by decide) : SeqAt.shaped d = true := by
  have q := ok_lay h
  unfold SeqAt.shaped
  rw [q.1, decide_eq_true (Nat.le_trans q.2 k)]
  rfl
section
variable {F G : List Addr} {K : PySem.W.Frag} {H : Hp} {v u : V} {d e : PyData} {ds : List PyData} {Q : VK}
theorem eqO {n m : Nat} (r : Rp F H v d) (r' : Rp G H u e) (hd : ok n d = true) (he : ok m e = true) (q : Q (.bl (PyData.eqv d e)) H) (hn : n ≤ 64 := by decide) (hm : m ≤ 64 := by decide) : rEqU K v u H Q :=
  eqD (r.sub (G := []) fun a z => absurd z (by simp)) (r'.sub (G := []) fun a z => absurd z (by simp)) (ok_plain hd) (ok_plain he) (ok_shaped hd hn) (ok_shaped he hm) q
theorem neO {n m : Nat} (r : Rp F H v d) (r' : Rp G H u e) (hd : ok n d = true) (he : ok m e = true) (q : Q (.bl (!PyData.eqv d e)) H) (hn : n ≤ 64 := by decide) (hm : m ≤ 64 := by decide) : rNeU K v u H Q :=
  neD (r.sub (G := []) fun a z => absurd z (by simp)) (r'.sub (G := []) fun a z => absurd z (by simp)) (ok_plain hd) (ok_plain he) (ok_shaped hd hn) (ok_shaped he hm) q
theorem inO {n m : Nat} (r : Rp F H v d) (r' : Rp G H u (.list ds)) (hd : ok n d = true) (he : ok m (.list ds) = true) (q : Q (.bl (ds.any fun z => PyData.eqv z d)) H) (hn : n ≤ 64 := by decide) (hm : m ≤ 64 := by decide) : rInU K v u H Q :=
  inDat (r.sub (G := []) fun a z => absurd z (by simp)) (r'.sub (G := []) fun a z => absurd z (by simp)) (ok_plain hd) (ok_plain he) (ok_shaped hd hn) (ok_shaped he hm) q
theorem notInO {n m : Nat} (r : Rp F H v d) (r' : Rp G H u (.list ds)) (hd : ok n d = true) (he : ok m (.list ds) = true) (q : Q (.bl (!ds.any fun z => PyData.eqv z d)) H) (hn : n ≤ 64 := by decide) (hm : m ≤ 64 := by decide) : rNotInU K v u H Q :=
  notInDat (r.sub (G := []) fun a z => absurd z (by simp)) (r'.sub (G := []) fun a z => absurd z (by simp)) (ok_plain hd) (ok_plain he) (ok_shaped hd hn) (ok_shaped he hm) q
theorem notInOT {n m : Nat} (r : Rp F H v d) (r' : Rp G H u (.tuple ds)) (hd : ok n d = true) (he : ok m (.tuple ds) = true) (q : Q (.bl (!ds.any fun z => PyData.eqv z d)) H) (hn : n ≤ 64 := by decide) (hm : m ≤ 64 := by decide) : rNotInU K v u H Q :=
  notInDatT (r.sub (G := []) fun a z => absurd z (by simp)) (r'.sub (G := []) fun a z => absurd z (by simp)) (ok_plain hd) (ok_plain he) (ok_shaped hd hn) (ok_shaped he hm) q
end
theorem int1 {H : Hp} {Q : VK} {i : Int} (q : Q (.int i) H) : rInt1 [.int i] H Q := by
  unfold rInt1
  exact .inl ⟨i, rfl, q⟩
theorem str1 {H : Hp} {Q : VK} {i : Int} (h : i.natAbs.log2 < 1920) (q : Q (.str (Str.ofString (toString i))) H) : rStr1 [.int i] H Q := by
  unfold rStr1
  exact ⟨i, rfl, h, q⟩
theorem max2 {H : Hp} {Q : VK} {i j : Int} (q : Q (.int (if j > i then j else i)) H) : rMax2 [.int i, .int j] H Q := by
  unfold rMax2
  exact ⟨i, j, rfl, q⟩
theorem allB {K : PySem.W.Frag} {H : Hp} {Q : VK} {a : Addr} {bs : List Bool} (h : H a = some (.lst (bs.map V.bl))) (q : Q (.bl (bs.all id)) H) : rAllU K [.ref a] H Q := by
  unfold rAllU
  exact ⟨a, bs, rfl, .inl (.inl h), q⟩
theorem anyB {K : PySem.W.Frag} {H : Hp} {Q : VK} {a : Addr} {bs : List Bool} (h : H a = some (.lst (bs.map V.bl))) (q : Q (.bl (bs.any id)) H) : rAnyU K [.ref a] H Q := by
  unfold rAnyU
  exact ⟨a, bs, rfl, .inl (.inl h), q⟩
/-! ### stores, the heap behind them a letter -/
section
variable {F G : List Addr} {K : PySem.W.Frag} {H : Hp} {v u y : V} {d e : PyData} {Q : VK} {l b : Addr} {xs ys : List V}
theorem setU {k : Int} {j : Nat} {R : Hp → Prop} (h : H l = some (.lst xs)) (hj : ixN xs.length k = some j) (q : ∀ H', H' = upd H l (.lst (xs.set j v)) → R H') : rSetU (.ref l) (.int k) v H R := .inl ⟨l, xs, k, j, rfl, rfl, h, hj, q _ rfl⟩
theorem setD {k : Str} {kvs : List (Key × V)} {R : Hp → Prop} (h : H l = some (.dK kvs)) (hz : kvs.length < sizeLine) (q : ∀ H', H' = upd H l (.dK (putK kvs (.inr k) v)) → R H') : rSetU (.ref l) (.str k) v H R := .inr ⟨l, _, rfl, .k (k := .inr k) h hz, q _ rfl⟩
theorem tyL (h : H l = some (.lst xs)) : tyV K "list" (.ref l) H := .inl ⟨rfl, _, .inl (.inl h)⟩
theorem popAt {i : Int} {k : Nat} (h : H l = some (.lst xs)) (h0 : 0 ≤ i) (h1 : i < 2 ^ 63) (hk : i = (k : Int)) (hy : xs[k]? = some y) (q : ∀ H', H' = upd H l (.lst (xs.eraseIdx k)) → Q y H') : rPopAtU (.ref l) [.int i] H Q := by
  unfold rPopAtU
  exact ⟨l, xs, i, k, y, rfl, rfl, h, by omega, h1, by
    subst hk
    unfold seqIndex?
    have hl := (List.getElem?_eq_some_iff.mp hy).1
    have h0 : ¬ ((k : Int) < 0) := by omega
    simp only [if_neg h0]
    rw [if_pos (by simp; exact hl)]
    simp, hy, q _ rfl⟩
theorem popL (h : H l = some (.lst (xs ++ [y]))) (q : ∀ H', H' = upd H l (.lst xs) → Q y H') : rPopU (.ref l) [] H Q := by
  unfold rPopU
  exact ⟨l, xs ++ [y], y, rfl, rfl, h, by simp, by rw [List.dropLast_concat]; exact q _ rfl⟩
theorem app (h : H l = some (.lst xs)) (hz : xs.length < sizeLine) (q : ∀ H', H' = upd H l (.lst (xs ++ [y])) → Q .non H') : rAppendU (.ref l) [y] H Q := by
  unfold rAppendU
  exact ⟨l, xs, y, rfl, rfl, h, hz, q _ rfl⟩
theorem extL (h : H l = some (.lst xs)) (hb : H b = some (.lst ys)) (hz : xs.length + ys.length ≤ sizeLine) (q : ∀ H', H' = upd H l (.lst (xs ++ ys)) → Q .non H') : rExtU K (.ref l) [.ref b] H Q := by
  unfold rExtU
  exact .inl ⟨l, b, xs, ys, rfl, rfl, h, hb, hz, q _ rfl⟩
theorem extT (h : H l = some (.lst xs)) (hb : H b = some (.tup ys)) (hz : xs.length + ys.length ≤ sizeLine) (q : ∀ H', H' = upd H l (.lst (xs ++ ys)) → Q .non H') : rExtU K (.ref l) [.ref b] H Q := by
  unfold rExtU
  exact .inr ⟨l, b, xs, ys, rfl, rfl, h, .inl (.inl hb), hz, q _ rfl⟩
theorem lstOfQ (h : SqL K H b ys ∨ SqT K H b ys) (q : ∀ p H', H p = none → H' = upd H p (.lst ys) → Q (.ref p) H') : rLstOf K [.ref b] H Q := by
  unfold rLstOf
  exact ⟨b, ys, rfl, h, fun p hp => q p _ hp rfl⟩
theorem lstOfL (h : H b = some (.lst ys)) (q : ∀ p H', H p = none → H' = upd H p (.lst ys) → Q (.ref p) H') : rLstOf K [.ref b] H Q := by
  unfold rLstOf
  exact ⟨b, ys, rfl, .inl (.inl (.inl h)), fun p hp => q p _ hp rfl⟩
theorem lstOfT (h : H b = some (.tup ys)) (q : ∀ p H', H p = none → H' = upd H p (.lst ys) → Q (.ref p) H') : rLstOf K [.ref b] H Q := by
  unfold rLstOf
  exact ⟨b, ys, rfl, .inr (.inl (.inl h)), fun p hp => q p _ hp rfl⟩
theorem tupOfL (h : H b = some (.lst ys)) (q : ∀ p H', H p = none → H' = upd H p (.tup ys) → Q (.ref p) H') : rTupOf K [.ref b] H Q := by
  unfold rTupOf
  exact ⟨b, ys, rfl, .inl ⟨.inl (.inl h), fun p hp => q p _ hp rfl⟩⟩
theorem tupOfT (h : H b = some (.tup ys)) (q : Q (.ref b) H) : rTupOf K [.ref b] H Q := by
  unfold rTupOf
  exact ⟨b, ys, rfl, .inr ⟨.inl (.inl h), q⟩⟩
theorem catL {a : Addr} (ha : H a = some (.lst xs)) (hb : H b = some (.lst ys)) (h : xs.length + ys.length ≤ sizeLine) (q : ∀ p H', H p = none → H' = upd H p (.lst (xs ++ ys)) → Q (.ref p) H') : rAddU K (.ref a) (.ref b) H Q := addL ha hb h fun p hp => q p _ hp rfl
theorem mkT (hz : xs.length ≤ sizeLine) (q : ∀ p H', H p = none → H' = upd H p (.tup xs) → Q (.ref p) H') : xs.length ≤ sizeLine ∧ ∀ p, H p = none → Q (.ref p) (upd H p (.tup xs)) := ⟨hz, fun p hp => q p _ hp rfl⟩
theorem mkL (hz : xs.length ≤ sizeLine) (q : ∀ p H', H p = none → H' = upd H p (.lst xs) → Q (.ref p) H') : xs.length ≤ sizeLine ∧ ∀ p, H p = none → Q (.ref p) (upd H p (.lst xs)) := ⟨hz, fun p hp => q p _ hp rfl⟩
/-- a new list, a new tuple: the heap behind it a letter -/
theorem newL {R : Addr → Hp → Prop} (q : ∀ p H', H p = none → H' = upd H p (.lst xs) → R p H') : ∀ p, H p = none → R p (upd H p (.lst xs)) := fun p hp => q p _ hp rfl
theorem newT {R : Addr → Hp → Prop} (q : ∀ p H', H p = none → H' = upd H p (.tup xs) → R p H') : ∀ p, H p = none → R p (upd H p (.tup xs)) := fun p hp => q p _ hp rfl
end
section
variable {F : List Addr} {H H' H0 : Hp} {p a : Addr} {o u : HO}
theorem eqs (e : H' = upd H p o) : H' p = some o := by rw [e, upd_same]
theorem eqn (e : H' = upd H p o) (n : a ≠ p) (h : H a = some u) : H' a = some u := by rw [e, upd_ne n]; exact h
/-- at a new place -/
theorem eqf (e : H' = upd H p o) (n : H p = none) (h : H a = some u) : H' a = some u := eqn e (ne_of_none h n) h
theorem exn (e : H' = upd H p o) (n : H p = none) : ExF F H H' := by rw [e]; exact ExF.new n
theorem exm (e : H' = upd H p o) (n : H0 p = none ∨ p ∈ F) (x : ExF F H0 H) : ExF F H0 H' := by rw [e]; exact x.mut n
end
end Tw
end

section
set_option Elab.async false
set_option linter.all false
set_option maxRecDepth 100000
set_option maxHeartbeats 4000000
namespace Tw
open PySem L2 PyProof.Rows

/-! ### defs called by their names -/
structure Cal (P : Program) (w : World) (K : PySem.W.Frag) (mg : Str → Option Value) (base : Heap) (k : Nat) (x : Str) (sp : Sp) (dvs : List V) : Prop where
  ex : ∃ (f : Addr) (fd : FuncData) (ps : List Str) (ds : List Value), FnOk P w K mg base CX0 k f fd ps sp ∧ mg x = some (.ref f) ∧ PySem.W.keepIn K (.ref f) = true ∧ Binds K fd ps ds ∧ Vals dvs ds
theorem Cal.mk' {P : Program} {w : World} {K : PySem.W.Frag} {mg : Str → Option Value} {base : Heap} {k : Nat} {x : Str} {sp : Sp} {f : Addr} {fd : FuncData} {ps : List Str}
    (F : FnOk P w K mg base CX0 k f fd ps sp) (hf : mg x = some (.ref f)) (kp : PySem.W.keepIn K (.ref f) = true) (b : Binds K fd ps []) : Cal P w K mg base k x sp [] := ⟨f, fd, ps, [], F, hf, kp, b, .nil⟩
theorem Cal.mono {P : Program} {w : World} {K : PySem.W.Frag} {mg : Str → Option Value} {base : Heap} {j k : Nat} {x : Str} {sp : Sp} {dvs : List V} (c : Cal P w K mg base j x sp dvs) (h : j ≤ k) : Cal P w K mg base k x sp dvs := by
  obtain ⟨f, fd, ps, ds, F, r⟩ := c.ex
  exact ⟨f, fd, ps, ds, F.mono h, r⟩
section
variable {X : Cx} {x : Str} {sp : Sp} {dvs : List V} {j k : Nat} {e : Expr} {es : List Expr} {t : TA} {p pos : Pos} {v : V}
theorem pe_c (c : Cal X.prog X.w X.K X.mg X.base k x sp dvs) (hr : Room j X.A) (hk : k ≤ j) (hg : Gl X x) (ha : PA X (e :: es) t)
    (hdb : (x == ("__debug__" : Str)) = false := by decide) (he : starEach (e :: es) X.env = (false, eval e X.env) :: starEach es X.env := by rfl) (hpl : (backTo pos (starEach es X.env)).any (·.1) = false := by rfl) :
    PE X (.Call (.Name x p) (e :: es) [] pos) (tCall sp dvs E0 t) := by
  obtain ⟨f, fd, ps, ds, F, hm, kp, b, d⟩ := c.ex
  exact pe_call F (hr.mono hk) hg hm kp b d pass0 ha hdb he hpl
theorem pe_gc (hg : Gl X x) (h : ∃ u, X.mg x = some u ∧ RelV v u) (hd : (x == ("__debug__" : Str)) = false := by decide) : PE X (.Name x pos) (tC v) := by
  obtain ⟨u, h1, h2⟩ := h
  exact pe_glob hg h1 h2 hd
end
/-- what stands at a: a list or a tuple of these -/
def Sq (H : Hp) (a : Addr) (xs : List V) : Prop := H a = some (.lst xs) ∨ H a = some (.tup xs)
theorem Sq.eqf {H H' : Hp} {a p : Addr} {o : HO} {xs : List V} (h : Sq H a xs) (e : H' = upd H p o) (n : H p = none) : Sq H' a xs := h.elim (fun h => .inl (Tw.eqf e n h)) fun h => .inr (Tw.eqf e n h)
theorem Sq.ex {H H' : Hp} {a : Addr} {F : List Addr} {xs : List V} (h : Sq H a xs) (x : ExF F H H') (n : a ∉ F) : Sq H' a xs := h.elim (fun h => .inl (x.at_ _ _ n h)) fun h => .inr (x.at_ _ _ n h)
theorem Sq.ne {H : Hp} {a : Addr} {xs : List V} (h : Sq H a xs) : H a ≠ none := by
  rcases h with h | h <;> (rw [h]; exact fun z => nomatch z)
section
variable {K : PySem.W.Frag} {i : Nat} {a : Addr} {xs : List V} {g : TG} {tt : TT} {te : TE} {vs : List Nat} {σ : L2.St} {H : Hp} {Q : VK}
/-- [te for g in range(n)], n known -/
theorem lcR {n : Nat} (Pv : Addr → Nat → Hp → Prop)
    (h0 : ∀ D H', H D = none → H' = upd H D (.lst []) → Pv D 0 H')
    (hs : ∀ D i H', H D = none → i < n → Pv D i H' → g (.int (0 + (i : Nat))) (wipe σ vs) H' fun σ2 H2 => wipe σ2 vs = wipe σ vs ∧ tt σ2 H2 fun b H3 =>
      if b = true then te σ2 H3 fun y H4 => ∃ acc, H4 D = some (.lst acc) ∧ acc.length < sizeLine ∧ Pv D (i + 1) (upd H4 D (.lst (acc ++ [y]))) else Pv D (i + 1) H3)
    (hd : ∀ D H', H D = none → Pv D n H' → Q (.ref D) H') :
    ∀ D, H D = none → ∃ W : Nat → Nat → Hp → Prop, (∃ m, W 0 m (upd H D (.lst []))) ∧ ∀ i m H, W i m H →
      ((Itr 0 n).stop i H ∧ Q (.ref D) H) ∨ ((Itr 0 n).go i H ∧ ∃ Nx : Hp → Prop, (∀ H', Nx H' → ∃ m', m' < m ∧ W (i + 1) m' H') ∧ ∀ x H', (Itr 0 n).yld i H x H' → g x (wipe σ vs) H' fun σ2 H2 => wipe σ2 vs = wipe σ vs ∧ tt σ2 H2 fun b H3 =>
        if b = true then te σ2 H3 fun y H4 => ∃ acc, H4 D = some (.lst acc) ∧ acc.length < sizeLine ∧ Nx (upd H4 D (.lst (acc ++ [y]))) else Nx H3) :=
  fun D hD => lc_range (Pv D) (h0 D _ hD rfl) (fun i H' hi p => hs D i H' hD hi p) fun H' p => hd D H' hD p
end
theorem lenSq {K : PySem.W.Frag} {H : Hp} {a : Addr} {xs : List V} {Q : VK} (ha : Sq H a xs) (q : Q (.int (xs.length : Int)) H) : rLenU K [.ref a] H Q := ha.elim (fun h => lenL h q) fun h => lenT h q
theorem ixSq {K : PySem.W.Frag} {H : Hp} {a : Addr} {xs : List V} {v : V} {i : Int} {Q : VK} (ha : Sq H a xs) (h : atI xs i = some v) (q : Q v H) : rIxU K (.ref a) (.int i) H Q := ha.elim (fun k => ixL k h q) fun k => ixT k h q
theorem lstOfSq {K : PySem.W.Frag} {H : Hp} {b : Addr} {ys : List V} {Q : VK} (h : Sq H b ys) (q : ∀ p H', H p = none → H' = upd H p (.lst ys) → Q (.ref p) H') : rLstOf K [.ref b] H Q := h.elim (fun h => lstOfL h q) fun h => lstOfT h q
theorem atN {α : Type} {xs : List α} {k : Int} {v : α} (h0 : 0 ≤ k) (h : xs[k.toNat]? = some v) : atI xs k = some v := by
  have hl := (List.getElem?_eq_some_iff.mp h).1
  unfold atI ixN
  rw [if_pos h0, if_pos (by omega)]
  exact h
/-- rows of data and their arrangements -/
theorem RpL.perm {F : List Addr} {H : Hp} {xs ys : List V} (p : ys.Perm xs) : ∀ {ds : List PyData}, RpL F H xs ds → ∃ es, es.Perm ds ∧ RpL F H ys es := by
  induction p with
  | nil => intro ds r; exact ⟨ds, .refl _, r⟩
  | cons x p ih =>
    intro ds r
    cases ds with
    | nil => exact absurd r.1 (by simp)
    | cons d ds =>
      obtain ⟨v, vs, e, h, q⟩ := r.cons_inv
      cases e
      obtain ⟨es, p', q'⟩ := ih q
      exact ⟨d :: es, p'.cons d, .cons h q'⟩
  | swap x y l =>
    intro ds r
    cases ds with
    | nil => exact absurd r.1 (by simp)
    | cons d ds =>
      obtain ⟨v, vs, e, h, q⟩ := r.cons_inv
      cases ds with
      | nil => cases e; exact absurd q.1 (by simp)
      | cons d' ds =>
        obtain ⟨v', vs', e', h', q'⟩ := q.cons_inv
        cases e
        cases e'
        exact ⟨d' :: d :: ds, .swap _ _ _, .cons h' (.cons h q')⟩
  | trans p1 p2 ih1 ih2 =>
    intro ds r
    obtain ⟨es, p', q'⟩ := ih2 r
    obtain ⟨fs, p'', q''⟩ := ih1 q'
    exact ⟨fs, p''.trans p', q''⟩
theorem erase_perm {α : Type} : ∀ {l : List α} {k : Nat} {y : α}, l[k]? = some y → (y :: l.eraseIdx k).Perm l
  | [], k, y, h => by simp at h
  | x :: l, 0, y, h => by
    have e : x = y := by simpa using h
    subst e
    exact .refl _
  | x :: l, k + 1, y, h => by
    have ih := erase_perm (l := l) (k := k) (y := y) (by simpa using h)
    show (y :: x :: l.eraseIdx k).Perm (x :: l)
    exact (List.Perm.swap x y _).trans (ih.cons x)

/-! ### promises of the draws -/
/-- some[draw]: an item at a drawn place -/
def spPick : Sp := fun vs H Q _ => ∃ (st cl : Addr) (c : Nat) (l : Addr) (xs : List V), vs = [.ref st, .ref l] ∧ Strm st cl H c ∧ c < 2 ^ 48 ∧ Sq H l xs ∧ l ≠ st ∧ l ≠ cl ∧ 0 < xs.length ∧ xs.length < 2 ^ 30 ∧
  ∀ (k : Nat) (v : V) H', xs[k]? = some v → Strm st cl H' (c + 1) → ExF [st, cl] H H' → Q v H'
/-- the things in a drawn order, a new list -/
def spMixed : Sp := fun vs H Q _ => ∃ (st cl : Addr) (c : Nat) (l : Addr) (xs : List V), vs = [.ref st, .ref l] ∧ Strm st cl H c ∧ c + xs.length < 2 ^ 48 ∧ Sq H l xs ∧ xs.length < 2 ^ 20 ∧
  ∀ (r : Addr) (ys : List V) H', ys.Perm xs → H r = none → H' r = some (.lst ys) → Strm st cl H' (c + xs.length) → ExF [st, cl] H H' → Q (.ref r) H'
/-- the spring: from the script -/
def spStart (K : PySem.W.Frag) : Sp := fun vs H Q _ => ∃ (a : Addr) (ns : List Int), vs = [.ref a] ∧ SqL K H a (ns.map V.int) ∧ ns.length ≤ 1000 ∧
  ∀ st cl H', Strm st cl H' 0 → H st = none → H cl = none → ExF [] H H' → Q (.ref st) H'
end Tw
end

section
set_option Elab.async false
set_option linter.all false
set_option maxRecDepth 100000
set_option maxHeartbeats 4000000
namespace Tw
open PySem L2 PyProof.Rows

/-! ### what is walked: a row of values that stands still, at a place that is none of M -/
def IterS (M : List Addr) (wi : TI) (σ : L2.St) (H : Hp) (xs : List V) : Prop :=
  ∀ R : It → Hp → Prop, (∀ J a o H1, L2.Walk J xs.length (fun H' => H' a = some o) (YAt xs) → H1 a = some o → a ∉ M → ExF [] H H1 → R J H1) → wi σ H R
theorem wkL {K : PySem.W.Frag} {a : Addr} {xs : List V} : L2.Walk (Itl K a) xs.length (fun H' => H' a = some (.lst xs)) (YAt xs) :=
  (walk_list (K := K) (a := a) (xs := xs)).mono (fun H h => .inl (.inl h)) fun _ _ _ _ _ _ y => y
theorem wkT {K : PySem.W.Frag} {a : Addr} {xs : List V} : L2.Walk (Itt K a) xs.length (fun H' => H' a = some (.tup xs)) (YAt xs) :=
  (walk_tup (K := K) (a := a) (xs := xs)).mono (fun H h => .inl (.inl h)) fun _ _ _ _ _ _ y => y
section
variable {K : PySem.W.Frag} {M F : List Addr} {wi : TI} {i : Nat} {a : Addr} {xs : List V} {g : TG} {tt : TT} {te : TE} {vs : List Nat} {σ : L2.St} {H : Hp} {Q : VK}
theorem iter_var (hv : σ[i]? = some (some (.ref a))) (ha : Sq H a xs) (hM : a ∉ M) : IterS M (iSeqU K (tVar i)) σ H xs := fun R h => by
  rcases ha with ha | ha
  · exact .inl ⟨_, hv, a, rfl, ⟨xs, .inl (.inl ha)⟩, h _ a _ H wkL ha hM ExF.refl⟩
  · exact .inr (.inl ⟨_, hv, a, rfl, ⟨xs, .inl (.inl ha)⟩, h _ a _ H wkT ha hM ExF.refl⟩)
/-- a list that te gives -/
theorem iter_L (h : ∀ Qc : VK, (∀ p H1, H1 p = some (.lst xs) → p ∉ M → ExF [] H H1 → Qc (.ref p) H1) → te σ H Qc) : IterS M (iSeqU K te) σ H xs := fun R k =>
  .inl (h _ fun p H1 hp hM x => ⟨p, rfl, ⟨xs, .inl (.inl hp)⟩, k _ p _ H1 wkL hp hM x⟩)
theorem iter_T (h : ∀ Qc : VK, (∀ p H1, H1 p = some (.tup xs) → p ∉ M → ExF [] H H1 → Qc (.ref p) H1) → te σ H Qc) : IterS M (iSeqU K te) σ H xs := fun R k =>
  .inr (.inl (h _ fun p H1 hp hM x => ⟨p, rfl, ⟨xs, .inl (.inl hp)⟩, k _ p _ H1 wkT hp hM x⟩))
theorem lcS (hi : IterS M wi σ H xs) (Pv : Hp → Addr → Nat → Hp → Prop)
    (h0 : ∀ H1 D H2, ExF [] H H1 → H1 D = none → H2 = upd H1 D (.lst []) → Pv H1 D 0 H2) (hk : ∀ H1 D i H', H1 D = none → Pv H1 D i H' → ExF (D :: M) H1 H')
    (hs : ∀ H1 D i x H', ExF [] H H1 → H1 D = none → xs[i]? = some x → Pv H1 D i H' → g x (wipe σ vs) H' fun σ2 H2 => wipe σ2 vs = wipe σ vs ∧ tt σ2 H2 fun b H3 =>
      if b = true then te σ2 H3 fun y H4 => ∃ acc, H4 D = some (.lst acc) ∧ acc.length < sizeLine ∧ Pv H1 D (i + 1) (upd H4 D (.lst (acc ++ [y]))) else Pv H1 D (i + 1) H3)
    (hd : ∀ H1 D H', ExF [] H H1 → H1 D = none → Pv H1 D xs.length H' → Q (.ref D) H') : tLcU wi g tt te vs σ H Q := by
  unfold tLcU
  exact hi _ fun J a o H1 w ho hM x D hD => lc_it w (Pv H1 D) (h0 H1 D _ x hD rfl) (fun i H' _ p => (hk H1 D i H' hD p).at_ a o (by
      intro z
      rcases List.mem_cons.mp z with z | z
      · subst z; rw [hD] at ho; cases ho
      · exact hM z) ho) (fun i v H' H'' _ p y => by
      obtain ⟨e, y⟩ := y
      subst e
      exact hs H1 D i v H'' x hD y p) fun H' p => hd H1 D H' x hD p
theorem forS {tb : TS} {D : Ends} (hi : IterS M wi σ H xs) (Pv : Hp → Nat → L2.St → Hp → Prop) (h0 : ∀ H1, ExF [] H H1 → Pv H1 0 σ H1) (hk : ∀ H1 i σ' H', Pv H1 i σ' H' → ExF M H1 H')
    (hs : ∀ H1 i x σ' H', ExF [] H H1 → xs[i]? = some x → Pv H1 i σ' H' → g x σ' H' fun σ2 H2 => tb { D with nx := Pv H1 (i + 1), ct := Pv H1 (i + 1), bk := D.nx } σ2 H2)
    (hd : ∀ H1 σ' H', ExF [] H H1 → Pv H1 xs.length σ' H' → D.nx σ' H') : tForU wi g tb D σ H := by
  unfold tForU
  exact hi _ fun J a o H1 w ho hM x => for_it w (Pv H1) (h0 H1 x) (fun i σ' H' _ p => (hk H1 i σ' H' p).at_ a o hM ho) (fun i v σ' H' H'' _ p y => by
      obtain ⟨e, y⟩ := y
      subst e
      exact hs H1 i v σ' H'' x y p) fun σ' H' p => hd H1 σ' H' x p
/-- [te for x in ..], te pure: data -/
theorem lcMap {k : Nat} (hi : IterS [] wi σ H xs) (es : List PyData) (hl : es.length = xs.length) (hz : xs.length < sizeLine) (hw : ∀ x, wipe ((wipe σ vs).set k (some x)) vs = wipe σ vs)
    (hs : ∀ (D : Addr) (i : Nat) (x : V) (e : PyData) (H' : Hp), xs[i]? = some x → es[i]? = some e → ExF [] H H' → H D = none → H' D ≠ none → ∀ Qc : VK, (∀ y H4, ExF [] H' H4 → Rp (D :: F) H4 y e → Qc y H4) → te ((wipe σ vs).set k (some x)) H' Qc)
    (hd : ∀ r ys H', H r = none → H' r = some (.lst ys) → RpL F H' ys es → ExF [] H H' → Q (.ref r) H') : tLcU wi (gName k) tYes te vs σ H Q := by
  refine lcS hi (fun H1 D i H' => ∃ acc, acc.length = i ∧ H' D = some (.lst acc) ∧ RpL (D :: F) H' acc (es.take i) ∧ ExF [D] H1 H') (fun H1 D H2 x hD e => ⟨[], rfl, eqs e, by simpa using RpL.nil, exn e hD⟩) (fun H1 D i H' hD ⟨_, _, _, _, x⟩ => x) ?_ ?_
  · rintro H1 D i x H' x1 hD hx ⟨acc, ha, hH, r, x2⟩
    have hi : i < xs.length := (List.getElem?_eq_some_iff.mp hx).1
    have he : es[i]? = some es[i] := by simp [hl, hi]
    have x3 : ExF [] H H' := x1.trans (x2.drop hD)
    refine ⟨hw x, ?_⟩
    unfold tYes
    dsimp only
    rw [if_pos rfl]
    refine hs D i x _ H' hx he x3 (x1.free hD) (by rw [hH]; exact fun z => nomatch z) _ fun y H4 x4 ry => ?_
    refine ⟨acc, x4.at_ _ _ (by simp) hH, by omega, acc ++ [y], by simp [ha], upd_same, ?_, ?_⟩
    · have e5 : ExF [D] H4 (upd H4 D (.lst (acc ++ [y]))) := ExF.refl.mut (.inr (by simp))
      have r' : RpL (D :: F) H4 (acc ++ [y]) (es.take (i + 1)) := by
        have q := (r.ex x4.of).snoc ry
        have et : es.take (i + 1) = es.take i ++ [es[i]] := by rw [List.take_succ, he]; rfl
        rw [et]; exact q
      exact ⟨r'.1, fun j v d h1 h2 => (r'.2 j v d h1 h2).ex (e5.sub fun a z => by rw [List.mem_singleton.mp z]; exact List.mem_cons_self)⟩
    · exact exm rfl (.inr (by simp)) (x2.trans x4.of)
  · rintro H1 D H' x1 hD ⟨acc, ha, hH, r, x2⟩
    rw [← hl, List.take_length] at r
    exact hd D acc H' (x1.free hD) hH r.drop (x1.trans (x2.drop hD))
/-- [te for x in ..], te pure: truths -/
theorem lcMapB {k : Nat} (hi : IterS [] wi σ H xs) (bs : List Bool) (hl : bs.length = xs.length) (hz : xs.length < sizeLine) (hw : ∀ x, wipe ((wipe σ vs).set k (some x)) vs = wipe σ vs)
    (hs : ∀ (i : Nat) (x : V) (b : Bool) (H' : Hp), xs[i]? = some x → bs[i]? = some b → ExF [] H H' → ∀ Qc : VK, (∀ H4, ExF [] H' H4 → Qc (.bl b) H4) → te ((wipe σ vs).set k (some x)) H' Qc)
    (hd : ∀ r H', H r = none → H' r = some (.lst (bs.map V.bl)) → ExF [] H H' → Q (.ref r) H') : tLcU wi (gName k) tYes te vs σ H Q := by
  refine lcS hi (fun H1 D i H' => H' D = some (.lst ((bs.take i).map V.bl)) ∧ ExF [D] H1 H') (fun H1 D H2 x hD e => ⟨eqs e, exn e hD⟩) (fun H1 D i H' hD ⟨_, x⟩ => x) ?_ ?_
  · rintro H1 D i x H' x1 hD hx ⟨hH, x2⟩
    have hi : i < xs.length := (List.getElem?_eq_some_iff.mp hx).1
    have he : bs[i]? = some bs[i] := by simp [hl, hi]
    have x3 : ExF [] H H' := x1.trans (x2.drop hD)
    refine ⟨hw x, ?_⟩
    unfold tYes
    dsimp only
    rw [if_pos rfl]
    refine hs i x _ H' hx he x3 _ fun H4 x4 => ?_
    refine ⟨_, x4.at_ _ _ (by simp) hH, by rw [List.length_map, List.length_take]; omega, ?_, ?_⟩
    · have et : bs.take (i + 1) = bs.take i ++ [bs[i]] := by rw [List.take_succ, he]; rfl
      rw [upd_same, et, List.map_append]
      rfl
    · exact exm rfl (.inr (by simp)) (x2.trans x4.of)
  · rintro H1 D H' x1 hD ⟨hH, x2⟩
    rw [← hl, List.take_length] at hH
    exact hd D H' (x1.free hD) hH (x1.trans (x2.drop hD))

theorem wkE {K : PySem.W.Frag} {a : Addr} {xs : List V} : L2.Walk (Ite K a) xs.length (fun H' => H' a = some (.lst xs)) (YPair (fun i => some (.int (i : Nat))) (fun i => xs[i]?)) :=
  (walk_enum (K := K) (a := a) (xs := xs)).mono (fun H h => .inl (.inl h)) fun _ _ _ _ _ _ y => y
theorem wkET {K : PySem.W.Frag} {a : Addr} {xs : List V} : L2.Walk (IteT K a) xs.length (fun H' => H' a = some (.tup xs)) (YPair (fun i => some (.int (i : Nat))) (fun i => xs[i]?)) := by
  refine ⟨fun i _ hi q => ⟨xs, xs[i], .inl (.inl q), by simp [hi]⟩, fun _ q => ⟨xs, .inl (.inl q), rfl⟩, fun i H v H' _ q y => ?_⟩
  obtain ⟨T, x, h1, h2, h3, h4⟩ := y
  exact ⟨T, .int (i : Nat), x, h1, h2, h3, rfl, h4 xs (.inl (.inl q))⟩
/-- for k1, k2 in enumerate(x): tb, x a name -/
theorem forE {tb : TS} {D : Ends} {k1 k2 : Nat} (hv : σ[i]? = some (some (.ref a))) (ha : Sq H a xs) (hM : a ∉ M) (Pv : Nat → L2.St → Hp → Prop) (h0 : Pv 0 σ H) (hk : ∀ i σ' H', Pv i σ' H' → ExF M H H')
    (hs : ∀ (i : Nat) (x : V) σ' H' H'', xs[i]? = some x → Pv i σ' H' → ExF [] H' H'' → tb { D with nx := Pv (i + 1), ct := Pv (i + 1), bk := D.nx } ((σ'.set k1 (some (.int (i : Nat)))).set k2 (some x)) H'') (hd : ∀ σ' H', Pv xs.length σ' H' → D.nx σ' H') :
    tForU (iEnumU K (tCons (tVar i) tNil)) (gTup K 2 (gCons (gName k1) (gCons (gName k2) gNil))) tb D σ H := by
  have body : ∀ (i : Nat) (v : V) σ' (H' H'' : Hp), Pv i σ' H' → YPair (fun i => some (.int (i : Nat))) (fun i => xs[i]?) i H' v H'' →
      gTup K 2 (gCons (gName k1) (gCons (gName k2) gNil)) v σ' H'' fun σ2 H2 => tb { D with nx := Pv (i + 1), ct := Pv (i + 1), bk := D.nx } σ2 H2 := by
    rintro i v σ' H' H'' p ⟨T, x, y, rfl, hT, rfl, ex, hy⟩
    cases ex
    exact ⟨T, _, rfl, .inl (.inl upd_same), rfl, _, _, rfl, _, _, rfl, rfl, hs i y σ' H' _ hy p (ExF.new hT)⟩
  unfold tForU
  rcases ha with ha | ha
  · exact .inl ⟨_, hv, a, xs, rfl, .inl (.inl ha), for_it wkE Pv h0 (fun i σ' H' _ p => (hk i σ' H' p).at_ a _ hM ha) (fun i v σ' H' H'' _ p y => body i v σ' H' H'' p y) hd⟩
  · exact .inr ⟨_, hv, a, xs, rfl, .inl (.inl ha), for_it wkET Pv h0 (fun i σ' H' _ p => (hk i σ' H' p).at_ a _ hM ha) (fun i v σ' H' H'' _ p y => body i v σ' H' H'' p y) hd⟩
/-! ### slices -/
theorem sIx_from {n i : Nat} (h : i ≤ n) : HT.sIx n 0 (some (i : Int)) = i := by
  show (if (i : Int) < 0 then ((i : Int) + (n : Int)).toNat else min (i : Int).toNat n) = i
  rw [if_neg (by omega)]
  omega
theorem sIx_to {n i : Nat} : HT.sIx n n (some (i : Int)) = min i n := by
  show (if (i : Int) < 0 then ((i : Int) + (n : Int)).toNat else min (i : Int).toNat n) = _
  rw [if_neg (by omega)]
  omega
theorem cut_from {i : Nat} (h : i ≤ xs.length) : cutV xs (some (i : Int)) none = xs.drop i := by
  unfold cutV
  rw [sIx_from h]
  show (xs.drop i).take (xs.length - i) = xs.drop i
  exact List.take_of_length_le (by simp)
theorem cut_to {i : Nat} : cutV xs none (some (i : Int)) = xs.take i := by
  unfold cutV
  rw [sIx_to]
  show (xs.drop 0).take (min i xs.length - 0) = xs.take i
  rw [List.drop_zero, Nat.sub_zero]
  by_cases h : i ≤ xs.length
  · rw [Nat.min_eq_left h]
  · rw [Nat.min_eq_right (by omega), List.take_of_length_le (Nat.le_refl _), List.take_of_length_le (by omega)]
/-- x[i:] of a list or a tuple, i from 1 to its length -/
theorem slFrom {j : Int} (i : Nat) (hj : j = (i : Int)) (ha : Sq H a xs) (h : i ≤ xs.length) (h0 : 0 < i) (q : ∀ p H', H p = none → Sq H' p (xs.drop i) → ExF [] H H' → Q (.ref p) H') : rSlU K (.ref a) (some j) none H Q := by
  subst hj
  unfold rSlU
  rcases ha with ha | ha
  · refine .inl ⟨a, xs, rfl, .inl (.inl ha), fun p hp => ?_⟩
    rw [cut_from h]
    exact q p _ hp (.inl upd_same) (ExF.new hp)
  · refine .inr (.inl ⟨a, xs, rfl, .inl (.inl ha), fun ⟨w, _⟩ => ?_, fun _ p hp => ?_⟩)
    · rw [sIx_from h] at w
      omega
    · rw [cut_from h]
      exact q p _ hp (.inr upd_same) (ExF.new hp)
/-- x[:i] of a list -/
theorem slToL {j : Int} (i : Nat) (hj : j = (i : Int)) (ha : H a = some (.lst xs)) (q : ∀ p H', H p = none → H' = upd H p (.lst (xs.take i)) → Q (.ref p) H') : rSlU K (.ref a) none (some j) H Q := by
  subst hj
  unfold rSlU
  refine .inl ⟨a, xs, rfl, .inl (.inl ha), fun p hp => ?_⟩
  rw [cut_to]
  exact q p _ hp rfl
/-- x[i:] of a list -/
theorem slFromL {j : Int} (i : Nat) (hj : j = (i : Int)) (h : i ≤ xs.length) (ha : H a = some (.lst xs)) (q : ∀ p H', H p = none → H' = upd H p (.lst (xs.drop i)) → Q (.ref p) H') : rSlU K (.ref a) (some j) none H Q := by
  subst hj
  unfold rSlU
  refine .inl ⟨a, xs, rfl, .inl (.inl ha), fun p hp => ?_⟩
  rw [cut_from h]
  exact q p _ hp rfl
theorem slFromT {j : Int} (i : Nat) (hj : j = (i : Int)) (h : i ≤ xs.length) (h0 : 0 < i) (ha : H a = some (.tup xs)) (q : ∀ p H', H p = none → H' = upd H p (.tup (xs.drop i)) → Q (.ref p) H') : rSlU K (.ref a) (some j) none H Q := by
  subst hj
  unfold rSlU
  refine .inr (.inl ⟨a, xs, rfl, .inl (.inl ha), fun ⟨w, _⟩ => ?_, fun _ p hp => ?_⟩)
  · rw [sIx_from h] at w
    omega
  · rw [cut_from h]
    exact q p _ hp rfl
/-- the rest of a row behind its first thing -/
theorem iter_sl1 (hv : σ[i]? = some (some (.ref a))) (ha : Sq H a xs) (h : 0 < xs.length) (tM : Trk M H) : IterS M (iSeqU K (tSl (rSlU K) (tVar i) (tPart (tC (.int 1))) tNoPart)) σ H (xs.drop 1) := by
  rcases ha with ha | ha
  · exact iter_L fun Qc k => ⟨_, hv, _, rfl, slFromL 1 rfl (by omega) ha fun p H1 hp e1 => k p H1 (eqs e1) (tM.nin hp) (exn e1 hp)⟩
  · exact iter_T fun Qc k => ⟨_, hv, _, rfl, slFromT 1 rfl (by omega) (by decide) ha fun p H1 hp e1 => k p H1 (eqs e1) (tM.nin hp) (exn e1 hp)⟩
theorem extSq {l b : Addr} {ys : List V} (h : H l = some (.lst xs)) (hb : Sq H b ys) (hz : xs.length + ys.length ≤ sizeLine) (q : ∀ H', H' = upd H l (.lst (xs ++ ys)) → Q .non H') : rExtU K (.ref l) [.ref b] H Q :=
  hb.elim (fun hb => extL h hb hz q) fun hb => extT h hb hz q
theorem notInFlatT {x : V} {ys : List V} (h : H a = some (.tup ys)) (hx : flatV x = true) (hy : ys.all flatV = true) (q : Q (.bl (!inV x ys)) H) : rNotInU K x (.ref a) H Q := by
  unfold rNotInU
  exact .inr (.inr (.inr ⟨a, ys, rfl, .inr (.inl (.inl h)), hx, hy, q⟩))
theorem inFlatT {x : V} {ys : List V} (h : H a = some (.tup ys)) (hx : flatV x = true) (hy : ys.all flatV = true) (q : Q (.bl (inV x ys)) H) : rInU K x (.ref a) H Q := by
  unfold rInU
  exact .inr (.inr (.inr ⟨a, ys, rfl, .inr (.inl (.inl h)), hx, hy, q⟩))
end
end Tw
end

section
set_option Elab.async false
set_option linter.all false
set_option maxRecDepth 100000
set_option maxHeartbeats 4000000
namespace Tw
open PySem L2 PyProof.Rows

/-! ### literals -/
inductive Lt | non | bl (b : Bool) | int (i : Int) | str (s : Str) | var (k : Nat) | tup (ls : List Lt) | lst (ls : List Lt) | dct
mutual
def Lt.t : Lt → TE
  | .non => tC .non
  | .bl b => tC (.bl b)
  | .int i => tC (.int i)
  | .str s => tC (.str s)
  | .var k => tVar k
  | .tup ls => tTupU (Lt.ts ls)
  | .lst ls => tLstU (Lt.ts ls)
  | .dct => tDNewK
def Lt.ts : List Lt → TA
  | [] => tNil
  | l :: ls => tCons l.t (Lt.ts ls)
end
mutual
def Lt.d (dv : Nat → PyData) : Lt → PyData
  | .non => .none
  | .bl b => .bool b
  | .int i => .int i
  | .str s => .str s
  | .var k => dv k
  | .tup ls => .tuple (Lt.ds dv ls)
  | .lst ls => .list (Lt.ds dv ls)
  | .dct => .dict []
def Lt.ds (dv : Nat → PyData) : List Lt → List PyData
  | [] => []
  | l :: ls => l.d dv :: Lt.ds dv ls
end
mutual
def Lt.good (vs : List Nat) : Lt → Bool
  | .var k => vs.contains k
  | .tup ls => decide (ls.length ≤ 1000) && Lt.goods vs ls
  | .lst ls => decide (ls.length ≤ 1000) && Lt.goods vs ls
  | .non => true
  | .bl _ => true
  | .int _ => true
  | .str _ => true
  | .dct => true
def Lt.goods (vs : List Nat) : List Lt → Bool
  | [] => true
  | l :: ls => l.good vs && Lt.goods vs ls
end
theorem Lt.ds_len (dv : Nat → PyData) : ∀ ls : List Lt, (Lt.ds dv ls).length = ls.length
  | [] => by rw [Lt.ds]; rfl
  | l :: ls => by rw [Lt.ds, List.length_cons, List.length_cons, Lt.ds_len dv ls]
theorem Trk.eqf {F : List Addr} {H H' : Hp} {p : Addr} {o : HO} (t : Trk F H) (e : H' = upd H p o) : Trk F H' := fun a z => by rw [e]; exact upd_kept (t a z)
section
variable {σ : L2.St} {dv : Nat → PyData} {F : List Addr} {vs : List Nat}
mutual
theorem tLit : ∀ (L : Lt) {H : Hp} {Q : VK}, L.good vs = true → (∀ k, vs.contains k = true → ∃ v, σ[k]? = some (some v) ∧ Rp F H v (dv k)) → Trk F H →
    (∀ v H', ExF [] H H' → Rp F H' v (L.d dv) → Q v H') → L.t σ H Q
  | .non, H, Q, _, _, _, q => by rw [Lt.t]; exact q _ H ExF.refl (by rw [Lt.d]; exact .non)
  | .bl b, H, Q, _, _, _, q => by rw [Lt.t]; exact q _ H ExF.refl (by rw [Lt.d]; exact .bl b)
  | .int b, H, Q, _, _, _, q => by rw [Lt.t]; exact q _ H ExF.refl (by rw [Lt.d]; exact .int b)
  | .str b, H, Q, _, _, _, q => by rw [Lt.t]; exact q _ H ExF.refl (by rw [Lt.d]; exact .str b)
  | .var k, H, Q, g, hv, _, q => by
    rw [Lt.good] at g
    obtain ⟨v, h1, h2⟩ := hv k g
    rw [Lt.t]
    exact ⟨v, h1, q v H ExF.refl (by rw [Lt.d]; exact h2)⟩
  | .dct, H, Q, _, _, t, q => by
    rw [Lt.t]
    exact fun p hp => q _ _ (ExF.new hp) (by rw [Lt.d]; exact .dct (t.nin hp) upd_same)
  | .tup ls, H, Q, g, hv, t, q => by
    rw [Lt.good, Bool.and_eq_true] at g
    have hl := of_decide_eq_true g.1
    rw [Lt.t]
    refine tLits ls g.2 hv t fun xs H1 x1 r => ⟨?_, fun p H2 hp e2 => ?_⟩
    · rw [r.1, Lt.ds_len, sizeLine_eq]; omega
    · exact q _ _ (x1.trans (exn e2 hp)) (by rw [Lt.d]; exact .tuple ((t.ex x1).nin hp) (eqs e2) (r.ex (exn e2 hp)))
  | .lst ls, H, Q, g, hv, t, q => by
    rw [Lt.good, Bool.and_eq_true] at g
    have hl := of_decide_eq_true g.1
    rw [Lt.t]
    refine tLits ls g.2 hv t fun xs H1 x1 r => ⟨?_, fun p H2 hp e2 => ?_⟩
    · rw [r.1, Lt.ds_len, sizeLine_eq]; omega
    · exact q _ _ (x1.trans (exn e2 hp)) (by rw [Lt.d]; exact .list ((t.ex x1).nin hp) (eqs e2) (r.ex (exn e2 hp)))
theorem tLits : ∀ (ls : List Lt) {H : Hp} {Q : List V → Hp → Prop}, Lt.goods vs ls = true → (∀ k, vs.contains k = true → ∃ v, σ[k]? = some (some v) ∧ Rp F H v (dv k)) → Trk F H →
    (∀ xs H', ExF [] H H' → RpL F H' xs (Lt.ds dv ls) → Q xs H') → Lt.ts ls σ H Q
  | [], H, Q, _, _, _, q => by rw [Lt.ts]; exact q [] H ExF.refl (by rw [Lt.ds]; exact .nil)
  | l :: ls, H, Q, g, hv, t, q => by
    rw [Lt.goods, Bool.and_eq_true] at g
    rw [Lt.ts]
    refine tLit l g.1 hv t fun v H1 x1 r1 => ?_
    refine tLits ls g.2 (fun k hk => ?_) (t.ex x1) fun xs H2 x2 r2 => ?_
    · obtain ⟨v, h1, h2⟩ := hv k hk
      exact ⟨v, h1, h2.ex x1.of⟩
    · exact q _ _ (x1.trans x2) (by rw [Lt.ds]; exact .cons (r1.ex x2.of) r2)
end
end
theorem ltP : ∃ f : Lt → TE, f = Lt.t := ⟨Lt.t, rfl⟩
/-- a literal's reading, closed -/
noncomputable def tLt (L : Lt) : TE := Classical.choose ltP L
theorem tLt_eq (L : Lt) : tLt L = Lt.t L := by unfold tLt; rw [Classical.choose_spec ltP]
theorem pe_lt {X : Cx} {e : Expr} {L : Lt} (h : PE X e (Lt.t L)) : PE X e (tLt L) := by rw [tLt_eq]; exact h
theorem lit {σ : L2.St} (dv : Nat → PyData) (F : List Addr) (vs : List Nat) {L : Lt} {H : Hp} {Q : VK} (g : L.good vs = true) (hv : ∀ k, vs.contains k = true → ∃ v, σ[k]? = some (some v) ∧ Rp F H v (dv k)) (t : Trk F H)
    (q : ∀ v H', ExF [] H H' → Rp F H' v (L.d dv) → Q v H') : tLt L σ H Q := by rw [tLt_eq]; exact tLit L g hv t q
/-- without names -/
theorem lit0 {σ : L2.St} (F : List Addr) {L : Lt} {H : Hp} {Q : VK} (g : L.good [] = true) (t : Trk F H) (q : ∀ v H', ExF [] H H' → Rp F H' v (L.d fun _ => .none) → Q v H') : tLt L σ H Q :=
  lit (fun _ => .none) F [] g (fun k hk => by simp at hk) t q
/-! ### comprehensions with a test -/
def selD (sel : List (Bool × PyData)) : List PyData := (sel.filter (·.1)).map (·.2)
theorem selD_snoc (sel : List (Bool × PyData)) (b : Bool) (e : PyData) : selD (sel ++ [(b, e)]) = selD sel ++ if b then [e] else [] := by
  unfold selD
  rw [List.filter_append, List.map_append]
  cases b <;> rfl
theorem selD_map (p : Str → Bool) : ∀ zs : List Str, selD (zs.map fun z => (p z, PyData.str z)) = (zs.filter p).map PyData.str
  | [] => rfl
  | z :: zs => by
    have ih := selD_map p zs
    unfold selD at ih ⊢
    rw [List.map_cons, List.filter_cons, List.filter_cons]
    cases hp : p z
    · simpa [hp] using ih
    · simp only [hp, if_true]
      rw [List.map_cons, List.map_cons, ih]
section
variable {K : PySem.W.Frag} {M F : List Addr} {wi : TI} {i : Nat} {a : Addr} {xs : List V} {g : TG} {tt : TT} {te : TE} {vs : List Nat} {σ : L2.St} {H : Hp} {Q : VK}
/-- [te for x in .. if tt], both pure: data -/
theorem lcSel {k : Nat} (hi : IterS [] wi σ H xs) (sel : List (Bool × PyData)) (hl : sel.length = xs.length) (hz : xs.length < sizeLine) (hw : ∀ x, wipe ((wipe σ vs).set k (some x)) vs = wipe σ vs)
    (ht : ∀ (D : Addr) (i : Nat) (x : V) (b : Bool) (e : PyData) (H' : Hp), xs[i]? = some x → sel[i]? = some (b, e) → ExF [] H H' → H D = none → H' D ≠ none → ∀ Qc : Bool → Hp → Prop, (∀ H4, ExF [] H' H4 → Qc b H4) → tt ((wipe σ vs).set k (some x)) H' Qc)
    (hs : ∀ (D : Addr) (i : Nat) (x : V) (e : PyData) (H' : Hp), xs[i]? = some x → sel[i]? = some (true, e) → ExF [] H H' → H D = none → H' D ≠ none → ∀ Qc : VK, (∀ y H4, ExF [] H' H4 → Rp (D :: F) H4 y e → Qc y H4) → te ((wipe σ vs).set k (some x)) H' Qc)
    (hd : ∀ r ys H', H r = none → H' r = some (.lst ys) → RpL F H' ys (selD sel) → ExF [] H H' → Q (.ref r) H') : tLcU wi (gName k) tt te vs σ H Q := by
  refine lcS hi (fun H1 D i H' => ∃ acc, acc.length ≤ i ∧ H' D = some (.lst acc) ∧ RpL (D :: F) H' acc (selD (sel.take i)) ∧ ExF [D] H1 H') (fun H1 D H2 x hD e => ⟨[], Nat.le_refl _, eqs e, by simpa [selD] using RpL.nil, exn e hD⟩) (fun H1 D i H' hD ⟨_, _, _, _, x⟩ => x) ?_ ?_
  · rintro H1 D i x H' x1 hD hx ⟨acc, ha, hH, r, x2⟩
    have hi : i < xs.length := (List.getElem?_eq_some_iff.mp hx).1
    have he : sel[i]? = some sel[i] := by simp [hl, hi]
    have x3 : ExF [] H H' := x1.trans (x2.drop hD)
    have hDH : H D = none := x1.free hD
    have et : sel.take (i + 1) = sel.take i ++ [sel[i]] := by rw [List.take_succ, he]; rfl
    have n0 : H' D ≠ none := by rw [hH]; exact fun z => nomatch z
    refine ⟨hw x, ?_⟩
    refine ht D i x sel[i].1 sel[i].2 H' hx he x3 hDH n0 _ fun H4 x4 => ?_
    have h4 : H4 D = some (.lst acc) := x4.at_ _ _ (by simp) hH
    cases hb : sel[i].1 with
    | false =>
      rw [if_neg Bool.false_ne_true]
      refine ⟨acc, Nat.le_succ_of_le ha, h4, ?_, x2.trans x4.of⟩
      have e2 : sel[i] = (false, sel[i].2) := by rw [← hb]
      rw [et, e2, selD_snoc]
      simpa using r.ex x4.of
    | true =>
      rw [if_pos rfl]
      refine hs D i x sel[i].2 H4 hx (by rw [he, ← hb]) (x3.trans x4) hDH (by rw [h4]; exact fun z => nomatch z) _ fun y H5 x5 ry => ?_
      have h5 : H5 D = some (.lst acc) := x5.at_ _ _ (by simp) h4
      refine ⟨_, h5, by omega, acc ++ [y], by simp; omega, upd_same, ?_, ?_⟩
      · have e2 : sel[i] = (true, sel[i].2) := by rw [← hb]
        rw [et, e2, selD_snoc]
        have r5 : RpL (D :: F) H5 acc (selD (sel.take i)) := r.ex (x4.trans x5).of
        have mm : ExF (D :: F) H5 (upd H5 D (.lst (acc ++ [y]))) := exm rfl (.inr (by simp)) ExF.refl
        exact (r5.snoc ry).ex mm
      · exact exm rfl (.inr (by simp)) (x2.trans (x4.trans x5).of)
  · rintro H1 D H' x1 hD ⟨acc, ha, hH, r, x2⟩
    rw [← hl, List.take_length] at r
    exact hd D acc H' (x1.free hD) hH r.drop (x1.trans (x2.drop hD))
/-- [x for x in zs if tt], names -/
theorem lcFil {k : Nat} {zs : List Str} (p : Str → Bool) (hi : IterS [] wi σ H (zs.map V.str)) (hz : zs.length < sizeLine) (hk : k < σ.length) (hv : vs = [k])
    (ht : ∀ (D : Addr) (z : Str) (H' : Hp), z ∈ zs → ExF [] H H' → ∀ Qc : Bool → Hp → Prop, (∀ H4, ExF [] H' H4 → Qc (p z) H4) → tt ((wipe σ vs).set k (some (.str z))) H' Qc)
    (hd : ∀ r H', H r = none → H' r = some (.lst ((zs.filter p).map V.str)) → ExF [] H H' → Q (.ref r) H') : tLcU wi (gName k) tt (tVar k) vs σ H Q := by
  subst hv
  have hwk : ∀ x : V, ((wipe σ [k]).set k (some x))[k]? = some (some x) := fun x => by
    have e : wipe σ [k] = σ.set k none := rfl
    rw [e, List.getElem?_set_self (by rw [List.length_set]; exact hk)]
  have sel : ∀ {i : Nat} {x : V} {b : Bool} {e : PyData}, (zs.map V.str)[i]? = some x → (zs.map fun z => (p z, PyData.str z))[i]? = some (b, e) → ∃ z, z ∈ zs ∧ x = .str z ∧ b = p z ∧ e = .str z := fun {i x b e} h1 h2 => by
    rw [List.getElem?_map] at h1 h2
    cases hz : zs[i]? with
    | none => rw [hz] at h1; cases h1
    | some z =>
      rw [hz] at h1 h2
      cases h1; cases h2
      exact ⟨z, List.mem_of_getElem? hz, rfl, rfl, rfl⟩
  refine lcSel (F := []) hi (zs.map fun z => (p z, PyData.str z)) (by simp) (by simpa using hz) (fun x => ?_) ?_ ?_ ?_
  · show ((σ.set k none).set k (some x)).set k none = σ.set k none
    simp
  · intro D i x b e H' h1 h2 x1 hD hD2 Qc q
    obtain ⟨z, hm, rfl, rfl, rfl⟩ := sel h1 h2
    exact ht D z H' hm x1 Qc q
  · intro D i x e H' h1 h2 x1 hD hD2 Qc q
    obtain ⟨z, hm, rfl, _, rfl⟩ := sel h1 h2
    exact ⟨_, hwk _, q _ H' ExF.refl (.str z)⟩
  · intro r ys H' hr hy ry x
    have e : selD (zs.map fun z => (p z, PyData.str z)) = (zs.filter p).map PyData.str := by
      exact selD_map p zs
    rw [e] at ry
    rw [ry.all_str] at hy
    exact hd r H' hr hy x
end
end Tw
end

section
set_option Elab.async false
set_option linter.all false
set_option maxRecDepth 100000
set_option maxHeartbeats 4000000
namespace Tw
open PySem L2 PyProof.Rows
/-- what is never reached needs no reading -/
def tNoS : TS := fun _ _ _ => False
theorem ps_no {X : Cx} {s : Stmt} : PS X s tNoS := ⟨fun _ _ _ _ _ _ h => h.elim⟩
def tNoE : TE := fun _ _ _ => False
theorem pe_no {X : Cx} {e : Expr} : PE X e tNoE := ⟨fun _ _ _ _ _ _ h => h.elim⟩

/-- a new list of literals -/
theorem litL {σ : L2.St} (dv : Nat → PyData) (F : List Addr) (vs : List Nat) {ls : List Lt} {H : Hp} {Q : VK} (g : (Lt.lst ls).good vs = true) (hv : ∀ k, vs.contains k = true → ∃ v, σ[k]? = some (some v) ∧ Rp F H v (dv k)) (t : Trk F H)
    (q : ∀ p xs H', H p = none → H' p = some (.lst xs) → RpL (p :: F) H' xs (Lt.ds dv ls) → ExF [] H H' → Q (.ref p) H') : tLt (.lst ls) σ H Q := by
  rw [Lt.good, Bool.and_eq_true] at g
  have hl := of_decide_eq_true g.1
  rw [tLt_eq, Lt.t]
  refine tLits ls g.2 hv t fun xs H1 x1 r => ⟨?_, fun p H2 hp e2 => ?_⟩
  · rw [r.1, Lt.ds_len, sizeLine_eq]; omega
  · exact q p xs H2 (x1.free hp) (eqs e2) ((r.add hp).ex (exn e2 hp)) (x1.trans (exn e2 hp))
theorem litT {σ : L2.St} (dv : Nat → PyData) (F : List Addr) (vs : List Nat) {ls : List Lt} {H : Hp} {Q : VK} (g : (Lt.tup ls).good vs = true) (hv : ∀ k, vs.contains k = true → ∃ v, σ[k]? = some (some v) ∧ Rp F H v (dv k)) (t : Trk F H)
    (q : ∀ p xs H', H p = none → H' p = some (.tup xs) → RpL (p :: F) H' xs (Lt.ds dv ls) → ExF [] H H' → Q (.ref p) H') : tLt (.tup ls) σ H Q := by
  rw [Lt.good, Bool.and_eq_true] at g
  have hl := of_decide_eq_true g.1
  rw [tLt_eq, Lt.t]
  refine tLits ls g.2 hv t fun xs H1 x1 r => ⟨?_, fun p H2 hp e2 => ?_⟩
  · rw [r.1, Lt.ds_len, sizeLine_eq]; omega
  · exact q p xs H2 (x1.free hp) (eqs e2) ((r.add hp).ex (exn e2 hp)) (x1.trans (exn e2 hp))
theorem wkZ {K : PySem.W.Frag} {a b : Addr} {xs ys : List V} (hl : xs.length = ys.length) : L2.Walk (Itz K a b) xs.length (fun H => H a = some (.lst xs) ∧ H b = some (.lst ys)) (YPair (fun i => xs[i]?) (fun i => ys[i]?)) :=
  (walk_zip (K := K) (a := a) (b := b) (xs := xs) (ys := ys) (n := xs.length) (by omega)).mono (fun H h => ⟨.inl (.inl h.1), .inl (.inl h.2)⟩) fun _ _ _ _ _ _ y => y
theorem wkZT {K : PySem.W.Frag} {a b : Addr} {xs ys : List V} (hl : xs.length = ys.length) : L2.Walk (RZ.ItzT K a b) xs.length (fun H => H a = some (.tup xs) ∧ H b = some (.tup ys)) (YPair (fun i => xs[i]?) (fun i => ys[i]?)) := by
  refine ⟨fun i _ hi q => ?_, fun _ q => ⟨xs, ys, .inl (.inl q.1), .inl (.inl q.2), Or.inl (Nat.le_refl _)⟩, fun i H v H' _ q y => ?_⟩
  · have h2 : i < ys.length := by omega
    exact ⟨xs, ys, xs[i], ys[i], .inl (.inl q.1), .inl (.inl q.2), by simp [hi], by simp [h2]⟩
  · obtain ⟨T, x, z, h1, h2, h3, h4, h5⟩ := y
    exact ⟨T, x, z, h1, h2, h3, h4 xs (.inl (.inl q.1)), h5 ys (.inl (.inl q.2))⟩
section
variable {K : PySem.W.Frag} {te : TE} {vs : List Nat} {σ : L2.St} {H : Hp} {Q : VK} {a b : Addr} {xs ys : List V}
/-- two rows of one kind -/
def Sq2 (H : Hp) (a b : Addr) (xs ys : List V) : Prop := (H a = some (.lst xs) ∧ H b = some (.lst ys)) ∨ (H a = some (.tup xs) ∧ H b = some (.tup ys))
theorem Sq2.ex {H' : Hp} (h : Sq2 H a b xs ys) (x : ExF [] H H') : Sq2 H' a b xs ys := h.imp (fun h => ⟨x.at_ _ _ (by simp) h.1, x.at_ _ _ (by simp) h.2⟩) fun h => ⟨x.at_ _ _ (by simp) h.1, x.at_ _ _ (by simp) h.2⟩
theorem Sq2.l (h : Sq2 H a b xs ys) : Sq H a xs := h.elim (fun h => .inl h.1) fun h => .inr h.1
theorem Sq2.r (h : Sq2 H a b xs ys) : Sq H b ys := h.elim (fun h => .inl h.2) fun h => .inr h.2
/-- [te for x, y in zip(a, b)], te all True -/
theorem lcZipT {i j k l : Nat} (hi : σ[i]? = some (some (.ref a))) (hj : σ[j]? = some (some (.ref b))) (h2 : Sq2 H a b xs ys) (hl : xs.length = ys.length) (hz : xs.length < sizeLine)
    (hw : ∀ x y, wipe (((wipe σ vs).set k (some x)).set l (some y)) vs = wipe σ vs)
    (hs : ∀ (n : Nat) (x y : V) (H' : Hp), xs[n]? = some x → ys[n]? = some y → ExF [] H H' → ∀ Qc : VK, (∀ H4, ExF [] H' H4 → Qc (.bl true) H4) → te (((wipe σ vs).set k (some x)).set l (some y)) H' Qc)
    (hd : ∀ r H', H r = none → H' r = some (.lst ((List.replicate xs.length true).map V.bl)) → ExF [] H H' → Q (.ref r) H') :
    tLcU (RZ.iZipA K (tCons (tVar i) (tCons (tVar j) tNil))) (gTup K 2 (gCons (gName k) (gCons (gName l) gNil))) tYes te vs σ H Q := by
  have body : ∀ (D : Addr), H D = none → ∀ (n : Nat) (v : V) (H' H'' : Hp), n < xs.length → (H' D = some (.lst ((List.replicate n true).map V.bl)) ∧ ExF [D] H H') → YPair (fun i => xs[i]?) (fun i => ys[i]?) n H' v H'' →
      gTup K 2 (gCons (gName k) (gCons (gName l) gNil)) v (wipe σ vs) H'' fun σ2 H2 => wipe σ2 vs = wipe σ vs ∧ tYes σ2 H2 fun b H3 =>
        if b = true then te σ2 H3 fun y H4 => ∃ acc, H4 D = some (.lst acc) ∧ acc.length < sizeLine ∧ (fun n H' => H' D = some (.lst ((List.replicate n true).map V.bl)) ∧ ExF [D] H H') (n + 1) (upd H4 D (.lst (acc ++ [y]))) else (fun n H' => H' D = some (.lst ((List.replicate n true).map V.bl)) ∧ ExF [D] H H') (n + 1) H3 := by
    rintro D hD n v H' H'' hn ⟨hH, x2⟩ ⟨T, x, y, rfl, hT, rfl, ex, ey⟩
    refine ⟨T, _, rfl, .inl (.inl upd_same), rfl, _, _, rfl, _, _, rfl, rfl, hw x y, ?_⟩
    unfold tYes
    dsimp only
    rw [if_pos rfl]
    have x3 : ExF [] H' (upd H' T (.tup [x, y])) := ExF.new hT
    refine hs n x y _ ex ey ((x2.drop hD).trans x3) _ fun H4 x4 => ?_
    refine ⟨_, (x3.trans x4).at_ _ _ (by simp) hH, by rw [List.length_map, List.length_replicate]; omega, ?_, ?_⟩
    · rw [upd_same, List.replicate_succ', List.map_append]
      rfl
    · exact exm rfl (.inr (by simp)) (x2.trans (x3.trans x4).of)
  unfold tLcU
  refine ⟨_, hi, _, hj, a, b, xs, ys, rfl, ?_⟩
  rcases h2 with h | h
  · exact .inl ⟨.inl (.inl h.1), .inl (.inl h.2), fun D hD => lc_it (wkZ hl) (fun n H' => H' D = some (.lst ((List.replicate n true).map V.bl)) ∧ ExF [D] H H') ⟨upd_same, exn rfl hD⟩
      (fun n H' _ p => ⟨p.2.at_ _ _ (by intro z; rw [← List.mem_singleton.mp z, h.1] at hD; cases hD) h.1, p.2.at_ _ _ (by intro z; rw [← List.mem_singleton.mp z, h.2] at hD; cases hD) h.2⟩)
      (fun n v H' H'' hn p y => body D hD n v H' H'' hn p y) fun H' p => hd D H' hD p.1 (p.2.drop hD)⟩
  · exact .inr ⟨.inl (.inl h.1), .inl (.inl h.2), fun D hD => lc_it (wkZT hl) (fun n H' => H' D = some (.lst ((List.replicate n true).map V.bl)) ∧ ExF [D] H H') ⟨upd_same, exn rfl hD⟩
      (fun n H' _ p => ⟨p.2.at_ _ _ (by intro z; rw [← List.mem_singleton.mp z, h.1] at hD; cases hD) h.1, p.2.at_ _ _ (by intro z; rw [← List.mem_singleton.mp z, h.2] at hD; cases hD) h.2⟩)
      (fun n v H' H'' hn p y => body D hD n v H' H'' hn p y) fun H' p => hd D H' hD p.1 (p.2.drop hD)⟩
end
end Tw
end

section
set_option Elab.async false
set_option linter.all false
set_option maxRecDepth 100000
set_option maxHeartbeats 4000000
namespace Tw
open PySem L2 PyProof.Rows

/-! ### repr of a row: what the list or the tuple shows, where no repr is under way -/
@[irreducible] def rRepr (K : PySem.W.Frag) : List V → Hp → VK → Prop := fun xs H Q => ∃ (a : Addr) (d : PyData), xs = [.ref a] ∧ Dp K H (.ref a) d ∧ d.showable = true ∧ d.hasDict = false ∧ d.depth ≤ 64 ∧ d.shown.length ≤ sizeLine ∧ Q (.str d.shown) H
theorem call_repr {X : Cx} (hg : X.A.guards = some []) (hu : X.A.units + 65 < cLine) : CallR X (.builtin "repr") (rRepr X.K) := by
  intro pins s σ H xs us Q I r h
  unfold rRepr at h
  obtain ⟨a, d, rfl, hd, hs, hn, hdep, hz, q⟩ := h
  obtain ⟨u, rfl, ru⟩ := r.one
  obtain ⟨as, hr⟩ := Dp.reads I d _ u hd ru
  cases ru
  refine repr_of_reads' hr hs (fun h => absurd h (by rw [hn]; exact Bool.false_ne_true)) hg (by omega) (fun _ _ h => h) (fun h' u tk hk => ?_) hz
  exact ⟨.str _, H, I.kept hk, ⟨_, rfl⟩, q⟩

/-! ### an instance's own == and the != that comes of it -/
structure OwnE (K : PySem.W.Frag) (C f : Addr) : Prop where
  hs : PySem.W.findIn K (.ref C) "__eq__" = some (some (.ref f))
  hf : PySem.W.isFn K (.ref f) = true
  hn : PySem.W.findIn K (.ref C) "__ne__" = some (some (.builtin "object.__ne__"))
  hm : PySem.W.mroIn K C (.type "object") = some true
theorem ifBound_objNe {M : Model} {A : Around} {E : Value → Shared → Prop} {s : Shared} {K : PySem.W.Frag} {x C : Addr} {ox : Obj} {od : Option Obj} {args : List Value} {Q : Option Value → Shared → Prop} (X : K.In s.heap) (I : PySem.W.InstAt s.heap x ox C od)
    (hs : PySem.W.findIn K (.ref C) "__ne__" = some (some (.builtin "object.__ne__"))) (h : wpAny M A (call (.builtin "object.__ne__") (.ref x :: args)) (fun v => Q (some v)) E s) : wpAny M A (callSpecialIfBound? (.ref x) "__ne__" args) Q E s := by
  simp only [callSpecialIfBound?, bindSpecialIfBound?]
  refine wpAny_holding (wpAny_bind (wpAny_bind (wpAny_bind (I.type.here ((PySem.W.looks_findIn X hs).here ?_)))))
  refine wpAny_bind (wpAny_askSetting (wpAny_ite ?_))
  have fin : wpAny M A (call (.builtin "object.__ne__") ([.ref x] ++ args) >>= fun v => pure (some v)) Q E s := wpAny_bind (wpAny_mono h (fun v s' h' => wpAny_pure h') fun _ _ h' => h')
  split
  · exact wpAny_bind (wpAny_of_eq (PySem.F.cmp_object.ne.bind _) (wpAny_pure (by exact fin)))
  · exact wpAny_tryCatch (wpAny_bind (wpAny_of_eq (PySem.F.cmp_object.ne.bind _) (wpAny_pure (by exact fin))))
/-- what stands on the right: such an instance, a list, a tuple -/
def RightOk (H : Hp) (C : Addr) (y : V) : Prop := ∃ b, y = .ref b ∧ ((∃ dx fs, H b = some (.ins C dx fs)) ∨ (∃ xs, H b = some (.lst xs)) ∨ ∃ xs, H b = some (.tup xs))
theorem sub_seq {K : PySem.W.Frag} {C : Addr} {T : String} (h : T = "list" ∨ T = "tuple") : PySem.W.subIn K (.type T) (.ref C) = some false := by
  rcases h with h | h <;> subst h
  · have e : fastBuiltinMro "list" = some [.type "list", .type "object"] := by decide +kernel
    show (fastBuiltinMro "list").map (·.contains (.ref C)) = some false
    rw [e]
    simp
  · have e : fastBuiltinMro "tuple" = some [.type "tuple", .type "object"] := by decide +kernel
    show (fastBuiltinMro "tuple").map (·.contains (.ref C)) = some false
    rw [e]
    simp
section
variable {X : Cx} {pins : List (Addr × Obj)} {σ : L2.St} {H : Hp} {s : Shared} {C f : Addr}
theorem right_looks (I : Inv X pins σ H s) {b : Addr} (h : RightOk H C (.ref b)) : ∃ tb, PySem.W.Looks (model X.prog X.w) s.heap (typeOf (.ref b)) tb ∧ PySem.W.notFirst X.K C tb = true := by
  obtain ⟨_, e, h⟩ := h
  cases e
  rcases h with ⟨dx, fs, h⟩ | ⟨xs, h⟩ | ⟨xs, h⟩
  · obtain ⟨m, J, _⟩ := ins_get I.hok h
    obtain ⟨od, J, _⟩ := J.look
    exact ⟨_, J.type, by simp [PySem.W.notFirst]⟩
  · obtain ⟨its, n, _, e, _⟩ := I.lst h
    refine ⟨.type "list", fun A Q E s k q => wpAny_typeOf_ref (k _ _ e) q, ?_⟩
    unfold PySem.W.notFirst
    rw [sub_seq (.inl rfl)]
    simp
  · obtain ⟨its, _, ⟨o, e, hc, _⟩, _⟩ := I.tuple (.inl (.inl h))
    refine ⟨.type "tuple", fun A Q E s k q => wpAny_typeOf_ref (k _ _ e) (by rw [hc]; exact q), ?_⟩
    unfold PySem.W.notFirst
    rw [sub_seq (.inr rfl)]
    simp
/-- the call of the text's __eq__, somewhere below the running body -/
theorem run_eq {CX : CXT} {fd : FuncData} {ps : List Str} {sp : Sp} {n : Nat} (Fd : FnOk X.prog X.w X.K X.mg X.base CX n f fd ps sp) (hb : Binds X.K fd ps []) (hx : Passes CX X E0) {A : Around} (hr : Room n A) (fr : A.frames = X.A.frames)
    (I : Inv X pins σ H s) {x y : V} {u v : Value} (rx : RelV x u) (ry : RelV y v) {Q : VK} (h : sp [x, y] H Q E0) :
    wpAny (model X.prog X.w) A (call (.ref f) [u, v]) (EP X pins σ Q) X.xe s := by
  have e0 : Env0 X.prog X.w X.K X.mg X.base A X.stack s H := by
    have e := I.env0
    exact ⟨by rw [fr]; exact e.frames, e.mod, e.bs, e.bsz, e.funs, e.frf, e.hok, e.bare⟩
  have hl := Fd.len _ _ _ _ h
  have r2 : Vals [x, y] [u, v] := .cons rx (.cons ry .nil)
  refine wpAny_call (codeAny_mono (Fd.run A X.stack s H ⟨[u, v], []⟩ [u, v] [x, y] _ E0 hr e0 (by
    have := hb s [u, v] I.kIn (by simpa using hl)
    simpa using this) r2 h) fun r s' hq => ?_)
  cases r with
  | error e => exact hx pins σ H s e s' I hq
  | ok fl =>
    cases fl with
    | ret w => exact I.after hq
    | next => exact False.elim hq
    | brk => exact False.elim hq
    | cont => exact False.elim hq
end
/-- x == y, x an instance with an own == that keeps sp -/
def rEqOwn (C : Addr) (sp : Sp) : R2 := fun x y H Q => ∃ a dx fs, x = .ref a ∧ H a = some (.ins C dx fs) ∧ RightOk H C y ∧ sp [x, y] H (fun v H' => ∃ b, v = .bl b ∧ Q (.bl b) H') E0
def rNeOwn (C : Addr) (sp : Sp) : R2 := fun x y H Q => ∃ a dx fs, x = .ref a ∧ H a = some (.ins C dx fs) ∧ RightOk H C y ∧ sp [x, y] H (fun v H' => ∃ b, v = .bl b ∧ Q (.bl (!b)) H') E0
section
variable {X : Cx} {C f : Addr} {CX : CXT} {fd : FuncData} {ps : List Str} {sp : Sp} {n : Nat}
theorem op_eqOwn (O : OwnE X.K C f) (Fd : FnOk X.prog X.w X.K X.mg X.base CX n f fd ps sp) (hb : Binds X.K fd ps []) (hx : Passes CX X E0) (hr : Room n X.A) : OpR X (compareOp .Eq) (rEqOwn C sp) := by
  intro pins s σ H x y u v Q I rx ry h
  obtain ⟨a, dx, fs, rfl, ha, hR, h⟩ := h
  obtain ⟨b, rfl, _⟩ := id hR
  cases rx
  cases ry
  obtain ⟨mA, J, _⟩ := ins_get I.hok ha
  obtain ⟨od, J, _⟩ := J.look
  obtain ⟨m, hF⟩ := I.fr
  obtain ⟨tb, L, hn⟩ := right_looks I hR
  show wpAny (model X.prog X.w) X.A (richCompare .Eq (.ref a) (.ref b)) (EP X pins σ Q) X.xe s
  refine PySem.W.cmp_K (op := .Eq) (tb := tb) hr.units0 hF I.ok.mod.kin J L hn O.hs O.hf ?_
  refine wpAny_mono (run_eq (x := .ref a) (y := .ref b) Fd hb hx hr rfl I rfl rfl h) (fun w s' hq => ?_) fun _ _ e => e
  obtain ⟨z, H', I', rz, b', rfl, q⟩ := hq
  cases rz
  exact ⟨.bl b', H', I', rfl, q⟩
theorem op_neOwn (O : OwnE X.K C f) (Fd : FnOk X.prog X.w X.K X.mg X.base CX n f fd ps sp) (hb : Binds X.K fd ps []) (hx : Passes CX X E0) (hr : Room (n + 1) X.A) : OpR X (compareOp .NotEq) (rNeOwn C sp) := by
  intro pins s σ H x y u v Q I rx ry h
  obtain ⟨a, dx, fs, rfl, ha, hR, h⟩ := h
  obtain ⟨b, rfl, _⟩ := id hR
  cases rx
  cases ry
  obtain ⟨mA, J, _⟩ := ins_get I.hok ha
  obtain ⟨od, J, _⟩ := J.look
  obtain ⟨tb, L, hn⟩ := right_looks I hR
  have Xk := I.kIn
  -- the base's __ne__: asks __eq__, turns the answer
  have inner : wpAny (model X.prog X.w) X.A (call (.builtin "object.__ne__") [.ref a, .ref b]) (fun w s' => ∃ b', w = .bool b' ∧ EP X pins σ Q (.bool b') s') X.xe s := by
    refine wpAny_call (codeAny_call_builtin F.cmp_object.ne.plain F.cmpEntry_ne (PySem.W.check_slot F.cmpKind_ne F.cmpSplit_ne (J.type.andThen (PySem.W.looks_mroIn Xk O.hm)) (F.cmpArgs_ne _ _) ?_))
    unfold Builtin.«object.__ne__»
    have hu : X.A.in1.units < cLine := hr.in1.units0
    repeat (first
      | with_reducible refine wpAny_cRoomFor hu ?_
      | (refine wpAny_bind (m := callSpecialIfBound? (.ref a) (Str.ofString "__eq__") [.ref b])
          (PySem.W.ifBound_K Xk J O.hs O.hf (wpAny_mono (run_eq (A := X.A.in1) Fd hb hx hr.in1 rfl I (x := .ref a) (y := .ref b) rfl rfl h) (fun r s' hr' => by
            obtain ⟨z, H', I', rz, b', rfl, q⟩ := hr'
            cases rz
            repeat (first | exact ⟨_, rfl, .bl (!b'), H', I', rfl, q⟩ | refine wpAny_pure ?_ | refine wpAny_truthy_bool ?_ | (refine wpAny_bind (m := truthy (.bool _)) (wpAny_truthy_bool ?_)) | wp_step)) fun _ _ e => e)))
      | wp_step)
  show wpAny (model X.prog X.w) X.A (richCompare .NotEq (.ref a) (.ref b)) (EP X pins σ Q) X.xe s
  have one : wpAny (model X.prog X.w) X.A (tryCompare (.ref a) (cmpInfo .NotEq).2.1 (.ref b)) (fun r s' => ∃ v, r = some v ∧ EP X pins σ Q v s') X.xe s := by
    unfold tryCompare
    refine wpAny_bind (ifBound_objNe Xk J O.hn (wpAny_mono inner (fun w s' hq => ?_) fun _ _ e => e))
    obtain ⟨b', rfl, q⟩ := hq
    exact wpAny_pure ⟨_, rfl, q⟩
  unfold richCompare
  simp only [oneThing_ref]
  refine wpAny_holding (wpAny_bind (wpAny_cRoomFor hr.units0 ?_))
  refine wpAny_bind (J.type.here (wpAny_bind (L.here ?_)))
  split
  · rename_i q
    have e : PySem.W.subIn X.K tb (.ref C) = some false := by
      rcases Bool.or_eq_true_iff.mp hn with e | e
      · rw [beq_iff_eq.mp e] at q; simp at q
      · exact beq_iff_eq.mp e
    refine wpAny_bind ((PySem.W.looks_subIn Xk e).here ?_)
    simp only [Bool.false_eq_true, if_false]
    refine wpAny_bind (wpAny_mono one (fun r s' z => ?_) fun _ _ e => e)
    obtain ⟨v, rfl, hq⟩ := z
    exact wpAny_pure hq
  · refine wpAny_bind (wpAny_pure ?_)
    simp only [Bool.false_eq_true, if_false]
    refine wpAny_bind (wpAny_mono one (fun r s' z => ?_) fun _ _ e => e)
    obtain ⟨v, rfl, hq⟩ := z
    exact wpAny_pure hq
end
/-! ### C(e, ..) in a try: what its __init__ lets out is taken at the slots -/
def tMakeS (C : Addr) (sp : Sp) (E : L2.St → XK) (t : TA) : TE := fun σ H Q => t σ H fun vs H1 => ∀ x dx, H1 x = none → H1 dx = none → dx ≠ x →
  sp (.ref x :: vs) (upd (upd H1 dx (.own x)) x (.ins C dx [])) (fun v H2 => v = .non ∧ Q (.ref x) H2) (E σ)
section
variable {X : Cx} {CX : CXT} {k : Nat} {f C : Addr} {fd : FuncData} {ps : List Str} {sp : Sp} {E : L2.St → XK} {x : Str} {p pos : Pos} {e : Expr} {es : List Expr} {t : TA}
theorem pe_makeS (M : Mk X.K C f) (Fd : FnOk X.prog X.w X.K X.mg X.base CX k f fd ps sp) (hr : Room (k + 1) X.A) (hg : Gl X x) (hm : X.mg x = some (.ref C)) (hb : Binds X.K fd ps []) (hx : ∀ σ, PassesAt CX X σ (E σ))
    (ha : PA X (e :: es) t) (hdb : (x == ("__debug__" : Str)) = false := by decide) (he : starEach (e :: es) X.env = (false, eval e X.env) :: starEach es X.env := by rfl) (hpl : (backTo pos (starEach es X.env)).any (·.1) = false := by rfl) :
    PE X (.Call (.Name x p) (e :: es) [] pos) (tMakeS C sp E t) := by
  refine ⟨fun pins s σ H Q I h => ?_⟩
  refine wpAny_Call_Name_kw (ld_glob I hg hm ?_ hdb)
  refine PySem.W.callWith_K (h₀ := X.base) I.ok.mod.kin M.kp (thn (ha.run pos pins s σ H _ I h) fun us s1 ⟨vs, H1, I1, r, q⟩ => ⟨I1.kIn, ?_⟩) he hpl
  have hq := q (s1.heap.objs.size + 1) s1.heap.objs.size (I1.hok.fresh (Nat.le_succ _)) (I1.hok.fresh (Nat.le_refl _)) (Nat.ne_of_lt (Nat.lt_succ_self _))
  have I2 := Inv.made (C := C) I1
  have r2 : Vals (V.ref (s1.heap.objs.size + 1) :: vs) (Value.ref (s1.heap.objs.size + 1) :: us) := .cons rfl r
  have hl : (Value.ref (s1.heap.objs.size + 1) :: us).length = ps.length := by rw [← r2.length]; exact Fd.len _ _ _ _ hq
  have b := hb _ (Value.ref (s1.heap.objs.size + 1) :: us) I2.kIn (by rw [List.append_nil]; exact hl)
  rw [List.append_nil] at b
  refine wpAny_call (make_map (f := f) I1.kIn M.makes M.init (beq_iff_eq.mp M.fn) (codeAny_mono (Fd.run _ X.stack _ _ ⟨Value.ref (s1.heap.objs.size + 1) :: us, []⟩ _ _ _ (E σ) (hr.make C us []) (I2.env0.make C us []) b r2 hq) fun r s' hq' => ?_))
  cases r with
  | error e => exact hx σ pins _ _ e s' I2 hq'
  | ok fl =>
    cases fl with
    | ret u =>
      obtain ⟨v, H', I3, rv, ev, q3⟩ := I2.after hq'
      subst ev
      exact ⟨rv, ⟨V.ref (s1.heap.objs.size + 1), H', I3, rfl, q3⟩⟩
    | next => exact False.elim hq'
    | brk => exact False.elim hq'
    | cont => exact False.elim hq'
end
/-! ### defs called where no repr is under way -/
structure FnG (P : Program) (w : World) (K : PySem.W.Frag) (mg : Str → Option Value) (base : Heap) (k : Nat) (f : Addr) (ps : List Str) (sp : Sp) : Prop where
  len : ∀ vs H Q E, sp vs H Q E → vs.length = ps.length
  run : ∀ (A : Around) (outer : List Env) (s : Shared) (H : Hp) (us : List Value) (vs : List V) (Q : VK) (E : XK), A.guards = some [] → Room k A → Env0 P w K mg base A outer s H → Vals vs us → sp vs H Q E →
    codeAny (model P w) A (.call (.ref f) ⟨us, []⟩) (CR CX0 outer P w H s Q E) s
/-- a def by its body, no repr under way -/
theorem Fun.okG {P : Program} {w : World} {K : PySem.W.Frag} {mg : Str → Option Value} {base : Heap} {x qual : Str} {st : Stmt} {f : Addr} {fd : FuncData} {N ps : List Str} {k : Nat} {sp : Sp} (Fd : Fun K x qual st f fd) (S : FnScope N ps (defScope st)) (b : Binds K fd ps []) (len : ∀ vs H Q E, sp vs H Q E → vs.length = ps.length)
    (hbody : ∀ (cdv : Value) (A : Around) (outer : List Env) (s : Shared) (H : Hp) (vs : List V) (Q : VK) (E : XK), A.guards = some [] → Room k (A.deeper (envOfC qual (defScope st) s.heap.objs.size f cdv)) → sp vs H Q E →
      ∃ t, PSs (cxOf CX0 P w K mg base N qual (defScope st) f cdv A outer s H E).nox (defBody st) t ∧ t { nx := fun _ H' => Q .non H', rt := Q } (start N vs) H) : FnG P w K mg base (k + 1) f ps sp := by
  obtain ⟨oc, od, kV, doc, pm, an, cdv, ct, osl, rfl, lk, hcd⟩ := Fd.ex
  refine ⟨len, fun A outer s H us vs Q E hg hr e0 r hsp => ?_⟩
  have hl := len _ _ _ _ hsp
  have hul : us.length = ps.length := by rw [← r.length]; exact hl
  have KX : K.In s.heap := e0.mod.kin.keeps fun b o e => (e0.bs b o e).1
  have bb := b s us KX (by rw [List.append_nil]; exact hul)
  rw [List.append_nil] at bb
  have lim : s.heap.NoLimit := e0.mod.nolimit.keeps fun b o e => (e0.bs b o e).1
  have hkind : ∀ y ∈ ps.zip us, (defScope st).names.lookup y.1 = some .local ∨ ((defScope st).names.lookup y.1 = some .cell ∧ ((cellsFrom (s.heap.objs.size + 1) (defScope st).names []).lookup y.1).isSome = true) := fun ⟨n, v⟩ hy =>
    (S.par n (List.of_mem_zip hy).1).imp id fun q => ⟨q, PySem.W.cellsFrom_some _ _ _ (.inl q)⟩
  refine codeAny_call_function hr.depth (KX _ _ lk) rfl S.co S.gen rfl (PySem.W.codeRec_of KX hcd) (bb _ _ _ _ ?_)
  refine wpAny_newFunctionEnv_cells S.kind hkind fun env he s1 y => ?_
  subst he
  refine ⟨lim.keeps y.toInCall.keep, codeAny_func ?_⟩
  obtain ⟨t, ht, hq⟩ := hbody cdv A outer s H vs Q E hg (hr.deeper _) hsp
  refine wpAny_mono (ht.nox.run [] s1 (start N vs) H _ (inv_start S hr.hd e0 hl r y) hq) (fun fl s' hs => ?_) fun e s' hs => hs
  cases fl with
  | ret u =>
    obtain ⟨v, σ', H', J, rv, q⟩ := hs
    exact ⟨v, H', J.os, J.bare, J.base, J.hok, rv, q⟩
  | next =>
    obtain ⟨σ', H', J, q⟩ := hs
    exact ⟨V.non, H', J.os, J.bare, J.base, J.hok, rfl, q⟩
  | brk =>
    obtain ⟨_, _, _, q⟩ := hs
    exact False.elim q
  | cont =>
    obtain ⟨_, _, _, q⟩ := hs
    exact False.elim q
/-- such a def by its name -/
structure CalG (P : Program) (w : World) (K : PySem.W.Frag) (mg : Str → Option Value) (base : Heap) (k : Nat) (x : Str) (sp : Sp) : Prop where
  ex : ∃ (f : Addr) (ps : List Str), FnG P w K mg base k f ps sp ∧ mg x = some (.ref f) ∧ PySem.W.keepIn K (.ref f) = true
theorem pe_cG {X : Cx} {x : Str} {sp : Sp} {j k : Nat} {e : Expr} {es : List Expr} {t : TA} {p pos : Pos} (c : CalG X.prog X.w X.K X.mg X.base k x sp) (hg' : X.A.guards = some []) (hr : Room j X.A) (hk : k ≤ j) (hg : Gl X x) (ha : PA X (e :: es) t)
    (hdb : (x == ("__debug__" : Str)) = false := by decide) (he : starEach (e :: es) X.env = (false, eval e X.env) :: starEach es X.env := by rfl) (hpl : (backTo pos (starEach es X.env)).any (·.1) = false := by rfl) :
    PE X (.Call (.Name x p) (e :: es) [] pos) (tCall sp [] E0 t) := by
  obtain ⟨f, ps, Fd, hm, kp⟩ := c.ex
  refine ⟨fun pins s σ H Q I h => ?_⟩
  refine wpAny_Call_Name_kw (ld_glob I hg hm ?_ hdb)
  refine PySem.W.callWith_K (h₀ := X.base) I.ok.mod.kin kp (thn (ha.run pos pins s σ H _ I h) fun us s1 ⟨vs, H1, I1, r, q⟩ => ⟨I1.kIn, ?_⟩) he hpl
  have q : sp (vs ++ []) H1 Q E0 := q
  rw [List.append_nil] at q
  refine wpAny_call (codeAny_mono (Fd.run X.A X.stack s1 H1 us vs Q E0 hg' (hr.mono hk) I1.env0 r q) fun r s' hq => ?_)
  cases r with
  | error e => exact pass0 pins σ H1 s1 e s' I1 hq
  | ok fl =>
    cases fl with
    | ret u => exact I1.after hq
    | next => exact False.elim hq
    | brk => exact False.elim hq
    | cont => exact False.elim hq

/-! ### own errors with an __init__ of their own -/
structure OwnErr (P : Program) (w : World) (K : PySem.W.Frag) (mg : Str → Option Value) (base : Heap) (k : Nat) (x : Str) (C : Addr) (sp : Sp) : Prop where
  oex : OexC K C
  ex : ∃ (fI : Addr) (fd : FuncData) (ps : List Str), PySem.W.findIn K (.ref C) "__init__" = some (some (.ref fI)) ∧ PySem.W.typeIn K (.ref fI) = some (.type "function") ∧ FnOk P w K mg base CX0 k fI fd ps sp ∧ Binds K fd ps []
  gC : mg x = some (.ref C)
def tRaise (E : XK) (t : L2.St → Hp → XK → Prop) : TS := fun _ σ H => t σ H E
theorem ps_rz {X : Cx} {x : Str} {C : Addr} {sp : Sp} {j k : Nat} {E : XK} {e : Expr} {es : List Expr} {ta : TA} {p pos pos2 : Pos} (B : OwnErr X.prog X.w X.K X.mg X.base k x C sp) (hc : X.calm = true) (hr : Room j X.A) (hk : k + 1 ≤ j) (tk : Takes X (fun cls d _ H => E cls d H)) (hg : Gl X x) (ha : PA X (e :: es) ta)
    (hdb : (x == ("__debug__" : Str)) = false := by decide) (he : starEach (e :: es) X.env = (false, eval e X.env) :: starEach es X.env := by rfl) (hpl : (backTo pos (starEach es X.env)).any (·.1) = false := by rfl) :
    PS X (.Raise (some (.Call (.Name x p) (e :: es) [] pos)) none pos2) (tRaise E (tMkO C sp [] ta)) := by
  obtain ⟨fI, fd, ps, iC, tI, Fd, hb⟩ := B.ex
  exact ps_raise hc tk (pmk_oex B.oex iC tI Fd (hr.mono hk) hb .nil pass0 hg B.gC ha hdb he hpl)
/-- C(v): the field set by an __init__ that does no more -/
def spOneF (f : Str) (C : Addr) : Sp := fun vs H Q _ => ∃ (a : Addr) (v : V), vs = [.ref a, v] ∧ H a = some (exo a C none) ∧ ∀ dx, H dx = none → dx ≠ a → Q .non (upd (upd H dx (exd dx [(f, v)])) a (exo a C (some dx)))
theorem mkOne {C : Addr} {f : Str} {ta : TA} {σ : L2.St} {H : Hp} {Q : XK} (h : ta σ H fun vs H1 => ∃ v, vs = [v] ∧ ∀ d H', H1 d = none → H' d = some (.xd [(f, v)]) → ExF [] H1 H' → Q (.ref C) (some d) H')
    (mono : ∀ {P P' : List V → Hp → Prop}, (∀ vs H, P vs H → P' vs H) → ta σ H P → ta σ H P') : tMkO C (spOneF f C) [] ta σ H Q := by
  refine mono ?_ h
  rintro vs H1 ⟨v, rfl, q⟩
  refine ⟨by simp, fun a ha => ⟨a, v, rfl, upd_same, fun dx hdx ne => ⟨rfl, dx, [(f, v)], upd_same, ?_, ?_, ?_⟩⟩⟩
  · rw [upd_ne ne, upd_same]
  · rw [upd_ne ne] at hdx; exact hdx
  · have hd1 : H1 dx = none := by rw [upd_ne ne] at hdx; exact hdx
    refine q dx _ hd1 upd_same ⟨fun b o _ hb => ?_, fun b hb => ?_⟩
    · have n1 : b ≠ dx := ne_of_none hb hd1
      have n2 : b ≠ a := ne_of_none hb ha
      rw [upd_ne n1, del_ne n2, upd_ne n2, upd_ne n1, upd_ne n2]
      exact hb
    · obtain ⟨o, ho⟩ : ∃ o, H1 b = some o := by
        cases e : H1 b with
        | none => exact absurd e hb
        | some o => exact ⟨o, rfl⟩
      have n1 : b ≠ dx := ne_of_none ho hd1
      have n2 : b ≠ a := ne_of_none ho ha
      rw [upd_ne n1, del_ne n2, upd_ne n2, upd_ne n1, upd_ne n2]
      exact hb
end Tw
end

section
set_option Elab.async false
set_option linter.all false
set_option maxRecDepth 100000
set_option maxHeartbeats 1000000
/-! A lambda that captures nothing, as a value: made, kept, called by a name that holds it. -/
namespace Tw
open PySem PySem.Spec PyProof.Rows L2 LamX NdefX
structure LF where
  qual : Str
  params : Arguments
  body : Expr
  scope : Scope
  cl : List (Str × Addr)
  c : Addr
def LamO (f : Addr) (F : LF) : HO := .ext fun h => ∃ pm ctv : Value, h.get? f = some (PySem.W.kla_obj "<lambda>" F.qual F.params F.body F.scope F.cl pm F.c ctv)
def LF.nf (F : LF) : NF := ⟨"<lambda>", F.qual, F.params, [], F.scope, F.cl, F.c⟩
theorem lamO_at {P : Program} {w : World} {H : Hp} {h : Heap} {f : Addr} {F : LF} (hok : HOk P w H h) (e : H f = some (LamO f F)) : ∃ pm ctv : Value, h.get? f = some (PySem.W.kla_obj "<lambda>" F.qual F.params F.body F.scope F.cl pm F.c ctv) := by
  obtain ⟨z, _, _⟩ := hok f _ e
  exact z
section
variable {X : Cx} {pins : List (Addr × Obj)} {σ : L2.St} {H : Hp} {s : Shared}
theorem inv_lam {F : LF} {t' : Nat} {pm ctv : Value} (I : Inv X pins σ H s) :
    Inv X pins σ (upd H s.heap.objs.size (LamO s.heap.objs.size F)) { s with heap := s.heap.push (PySem.W.kla_obj "<lambda>" F.qual F.params F.body F.scope F.cl pm F.c ctv), toks := t' } := by
  refine I.laid (a := s.heap.objs.size) (fun b u e => Heap.get?_push_of_some _ e) (Nat.le_refl _) ?_
  have e : (s.heap.push (PySem.W.kla_obj "<lambda>" F.qual F.params F.body F.scope F.cl pm F.c ctv)).get? s.heap.objs.size = some (PySem.W.kla_obj "<lambda>" F.qual F.params F.body F.scope F.cl pm F.c ctv) := Heap.get?_push_size _ rfl
  exact ⟨⟨pm, ctv, e⟩, ⟨_, e⟩, fun h1 h2 ⟨p, t, z⟩ st => ⟨p, t, st _ z⟩⟩
/-- the lambda is made: its code object is new, or found in the table -/
theorem lam_makeV {c P : Addr} {params : Arguments} {body : Expr} {scope : Scope} {pos : Pos} {E : Value → Shared → Prop} {Q : Value → Shared → Prop} (I : Inv X pins σ H s) (TB : TabB X.base X.mg c P) (hcode : X.env.code = .ref c)
    (hT : TabS H P (X.env.qual ++ "<lambda>")) (hdef : defaultsOf params X.env = ([], [])) (hfree : ∀ y ∈ scope.names, y.2 = .free → ∃ c, X.env.cells.lookup y.1 = some c)
    (h : ∀ (f c' : Addr) (H1 : Hp) (s' : Shared), Inv X pins σ H1 s' → ExF [P] H H1 → TabS H1 P (X.env.qual ++ "<lambda>") → H f = none → H1 f = some (LamO f ⟨X.env.qual ++ "<lambda>", params, body, scope, cloFrom X.env.cells scope.names [], c'⟩) → H1 c' = some (CodeO c' (X.env.qual ++ "<lambda>")) → Q (.ref f) s') :
    wpAny (model X.prog X.w) X.A (eval (.Lambda params body scope pos) X.env) Q E s := by
  obtain ⟨ps, hP, ht, ha⟩ := hT
  refine PySem.W.kla_eval hdef ?_
  have bP : s.heap.BuiltinsAt X.mg P := TB.bm.keeps I.bk
  have hP' : s.heap.get? P = some { cls := .none, data := .fields ps } := I.hok P _ hP
  cases hc : codeAmong pos ps.toList with
  | none =>
    refine PySem.W.kla_makeFunction (mg := X.mg) (c := c) (P := P) (ps := ps) (closure_ok hfree) I.ok.glob (I.mod.glob.keeps I.bk) hcode (TB.code.keeps I.bk) hP' ht hc TB.gP bP fun c' ctv h' tk hx hge hlt hrec htb => ?_
    obtain ⟨c2, oc, vs, t, e2, hoc, hd, hv⟩ := hrec
    cases e2
    have nC : H c' = none := I.hok.fresh hge
    have I1 := inv_table (t' := tk) (more := #[rawInt pos.line, rawInt pos.col, .ref c']) (h' := h') I hP (fun b o hb e => hx b o hb e) htb hge ⟨oc, vs, t, hoc, hd, hv⟩
    have hE : ∀ b o, b ≠ P → H b = some o → upd (upd H P (.tbl (ps ++ #[rawInt pos.line, rawInt pos.col, .ref c']))) c' (CodeO c' (X.env.qual ++ "<lambda>")) b = some o := fun b o n e => by
      rw [upd_ne (ne_of_none e nC), upd_ne n]
      exact e
    have eL : (ps ++ #[rawInt pos.line, rawInt pos.col, .ref c']).toList = ps.toList ++ [rawInt pos.line, rawInt pos.col, .ref c'] := by simp
    have T1 : TabS (upd (upd H P (.tbl (ps ++ #[rawInt pos.line, rawInt pos.col, .ref c']))) c' (CodeO c' (X.env.qual ++ "<lambda>"))) P (X.env.qual ++ "<lambda>") := by
      refine ⟨_, by rw [upd_ne (ne_of_none hP nC), upd_same], by rw [eL]; exact PySem.TriplesOk_snoc _ _ _ _ ht, fun p' cv hcv => ?_⟩
      rw [eL] at hcv
      rcases among_app _ ht hcv with z | z
      · obtain ⟨c0, e1, e2⟩ := ha p' cv z
        refine ⟨c0, e1, hE _ _ (fun z2 => ?_) e2⟩
        rw [z2, hP] at e2
        exact codeO_ne ps (Option.some.inj e2).symm
      · exact ⟨c', z, upd_same⟩
    have nF := I1.hok.fresh (Nat.le_refl _)
    have I2 := inv_lam (F := ⟨X.env.qual ++ "<lambda>", params, body, scope, cloFrom X.env.cells scope.names [], c'⟩) (t' := tk) (pm := (X.mg "__name__").getD .none) (ctv := ctv) I1
    refine h h'.objs.size c' _ _ I2 ⟨fun b o n e => ?_, fun b e z => e (upd_none (upd_none (upd_none z)))⟩ (T1.ext fun b o e => ?_) (I.hok.fresh (Nat.le_trans hge (Nat.le_of_lt hlt))) upd_same ?_
    · have e1 := hE b o (by simpa using n) e
      exact (upd_ne (ne_of_none e1 nF)).trans e1
    · exact (upd_ne (ne_of_none e nF)).trans e
    · exact (upd_ne (Nat.ne_of_lt hlt)).trans upd_same
  | some cv =>
    obtain ⟨c', e, hco⟩ := ha pos cv hc
    subst e
    refine PySem.W.kla_makeFunctionHit (mg := X.mg) (c := c) (P := P) (ps := ps) (closure_ok hfree) I.ok.glob (I.mod.glob.keeps I.bk) hcode (TB.code.keeps I.bk) hP' ht hc bP fun ctv h' tk hx hsz => ?_
    have I1 : Inv X pins σ H { s with heap := h', toks := tk } := I.kept hx
    have nF : H h'.objs.size = none := I1.hok.fresh (Nat.le_refl _)
    have I2 := inv_lam (F := ⟨X.env.qual ++ "<lambda>", params, body, scope, cloFrom X.env.cells scope.names [], c'⟩) (t' := tk) (pm := (X.mg "__name__").getD .none) (ctv := ctv) I1
    refine h h'.objs.size c' _ _ I2 ⟨fun b o n e => (upd_ne (ne_of_none e nF)).trans e, fun b e z => e (upd_none z)⟩ (TabS.ext ⟨ps, hP, ht, ha⟩ fun b o e => (upd_ne (ne_of_none e nF)).trans e) nF upd_same ((upd_ne (ne_of_none hco nF)).trans hco)
/-- the reading of a lambda that captures nothing -/
def tLamV (P : Addr) (q : Str) (params : Arguments) (body : Expr) (scope : Scope) : TE := fun σ H Q => TabS H P q ∧ ∀ (f c' : Addr) (H1 : Hp), ExF [P] H H1 → TabS H1 P q → H f = none → H1 f = some (LamO f ⟨q, params, body, scope, [], c'⟩) → H1 c' = some (CodeO c' q) → Q (.ref f) H1
theorem pe_lamV {c P : Addr} {q : Str} {params : Arguments} {body : Expr} {scope : Scope} {pos : Pos} (TB : TabB X.base X.mg c P) (hcode : X.env.code = .ref c) (hq : X.env.qual ++ "<lambda>" = q) (hdef : defaultsOf params X.env = ([], []) := by rfl) (hno : (scope.names.all fun y => !decide (y.2 = .free)) = true := by decide) :
    PE X (.Lambda params body scope pos) (tLamV P q params body scope) := by
  refine ⟨fun pins s σ H Q I h => ?_⟩
  obtain ⟨hT, h⟩ := h
  subst hq
  have nf : ∀ y ∈ scope.names, y.2 ≠ .free := fun y hy e => by
    have := List.all_eq_true.mp hno y hy
    rw [decide_eq_true e] at this
    cases this
  have hcl : cloFrom X.env.cells scope.names [] = [] := by
    cases e : cloFrom X.env.cells scope.names [] with
    | nil => rfl
    | cons p l =>
      obtain ⟨n, c0⟩ := p
      have hm : (n, c0) ∈ cloFrom X.env.cells scope.names [] := by rw [e]; exact List.mem_cons_self
      rcases cloFrom_mem hm with h | ⟨h1, _⟩
      · cases h
      · exact absurd rfl (nf _ h1)
  refine lam_makeV I TB hcode hT hdef (fun y hy e => absurd e (nf y hy)) fun f c' H1 s' I1 x1 T1 f0 f1 c1 => ?_
  rw [hcl] at f1
  exact ⟨.ref f, H1, I1, rfl, h f c' H1 x1 T1 f0 f1 c1⟩
end
/-! ### what it promises -/
structure LOk (P : Program) (w : World) (K : PySem.W.Frag) (mg : Str → Option Value) (base : Heap) (CX : CXT) (k : Nat) (f : Addr) (F : LF) (ps : List Str) (sp : Sp) : Prop where
  len : ∀ vs H Q E, sp vs H Q E → vs.length = ps.length
  run : ∀ (A : Around) (outer : List Env) (s : Shared) (H : Hp) (us : List Value) (vs : List V) (Q : VK) (E : XK), Room k A → Env0 P w K mg base A outer s H → H f = some (LamO f F) → H F.c = some (CodeO F.c F.qual) →
    Vals vs us → sp vs H Q E → codeAny (model P w) A (.call (.ref f) ⟨us, []⟩) (CR CX outer P w H s Q E) s
section
variable {CX : CXT} {P : Program} {w : World} {K : PySem.W.Frag} {mg : Str → Option Value} {base : Heap} {N ps : List Str} {F : LF} {f : Addr} {k j : Nat} {sp : Sp}
theorem LOk.mono (o : LOk P w K mg base CX j f F ps sp) (h : j ≤ k) : LOk P w K mg base CX k f F ps sp := ⟨o.len, fun A outer s H us vs Q E hr => o.run A outer s H us vs Q E (hr.mono h)⟩
theorem lok_of (S : NScope N ps [] F.scope) (hcl : F.cl = []) (hb : ∀ (pm ctv : Value) (us : List Value), us.length = ps.length → bindArgs (PySem.W.kla_fn "<lambda>" F.qual F.params F.body F.scope F.cl pm (.ref F.c) ctv) ⟨us, []⟩ = pure (ps.zip us)) (len : ∀ vs H Q E, sp vs H Q E → vs.length = ps.length)
    (hbody : ∀ (A : Around) (outer : List Env) (s : Shared) (H : Hp) (vs : List V) (Q : VK) (E : XK), Room k (A.deeper (envF F.nf f s.heap.objs.size)) → sp vs H Q E → ∃ te, PE (ncx CX P w K mg base N F.nf f A outer s H E) F.body te ∧ te (startF N vs []) H Q) :
    LOk P w K mg base CX (k + 1) f F ps sp := by
  refine ⟨len, fun A outer s H us vs Q E hr e0 hf hc r hsp => ?_⟩
  have hl := len _ _ _ _ hsp
  have lim : s.heap.NoLimit := e0.mod.nolimit.keeps fun b o e => (e0.bs b o e).1
  obtain ⟨pm, ctv, ho⟩ := lamO_at e0.hok hf
  refine PySem.W.kla_callFunE hr.depth ho rfl S.co S.gen rfl (codeO_at e0.hok hc) ?_
  rw [hb pm ctv us (by rw [← r.length]; exact hl)]
  refine wpAny_pure (wpAny_newFunctionEnv S.nocell (fun ⟨n, _⟩ hy => S.par n (List.of_mem_zip hy).1) (fun h₁ hns hsb => ⟨lim.fresh _ hsb, ?_⟩) S.kind)
  show codeAny _ _ (.expr F.body (envF F.nf f s.heap.objs.size)) _ _
  have kp : ∀ b o, s.heap.get? b = some o → h₁.get? b = some o := fun b o e => hsb.extBut b o (Nat.ne_of_lt (Heap.lt_size e)) (Heap.get?_push_of_some _ e)
  obtain ⟨te, ht, hq⟩ := hbody A outer s H vs Q E (hr.deeper _) hsp
  have e0' : F.nf.cl = [] := hcl
  have C : CellsAt F.nf.cl [] [] s.heap H := by
    rw [e0']
    exact { len := rfl, all := (fun y c e => by cases e), inj := (fun x y c e => by cases e), has := (fun i y e => by simp at e) }
  have I : Inv (ncx CX P w K mg base N F.nf f A outer s H E) [] (startF N vs []) H { s with heap := h₁, toks := s.toks + (ps.zip us).length } := inv_startN (F := F.nf) (ws := []) S hr.hd e0 hl r C hns kp
  refine PySem.W.kla_codeExpr (wpAny_mono (ht.run [] _ (startF N vs []) H Q I hq) (fun v s' hs => ?_) fun e s' hs => hs)
  obtain ⟨w', H', J', rv, q⟩ := hs
  exact ⟨w', H', J'.os, J'.bare, J'.base, J'.hok, rv, q⟩
end
/-- f(..), f a name that holds such a lambda -/
def tCallV (i : Nat) (S : LF → Sp → Prop) (t : TA) : TE := fun σ H Q => ∃ f F sp, σ[i]? = some (some (.ref f)) ∧ H f = some (LamO f F) ∧ S F sp ∧ t σ H fun vs H1 => H1 f = some (LamO f F) ∧ H1 F.c = some (CodeO F.c F.qual) ∧ sp vs H1 Q E0
theorem lamAt_of {X : Cx} {pins : List (Addr × Obj)} {σ : L2.St} {H : Hp} {s : Shared} {f : Addr} {F : LF} (I : Inv X pins σ H s) (e : H f = some (LamO f F)) : PySem.W.FnAt f s.heap := by
  obtain ⟨pm, ctv, ho⟩ := lamO_at I.hok e
  exact ⟨_, _, _, _, ho⟩
theorem pe_callV {X : Cx} {i j k : Nat} {x : Str} {S : LF → Sp → Prop} {e : Expr} {es : List Expr} {t : TA} {p pos : Pos} (A : ∀ f F sp, S F sp → ∃ ps, LOk X.prog X.w X.K X.mg X.base CX0 k f F ps sp) (hr : Room j X.A) (hk : k ≤ j) (hN : X.N[i]? = some x) (hv : Vis X.env.scope x) (ha : PA X (e :: es) t)
    (hd : (x == ("__debug__" : Str)) = false := by decide) (hcd : (x == ("__classdict__" : Str)) = false := by decide)
    (he : starEach (e :: es) X.env = (false, eval e X.env) :: starEach es X.env := by rfl) (hpl : (backTo pos (starEach es X.env)).any (·.1) = false := by rfl) :
    PE X (.Call (.Name x p) (e :: es) [] pos) (tCallV i S t) := by
  refine ⟨fun pins s σ H Q I h => ?_⟩
  obtain ⟨f, F, sp, hs, hf, hS, ht⟩ := h
  obtain ⟨ps, Fn⟩ := A f F sp hS
  refine wpAny_Call_Name_kw (thn ((pe_var (pos := p) hN hv hd hcd).run pins s σ H (fun v H1 => v = .ref f ∧ H1 = H) I ⟨.ref f, hs, rfl, rfl⟩) fun u s1 ⟨v, H1, I1, r1, q1⟩ => ?_)
  obtain ⟨ev, eH⟩ := q1
  subst ev
  rw [eH] at I1
  obtain rfl : u = Value.ref f := r1
  refine PySem.W.callWith_F (first := []) (lamAt_of I1 hf) (thn (ha.run pos pins s1 σ H _ I1 ht) fun us s2 ⟨vs, H2, I2, r, h1, h2, q⟩ => ⟨lamAt_of I2 h1, ?_⟩) he hpl
  show wpAny _ _ (call (.ref f) us) _ _ _
  refine wpAny_call (codeAny_mono (Fn.run X.A X.stack s2 H2 us vs Q E0 (hr.mono hk) I2.env0 h1 h2 r q) fun r s' hq => ?_)
  cases r with
  | error e => exact (show False from hq).elim
  | ok fl =>
    cases fl with
    | ret u => exact I2.after hq
    | next => exact False.elim hq
    | brk => exact False.elim hq
    | cont => exact False.elim hq
end Tw
end

section
set_option Elab.async false
set_option linter.all false
set_option maxRecDepth 100000
set_option maxHeartbeats 1000000
/-! Exceptions of own classes as values: made by place and by names, their fields, isinstance. -/
namespace Tw
open PySem PySem.Spec PyProof.Rows L2
/-- C(..), the exception a value -/
def tMkV (C : Addr) (sp : Sp) (ta : TA) : TE := fun σ H Q => ta σ H fun vs H1 => vs.length ≤ 1000 ∧ ∀ a, H1 a = none → sp (.ref a :: vs) (upd H1 a (exo a C none)) (fun v H2 => v = .non ∧ Q (.ref a) H2) E0
section
variable {X : Cx} {CX : CXT} {x f : Str} {C fI : Addr} {k : Nat} {fd : FuncData} {ps : List Str} {sp : Sp} {e : Expr} {es : List Expr} {ta : TA} {te : TE} {p pos : Pos}
theorem pe_oexV (T : OexC X.K C) (iC : PySem.W.findIn X.K (.ref C) "__init__" = some (some (.ref fI))) (tI : PySem.W.typeIn X.K (.ref fI) = some (.type "function"))
    (F1 : FnOk X.prog X.w X.K X.mg X.base CX k fI fd ps sp) (hr : Room (k + 1) X.A) (hb : Binds X.K fd ps []) (hx : Passes CX X E0) (hg : Gl X x) (hm : X.mg x = some (.ref C)) (ha : PA X (e :: es) ta)
    (hdb : (x == ("__debug__" : Str)) = false := by decide) (he : starEach (e :: es) X.env = (false, eval e X.env) :: starEach es X.env := by rfl) (hpl : (backTo pos (starEach es X.env)).any (·.1) = false := by rfl) :
    PE X (.Call (.Name x p) (e :: es) [] pos) (tMkV C sp ta) := by
  refine ⟨fun pins s σ H Q I h => ?_⟩
  obtain ⟨nm, q, N, bs, bm, sn, sub, ab, col, dd, k0, k1, k2, k3, k5, hC, hbm⟩ := T.cls
  refine wpAny_Call_Name_kw (ld_glob I hg hm ?_ hdb)
  refine PySem.W.callWith_K (h₀ := X.base) I.ok.mod.kin T.kC (thn (ha.run pos pins s σ H _ I h) fun us s1 ⟨vs, H1, I1, r1, hz, q1⟩ => ⟨I1.kIn, ?_⟩) he hpl
  show wpAny _ _ (call (.ref C) us) _ _ _
  obtain ⟨hp, g, dr, tk, os⟩ := s1
  have hsz : hp.objs.size ≤ hp.objs.size + 1 := Nat.le_succ _
  have hn : H1 (hp.objs.size + 1) = none := I1.hok.fresh hsz
  have hq := q1 (hp.objs.size + 1) hn
  have kk : ∀ b o, hp.get? b = some o → ((hp.push (PySem.W.kdv_tup us)).push (PySem.HandSPX.excO C hp.objs.size)).get? b = some o := fun b o e => Heap.get?_push_of_some _ (Heap.get?_push_of_some _ e)
  have hget : ((hp.push (PySem.W.kdv_tup us)).push (PySem.HandSPX.excO C hp.objs.size)).get? (hp.objs.size + 1) = some (PySem.HandSPX.excO C hp.objs.size) := by heap_get
  have I2 : Inv X pins σ (upd H1 (hp.objs.size + 1) (exo (hp.objs.size + 1) C none)) ⟨(hp.push (PySem.W.kdv_tup us)).push (PySem.HandSPX.excO C hp.objs.size), g, dr, tk, os⟩ :=
    I1.laid (t' := tk) (a := hp.objs.size + 1) (o := exo (hp.objs.size + 1) C none) (h' := (hp.push (PySem.W.kdv_tup us)).push (PySem.HandSPX.excO C hp.objs.size)) kk hsz (exo_ok hget)
  have r2 : Vals (V.ref (hp.objs.size + 1) :: vs) (Value.ref (hp.objs.size + 1) :: us) := .cons rfl r1
  have hl : (Value.ref (hp.objs.size + 1) :: us ++ []).length = ps.length := by
    have e := r2.length
    rw [F1.len _ _ _ _ hq] at e
    rw [List.append_nil]
    exact e.symm
  have hus : us.length ≤ sizeLine := by
    rw [← Paired.length r1, sizeLine_eq]
    omega
  have hbt := hb ⟨(hp.push (PySem.W.kdv_tup us)).push (PySem.HandSPX.excO C hp.objs.size), g, dr, tk, os⟩ (Value.ref (hp.objs.size + 1) :: us) I2.kIn hl
  rw [List.append_nil] at hbt
  refine wpAny_call (PySem.HandSPX.call_own F.excBase_ValueError (fun Y => PySem.HandSPX.refsVE_contains Y bm hbm) (I1.kIn _ _ hC) (PySem.W.looks_findIn I1.kIn iC) (fun self => PySem.W.bind_fn I1.kIn self tI) hus
    (codeAny_mono (F1.run _ X.stack _ _ ⟨Value.ref (hp.objs.size + 1) :: us, []⟩ (Value.ref (hp.objs.size + 1) :: us) _ _ E0 (hr.make C us []) (I2.env0.make C us []) hbt r2 hq) fun r s' hq' => ?_))
  cases r with
  | error er => exact hx pins σ _ _ er s' I2 hq'
  | ok fl =>
    cases fl with
    | ret u =>
      obtain ⟨v, H', I3, rv, ev, q3⟩ := I2.after hq'
      subst ev
      exact ⟨rv, ⟨V.ref (hp.objs.size + 1), H', I3, rfl, q3⟩⟩
    | next => exact False.elim hq'
    | brk => exact False.elim hq'
    | cont => exact False.elim hq'
/-! ### a field of such a value -/
def tXfV (C : Addr) (f : Str) (te : TE) : TE := fun σ H Q => te σ H fun x H1 => ∃ (a dd : Addr) (fs : List (Str × V)) (v : V), x = .ref a ∧ H1 a = some (exo a C (some dd)) ∧ H1 dd = some (exd dd fs) ∧ fs.lookup f = some v ∧ Q v H1
theorem pe_xfV {n : Str} (T : XfC X.K C) (hno : PySem.W.findIn X.K (.ref C) n = some none) (he : PE X e te) (hb : attributeBase e n X.env (eval e X.env) = eval e X.env := by rfl) : PE X (.Attribute e n pos) (tXfV C n te) := by
  refine ⟨fun pins s σ H Q I h => ?_⟩
  refine attr_of hb (thn (he.run pins s σ H _ I h) fun u s1 hh => ?_)
  obtain ⟨x, H1, I1, rx, a, dd, fs, v, ex, ea, ed, l, q⟩ := hh
  subst ex
  obtain rfl : u = Value.ref a := rx
  obtain ⟨t1, ha⟩ := exo_at I1.hok ea
  obtain ⟨mA, hns, hr⟩ := exd_at I1.hok ed
  obtain ⟨od, ho, hl⟩ := lookIn_ns hns
  obtain ⟨u, hu, ru⟩ := RelO.some_of (v := v) (o := mA n) (by rw [← l]; exact hr n)
  have J : PySem.W.InstAt s1.heap a ({ cls := .ref C, dict := some dd, data := .fields #[.ref t1, .none, .none, .none, .bool false, .none] } : Obj) C (some od) := ⟨ha, rfl, rfl, ho⟩
  exact HandSPX.exc_get I1.kIn J T.ga T.gg T.exC (PySem.W.findObj_own T.hdC hno rfl (by rw [hl, hu])) (handed_of ru) ⟨v, H1, I1.tok _, ru, q⟩
/-! ### isinstance of such a value -/
end
section
open PySem.W PySem.Calls
variable {prog : Program} {w : World} {A : Around} {E : Value → Shared → Prop} {s : Shared} {K : PySem.W.Frag} {x D : Addr} {ox : Obj} {od : Option Obj}
theorem findObj_dataO {C : Addr} {name : Str} {a g : Value} (hc : (clsIn K C).isSome = true) (ha : findIn K (.ref C) name = some (some a)) (hg : specialIn K a "__get__" = some (some g)) (ht : takesIn K a = some true) : findObj K C od name = some (.bind g a) := by
  obtain ⟨cd, hc⟩ := Option.isSome_iff_exists.mp hc
  unfold findObj
  rw [hc, Option.bind_some, ha, Option.bind_some]
  simp [hg, ht]
/-- such a value tells its class, its dict whatever -/
theorem classV {Q : Option Value → Shared → Prop} (T : ExcC K D) (X : K.In s.heap) (I : InstAt s.heap x ox D od) (h : Q (some (.ref D)) { s with toks := s.toks + 1 }) : wpAny (model prog w) A (getAttr? (.ref x) "__class__") Q E s := by
  have hf : findObj K D od "__class__" = some (.bind (.builtin "getset_descriptor.__get__") (.builtin "object.__class__")) := findObj_dataO (by obtain ⟨cd, hc, _⟩ := any_some T.hd; rw [hc]; rfl) T.ha T.hn T.ht
  obtain ⟨hp, g, d, t, os⟩ := s
  have L0 := I.type (M := model prog w)
  have L1 := looks_findIn (M := model prog w) X T.hg
  have L2 := looks_findIn (M := model prog w) X T.hk
  have L3 := looks_find (M := model prog w) X I hf
  have sub : Looks (model prog w) hp (isInstance (.ref x) (.type "BaseException")) true := L0.andThen (looks_subIn X T.hs)
  have hx0 : (false && onTheHeap (Value.builtin "BaseException.__getattribute__")) = false := rfl
  have hx2 : (Value.builtin "BaseException.__getattribute__" == Value.builtin "object.__getattribute__") = false := by decide +kernel
  have hx1 : (onTheHeap (Value.ref D) && Value.builtin "BaseException.__getattribute__" == Value.builtin "object.__getattribute__") = false := by rw [hx2]; rfl
  unfold getAttr? getAttrBy? getAttrBy
  refine wpAny_bind (wpAny_mkText (wpAny_bind (wpAny_attempt (wpAny_holding (wpAny_bind (L0.at (wpAny_bind (L1.at ?_))))))))
  show wpAny _ _ (if (onTheHeap (Value.ref D) && Value.builtin "BaseException.__getattribute__" == Value.builtin "object.__getattribute__") = true then _ else _) _ _ _
  rw [hx1, if_neg Bool.false_ne_true]
  unfold getAttrByItsOwn hookBefore
  refine wpAny_bind ?_
  rw [if_pos (show onTheHeap (Value.ref D) = true from rfl)]
  refine L2.at ?_
  refine wpAny_bind (wpAny_attempt (wpAny_holding ?_))
  unfold callGetattribute
  rw [hx0, if_neg Bool.false_ne_true]
  unfold boundAndCalled
  rw [PySem.F.excAttr_ValueError.ga.bind (.ref x)]
  refine wpAny_bind (wpAny_pure ?_)
  show wpAny _ _ (call (.builtin "BaseException.__getattribute__") [.ref x, .str "__class__" t]) _ _ _
  refine wpAny_call (codeAny_call_builtin PySem.F.excAttr_ValueError.ga.plain PySem.F.entry_bexc_ga ?_)
  refine @check_slot (model prog w) _ _ ⟨hp, g, d, t + 1, os⟩ "BaseException.__getattribute__" "BaseException" "__getattribute__" (.ref x) [.str "__class__" t] [] _ (by decide +kernel) (by decide +kernel) sub (PySem.F.args_bexc_ga (.ref x) (.str "__class__" t)) ?_
  unfold Builtin.«object.__getattribute__»
  refine wpAny_bind (wpAny_of_eq (a := ((Value.ref x : Value), [Value.str "__class__" t])) (by first | rfl | (simp only [slotArgs]; rfl)) ?_)
  refine wpAny_bind (wpAny_pure (wpAny_bind (L0.at (wpAny_bind (L3.at ?_)))))
  show wpAny _ _ (holding [Value.builtin "object.__class__"] (call (.builtin "getset_descriptor.__get__") [.builtin "object.__class__", .ref x, .ref D]) >>= ret) _ _ _
  refine wpAny_bind (wpAny_holding (wpAny_call (class_get (s := ⟨hp, g, d, t + 1, os⟩) (ox := ox) (od := od) X I T.hm ?_)))
  refine wpAny_pure ?_
  show wpAny _ _ (handedOut (.ref D)) _ _ _
  rw [handedOut_of (v := .ref D) rfl]
  first
    | exact wpAny_pure (wpAny_pure h)
    | exact wpAny_pure h
    | exact wpAny_pure (wpAny_bind (wpAny_pure (wpAny_pure h)))
theorem kitxV (T : ExcC K D) : KitX K (.ref x) (.ref D) (fun h => InstAt h x ox D od) where
  ty := fun _ _ _ I => I.type
  it := fun _ _ X _ => by
    obtain ⟨cdD, hcD, _⟩ := any_some T.hd
    unfold clsIn at hcD
    split at hcD
    · rename_i c' d' cd' sl' ho
      intro A' Q' E' s' k q
      unfold isType loadHead
      exact wpAny_bind (wpAny_loadPart (k _ _ (X _ _ ho)) (wpAny_pure q))
    · cases hcD
  ne := fun h tp dd its n sl X htp => by
    obtain ⟨cdD, hcD, _⟩ := any_some T.hd
    refine Bool.eq_false_iff.mpr fun q => ?_
    have e : D = tp := Value.ref.inj (beq_iff_eq.mp q)
    subst e
    unfold clsIn at hcD
    split at hcD
    · rename_i c' d' cd' sl' ho
      have z := (X _ _ ho).symm.trans htp
      cases z
    · cases hcD
  ca := fun X I k => classV T X I k
end
section
variable {X : Cx}
def rIsV (K : PySem.W.Frag) (XC : Addr → Prop) : List V → Hp → VK → Prop := fun xs H Q => ∃ (a D dd : Addr) (fs : List (Str × V)) (c : V) (cv : Value) (b : Bool), xs = [.ref a, c] ∧ XC D ∧ H a = some (exo a D (some dd)) ∧ H dd = some (exd dd fs) ∧ (∀ u, RelV c u → u = cv) ∧ PySem.W.kitOne K (.ref D) cv = some b ∧ Q (.bl b) H
theorem call_isV {XC : Addr → Prop} (hC : ∀ D, XC D → ExcC X.K D) : CallR X (.builtin "isinstance") (rIsV X.K XC) := by
  intro pins s σ H xs us Q I r h
  obtain ⟨a, D, dd, fs, c, cv, b, rfl, hD, ea, ed, hcv, e, q⟩ := h
  have C := hC D hD
  cases r with
  | cons rx rr =>
    cases rr with
    | cons rt rr =>
      cases rr
      cases rx
      have ec := hcv _ rt
      subst ec
      obtain ⟨t1, ha⟩ := exo_at I.hok ea
      obtain ⟨mA, hns, hr⟩ := exd_at I.hok ed
      obtain ⟨od, ho, hl⟩ := lookIn_ns hns
      have J : PySem.W.InstAt s.heap a ({ cls := .ref D, dict := some dd, data := .fields #[.ref t1, .none, .none, .none, .bool false, .none] } : Obj) D (some od) := ⟨ha, rfl, rfl, ho⟩
      exact PySem.W.kia_one (kitxV C) I.kIn J e (fun z => nomatch z) fun tk => ⟨.bl b, H, I.kept (t' := tk) fun _ _ z => z, rfl, q⟩
end
end Tw
end

section
set_option Elab.async false
set_option linter.all false
set_option maxRecDepth 100000
set_option maxHeartbeats 1000000
/-! Exceptions of own classes as values: made by the parameters' names. -/
namespace Tw
open PySem PySem.Spec PyProof.Rows L2 PySem.HandSPX
section
variable {M : Model} {A : Around} {E : Value → Shared → Prop} {h : Heap} {g : Array GenState} {d : Drawn} {t : Nat} {os : OsState}
variable {nm q : Str} {C N : Addr} {bs bm bmB : List Value} {hdct : Bool} {sn : List Str} {sub : List Value} {ab : Bool} {col : Option Bool} {dd : Option Addr} {k0 k1 k2 k3 k5 : Option Value} {B newId initId : String}
theorem check_new_kw (F : ExcBaseFacts B newId initId bmB) (hT : ∀ X : String, bm.contains (.type X) = bmB.contains (.type X)) {rest : List Value} {kw : List (Str × Value)} {Q : Unit → Shared → Prop}
    (hC : h.get? C = some (excClassObj nm q C N bs bm hdct sn sub ab col dd k0 k1 k2 k3 k5 newId)) (hq : Q () ⟨h, g, d, t, os⟩) : wpAny M A (checkBuiltinCall newId ⟨.ref C :: rest, kw⟩) Q E ⟨h, g, d, t, os⟩ := by
  have hcont : (Value.ref C :: bm).contains (.type B) = true := by rw [List.contains_cons, hT, F.hasB, Bool.or_true]
  have hstar := F.noStar
  simp only [checkBuiltinCall, F.newKind, F.newSplit, F.newRow]
  repeat (first | refine wpAny_loadPart_at hC ?_ | (refine wpAny_isSubtype_exc hC ?_; rw [hcont]) | refine wpAny_staticBase_exc hC ?_ | refine wpAny_madeBy_exc hC ?_ | simp only [bne_self_eq_false, Bool.false_eq_true, if_false] | wp_step)
  exact hq
end
section
variable {prog : Program} {w : World} {A : Around} {E : Value → Shared → Prop} {R : Result → Shared → Prop} {h : Heap} {g : Array GenState} {d : Drawn} {t : Nat} {os : OsState}
variable {nm q : Str} {C N : Addr} {bs bm bmB : List Value} {hdct : Bool} {sn : List Str} {sub : List Value} {ab : Bool} {col : Option Bool} {dd : Option Addr} {k0 k1 k2 k3 k5 : Option Value} {B newId initId : String}
theorem new_kw (F : ExcBaseFacts B newId initId bmB) (hT : ∀ X : String, bm.contains (.type X) = bmB.contains (.type X)) {rest : List Value} {kw : List (Str × Value)}
    (hC : h.get? C = some (excClassObj nm q C N bs bm hdct sn sub ab col dd k0 k1 k2 k3 k5 newId))
    (hq : R (.ok (.ret (.ref (h.objs.size + 1)))) ⟨(h.push { cls := .type "tuple", data := .seq rest.toArray }).push
      { cls := .ref C, data := .fields #[.ref h.objs.size, .none, .none, .none, .bool false, .none] }, g, d, t, os⟩) (hrest : rest.length ≤ sizeLine) :
    codeAny (model prog w) A (.builtin newId ⟨.ref C :: rest, kw⟩) R ⟨h, g, d, t, os⟩ := by
  have hends := F.ends
  have hcB : (Value.ref C :: bm).contains (.type B) = true := by rw [List.contains_cons, hT, F.hasB, Bool.or_true]
  have hcA : (Value.ref C :: bm).contains (.type "AttributeError") = false := by rw [List.contains_cons, hT, F.noAttr]; rfl
  have hcN : (Value.ref C :: bm).contains (.type "NameError") = false := by rw [List.contains_cons, hT, F.noName]; rfl
  refine PySem.codeAny_builtinAt F.entry ?_
  unfold Builtin.«BaseException.__new__»
  refine PySem.wpAt_bind ?_
  show PySem.wpAt _ _ _ (stack >>= _) _ _ _
  refine PySem.wpAt_bind (PySem.wpAt_stack fun p below => PySem.wpAt_of_wpAny ?_)
  wp_walk
  refine PySem.wpAt_of_wpAny ?_
  rw [F.owner]
  repeat (first | with_reducible refine wpAny_madeHere_exc F.canon hC ?_ | with_reducible refine wpAny_loadPart_at hC ?_ | (with_reducible refine wpAny_isSubtype_exc hC ?_; first | rw [hcB] | rw [hcA] | rw [hcN]) | wp_step)
  show R _ _
  rw [Heap.size_push]
  exact hq
theorem type_call_kw (F : ExcBaseFacts B newId initId bmB) (hT : ∀ X : String, bm.contains (.type X) = bmB.contains (.type X)) {rest : List Value} {kw : List (Str × Value)} {fI : Addr} {Q : Fin → Shared → Prop}
    (hC : h.get? C = some (excClassObj nm q C N bs bm hdct sn sub ab col dd k0 k1 k2 k3 k5 newId))
    (hi : W.Looks (model prog w) h (typeLookup (.ref C) "__init__") (some (.ref fI))) (hb : ∀ self, W.Looks (model prog w) h (bindSpecial (.ref fI) self) (.ref fI, [self])) (hrest : rest.length ≤ sizeLine)
    (hq : codeAny (model prog w) A (.call (.ref fI) ⟨.ref (h.objs.size + 1) :: rest, kw⟩)
      (fun r s' => match r with | .ok (.ret v) => v = .none ∧ Q (.done (.ret (.ref (h.objs.size + 1)))) s' | .ok _ => False | .error e => E e s')
      ⟨(h.push (W.kdv_tup rest)).push (excO C h.objs.size), g, d, t, os⟩) :
    wpAny (model prog w) A (Builtin.«type.__call__» ⟨.ref C :: rest, kw⟩) Q E ⟨h, g, d, t, os⟩ := by
  repeat (first | with_reducible refine wpAny_loadPart_at hC ?_ | with_reducible refine wpAny_madeBy_exc hC ?_ | wp_step)
  refine codeAny_call_builtin_code (Code.quiet_builtin _ F.quiet) (check_new_kw F hT hC ?_)
  refine new_kw F hT hC ?_ hrest
  show wpAny _ _ _ _ _ _
  have k : ∀ b o, h.get? b = some o → ((h.push (W.kdv_tup rest)).push (excO C h.objs.size)).get? b = some o := fun b o e => Heap.get?_push_of_some _ (Heap.get?_push_of_some _ e)
  have hC₁ := k _ _ hC
  have hget : ((h.push (W.kdv_tup rest)).push (excO C h.objs.size)).get? (h.objs.size + 1) = some (excO C h.objs.size) := by heap_get
  have hcC : (Value.ref C :: bm).contains (.ref C) = true := by simp
  have i1 := hi.keeps k
  have b1 := (hb (.ref (h.objs.size + 1))).keeps k
  unfold isInstance
  repeat (first | with_reducible refine wpAny_loadPart_at hget ?_ | (with_reducible refine wpAny_isSubtype_exc hC₁ ?_; rw [hcC]) | wp_step)
  show wpAny _ _ (typeLookup (.ref C) _) _ _ _
  refine i1.at ?_
  refine wpAny_holding (wpAny_bind (b1.at ?_))
  refine wpAny_bind (wpAny_call (codeAny_mono hq fun r s' z => ?_))
  rcases r with e | (v | _ | _ | _) <;> first | exact z | exact z.elim | skip
  obtain ⟨rfl, z⟩ := z
  first
    | exact wpAny_pure (wpAny_pure z)
    | (wp_walk; exact z)
theorem call_kw (F : ExcBaseFacts B newId initId bmB) (hT : ∀ X : String, bm.contains (.type X) = bmB.contains (.type X)) {rest : List Value} {kw : List (Str × Value)} {fI : Addr}
    (hC : h.get? C = some (excClassObj nm q C N bs bm hdct sn sub ab col dd k0 k1 k2 k3 k5 newId))
    (hi : W.Looks (model prog w) h (typeLookup (.ref C) "__init__") (some (.ref fI))) (hb : ∀ self, W.Looks (model prog w) h (bindSpecial (.ref fI) self) (.ref fI, [self])) (hrest : rest.length ≤ sizeLine)
    (hq : codeAny (model prog w) (A.under (.builtin "type.__call__" ⟨.ref C :: rest, kw⟩)) (.call (.ref fI) ⟨.ref (h.objs.size + 1) :: rest, kw⟩) (W.InitBack (h.objs.size + 1) R)
      ⟨(h.push (W.kdv_tup rest)).push (excO C h.objs.size), g, d, t, os⟩) :
    codeAny (model prog w) A (.call (.ref C) ⟨rest, kw⟩) R ⟨h, g, d, t, os⟩ := by
  have f1 := tc_lookup
  have f2 := tc_bind (.ref C)
  have hTy : (⟨h, g, d, t, os⟩ : Shared).TypeIs (.ref C) "type" := ⟨_, hC, rfl⟩
  refine codeAny_of_tree ?_
  show wpAny _ _ (callAny (.ref C) _) _ _ _
  repeat (any_goals (first | assumption | with_reducible refine wpAny_loadPart_at hC ?_ | wp_step))
  refine ⟨rfl, ?_⟩
  refine codeAny_call_builtin_at (Code.quiet_builtin _ (by decide +kernel)) entry_typeCall (wpAny_check_type_call_sub hC (type_call_kw F hT hC hi hb hrest ?_))
  refine codeAny_mono hq fun r s' z => ?_
  rcases r with e | (v | _ | _ | _) <;> exact z
end
/-- C(name=.., ..), the exception a value -/
def tMkKV (C : Addr) (sp : Sp) (gV : List V → List V → List V) (n : Nat) (ta : TA) : TE := fun σ H Q => ta σ H fun zs H1 => zs.length = n ∧ ∀ a, H1 a = none → sp (gV [.ref a] zs) (upd H1 a (exo a C none)) (fun v H2 => v = .non ∧ Q (.ref a) H2) E0
section
variable {X : Cx} {CX : CXT} {x f : Str} {C fI : Addr} {k : Nat} {fd : FuncData} {ps ks : List Str} {sp : Sp} {g : List Value → List Value → List Value} {gV : List V → List V → List V} {ta : TA} {p pos : Pos} {kws : List Keyword}
theorem pe_oexKV (T : OexC X.K C) (iC : PySem.W.findIn X.K (.ref C) "__init__" = some (some (.ref fI))) (tI : PySem.W.typeIn X.K (.ref fI) = some (.type "function"))
    (F1 : FnOk X.prog X.w X.K X.mg X.base CX k fI fd ps sp) (hr : Room (k + 1) X.A) (hb : KBn X.K fd ps 1 ks g gV) (hx : Passes CX X E0) (hg : Gl X x) (hm : X.mg x = some (.ref C)) (ha : PK X kws ta)
    (hall : (backToKw pos (keywordEach kws X.env)).all (·.1.isSome) = true := by rfl) (hks : (backToKw pos (keywordEach kws X.env)).filterMap (·.1) = ks := by rfl) (hdb : (x == ("__debug__" : Str)) = false := by decide)
    (hpl : ((backTo pos (starEach [] X.env)).any (·.1) || (backToKw pos (keywordEach kws X.env)).any (·.1.isNone)) = false := by rfl) :
    PE X (.Call (.Name x p) [] kws pos) (tMkKV C sp gV ks.length ta) := by
  refine ⟨fun pins s σ H Q I h => ?_⟩
  obtain ⟨nm, q, N, bs, bm, sn, sub, ab, col, dd, k0, k1, k2, k3, k5, hC, hbm⟩ := T.cls
  refine wpAny_Call_Name_kw (ld_glob I hg hm ?_ hdb)
  refine PySem.W.callWith_KW0 (h₀ := X.base) I.ok.mod.kin T.kC hall ?_ hpl
  refine thn (ha.run pos pins s σ H _ I h) fun ws s1 ⟨zs, H1, I1, rz, hz, q1⟩ => ⟨I1.kIn, ?_⟩
  rw [hks]
  show wpAny _ _ (call (.ref C) [] (ks.zip ws)) _ _ _
  obtain ⟨hp, gg, dr, tk, os⟩ := s1
  have hsz : hp.objs.size ≤ hp.objs.size + 1 := Nat.le_succ _
  have hn : H1 (hp.objs.size + 1) = none := I1.hok.fresh hsz
  have hq := q1 (hp.objs.size + 1) hn
  have kk : ∀ b o, hp.get? b = some o → ((hp.push (PySem.W.kdv_tup [])).push (PySem.HandSPX.excO C hp.objs.size)).get? b = some o := fun b o e => Heap.get?_push_of_some _ (Heap.get?_push_of_some _ e)
  have hget : ((hp.push (PySem.W.kdv_tup [])).push (PySem.HandSPX.excO C hp.objs.size)).get? (hp.objs.size + 1) = some (PySem.HandSPX.excO C hp.objs.size) := by heap_get
  have I2 : Inv X pins σ (upd H1 (hp.objs.size + 1) (exo (hp.objs.size + 1) C none)) ⟨(hp.push (PySem.W.kdv_tup [])).push (PySem.HandSPX.excO C hp.objs.size), gg, dr, tk, os⟩ :=
    I1.laid (t' := tk) (a := hp.objs.size + 1) (o := exo (hp.objs.size + 1) C none) (h' := (hp.push (PySem.W.kdv_tup [])).push (PySem.HandSPX.excO C hp.objs.size)) kk hsz (exo_ok hget)
  have r1 : Vals [V.ref (hp.objs.size + 1)] [Value.ref (hp.objs.size + 1)] := .cons rfl .nil
  have r2 := hb.rel r1 rz
  have e2 : ws.length = ks.length := rz.length.symm.trans hz
  refine wpAny_call (call_kw F.excBase_ValueError (fun Y => PySem.HandSPX.refsVE_contains Y bm hbm) (I1.kIn _ _ hC) (PySem.W.looks_findIn I1.kIn iC) (fun self => PySem.W.bind_fn I1.kIn self tI) (by rw [sizeLine_eq]; exact Nat.zero_le _)
    (codeAny_mono (F1.run _ X.stack _ _ ⟨[Value.ref (hp.objs.size + 1)], ks.zip ws⟩ (g [Value.ref (hp.objs.size + 1)] ws) _ _ E0 (hr.make C [] (ks.zip ws)) (I2.env0.make C [] (ks.zip ws)) (hb.to _ [Value.ref (hp.objs.size + 1)] ws I2.kIn rfl e2) r2 hq) fun r s' hq' => ?_))
  cases r with
  | error er => exact hx pins σ _ _ er s' I2 hq'
  | ok fl =>
    cases fl with
    | ret u =>
      obtain ⟨v, H', I3, rv, ev, q3⟩ := I2.after hq'
      subst ev
      exact ⟨rv, ⟨V.ref (hp.objs.size + 1), H', I3, rfl, q3⟩⟩
    | next => exact False.elim hq'
    | brk => exact False.elim hq'
    | cont => exact False.elim hq'
end
end Tw
end

section
set_option Elab.async false
set_option linter.all false
set_option maxRecDepth 100000
set_option maxHeartbeats 1000000
/-! An exception class without own __init__ as a value, isinstance of it; repr of data with dicts. -/
namespace Tw
open PySem PySem.Spec PyProof.Rows L2
section
variable {X : Cx}
theorem pe_exc0 {C : Addr} {bmB : List Value} {B newId initId : String} {x : Str} {p pos : Pos} (F : ExcBaseFacts B newId initId bmB) (q : PySem.W.excIn X.K C bmB newId = true) (gC : X.mg x = some (.ref C)) (kC : PySem.W.keepIn X.K (.ref C) = true) (hg : Gl X x)
    (hdb : (x == ("__debug__" : Str)) = false := by decide) : PE X (.Call (.Name x p) [] [] pos) (fun σ H Q => ∀ a, H a = none → Q (.ref a) (upd H a (ExO (.ref C) a))) := by
  refine ⟨fun pins s σ H Q I h => ?_⟩
  refine wpAny_Call_Name_kw (ld_glob I hg gC ?_ hdb)
  refine PySem.W.callWith_K0 I.kIn kC ?_
  show wpAny _ _ (call (.ref C) []) _ _ _
  obtain ⟨bm, N, nm, qn, bs, hdct, sn, sub, ab, col, dd, k0, k1, k2, k3, k5, mN, hC, hN, hni, T⟩ := exc_obj I.kIn q
  refine wpAny_call_exc_subT F T hC hN hni (fun h' a hm => ?_) (by show 0 ≤ sizeLine; omega)
  have hn : H a = none := I.hok.gone hm.new
  obtain ⟨t, ht, _, _⟩ := hm.there
  exact ⟨.ref a, upd H a (ExO (.ref C) a), I.laidN hm.keeps hm.new hn (exO_ok ht ⟨rfl, rfl⟩ rfl rfl rfl (show 4 < 6 by decide)), rfl, h a hn⟩
/-- isinstance of such a value -/
def rIsO (K : PySem.W.Frag) (XC : Addr → Prop) : List V → Hp → VK → Prop := fun xs H Q => ∃ (a D : Addr) (c : V) (cv : Value) (b : Bool), xs = [.ref a, c] ∧ XC D ∧ H a = some (ExO (.ref D) a) ∧ (∀ u, RelV c u → u = cv) ∧ PySem.W.kitOne K (.ref D) cv = some b ∧ Q (.bl b) H
theorem call_isO {XC : Addr → Prop} (hC : ∀ D, XC D → ExcC X.K D) : CallR X (.builtin "isinstance") (rIsO X.K XC) := by
  intro pins s σ H xs us Q I r h
  obtain ⟨a, D, c, cv, b, rfl, hD, ea, hcv, e, q⟩ := h
  have C := hC D hD
  cases r with
  | cons rx rr =>
    cases rr with
    | cons rt rr =>
      cases rr
      cases rx
      have ec := hcv _ rt
      subst ec
      obtain ⟨⟨oe, vs, hget, hz, hv, _⟩, _, _⟩ := I.hok a _ ea
      have J : PySem.W.InstAt s.heap a oe D none := by
        obtain ⟨oc, od, oda, osl⟩ := oe
        obtain ⟨h1, h2⟩ := hz
        dsimp only at h1 h2 hv
        subst h1 h2 hv
        exact ⟨hget, rfl, rfl, trivial⟩
      exact PySem.W.kia_one (kitxV C) I.kIn J e (fun z => nomatch z) fun tk => ⟨.bl b, H, I.kept (t' := tk) fun _ _ z => z, rfl, q⟩
def rIsX (K : PySem.W.Frag) (XC : Addr → Prop) : List V → Hp → VK → Prop := fun xs H Q => rIsV K XC xs H Q ∨ rIsO K XC xs H Q
theorem call_isX {XC : Addr → Prop} (hC : ∀ D, XC D → ExcC X.K D) : CallR X (.builtin "isinstance") (rIsX X.K XC) := call_or (call_isV hC) (call_isO hC)
end
/-! ### data with dicts of texts; no list of it at the place of sys.modules -/
inductive Sh (F : List Addr) (H : Hp) : V → PyData → Prop
  | non : Sh F H .non .none
  | bl (b : Bool) : Sh F H (.bl b) (.bool b)
  | int (i : Int) : Sh F H (.int i) (.int i)
  | str (x : Str) : Sh F H (.str x) (.str x)
  | lst {a : Addr} {xs : List V} {ds : List PyData} : a ∉ F → sysModules < a → H a = some (.lst xs) → xs.length = ds.length → (∀ (i : Nat) v d, xs[i]? = some v → ds[i]? = some d → Sh F H v d) → Sh F H (.ref a) (.list ds)
  | tup {a : Addr} {xs : List V} {ds : List PyData} : a ∉ F → H a = some (.tup xs) → xs.length = ds.length → (∀ (i : Nat) v d, xs[i]? = some v → ds[i]? = some d → Sh F H v d) → Sh F H (.ref a) (.tuple ds)
  | dct {a : Addr} {k : Str} {i : Int} : a ∉ F → H a = some (.dK [(.inr k, .int i)]) → Sh F H (.ref a) (.dict [(.str k, .int i)])
def ShL (F : List Addr) (H : Hp) (xs : List V) (ds : List PyData) : Prop := xs.length = ds.length ∧ ∀ (i : Nat) v d, xs[i]? = some v → ds[i]? = some d → Sh F H v d
section
variable {F G : List Addr} {H H' : Hp} {p a : Addr} {o : HO} {v : V} {d : PyData} {xs : List V} {ds : List PyData}
theorem Sh.ex (x : ExF F H H') (r : Sh F H v d) : Sh F H' v d := by
  induction r with
  | non => exact .non
  | bl b => exact .bl b
  | int i => exact .int i
  | str s => exact .str s
  | lst n b h l _ ih => exact .lst n b (x.at_ _ _ n h) l ih
  | tup n h l _ ih => exact .tup n (x.at_ _ _ n h) l ih
  | dct n h => exact .dct n (x.at_ _ _ n h)
theorem Sh.sub (k : ∀ a ∈ G, a ∈ F) (r : Sh F H v d) : Sh G H v d := by
  induction r with
  | non => exact .non
  | bl b => exact .bl b
  | int i => exact .int i
  | str s => exact .str s
  | lst n b h l _ ih => exact .lst (fun z => n (k _ z)) b h l ih
  | tup n h l _ ih => exact .tup (fun z => n (k _ z)) h l ih
  | dct n h => exact .dct (fun z => n (k _ z)) h
theorem ShL.nil : ShL F H [] [] := ⟨rfl, fun i v d h _ => by simp at h⟩
theorem ShL.cons (h : Sh F H v d) (r : ShL F H xs ds) : ShL F H (v :: xs) (d :: ds) := by
  refine ⟨by simp [r.1], fun i u e h1 h2 => ?_⟩
  cases i with
  | zero => cases h1; cases h2; exact h
  | succ i => exact r.2 i u e (by simpa using h1) (by simpa using h2)
theorem Sh.list (n : a ∉ F) (b : sysModules < a) (h : H a = some (.lst xs)) (r : ShL F H xs ds) : Sh F H (.ref a) (.list ds) := .lst n b h r.1 r.2
theorem Sh.tuple (n : a ∉ F) (h : H a = some (.tup xs)) (r : ShL F H xs ds) : Sh F H (.ref a) (.tuple ds) := .tup n h r.1 r.2
end
section
variable {X : Cx} {pins : List (Addr × Obj)} {σ : L2.St} {F : List Addr} {H : Hp} {s : Shared}
theorem vals_get' : ∀ {xs : List V} {us : List Value} {i : Nat} {u : Value}, Vals xs us → us[i]? = some u → ∃ x, xs[i]? = some x ∧ RelV x u
  | _, _, _, _, .nil, e => by simp at e
  | _, _, 0, _, .cons r _, e => by simp at e; subst e; exact ⟨_, rfl, r⟩
  | _, _, i + 1, _, .cons _ r, e => by
    obtain ⟨x, h1, h2⟩ := vals_get' (i := i) r (by simpa using e)
    exact ⟨x, by simpa using h1, h2⟩
theorem readsAll_of : ∀ {us : List Value} {ds : List PyData}, us.length = ds.length → (∀ (i : Nat) u d, us[i]? = some u → ds[i]? = some d → ∃ as, Reads s.heap u d as ∧ sysModules ∉ as) → ∃ as, ReadsAll s.heap us ds as ∧ sysModules ∉ as
  | [], [], _, _ => ⟨[], .nil, by simp⟩
  | u :: us, d :: ds, h, k => by
    obtain ⟨as, h1, h2⟩ := k 0 u d rfl rfl
    obtain ⟨bs, h3, h4⟩ := readsAll_of (us := us) (ds := ds) (by simpa using h) fun i u d h1 h2 => k (i + 1) u d (by simpa using h1) (by simpa using h2)
    exact ⟨_, .cons h1 h3, by simp [h2, h4]⟩
  | [], d :: ds, h, _ => by simp at h
  | u :: us, [], h, _ => by simp at h
theorem Sh.reads (I : Inv X pins σ H s) {v : V} {d : PyData} (h : Sh F H v d) : ∀ u, RelV v u → ∃ as, Reads s.heap u d as ∧ sysModules ∉ as := by
  induction h with
  | non => intro u r; cases r; exact ⟨_, .none, by simp⟩
  | bl b => intro u r; cases r; exact ⟨_, .bool b, by simp⟩
  | int i => intro u r; obtain ⟨t, rfl⟩ := r; exact ⟨_, .int i t, by simp⟩
  | str x => intro u r; obtain ⟨t, rfl⟩ := r; exact ⟨_, .str x t, by simp⟩
  | @lst a xs ds n b h l _ ih =>
    intro u r
    cases r
    obtain ⟨its, rv, ⟨o, k, ho, hc, _, hd⟩, _⟩ := I.list (a := a) (xs := xs) (.inl (.inl h))
    have hl : its.length = ds.length := by rw [← rv.length]; exact l
    obtain ⟨as, h1, h2⟩ := readsAll_of (s := s) hl fun i u d hu hd => by
      obtain ⟨v, hv, rr⟩ := vals_get' rv hu
      exact ih i v d hv hd u rr
    exact ⟨_, .list ho hc hd h1, by
      intro z
      rcases List.mem_cons.mp z with z | z
      · exact absurd (z ▸ b) (Nat.lt_irrefl _)
      · exact h2 z⟩
  | @tup a xs ds n h l _ ih =>
    intro u r
    cases r
    obtain ⟨its, rv, ⟨o, ho, hc, k, hd⟩, _⟩ := I.tuple (a := a) (xs := xs) (.inl (.inl h))
    have hl : its.length = ds.length := by rw [← rv.length]; exact l
    obtain ⟨as, h1, h2⟩ := readsAll_of (s := s) hl fun i u d hu hd => by
      obtain ⟨v, hv, rr⟩ := vals_get' rv hu
      exact ih i v d hv hd u rr
    exact ⟨_, .tuple ho hc hd h1, h2⟩
  | @dct a k i n h =>
    intro u r
    cases r
    obtain ⟨_, hd, vs, rel, o, es, ep, ho, hx, hdat, hk, hp, _⟩ := dk_of I.hok h
    cases rel with
    | @cons _ q _ qs r1 r2 =>
      cases r2
      obtain ⟨l⟩ := es
      have hp : Pairs (mixKind X.prog X.w) l [q] := hp
      cases hp with
      | @cons e _ _ es' p1 p2 p3 =>
        cases p3
        obtain ⟨ek, ev⟩ := r1
        have ek : (Sum.inr k : L2.Key) = q.1 := ek
        have p1 : keyIs q.1 e.key = true := p1
        rw [← ek] at p1
        obtain ⟨t1, e1⟩ := Value.isStrOf_shape (x := k) (v := e.key) p1
        obtain ⟨t2, e2⟩ : ∃ t, q.2 = Value.int i t := ev
        refine ⟨_, .dict (o := o) (es := ⟨[e]⟩) (n := ep) (kvs := [(.str k, .int i)]) (as := [] ++ []) (bs := [] ++ []) ho hx.1 hdat ?_ ?_, ?_⟩
        · show ReadsAll s.heap [e.key] [PyData.str k] _
          rw [e1]
          exact .cons (.str k t1) .nil
        · show ReadsAll s.heap [e.val] [PyData.int i] _
          rw [p2, e2]
          exact .cons (.int i t2) .nil
        · intro z
          have z : sysModules = a := by simpa using z
          rw [z] at hd
          simp at hd
/-- repr of such a row, where no repr is under way -/
def rReprS : List V → Hp → VK → Prop := fun xs H Q => ∃ (a : Addr) (d : PyData), xs = [.ref a] ∧ Sh [] H (.ref a) d ∧ d.showable = true ∧ d.depth ≤ 64 ∧ d.shown.length ≤ sizeLine ∧ Q (.str d.shown) H
end
theorem call_reprS {X : Cx} (hg : X.A.guards = some []) (hu : X.A.units + 65 < cLine) : CallR X (.builtin "repr") rReprS := by
  intro pins s σ H xs us Q I r h
  obtain ⟨a, d, rfl, hd, hs, hdep, hz, q⟩ := h
  obtain ⟨u, rfl, ru⟩ := r.one
  obtain ⟨as, hr, hm⟩ := hd.reads I u ru
  cases ru
  refine repr_of_reads' hr hs (fun _ => hm) hg (by omega) (fun _ _ h => h) (fun h' u tk hk => ?_) hz
  exact ⟨.str _, H, I.kept hk, ⟨_, rfl⟩, q⟩
/-! ### a list whose place is told -/
def tLstB (t : TA) : TE := fun σ H Q => t σ H fun xs H1 => xs.length ≤ sizeLine ∧ ∀ p H', H1 p = none → sysModules < p → H' = upd H1 p (.lst xs) → Q (.ref p) H'
theorem pe_lstB {X : Cx} {es : List Expr} {t : TA} {pos : Pos} (h : PA X es t) : PE X (.List es pos) (tLstB t) := by
  refine ⟨fun pins s σ H Q I hq => ?_⟩
  refine wpAny_List_spliced (thn (h.run pos pins s σ H _ I hq) fun us s1 ⟨xs, H1, I1, r, z, q⟩ => ⟨by rw [← r.length]; exact z, ?_⟩)
  have hf : H1 s1.heap.objs.size = none := I1.hok.fresh (Nat.le_refl _)
  refine ⟨.ref s1.heap.objs.size, upd H1 s1.heap.objs.size (.lst xs), I1.laid (t' := s1.toks) (fun b u e => Heap.get?_push_of_some _ e) (Nat.le_refl _) ?_, rfl, q _ _ hf I1.big rfl⟩
  exact ⟨z, us, 0, r, Heap.get?_push_size _ rfl⟩
/-- a field of an exception value, its class one of those known -/
def tXfW (XF : Addr → Str → Prop) (f : Str) (te : TE) : TE := fun σ H Q => te σ H fun x H1 => ∃ (C a dd : Addr) (fs : List (Str × V)) (v : V), XF C f ∧ x = .ref a ∧ H1 a = some (exo a C (some dd)) ∧ H1 dd = some (exd dd fs) ∧ fs.lookup f = some v ∧ Q v H1
theorem pe_xfW {X : Cx} {XF : Addr → Str → Prop} {e : Expr} {te : TE} {pos : Pos} {n : Str} (T : ∀ C f, XF C f → XfC X.K C ∧ PySem.W.findIn X.K (.ref C) f = some none) (he : PE X e te) (hb : attributeBase e n X.env (eval e X.env) = eval e X.env := by rfl) : PE X (.Attribute e n pos) (tXfW XF n te) := by
  refine ⟨fun pins s σ H Q I h => ?_⟩
  refine attr_of hb (thn (he.run pins s σ H _ I h) fun u s1 hh => ?_)
  obtain ⟨x, H1, I1, rx, C, a, dd, fs, v, hX, ex, ea, ed, l, q⟩ := hh
  obtain ⟨T, hno⟩ := T C n hX
  subst ex
  obtain rfl : u = Value.ref a := rx
  obtain ⟨t1, ha⟩ := exo_at I1.hok ea
  obtain ⟨mA, hns, hr⟩ := exd_at I1.hok ed
  obtain ⟨od, ho, hl⟩ := lookIn_ns hns
  obtain ⟨u, hu, ru⟩ := RelO.some_of (v := v) (o := mA n) (by rw [← l]; exact hr n)
  have J : PySem.W.InstAt s1.heap a ({ cls := .ref C, dict := some dd, data := .fields #[.ref t1, .none, .none, .none, .bool false, .none] } : Obj) C (some od) := ⟨ha, rfl, rfl, ho⟩
  exact HandSPX.exc_get I1.kIn J T.ga T.gg T.exC (PySem.W.findObj_own T.hdC hno rfl (by rw [hl, hu])) (handed_of ru) ⟨v, H1, I1.tok _, ru, q⟩
end Tw
end

section
set_option Elab.async false
set_option linter.all false
set_option maxRecDepth 100000
set_option maxHeartbeats 4000000
namespace Tw
open PySem PySem.Spec L2 PyProof.Rows
/-- the law's call, its def told by FnG: the caller has no repr under way -/
theorem lawG {P : Program} {w : World} {K : PySem.W.Frag} {mg mb : Str → Option Value} {k : Nat} {fa a : Addr} {ps : List Str} {sp : Sp} {s₁ : Shared} {vs : List Value} {ns : List Int}
    (KX : K.In s₁.heap) (hns : s₁.heap.Ns mainGlobals mg) (hb : s₁.heap.Ns builtinsNs mb) (hbb : ∀ x : Str, x ≠ "__name__" → mb x = bootBuiltins x) (hlim : s₁.heap.NoLimit) (hg : s₁.gens = #[])
    (ha : s₁.heap.get? a = some { cls := .type "list", data := .seq vs.toArray }) (hi : IntsAre vs ns) (hl : ns.length ≤ sizeLine) (hr : Room k callerA)
    (Fd : ∀ base : Heap, K.In base → base.Ns mainGlobals mg → FnG P w K mg base k fa ps sp)
    (hsp : ∀ H : Hp, Only H → SqL K H a (ns.map V.int) → sp [.ref a] H (fun v _ => v = .bl true) fun _ _ _ => False) :
    codeAny (model P w) callerA (.call (.ref fa) ⟨[.ref a], []⟩) (fun r s' => r = .ok (.ret (.bool true)) ∧ OldK s₁.heap s'.heap ∧ s'.os = s₁.os ∧ AllBare s'.gens) s₁ := by
  have rv := vals_ints hi
  have core : ∀ H : Hp, Only H → SqL K H a (ns.map V.int) → HOk P w H s₁.heap → (∀ b, H b ≠ none → b = a) → (H a ≠ none → K.lookup a = none) →
      codeAny (model P w) callerA (.call (.ref fa) ⟨[.ref a], []⟩) (fun r s' => r = .ok (.ret (.bool true)) ∧ OldK s₁.heap s'.heap ∧ s'.os = s₁.os ∧ AllBare s'.gens) s₁ := by
    intro H hO hS hok hA hK
    have isA : ∀ {b : Addr} {u : HO}, H b = some u → b = a := fun {b u} q => hA b (by rw [q]; exact fun z => nomatch z)
    have keepB : ∀ {b : Addr} {o : Obj}, s₁.heap.get? b = some o → H b = none → (hidT s₁.heap H).get? b = some o := fun e n => hidT_get e n
    have dictFree : ∀ {b : Addr} {o : Obj} {es : Array DictEntry} {ep : Nat}, s₁.heap.get? b = some o → o.data = .dict es ep → H b = none := fun {b o es ep} e d => by
      cases q : H b with
      | none => rfl
      | some u =>
        have := isA q
        subst this
        rw [ha] at e
        cases e
        exact nomatch (show Data.seq vs.toArray _ = Data.dict es ep from d)
    have nsB : ∀ {b : Addr} {m : Str → Option Value}, s₁.heap.Ns b m → (hidT s₁.heap H).Ns b m := fun {b m} ⟨o, es, ep, e, d, r⟩ => ⟨o, es, ep, keepB e (dictFree e d), d, r⟩
    have inB : K.In (hidT s₁.heap H) := fun b o e => keepB (KX b o e) (by
      cases q : H b with
      | none => rfl
      | some u =>
        have := isA q
        subst this
        rw [hK (by rw [q]; exact fun z => nomatch z)] at e
        cases e)
    have md : Mod K mg (hidT s₁.heap H) := ⟨inB, nsB hns, ⟨mb, nsB hb, hbb⟩, let ⟨mc, h1, h2⟩ := hlim; ⟨mc, nsB h1, h2⟩⟩
    have e0 : Env0 P w K mg (hidT s₁.heap H) callerA [] s₁ H := ⟨rfl, md, fun b o e => of_hidT e, Nat.le_of_eq (hidT_size _ _), trivial, fun b hb => absurd (show b ∈ ([] : List Addr) from hb) (by simp), hok, .of_eq hg⟩
    refine codeAny_mono ((Fd _ inB (nsB hns)).run callerA [] s₁ H [.ref a] [.ref a] _ _ rfl hr e0 (.cons rfl .nil) (hsp H hO hS)) fun r s' h => ?_
    cases r with
    | error e => exact False.elim h
    | ok fl =>
      cases fl with
      | next => exact False.elim h
      | brk => exact False.elim h
      | cont => exact False.elim h
      | ret u =>
        obtain ⟨v, H', os, bare, un, hok', rv', q⟩ := h
        have q : v = .bl true := q
        subst q
        obtain rfl : u = Value.bool true := rv'
        refine ⟨rfl, OldK.of_keep fun b o e => ?_, os, bare⟩
        cases q : H b with
        | none => exact un.keep b o e q (by intro z; exact absurd (show b ∈ ([] : List Addr) from z) (by simp)) (by simp)
        | some u =>
          rcases hO b with z | ⟨ob, ys, z⟩
          · rw [q] at z; cases z
          · obtain ⟨f1, _⟩ := hok b _ z
            obtain ⟨f2, _⟩ := hok' b _ (un.frzs b ob _ z)
            rw [e] at f1; cases f1
            exact f2
  cases hk : K.lookup a with
  | some o =>
    have e := KX a o hk
    rw [ha] at e
    cases e
    refine core (fun _ => none) (fun _ => .inl rfl) (.inr ⟨_, vs.toArray, _, hk, rfl, rfl, rfl, by rw [List.size_toArray, hi.length]; exact hl, by simpa using rv⟩) (fun b u z => nomatch (show (none : Option HO) = some u from z)) (fun b z => absurd rfl z) fun z => absurd rfl z
  | none =>
    have at_ : ∀ {b : Addr} {u : HO}, (if b = a then some (HO.frz { cls := .type "list", data := .seq vs.toArray } (.lst (ns.map V.int))) else none) = some u → b = a ∧ u = .frz { cls := .type "list", data := .seq vs.toArray } (.lst (ns.map V.int)) := fun {b u} z => by
      by_cases hb : b = a
      · rw [if_pos hb] at z
        exact ⟨hb, (Option.some.inj z).symm⟩
      · rw [if_neg hb] at z
        cases z
    refine core (fun b => if b = a then some (.frz { cls := .type "list", data := .seq vs.toArray } (.lst (ns.map V.int))) else none) (fun b => ?_) (.inl (.inr ⟨_, if_pos rfl⟩)) (fun b u z => ?_) (fun b z => ?_) fun _ => hk
    · by_cases hb : b = a
      · exact .inr ⟨_, _, if_pos hb⟩
      · exact .inl (if_neg hb)
    · obtain ⟨e1, e2⟩ := at_ z
      subst e1 e2
      exact ⟨ha, by rw [List.length_map]; exact hl, vs, _, rv, ha⟩
    · cases q : (if b = a then some (HO.frz { cls := .type "list", data := .seq vs.toArray } (.lst (ns.map V.int))) else none) with
      | none => exact absurd q z
      | some u => exact (at_ q).1
theorem walkG {l : PySem.W.OpenLaw} {n k : Nat} {q : Program} {loose : List Str} {XP : (Str → Option Value) → Heap → Prop} {YP : World → Heap → Prop} {d : DefRec} {K : Params → PySem.W.Frag} {sp : World → Sp}
    (hn : l.most = some n) (hn2 : n ≤ sizeLine) (hdf : d.params.defaults = []) (hr : Room k callerA) (hY : ∀ (w : World) (h : Heap), YP w h → (K w.params).In h)
    (Fd : ∀ (w : World) (mg : Str → Option Value) (fa : Addr) (h : Heap), (K w.params).In h → h.Ns mainGlobals mg → mg d.name = some (.ref fa) →
      ∃ ps : List Str, ∀ base : Heap, (K w.params).In base → base.Ns mainGlobals mg → FnG l.prog w (K w.params) mg base k fa ps (sp w))
    (hsp : ∀ (w : World) (H : Hp) (a : Addr) (ns : List Int), ns.length ≤ n → Only H → SqL (K w.params) H a (ns.map V.int) → sp w [.ref a] H (fun v _ => v = .bl true) fun _ _ _ => False) :
    PySem.W.WalkO q loose XP YP l.row.toRowW d [] (fun f vs => PySem.call f vs) := by
  refine Att.attach_call hn hdf fun w s₀ s₁ mg mb fa o pm cd doc a vs ns G Y ho hd hcd hmg hobj hints hlen hg => ?_
  have KX := hY w _ Y
  obtain ⟨ps, hF⟩ := Fd w mg fa _ KX G.T.g hmg
  exact lawG KX G.T.g G.T.b G.T.builtins G.T.nolimit hg hobj hints (Nat.le_trans hlen hn2) hr hF fun H hO hS => hsp w H a ns hlen hO hS
end Tw
end

section
set_option Elab.async false
set_option linter.all false
set_option maxRecDepth 100000
set_option maxHeartbeats 4000000
namespace Tw
open PySem PySem.Spec L2 PyProof.Rows
/-! ### several clauses, each with the same name -/
def wManyAs (K : PySem.W.Frag) (Wout : WX) (i : Nat) (D : Ends) : List (Value × (Addr → Value → Option Addr → TS)) → WX
  | [] => Wout
  | (c, ts) :: r => wAs K c i ts (wManyAs K Wout i D r) D
inductive HdsAs (X : Cx) (n : Str) : List ExceptHandler → List (Value × (Addr → Value → Option Addr → TS)) → Prop
  | nil : HdsAs X n [] []
  | cons {x : Str} {c : Value} {ts : Addr → Value → Option Addr → TS} {b₀ : Stmt} {suite : List Stmt} {np q : Pos} {hds : List ExceptHandler} {l : List (Value × (Addr → Value → Option Addr → TS))} (hc : Names X x c)
      (hsu : ∀ (a : Addr) (oe : Obj) (cls : Value) (d : Option Addr) (pn : List (Addr × Obj)), Zc cls d oe → (∃ vs, oe.data = .fields vs) → PSs (X.suite a ((a, oe) :: pn)) (b₀ :: suite) (ts a cls d)) (r : HdsAs X n hds l) :
      HdsAs X n (.ExceptHandler (some (.Name x np)) (some n) (b₀ :: suite) q :: hds) ((c, ts) :: l)
section
variable {X : Cx} {n : Str} {i : Nat} {body : List Stmt} {h₀ : ExceptHandler} {hds : List ExceptHandler} {l : List (Value × (Addr → Value → Option Addr → TS))} {pos : Pos} {tb : WX → TS} {Wout : WX}
theorem ps_tryManyAs (hs : X.stack = X.env :: X.outer) (hf : X.env.frame = some X.env.locals) (hN : X.N.Nodup) (hi : X.N[i]? = some n) (hln : X.env.kindOf n = some .local) (tk : Takes X Wout)
    (hb : ∀ (W : WX) (pn : List (Addr × Obj)) (xe : Value → Shared → Prop), Takes (X.tr pn xe) W → PassesOwn (model X.prog X.w) X.A X.env xe → PSs (X.tr pn xe) body (tb W)) (hh : HdsAs X n (h₀ :: hds) l) :
    PS X (.Try body (h₀ :: hds) [] [] pos) (fun D σ H => tb (wManyAs X.K Wout i D l) D σ H) := by
  refine ⟨fun pins s σ H D I h => ?_⟩
  have ok := I.ok
  have hloc : Loc X.env.scope n := .inl hln
  have hfr : X.A.frames = some (X.env :: X.outer) := by rw [ok.frames, hs]
  refine wpAny_Try_except ?_
  refine wpAny_mono ((hb (wManyAs X.K Wout i D l) (X.pn ++ pins) (fun e s₁ => wpAny (model X.prog X.w) X.A (noteFrame e X.env) (fun _ s₂ => wpAny (model X.prog X.w) X.A (setFlight e none) (fun _ s₃ =>
    wpAny (model X.prog X.w) X.A (handleBy e X.env (h₀ :: hds)) (SP X pins D) X.xe s₃) X.xe s₂) X.xe s₁) (fun u s' xx => ?_) PassesOwn.looking).run [] s σ H D (I.toTry _) h) (fun f s1 z => ?_) (fun e s1 z => z)
  · obtain ⟨a, B, sI, pins', σ', H', cls, d, rfl, J', nb, up, sky, na, os, ag, w⟩ := xx
    have J : Inv X pins σ' H' sI := J'.ofTry ok
    have sky1 : Sky B (X.env :: X.outer) a (Zc cls d) X.env.locals s'.heap := by rw [← hs]; exact sky
    show wpAny (model X.prog X.w) X.A (noteFrame (.ref a) X.env) _ _ _
    refine Sky.land Zc.steady hfr hf sky1 fun g3 fl3 up3 => ?_
    have J3 : Inv X pins σ' H' { s' with heap := g3 } := J.landed nb fl3.1 (up.trans up3) os ag
    obtain ⟨oe3, vs3, he3, hz3, hd3⟩ := fl3.there
    have nfr : a ∉ frs (X.env :: X.outer) := fun hm => by
      obtain ⟨_, o', e', hnf⟩ := fl3.2.2.1.mem hm
      rw [he3] at e'; cases e'
      exact hnf _ hd3
    have nL : a ≠ X.env.locals := fun z => nfr (List.mem_filterMap.mpr ⟨X.env, List.mem_cons_self, by rw [hf, z]⟩)
    have nF : a ∉ X.fs := fun hm => by
      obtain ⟨e, he, q⟩ := List.mem_filterMap.mp hm
      exact nfr (List.mem_filterMap.mpr ⟨e, List.mem_cons_of_mem _ he, q⟩)
    have S3 := J3.suite he3 hd3 na nL nF
    have all : ∀ {hds' : List ExceptHandler} {l' : List (Value × (Addr → Value → Option Addr → TS))}, HdsAs X n hds' l' → wManyAs X.K Wout i D l' cls d σ' H' → wpAny (model X.prog X.w) X.A (handleBy (.ref a) X.env hds') (SP X pins D) X.xe { s' with heap := g3 } := by
      intro hds' l' hk
      induction hk with
      | nil =>
        intro w
        refine wpAny_handleBy_nil ?_
        obtain ⟨k1, k2, k3, oe, vs, T, oT, ts', he, hz, hd, h1, hr⟩ := id fl3
        unfold PySem.passOn
        refine wpAny_bind (wpAny_field he hd h1 ?_)
        rw [if_neg (show ¬ ((Value.ref T == Value.none) = true) from by simp)]
        have out : wpAny (model X.prog X.w) X.A (setFlight (.ref a) X.env.frame) (fun _ s4 => wpAny (model X.prog X.w) X.A (throw (.ref a) : Sem Flow) (SP X pins D) X.xe s4) X.xe { s' with heap := g3 } := by
          rw [hf]
          refine HandSPX.setFlight_upZ fl3 fun h4 hh4 up4 => wpAny_throw (tk _ _ ?_)
          exact ⟨a, B, sI, pins, σ', H', cls, d, rfl, J, nb, (up.trans up3).trans up4, .inr (.inr (by rw [hs]; exact hh4)), na, os, ag, w⟩
        first
          | exact wpAny_bind (wpAny_pure (wpAny_bind out))
          | exact wpAny_bind out
      | @cons x c ts b₀ suite np pq hds2 l2 hc hsu r ih =>
        intro w
        obtain ⟨b, hb1, hyes, hno⟩ := w
        refine wpAny_handleBy_cons (codeAny_handlers_test ?_) (by intro q; cases q)
        have LT : PySem.W.Looks (model X.prog X.w) g3 (typeOf (.ref a)) cls := fun A Q E s k q => wpAny_typeOf_ref (k _ _ he3) (by rw [hz3.1]; exact q)
        have LM := PySem.W.exm_one (M := model X.prog X.w) (J3.kIn) LT hb1
        have look : ∀ {Q : Value → Shared → Prop} {E : Value → Shared → Prop}, Q c { s' with heap := g3 } → wpAny (model X.prog X.w) (X.A.mark (some (.ref a))) (eval (.Name x np) X.env) Q E { s' with heap := g3 } := fun {Q E} q => by
          obtain ⟨hg, hdbg, hm | ⟨hm, hv, hnn⟩⟩ := hc
          · exact ld_glob (X := X.suite a ((a, oe3) :: (X.pn ++ pins))) S3 hg hm q hdbg
          · exact ld_blt (X := X.suite a ((a, oe3) :: (X.pn ++ pins))) S3 hg hm hv q hnn hdbg
        refine look (LM.here ?_)
        cases b with
        | true =>
          refine codeAny_handlers_suite_as ?_
          refine HandSPX.lands_againZ fl3 fun g4 fl4 up4 => ?_
          have J4 : Inv X pins σ' H' { s' with heap := g4 } := J.landed nb fl4.1 ((up.trans up3).trans up4) os ag
          obtain ⟨oe4, vs4, he4, hz4, hd4⟩ := fl4.there
          have S4 := J4.suite he4 hd4 na nL nF
          refine store_ok (X := X.suite a ((a, oe4) :: (X.pn ++ pins))) (v := .ref a) S4 hN hi hloc rfl (fun s5 S5 => ?_) (.inr hln)
          refine wpAny_mono ((hsu a oe4 cls d (X.pn ++ pins) hz4 ⟨_, hd4⟩).run [] s5 _ H' _ S5 (hyes rfl a na)) (fun f s6 z => ?_) (fun _ _ z => False.elim z)
          have end_ : ∀ {σ6 : L2.St} {H6 : Hp} {Q : Shared → Prop}, Inv (X.suite a ((a, oe4) :: (X.pn ++ pins))) [] σ6 H6 s6 → (∀ s7, Inv X pins (σ6.set i none) H6 s7 → Q s7) →
              wpAny (model X.prog X.w) X.A (do bindName X.env n .none; unbindBehindTheSuite X.env n pq) (fun _ s7 => Q s7) X.xe s6 := fun {σ6 H6 Q} S6 hq => gone_ok (S6.unsuite ok) hN hi hln hq
          cases f with
          | ret u =>
            obtain ⟨v6, σ6, H6, S6, r6, q6⟩ := z
            exact end_ S6 fun s7 J7 => ⟨_, _, _, J7, r6, q6⟩
          | next =>
            obtain ⟨σ6, H6, S6, q6⟩ := z
            exact end_ S6 fun s7 J7 => ⟨_, _, J7, q6⟩
          | brk =>
            obtain ⟨σ6, H6, S6, q6⟩ := z
            exact end_ S6 fun s7 J7 => ⟨_, _, J7, q6⟩
          | cont =>
            obtain ⟨σ6, H6, S6, q6⟩ := z
            exact end_ S6 fun s7 J7 => ⟨_, _, J7, q6⟩
        | false =>
          show wpAny _ X.A (handleBy (.ref a) X.env hds2) _ _ _
          exact ih (hno rfl)
    exact all hh w
  · cases f with
    | ret u =>
      obtain ⟨v, σ', H', J', r, q⟩ := z
      exact ⟨v, σ', H', J'.ofTry ok, r, q⟩
    | next =>
      obtain ⟨σ', H', J', q⟩ := z
      exact wpAny_execs_nil ⟨σ', H', J'.ofTry ok, q⟩
    | brk =>
      obtain ⟨σ', H', J', q⟩ := z
      exact ⟨σ', H', J'.ofTry ok, q⟩
    | cont =>
      obtain ⟨σ', H', J', q⟩ := z
      exact ⟨σ', H', J'.ofTry ok, q⟩
end
/-! ### o.f as a target among others -/
def gFld (K : PySem.W.Frag) (to : TE) (f : Str) : TG := fun v σ H Q => to σ H fun x H1 => ∃ a C dx fs, x = .ref a ∧ H1 a = some (.ins C dx fs) ∧ Cls K C ∧ NoAttr K C f ∧ fs.length < 1000 ∧ Q σ (upd H1 a (.ins C dx (putF f v fs)))
theorem pg_fld {X : Cx} {o : Expr} {to : TE} {f : Str} {pos : Pos} (ho : PE X o to) : PG X (.Attribute o f pos) (gFld X.K to f) := by
  refine ⟨fun pins s σ H v u Q I r h => ?_⟩
  show wpAny _ _ (do
    let ov ← holding [u] (eval o X.env)
    standAt pos.atName
    holding [u, ov] (setAttr ov f u)
    release [u, ov] []) _ _ _
  refine wpAny_bind (wpAny_holding (thn (ho.run pins s σ H _ I h) fun ov s1 ⟨x, H1, I1, r1, a, C, dx, fs, ex, ea, c, n, l, q⟩ => ?_))
  subst ex
  obtain rfl : ov = Value.ref a := r1
  refine wpAny_bind (wpAny_standAt (wpAny_bind (wpAny_holding (setattr_ok I1 ea c n l r fun s3 I3 => ?_))))
  exact wpAny_release ⟨σ, _, I3, q⟩
/-! ### d.update(another dict) -/
def rUpd : V → List V → Hp → VK → Prop := fun x vs H Q => ∃ (a b : Addr) (kvs more : List (Key × V)), x = .ref a ∧ vs = [.ref b] ∧ a ≠ b ∧ H a = some (.dK kvs) ∧ H b = some (.dK more) ∧ kvs.length + more.length ≤ sizeLine ∧ Q .non (upd H a (.dK (mergeK kvs more)))
theorem mtd_update {X : Cx} : MtR X "dict.update" rUpd := by
  intro pins s σ H x vs v us Q I rx rv h
  obtain ⟨a, b, kvs, more, ex, ev, ne, ea, eb, hz, q⟩ := h
  subst ex
  subst ev
  obtain rfl : v = Value.ref a := rx
  obtain ⟨u, rfl, ru⟩ := rv.one
  obtain rfl : u = Value.ref b := ru
  obtain ⟨z, hd, ws, rel, dd⟩ := dk_of I.hok ea
  obtain ⟨z2, hd2, ws2, rel2, dd2⟩ := dk_of I.hok eb
  refine call_meetsIn PySem.F.slot_dict_update dd.typeIs PySem.F.entry_dict_update (PySem.F.args_dict_update_2 _ _) (meets_dict_update (mixKind X.prog X.w) a b ne hd2) ⟨ws, ws2, dd, dd2, by rw [← rel.length, ← rel2.length]; exact hz, fun h' d1 d2 sb => ?_⟩
  have he : ∃ q, h'.get? a = some q := let ⟨q, _, _, hq, _⟩ := d1; ⟨q, hq⟩
  have hl : (mergeK kvs more).length ≤ sizeLine := Nat.le_trans (length_mergeK more kvs) hz
  exact ⟨.non, _, d_write (t' := s.toks) I (by rw [ea]; exact True.intro) sb he (dk_new hl hd (KV.merge rel2 rel) d1), rfl, q⟩
end Tw
end

section
set_option Elab.async false
set_option linter.all false
set_option maxRecDepth 100000
set_option maxHeartbeats 4000000
namespace Tw
open PySem L2 PyProof.Rows
def t_l_draw_b1 (K : PySem.W.Frag) : TS := tSeq (tAsg (tBM K "list" rPopAtU (tOp (rIxU K) (tVar 0) (tC (.int 0))) (tCons (tC (.int 0)) (tNil))) (gName 2))
      (tSeq (tAsg (tOp (rI (fun _ j => j ≠ 0) fun i j => .int (i.fmod j)) (tCB (rInt1) (tCons (tOp (rAddU K) (tOp (rAddU K) (tOp rMulU (tOp (rIxU K) (tVar 0) (tC (.int 3))) (tC (.int 8191))) (tVar 2)) (tC (.int 3))) (tNil))) (tC (.int 2147483647))) (gSub (tVar 0) (tC (.int 3)) rSetU))
      (tAsg (tIf (tTest (tOp (rI0 fun i j => .bl (decide (j ≤ i))) (tVar 2) (tOp (rI CPow fun i j => .int (i ^ j.toNat)) (tC (.int 10)) (tC (.int 18))))) (tVar 2) (tC (.int 0))) (gSub (tVar 0) (tC (.int 1)) rSetU)))
def t_l_draw_t4 (K : PySem.W.Frag) : TS := tRet (tOp (rI (fun _ j => j ≠ 0) fun i j => .int (i.fmod j)) (tOp (rI (fun _ j => j ≠ 0) fun i j => .int (i.fmod j)) (tCB (rInt1) (tCons (tOp (rI CPow fun i j => .int (i ^ j.toNat)) (tOp (rAddU K) (tOp (rAddU K) (tOp rMulU (tVar 4) (tC (.int 48271))) (tOp rMulU (tC (.int 30011)) (tOp (rIxU K) (tVar 0) (tC (.int 2))))) (tC (.int 29))) (tC (.int 3))) (tNil))) (tC (.int 1000000007))) (tVar 1))
def t_l_draw_t3 (K : PySem.W.Frag) : TS := tSeq (tAsg (tOp (rI (fun _ j => j ≠ 0) fun i j => .int (i.fmod j)) (tCB (rInt1) (tCons (tOp (rI CPow fun i j => .int (i ^ j.toNat)) (tOp (rAddU K) (tOp (rAddU K) (tOp (rIxU K) (tVar 0) (tC (.int 3))) (tOp rMulU (tC (.int 7919)) (tOp (rIxU K) (tVar 0) (tC (.int 2))))) (tC (.int 104729))) (tC (.int 5))) (tNil))) (tC (.int 2147483629))) (gName 4)) (t_l_draw_t4 K)
def t_l_draw_t2 (K : PySem.W.Frag) : TS := tSeq (tIfS (tTest (tOp (rI0 fun i j => .bl (decide (j < i))) (tOp (rIxU K) (tVar 0) (tC (.int 1))) (tC (.int 0)))) (tSeq (tAsg (tOp (rI (fun _ j => j ≠ 0) fun i j => .int (i.fmod j)) (tCB (rInt1) (tCons (tOp (rIxU K) (tVar 0) (tC (.int 1))) (tNil))) (tVar 1)) (gName 3))
      (tSeq (tAsg (tOp (rI CDivN fun i j => .int (i.fdiv j)) (tOp (rIxU K) (tVar 0) (tC (.int 1))) (tVar 1)) (gSub (tVar 0) (tC (.int 1)) rSetU))
      (tRet (tVar 3)))) (tNext)) (t_l_draw_t3 K)
def t_l_draw_t1 (K : PySem.W.Frag) : TS := tSeq (tWhile (tAnd (tTest (tOp (rEqU K) (tOp (rIxU K) (tVar 0) (tC (.int 1))) (tC (.int 0)))) (tTest (tOp (rNeU K) (tOp (rIxU K) (tVar 0) (tC (.int 0))) (tLstU (tNil))))) (t_l_draw_b1 K)) (t_l_draw_t2 K)
def t_l_draw (K : PySem.W.Frag) : TS := tSeq (tAsg (tOp (rAddU K) (tOp (rIxU K) (tVar 0) (tC (.int 2))) (tC (.int 1))) (gSub (tVar 0) (tC (.int 2)) rSetU)) (t_l_draw_t1 K)
theorem rd_draw_t3 (K : PySem.W.Frag) {st cl : Addr} {m a b : Int} {c : Nat} {ns : List Int} {v : Option V} {H : Hp} {Q : VK} (k1 : H st = some (.lst [.ref cl, .int a, .int ((c + 1 : Nat) : Int), .int b])) (k2 : H cl = some (.lst (ns.map V.int)))
    (hb : 0 ≤ b) (hb2 : b < 2147483647) (hc : c < 2 ^ 48) (h0 : 0 < m) (q : ∀ k : Int, 0 ≤ k → k < m → Q (.int k) H) :
    t_l_draw_t3 K { nx := fun _ H' => Q .non H', rt := Q } [some (.ref st), some (.int m), v, none, none] H := by
  have fm : ∀ {i j : Int}, 0 < j → 0 ≤ i.fmod j ∧ i.fmod j < j := fun h => ⟨Int.fmod_nonneg_of_pos _ h, Int.fmod_lt_of_pos _ h⟩
  refine ⟨_, rfl, ?_⟩
  refine ixL k1 (v := .int b) rfl ?_
  refine ⟨_, rfl, ?_⟩
  refine ixL k1 (v := .int ((c + 1 : Nat) : Int)) rfl ?_
  refine mulI (.inl ⟨by decide, by decide⟩) ?_
  refine addI (addI ?_)
  refine ⟨_, 5, rfl, rfl, ⟨by decide, by decide, ?_⟩, ?_⟩
  · omega
  refine int1 ?_
  refine ⟨_, _, rfl, rfl, (show (2147483629 : Int) ≠ 0 by decide), ?_⟩
  generalize hM : ((b + 7919 * ((c + 1 : Nat) : Int) + 104729) ^ (5 : Int).toNat).fmod 2147483629 = M
  have hM1 : 0 ≤ M ∧ M < 2147483629 := hM ▸ fm (by decide)
  refine ⟨_, rfl, ?_⟩
  refine mulI (.inr ⟨by decide, by decide⟩) ?_
  refine ⟨_, rfl, ?_⟩
  refine ixL k1 (v := .int ((c + 1 : Nat) : Int)) rfl ?_
  refine mulI (.inl ⟨by decide, by decide⟩) ?_
  refine addI (addI ?_)
  refine ⟨_, 3, rfl, rfl, ⟨by decide, by decide, ?_⟩, ?_⟩
  · omega
  refine int1 ?_
  refine ⟨_, _, rfl, rfl, (show (1000000007 : Int) ≠ 0 by decide), ?_⟩
  refine ⟨_, rfl, _, _, rfl, rfl, (by omega), ?_⟩
  exact q _ (fm h0).1 (fm h0).2
theorem rd_draw_t2 (K : PySem.W.Frag) {st cl : Addr} {m a b : Int} {c : Nat} {ns : List Int} {v : Option V} {H H0 : Hp} {Q : VK} (k1 : H st = some (.lst [.ref cl, .int a, .int ((c + 1 : Nat) : Int), .int b])) (k2 : H cl = some (.lst (ns.map V.int)))
    (ha : 0 ≤ a) (hb : 0 ≤ b) (hb2 : b < 2147483647) (hl : ns.length ≤ 1000) (hc : c < 2 ^ 48) (h0 : 0 < m) (h1 : m < 2 ^ 30) (x : ExF [st, cl] H0 H) (hne : st ≠ cl)
    (q : ∀ (k : Int) H', 0 ≤ k → k < m → Strm st cl H' (c + 1) → ExF [st, cl] H0 H' → Q (.int k) H') :
    t_l_draw_t2 K { nx := fun _ H' => Q .non H', rt := Q } [some (.ref st), some (.int m), v, none, none] H := by
  have fm : ∀ {i j : Int}, 0 < j → 0 ≤ i.fmod j ∧ i.fmod j < j := fun h => ⟨Int.fmod_nonneg_of_pos _ h, Int.fmod_lt_of_pos _ h⟩
  refine ⟨_, rfl, ?_⟩
  refine ixL k1 (v := .int a) rfl ?_
  refine ⟨_, _, rfl, rfl, _, rfl, ?_⟩
  refine ite2 (fun hp => ?_) (fun hp => ?_)
  · have hp' : 0 < a := of_decide_eq_true hp
    -- the digit
    refine ⟨_, rfl, ?_⟩
    refine ixL k1 (v := .int a) rfl ?_
    refine int1 ?_
    refine ⟨_, rfl, _, _, rfl, rfl, (by omega), ?_⟩
    refine ⟨_, rfl, ?_⟩
    refine ixL k1 (v := .int a) rfl ?_
    refine ⟨_, rfl, _, _, rfl, rfl, ⟨by omega, by omega⟩, ?_⟩
    refine ⟨_, rfl, .inl ⟨st, _, 1, 1, rfl, rfl, k1, rfl, ?_⟩⟩
    refine ⟨_, rfl, ?_⟩
    refine q _ _ (fm h0).1 (fm h0).2 ⟨_, b, ns, upd_same, by rw [upd_ne (Ne.symm hne)]; exact k2, ?_, hb, hb2, hl⟩ (x.mut (.inr (by simp)))
    rw [Int.fdiv_eq_ediv_of_nonneg _ (by omega)]
    exact Int.ediv_nonneg ha (by omega)
  · exact rd_draw_t3 K k1 k2 hb hb2 hc h0 fun k g0 g1 => q k H g0 g1 ⟨a, b, ns, k1, k2, ha, hb, hb2, hl⟩ x
theorem rd_l_draw (K : PySem.W.Frag) {vs : List V} {H : Hp} {Q : VK} {E : XK} (h : spDraw vs H Q E) :
    t_l_draw K { nx := fun _ H' => Q .non H', rt := Q } (start ["_law_stream", "_law_many", "_law_cell", "_law_digit", "_law_mixed_here"] vs) H := by
  obtain ⟨st, cl, c, m, rfl, S, hc, h0, h1, q⟩ := h
  have hne := S.ne
  obtain ⟨a, b, ns, k1, k2, ha, hb, hb2, hl⟩ := S.ex
  have fm : ∀ {i j : Int}, 0 < j → 0 ≤ i.fmod j ∧ i.fmod j < j := fun h => ⟨Int.fmod_nonneg_of_pos _ h, Int.fmod_lt_of_pos _ h⟩
  -- stream[2] = stream[2] + 1
  refine ⟨_, rfl, ?_⟩
  refine ixL k1 (v := .int c) rfl ?_
  refine addI ?_
  refine ⟨_, rfl, .inl ⟨st, _, 2, 2, rfl, rfl, k1, rfl, ?_⟩⟩
  -- the cells, while no great one is held
  refine ⟨fun n σ H' => ∃ (a b : Int) (ns : List Int) (v : Option V), n = ns.length ∧ σ = [some (.ref st), some (.int m), v, none, none] ∧ H' st = some (.lst [.ref cl, .int a, .int ((c + 1 : Nat) : Int), .int b]) ∧ H' cl = some (.lst (ns.map V.int)) ∧
    0 ≤ a ∧ 0 ≤ b ∧ b < 2147483647 ∧ ns.length ≤ 1000 ∧ ExF [st, cl] H H', ⟨ns.length, a, b, ns, none, rfl, rfl, ?_, ?_, ha, hb, hb2, hl, ?_⟩, ?_⟩
  · rw [upd_same]
    have e : (c : Int) + 1 = ((c + 1 : Nat) : Int) := by omega
    rw [e]
    rfl
  · rw [upd_ne (Ne.symm hne)]; exact k2
  · exact ExF.refl.mut (.inr (by simp))
  rintro n σ H1 ⟨a, b, ns, v, rfl, rfl, k1, k2, ha, hb, hb2, hl, x1⟩
  refine ⟨_, rfl, ?_⟩
  refine ixL k1 (v := .int a) rfl ?_
  refine eqI ⟨_, rfl, ?_⟩
  refine ite2 (fun ea => ?_) (fun _ => ?_)
  · refine ⟨_, rfl, ?_⟩
    refine ixL k1 (v := .ref cl) rfl ?_
    refine ⟨by decide, fun p H1' hp e1 => ?_⟩
    have k1' := eqf e1 hp k1
    have k2' := eqf e1 hp k2
    have x1' : ExF [st, cl] H H1' := x1.trans (exn e1 hp)
    refine neO (F := []) (G := []) (n := 1) (m := 1) (d := .list (ns.map PyData.int)) (e := .list []) (.list (by simp) k2' (.ints ns)) (.list (by simp) (eqs e1) .nil) (ok_list.mpr ⟨oks_ints ns, by rw [List.length_map]; omega⟩) (ok_list.mpr ⟨by rw [oks], by decide⟩) ⟨_, rfl, ?_⟩
    cases ns with
    | nil => exact rd_draw_t2 K k1' k2' ha hb hb2 hl hc h0 h1 x1' hne q
    | cons z ns =>
      refine iteT ⟨_, fun _ _ h => h, ?_⟩
      -- cell = stream[0].pop(0)
      refine ⟨_, rfl, ?_⟩
      refine ixL k1' (v := .ref cl) rfl ?_
      refine ⟨tyL k2', popAt (k := 0) k2' (by decide) (by decide) rfl rfl fun H2 hH2 => ?_⟩
      have c1 : H2 st = some (.lst [.ref cl, .int a, .int ((c + 1 : Nat) : Int), .int b]) := eqn hH2 hne k1'
      have c2 : H2 cl = some (.lst (ns.map V.int)) := eqs hH2
      have y2 : ExF [st, cl] H H2 := exm hH2 (.inr (by simp)) x1'
      -- stream[3] = int(stream[3] * 8191 + cell + 3) % 2147483647
      refine ⟨_, rfl, ?_⟩
      refine ixL c1 (v := .int b) rfl ?_
      refine mulI (.inr ⟨by decide, by decide⟩) ?_
      refine ⟨_, rfl, ?_⟩
      refine addI (addI ?_)
      refine int1 ?_
      refine ⟨_, _, rfl, rfl, (show (2147483647 : Int) ≠ 0 by decide), ?_⟩
      have hM := fm (i := b * 8191 + z + 3) (j := 2147483647) (by decide)
      refine ⟨_, rfl, setU c1 (j := 3) rfl fun H3 hH3 => ?_⟩
      have e1 : H3 st = some (.lst [.ref cl, .int a, .int ((c + 1 : Nat) : Int), .int ((b * 8191 + z + 3).fmod 2147483647)]) := eqs hH3
      have e2 : H3 cl = some (.lst (ns.map V.int)) := eqn hH3 (Ne.symm hne) c2
      have y3 : ExF [st, cl] H H3 := exm hH3 (.inr (by simp)) y2
      -- stream[1] = cell if cell >= 10 ** 18 else 0
      refine ⟨_, rfl, ?_⟩
      refine ⟨10, 18, rfl, rfl, ⟨by decide, by decide, by decide⟩, ?_⟩
      refine ⟨_, _, rfl, rfl, _, rfl, ?_⟩
      refine ite2 (fun hz => ?_) (fun _ => ?_)
      · have hz' := of_decide_eq_true hz
        refine ⟨_, rfl, ?_⟩
        refine ⟨_, rfl, setU e1 (j := 1) rfl fun H4 hH4 => ?_⟩
        exact ⟨ns.length, by simp, z, _, ns, _, rfl, rfl, eqs hH4, eqn hH4 (Ne.symm hne) e2, Int.le_trans (by decide) hz', hM.1, hM.2, by simp at hl; omega, exm hH4 (.inr (by simp)) y3⟩
      · refine ⟨_, rfl, setU e1 (j := 1) rfl fun H4 hH4 => ?_⟩
        exact ⟨ns.length, by simp, 0, _, ns, _, rfl, rfl, eqs hH4, eqn hH4 (Ne.symm hne) e2, by decide, hM.1, hM.2, by simp at hl; omega, exm hH4 (.inr (by simp)) y3⟩
  · exact rd_draw_t2 K k1 k2 ha hb hb2 hl hc h0 h1 x1 hne q

def t_l_start (K : PySem.W.Frag) : TS := tRet (tLstU (tCons (tCB (rLstOf K) (tCons (tVar 0) (tNil))) (tCons (tC (.int 0)) (tCons (tC (.int 0)) (tCons (tC (.int 11)) (tNil))))))
def t_l_pick (K : PySem.W.Frag) : TS := tRet (tOp (rIxU K) (tVar 1) (tCall spDraw [] E0 (tCons (tVar 0) (tCons (tCB (rLenU K) (tCons (tVar 1) (tNil))) (tNil)))))
def t_l_mixed_t1 (K : PySem.W.Frag) : TS := tRet (tLcU (iRng1 (tCons (tCB (rLenU K) (tCons (tVar 2) (tNil))) (tNil))) (gName 3) (tYes) (tBM K "list" rPopAtU (tVar 2) (tCons (tCall spDraw [] E0 (tCons (tVar 0) (tCons (tCB (rLenU K) (tCons (tVar 2) (tNil))) (tNil)))) (tNil))) [3])
def t_l_mixed (K : PySem.W.Frag) : TS := tSeq (tAsg (tCB (rLstOf K) (tCons (tVar 1) (tNil))) (gName 2)) (t_l_mixed_t1 K)
theorem rd_l_start (K : PySem.W.Frag) {vs : List V} {H : Hp} {Q : VK} {E : XK} (h : spStart K vs H Q E) :
    t_l_start K { nx := fun _ H' => Q .non H', rt := Q } (start ["_law_script"] vs) H := by
  obtain ⟨a, ns, rfl, hs, hl, q⟩ := h
  refine ⟨_, rfl, ?_⟩
  refine lstOfQ (.inl hs) fun cl H1 hcl e1 => ?_
  refine ⟨by show 4 ≤ sizeLine; decide, fun st H2 hst e2 => ?_⟩
  have k2 := eqf e2 hst (eqs e1)
  refine q st cl H2 ⟨0, 11, ns, eqs e2, k2, by decide, by decide, by decide, hl⟩ ((exn (F := []) e1 hcl).free hst) hcl ((exn e1 hcl).trans (exn e2 hst))
theorem rd_l_pick (K : PySem.W.Frag) {vs : List V} {H : Hp} {Q : VK} {E : XK} (h : spPick vs H Q E) :
    t_l_pick K { nx := fun _ H' => Q .non H', rt := Q } (start ["_law_stream", "_law_some"] vs) H := by
  obtain ⟨st, cl, c, l, xs, rfl, S, hc, hl, n1, n2, h0, h1, q⟩ := h
  refine ⟨_, rfl, ?_⟩
  refine ⟨_, rfl, ?_⟩
  refine ⟨_, rfl, ?_⟩
  refine lenSq hl ?_
  refine ⟨st, cl, c, (xs.length : Int), rfl, S, hc, by omega, by omega, fun k H1 g0 g1 S1 x1 => ?_⟩
  have hk : k.toNat < xs.length := by omega
  refine ixSq (hl.ex x1 (by simp [n1, n2])) (atN g0 (v := xs[k.toNat]) (by simp [hk])) ?_
  exact q k.toNat _ H1 (by simp [hk]) S1 x1
theorem rd_l_mixed (K : PySem.W.Frag) {vs : List V} {H : Hp} {Q : VK} {E : XK} (h : spMixed vs H Q E) :
    t_l_mixed K { nx := fun _ H' => Q .non H', rt := Q } (start ["_law_stream", "_law_some", "_law_left", "_law_k"] vs) H := by
  obtain ⟨st, cl, c, l, xs, rfl, S, hc, hl, hz, q⟩ := h
  have sz : sizeLine = 16777216 := sizeLine_eq
  have hst : H st ≠ none := S.trk st (by simp)
  have hcl : H cl ≠ none := S.trk cl (by simp)
  refine ⟨_, rfl, ?_⟩
  refine lstOfSq hl fun lf H1 hlf e1 => ?_
  have k1 : H1 lf = some (.lst xs) := eqs e1
  have x1 : ExF [st, cl] H H1 := exn e1 hlf
  have S1 : Strm st cl H1 c := S.ex' (F := []) (by simp) (by simp) (exn e1 hlf)
  have nls : lf ≠ st := fun z => hst (by rw [← z]; exact hlf)
  have nlc : lf ≠ cl := fun z => hcl (by rw [← z]; exact hlf)
  unfold t_l_mixed_t1 tRet tLcU
  refine ⟨_, rfl, ?_⟩
  refine lenL k1 ?_
  refine ⟨(xs.length : Int), rfl, by omega, by omega, ?_⟩
  have en : ((xs.length : Int)).toNat = xs.length := by omega
  rw [en]
  refine lcR (fun D i H' => ∃ acc rest : List V, (acc ++ rest).Perm xs ∧ acc.length = i ∧ H' D = some (.lst acc) ∧ H' lf = some (.lst rest) ∧ Strm st cl H' (c + i) ∧ ExF [lf, st, cl] H1 H') ?_ ?_ ?_
  · intro D H2 hD e2
    exact ⟨[], xs, .refl _, rfl, eqs e2, eqf e2 hD k1, S1.ex' (F := []) (by simp) (by simp) (exn e2 hD), exn e2 hD⟩
  · rintro D i H2 hD hi ⟨acc, rest, p, ha, kD, kl, S2, x2⟩
    have hr : acc.length + rest.length = xs.length := by rw [← List.length_append]; exact p.length_eq
    refine ⟨rfl, ?_⟩
    refine ⟨_, rfl, tyL kl, ?_⟩
    refine ⟨_, rfl, ?_⟩
    refine ⟨_, rfl, ?_⟩
    refine lenL kl ?_
    refine ⟨st, cl, c + i, (rest.length : Int), rfl, S2, by omega, by omega, by omega, fun k H3 g0 g1 S3 x3 => ?_⟩
    have hk : k.toNat < rest.length := by omega
    have hDn : D ∉ [st, cl] := by
      intro z
      rcases List.mem_cons.mp z with z | z
      · exact hst (by rw [← z]; exact (exn (F := []) e1 hlf).free hD)
      · exact hcl (by rw [← List.mem_singleton.mp z]; exact (exn (F := []) e1 hlf).free hD)
    have nlD : lf ≠ D := ne_of_none k1 hD
    have kl3 := x3.at_ _ _ (by simp [nls, nlc]) kl
    have kD3 := x3.at_ _ _ hDn kD
    refine popAt (k := k.toNat) kl3 g0 (by omega) (by omega) (y := rest[k.toNat]) (by simp [hk]) fun H4 e4 => ?_
    refine ⟨acc, eqn e4 nlD.symm kD3, by omega, ?_⟩
    generalize e5 : upd H4 D (.lst (acc ++ [rest[k.toNat]])) = H5
    have e5 := e5.symm
    refine ⟨acc ++ [rest[k.toNat]], rest.eraseIdx k.toNat, ?_, by simp [ha], eqs e5, eqn e5 nlD (eqs e4), ?_, ?_⟩
    · have pe := erase_perm (l := rest) (k := k.toNat) (y := rest[k.toNat]) (by simp [hk])
      rw [List.append_assoc]
      exact (List.Perm.append_left acc pe).trans p
    · have S4 : Strm st cl H4 (c + i + 1) := S3.ex' (F := [lf]) (by simp [nls.symm]) (by simp [nlc.symm]) (exm e4 (.inr (by simp)) ExF.refl)
      have S5 : Strm st cl H5 (c + i + 1) := S4.ex' (F := [D]) (by intro z; exact hDn (by rw [← List.mem_singleton.mp z]; simp)) (by intro z; exact hDn (by rw [← List.mem_singleton.mp z]; simp)) (exm e5 (.inr (by simp)) ExF.refl)
      rw [← Nat.add_assoc]
      exact S5
    · have y3 : ExF [lf, st, cl] H1 H3 := x2.trans x3.add
      exact exm e5 (.inl hD) (exm e4 (.inr (by simp)) y3)
  · rintro D H2 hD ⟨acc, rest, p, ha, kD, kl, S2, x2⟩
    have hr : rest = [] := by
      have h2 : acc.length + rest.length = xs.length := by rw [← List.length_append]; exact p.length_eq
      exact List.eq_nil_of_length_eq_zero (by omega)
    subst hr
    rw [List.append_nil] at p
    have xx : ExF [st, cl] H H2 := ((x1.add (p := lf)).trans x2).drop hlf
    exact q D acc H2 p ((exn (F := []) e1 hlf).free hD) kD S2 xx

end Tw
end

section
set_option Elab.async false
set_option linter.all false
set_option maxRecDepth 100000
set_option maxHeartbeats 1000000
namespace Tw
open PySem PySem.Spec PyProof.Rows L2 LamX NdefX
structure Ad0 where
  c : Nat → Addr
  cE : Addr
  PA : Addr
  PB : Addr
  PC : Addr
def qA : Str := "_law_made_a.<locals>.<lambda>"
def qB : Str := "_law_made_b.<locals>.<lambda>"
def qC : Str := "_law_made_c.<locals>.<lambda>"
/-! ### making one -/
def spErr (C : Addr) (fl : List Str) : Sp := fun vs H Q _ => ∃ (a : Addr) (ws : List V), vs = .ref a :: ws ∧ ws.length = fl.length ∧ H a = some (exo a C none) ∧
  ∀ dx H', H dx = none → dx ≠ a → H' a = some (exo a C (some dx)) → H' dx = some (exd dx (fl.zip ws).reverse) → (∀ b, b ≠ a → b ≠ dx → H' b = H b) → Q .non H'
theorem rd_init1 {K : PySem.W.Frag} {C : Addr} {f n : Str} {vs : List V} {H : Hp} {Q : VK} {E : XK} (hO : OexC K C) (hno : PySem.W.findIn K (.ref C) f = some none) (h : spErr C [f] vs H Q E) :
    tOst K f (tVar 0) (tVar 1) { nx := fun _ H' => Q .non H', rt := Q } (start ["self", n] vs) H := by
  obtain ⟨a, ws, rfl, hl, ha, q⟩ := h
  match ws, hl with
  | [v], _ =>
    refine ⟨_, rfl, _, rfl, a, C, rfl, hO, hno, .inl ⟨ha, fun dx hd ne => ?_⟩⟩
    exact q dx _ hd ne upd_same (by rw [upd_ne ne, upd_same]; rfl) fun b h1 h2 => by rw [upd_ne h1, upd_ne h2]
theorem rd_init2 {K : PySem.W.Frag} {C : Addr} {f g n m : Str} {vs : List V} {H : Hp} {Q : VK} {E : XK} (hO : OexC K C) (hno : PySem.W.findIn K (.ref C) f = some none) (hno2 : PySem.W.findIn K (.ref C) g = some none) (h : spErr C [f, g] vs H Q E) :
    tSeq (tOst K f (tVar 0) (tVar 1)) (tOst K g (tVar 0) (tVar 2)) { nx := fun _ H' => Q .non H', rt := Q } (start ["self", n, m] vs) H := by
  obtain ⟨a, ws, rfl, hl, ha, q⟩ := h
  match ws, hl with
  | [v, u], _ =>
    refine ⟨_, rfl, _, rfl, a, C, rfl, hO, hno, .inl ⟨ha, fun dx hd ne => ?_⟩⟩
    refine ⟨_, rfl, _, rfl, a, C, rfl, hO, hno2, .inr ⟨dx, _, upd_same, by rw [upd_ne ne, upd_same], by show 1 ≤ 900; decide, ?_⟩⟩
    refine q dx _ hd ne (by rw [upd_ne ne.symm, upd_same]) (by rw [upd_same]; rfl) fun b h1 h2 => by rw [upd_ne h2, upd_ne h1, upd_ne h2]
/-- such a value stands there -/
def ErrAt (M : List Addr) (H : Hp) (v : V) (C : Addr) (fl : List Str) (ws : List V) : Prop := ∃ a d fs, v = .ref a ∧ a ∉ M ∧ d ∉ M ∧ H a = some (exo a C (some d)) ∧ H d = some (exd d fs) ∧ fl.map (fun n => fs.lookup n) = ws.map some
theorem ErrAt.ex {M : List Addr} {H H' : Hp} {v : V} {C : Addr} {fl : List Str} {ws : List V} (h : ErrAt M H v C fl ws) (x : ExF M H H') : ErrAt M H' v C fl ws := by
  obtain ⟨a, d, fs, h1, h2, h3, h4, h5, h6⟩ := h
  exact ⟨a, d, fs, h1, h2, h3, x.at_ _ _ h2 h4, x.at_ _ _ h3 h5, h6⟩
theorem ErrAt.sub {M N : List Addr} {H : Hp} {v : V} {C : Addr} {fl : List Str} {ws : List V} (h : ErrAt M H v C fl ws) (x : ∀ a ∈ N, a ∈ M) : ErrAt N H v C fl ws := by
  obtain ⟨a, d, fs, h1, h2, h3, h4⟩ := h
  exact ⟨a, d, fs, h1, fun z => h2 (x _ z), fun z => h3 (x _ z), h4⟩
theorem mk_err {M : List Addr} {H : Hp} {C : Addr} {fl : List Str} {ws : List V} {Q : Addr → Hp → Prop} (tM : Trk M H) (hl : ws.length = fl.length) (hk : fl.map (fun n => (fl.zip ws).reverse.lookup n) = ws.map some)
    (q : ∀ a H', ExF [] H H' → ErrAt M H' (.ref a) C fl ws → Q a H') : ∀ a, H a = none → spErr C fl (.ref a :: ws) (upd H a (exo a C none)) (fun v H2 => v = .non ∧ Q a H2) E0 := fun a ha => by
  refine ⟨a, ws, rfl, hl, upd_same, fun dx H' hd ne e1 e2 e3 => ⟨rfl, ?_⟩⟩
  rw [upd_ne ne] at hd
  have e4 : ∀ b o, H b = some o → H' b = some o := fun b o e => by
    have n1 : b ≠ a := ne_of_none e ha
    rw [e3 b n1 (ne_of_none e hd), upd_ne n1]
    exact e
  refine q a H' ⟨fun b o _ e => e4 b o e, fun b e z => ?_⟩ ⟨a, dx, _, rfl, tM.nin ha, tM.nin hd, e1, e2, hk⟩
  cases hb : H b with
  | none => exact e hb
  | some o => rw [e4 b o hb] at z; cases z
theorem flk1 {f : Str} {x : V} : [f].map (fun n => (([f].zip [x]).reverse).lookup n) = [x].map some := by simp [List.lookup]
theorem flk2 {f g : Str} {x y : V} (h : (f == g) = false) : [f, g].map (fun n => (([f, g].zip [x, y]).reverse).lookup n) = [x, y].map some := by
  simp [List.lookup, h]
def revV : List V → List V → List V := fun vs zs => vs ++ zs.reverse
/-! ### the field lambdas -/
def IsFld (fl : List Str) (F : LF) : Prop := F.cl = [] ∧ (∀ (pm ctv : Value) (us : List Value), us.length = 1 → bindArgs (PySem.W.kla_fn "<lambda>" F.qual F.params F.body F.scope F.cl pm (.ref F.c) ctv) ⟨us, []⟩ = pure ((["_law_e"] : List Str).zip us)) ∧ NScope ["_law_e"] ["_law_e"] [] F.scope ∧
  ((∃ a p1 p2 p3, fl = [a] ∧ F.body = .List [.Attribute (.Name "_law_e" p1) a p2] p3) ∨ ∃ a b p1 p2 p3 p4 p5, fl = [a, b] ∧ F.body = .List [.Attribute (.Name "_law_e" p1) a p2, .Attribute (.Name "_law_e" p3) b p4] p5)
def tLamW (P : Addr) (q : Str) (S : LF → Prop) : TE := fun σ H Q => TabS H P q ∧ ∀ (f : Addr) (F : LF) (H1 : Hp), S F → F.qual = q → ExF [P] H H1 → TabS H1 P q → H f = none → H1 f = some (LamO f F) → H1 F.c = some (CodeO F.c F.qual) → Q (.ref f) H1
theorem pe_lamW {X : Cx} {c P : Addr} {q : Str} {params : Arguments} {body : Expr} {scope : Scope} {pos : Pos} (S : LF → Prop) (TB : TabB X.base X.mg c P) (hcode : X.env.code = .ref c) (hq : X.env.qual ++ "<lambda>" = q) (hS : ∀ c' : Addr, S ⟨q, params, body, scope, [], c'⟩)
    (hdef : defaultsOf params X.env = ([], []) := by rfl) (hno : (scope.names.all fun y => !decide (y.2 = .free)) = true := by decide) : PE X (.Lambda params body scope pos) (tLamW P q S) :=
  ⟨fun pins s σ H Q I h => (pe_lamV TB hcode hq hdef hno).run pins s σ H Q I ⟨h.1, fun f c' H1 x T h0 h1 h2 => h.2 f _ H1 (hS c') rfl x T h0 h1 h2⟩⟩
/-- e's fields in a new list -/
def spFld (XF : Addr → Str → Prop) (fl : List Str) : Sp := fun vs H Q _ => ∃ (v : V) (C : Addr) (ws : List V), vs = [v] ∧ (∀ f ∈ fl, XF C f) ∧ ErrAt [] H v C fl ws ∧ ∀ p H', H p = none → sysModules < p → H' = upd H p (.lst ws) → Q (.ref p) H'
theorem lok_fld {P : Program} {w : World} {K : PySem.W.Frag} {mg : Str → Option Value} {base : Heap} {XF : Addr → Str → Prop} {fl : List Str} {F : LF} {f : Addr} (T : ∀ C f, XF C f → XfC K C ∧ PySem.W.findIn K (.ref C) f = some none) (h : IsFld fl F) : LOk P w K mg base CX0 1 f F ["_law_e"] (spFld XF fl) := by
  obtain ⟨h1, h2, h3, h4⟩ := h
  refine lok_of h3 h1 (fun pm ctv us hl => h2 pm ctv us hl) (fun vs H Q E h => ?_) fun A outer s H vs Q E hr hs => ?_
  · obtain ⟨_, _, _, rfl, _⟩ := h; rfl
  · obtain ⟨v, C, ws, rfl, hX, hE, q⟩ := hs
    obtain ⟨a, d, fs, rfl, _, _, e1, e2, e3⟩ := hE
    have pv0 : ∀ p1, PE (ncx CX0 P w K mg base ["_law_e"] F.nf f A outer s H E) (.Name "_law_e" p1) (tVar 0) := fun p1 => pe_var (i := 0) rfl (.inl (h3.par "_law_e" (by simp)))
    rcases h4 with ⟨a1, p1, p2, p3, rfl, hb⟩ | ⟨a1, a2, p1, p2, p3, p4, p5, rfl, hb⟩
    · rw [hb]
      refine ⟨_, pe_lstB (pa_cons (pe_xfW T (pv0 p1)) pa_nil), ?_⟩
      have hl : ws.length = 1 := by have := congrArg List.length e3; simpa using this.symm
      match ws, hl, e3 with
      | [w1], _, e3 =>
        simp only [List.map_cons, List.map_nil, List.cons.injEq, and_true] at e3
        exact ⟨_, rfl, C, a, d, fs, w1, hX _ (by simp), rfl, e1, e2, e3, ⟨by show 1 ≤ sizeLine; decide, q⟩⟩
    · rw [hb]
      refine ⟨_, pe_lstB (pa_cons (pe_xfW T (pv0 p1)) (pa_cons (pe_xfW T (pv0 p3)) pa_nil)), ?_⟩
      have hl : ws.length = 2 := by have := congrArg List.length e3; simpa using this.symm
      match ws, hl, e3 with
      | [w1, w2], _, e3 =>
        simp only [List.map_cons, List.map_nil, List.cons.injEq, and_true] at e3
        exact ⟨_, rfl, C, a, d, fs, w1, hX _ (by simp), rfl, e1, e2, e3.1, _, rfl, C, a, d, fs, w2, hX _ (by simp), rfl, e1, e2, e3.2, ⟨by show 2 ≤ sizeLine; decide, q⟩⟩
def FldS (XF : Addr → Str → Prop) (F : LF) (sp : Sp) : Prop := ∃ fl, IsFld fl F ∧ sp = spFld XF fl
/-! ### one row: (C(..), C(..=..), the lambda, [..]) -/
def Ent (M : List Addr) (H : Hp) (it : V) (C : Addr) (fl : List Str) (ws : List V) : Prop := ∃ p e1 e2 f l F, it = .ref p ∧ p ∉ M ∧ H p = some (.tup [e1, e2, .ref f, .ref l]) ∧ ErrAt M H e1 C fl ws ∧ ErrAt M H e2 C fl ws ∧ f ∉ M ∧ H f = some (LamO f F) ∧ IsFld fl F ∧ F.c ∉ M ∧ H F.c = some (CodeO F.c F.qual) ∧ l ∉ M ∧ sysModules < l ∧ H l = some (.lst ws)
theorem Ent.ex {M : List Addr} {H H' : Hp} {it : V} {C : Addr} {fl : List Str} {ws : List V} (h : Ent M H it C fl ws) (x : ExF M H H') : Ent M H' it C fl ws := by
  obtain ⟨p, e1, e2, f, l, F, h0, h1, h2, h3, h4, h5, h6, h7, h8, h9, h10, h11, h12⟩ := h
  exact ⟨p, e1, e2, f, l, F, h0, h1, x.at_ _ _ h1 h2, h3.ex x, h4.ex x, h5, x.at_ _ _ h5 h6, h7, h8, x.at_ _ _ h8 h9, h10, h11, x.at_ _ _ h10 h12⟩
theorem Ent.sub {M N : List Addr} {H : Hp} {it : V} {C : Addr} {fl : List Str} {ws : List V} (h : Ent M H it C fl ws) (x : ∀ a ∈ N, a ∈ M) : Ent N H it C fl ws := by
  obtain ⟨p, e1, e2, f, l, F, h0, h1, h2, h3, h4, h5, h6, h7, h8, h9, h10, h11, h12⟩ := h
  exact ⟨p, e1, e2, f, l, F, h0, fun z => h1 (x _ z), h2, h3.sub x, h4.sub x, fun z => h5 (x _ z), h6, h7, fun z => h8 (x _ z), h9, fun z => h10 (x _ z), h11, h12⟩
abbrev RowS := Addr × List Str × List V
def Ents (M : List Addr) (H : Hp) (its : List V) (rs : List RowS) : Prop := its.length = rs.length ∧ ∀ (i : Nat) it r, its[i]? = some it → rs[i]? = some r → Ent M H it r.1 r.2.1 r.2.2
theorem Ents.nil {M : List Addr} {H : Hp} : Ents M H [] [] := ⟨rfl, fun i it r h _ => by simp at h⟩
theorem Ents.ex {M : List Addr} {H H' : Hp} {its : List V} {rs : List RowS} (h : Ents M H its rs) (x : ExF M H H') : Ents M H' its rs := ⟨h.1, fun i it r h1 h2 => (h.2 i it r h1 h2).ex x⟩
theorem Ents.sub {M N : List Addr} {H : Hp} {its : List V} {rs : List RowS} (h : Ents M H its rs) (x : ∀ a ∈ N, a ∈ M) : Ents N H its rs := ⟨h.1, fun i it r h1 h2 => (h.2 i it r h1 h2).sub x⟩
theorem Ents.append {M : List Addr} {H : Hp} {its jts : List V} {rs qs : List RowS} (h : Ents M H its rs) (k : Ents M H jts qs) : Ents M H (its ++ jts) (rs ++ qs) := by
  refine ⟨by simp [h.1, k.1], fun i it r h1 h2 => ?_⟩
  by_cases hi : i < its.length
  · rw [List.getElem?_append_left hi] at h1
    rw [List.getElem?_append_left (by rw [← h.1]; exact hi)] at h2
    exact h.2 i it r h1 h2
  · rw [List.getElem?_append_right (by omega)] at h1
    rw [List.getElem?_append_right (by rw [← h.1]; omega), ← h.1] at h2
    exact k.2 _ it r h1 h2
theorem Ents.snoc {M : List Addr} {H : Hp} {its : List V} {rs : List RowS} {it : V} {C : Addr} {fl : List Str} {ws : List V} (h : Ents M H its rs) (k : Ent M H it C fl ws) : Ents M H (its ++ [it]) (rs ++ [(C, fl, ws)]) :=
  h.append ⟨rfl, fun i u r h1 h2 => by
    cases i with
    | zero => cases h1; cases h2; exact k
    | succ i => simp at h1⟩
def Pure (ta : TA) (σ : L2.St) (ws : List V) : Prop := ∀ H (R : List V → Hp → Prop), R ws H → ta σ H R
theorem pure1 {i : Nat} {σ : L2.St} {x : V} (h : σ[i]? = some (some x)) : Pure (tCons (tVar i) tNil) σ [x] := fun H R r => ⟨x, h, r⟩
theorem pure2 {i j : Nat} {σ : L2.St} {x y : V} (h : σ[i]? = some (some x)) (k : σ[j]? = some (some y)) : Pure (tCons (tVar i) (tCons (tVar j) tNil)) σ [x, y] := fun H R r => ⟨x, h, y, k, r⟩
/-- what stands while the rows are made -/
structure MadeSt (G : List Addr) (l P : Addr) (q : Str) (H0 H : Hp) (its : List V) (rs : List RowS) : Prop where
  tab : TabS H P q
  hl : H l = some (.lst its)
  en : Ents (l :: G) H its rs
  ex : ExF [P] H0 H
  lz : its.length ≤ 1000
  l0 : H0 l = none
  trk : Trk G H0
  pG : P ∈ G
  gc : ∀ H', ExF [P] H0 H' → TabS H' P q → ∀ c s, H' c = some (CodeO c s) → c ∉ G
theorem tab_keep {H H' : Hp} {P l : Addr} {q : Str} {its : List V} (T : TabS H P q) (hl : H l = some (.lst its)) (x : ExF [l] H H') : TabS H' P q := by
  obtain ⟨ps, hP, ht, ha⟩ := T
  have ne : ∀ {b : Addr} {o : HO}, H b = some o → (∀ xs, o ≠ .lst xs) → b ≠ l := fun {b o} e n z => by
    rw [z, hl] at e
    exact n _ (Option.some.inj e).symm
  refine ⟨ps, x.at_ _ _ (by simpa using ne hP (fun xs z => by cases z)) hP, ht, fun pos cv hc => ?_⟩
  obtain ⟨c, e, h⟩ := ha pos cv hc
  exact ⟨c, e, x.at_ _ _ (by simpa using ne h (fun xs z => by unfold CodeO at z; cases z)) h⟩
theorem addE {K : PySem.W.Frag} {D : Ends} {σ : L2.St} {H0 H : Hp} {l P : Addr} {q : Str} {G : List Addr} {C : Addr} {fl : List Str} {ws its : List V} {rs : List RowS} {ta1 ta2 ta3 : TA} {n : Nat} (m : MadeSt G l P q H0 H its rs) (h3 : σ[3]? = some (some (.ref l))) (p1 : Pure ta1 σ ws) (p2 : Pure ta2 σ ws.reverse) (p3 : Pure ta3 σ ws)
    (hn : ws.length = n) (hn3 : n ≤ 10) (hl : ws.length = fl.length) (hk : fl.map (fun n => (fl.zip ws).reverse.lookup n) = ws.map some) (hz : its.length < 1000)
    (k : ∀ it H', MadeSt G l P q H0 H' (its ++ [it]) (rs ++ [(C, fl, ws)]) → D.nx σ H') :
    tDrop (tBM K "list" (rAppendU) (tVar 3) (tCons (tTupU (tCons (tMkV C (spErr C fl) ta1) (tCons (tMkKV C (spErr C fl) revV n ta2) (tCons (tLamW P q (IsFld fl)) (tCons (tLstB ta3) (tNil)))))) (tNil))) D σ H := by
  have sz : sizeLine = 16777216 := sizeLine_eq
  have tG : Trk G H := m.trk.ex m.ex
  have nlG : l ∉ G := m.trk.nin m.l0
  have tM : Trk (l :: G) H := tG.cons m.hl
  refine ⟨_, h3, tyL m.hl, ?_⟩
  unfold tTupU
  refine p1 H _ ⟨by omega, ?_⟩
  refine mk_err (C := C) (M := l :: G) tM hl hk fun v1 H1 x1 r1 => ?_
  refine p2 H1 _ ⟨by rw [List.length_reverse]; exact hn, ?_⟩
  have er : ∀ a : Addr, revV [V.ref a] ws.reverse = V.ref a :: ws := fun a => by unfold revV; rw [List.reverse_reverse]; rfl
  simp only [er]
  refine mk_err (C := C) (M := l :: G) (tM.ex x1) hl hk fun v2 H2 x2 r2 => ?_
  have T2 : TabS H2 P q := m.tab.ext fun b o e => (x1.trans x2).at_ _ _ (by simp) e
  refine ⟨T2, fun f F H3 hF hq x3 T3 f0 f1 c1 => ?_⟩
  have lP : l ≠ P := fun z => by rw [z] at nlG; exact nlG m.pG
  have l3 : H3 l = some (.lst its) := x3.at_ _ _ (by simp [lP]) ((x1.trans x2).at_ _ _ (by simp) m.hl)
  have x03 : ExF [P] H0 H3 := m.ex.trans ((x1.trans x2).of.trans x3)
  have tM3 : Trk (l :: G) H3 := (tM.ex (x1.trans x2)).ex x3
  have xM3 : ExF (l :: G) H2 H3 := x3.sub (fun a z => by rw [List.mem_singleton.mp z]; exact List.mem_cons_of_mem _ m.pG)
  have fM : f ∉ l :: G := (tM.ex (x1.trans x2)).nin f0
  have cG : F.c ∉ l :: G := fun z => by
    rcases List.mem_cons.mp z with z | z
    · rw [z, l3] at c1
      unfold CodeO at c1
      cases c1
    · exact m.gc H3 x03 T3 _ _ c1 z
  refine p3 H3 _ ⟨by omega, fun p4 H4 n4 b4 e4 => ?_⟩
  have x4 : ExF (l :: G) H3 H4 := exn e4 n4
  refine ⟨by show 4 ≤ sizeLine; decide, fun p5 H5 n5 e5 => ?_⟩
  have x5 : ExF (l :: G) H4 H5 := exn e5 n5
  have n5M : p5 ∉ l :: G := (tM3.ex x4).nin n5
  have l5 : H5 l = some (.lst its) := eqf e5 n5 (eqf e4 n4 l3)
  refine app l5 (by omega) fun H6 e6 => ?_
  have x6 : ExF [l] H5 H6 := exm e6 (.inr (by simp)) ExF.refl
  have x6M : ExF (l :: G) H5 H6 := x6.sub (by simp)
  have x25 : ExF (l :: G) H2 H6 := ((xM3.trans x4).trans x5).trans x6M
  have x06 : ExF (l :: G) H H6 := ((x1.trans x2).of (G := l :: G)).trans x25
  have y06 : ExF [P] H0 H6 := by
    have y : ExF [l, P] H0 H6 := (((x03.sub (by simp)).trans (exn e4 n4)).trans (exn e5 n5)).trans (x6.sub (by simp))
    exact y.drop m.l0
  have T5 : TabS H5 P q := T3.ext fun b o e => eqf e5 n5 (eqf e4 n4 e)
  have T6 : TabS H6 P q := tab_keep T5 l5 x6
  refine k (.ref p5) H6 ⟨T6, eqs e6, (m.en.ex x06).snoc ?_, y06, by simp; omega, m.l0, m.trk, m.pG, m.gc⟩
  refine ⟨p5, .ref v1, .ref v2, f, p4, F, rfl, n5M, x6M.at_ _ _ n5M (eqs e5), (r1.ex ((x2.of).trans x25)), r2.ex x25, fM, ?_, hF, cG, ?_, tM3.nin n4, b4, ?_⟩
  · exact ((x4.trans x5).trans x6M).at_ _ _ fM f1
  · exact ((x4.trans x5).trans x6M).at_ _ _ cG c1
  · exact (x5.trans x6M).at_ _ _ (tM3.nin n4) (eqs e4)
end Tw
end

section
set_option Elab.async false
set_option linter.all false
set_option maxRecDepth 100000
set_option maxHeartbeats 1000000
namespace Tw
open PySem PySem.Spec PyProof.Rows L2 LamX NdefX
/-! ### texts -/
theorem str_app_len (a b : Str) : (a ++ b).length = a.length + b.length := by
  show (Str.mk (a.cps ++ b.cps)).cps.size = _
  simp [Str.length]
theorem textFrom_le : ∀ (ts : List Str) (k : Nat) (acc : Str), (textFrom k acc ts).length ≤ acc.length + piled ts
  | [], k, acc => by show acc.length ≤ _; omega
  | t :: r, k, acc => by
    have c2 : (Str.ofString (if k > 0 then ", " else "" : String)).length ≤ 2 := by split <;> decide
    unfold textFrom
    have ih := textFrom_le r (k + 1) (acc ++ (if k > 0 then ", " else "" : String) ++ t)
    have e1 := str_app_len (acc ++ Str.ofString (if k > 0 then ", " else "" : String)) t
    have e2 := str_app_len acc (Str.ofString (if k > 0 then ", " else "" : String))
    rw [piled_cons]
    omega
theorem listText_le (ts : List Str) : (listText ts).length ≤ piled ts + 2 := by
  unfold listText
  rw [str_app_len]
  have h := textFrom_le ts 0 "["
  have e1 : ("[" : Str).length = 1 := by decide
  have e2 : ("]" : Str).length = 1 := by decide
  omega
/-! ### the classes -/
def FLT : List (List Str) := [(["thing"] : List Str), (["thing"] : List Str), (["thing"] : List Str), (["thing"] : List Str), (["thing"] : List Str), (["thing"] : List Str), (["index"] : List Str), (["index"] : List Str), (["thing"] : List Str), (["index"] : List Str), (["index"] : List Str), (["thing"] : List Str), (["thing"] : List Str), (["thing"] : List Str), (["index"] : List Str), (["thing"] : List Str), (["thing"] : List Str), (["thing"] : List Str), (["thing"] : List Str), (["index"] : List Str), (["index"] : List Str), (["index"] : List Str), (["index"] : List Str), (["thing"] : List Str), (["index"] : List Str), (["thing"] : List Str), (["index"] : List Str), (["thing"] : List Str), (["index"] : List Str), (["line", "sign"] : List Str), (["question"] : List Str), (["question"] : List Str), (["thing"] : List Str), (["thing"] : List Str), (["hour"] : List Str), (["thing"] : List Str), (["hour", "slot"] : List Str), (["index"] : List Str), (["thing"] : List Str), (["thing"] : List Str), (["fault"] : List Str), (["question"] : List Str), (["question", "why"] : List Str)]
def flds (i : Nat) : List Str := FLT.getD i []
def argsOf (fl : List Str) (x y : V) : List V := match fl with
  | [_] => [x]
  | _ => [x, y]
def specOf (D : Ad0) (x y : V) (i : Nat) : RowS := (D.c i, flds i, argsOf (flds i) x y)
def XC (D : Ad0) (a : Addr) : Prop := (∃ i, i < 43 ∧ a = D.c i) ∨ a = D.cE
def XF (D : Ad0) (C : Addr) (f : Str) : Prop := ∃ i, i < 43 ∧ C = D.c i ∧ f ∈ flds i
/-- what isinstance says of them -/
structure Kit0 (K : PySem.W.Frag) (D : Ad0) : Prop where
  kk : ∀ i j, i < 43 → j < 43 → PySem.W.kitOne K (.ref (D.c i)) (.ref (D.c j)) = some (decide (i = j))
  kE : ∀ i, i < 43 → PySem.W.kitOne K (.ref (D.c i)) (.ref D.cE) = some true
  kV : ∀ i, i < 43 → PySem.W.kitOne K (.ref (D.c i)) (.type "ValueError") = some true
  kL : ∀ i, i < 43 → PySem.W.kitOne K (.ref (D.c i)) (.type "LookupError") = some false
  eC : ∀ j, j < 43 → PySem.W.kitOne K (.ref D.cE) (.ref (D.c j)) = some false
  eV : PySem.W.kitOne K (.ref D.cE) (.type "ValueError") = some true
def IsX (D : Ad0) (H : Hp) (v : V) (bs : Nat → Bool) : Prop := (∃ i fl ws, i < 43 ∧ ErrAt [] H v (D.c i) fl ws ∧ bs = fun j => decide (i = j)) ∨ ∃ a, v = .ref a ∧ H a = some (ExO (.ref D.cE) a) ∧ bs = fun _ => false
theorem IsX.ex {D : Ad0} {H H' : Hp} {v : V} {bs : Nat → Bool} (h : IsX D H v bs) (x : ExF [] H H') : IsX D H' v bs := by
  rcases h with ⟨i, fl, ws, h1, h2, h3⟩ | ⟨a, h1, h2, h3⟩
  · exact .inl ⟨i, fl, ws, h1, h2.ex x, h3⟩
  · exact .inr ⟨a, h1, x.at_ _ _ (by simp) h2, h3⟩
section
variable {K : PySem.W.Frag} {D : Ad0} {H : Hp} {v : V} {bs : Nat → Bool} {Q : VK}
theorem isx (T : Kit0 K D) (h : IsX D H v bs) {j : Nat} (hj : j < 43) (q : Q (.bl (bs j)) H) : rIsX K (XC D) [v, .ref (D.c j)] H Q := by
  rcases h with ⟨i, fl, ws, hi, ⟨a, d, fs, rfl, _, _, e1, e2, _⟩, rfl⟩ | ⟨a, rfl, e1, rfl⟩
  · exact .inl ⟨a, D.c i, d, fs, _, .ref (D.c j), decide (i = j), rfl, .inl ⟨i, hi, rfl⟩, e1, e2, fun u r => by cases r; rfl, T.kk i j hi hj, q⟩
  · exact .inr ⟨a, D.cE, _, .ref (D.c j), false, rfl, .inr rfl, e1, fun u r => by cases r; rfl, T.eC j hj, q⟩
theorem isxE (T : Kit0 K D) {i : Nat} {fl : List Str} {ws : List V} (hi : i < 43) (h : ErrAt [] H v (D.c i) fl ws) (q : Q (.bl true) H) : rIsX K (XC D) [v, .ref D.cE] H Q := by
  obtain ⟨a, d, fs, rfl, _, _, e1, e2, _⟩ := h
  exact .inl ⟨a, D.c i, d, fs, _, .ref D.cE, true, rfl, .inl ⟨i, hi, rfl⟩, e1, e2, fun u r => by cases r; rfl, T.kE i hi, q⟩
theorem isxV (T : Kit0 K D) {i : Nat} {fl : List Str} {ws : List V} (hi : i < 43) (h : ErrAt [] H v (D.c i) fl ws) (q : Q (.bl true) H) : rIsX K (XC D) [v, .ty "ValueError"] H Q := by
  obtain ⟨a, d, fs, rfl, _, _, e1, e2, _⟩ := h
  exact .inl ⟨a, D.c i, d, fs, _, .type "ValueError", true, rfl, .inl ⟨i, hi, rfl⟩, e1, e2, fun u r => by cases r; rfl, T.kV i hi, q⟩
theorem isxL (T : Kit0 K D) {i : Nat} {fl : List Str} {ws : List V} (hi : i < 43) (h : ErrAt [] H v (D.c i) fl ws) (q : Q (.bl false) H) : rIsX K (XC D) [v, .ty "LookupError"] H Q := by
  obtain ⟨a, d, fs, rfl, _, _, e1, e2, _⟩ := h
  exact .inl ⟨a, D.c i, d, fs, _, .type "LookupError", false, rfl, .inl ⟨i, hi, rfl⟩, e1, e2, fun u r => by cases r; rfl, T.kL i hi, q⟩
theorem isxEV (T : Kit0 K D) {a : Addr} (h : H a = some (ExO (.ref D.cE) a)) (q : Q (.bl true) H) : rIsX K (XC D) [.ref a, .ty "ValueError"] H Q :=
  .inr ⟨a, D.cE, _, .type "ValueError", true, rfl, .inr rfl, h, fun u r => by cases r; rfl, T.eV, q⟩
end
/-! ### the guard: the spring, the tables -/
abbrev GL (D : Ad0) (st cl : Addr) : List Addr := [st, cl, D.PA, D.PB, D.PC]
structure Gd (D : Ad0) (st cl : Addr) (c : Nat) (H : Hp) : Prop where
  S : Strm st cl H c
  tA : TabS H D.PA qA
  tB : TabS H D.PB qB
  tC : TabS H D.PC qC
  nAB : D.PA ≠ D.PB
  nAC : D.PA ≠ D.PC
  nBC : D.PB ≠ D.PC
theorem tab_ex {H H' : Hp} {P : Addr} {q : Str} {F : List Addr} (T : TabS H P q) (nP : P ∉ F) (n : ∀ c s, H c = some (CodeO c s) → c ∉ F) (x : ExF F H H') : TabS H' P q := by
  obtain ⟨ps, hP, ht, ha⟩ := T
  refine ⟨ps, x.at_ _ _ nP hP, ht, fun pos cv hc => ?_⟩
  obtain ⟨c, e, h⟩ := ha pos cv hc
  exact ⟨c, e, x.at_ _ _ (n _ _ h) h⟩
theorem codeO_tbl {H : Hp} {P c : Addr} {q s : Str} (T : TabS H P q) (h : H c = some (CodeO c s)) : c ≠ P := fun z => by
  obtain ⟨ps, hP, _⟩ := T
  rw [z, hP] at h
  unfold CodeO at h
  cases h
theorem codeO_lst {H : Hp} {l c : Addr} {xs : List V} {s : Str} (T : H l = some (.lst xs)) (h : H c = some (CodeO c s)) : c ≠ l := fun z => by
  rw [z, T] at h
  unfold CodeO at h
  cases h
theorem tbl_lst {H : Hp} {l P : Addr} {xs : List V} {q : Str} (T : TabS H P q) (h : H l = some (.lst xs)) : l ≠ P := fun z => by
  obtain ⟨ps, hP, _⟩ := T
  rw [z, hP] at h
  cases h
section
variable {D : Ad0} {st cl : Addr} {c c' : Nat} {H H' : Hp} {P : Addr} {q : Str}
theorem Gd.trk (g : Gd D st cl c H) : Trk (GL D st cl) H := fun a z => by
  have tt : ∀ {P : Addr} {q : Str}, TabS H P q → H P ≠ none := fun T z => by obtain ⟨ps, hP, _⟩ := T; rw [hP] at z; cases z
  simp only [List.mem_cons, List.not_mem_nil, or_false] at z
  rcases z with z | z | z | z | z <;> rw [z]
  · exact g.S.trk _ (by simp)
  · exact g.S.trk _ (by simp)
  · exact tt g.tA
  · exact tt g.tB
  · exact tt g.tC
theorem Gd.code (g : Gd D st cl c H) : ∀ c s, H c = some (CodeO c s) → c ∉ GL D st cl := fun b s h z => by
  obtain ⟨a1, a2, ns, h1, h2, _⟩ := g.S.ex
  simp only [List.mem_cons, List.not_mem_nil, or_false] at z
  rcases z with z | z | z | z | z
  · exact codeO_lst h1 h z
  · exact codeO_lst h2 h z
  · exact codeO_tbl g.tA h z
  · exact codeO_tbl g.tB h z
  · exact codeO_tbl g.tC h z
theorem Gd.ex (g : Gd D st cl c H) (x : ExF [] H H') : Gd D st cl c H' :=
  ⟨g.S.ex' (F := []) (by simp) (by simp) x, g.tA.ext fun b o e => x.at_ _ _ (by simp) e, g.tB.ext fun b o e => x.at_ _ _ (by simp) e, g.tC.ext fun b o e => x.at_ _ _ (by simp) e, g.nAB, g.nAC, g.nBC⟩
/-- behind a draw -/
theorem Gd.drawn (g : Gd D st cl c H) (S : Strm st cl H' c') (x : ExF [st, cl] H H') : Gd D st cl c' H' := by
  obtain ⟨a1, a2, ns, h1, h2, _⟩ := g.S.ex
  have cN : ∀ b s, H b = some (CodeO b s) → b ∉ [st, cl] := fun b s h z => by
    simp only [List.mem_cons, List.not_mem_nil, or_false] at z
    rcases z with z | z
    · exact codeO_lst h1 h z
    · exact codeO_lst h2 h z
  have pN : ∀ {P : Addr} {q : Str}, TabS H P q → P ∉ [st, cl] := fun T z => by
    simp only [List.mem_cons, List.not_mem_nil, or_false] at z
    rcases z with z | z
    · exact tbl_lst T h1 z.symm
    · exact tbl_lst T h2 z.symm
  exact ⟨S, tab_ex g.tA (pN g.tA) cN x, tab_ex g.tB (pN g.tB) cN x, tab_ex g.tC (pN g.tC) cN x, g.nAB, g.nAC, g.nBC⟩
/-- one of the three tables, its name -/
inductive Tq (D : Ad0) : Addr → Str → Prop
  | A : Tq D D.PA qA
  | B : Tq D D.PB qB
  | C : Tq D D.PC qC
theorem Gd.tab (g : Gd D st cl c H) (h : Tq D P q) : TabS H P q := by
  cases h
  · exact g.tA
  · exact g.tB
  · exact g.tC
theorem Gd.tabbed (g : Gd D st cl c H) (h : Tq D P q) (x : ExF [P] H H') (T : TabS H' P q) : Gd D st cl c H' := by
  obtain ⟨a1, a2, ns, h1, h2, r⟩ := g.S.ex
  have T0 := g.tab h
  have cN : ∀ b s, H b = some (CodeO b s) → b ∉ [P] := fun b s h z => codeO_tbl T0 h (List.mem_singleton.mp z)
  have S' : Strm st cl H' c := ⟨a1, a2, ns, x.at_ _ _ (fun z => tbl_lst T0 h1 (List.mem_singleton.mp z)) h1, x.at_ _ _ (fun z => tbl_lst T0 h2 (List.mem_singleton.mp z)) h2, r⟩
  cases h
  · exact ⟨S', T, tab_ex g.tB (by simpa using g.nAB.symm) cN x, tab_ex g.tC (by simpa using g.nAC.symm) cN x, g.nAB, g.nAC, g.nBC⟩
  · exact ⟨S', tab_ex g.tA (by simpa using g.nAB) cN x, T, tab_ex g.tC (by simpa using g.nBC.symm) cN x, g.nAB, g.nAC, g.nBC⟩
  · exact ⟨S', tab_ex g.tA (by simpa using g.nAC) cN x, tab_ex g.tB (by simpa using g.nBC) cN x, T, g.nAB, g.nAC, g.nBC⟩
theorem Tq.mem {D : Ad0} {P : Addr} {q : Str} (h : Tq D P q) (st cl : Addr) : P ∈ GL D st cl := by cases h <;> simp
theorem Gd.trkN {N : List Addr} (g : Gd D st cl c H) (hN : ∀ a ∈ N, ∃ xs, H a = some (.lst xs)) : Trk (N ++ GL D st cl) H := fun a z => by
  rcases List.mem_append.mp z with z | z
  · obtain ⟨xs, h⟩ := hN a z; rw [h]; exact fun z => nomatch z
  · exact g.trk a z
theorem Gd.codeN {N : List Addr} (g : Gd D st cl c H) (tq : Tq D P q) (hN : ∀ a ∈ N, ∃ xs, H a = some (.lst xs)) : ∀ H', ExF [P] H H' → TabS H' P q → ∀ c s, H' c = some (CodeO c s) → c ∉ N ++ GL D st cl := fun H' x T b s h z => by
  rcases List.mem_append.mp z with z | z
  · obtain ⟨xs, k⟩ := hN b z
    exact codeO_lst (x.at_ _ _ (by simpa using tbl_lst (g.tab tq) k) k) h rfl
  · exact (g.tabbed tq x T).code b s h z
end
/-! ### promises -/
def spMade (D : Ad0) (P : Addr) (q : Str) (lo n : Nat) : Sp := fun vs H Q _ => ∃ (st cl : Addr) (c : Nat) (x y z : V) (N : List Addr), vs = [x, y, z] ∧ Gd D st cl c H ∧ Tq D P q ∧ (∀ a ∈ N, ∃ xs, H a = some (.lst xs)) ∧
  ∀ r its H', Gd D st cl c H' → ExF [P] H H' → H r = none → H' r = some (.lst its) → Ents (N ++ GL D st cl) H' its ((List.range n).map fun k => specOf D x y (lo + k)) → Q (.ref r) H'
def spKinds (D : Ad0) (lo n : Nat) : Sp := fun vs H Q _ => ∃ (v : V) (bs : Nat → Bool), vs = [v] ∧ IsX D H v bs ∧ ∀ r H', H r = none → H' r = some (.lst ((List.range n).map fun k => V.bl (bs (lo + k)))) → ExF [] H H' → Q (.ref r) H'
def spIsOwn (D : Ad0) : Sp := fun vs H Q _ => ∃ (v : V) (i : Nat) (fl : List Str) (ws : List V), vs = [v, .int (i : Nat)] ∧ i < 43 ∧ ErrAt [] H v (D.c i) fl ws ∧ ∀ H', ExF [] H H' → Q (.bl true) H'
/-- a thing that repr shows shortly -/
def shOk (d : PyData) : Bool := d.showable && decide (d.depth ≤ 10) && decide (d.shown.length ≤ 200)
def spThese : Sp := fun vs H Q _ => ∃ (a b : Addr) (xs : List V) (ds : List PyData), vs = [.ref a, .ref b] ∧ sysModules < a ∧ sysModules < b ∧ H a = some (.lst xs) ∧ H b = some (.lst xs) ∧ ShL [] H xs ds ∧ ds.length ≤ 2 ∧ (∀ d ∈ ds, shOk d = true) ∧ ∀ H', ExF [] H H' → Q (.bl true) H'
/-! ### extend by two truths, by one -/
section
variable {K : PySem.W.Frag} {D : Ad0} {E : Ends} {σ : L2.St} {H : Hp} {v : V} {bs : Nat → Bool} {l : Addr} {its : List V} {i j n : Nat}
theorem ext2 (T : Kit0 K D) (h0 : σ[0]? = some (some v)) (h1 : σ[1]? = some (some (.ref l))) (hx : IsX D H v bs) (hl : H l = some (.lst its)) (hz : its.length ≤ 1000) (hi : i < 43) (hj : j < 43)
    (k : ∀ H', ExF [l] H H' → IsX D H' v bs → H' l = some (.lst (its ++ [.bl (bs i), .bl (bs j)])) → E.nx σ H') :
    tDrop (tBM K "list" (rExtU K) (tVar 1) (tCons (tLstU (tCons (tCB (rIsX K (XC D)) (tCons (tVar 0) (tCons (tC (.ref (D.c i))) (tNil)))) (tCons (tCB (rIsX K (XC D)) (tCons (tVar 0) (tCons (tC (.ref (D.c j))) (tNil)))) (tNil)))) (tNil))) E σ H := by
  have sz : sizeLine = 16777216 := sizeLine_eq
  refine ⟨_, h1, tyL hl, _, h0, isx T hx hi ⟨_, h0, isx T hx hj ⟨by show 2 ≤ sizeLine; decide, fun p H1 hp e1 => ?_⟩⟩⟩
  refine extL (eqf e1 hp hl) (eqs e1) (by show its.length + 2 ≤ sizeLine; omega) fun H2 e2 => ?_
  have x1 : ExF [] H H1 := exn e1 hp
  have x2 : ExF [l] H H2 := exm e2 (.inr (by simp)) x1.of
  have nl : ∀ {b : Addr} {o : HO}, H b = some o → (∀ xs, o ≠ .lst xs) → b ≠ l := fun {b o} e n z => by rw [z, hl] at e; exact n _ (Option.some.inj e).symm
  refine k H2 x2 ?_ (eqs e2)
  rcases hx with ⟨i, fl, ws, a1, ⟨a, d, fs, rfl, a2, a3, a4, a5, a6⟩, a7⟩ | ⟨a, a1, a2, a3⟩
  · exact .inl ⟨i, fl, ws, a1, ⟨a, d, fs, rfl, a2, a3, x2.at_ _ _ (by simpa using nl a4 fun xs z => by unfold exo at z; cases z) a4, x2.at_ _ _ (by simpa using nl a5 fun xs z => by unfold exd at z; cases z) a5, a6⟩, a7⟩
  · exact .inr ⟨a, a1, x2.at_ _ _ (by simpa using nl a2 fun xs z => by unfold ExO at z; cases z) a2, a3⟩
theorem ext1 (T : Kit0 K D) (h0 : σ[0]? = some (some v)) (h1 : σ[1]? = some (some (.ref l))) (hx : IsX D H v bs) (hl : H l = some (.lst its)) (hz : its.length ≤ 1000) (hi : i < 43)
    (k : ∀ H', ExF [l] H H' → H' l = some (.lst (its ++ [.bl (bs i)])) → E.nx σ H') :
    tDrop (tBM K "list" (rExtU K) (tVar 1) (tCons (tLstU (tCons (tCB (rIsX K (XC D)) (tCons (tVar 0) (tCons (tC (.ref (D.c i))) (tNil)))) (tNil))) (tNil))) E σ H := by
  have sz : sizeLine = 16777216 := sizeLine_eq
  refine ⟨_, h1, tyL hl, _, h0, isx T hx hi ⟨by show 1 ≤ sizeLine; decide, fun p H1 hp e1 => ?_⟩⟩
  refine extL (eqf e1 hp hl) (eqs e1) (by show its.length + 1 ≤ sizeLine; omega) fun H2 e2 => ?_
  have x1 : ExF [] H H1 := exn e1 hp
  exact k H2 (exm e2 (.inr (by simp)) x1.of) (eqs e2)
end
/-- SlotError() -/
def tMk0 (C : Addr) : TE := fun σ H Q => ∀ a, H a = none → Q (.ref a) (upd H a (ExO (.ref C) a))
end Tw
end

section
set_option Elab.async false
set_option linter.all false
set_option maxRecDepth 100000
set_option maxHeartbeats 1000000
namespace Tw
open PySem L2 PyProof.Rows LamX
noncomputable def t0_law_row (K : PySem.W.Frag) (D : Ad0) : TS := tSeq (tIfS (tOr (tNot (tB (tCall (spIsOwn D) [] E0 (tCons (tVar 9) (tCons (tVar 8) (tNil)))))) (tNot (tB (tCall (spIsOwn D) [] E0 (tCons (tVar 10) (tCons (tVar 8) (tNil))))))) (tRet (tC (.bl false))) (tNext))
      (tIfS (tOr (tNot (tB (tCall spThese [] E0 (tCons (tCallV 11 (FldS (XF D)) (tCons (tVar 9) (tNil))) (tCons (tVar 12) (tNil)))))) (tNot (tB (tCall spThese [] E0 (tCons (tCallV 11 (FldS (XF D)) (tCons (tVar 10) (tNil))) (tCons (tVar 12) (tNil))))))) (tRet (tC (.bl false))) (tNext))
noncomputable def t_l_made_a_t19 (K : PySem.W.Frag) (D : Ad0) : TS := tRet (tVar 3)
noncomputable def t_l_made_a_t18 (K : PySem.W.Frag) (D : Ad0) : TS := tSeq (tDrop (tBM K "list" (rAppendU) (tVar 3) (tCons (tTupU (tCons (tMkV (D.c 17) (spErr (D.c 17) ["thing"]) (tCons (tVar 0) (tNil))) (tCons (tMkKV (D.c 17) (spErr (D.c 17) ["thing"]) revV 1 (tCons (tVar 0) (tNil))) (tCons (tLamW D.PA qA (IsFld ["thing"])) (tCons (tLstB (tCons (tVar 0) (tNil))) (tNil)))))) (tNil)))) (t_l_made_a_t19 K D)
noncomputable def t_l_made_a_t17 (K : PySem.W.Frag) (D : Ad0) : TS := tSeq (tDrop (tBM K "list" (rAppendU) (tVar 3) (tCons (tTupU (tCons (tMkV (D.c 16) (spErr (D.c 16) ["thing"]) (tCons (tVar 0) (tNil))) (tCons (tMkKV (D.c 16) (spErr (D.c 16) ["thing"]) revV 1 (tCons (tVar 0) (tNil))) (tCons (tLamW D.PA qA (IsFld ["thing"])) (tCons (tLstB (tCons (tVar 0) (tNil))) (tNil)))))) (tNil)))) (t_l_made_a_t18 K D)
noncomputable def t_l_made_a_t16 (K : PySem.W.Frag) (D : Ad0) : TS := tSeq (tDrop (tBM K "list" (rAppendU) (tVar 3) (tCons (tTupU (tCons (tMkV (D.c 15) (spErr (D.c 15) ["thing"]) (tCons (tVar 0) (tNil))) (tCons (tMkKV (D.c 15) (spErr (D.c 15) ["thing"]) revV 1 (tCons (tVar 0) (tNil))) (tCons (tLamW D.PA qA (IsFld ["thing"])) (tCons (tLstB (tCons (tVar 0) (tNil))) (tNil)))))) (tNil)))) (t_l_made_a_t17 K D)
noncomputable def t_l_made_a_t15 (K : PySem.W.Frag) (D : Ad0) : TS := tSeq (tDrop (tBM K "list" (rAppendU) (tVar 3) (tCons (tTupU (tCons (tMkV (D.c 14) (spErr (D.c 14) ["index"]) (tCons (tVar 0) (tNil))) (tCons (tMkKV (D.c 14) (spErr (D.c 14) ["index"]) revV 1 (tCons (tVar 0) (tNil))) (tCons (tLamW D.PA qA (IsFld ["index"])) (tCons (tLstB (tCons (tVar 0) (tNil))) (tNil)))))) (tNil)))) (t_l_made_a_t16 K D)
noncomputable def t_l_made_a_t14 (K : PySem.W.Frag) (D : Ad0) : TS := tSeq (tDrop (tBM K "list" (rAppendU) (tVar 3) (tCons (tTupU (tCons (tMkV (D.c 13) (spErr (D.c 13) ["thing"]) (tCons (tVar 0) (tNil))) (tCons (tMkKV (D.c 13) (spErr (D.c 13) ["thing"]) revV 1 (tCons (tVar 0) (tNil))) (tCons (tLamW D.PA qA (IsFld ["thing"])) (tCons (tLstB (tCons (tVar 0) (tNil))) (tNil)))))) (tNil)))) (t_l_made_a_t15 K D)
noncomputable def t_l_made_a_t13 (K : PySem.W.Frag) (D : Ad0) : TS := tSeq (tDrop (tBM K "list" (rAppendU) (tVar 3) (tCons (tTupU (tCons (tMkV (D.c 12) (spErr (D.c 12) ["thing"]) (tCons (tVar 0) (tNil))) (tCons (tMkKV (D.c 12) (spErr (D.c 12) ["thing"]) revV 1 (tCons (tVar 0) (tNil))) (tCons (tLamW D.PA qA (IsFld ["thing"])) (tCons (tLstB (tCons (tVar 0) (tNil))) (tNil)))))) (tNil)))) (t_l_made_a_t14 K D)
noncomputable def t_l_made_a_t12 (K : PySem.W.Frag) (D : Ad0) : TS := tSeq (tDrop (tBM K "list" (rAppendU) (tVar 3) (tCons (tTupU (tCons (tMkV (D.c 11) (spErr (D.c 11) ["thing"]) (tCons (tVar 0) (tNil))) (tCons (tMkKV (D.c 11) (spErr (D.c 11) ["thing"]) revV 1 (tCons (tVar 0) (tNil))) (tCons (tLamW D.PA qA (IsFld ["thing"])) (tCons (tLstB (tCons (tVar 0) (tNil))) (tNil)))))) (tNil)))) (t_l_made_a_t13 K D)
noncomputable def t_l_made_a_t11 (K : PySem.W.Frag) (D : Ad0) : TS := tSeq (tDrop (tBM K "list" (rAppendU) (tVar 3) (tCons (tTupU (tCons (tMkV (D.c 10) (spErr (D.c 10) ["index"]) (tCons (tVar 0) (tNil))) (tCons (tMkKV (D.c 10) (spErr (D.c 10) ["index"]) revV 1 (tCons (tVar 0) (tNil))) (tCons (tLamW D.PA qA (IsFld ["index"])) (tCons (tLstB (tCons (tVar 0) (tNil))) (tNil)))))) (tNil)))) (t_l_made_a_t12 K D)
noncomputable def t_l_made_a_t10 (K : PySem.W.Frag) (D : Ad0) : TS := tSeq (tDrop (tBM K "list" (rAppendU) (tVar 3) (tCons (tTupU (tCons (tMkV (D.c 9) (spErr (D.c 9) ["index"]) (tCons (tVar 0) (tNil))) (tCons (tMkKV (D.c 9) (spErr (D.c 9) ["index"]) revV 1 (tCons (tVar 0) (tNil))) (tCons (tLamW D.PA qA (IsFld ["index"])) (tCons (tLstB (tCons (tVar 0) (tNil))) (tNil)))))) (tNil)))) (t_l_made_a_t11 K D)
noncomputable def t_l_made_a_t9 (K : PySem.W.Frag) (D : Ad0) : TS := tSeq (tDrop (tBM K "list" (rAppendU) (tVar 3) (tCons (tTupU (tCons (tMkV (D.c 8) (spErr (D.c 8) ["thing"]) (tCons (tVar 0) (tNil))) (tCons (tMkKV (D.c 8) (spErr (D.c 8) ["thing"]) revV 1 (tCons (tVar 0) (tNil))) (tCons (tLamW D.PA qA (IsFld ["thing"])) (tCons (tLstB (tCons (tVar 0) (tNil))) (tNil)))))) (tNil)))) (t_l_made_a_t10 K D)
noncomputable def t_l_made_a_t8 (K : PySem.W.Frag) (D : Ad0) : TS := tSeq (tDrop (tBM K "list" (rAppendU) (tVar 3) (tCons (tTupU (tCons (tMkV (D.c 7) (spErr (D.c 7) ["index"]) (tCons (tVar 0) (tNil))) (tCons (tMkKV (D.c 7) (spErr (D.c 7) ["index"]) revV 1 (tCons (tVar 0) (tNil))) (tCons (tLamW D.PA qA (IsFld ["index"])) (tCons (tLstB (tCons (tVar 0) (tNil))) (tNil)))))) (tNil)))) (t_l_made_a_t9 K D)
noncomputable def t_l_made_a_t7 (K : PySem.W.Frag) (D : Ad0) : TS := tSeq (tDrop (tBM K "list" (rAppendU) (tVar 3) (tCons (tTupU (tCons (tMkV (D.c 6) (spErr (D.c 6) ["index"]) (tCons (tVar 0) (tNil))) (tCons (tMkKV (D.c 6) (spErr (D.c 6) ["index"]) revV 1 (tCons (tVar 0) (tNil))) (tCons (tLamW D.PA qA (IsFld ["index"])) (tCons (tLstB (tCons (tVar 0) (tNil))) (tNil)))))) (tNil)))) (t_l_made_a_t8 K D)
noncomputable def t_l_made_a_t6 (K : PySem.W.Frag) (D : Ad0) : TS := tSeq (tDrop (tBM K "list" (rAppendU) (tVar 3) (tCons (tTupU (tCons (tMkV (D.c 5) (spErr (D.c 5) ["thing"]) (tCons (tVar 0) (tNil))) (tCons (tMkKV (D.c 5) (spErr (D.c 5) ["thing"]) revV 1 (tCons (tVar 0) (tNil))) (tCons (tLamW D.PA qA (IsFld ["thing"])) (tCons (tLstB (tCons (tVar 0) (tNil))) (tNil)))))) (tNil)))) (t_l_made_a_t7 K D)
noncomputable def t_l_made_a_t5 (K : PySem.W.Frag) (D : Ad0) : TS := tSeq (tDrop (tBM K "list" (rAppendU) (tVar 3) (tCons (tTupU (tCons (tMkV (D.c 4) (spErr (D.c 4) ["thing"]) (tCons (tVar 0) (tNil))) (tCons (tMkKV (D.c 4) (spErr (D.c 4) ["thing"]) revV 1 (tCons (tVar 0) (tNil))) (tCons (tLamW D.PA qA (IsFld ["thing"])) (tCons (tLstB (tCons (tVar 0) (tNil))) (tNil)))))) (tNil)))) (t_l_made_a_t6 K D)
noncomputable def t_l_made_a_t4 (K : PySem.W.Frag) (D : Ad0) : TS := tSeq (tDrop (tBM K "list" (rAppendU) (tVar 3) (tCons (tTupU (tCons (tMkV (D.c 3) (spErr (D.c 3) ["thing"]) (tCons (tVar 0) (tNil))) (tCons (tMkKV (D.c 3) (spErr (D.c 3) ["thing"]) revV 1 (tCons (tVar 0) (tNil))) (tCons (tLamW D.PA qA (IsFld ["thing"])) (tCons (tLstB (tCons (tVar 0) (tNil))) (tNil)))))) (tNil)))) (t_l_made_a_t5 K D)
noncomputable def t_l_made_a_t3 (K : PySem.W.Frag) (D : Ad0) : TS := tSeq (tDrop (tBM K "list" (rAppendU) (tVar 3) (tCons (tTupU (tCons (tMkV (D.c 2) (spErr (D.c 2) ["thing"]) (tCons (tVar 0) (tNil))) (tCons (tMkKV (D.c 2) (spErr (D.c 2) ["thing"]) revV 1 (tCons (tVar 0) (tNil))) (tCons (tLamW D.PA qA (IsFld ["thing"])) (tCons (tLstB (tCons (tVar 0) (tNil))) (tNil)))))) (tNil)))) (t_l_made_a_t4 K D)
noncomputable def t_l_made_a_t2 (K : PySem.W.Frag) (D : Ad0) : TS := tSeq (tDrop (tBM K "list" (rAppendU) (tVar 3) (tCons (tTupU (tCons (tMkV (D.c 1) (spErr (D.c 1) ["thing"]) (tCons (tVar 0) (tNil))) (tCons (tMkKV (D.c 1) (spErr (D.c 1) ["thing"]) revV 1 (tCons (tVar 0) (tNil))) (tCons (tLamW D.PA qA (IsFld ["thing"])) (tCons (tLstB (tCons (tVar 0) (tNil))) (tNil)))))) (tNil)))) (t_l_made_a_t3 K D)
noncomputable def t_l_made_a_t1 (K : PySem.W.Frag) (D : Ad0) : TS := tSeq (tDrop (tBM K "list" (rAppendU) (tVar 3) (tCons (tTupU (tCons (tMkV (D.c 0) (spErr (D.c 0) ["thing"]) (tCons (tVar 0) (tNil))) (tCons (tMkKV (D.c 0) (spErr (D.c 0) ["thing"]) revV 1 (tCons (tVar 0) (tNil))) (tCons (tLamW D.PA qA (IsFld ["thing"])) (tCons (tLstB (tCons (tVar 0) (tNil))) (tNil)))))) (tNil)))) (t_l_made_a_t2 K D)
noncomputable def t_l_made_a (K : PySem.W.Frag) (D : Ad0) : TS := tSeq (tAsg (tLstU (tNil)) (gName 3)) (t_l_made_a_t1 K D)
noncomputable def t_l_made_b_t19 (K : PySem.W.Frag) (D : Ad0) : TS := tRet (tVar 3)
noncomputable def t_l_made_b_t18 (K : PySem.W.Frag) (D : Ad0) : TS := tSeq (tDrop (tBM K "list" (rAppendU) (tVar 3) (tCons (tTupU (tCons (tMkV (D.c 35) (spErr (D.c 35) ["thing"]) (tCons (tVar 0) (tNil))) (tCons (tMkKV (D.c 35) (spErr (D.c 35) ["thing"]) revV 1 (tCons (tVar 0) (tNil))) (tCons (tLamW D.PB qB (IsFld ["thing"])) (tCons (tLstB (tCons (tVar 0) (tNil))) (tNil)))))) (tNil)))) (t_l_made_b_t19 K D)
noncomputable def t_l_made_b_t17 (K : PySem.W.Frag) (D : Ad0) : TS := tSeq (tDrop (tBM K "list" (rAppendU) (tVar 3) (tCons (tTupU (tCons (tMkV (D.c 34) (spErr (D.c 34) ["hour"]) (tCons (tVar 0) (tNil))) (tCons (tMkKV (D.c 34) (spErr (D.c 34) ["hour"]) revV 1 (tCons (tVar 0) (tNil))) (tCons (tLamW D.PB qB (IsFld ["hour"])) (tCons (tLstB (tCons (tVar 0) (tNil))) (tNil)))))) (tNil)))) (t_l_made_b_t18 K D)
noncomputable def t_l_made_b_t16 (K : PySem.W.Frag) (D : Ad0) : TS := tSeq (tDrop (tBM K "list" (rAppendU) (tVar 3) (tCons (tTupU (tCons (tMkV (D.c 33) (spErr (D.c 33) ["thing"]) (tCons (tVar 0) (tNil))) (tCons (tMkKV (D.c 33) (spErr (D.c 33) ["thing"]) revV 1 (tCons (tVar 0) (tNil))) (tCons (tLamW D.PB qB (IsFld ["thing"])) (tCons (tLstB (tCons (tVar 0) (tNil))) (tNil)))))) (tNil)))) (t_l_made_b_t17 K D)
noncomputable def t_l_made_b_t15 (K : PySem.W.Frag) (D : Ad0) : TS := tSeq (tDrop (tBM K "list" (rAppendU) (tVar 3) (tCons (tTupU (tCons (tMkV (D.c 32) (spErr (D.c 32) ["thing"]) (tCons (tVar 0) (tNil))) (tCons (tMkKV (D.c 32) (spErr (D.c 32) ["thing"]) revV 1 (tCons (tVar 0) (tNil))) (tCons (tLamW D.PB qB (IsFld ["thing"])) (tCons (tLstB (tCons (tVar 0) (tNil))) (tNil)))))) (tNil)))) (t_l_made_b_t16 K D)
noncomputable def t_l_made_b_t14 (K : PySem.W.Frag) (D : Ad0) : TS := tSeq (tDrop (tBM K "list" (rAppendU) (tVar 3) (tCons (tTupU (tCons (tMkV (D.c 31) (spErr (D.c 31) ["question"]) (tCons (tVar 0) (tNil))) (tCons (tMkKV (D.c 31) (spErr (D.c 31) ["question"]) revV 1 (tCons (tVar 0) (tNil))) (tCons (tLamW D.PB qB (IsFld ["question"])) (tCons (tLstB (tCons (tVar 0) (tNil))) (tNil)))))) (tNil)))) (t_l_made_b_t15 K D)
noncomputable def t_l_made_b_t13 (K : PySem.W.Frag) (D : Ad0) : TS := tSeq (tDrop (tBM K "list" (rAppendU) (tVar 3) (tCons (tTupU (tCons (tMkV (D.c 30) (spErr (D.c 30) ["question"]) (tCons (tVar 0) (tNil))) (tCons (tMkKV (D.c 30) (spErr (D.c 30) ["question"]) revV 1 (tCons (tVar 0) (tNil))) (tCons (tLamW D.PB qB (IsFld ["question"])) (tCons (tLstB (tCons (tVar 0) (tNil))) (tNil)))))) (tNil)))) (t_l_made_b_t14 K D)
noncomputable def t_l_made_b_t12 (K : PySem.W.Frag) (D : Ad0) : TS := tSeq (tDrop (tBM K "list" (rAppendU) (tVar 3) (tCons (tTupU (tCons (tMkV (D.c 29) (spErr (D.c 29) ["line", "sign"]) (tCons (tVar 0) (tCons (tVar 1) (tNil)))) (tCons (tMkKV (D.c 29) (spErr (D.c 29) ["line", "sign"]) revV 2 (tCons (tVar 1) (tCons (tVar 0) (tNil)))) (tCons (tLamW D.PB qB (IsFld ["line", "sign"])) (tCons (tLstB (tCons (tVar 0) (tCons (tVar 1) (tNil)))) (tNil)))))) (tNil)))) (t_l_made_b_t13 K D)
noncomputable def t_l_made_b_t11 (K : PySem.W.Frag) (D : Ad0) : TS := tSeq (tDrop (tBM K "list" (rAppendU) (tVar 3) (tCons (tTupU (tCons (tMkV (D.c 28) (spErr (D.c 28) ["index"]) (tCons (tVar 0) (tNil))) (tCons (tMkKV (D.c 28) (spErr (D.c 28) ["index"]) revV 1 (tCons (tVar 0) (tNil))) (tCons (tLamW D.PB qB (IsFld ["index"])) (tCons (tLstB (tCons (tVar 0) (tNil))) (tNil)))))) (tNil)))) (t_l_made_b_t12 K D)
noncomputable def t_l_made_b_t10 (K : PySem.W.Frag) (D : Ad0) : TS := tSeq (tDrop (tBM K "list" (rAppendU) (tVar 3) (tCons (tTupU (tCons (tMkV (D.c 27) (spErr (D.c 27) ["thing"]) (tCons (tVar 0) (tNil))) (tCons (tMkKV (D.c 27) (spErr (D.c 27) ["thing"]) revV 1 (tCons (tVar 0) (tNil))) (tCons (tLamW D.PB qB (IsFld ["thing"])) (tCons (tLstB (tCons (tVar 0) (tNil))) (tNil)))))) (tNil)))) (t_l_made_b_t11 K D)
noncomputable def t_l_made_b_t9 (K : PySem.W.Frag) (D : Ad0) : TS := tSeq (tDrop (tBM K "list" (rAppendU) (tVar 3) (tCons (tTupU (tCons (tMkV (D.c 26) (spErr (D.c 26) ["index"]) (tCons (tVar 0) (tNil))) (tCons (tMkKV (D.c 26) (spErr (D.c 26) ["index"]) revV 1 (tCons (tVar 0) (tNil))) (tCons (tLamW D.PB qB (IsFld ["index"])) (tCons (tLstB (tCons (tVar 0) (tNil))) (tNil)))))) (tNil)))) (t_l_made_b_t10 K D)
noncomputable def t_l_made_b_t8 (K : PySem.W.Frag) (D : Ad0) : TS := tSeq (tDrop (tBM K "list" (rAppendU) (tVar 3) (tCons (tTupU (tCons (tMkV (D.c 25) (spErr (D.c 25) ["thing"]) (tCons (tVar 0) (tNil))) (tCons (tMkKV (D.c 25) (spErr (D.c 25) ["thing"]) revV 1 (tCons (tVar 0) (tNil))) (tCons (tLamW D.PB qB (IsFld ["thing"])) (tCons (tLstB (tCons (tVar 0) (tNil))) (tNil)))))) (tNil)))) (t_l_made_b_t9 K D)
noncomputable def t_l_made_b_t7 (K : PySem.W.Frag) (D : Ad0) : TS := tSeq (tDrop (tBM K "list" (rAppendU) (tVar 3) (tCons (tTupU (tCons (tMkV (D.c 24) (spErr (D.c 24) ["index"]) (tCons (tVar 0) (tNil))) (tCons (tMkKV (D.c 24) (spErr (D.c 24) ["index"]) revV 1 (tCons (tVar 0) (tNil))) (tCons (tLamW D.PB qB (IsFld ["index"])) (tCons (tLstB (tCons (tVar 0) (tNil))) (tNil)))))) (tNil)))) (t_l_made_b_t8 K D)
noncomputable def t_l_made_b_t6 (K : PySem.W.Frag) (D : Ad0) : TS := tSeq (tDrop (tBM K "list" (rAppendU) (tVar 3) (tCons (tTupU (tCons (tMkV (D.c 23) (spErr (D.c 23) ["thing"]) (tCons (tVar 0) (tNil))) (tCons (tMkKV (D.c 23) (spErr (D.c 23) ["thing"]) revV 1 (tCons (tVar 0) (tNil))) (tCons (tLamW D.PB qB (IsFld ["thing"])) (tCons (tLstB (tCons (tVar 0) (tNil))) (tNil)))))) (tNil)))) (t_l_made_b_t7 K D)
noncomputable def t_l_made_b_t5 (K : PySem.W.Frag) (D : Ad0) : TS := tSeq (tDrop (tBM K "list" (rAppendU) (tVar 3) (tCons (tTupU (tCons (tMkV (D.c 22) (spErr (D.c 22) ["index"]) (tCons (tVar 0) (tNil))) (tCons (tMkKV (D.c 22) (spErr (D.c 22) ["index"]) revV 1 (tCons (tVar 0) (tNil))) (tCons (tLamW D.PB qB (IsFld ["index"])) (tCons (tLstB (tCons (tVar 0) (tNil))) (tNil)))))) (tNil)))) (t_l_made_b_t6 K D)
noncomputable def t_l_made_b_t4 (K : PySem.W.Frag) (D : Ad0) : TS := tSeq (tDrop (tBM K "list" (rAppendU) (tVar 3) (tCons (tTupU (tCons (tMkV (D.c 21) (spErr (D.c 21) ["index"]) (tCons (tVar 0) (tNil))) (tCons (tMkKV (D.c 21) (spErr (D.c 21) ["index"]) revV 1 (tCons (tVar 0) (tNil))) (tCons (tLamW D.PB qB (IsFld ["index"])) (tCons (tLstB (tCons (tVar 0) (tNil))) (tNil)))))) (tNil)))) (t_l_made_b_t5 K D)
noncomputable def t_l_made_b_t3 (K : PySem.W.Frag) (D : Ad0) : TS := tSeq (tDrop (tBM K "list" (rAppendU) (tVar 3) (tCons (tTupU (tCons (tMkV (D.c 20) (spErr (D.c 20) ["index"]) (tCons (tVar 0) (tNil))) (tCons (tMkKV (D.c 20) (spErr (D.c 20) ["index"]) revV 1 (tCons (tVar 0) (tNil))) (tCons (tLamW D.PB qB (IsFld ["index"])) (tCons (tLstB (tCons (tVar 0) (tNil))) (tNil)))))) (tNil)))) (t_l_made_b_t4 K D)
noncomputable def t_l_made_b_t2 (K : PySem.W.Frag) (D : Ad0) : TS := tSeq (tDrop (tBM K "list" (rAppendU) (tVar 3) (tCons (tTupU (tCons (tMkV (D.c 19) (spErr (D.c 19) ["index"]) (tCons (tVar 0) (tNil))) (tCons (tMkKV (D.c 19) (spErr (D.c 19) ["index"]) revV 1 (tCons (tVar 0) (tNil))) (tCons (tLamW D.PB qB (IsFld ["index"])) (tCons (tLstB (tCons (tVar 0) (tNil))) (tNil)))))) (tNil)))) (t_l_made_b_t3 K D)
noncomputable def t_l_made_b_t1 (K : PySem.W.Frag) (D : Ad0) : TS := tSeq (tDrop (tBM K "list" (rAppendU) (tVar 3) (tCons (tTupU (tCons (tMkV (D.c 18) (spErr (D.c 18) ["thing"]) (tCons (tVar 0) (tNil))) (tCons (tMkKV (D.c 18) (spErr (D.c 18) ["thing"]) revV 1 (tCons (tVar 0) (tNil))) (tCons (tLamW D.PB qB (IsFld ["thing"])) (tCons (tLstB (tCons (tVar 0) (tNil))) (tNil)))))) (tNil)))) (t_l_made_b_t2 K D)
noncomputable def t_l_made_b (K : PySem.W.Frag) (D : Ad0) : TS := tSeq (tAsg (tLstU (tNil)) (gName 3)) (t_l_made_b_t1 K D)
noncomputable def t_l_made_c_t8 (K : PySem.W.Frag) (D : Ad0) : TS := tRet (tVar 3)
noncomputable def t_l_made_c_t7 (K : PySem.W.Frag) (D : Ad0) : TS := tSeq (tDrop (tBM K "list" (rAppendU) (tVar 3) (tCons (tTupU (tCons (tMkV (D.c 42) (spErr (D.c 42) ["question", "why"]) (tCons (tVar 0) (tCons (tVar 1) (tNil)))) (tCons (tMkKV (D.c 42) (spErr (D.c 42) ["question", "why"]) revV 2 (tCons (tVar 1) (tCons (tVar 0) (tNil)))) (tCons (tLamW D.PC qC (IsFld ["question", "why"])) (tCons (tLstB (tCons (tVar 0) (tCons (tVar 1) (tNil)))) (tNil)))))) (tNil)))) (t_l_made_c_t8 K D)
noncomputable def t_l_made_c_t6 (K : PySem.W.Frag) (D : Ad0) : TS := tSeq (tDrop (tBM K "list" (rAppendU) (tVar 3) (tCons (tTupU (tCons (tMkV (D.c 41) (spErr (D.c 41) ["question"]) (tCons (tVar 0) (tNil))) (tCons (tMkKV (D.c 41) (spErr (D.c 41) ["question"]) revV 1 (tCons (tVar 0) (tNil))) (tCons (tLamW D.PC qC (IsFld ["question"])) (tCons (tLstB (tCons (tVar 0) (tNil))) (tNil)))))) (tNil)))) (t_l_made_c_t7 K D)
noncomputable def t_l_made_c_t5 (K : PySem.W.Frag) (D : Ad0) : TS := tSeq (tDrop (tBM K "list" (rAppendU) (tVar 3) (tCons (tTupU (tCons (tMkV (D.c 40) (spErr (D.c 40) ["fault"]) (tCons (tVar 0) (tNil))) (tCons (tMkKV (D.c 40) (spErr (D.c 40) ["fault"]) revV 1 (tCons (tVar 0) (tNil))) (tCons (tLamW D.PC qC (IsFld ["fault"])) (tCons (tLstB (tCons (tVar 0) (tNil))) (tNil)))))) (tNil)))) (t_l_made_c_t6 K D)
noncomputable def t_l_made_c_t4 (K : PySem.W.Frag) (D : Ad0) : TS := tSeq (tDrop (tBM K "list" (rAppendU) (tVar 3) (tCons (tTupU (tCons (tMkV (D.c 39) (spErr (D.c 39) ["thing"]) (tCons (tVar 0) (tNil))) (tCons (tMkKV (D.c 39) (spErr (D.c 39) ["thing"]) revV 1 (tCons (tVar 0) (tNil))) (tCons (tLamW D.PC qC (IsFld ["thing"])) (tCons (tLstB (tCons (tVar 0) (tNil))) (tNil)))))) (tNil)))) (t_l_made_c_t5 K D)
noncomputable def t_l_made_c_t3 (K : PySem.W.Frag) (D : Ad0) : TS := tSeq (tDrop (tBM K "list" (rAppendU) (tVar 3) (tCons (tTupU (tCons (tMkV (D.c 38) (spErr (D.c 38) ["thing"]) (tCons (tVar 0) (tNil))) (tCons (tMkKV (D.c 38) (spErr (D.c 38) ["thing"]) revV 1 (tCons (tVar 0) (tNil))) (tCons (tLamW D.PC qC (IsFld ["thing"])) (tCons (tLstB (tCons (tVar 0) (tNil))) (tNil)))))) (tNil)))) (t_l_made_c_t4 K D)
noncomputable def t_l_made_c_t2 (K : PySem.W.Frag) (D : Ad0) : TS := tSeq (tDrop (tBM K "list" (rAppendU) (tVar 3) (tCons (tTupU (tCons (tMkV (D.c 37) (spErr (D.c 37) ["index"]) (tCons (tVar 0) (tNil))) (tCons (tMkKV (D.c 37) (spErr (D.c 37) ["index"]) revV 1 (tCons (tVar 0) (tNil))) (tCons (tLamW D.PC qC (IsFld ["index"])) (tCons (tLstB (tCons (tVar 0) (tNil))) (tNil)))))) (tNil)))) (t_l_made_c_t3 K D)
noncomputable def t_l_made_c_t1 (K : PySem.W.Frag) (D : Ad0) : TS := tSeq (tDrop (tBM K "list" (rAppendU) (tVar 3) (tCons (tTupU (tCons (tMkV (D.c 36) (spErr (D.c 36) ["hour", "slot"]) (tCons (tVar 0) (tCons (tVar 1) (tNil)))) (tCons (tMkKV (D.c 36) (spErr (D.c 36) ["hour", "slot"]) revV 2 (tCons (tVar 1) (tCons (tVar 0) (tNil)))) (tCons (tLamW D.PC qC (IsFld ["hour", "slot"])) (tCons (tLstB (tCons (tVar 0) (tCons (tVar 1) (tNil)))) (tNil)))))) (tNil)))) (t_l_made_c_t2 K D)
noncomputable def t_l_made_c (K : PySem.W.Frag) (D : Ad0) : TS := tSeq (tAsg (tLstU (tNil)) (gName 3)) (t_l_made_c_t1 K D)
noncomputable def t_l_kinds_a_t10 (K : PySem.W.Frag) (D : Ad0) : TS := tRet (tVar 1)
noncomputable def t_l_kinds_a_t9 (K : PySem.W.Frag) (D : Ad0) : TS := tSeq (tDrop (tBM K "list" (rExtU K) (tVar 1) (tCons (tLstU (tCons (tCB (rIsX K (XC D)) (tCons (tVar 0) (tCons (tC (.ref (D.c 16))) (tNil)))) (tCons (tCB (rIsX K (XC D)) (tCons (tVar 0) (tCons (tC (.ref (D.c 17))) (tNil)))) (tNil)))) (tNil)))) (t_l_kinds_a_t10 K D)
noncomputable def t_l_kinds_a_t8 (K : PySem.W.Frag) (D : Ad0) : TS := tSeq (tDrop (tBM K "list" (rExtU K) (tVar 1) (tCons (tLstU (tCons (tCB (rIsX K (XC D)) (tCons (tVar 0) (tCons (tC (.ref (D.c 14))) (tNil)))) (tCons (tCB (rIsX K (XC D)) (tCons (tVar 0) (tCons (tC (.ref (D.c 15))) (tNil)))) (tNil)))) (tNil)))) (t_l_kinds_a_t9 K D)
noncomputable def t_l_kinds_a_t7 (K : PySem.W.Frag) (D : Ad0) : TS := tSeq (tDrop (tBM K "list" (rExtU K) (tVar 1) (tCons (tLstU (tCons (tCB (rIsX K (XC D)) (tCons (tVar 0) (tCons (tC (.ref (D.c 12))) (tNil)))) (tCons (tCB (rIsX K (XC D)) (tCons (tVar 0) (tCons (tC (.ref (D.c 13))) (tNil)))) (tNil)))) (tNil)))) (t_l_kinds_a_t8 K D)
noncomputable def t_l_kinds_a_t6 (K : PySem.W.Frag) (D : Ad0) : TS := tSeq (tDrop (tBM K "list" (rExtU K) (tVar 1) (tCons (tLstU (tCons (tCB (rIsX K (XC D)) (tCons (tVar 0) (tCons (tC (.ref (D.c 10))) (tNil)))) (tCons (tCB (rIsX K (XC D)) (tCons (tVar 0) (tCons (tC (.ref (D.c 11))) (tNil)))) (tNil)))) (tNil)))) (t_l_kinds_a_t7 K D)
noncomputable def t_l_kinds_a_t5 (K : PySem.W.Frag) (D : Ad0) : TS := tSeq (tDrop (tBM K "list" (rExtU K) (tVar 1) (tCons (tLstU (tCons (tCB (rIsX K (XC D)) (tCons (tVar 0) (tCons (tC (.ref (D.c 8))) (tNil)))) (tCons (tCB (rIsX K (XC D)) (tCons (tVar 0) (tCons (tC (.ref (D.c 9))) (tNil)))) (tNil)))) (tNil)))) (t_l_kinds_a_t6 K D)
noncomputable def t_l_kinds_a_t4 (K : PySem.W.Frag) (D : Ad0) : TS := tSeq (tDrop (tBM K "list" (rExtU K) (tVar 1) (tCons (tLstU (tCons (tCB (rIsX K (XC D)) (tCons (tVar 0) (tCons (tC (.ref (D.c 6))) (tNil)))) (tCons (tCB (rIsX K (XC D)) (tCons (tVar 0) (tCons (tC (.ref (D.c 7))) (tNil)))) (tNil)))) (tNil)))) (t_l_kinds_a_t5 K D)
noncomputable def t_l_kinds_a_t3 (K : PySem.W.Frag) (D : Ad0) : TS := tSeq (tDrop (tBM K "list" (rExtU K) (tVar 1) (tCons (tLstU (tCons (tCB (rIsX K (XC D)) (tCons (tVar 0) (tCons (tC (.ref (D.c 4))) (tNil)))) (tCons (tCB (rIsX K (XC D)) (tCons (tVar 0) (tCons (tC (.ref (D.c 5))) (tNil)))) (tNil)))) (tNil)))) (t_l_kinds_a_t4 K D)
noncomputable def t_l_kinds_a_t2 (K : PySem.W.Frag) (D : Ad0) : TS := tSeq (tDrop (tBM K "list" (rExtU K) (tVar 1) (tCons (tLstU (tCons (tCB (rIsX K (XC D)) (tCons (tVar 0) (tCons (tC (.ref (D.c 2))) (tNil)))) (tCons (tCB (rIsX K (XC D)) (tCons (tVar 0) (tCons (tC (.ref (D.c 3))) (tNil)))) (tNil)))) (tNil)))) (t_l_kinds_a_t3 K D)
noncomputable def t_l_kinds_a_t1 (K : PySem.W.Frag) (D : Ad0) : TS := tSeq (tDrop (tBM K "list" (rExtU K) (tVar 1) (tCons (tLstU (tCons (tCB (rIsX K (XC D)) (tCons (tVar 0) (tCons (tC (.ref (D.c 0))) (tNil)))) (tCons (tCB (rIsX K (XC D)) (tCons (tVar 0) (tCons (tC (.ref (D.c 1))) (tNil)))) (tNil)))) (tNil)))) (t_l_kinds_a_t2 K D)
noncomputable def t_l_kinds_a (K : PySem.W.Frag) (D : Ad0) : TS := tSeq (tAsg (tLstU (tNil)) (gName 1)) (t_l_kinds_a_t1 K D)
noncomputable def t_l_kinds_b_t10 (K : PySem.W.Frag) (D : Ad0) : TS := tRet (tVar 1)
noncomputable def t_l_kinds_b_t9 (K : PySem.W.Frag) (D : Ad0) : TS := tSeq (tDrop (tBM K "list" (rExtU K) (tVar 1) (tCons (tLstU (tCons (tCB (rIsX K (XC D)) (tCons (tVar 0) (tCons (tC (.ref (D.c 34))) (tNil)))) (tCons (tCB (rIsX K (XC D)) (tCons (tVar 0) (tCons (tC (.ref (D.c 35))) (tNil)))) (tNil)))) (tNil)))) (t_l_kinds_b_t10 K D)
noncomputable def t_l_kinds_b_t8 (K : PySem.W.Frag) (D : Ad0) : TS := tSeq (tDrop (tBM K "list" (rExtU K) (tVar 1) (tCons (tLstU (tCons (tCB (rIsX K (XC D)) (tCons (tVar 0) (tCons (tC (.ref (D.c 32))) (tNil)))) (tCons (tCB (rIsX K (XC D)) (tCons (tVar 0) (tCons (tC (.ref (D.c 33))) (tNil)))) (tNil)))) (tNil)))) (t_l_kinds_b_t9 K D)
noncomputable def t_l_kinds_b_t7 (K : PySem.W.Frag) (D : Ad0) : TS := tSeq (tDrop (tBM K "list" (rExtU K) (tVar 1) (tCons (tLstU (tCons (tCB (rIsX K (XC D)) (tCons (tVar 0) (tCons (tC (.ref (D.c 30))) (tNil)))) (tCons (tCB (rIsX K (XC D)) (tCons (tVar 0) (tCons (tC (.ref (D.c 31))) (tNil)))) (tNil)))) (tNil)))) (t_l_kinds_b_t8 K D)
noncomputable def t_l_kinds_b_t6 (K : PySem.W.Frag) (D : Ad0) : TS := tSeq (tDrop (tBM K "list" (rExtU K) (tVar 1) (tCons (tLstU (tCons (tCB (rIsX K (XC D)) (tCons (tVar 0) (tCons (tC (.ref (D.c 28))) (tNil)))) (tCons (tCB (rIsX K (XC D)) (tCons (tVar 0) (tCons (tC (.ref (D.c 29))) (tNil)))) (tNil)))) (tNil)))) (t_l_kinds_b_t7 K D)
noncomputable def t_l_kinds_b_t5 (K : PySem.W.Frag) (D : Ad0) : TS := tSeq (tDrop (tBM K "list" (rExtU K) (tVar 1) (tCons (tLstU (tCons (tCB (rIsX K (XC D)) (tCons (tVar 0) (tCons (tC (.ref (D.c 26))) (tNil)))) (tCons (tCB (rIsX K (XC D)) (tCons (tVar 0) (tCons (tC (.ref (D.c 27))) (tNil)))) (tNil)))) (tNil)))) (t_l_kinds_b_t6 K D)
noncomputable def t_l_kinds_b_t4 (K : PySem.W.Frag) (D : Ad0) : TS := tSeq (tDrop (tBM K "list" (rExtU K) (tVar 1) (tCons (tLstU (tCons (tCB (rIsX K (XC D)) (tCons (tVar 0) (tCons (tC (.ref (D.c 24))) (tNil)))) (tCons (tCB (rIsX K (XC D)) (tCons (tVar 0) (tCons (tC (.ref (D.c 25))) (tNil)))) (tNil)))) (tNil)))) (t_l_kinds_b_t5 K D)
noncomputable def t_l_kinds_b_t3 (K : PySem.W.Frag) (D : Ad0) : TS := tSeq (tDrop (tBM K "list" (rExtU K) (tVar 1) (tCons (tLstU (tCons (tCB (rIsX K (XC D)) (tCons (tVar 0) (tCons (tC (.ref (D.c 22))) (tNil)))) (tCons (tCB (rIsX K (XC D)) (tCons (tVar 0) (tCons (tC (.ref (D.c 23))) (tNil)))) (tNil)))) (tNil)))) (t_l_kinds_b_t4 K D)
noncomputable def t_l_kinds_b_t2 (K : PySem.W.Frag) (D : Ad0) : TS := tSeq (tDrop (tBM K "list" (rExtU K) (tVar 1) (tCons (tLstU (tCons (tCB (rIsX K (XC D)) (tCons (tVar 0) (tCons (tC (.ref (D.c 20))) (tNil)))) (tCons (tCB (rIsX K (XC D)) (tCons (tVar 0) (tCons (tC (.ref (D.c 21))) (tNil)))) (tNil)))) (tNil)))) (t_l_kinds_b_t3 K D)
noncomputable def t_l_kinds_b_t1 (K : PySem.W.Frag) (D : Ad0) : TS := tSeq (tDrop (tBM K "list" (rExtU K) (tVar 1) (tCons (tLstU (tCons (tCB (rIsX K (XC D)) (tCons (tVar 0) (tCons (tC (.ref (D.c 18))) (tNil)))) (tCons (tCB (rIsX K (XC D)) (tCons (tVar 0) (tCons (tC (.ref (D.c 19))) (tNil)))) (tNil)))) (tNil)))) (t_l_kinds_b_t2 K D)
noncomputable def t_l_kinds_b (K : PySem.W.Frag) (D : Ad0) : TS := tSeq (tAsg (tLstU (tNil)) (gName 1)) (t_l_kinds_b_t1 K D)
noncomputable def t_l_kinds_c_t5 (K : PySem.W.Frag) (D : Ad0) : TS := tRet (tVar 1)
noncomputable def t_l_kinds_c_t4 (K : PySem.W.Frag) (D : Ad0) : TS := tSeq (tDrop (tBM K "list" (rExtU K) (tVar 1) (tCons (tLstU (tCons (tCB (rIsX K (XC D)) (tCons (tVar 0) (tCons (tC (.ref (D.c 42))) (tNil)))) (tNil))) (tNil)))) (t_l_kinds_c_t5 K D)
noncomputable def t_l_kinds_c_t3 (K : PySem.W.Frag) (D : Ad0) : TS := tSeq (tDrop (tBM K "list" (rExtU K) (tVar 1) (tCons (tLstU (tCons (tCB (rIsX K (XC D)) (tCons (tVar 0) (tCons (tC (.ref (D.c 40))) (tNil)))) (tCons (tCB (rIsX K (XC D)) (tCons (tVar 0) (tCons (tC (.ref (D.c 41))) (tNil)))) (tNil)))) (tNil)))) (t_l_kinds_c_t4 K D)
noncomputable def t_l_kinds_c_t2 (K : PySem.W.Frag) (D : Ad0) : TS := tSeq (tDrop (tBM K "list" (rExtU K) (tVar 1) (tCons (tLstU (tCons (tCB (rIsX K (XC D)) (tCons (tVar 0) (tCons (tC (.ref (D.c 38))) (tNil)))) (tCons (tCB (rIsX K (XC D)) (tCons (tVar 0) (tCons (tC (.ref (D.c 39))) (tNil)))) (tNil)))) (tNil)))) (t_l_kinds_c_t3 K D)
noncomputable def t_l_kinds_c_t1 (K : PySem.W.Frag) (D : Ad0) : TS := tSeq (tDrop (tBM K "list" (rExtU K) (tVar 1) (tCons (tLstU (tCons (tCB (rIsX K (XC D)) (tCons (tVar 0) (tCons (tC (.ref (D.c 36))) (tNil)))) (tCons (tCB (rIsX K (XC D)) (tCons (tVar 0) (tCons (tC (.ref (D.c 37))) (tNil)))) (tNil)))) (tNil)))) (t_l_kinds_c_t2 K D)
noncomputable def t_l_kinds_c (K : PySem.W.Frag) (D : Ad0) : TS := tSeq (tAsg (tLstU (tNil)) (gName 1)) (t_l_kinds_c_t1 K D)
noncomputable def t_l_kinds (K : PySem.W.Frag) (D : Ad0) : TS := tRet (tOp (rAddU K) (tOp (rAddU K) (tCall (spKinds D 0 18) [] E0 (tCons (tVar 0) (tNil))) (tCall (spKinds D 18 18) [] E0 (tCons (tVar 0) (tNil)))) (tCall (spKinds D 36 7) [] E0 (tCons (tVar 0) (tNil))))
noncomputable def t_l_is_own_t1 (K : PySem.W.Frag) (D : Ad0) : TS := tRet (tOp (rEqU K) (tCall (spKinds D 0 43) [] E0 (tCons (tVar 0) (tNil))) (tLcU (iRng1 (tCons (tC (.int 43)) (tNil))) (gName 2) (tYes) (tOp (rEqU K) (tVar 2) (tVar 1)) [2]))
noncomputable def t_l_is_own (K : PySem.W.Frag) (D : Ad0) : TS := tSeq (tIfS (tOr (tNot (tB (tCB (rIsX K (XC D)) (tCons (tVar 0) (tCons (tC (.ref D.cE)) (tNil)))))) (tOr (tNot (tB (tCB (rIsX K (XC D)) (tCons (tVar 0) (tCons (tC (.ty "ValueError")) (tNil)))))) (tB (tCB (rIsX K (XC D)) (tCons (tVar 0) (tCons (tC (.ty "LookupError")) (tNil))))))) (tRet (tC (.bl false))) (tNext)) (t_l_is_own_t1 K D)
noncomputable def t_l_are_these (K : PySem.W.Frag) (D : Ad0) : TS := tRet (tAndV (tOp (rEqU K) (tCB rReprS (tCons (tVar 0) (tNil))) (tCB rReprS (tCons (tVar 1) (tNil)))) (tOp (rEqU K) (tCB (rLenU K) (tCons (tVar 0) (tNil))) (tCB (rLenU K) (tCons (tVar 1) (tNil)))))
noncomputable def t0_law_b2 (K : PySem.W.Frag) (D : Ad0) : TS := tSeq (tAsg (tSl (rSlU K) (tCall spMixed [] E0 (tCons (tVar 1) (tCons (tVar 2) (tNil)))) (tNoPart) (tPart (tC (.int 3)))) (gUnl K 3 (gCons (gName 4) (gCons (gName 5) (gCons (gName 6) (gNil))))))
      (tSeq (tAsg (tOp (rAddU K) (tOp (rAddU K) (tCall (spMade D D.PA qA 0 18) [] E0 (tCons (tVar 4) (tCons (tVar 5) (tCons (tVar 6) (tNil))))) (tCall (spMade D D.PB qB 18 18) [] E0 (tCons (tVar 4) (tCons (tVar 5) (tCons (tVar 6) (tNil)))))) (tCall (spMade D D.PC qC 36 7) [] E0 (tCons (tVar 4) (tCons (tVar 5) (tCons (tVar 6) (tNil)))))) (gName 7))
      (tForU (iEnumU K (tCons (tVar 7) (tNil))) (gTup K 2 (gCons (gName 8) (gCons (gTup K 4 (gCons (gName 9) (gCons (gName 10) (gCons (gName 11) (gCons (gName 12) (gNil)))))) (gNil)))) (t0_law_row K D)))
noncomputable def t0_law_b6 (K : PySem.W.Frag) (D : Ad0) : TS := tIfS (tOr (tNot (tB (tCall spThese [] E0 (tCons (tCallV 11 (FldS (XF D)) (tCons (tVar 9) (tNil))) (tCons (tVar 12) (tNil)))))) (tNot (tB (tCall spThese [] E0 (tCons (tCallV 11 (FldS (XF D)) (tCons (tVar 10) (tNil))) (tCons (tVar 12) (tNil))))))) (tRet (tC (.bl false))) (tNext)
noncomputable def t0_law_t8 (K : PySem.W.Frag) (D : Ad0) : TS := tRet (tAndV (tCB (rIsX K (XC D)) (tCons (tVar 14) (tCons (tC (.ty "ValueError")) (tNil)))) (tNotInU K (tC (.bl true)) (tCall (spKinds D 0 43) [] E0 (tCons (tVar 14) (tNil)))))
noncomputable def t0_law_t7 (K : PySem.W.Frag) (D : Ad0) : TS := tSeq (tAsg (tMk0 D.cE) (gName 14)) (t0_law_t8 K D)
noncomputable def t0_law_t6 (K : PySem.W.Frag) (D : Ad0) : TS := tSeq (tForU (iSeqU K (tVar 7)) (gTup K 4 (gCons (gName 9) (gCons (gName 10) (gCons (gName 11) (gCons (gName 12) (gNil)))))) (t0_law_b6 K D)) (t0_law_t7 K D)
noncomputable def t0_law_t5 (K : PySem.W.Frag) (D : Ad0) : TS := tSeq (tDrop (tBM K "list" (rAppendU) (tVar 13) (tCons (tC (.str "w")) (tNil)))) (t0_law_t6 K D)
noncomputable def t0_law_t4 (K : PySem.W.Frag) (D : Ad0) : TS := tSeq (tAsg (tOp (rAddU K) (tOp (rAddU K) (tCall (spMade D D.PA qA 0 18) [] E0 (tCons (tVar 13) (tCons (tVar 13) (tCons (tVar 13) (tNil))))) (tCall (spMade D D.PB qB 18 18) [] E0 (tCons (tVar 13) (tCons (tVar 13) (tCons (tVar 13) (tNil)))))) (tCall (spMade D D.PC qC 36 7) [] E0 (tCons (tVar 13) (tCons (tVar 13) (tCons (tVar 13) (tNil)))))) (gName 7)) (t0_law_t5 K D)
noncomputable def t0_law_t3 (K : PySem.W.Frag) (D : Ad0) : TS := tSeq (tAsg (tLstB (tCons (tC (.str "v")) (tNil))) (gName 13)) (t0_law_t4 K D)
noncomputable def t0_law_t2 (K : PySem.W.Frag) (D : Ad0) : TS := tSeq (tForU (iRng1 (tCons (tC (.int 2)) (tNil))) (gName 3) (t0_law_b2 K D)) (t0_law_t3 K D)
noncomputable def t0_law_t1 (K : PySem.W.Frag) (D : Ad0) : TS := tSeq (tAsg (tLstB (tCons (tC .non) (tCons (tC (.int 5)) (tCons (tUn (rU fun i => .int (-i)) (tC (.int 1))) (tCons (tC (.bl true)) (tCons (tC (.str "a")) (tCons (tC (.str "")) (tCons (tLstB (tCons (tC (.int 1)) (tCons (tC (.str "b")) (tNil)))) (tCons (tTupU (tCons (tC (.int 2)) (tCons (tC .non) (tNil)))) (tCons (tDisp [(tC (.str "a"), tC (.int 1))]) (tCons (tLstB (tCons (tLstB (tCons (tC (.str "x")) (tNil))) (tNil))) (tCons (tOp (rI CPow fun i j => .int (i ^ j.toNat)) (tC (.int 10)) (tC (.int 30))) (tCons (tTupU (tCons (tC (.str "s")) (tCons (tC (.int 3)) (tNil)))) (tCons (tC (.bl false)) (tCons (tC (.int 0)) (tCons (tC (.int 1)) (tNil))))))))))))))))) (gName 2)) (t0_law_t2 K D)
noncomputable def t0_law (K : PySem.W.Frag) (D : Ad0) : TS := tSeq (tAsg (tCall (spStart K) [] E0 (tCons (tVar 0) (tNil))) (gName 1)) (t0_law_t1 K D)
theorem rd_l_made_a (K : PySem.W.Frag) (D : Ad0) {vs : List V} {H : Hp} {Q : VK} {E : XK} (h : spMade D D.PA qA 0 18 vs H Q E) :
    t_l_made_a K D { nx := fun _ H' => Q .non H', rt := Q } (start ["_law_x", "_law_y", "_law_z", "_law_found", "_law_e"] vs) H := by
  obtain ⟨st, cl, c, x, y, z, N, rfl, g, tq, hN, q⟩ := h
  unfold t_l_made_a tSeq tAsg
  refine ⟨by decide, fun r H0 hr e0 => ?_⟩
  have x0 : ExF [] H H0 := exn e0 hr
  have g0 := g.ex x0
  have m0 : MadeSt (N ++ GL D st cl) r D.PA qA H H0 [] [] := ⟨g0.tab tq, eqs e0, Ents.nil, x0.of, by simp, hr, g.trkN hN, List.mem_append_right _ (tq.mem st cl), g.codeN tq hN⟩
  unfold t_l_made_a_t1 tSeq
  refine addE (ws := [x]) m0 rfl (pure1 rfl) (pure1 rfl) (pure1 rfl) rfl (by decide) rfl flk1 (by simp) fun i1 H1 m1 => ?_
  unfold t_l_made_a_t2 tSeq
  refine addE (ws := [x]) m1 rfl (pure1 rfl) (pure1 rfl) (pure1 rfl) rfl (by decide) rfl flk1 (by simp) fun i2 H2 m2 => ?_
  unfold t_l_made_a_t3 tSeq
  refine addE (ws := [x]) m2 rfl (pure1 rfl) (pure1 rfl) (pure1 rfl) rfl (by decide) rfl flk1 (by simp) fun i3 H3 m3 => ?_
  unfold t_l_made_a_t4 tSeq
  refine addE (ws := [x]) m3 rfl (pure1 rfl) (pure1 rfl) (pure1 rfl) rfl (by decide) rfl flk1 (by simp) fun i4 H4 m4 => ?_
  unfold t_l_made_a_t5 tSeq
  refine addE (ws := [x]) m4 rfl (pure1 rfl) (pure1 rfl) (pure1 rfl) rfl (by decide) rfl flk1 (by simp) fun i5 H5 m5 => ?_
  unfold t_l_made_a_t6 tSeq
  refine addE (ws := [x]) m5 rfl (pure1 rfl) (pure1 rfl) (pure1 rfl) rfl (by decide) rfl flk1 (by simp) fun i6 H6 m6 => ?_
  unfold t_l_made_a_t7 tSeq
  refine addE (ws := [x]) m6 rfl (pure1 rfl) (pure1 rfl) (pure1 rfl) rfl (by decide) rfl flk1 (by simp) fun i7 H7 m7 => ?_
  unfold t_l_made_a_t8 tSeq
  refine addE (ws := [x]) m7 rfl (pure1 rfl) (pure1 rfl) (pure1 rfl) rfl (by decide) rfl flk1 (by simp) fun i8 H8 m8 => ?_
  unfold t_l_made_a_t9 tSeq
  refine addE (ws := [x]) m8 rfl (pure1 rfl) (pure1 rfl) (pure1 rfl) rfl (by decide) rfl flk1 (by simp) fun i9 H9 m9 => ?_
  unfold t_l_made_a_t10 tSeq
  refine addE (ws := [x]) m9 rfl (pure1 rfl) (pure1 rfl) (pure1 rfl) rfl (by decide) rfl flk1 (by simp) fun i10 H10 m10 => ?_
  unfold t_l_made_a_t11 tSeq
  refine addE (ws := [x]) m10 rfl (pure1 rfl) (pure1 rfl) (pure1 rfl) rfl (by decide) rfl flk1 (by simp) fun i11 H11 m11 => ?_
  unfold t_l_made_a_t12 tSeq
  refine addE (ws := [x]) m11 rfl (pure1 rfl) (pure1 rfl) (pure1 rfl) rfl (by decide) rfl flk1 (by simp) fun i12 H12 m12 => ?_
  unfold t_l_made_a_t13 tSeq
  refine addE (ws := [x]) m12 rfl (pure1 rfl) (pure1 rfl) (pure1 rfl) rfl (by decide) rfl flk1 (by simp) fun i13 H13 m13 => ?_
  unfold t_l_made_a_t14 tSeq
  refine addE (ws := [x]) m13 rfl (pure1 rfl) (pure1 rfl) (pure1 rfl) rfl (by decide) rfl flk1 (by simp) fun i14 H14 m14 => ?_
  unfold t_l_made_a_t15 tSeq
  refine addE (ws := [x]) m14 rfl (pure1 rfl) (pure1 rfl) (pure1 rfl) rfl (by decide) rfl flk1 (by simp) fun i15 H15 m15 => ?_
  unfold t_l_made_a_t16 tSeq
  refine addE (ws := [x]) m15 rfl (pure1 rfl) (pure1 rfl) (pure1 rfl) rfl (by decide) rfl flk1 (by simp) fun i16 H16 m16 => ?_
  unfold t_l_made_a_t17 tSeq
  refine addE (ws := [x]) m16 rfl (pure1 rfl) (pure1 rfl) (pure1 rfl) rfl (by decide) rfl flk1 (by simp) fun i17 H17 m17 => ?_
  unfold t_l_made_a_t18 tSeq
  refine addE (ws := [x]) m17 rfl (pure1 rfl) (pure1 rfl) (pure1 rfl) rfl (by decide) rfl flk1 (by simp) fun i18 H18 m18 => ?_
  exact ⟨_, rfl, q r _ H18 (g.tabbed tq m18.ex m18.tab) m18.ex hr m18.hl (m18.en.sub fun a z => List.mem_cons_of_mem _ z)⟩
theorem rd_l_made_b (K : PySem.W.Frag) (D : Ad0) {vs : List V} {H : Hp} {Q : VK} {E : XK} (h : spMade D D.PB qB 18 18 vs H Q E) :
    t_l_made_b K D { nx := fun _ H' => Q .non H', rt := Q } (start ["_law_x", "_law_y", "_law_z", "_law_found", "_law_e"] vs) H := by
  obtain ⟨st, cl, c, x, y, z, N, rfl, g, tq, hN, q⟩ := h
  unfold t_l_made_b tSeq tAsg
  refine ⟨by decide, fun r H0 hr e0 => ?_⟩
  have x0 : ExF [] H H0 := exn e0 hr
  have g0 := g.ex x0
  have m0 : MadeSt (N ++ GL D st cl) r D.PB qB H H0 [] [] := ⟨g0.tab tq, eqs e0, Ents.nil, x0.of, by simp, hr, g.trkN hN, List.mem_append_right _ (tq.mem st cl), g.codeN tq hN⟩
  unfold t_l_made_b_t1 tSeq
  refine addE (ws := [x]) m0 rfl (pure1 rfl) (pure1 rfl) (pure1 rfl) rfl (by decide) rfl flk1 (by simp) fun i1 H1 m1 => ?_
  unfold t_l_made_b_t2 tSeq
  refine addE (ws := [x]) m1 rfl (pure1 rfl) (pure1 rfl) (pure1 rfl) rfl (by decide) rfl flk1 (by simp) fun i2 H2 m2 => ?_
  unfold t_l_made_b_t3 tSeq
  refine addE (ws := [x]) m2 rfl (pure1 rfl) (pure1 rfl) (pure1 rfl) rfl (by decide) rfl flk1 (by simp) fun i3 H3 m3 => ?_
  unfold t_l_made_b_t4 tSeq
  refine addE (ws := [x]) m3 rfl (pure1 rfl) (pure1 rfl) (pure1 rfl) rfl (by decide) rfl flk1 (by simp) fun i4 H4 m4 => ?_
  unfold t_l_made_b_t5 tSeq
  refine addE (ws := [x]) m4 rfl (pure1 rfl) (pure1 rfl) (pure1 rfl) rfl (by decide) rfl flk1 (by simp) fun i5 H5 m5 => ?_
  unfold t_l_made_b_t6 tSeq
  refine addE (ws := [x]) m5 rfl (pure1 rfl) (pure1 rfl) (pure1 rfl) rfl (by decide) rfl flk1 (by simp) fun i6 H6 m6 => ?_
  unfold t_l_made_b_t7 tSeq
  refine addE (ws := [x]) m6 rfl (pure1 rfl) (pure1 rfl) (pure1 rfl) rfl (by decide) rfl flk1 (by simp) fun i7 H7 m7 => ?_
  unfold t_l_made_b_t8 tSeq
  refine addE (ws := [x]) m7 rfl (pure1 rfl) (pure1 rfl) (pure1 rfl) rfl (by decide) rfl flk1 (by simp) fun i8 H8 m8 => ?_
  unfold t_l_made_b_t9 tSeq
  refine addE (ws := [x]) m8 rfl (pure1 rfl) (pure1 rfl) (pure1 rfl) rfl (by decide) rfl flk1 (by simp) fun i9 H9 m9 => ?_
  unfold t_l_made_b_t10 tSeq
  refine addE (ws := [x]) m9 rfl (pure1 rfl) (pure1 rfl) (pure1 rfl) rfl (by decide) rfl flk1 (by simp) fun i10 H10 m10 => ?_
  unfold t_l_made_b_t11 tSeq
  refine addE (ws := [x]) m10 rfl (pure1 rfl) (pure1 rfl) (pure1 rfl) rfl (by decide) rfl flk1 (by simp) fun i11 H11 m11 => ?_
  unfold t_l_made_b_t12 tSeq
  refine addE (ws := [x, y]) m11 rfl (pure2 rfl rfl) (pure2 rfl rfl) (pure2 rfl rfl) rfl (by decide) rfl (flk2 (by decide)) (by simp) fun i12 H12 m12 => ?_
  unfold t_l_made_b_t13 tSeq
  refine addE (ws := [x]) m12 rfl (pure1 rfl) (pure1 rfl) (pure1 rfl) rfl (by decide) rfl flk1 (by simp) fun i13 H13 m13 => ?_
  unfold t_l_made_b_t14 tSeq
  refine addE (ws := [x]) m13 rfl (pure1 rfl) (pure1 rfl) (pure1 rfl) rfl (by decide) rfl flk1 (by simp) fun i14 H14 m14 => ?_
  unfold t_l_made_b_t15 tSeq
  refine addE (ws := [x]) m14 rfl (pure1 rfl) (pure1 rfl) (pure1 rfl) rfl (by decide) rfl flk1 (by simp) fun i15 H15 m15 => ?_
  unfold t_l_made_b_t16 tSeq
  refine addE (ws := [x]) m15 rfl (pure1 rfl) (pure1 rfl) (pure1 rfl) rfl (by decide) rfl flk1 (by simp) fun i16 H16 m16 => ?_
  unfold t_l_made_b_t17 tSeq
  refine addE (ws := [x]) m16 rfl (pure1 rfl) (pure1 rfl) (pure1 rfl) rfl (by decide) rfl flk1 (by simp) fun i17 H17 m17 => ?_
  unfold t_l_made_b_t18 tSeq
  refine addE (ws := [x]) m17 rfl (pure1 rfl) (pure1 rfl) (pure1 rfl) rfl (by decide) rfl flk1 (by simp) fun i18 H18 m18 => ?_
  exact ⟨_, rfl, q r _ H18 (g.tabbed tq m18.ex m18.tab) m18.ex hr m18.hl (m18.en.sub fun a z => List.mem_cons_of_mem _ z)⟩
theorem rd_l_made_c (K : PySem.W.Frag) (D : Ad0) {vs : List V} {H : Hp} {Q : VK} {E : XK} (h : spMade D D.PC qC 36 7 vs H Q E) :
    t_l_made_c K D { nx := fun _ H' => Q .non H', rt := Q } (start ["_law_x", "_law_y", "_law_z", "_law_found", "_law_e"] vs) H := by
  obtain ⟨st, cl, c, x, y, z, N, rfl, g, tq, hN, q⟩ := h
  unfold t_l_made_c tSeq tAsg
  refine ⟨by decide, fun r H0 hr e0 => ?_⟩
  have x0 : ExF [] H H0 := exn e0 hr
  have g0 := g.ex x0
  have m0 : MadeSt (N ++ GL D st cl) r D.PC qC H H0 [] [] := ⟨g0.tab tq, eqs e0, Ents.nil, x0.of, by simp, hr, g.trkN hN, List.mem_append_right _ (tq.mem st cl), g.codeN tq hN⟩
  unfold t_l_made_c_t1 tSeq
  refine addE (ws := [x, y]) m0 rfl (pure2 rfl rfl) (pure2 rfl rfl) (pure2 rfl rfl) rfl (by decide) rfl (flk2 (by decide)) (by simp) fun i1 H1 m1 => ?_
  unfold t_l_made_c_t2 tSeq
  refine addE (ws := [x]) m1 rfl (pure1 rfl) (pure1 rfl) (pure1 rfl) rfl (by decide) rfl flk1 (by simp) fun i2 H2 m2 => ?_
  unfold t_l_made_c_t3 tSeq
  refine addE (ws := [x]) m2 rfl (pure1 rfl) (pure1 rfl) (pure1 rfl) rfl (by decide) rfl flk1 (by simp) fun i3 H3 m3 => ?_
  unfold t_l_made_c_t4 tSeq
  refine addE (ws := [x]) m3 rfl (pure1 rfl) (pure1 rfl) (pure1 rfl) rfl (by decide) rfl flk1 (by simp) fun i4 H4 m4 => ?_
  unfold t_l_made_c_t5 tSeq
  refine addE (ws := [x]) m4 rfl (pure1 rfl) (pure1 rfl) (pure1 rfl) rfl (by decide) rfl flk1 (by simp) fun i5 H5 m5 => ?_
  unfold t_l_made_c_t6 tSeq
  refine addE (ws := [x]) m5 rfl (pure1 rfl) (pure1 rfl) (pure1 rfl) rfl (by decide) rfl flk1 (by simp) fun i6 H6 m6 => ?_
  unfold t_l_made_c_t7 tSeq
  refine addE (ws := [x, y]) m6 rfl (pure2 rfl rfl) (pure2 rfl rfl) (pure2 rfl rfl) rfl (by decide) rfl (flk2 (by decide)) (by simp) fun i7 H7 m7 => ?_
  exact ⟨_, rfl, q r _ H7 (g.tabbed tq m7.ex m7.tab) m7.ex hr m7.hl (m7.en.sub fun a z => List.mem_cons_of_mem _ z)⟩
theorem rd_l_kinds_a {K : PySem.W.Frag} {D : Ad0} (T : Kit0 K D) {vs : List V} {H : Hp} {Q : VK} {E : XK} (h : spKinds D 0 18 vs H Q E) :
    t_l_kinds_a K D { nx := fun _ H' => Q .non H', rt := Q } (start ["_law_e", "_law_found"] vs) H := by
  obtain ⟨v, bs, rfl, hx, q⟩ := h
  unfold t_l_kinds_a tSeq tAsg
  refine ⟨by decide, fun r H0 hr e0 => ?_⟩
  have x0 : ExF [] H H0 := exn e0 hr
  have y0 : ExF [r] H H0 := x0.of
  have k0 := hx.ex x0
  have l0 : H0 r = some (.lst []) := eqs e0
  unfold t_l_kinds_a_t1 tSeq
  refine ext2 T rfl rfl k0 l0 (by simp) (by decide) (by decide) fun H1 z1 k1 l1 => ?_
  have y1 := y0.trans z1
  unfold t_l_kinds_a_t2 tSeq
  refine ext2 T rfl rfl k1 l1 (by simp) (by decide) (by decide) fun H2 z2 k2 l2 => ?_
  have y2 := y1.trans z2
  unfold t_l_kinds_a_t3 tSeq
  refine ext2 T rfl rfl k2 l2 (by simp) (by decide) (by decide) fun H3 z3 k3 l3 => ?_
  have y3 := y2.trans z3
  unfold t_l_kinds_a_t4 tSeq
  refine ext2 T rfl rfl k3 l3 (by simp) (by decide) (by decide) fun H4 z4 k4 l4 => ?_
  have y4 := y3.trans z4
  unfold t_l_kinds_a_t5 tSeq
  refine ext2 T rfl rfl k4 l4 (by simp) (by decide) (by decide) fun H5 z5 k5 l5 => ?_
  have y5 := y4.trans z5
  unfold t_l_kinds_a_t6 tSeq
  refine ext2 T rfl rfl k5 l5 (by simp) (by decide) (by decide) fun H6 z6 k6 l6 => ?_
  have y6 := y5.trans z6
  unfold t_l_kinds_a_t7 tSeq
  refine ext2 T rfl rfl k6 l6 (by simp) (by decide) (by decide) fun H7 z7 k7 l7 => ?_
  have y7 := y6.trans z7
  unfold t_l_kinds_a_t8 tSeq
  refine ext2 T rfl rfl k7 l7 (by simp) (by decide) (by decide) fun H8 z8 k8 l8 => ?_
  have y8 := y7.trans z8
  unfold t_l_kinds_a_t9 tSeq
  refine ext2 T rfl rfl k8 l8 (by simp) (by decide) (by decide) fun H9 z9 k9 l9 => ?_
  have y9 := y8.trans z9
  exact ⟨_, rfl, q r H9 hr l9 (y9.drop hr)⟩
theorem rd_l_kinds_b {K : PySem.W.Frag} {D : Ad0} (T : Kit0 K D) {vs : List V} {H : Hp} {Q : VK} {E : XK} (h : spKinds D 18 18 vs H Q E) :
    t_l_kinds_b K D { nx := fun _ H' => Q .non H', rt := Q } (start ["_law_e", "_law_found"] vs) H := by
  obtain ⟨v, bs, rfl, hx, q⟩ := h
  unfold t_l_kinds_b tSeq tAsg
  refine ⟨by decide, fun r H0 hr e0 => ?_⟩
  have x0 : ExF [] H H0 := exn e0 hr
  have y0 : ExF [r] H H0 := x0.of
  have k0 := hx.ex x0
  have l0 : H0 r = some (.lst []) := eqs e0
  unfold t_l_kinds_b_t1 tSeq
  refine ext2 T rfl rfl k0 l0 (by simp) (by decide) (by decide) fun H1 z1 k1 l1 => ?_
  have y1 := y0.trans z1
  unfold t_l_kinds_b_t2 tSeq
  refine ext2 T rfl rfl k1 l1 (by simp) (by decide) (by decide) fun H2 z2 k2 l2 => ?_
  have y2 := y1.trans z2
  unfold t_l_kinds_b_t3 tSeq
  refine ext2 T rfl rfl k2 l2 (by simp) (by decide) (by decide) fun H3 z3 k3 l3 => ?_
  have y3 := y2.trans z3
  unfold t_l_kinds_b_t4 tSeq
  refine ext2 T rfl rfl k3 l3 (by simp) (by decide) (by decide) fun H4 z4 k4 l4 => ?_
  have y4 := y3.trans z4
  unfold t_l_kinds_b_t5 tSeq
  refine ext2 T rfl rfl k4 l4 (by simp) (by decide) (by decide) fun H5 z5 k5 l5 => ?_
  have y5 := y4.trans z5
  unfold t_l_kinds_b_t6 tSeq
  refine ext2 T rfl rfl k5 l5 (by simp) (by decide) (by decide) fun H6 z6 k6 l6 => ?_
  have y6 := y5.trans z6
  unfold t_l_kinds_b_t7 tSeq
  refine ext2 T rfl rfl k6 l6 (by simp) (by decide) (by decide) fun H7 z7 k7 l7 => ?_
  have y7 := y6.trans z7
  unfold t_l_kinds_b_t8 tSeq
  refine ext2 T rfl rfl k7 l7 (by simp) (by decide) (by decide) fun H8 z8 k8 l8 => ?_
  have y8 := y7.trans z8
  unfold t_l_kinds_b_t9 tSeq
  refine ext2 T rfl rfl k8 l8 (by simp) (by decide) (by decide) fun H9 z9 k9 l9 => ?_
  have y9 := y8.trans z9
  exact ⟨_, rfl, q r H9 hr l9 (y9.drop hr)⟩
theorem rd_l_kinds_c {K : PySem.W.Frag} {D : Ad0} (T : Kit0 K D) {vs : List V} {H : Hp} {Q : VK} {E : XK} (h : spKinds D 36 7 vs H Q E) :
    t_l_kinds_c K D { nx := fun _ H' => Q .non H', rt := Q } (start ["_law_e", "_law_found"] vs) H := by
  obtain ⟨v, bs, rfl, hx, q⟩ := h
  unfold t_l_kinds_c tSeq tAsg
  refine ⟨by decide, fun r H0 hr e0 => ?_⟩
  have x0 : ExF [] H H0 := exn e0 hr
  have y0 : ExF [r] H H0 := x0.of
  have k0 := hx.ex x0
  have l0 : H0 r = some (.lst []) := eqs e0
  unfold t_l_kinds_c_t1 tSeq
  refine ext2 T rfl rfl k0 l0 (by simp) (by decide) (by decide) fun H1 z1 k1 l1 => ?_
  have y1 := y0.trans z1
  unfold t_l_kinds_c_t2 tSeq
  refine ext2 T rfl rfl k1 l1 (by simp) (by decide) (by decide) fun H2 z2 k2 l2 => ?_
  have y2 := y1.trans z2
  unfold t_l_kinds_c_t3 tSeq
  refine ext2 T rfl rfl k2 l2 (by simp) (by decide) (by decide) fun H3 z3 k3 l3 => ?_
  have y3 := y2.trans z3
  unfold t_l_kinds_c_t4 tSeq
  refine ext1 T rfl rfl k3 l3 (by simp) (by decide) fun H4 z4 l4 => ?_
  have y4 := y3.trans z4
  exact ⟨_, rfl, q r H4 hr l4 (y4.drop hr)⟩
end Tw
end

section
set_option Elab.async false
set_option linter.all false
set_option maxRecDepth 100000
set_option maxHeartbeats 1000000
namespace Tw
open PySem L2 PyProof.Rows LamX
theorem forI {wi : TI} {g : TG} {tb : TS} {D : Ends} {σ : L2.St} {H : Hp} (h : tFor wi g tb D σ H) : tForU wi g tb D σ H := by unfold tForU; exact h
theorem forRg {D : Ends} {σ : L2.St} {H : Hp} {tb : TS} {k n : Nat} (Pv : Nat → L2.St → Hp → Prop) (h0 : Pv 0 σ H)
    (hs : ∀ i σ' H', i < n → Pv i σ' H' → tb { D with nx := Pv (i + 1), ct := Pv (i + 1), bk := D.nx } (σ'.set k (some (.int (0 + (i : Nat))))) H') (hd : ∀ σ' H', Pv n σ' H' → D.nx σ' H') :
    ∃ W : Nat → Nat → L2.St → Hp → Prop, (∃ m, W 0 m σ H) ∧ ∀ i m σ H, W i m σ H →
      ((Itr 0 ((n : Int)).toNat).stop i H ∧ D.nx σ H) ∨ ((Itr 0 ((n : Int)).toNat).go i H ∧ ∃ N : L2.St → Hp → Prop, (∀ σ' H', N σ' H' → ∃ m', m' < m ∧ W (i + 1) m' σ' H') ∧ ∀ x H', (Itr 0 ((n : Int)).toNat).yld i H x H' → gName k x σ H' fun σ2 H2 => tb { D with nx := N, ct := N, bk := D.nx } σ2 H2) := by
  have en : ((n : Int)).toNat = n := by omega
  rw [en]
  exact for_range Pv h0 hs hd
theorem lcRC {n : Nat} {g : TG} {tt : TT} {te : TE} {vs : List Nat} {σ : L2.St} {H : Hp} {Q : VK} (hn : n < 2 ^ 62) (Pv : Addr → Nat → Hp → Prop)
    (h0 : ∀ D H', H D = none → H' = upd H D (.lst []) → Pv D 0 H')
    (hs : ∀ D i H', H D = none → i < n → Pv D i H' → g (.int (0 + (i : Nat))) (wipe σ vs) H' fun σ2 H2 => wipe σ2 vs = wipe σ vs ∧ tt σ2 H2 fun b H3 =>
      if b = true then te σ2 H3 fun y H4 => ∃ acc, H4 D = some (.lst acc) ∧ acc.length < sizeLine ∧ Pv D (i + 1) (upd H4 D (.lst (acc ++ [y]))) else Pv D (i + 1) H3)
    (hd : ∀ D H', H D = none → Pv D n H' → Q (.ref D) H') : tLcU (iRng1 (tCons (tC (.int (n : Int))) tNil)) g tt te vs σ H Q := by
  unfold tLcU
  refine ⟨(n : Int), rfl, by omega, by omega, ?_⟩
  have en : ((n : Int)).toNat = n := by omega
  rw [en]
  exact lcR Pv h0 hs hd
theorem RpL.bls {F : List Addr} {H : Hp} (bs : List Bool) : RpL F H (bs.map V.bl) (bs.map PyData.bool) := ⟨by simp, fun i v d h1 h2 => by
  rw [List.getElem?_map] at h1 h2
  cases hb : bs[i]? with
  | none => rw [hb] at h1; cases h1
  | some b => rw [hb] at h1 h2; cases h1; cases h2; exact .bl b⟩
theorem oks_bls {n : Nat} (bs : List Bool) : oks n (bs.map PyData.bool) = true := oks_iff.mpr fun d hd => by
  obtain ⟨i, _, rfl⟩ := List.mem_map.mp hd
  exact ok_bool
section
variable {K : PySem.W.Frag} {D : Ad0} {vs : List V} {H : Hp} {Q : VK} {E : XK}
theorem rd_l_kinds (h : spKinds D 0 43 vs H Q E) : t_l_kinds K D { nx := fun _ H' => Q .non H', rt := Q } (start ["_law_e"] vs) H := by
  obtain ⟨v, bs, rfl, hx, q⟩ := h
  have sz : sizeLine = 16777216 := sizeLine_eq
  unfold t_l_kinds tRet
  refine ⟨_, rfl, v, bs, rfl, hx, fun r1 H1 n1 h1 x1 => ⟨_, rfl, v, bs, rfl, hx.ex x1, fun r2 H2 n2 h2 x2 => ?_⟩⟩
  refine catL (x2.at_ _ _ (by simp) h1) h2 (by simp; omega) fun p3 H3 hp3 e3 => ?_
  have x3 : ExF [] H2 H3 := exn e3 hp3
  refine ⟨_, rfl, v, bs, rfl, hx.ex ((x1.trans x2).trans x3), fun r4 H4 n4 h4 x4 => ?_⟩
  refine catL (x4.at_ _ _ (by simp) (eqs e3)) h4 (by simp; omega) fun p5 H5 hp5 e5 => ?_
  have x5 : ExF [] H4 H5 := exn e5 hp5
  have x14 := ((x1.trans x2).trans x3).trans x4
  exact q p5 H5 (x14.free hp5) (eqs e5) (x14.trans x5)
theorem rd_l_is_own (T : Kit0 K D) (h : spIsOwn D vs H Q E) : t_l_is_own K D { nx := fun _ H' => Q .non H', rt := Q } (start ["_law_e", "_law_at", "_law_k"] vs) H := by
  obtain ⟨v, i, fl, ws, rfl, hi, he, q⟩ := h
  have sz : sizeLine = 16777216 := sizeLine_eq
  unfold t_l_is_own tSeq
  refine ⟨_, rfl, isxE T hi he ⟨_, rfl, iteF ⟨_, rfl, isxV T hi he ⟨_, rfl, iteF ⟨_, rfl, isxL T hi he ⟨_, rfl, iteF ?_⟩⟩⟩⟩⟩⟩
  unfold t_l_is_own_t1 tRet
  refine ⟨_, rfl, v, _, rfl, .inl ⟨i, fl, ws, hi, he, rfl⟩, fun r H1 n1 h1 x1 => ?_⟩
  refine lcRC (n := 43) (by decide) (fun D0 k H' => H' D0 = some (.lst (((List.range k).map fun j => decide (i = j)).map V.bl)) ∧ ExF [D0] H1 H') (fun D0 H' hD e => ⟨eqs e, exn e hD⟩) (fun D0 k H' hD hk ⟨hH, y⟩ => ?_) fun D0 H2 hD ⟨hH, y⟩ => ?_
  · refine ⟨rfl, ?_⟩
    unfold tYes
    dsimp only
    rw [if_pos rfl]
    refine ⟨_, rfl, _, rfl, eqI ⟨_, hH, by simp; omega, ?_, exm rfl (.inr (by simp)) y⟩⟩
    have eb : decide ((0 : Int) + (k : Nat) = (i : Nat)) = decide (i = k) := by
      by_cases h : i = k
      · rw [decide_eq_true h, decide_eq_true (by omega)]
      · rw [decide_eq_false h, decide_eq_false (by omega)]
    rw [upd_same, eb, List.range_succ, List.map_append, List.map_append]
    rfl
  · have y' : ExF [] H1 H2 := y.drop hD
    have rr : ((List.range 43).map fun k => V.bl (decide (i = 0 + k))) = ((List.range 43).map fun j => decide (i = j)).map V.bl := by
      rw [List.map_map]
      exact List.map_congr_left fun k _ => by simp
    rw [rr] at h1
    have oo : ok 3 (.list (((List.range 43).map fun j => decide (i = j)).map PyData.bool)) = true := by rw [ok_list]; exact ⟨oks_bls _, by simp⟩
    refine eqO (n := 3) (m := 3) (F := []) (G := []) (.list (by simp) (y'.at_ _ _ (by simp) h1) (RpL.bls _)) (.list (by simp) hH (RpL.bls _)) oo oo ?_
    rw [PySem.SeqAt.eqv_refl _ (ok_lay oo).1]
    exact q H2 (x1.trans y')
theorem shAll : ∀ {ds : List PyData}, (∀ d ∈ ds, shOk d = true) → PyData.showableAll ds = true ∧ PyData.depthAll ds ≤ 10 ∧ piled (PyData.shownAll ds) ≤ 202 * ds.length
  | [], _ => ⟨by rw [PyData.showableAll], by rw [PyData.depthAll]; exact Nat.zero_le _, by rw [PyData.shownAll]; exact Nat.zero_le _⟩
  | d :: ds, h => by
    have h1 := h d (by simp)
    obtain ⟨a, b, c⟩ := shAll (ds := ds) fun e he => h e (by simp [he])
    unfold shOk at h1
    rw [Bool.and_eq_true, Bool.and_eq_true, decide_eq_true_eq, decide_eq_true_eq] at h1
    refine ⟨by rw [PyData.showableAll, h1.1.1, a]; rfl, ?_, ?_⟩
    · rw [PyData.depthAll]
      exact Nat.max_le.mpr ⟨h1.1.2, b⟩
    · rw [PyData.shownAll, piled_cons, List.length_cons]
      omega
theorem rd_l_are_these (h : spThese vs H Q E) : t_l_are_these K D { nx := fun _ H' => Q .non H', rt := Q } (start ["_law_found", "_law_due"] vs) H := by
  obtain ⟨a, b, xs, ds, rfl, ba, bb, ha, hb, r, l2, hs, q⟩ := h
  have sz : sizeLine = 16777216 := sizeLine_eq
  obtain ⟨s1, s2, s3⟩ := shAll hs
  have t1 : (PyData.list ds).showable = true := by rw [PyData.showable]; exact s1
  have t2 : (PyData.list ds).depth ≤ 64 := by rw [PyData.depth]; omega
  have t3 : (PyData.list ds).shown.length ≤ sizeLine := by rw [PyData.shown]; have := listText_le (PyData.shownAll ds); omega
  unfold t_l_are_these tRet
  refine ⟨_, rfl, a, .list ds, rfl, .list (by simp) ba ha r, t1, t2, t3, ⟨_, rfl, b, .list ds, rfl, .list (by simp) bb hb r, t1, t2, t3, eqS ?_⟩⟩
  refine ⟨_, rfl, ?_⟩
  rw [decide_eq_true rfl]
  refine iteT ⟨_, rfl, lenL ha ⟨_, rfl, lenL hb (eqI ?_)⟩⟩
  rw [decide_eq_true rfl]
  exact q H ExF.refl
/-- a row's fields, asked, are what is due -/
theorem theseOk {D' : Ends} {σ : L2.St} {M : List Addr} {f l C : Addr} {fl : List Str} {ws : List V} {ds : List PyData} {v1 v2 : V} {F : LF} (h9 : σ[9]? = some (some v1)) (h10 : σ[10]? = some (some v2)) (h11 : σ[11]? = some (some (.ref f))) (h12 : σ[12]? = some (some (.ref l)))
    (r1 : ErrAt M H v1 C fl ws) (r2 : ErrAt M H v2 C fl ws) (hf : H f = some (LamO f F)) (hF : IsFld fl F) (hc : H F.c = some (CodeO F.c F.qual)) (bl : sysModules < l) (hl : H l = some (.lst ws)) (hX : ∀ f ∈ fl, XF D C f) (rs : ShL [] H ws ds) (ld : ds.length ≤ 2) (hs : ∀ d ∈ ds, shOk d = true)
    (k : ∀ H', ExF [] H H' → D'.nx σ H') :
    (tIfS (tOr (tNot (tB (tCall spThese [] E0 (tCons (tCallV 11 (FldS (XF D)) (tCons (tVar 9) (tNil))) (tCons (tVar 12) (tNil)))))) (tNot (tB (tCall spThese [] E0 (tCons (tCallV 11 (FldS (XF D)) (tCons (tVar 10) (tNil))) (tCons (tVar 12) (tNil))))))) (tRet (tC (.bl false))) (tNext)) D' σ H := by
  refine ⟨f, F, _, h11, hf, ⟨fl, hF, rfl⟩, _, h9, hf, hc, v1, C, ws, rfl, hX, r1.sub (by simp), fun p1 H1 n1 b1 e1 => ?_⟩
  have x1 : ExF [] H H1 := exn e1 n1
  have rs1 : ShL [] H1 ws ds := ⟨rs.1, fun i v d a b => (rs.2 i v d a b).ex x1⟩
  refine ⟨_, h12, p1, l, ws, ds, rfl, b1, bl, eqs e1, x1.at_ _ _ (by simp) hl, rs1, ld, hs, fun H2 x2 => ⟨_, rfl, iteF ?_⟩⟩
  have x12 := x1.trans x2
  refine ⟨f, F, _, h11, x12.at_ _ _ (by simp) hf, ⟨fl, hF, rfl⟩, _, h10, x12.at_ _ _ (by simp) hf, x12.at_ _ _ (by simp) hc, v2, C, ws, rfl, hX, (r2.sub (by simp)).ex x12, fun p3 H3 n3 b3 e3 => ?_⟩
  have x3 : ExF [] H2 H3 := exn e3 n3
  have x13 := x12.trans x3
  have rs3 : ShL [] H3 ws ds := ⟨rs.1, fun i v d a b => (rs.2 i v d a b).ex x13⟩
  refine ⟨_, h12, p3, l, ws, ds, rfl, b3, bl, eqs e3, x13.at_ _ _ (by simp) hl, rs3, ld, hs, fun H4 x4 => ⟨_, rfl, iteF ?_⟩⟩
  exact k H4 (x13.trans x4)
end
end Tw
end

section
set_option Elab.async false
set_option linter.all false
set_option maxRecDepth 100000
set_option maxHeartbeats 1000000
namespace Tw
open PySem L2 PyProof.Rows LamX
def spLaw0 (K : PySem.W.Frag) (D : Ad0) : Sp := fun vs H Q _ => ∃ (a : Addr) (ns : List Int), vs = [.ref a] ∧ SqL K H a (ns.map V.int) ∧ ns.length ≤ 1000 ∧ TabS H D.PA qA ∧ TabS H D.PB qB ∧ TabS H D.PC qC ∧ D.PA ≠ D.PB ∧ D.PA ≠ D.PC ∧ D.PB ≠ D.PC ∧ ∀ H', Q (.bl true) H'
def L0 (a st sm : Addr) (u3 u4 u5 u6 u7 u8 u9 u10 u11 u12 u13 u14 : Option V) : L2.St := [some (.ref a), some (.ref st), some (.ref sm), u3, u4, u5, u6, u7, u8, u9, u10, u11, u12, u13, u14]
/-- a thing that is shown shortly, none of it at F -/
def GoodV (F : List Addr) (H : Hp) (v : V) : Prop := ∃ d, Sh F H v d ∧ shOk d = true
theorem GoodV.ex {F : List Addr} {H H' : Hp} {v : V} (g : GoodV F H v) (x : ExF F H H') : GoodV F H' v := let ⟨d, h, k⟩ := g; ⟨d, h.ex x, k⟩
section
variable {K : PySem.W.Frag} {D : Ad0} {st cl : Addr} {c : Nat} {H H' : Hp} {Q : VK} {x y z : V} {N : List Addr}
theorem madeAll {ta : TA} {σ : L2.St} (pa : ∀ H (R : List V → Hp → Prop), R [x, y, z] H → ta σ H R) (g : Gd D st cl c H) (hN : ∀ a ∈ N, ∃ xs, H a = some (.lst xs))
    (q : ∀ r its H', Gd D st cl c H' → ExF [D.PA, D.PB, D.PC] H H' → H r = none → H' r = some (.lst its) → its.length = 43 → Ents (N ++ GL D st cl) H' its ((List.range 43).map (specOf D x y)) → Q (.ref r) H') :
    (tOp (rAddU K) (tOp (rAddU K) (tCall (spMade D D.PA qA 0 18) [] E0 ta) (tCall (spMade D D.PB qB 18 18) [] E0 ta)) (tCall (spMade D D.PC qC 36 7) [] E0 ta)) σ H Q := by
  have sz : sizeLine = 16777216 := sizeLine_eq
  have nx : ∀ {H1 H2 : Hp} {P : Addr} {q : Str}, Gd D st cl c H1 → Tq D P q → ExF [P] H1 H2 → (∀ a ∈ N, ∃ xs, H1 a = some (.lst xs)) → ∀ a ∈ N, ∃ xs, H2 a = some (.lst xs) := fun g tq x h a z => by
    obtain ⟨xs, k⟩ := h a z
    exact ⟨xs, x.at_ _ _ (by simpa using tbl_lst (g.tab tq) k) k⟩
  refine pa H _ ⟨st, cl, c, x, y, z, N, rfl, g, .A, hN, fun r1 i1 H1 g1 x1 n1 h1 en1 => ?_⟩
  have hN1 := nx g .A x1 hN
  refine pa H1 _ ⟨st, cl, c, x, y, z, N, rfl, g1, .B, hN1, fun r2 i2 H2 g2 x2 n2 h2 en2 => ?_⟩
  have hN2 := nx g1 .B x2 hN1
  have m : ∀ {P q}, Tq D P q → ∀ a ∈ [P], a ∈ N ++ GL D st cl := fun tq a z => by rw [List.mem_singleton.mp z]; exact List.mem_append_right _ (tq.mem st cl)
  have en1' := en1.ex (x2.sub (m .B))
  have l1 := en1.1
  have l2 := en2.1
  rw [List.length_map, List.length_range] at l1 l2
  have h1' := x2.at_ _ _ (by simpa using tbl_lst g1.tB h1) h1
  refine catL h1' h2 (by omega) fun r3 H3 n3 e3 => ?_
  have x3 : ExF [] H2 H3 := exn e3 n3
  refine pa H3 _ ⟨st, cl, c, x, y, z, N, rfl, g2.ex x3, .C, fun a z => let ⟨xs, k⟩ := hN2 a z; ⟨xs, x3.at_ _ _ (by simp) k⟩, fun r4 i4 H4 g4 x4 n4 h4 en4 => ?_⟩
  have l4 := en4.1
  rw [List.length_map, List.length_range] at l4
  have h3' := x4.at_ _ _ (by simpa using tbl_lst (g2.ex x3).tC (eqs e3)) (eqs e3)
  refine catL h3' h4 (by rw [List.length_append]; omega) fun r5 H5 n5 e5 => ?_
  have x5 : ExF [] H4 H5 := exn e5 n5
  have xx : ExF [D.PA, D.PB, D.PC] H H4 := (((x1.sub (by simp)).trans (x2.sub (by simp))).trans x3.of).trans (x4.sub (by simp))
  refine q r5 _ H5 (g4.ex x5) (xx.trans x5.of) (xx.free n5) (eqs e5) (by rw [List.length_append, List.length_append]; omega) ?_
  have f1 := ((en1'.append en2).ex x3.of).ex (x4.sub (m .C))
  have f2 := (f1.append en4).ex x5.of
  have e : (List.range 18).map (fun k => specOf D x y (0 + k)) ++ (List.range 18).map (fun k => specOf D x y (18 + k)) ++ (List.range 7).map (fun k => specOf D x y (36 + k)) = (List.range 43).map (specOf D x y) := rfl
  rw [e] at f2
  exact f2
theorem argsData {fl : List Str} (gx : GoodV [] H x) (gy : GoodV [] H y) : ∃ ds, ShL [] H (argsOf fl x y) ds ∧ ds.length ≤ 2 ∧ ∀ d ∈ ds, shOk d = true := by
  obtain ⟨d1, s1, k1⟩ := gx
  obtain ⟨d2, s2, k2⟩ := gy
  unfold argsOf
  split
  · exact ⟨[d1], .cons s1 .nil, by simp, fun d hd => by rw [List.mem_singleton.mp hd]; exact k1⟩
  · exact ⟨[d1, d2], .cons s1 (.cons s2 .nil), by simp, fun d hd => by
      simp at hd
      rcases hd with e | e <;> rw [e] <;> assumption⟩
end
theorem take3 {xs : List V} (h : 3 ≤ xs.length) : ∃ x y z, xs.take 3 = [x, y, z] ∧ x ∈ xs ∧ y ∈ xs ∧ z ∈ xs := by
  match xs, h with
  | a :: b :: c :: r, _ => exact ⟨a, b, c, rfl, by simp, by simp, by simp⟩
/-- between the turns -/
def Turn0 (D : Ad0) (a st cl sm : Addr) (i : Nat) (σ : L2.St) (H : Hp) : Prop := ∃ (c : Nat) (svs : List V) (u3 u4 u5 u6 u7 u8 u9 u10 u11 u12 u13 u14 : Option V), σ = L0 a st sm u3 u4 u5 u6 u7 u8 u9 u10 u11 u12 u13 u14 ∧ Gd D st cl c H ∧ c ≤ i * 15 ∧ H sm = some (.lst svs) ∧ sm ∉ GL D st cl ∧ svs.length = 15 ∧ ∀ v ∈ svs, GoodV (GL D st cl) H v
theorem rd_turn0 {K : PySem.W.Frag} {D : Ad0} {a st cl sm : Addr} {i : Nat} {σ : L2.St} {H : Hp} (D' : Ends) (hD' : D'.nx = Turn0 D a st cl sm (i + 1)) (hi : i < 2) (h : Turn0 D a st cl sm i σ H) : t0_law_b2 K D D' (σ.set 3 (some (.int (0 + (i : Nat))))) H := by
  obtain ⟨c, svs, u3, u4, u5, u6, u7, u8, u9, u10, u11, u12, u13, u14, rfl, g, hc, hs, ns, ls, gv⟩ := h
  have sz : sizeLine = 16777216 := sizeLine_eq
  have hp48 : (2 : Nat) ^ 48 = 281474976710656 := by decide
  unfold t0_law_b2 tSeq tAsg
  refine ⟨_, rfl, _, rfl, st, cl, c, sm, svs, rfl, g.S, by omega, .inl hs, by rw [ls]; decide, fun r ms H1 pm n1 h1 S1 x1 => ⟨_, rfl, slToL 3 rfl h1 fun p H2 hp e2 => ?_⟩⟩
  have lm := pm.length_eq
  obtain ⟨x, y, z, e3, mx, my, mz⟩ := take3 (xs := ms) (by omega)
  rw [e3] at e2
  have x2 : ExF [] H1 H2 := exn e2 hp
  have xst : ∀ {F : List Addr}, ExF [st, cl] H H2 → ExF (GL D st cl) H H2 := fun x => x.sub (by intro a z; simp at z; rcases z with z | z <;> simp [z])
  have x02 : ExF [st, cl] H H2 := x1.trans x2.of
  have g2 : Gd D st cl (c + svs.length) H2 := (g.drawn S1 x1).ex x2
  have good : ∀ v ∈ ms, GoodV (GL D st cl) H2 v := fun v hv => (gv v (pm.mem_iff.mp hv)).ex (xst (F := []) x02)
  refine ⟨p, _, rfl, .inl (.inl (eqs e2)), rfl, _, _, rfl, _, _, rfl, _, _, rfl, rfl, ?_⟩
  have pa : ∀ H (R : List V → Hp → Prop), R [x, y, z] H → (tCons (tVar 4) (tCons (tVar 5) (tCons (tVar 6) tNil))) (L0 a st sm (some (.int (0 + (i : Nat)))) (some x) (some y) (some z) u7 u8 u9 u10 u11 u12 u13 u14) H R := fun H R k => ⟨_, rfl, _, rfl, _, rfl, k⟩
  refine madeAll (K := K) (N := []) pa g2 (by simp) fun m its H3 g3 x3 n3 h3 l3 en => ?_
  have x3' : ExF (GL D st cl) H2 H3 := x3.sub (by intro a z; simp at z; rcases z with z | z | z <;> simp [z])
  have gx := (good x mx).ex x3'
  have gy := (good y my).ex x3'
  refine forI (.inl ⟨_, rfl, m, its, rfl, .inl (.inl h3), ?_⟩)
  refine for_it (wkE (K := K) (a := m) (xs := its)) (fun k σ' H' => ∃ (w8 w9 w10 w11 w12 : Option V), σ' = L0 a st sm (some (.int (0 + (i : Nat)))) (some x) (some y) (some z) (some (.ref m)) w8 w9 w10 w11 w12 u13 u14 ∧ ExF [] H3 H') ⟨_, _, _, _, _, rfl, ExF.refl⟩ (fun k σ' H' _ ⟨_, _, _, _, _, _, w⟩ => w.at_ _ _ (by simp) h3) ?_ ?_
  · rintro k v σ' H' H'' hk ⟨w8, w9, w10, w11, w12, rfl, w⟩ ⟨T, tx, ty, rfl, hT, rfl, etx, hy⟩
    cases etx
    rw [l3] at hk
    have x4 : ExF [] H' (upd H' T (.tup [.int (k : Nat), ty])) := ExF.new hT
    have hr : ((List.range 43).map (specOf D x y))[k]? = some (specOf D x y k) := by
      rw [List.getElem?_map, List.getElem?_range hk]; rfl
    have ent := ((en.2 k ty _ hy hr).ex w.of).ex x4.of
    have wv : ∀ {v : V}, GoodV (GL D st cl) H3 v → GoodV [] (upd H' T (.tup [.int (k : Nat), ty])) v := fun g => by
      obtain ⟨d, h1, h2⟩ := (g.ex w.of).ex x4.of
      exact ⟨d, h1.sub (by simp), h2⟩
    obtain ⟨p1, e1, e2, f, l, F, rfl, np, hp1, r1, r2, nf, hf, hF, nc, hcc, nl, bl, hl⟩ := ent
    refine ⟨T, _, rfl, .inl (.inl upd_same), rfl, _, _, rfl, _, _, rfl, p1, _, rfl, .inl (.inl hp1), rfl, _, _, rfl, _, _, rfl, _, _, rfl, _, _, rfl, rfl, rfl, ?_⟩
    unfold t0_law_row tSeq
    refine ⟨_, rfl, _, rfl, e1, k, _, _, rfl, hk, r1.sub (by simp), fun H5 x5 => ⟨_, rfl, iteF ?_⟩⟩
    refine ⟨_, rfl, _, rfl, e2, k, _, _, rfl, hk, (r2.sub (by simp)).ex x5, fun H6 x6 => ⟨_, rfl, iteF ?_⟩⟩
    have x56 := x5.trans x6
    obtain ⟨ds, sd, ld, od⟩ := argsData (fl := flds k) (wv gx) (wv gy)
    have sd' : ShL [] H6 (argsOf (flds k) x y) ds := ⟨sd.1, fun i v d a b => (sd.2 i v d a b).ex x56⟩
    refine theseOk (D' := { nx := _, rt := _, bk := _, ct := _ }) rfl rfl rfl rfl (r1.ex x56.of) (r2.ex x56.of) (x56.at_ _ _ (by simp) hf) hF (x56.at_ _ _ (by simp) hcc) bl (x56.at_ _ _ (by simp) hl) (fun f hf => ⟨k, hk, rfl, hf⟩) sd' ld od fun H7 x7 => ?_
    exact ⟨_, _, _, _, _, rfl, ((w.trans x4).trans x56).trans x7⟩
  · rintro σ' H4 ⟨w8, w9, w10, w11, w12, rfl, w⟩
    show D'.nx _ _
    rw [hD']
    have xx : ExF (GL D st cl) H H4 := ((xst (F := []) x02).trans x3').trans w.of
    exact ⟨_, svs, _, _, _, _, _, _, _, _, _, _, _, _, rfl, g3.ex w, by rw [ls]; omega, xx.at_ _ _ ns hs, ns, ls, fun v hv => (gv v hv).ex xx⟩
end Tw
end

section
set_option Elab.async false
set_option linter.all false
set_option maxRecDepth 100000
set_option maxHeartbeats 1000000
namespace Tw
open PySem L2 PyProof.Rows LamX
theorem tabbed {H H' : Hp} {P : Addr} {q : Str} (T : TabS H P q) (x : ExF [] H H') : TabS H' P q := T.ext fun b o e => x.at_ _ _ (by simp) e
theorem rd0_law {K : PySem.W.Frag} {D : Ad0} (T : Kit0 K D) {vs : List V} {H : Hp} {Q : VK} {E : XK} (h : spLaw0 K D vs H Q E) :
    t0_law K D { nx := fun _ H' => Q .non H', rt := Q } (start ["_law_script", "_law_stream", "_law_some", "_law_turn", "_law_x", "_law_y", "_law_z", "_law_made", "_law_at", "_law_mine", "_law_twin", "_law_field", "_law_due", "_law_held", "_law_base"] vs) H := by
  obtain ⟨a, ns, rfl, hs, hl, tA, tB, tC, nAB, nAC, nBC, q⟩ := h
  have sz : sizeLine = 16777216 := sizeLine_eq
  unfold t0_law tSeq tAsg
  refine ⟨_, rfl, a, ns, rfl, hs, hl, fun st cl H1 S1 n1 n2 x1 => ?_⟩
  have g1 : Gd D st cl 0 H1 := ⟨S1, tabbed tA x1, tabbed tB x1, tabbed tC x1, nAB, nAC, nBC⟩
  unfold t0_law_t1 tSeq tAsg tTupU
  refine ⟨1, rfl, ?_⟩
  refine ⟨by show 2 ≤ sizeLine; decide, fun p1 H2 m1 b1 e2 => ?_⟩
  have x2 : ExF [] H1 H2 := exn e2 m1
  refine ⟨by show 2 ≤ sizeLine; decide, fun p2 H3 m2 e3 => ?_⟩
  have x3 : ExF [] H2 H3 := exn e3 m2
  refine fun p3 m3 => ⟨upd_same, [(.inr "a", .int 1)], rfl, by show 1 ≤ 15; decide, ?_⟩
  generalize e4 : upd (upd H3 p3 (.dK [])) p3 (.dK (mergeK [] [((.inr "a" : L2.Key), V.int 1)])) = H4
  have e4 := e4.symm
  have x4 : ExF [] H3 H4 := by rw [e4, upd_upd]; exact ExF.new m3
  have k3 : H4 p3 = some (.dK [(.inr "a", .int 1)]) := by rw [e4, upd_same]; rfl
  refine ⟨by show 1 ≤ sizeLine; decide, fun p5 H5 m5 b5 e5 => ⟨by show 1 ≤ sizeLine; decide, fun p4 H6 m4 b4 e6 => ?_⟩⟩
  have x5 : ExF [] H4 H5 := exn e5 m5
  have x6 : ExF [] H5 H6 := exn e6 m4
  refine ⟨10, 30, rfl, rfl, ⟨by decide, by decide, by decide⟩, ?_⟩
  refine ⟨by show 2 ≤ sizeLine; decide, fun p6 H7 m6 e7 => ?_⟩
  have x7 : ExF [] H6 H7 := exn e7 m6
  refine ⟨by show 15 ≤ sizeLine; decide, fun sm H8 m8 b8 e8 => ?_⟩
  have x8 : ExF [] H7 H8 := exn e8 m8
  have x78 := x7.trans x8
  have x68 := x6.trans x78
  have x58 := x5.trans x68
  have x48 := x4.trans x58
  have x38 := x3.trans x48
  have x28 := x2.trans x38
  have g8 := g1.ex x28
  have tk := g1.trk
  have q1 : p1 ∉ GL D st cl := tk.nin m1
  have q2 : p2 ∉ GL D st cl := (tk.ex x2).nin m2
  have x13 := x2.trans x3
  have q3 : p3 ∉ GL D st cl := (tk.ex x13).nin m3
  have x14 := x13.trans x4
  have q5 : p5 ∉ GL D st cl := (tk.ex x14).nin m5
  have x15 := x14.trans x5
  have q4 : p4 ∉ GL D st cl := (tk.ex x15).nin m4
  have x16 := x15.trans x6
  have q6 : p6 ∉ GL D st cl := (tk.ex x16).nin m6
  have x17 := x16.trans x7
  have qs : sm ∉ GL D st cl := (tk.ex x17).nin m8
  have w1 : H8 p1 = some (.lst [.int 1, .str "b"]) := x38.at_ _ _ (by simp) (eqs e2)
  have w2 : H8 p2 = some (.tup [.int 2, .non]) := x48.at_ _ _ (by simp) (eqs e3)
  have w3 : H8 p3 = some (.dK [(.inr "a", .int 1)]) := x58.at_ _ _ (by simp) k3
  have w5 : H8 p5 = some (.lst [.str "x"]) := x68.at_ _ _ (by simp) (eqs e5)
  have w4 : H8 p4 = some (.lst [.ref p5]) := x78.at_ _ _ (by simp) (eqs e6)
  have w6 : H8 p6 = some (.tup [.str "s", .int 3]) := x8.at_ _ _ (by simp) (eqs e7)
  have two : ∀ {v w : V} {d e : PyData}, Sh (GL D st cl) H8 v d → Sh (GL D st cl) H8 w e → ShL (GL D st cl) H8 [v, w] [d, e] := fun h k => .cons h (.cons k .nil)
  have gv : ∀ v ∈ ([.non, .int 5, .int (-1), .bl true, .str "a", .str "", .ref p1, .ref p2, .ref p3, .ref p4, .int (10 ^ (30 : Int).toNat), .ref p6, .bl false, .int 0, .int 1] : List V), GoodV (GL D st cl) H8 v := by
    intro v hv
    simp only [List.mem_cons, List.not_mem_nil, or_false] at hv
    rcases hv with h | h | h | h | h | h | h | h | h | h | h | h | h | h | h <;> rw [h]
    · exact ⟨_, .non, by decide +kernel⟩
    · exact ⟨_, .int 5, by decide +kernel⟩
    · exact ⟨_, .int (-1), by decide +kernel⟩
    · exact ⟨_, .bl true, by decide +kernel⟩
    · exact ⟨_, .str "a", by decide +kernel⟩
    · exact ⟨_, .str "", by decide +kernel⟩
    · exact ⟨_, .list q1 b1 w1 (two (.int 1) (.str "b")), by decide +kernel⟩
    · exact ⟨_, .tuple q2 w2 (two (.int 2) .non), by decide +kernel⟩
    · exact ⟨_, .dct q3 w3, by decide +kernel⟩
    · exact ⟨_, .list q4 b4 w4 (.cons (.list q5 b5 w5 (.cons (.str "x") .nil)) .nil), by decide +kernel⟩
    · exact ⟨_, .int _, by decide +kernel⟩
    · exact ⟨_, .tuple q6 w6 (two (.str "s") (.int 3)), by decide +kernel⟩
    · exact ⟨_, .bl false, by decide +kernel⟩
    · exact ⟨_, .int 0, by decide +kernel⟩
    · exact ⟨_, .int 1, by decide +kernel⟩
  -- the turns
  unfold t0_law_t2 tSeq
  refine forI ⟨(2 : Int), rfl, by decide, by decide, ?_⟩
  refine forRg (n := 2) (Turn0 D a st cl sm) ⟨0, _, _, _, _, _, _, _, _, _, _, _, _, _, rfl, g8, by omega, eqs e8, qs, rfl, gv⟩ (fun i σ' H' hi p => rd_turn0 _ rfl hi p) ?_
  rintro σ2 H9 ⟨c, svs, u3, u4, u5, u6, u7, u8, u9, u10, u11, u12, u13, u14, rfl, g9, hc, _⟩
  -- one that is held, changed later
  unfold t0_law_t3 tSeq tAsg
  refine ⟨by show 1 ≤ sizeLine; decide, fun hd HA mA bA eA => ?_⟩
  have xA : ExF [] H9 HA := exn eA mA
  have gA := g9.ex xA
  have hA : HA hd = some (.lst [.str "v"]) := eqs eA
  unfold t0_law_t4 tSeq tAsg
  have pa : ∀ H (R : List V → Hp → Prop), R [.ref hd, .ref hd, .ref hd] H → (tCons (tVar 13) (tCons (tVar 13) (tCons (tVar 13) tNil))) (L0 a st sm u3 u4 u5 u6 u7 u8 u9 u10 u11 u12 (some (.ref hd)) u14) H R := fun H R k => ⟨_, rfl, _, rfl, _, rfl, k⟩
  have hN : ∀ b ∈ [hd], ∃ xs, HA b = some (.lst xs) := fun b z => by
    rw [List.mem_singleton.mp z]
    exact ⟨_, hA⟩
  refine madeAll (K := K) (N := [hd]) pa gA hN fun m its HB gB xB nB hB lB en => ?_
  have nhd : hd ∉ [D.PA, D.PB, D.PC] := by
    have := tbl_lst gA.tA hA
    have := tbl_lst gA.tB hA
    have := tbl_lst gA.tC hA
    simp [*]
  have hB' := xB.at_ _ _ nhd hA
  unfold t0_law_t5 tSeq
  refine ⟨_, rfl, tyL hB', app hB' (by show 1 < sizeLine; decide) fun HC eC => ?_⟩
  have xC : ExF [hd] HB HC := exm eC (.inr (by simp)) ExF.refl
  have mh : m ≠ hd := fun z => by rw [z, hA] at nB; cases nB
  have hC := eqs eC
  have enC := en.ex (xC.sub fun b z => by rw [List.mem_singleton.mp z]; simp)
  have mC := xC.at_ _ _ (by simp [mh]) hB
  have gdC : GoodV [] HC (.ref hd) := ⟨_, .list (by simp) bA hC (.cons (.str "v") (.cons (.str "w") .nil)), by decide +kernel⟩
  unfold t0_law_t6 tSeq
  refine forI (.inl ⟨_, rfl, m, rfl, ⟨_, .inl (.inl mC)⟩, ?_⟩)
  refine for_it (wkL (K := K) (a := m) (xs := its)) (fun k σ' H' => ∃ (w9 w10 w11 w12 : Option V), σ' = L0 a st sm u3 u4 u5 u6 (some (.ref m)) u8 w9 w10 w11 w12 (some (.ref hd)) u14 ∧ ExF [] HC H') ⟨_, _, _, _, rfl, ExF.refl⟩ (fun k σ' H' _ ⟨_, _, _, _, _, w⟩ => w.at_ _ _ (by simp) mC) ?_ ?_
  · rintro k ty σ' H' H'' hk ⟨w9, w10, w11, w12, rfl, w⟩ ⟨e, hy⟩
    subst e
    rw [lB] at hk
    have hr : ((List.range 43).map (specOf D (.ref hd) (.ref hd)))[k]? = some (specOf D (.ref hd) (.ref hd) k) := by
      rw [List.getElem?_map, List.getElem?_range hk]; rfl
    have ent := (enC.2 k ty _ hy hr).ex w.of
    have gg : GoodV [] H'' (.ref hd) := gdC.ex w
    obtain ⟨p1, e1, e2, f, l, F, rfl, np, hp1, r1, r2, nf, hf, hF, nc, hcc, nl, bl, hl⟩ := ent
    refine ⟨p1, _, rfl, .inl (.inl hp1), rfl, _, _, rfl, _, _, rfl, _, _, rfl, _, _, rfl, rfl, ?_⟩
    unfold t0_law_b6
    obtain ⟨ds, sd, ld, od⟩ := argsData (fl := flds k) gg gg
    refine theseOk (D' := { nx := _, rt := _, bk := _, ct := _ }) rfl rfl rfl rfl r1 r2 hf hF hcc bl hl (fun f hf => ⟨k, hk, rfl, hf⟩) sd ld od fun H7 x7 => ?_
    exact ⟨_, _, _, _, rfl, w.trans x7⟩
  · rintro σ' HD ⟨w9, w10, w11, w12, rfl, w⟩
    unfold t0_law_t7 tSeq tAsg
    refine fun b mb => ?_
    generalize eE : upd HD b (ExO (.ref D.cE) b) = HE
    have eE := eE.symm
    unfold t0_law_t8 tRet
    refine ⟨_, rfl, isxEV T (eqs eE) ⟨_, rfl, iteT (.inl ⟨_, rfl, .ref b, _, rfl, .inr ⟨b, rfl, eqs eE, rfl⟩, fun r HF nF hF xF => ?_⟩)⟩⟩
    have rr : ((List.range 43).map fun k => V.bl false) = ((List.range 43).map fun _ => false).map V.bl := by rw [List.map_map]; rfl
    rw [rr] at hF
    have oo : ok 3 (.list (((List.range 43).map fun _ => false).map PyData.bool)) = true := by rw [ok_list]; exact ⟨oks_bls _, by simp⟩
    refine notInO (n := 0) (m := 3) (F := []) (G := []) (.bl true) (.list (by simp) hF (RpL.bls _)) ok_bool oo ?_
    have e : (((List.range 43).map fun _ => false).map PyData.bool).any (fun z => PyData.eqv z (.bool true)) = false := by
      rw [List.any_eq_false]
      intro z hz
      obtain ⟨b, hb, rfl⟩ := List.mem_map.mp hz
      obtain ⟨_, _, rfl⟩ := List.mem_map.mp hb
      decide
    rw [e]
    exact q HF
end Tw
end

section
set_option Elab.async false
set_option linter.all false
set_option maxRecDepth 100000
set_option maxHeartbeats 4000000
namespace Tw
open PySem PySem.Spec L2 PyProof.Rows LamX
/-- the law's call, its def told by FnG, with tables -/
theorem lawGT {P : Program} {w : World} {K : PySem.W.Frag} {mg mb : Str → Option Value} {k : Nat} {fa a : Addr} {cs : List (Addr × Addr)} {ps : List Str} {sp : Sp} {s₁ : Shared} {vs : List Value} {ns : List Int}
    (KX : K.In s₁.heap) (hns : s₁.heap.Ns mainGlobals mg) (hb : s₁.heap.Ns builtinsNs mb) (hbb : ∀ x : Str, x ≠ "__name__" → mb x = bootBuiltins x) (hlim : s₁.heap.NoLimit) (hg : s₁.gens = #[])
    (hT : ∀ p ∈ cs, s₁.heap.get? p.2 = some { cls := .none, data := .fields #[] }) (nT : ∀ p ∈ cs, K.lookup p.2 = none) (C : ∀ p ∈ cs, PySem.W.CodeHd s₁.heap p.1 p.2)
    (hbm : ∃ (bm : Addr) (ob : Obj), mg "__builtins__" = some (.ref bm) ∧ bm ≠ builtinsNs ∧ s₁.heap.get? bm = some ob ∧ ob.cls = .type "module" ∧ ob.dict = some builtinsNs ∧ ob.data = .plain)
    (ha : s₁.heap.get? a = some { cls := .type "list", data := .seq vs.toArray }) (hi : IntsAre vs ns) (hl : ns.length ≤ sizeLine) (hr : Room k callerA)
    (F : ∀ base : Heap, K.In base → base.Ns mainGlobals mg → (∀ p ∈ cs, TabB base mg p.1 p.2) → FnG P w K mg base k fa ps sp)
    (hsp : ∀ H : Hp, (∀ p ∈ cs, H p.2 = some (.tbl #[])) → SqL K H a (ns.map V.int) → sp [.ref a] H (fun v _ => v = .bl true) fun _ _ _ => False) :
    codeAny (model P w) callerA (.call (.ref fa) ⟨[.ref a], []⟩) (fun r s' => r = .ok (.ret (.bool true)) ∧ OldK s₁.heap s'.heap ∧ s'.os = s₁.os ∧ AllBare s'.gens) s₁ := by
  have rv := vals_ints hi
  have lenV := hi.length
  have isT : ∀ b : Addr, b ∈ cs.map (·.2) → s₁.heap.get? b = some { cls := .none, data := .fields #[] } := fun b hb => by
    obtain ⟨p, hp, e⟩ := List.mem_map.mp hb
    rw [← e]
    exact hT p hp
  have aT : a ∉ cs.map (·.2) := fun z => by
    have q := isT a z
    rw [ha] at q
    have z' : Data.seq vs.toArray _ = Data.fields #[] := congrArg Obj.data (Option.some.inj q)
    cases z'
  have memT : ∀ p ∈ cs, p.2 ∈ cs.map (·.2) := fun p hp => List.mem_map.mpr ⟨p, hp, rfl⟩
  -- from an abstract heap in which nothing but the script and the tables may be tracked
  have core : ∀ H : Hp, (∀ p ∈ cs, H p.2 = some (.tbl #[])) → (∀ b, H b = none ∨ b ∈ cs.map (·.2) ∨ ∃ o xs, H b = some (.frz o (.lst xs))) → SqL K H a (ns.map V.int) → HOk P w H s₁.heap → (∀ b, H b ≠ none → b = a ∨ b ∈ cs.map (·.2)) → (H a ≠ none → K.lookup a = none) →
      codeAny (model P w) callerA (.call (.ref fa) ⟨[.ref a], []⟩) (fun r s' => r = .ok (.ret (.bool true)) ∧ OldK s₁.heap s'.heap ∧ s'.os = s₁.os ∧ AllBare s'.gens) s₁ := by
    intro H hH hO hS hok hA hK
    have base_of : ∀ {b : Addr} {o : Obj}, s₁.heap.get? b = some o → H b = none → (hidT s₁.heap H).get? b = some o := fun e n => hidT_get e n
    have noD : ∀ {b : Addr} {o : Obj}, s₁.heap.get? b = some o → (∀ vs n, o.data ≠ .seq vs n) → o.data ≠ .fields #[] → H b = none := fun {b o} e h1 h2 => by
      cases q : H b with
      | none => rfl
      | some u =>
        rcases hA b (by rw [q]; simp) with e' | e'
        · rw [e', ha] at e
          cases e
          exact (h1 _ _ rfl).elim
        · rw [isT b e'] at e
          cases e
          exact (h2 rfl).elim
    have noA : ∀ {b : Addr} {o : Obj} {es : Array DictEntry} {ep : Nat}, s₁.heap.get? b = some o → o.data = .dict es ep → H b = none := fun {b o es ep} e d => by
      refine noD e (fun vs n z => ?_) fun z => ?_
      · rw [d] at z
        cases z
      · rw [d] at z
        cases z
    have nsK : ∀ {b : Addr} {m : Str → Option Value}, s₁.heap.Ns b m → (hidT s₁.heap H).Ns b m := fun {b m} ⟨o, es, ep, e, d, r⟩ => ⟨o, es, ep, base_of e (noA e d), d, r⟩
    have hKb : K.In (hidT s₁.heap H) := fun b o e => base_of (KX b o e) (by
      cases q : H b with
      | none => rfl
      | some u =>
        rcases hA b (by rw [q]; simp) with e' | e'
        · rw [e'] at e q
          rw [hK (by rw [q]; simp)] at e
          cases e
        · obtain ⟨p, hp, ep⟩ := List.mem_map.mp e'
          rw [← ep, nT p hp] at e
          cases e)
    have hM : L2.Mod K mg (hidT s₁.heap H) := ⟨hKb, nsK hns, ⟨mb, nsK hb, hbb⟩, let ⟨mc, h1, h2⟩ := hlim; ⟨mc, nsK h1, h2⟩⟩
    have TB : ∀ p ∈ cs, TabB (hidT s₁.heap H) mg p.1 p.2 := fun p hp => by
      have hTp := hT p hp
      refine ⟨?_, ?_, fun z => ?_⟩
      · obtain ⟨o, us, file, tf, flags, tg, inF, text, tt, e1, r1, r2, r3, r4, r5, r6, r7, r8, hne⟩ := C p hp
        refine ⟨o, us, file, tf, flags, tg, inF, text, tt, base_of e1 (noD e1 (fun vs n z => ?_) fun z => ?_), r1, r2, r3, r4, r5, r6, r7, r8, hne⟩
        · rw [r2] at z
          cases z
        · rw [r2] at z
          cases z
          simp at r3
      · obtain ⟨bm, ob, b1, b2, b3, b4, b5, b6⟩ := hbm
        have nG : bm ≠ mainGlobals := fun q => by
          obtain ⟨o, es, ep, e, hd, _⟩ := hns
          rw [q, e] at b3
          cases b3
          rw [hd] at b6
          cases b6
        have nP : bm ≠ p.2 := fun q => by
          rw [q, hTp] at b3
          cases b3
          cases b6
        refine ⟨bm, ob, b1, b2, nG, nP, base_of b3 (noD b3 (fun vs n z => ?_) fun z => ?_), b4, b5, b6⟩
        · rw [b6] at z
          cases z
        · rw [b6] at z
          cases z
      · obtain ⟨o, es, ep, e, hd, _⟩ := hns
        rw [z, hTp] at e
        cases e
        cases hd
    have e0 : Env0 P w K mg (hidT s₁.heap H) callerA [] s₁ H := ⟨rfl, hM, fun b o e => of_hidT e, Nat.le_of_eq (hidT_size _ _), trivial, fun b hb => absurd (show b ∈ ([] : List Addr) from hb) (by simp), hok, .of_eq hg⟩
    refine codeAny_mono ((F _ hKb (nsK hns) TB).run callerA [] s₁ H [.ref a] [.ref a] _ _ rfl hr e0 (.cons rfl .nil) (hsp H hH hS)) fun r s' h => ?_
    cases r with
    | error e => exact False.elim h
    | ok fl =>
      cases fl with
      | next => exact False.elim h
      | brk => exact False.elim h
      | cont => exact False.elim h
      | ret u =>
        obtain ⟨v, H', os, bare, un, hok', r', q⟩ := h
        have q' : v = .bl true := q
        subst q'
        obtain rfl : u = Value.bool true := r'
        have key : ∀ b o, b ∉ cs.map (·.2) → s₁.heap.get? b = some o → s'.heap.get? b = some o := fun b o nb e => by
          cases q : H b with
          | none => exact un.keep b o e q (by intro z; exact absurd (show b ∈ ([] : List Addr) from z) (by simp)) (by simp)
          | some u =>
            rcases hO b with z | z | ⟨ob, xs, z⟩
            · rw [q] at z; cases z
            · exact absurd z nb
            · have z2 := un.frzs b ob _ z
              obtain ⟨e1, _⟩ := hok b _ z
              obtain ⟨e2, _⟩ := hok' b _ z2
              rw [e] at e1; cases e1
              exact e2
        have grown : ∀ p ∈ cs, ∃ more : Array Value, s'.heap.get? p.2 = some { cls := .none, data := .fields more } := fun p hp => by
          obtain ⟨more, z⟩ := un.tbls p.2 #[] (hH p hp)
          exact ⟨_, hok' p.2 _ z⟩
        refine ⟨rfl, ⟨fun b o e => ?_, fun b o e => ?_⟩, os, bare⟩
        · by_cases hb : b ∈ cs.map (·.2)
          · obtain ⟨p, hp, ep⟩ := List.mem_map.mp hb
            obtain ⟨more, hm⟩ := grown p hp
            rw [← ep] at e ⊢
            rw [hT p hp] at e
            cases e
            exact .inr (.inl ⟨((C p hp).tab (hT p hp)).isCodeTable, rfl, #[], more, rfl, by rw [Array.empty_append]; exact hm⟩)
          · exact .inl (key b o hb e)
        · by_cases hb : b ∈ cs.map (·.2)
          · obtain ⟨p, hp, ep⟩ := List.mem_map.mp hb
            obtain ⟨more, hm⟩ := grown p hp
            rw [← ep]
            exact ⟨_, hm⟩
          · exact ⟨o, key b o hb e⟩
  cases hk : K.lookup a with
  | some o =>
    have e := KX a o hk
    rw [ha] at e
    cases e
    refine core (fun b => if b ∈ cs.map (·.2) then some (.tbl #[]) else none) (fun p hp => if_pos (memT p hp)) (fun b => ?_) (.inr ⟨_, vs.toArray, _, hk, rfl, rfl, rfl, by rw [List.size_toArray, lenV]; exact hl, by simpa using rv⟩) (fun b u z => ?_) (fun b z => ?_) fun z => absurd (show (if a ∈ cs.map (·.2) then some (HO.tbl #[]) else none) = none from if_neg aT) z
    · by_cases hb : b ∈ cs.map (·.2)
      · exact .inr (.inl hb)
      · exact .inl (if_neg hb)
    · by_cases hb : b ∈ cs.map (·.2)
      · have z' := (if_pos hb).symm.trans z
        cases z'
        exact isT b hb
      · have z' := (if_neg hb).symm.trans z
        cases z'
    · by_cases hb : b ∈ cs.map (·.2)
      · exact .inr hb
      · exact absurd (if_neg hb) z
  | none =>
    refine core (fun b => if b = a then some (.frz { cls := .type "list", data := .seq vs.toArray } (.lst (ns.map V.int))) else if b ∈ cs.map (·.2) then some (.tbl #[]) else none) (fun p hp => (if_neg (show ¬ p.2 = a from fun z => aT (by rw [← z]; exact memT p hp))).trans (if_pos (memT p hp))) (fun b => ?_)
      (.inl (.inr ⟨{ cls := .type "list", data := .seq vs.toArray }, if_pos rfl⟩)) (fun b u z => ?_) (fun b z => ?_) fun _ => hk
    · by_cases hb : b = a
      · exact .inr (.inr ⟨_, _, if_pos hb⟩)
      · by_cases hb2 : b ∈ cs.map (·.2)
        · exact .inr (.inl hb2)
        · exact .inl ((if_neg hb).trans (if_neg hb2))
    · by_cases hb : b = a
      · have z' := (if_pos hb).symm.trans z
        cases z'
        rw [hb]
        exact ⟨ha, by rw [List.length_map]; exact hl, vs, _, rv, ha⟩
      · have z1 := (if_neg hb).symm.trans z
        by_cases hb2 : b ∈ cs.map (·.2)
        · have z' := (if_pos hb2).symm.trans z1
          cases z'
          exact isT b hb2
        · have z' := (if_neg hb2).symm.trans z1
          cases z'
    · by_cases hb : b = a
      · exact .inl hb
      · by_cases hb2 : b ∈ cs.map (·.2)
        · exact .inr hb2
        · exact absurd ((if_neg hb).trans (if_neg hb2)) z

/-- the tables of the program's defs are empty -/
def OwnTabs (q : Program) (K : PySem.W.Frag) (mg : Str → Option Value) (h : Heap) : Prop := ∀ (x : Str) (fa c P : Addr) (o : Obj) (fd : FuncData) (e : Value) (dd : Option Addr) (vs : Array Value) (sl : Array (Option Value)), ((recsOf q).any fun e => e.name == x) = true → mg x = some (.ref fa) → K.lookup fa = some o → o.data = .func fd → fd.code = .ref c → K.lookup c = some ⟨e, dd, .fields vs, sl⟩ → vs[11]? = some (.ref P) →
  h.get? P = some { cls := .none, data := .fields #[] }
theorem walkGT {l : PySem.W.OpenLaw} {n k : Nat} {q : Program} {loose : List Str} {XP : (Str → Option Value) → Heap → Prop} {YP : World → Heap → Prop} {d : DefRec} {K : Params → PySem.W.Frag}
    (hn : l.most = some n) (hn2 : n ≤ sizeLine) (hdf : d.params.defaults = []) (hr : Room k callerA) (hY : ∀ (w : World) (h : Heap), YP w h → (K w.params).In h)
    (Fd : ∀ (w : World) (mg : Str → Option Value) (fa : Addr) (h : Heap), (K w.params).In h → h.Ns mainGlobals mg → mg d.name = some (.ref fa) → YP w h → OwnTabs q (K w.params) mg h →
      ∃ (ps : List Str) (cs : List (Addr × Addr)) (sp : Sp), (∀ p ∈ cs, h.get? p.2 = some { cls := .none, data := .fields #[] }) ∧ (∀ p ∈ cs, (K w.params).lookup p.2 = none) ∧ (∀ p ∈ cs, PySem.W.CodeHd h p.1 p.2) ∧
        (∀ (H : Hp) (a : Addr) (ns : List Int), ns.length ≤ n → (∀ p ∈ cs, H p.2 = some (.tbl #[])) → SqL (K w.params) H a (ns.map V.int) → sp [.ref a] H (fun v _ => v = .bl true) fun _ _ _ => False) ∧
        ∀ base : Heap, (K w.params).In base → base.Ns mainGlobals mg → (∀ p ∈ cs, TabB base mg p.1 p.2) → FnG l.prog w (K w.params) mg base k fa ps sp) :
    PySem.W.WalkO q loose XP YP l.row.toRowW d [] (fun f vs => PySem.call f vs) := by
  refine Att.attach_call hn hdf fun w s₀ s₁ mg mb fa o pm cd doc a vs ns G Y ho hd hcd hmg hobj hints hlen hg => ?_
  have KX := hY w _ Y
  have own : OwnTabs q (K w.params) mg s₁.heap := fun x fb c P o1 fd1 e dd vs1 sl hrec hmx k1 k2 k3 k4 k5 => by
    obtain ⟨dL, hm, hn1⟩ := List.any_eq_true.mp hrec
    have hn2 : dL.name = x := beq_iff_eq.mp hn1
    obtain ⟨a', o', fd', c', P', h1, h2, h3, h4, h5, h6⟩ := G.T.tab dL hm
    rw [hn2, hmx] at h1
    cases h1
    have g1 := KX _ _ k1
    rw [g1] at h2
    cases h2
    rw [k2] at h3
    cases h3
    rw [k3] at h4
    cases h4
    obtain ⟨⟨oc, vc, e1, _, e3, e4⟩, hP⟩ := h6
    have g2 := KX _ _ k4
    rw [g2] at e1
    cases e1
    cases e3
    rw [k5] at e4
    cases e4
    exact hP
  obtain ⟨ps, cs, sp, hT, nT, C, hsp, hF⟩ := Fd w mg fa _ KX G.T.g hmg Y own
  exact lawGT KX G.T.g G.T.b G.T.builtins G.T.nolimit hg hT nT C G.T.bmain hobj hints (Nat.le_trans hlen hn2) hr hF fun H hH hS => hsp H a ns hlen hH hS
/-- as walkGT, the written part told by the head's facts -/
theorem walkGE {l : PySem.W.OpenLaw} {n k : Nat} {q : Program} {loose : List Str} {XP : (Str → Option Value) → Heap → Prop} {YP : World → Heap → Prop} {d : DefRec}
    (hn : l.most = some n) (hn2 : n ≤ sizeLine) (hdf : d.params.defaults = []) (hr : Room k callerA)
    (Fd : ∀ (w : World) (mg : Str → Option Value) (fa : Addr) (h : Heap), h.Ns mainGlobals mg → mg d.name = some (.ref fa) → YP w h →
      ∃ (K : PySem.W.Frag) (ps : List Str) (cs : List (Addr × Addr)) (sp : Sp), K.In h ∧ (∀ p ∈ cs, h.get? p.2 = some { cls := .none, data := .fields #[] }) ∧ (∀ p ∈ cs, K.lookup p.2 = none) ∧ (∀ p ∈ cs, PySem.W.CodeHd h p.1 p.2) ∧
        (∀ (H : Hp) (a : Addr) (ns : List Int), ns.length ≤ n → (∀ p ∈ cs, H p.2 = some (.tbl #[])) → SqL K H a (ns.map V.int) → sp [.ref a] H (fun v _ => v = .bl true) fun _ _ _ => False) ∧
        ∀ base : Heap, K.In base → base.Ns mainGlobals mg → (∀ p ∈ cs, TabB base mg p.1 p.2) → FnG l.prog w K mg base k fa ps sp) :
    PySem.W.WalkO q loose XP YP l.row.toRowW d [] (fun f vs => PySem.call f vs) := by
  refine Att.attach_call hn hdf fun w s₀ s₁ mg mb fa o pm cd doc a vs ns G Y ho hd hcd hmg hobj hints hlen hg => ?_
  obtain ⟨K, ps, cs, sp, KX, hT, nT, C, hsp, hF⟩ := Fd w mg fa _ G.T.g hmg Y
  exact lawGT KX G.T.g G.T.b G.T.builtins G.T.nolimit hg hT nT C G.T.bmain hobj hints (Nat.le_trans hlen hn2) hr hF fun H hH hS => hsp H a ns hlen hH hS
end Tw
end

section
set_option Elab.async false
set_option linter.all false
set_option maxRecDepth 100000
set_option maxHeartbeats 4000000
namespace Tw
open PySem L2 PyProof.Rows LamX NdefX
/-- a def whose code object is known -/
structure FunC (K : PySem.W.Frag) (x qual : Str) (st : Stmt) (f : Addr) (fd : FuncData) (c : Addr) : Prop where
  ex : ∃ (oc : Value) (od : Option Addr) (kV doc pm : Value) (an : Option Addr) (ct : Value) (osl : Array (Option Value)),
    fd = PySem.W.fnOf x qual (defArgs st) (defBody st) (defScope st) .none kV doc pm an (.ref c) ct ∧ K.lookup f = some ⟨oc, od, .func fd, osl⟩ ∧ PySem.W.codeIn K (.ref c) qual = true
  kp : PySem.W.keepIn K (.ref f) = true
theorem FunC.fun {K : PySem.W.Frag} {x qual : Str} {st : Stmt} {f : Addr} {fd : FuncData} {c : Addr} (F : FunC K x qual st f fd c) : Fun K x qual st f fd := by
  obtain ⟨oc, od, kV, doc, pm, an, ct, osl, e, lk, hcd⟩ := F.ex
  exact ⟨⟨oc, od, kV, doc, pm, an, _, ct, osl, e, lk, hcd⟩, F.kp⟩
theorem FunC.ok {P : Program} {w : World} {K : PySem.W.Frag} {mg : Str → Option Value} {base : Heap} {x qual : Str} {st : Stmt} {f : Addr} {fd : FuncData} {c : Addr} {N ps : List Str} {k : Nat} {sp : Sp} (F : FunC K x qual st f fd c) (S : FnScope N ps (defScope st)) (len : ∀ vs H Q E, sp vs H Q E → vs.length = ps.length)
    (hbody : ∀ (A : Around) (outer : List Env) (s : Shared) (H : Hp) (vs : List V) (Q : VK) (E : XK), Room k (A.deeper (envOfC qual (defScope st) s.heap.objs.size f (.ref c))) → sp vs H Q E →
      ∃ t, PSs (cxOf CX0 P w K mg base N qual (defScope st) f (.ref c) A outer s H E).nox (defBody st) t ∧ t { nx := fun _ H' => Q .non H', rt := Q } (start N vs) H) : FnOk P w K mg base CX0 (k + 1) f fd ps sp := by
  obtain ⟨oc, od, kV, doc, pm, an, ct, osl, rfl, lk, hcd⟩ := F.ex
  refine fn_of lk hcd S len fun A outer s H vs Q E hr hsp => ?_
  obtain ⟨t, h, q⟩ := hbody A outer s H vs Q E hr hsp
  exact ⟨t, h.nox, q⟩
def NMT : List Str := [("BadBegun" : Str), ("BadBox" : Str), ("BadCells" : Str), ("BadChain" : Str), ("BadCount" : Str), ("BadDeed" : Str), ("BadHeld" : Str), ("BadHours" : Str), ("BadLine" : Str), ("BadLines" : Str), ("BadListing" : Str), ("BadMany" : Str), ("BadNumber" : Str), ("BadOrder" : Str), ("BadPairs" : Str), ("BadPlace" : Str), ("BadPlan" : Str), ("BadProgram" : Str), ("BadQuestion" : Str), ("BadReads" : Str), ("BadRow" : Str), ("BadRows" : Str), ("BadSeen" : Str), ("BadSession" : Str), ("BadSome" : Str), ("BadSource" : Str), ("BadSpots" : Str), ("BadTeller" : Str), ("BadTells" : Str), ("BadText" : Str), ("InUse" : Str), ("IsWatched" : Str), ("NoCell" : Str), ("NoCount" : Str), ("NoHour" : Str), ("NoLine" : Str), ("NoSpot" : Str), ("NoText" : Str), ("NoThing" : Str), ("NoTold" : Str), ("NotSound" : Str), ("NotWatched" : Str), ("WouldChange" : Str)]
def NM (i : Nat) : Str := NMT.getD i ""
def stm (b : List Stmt) (k : Nat) : Stmt := b.getD k (.Pass ⟨0, 0, 0, 0⟩)
abbrev N_p_BadBegun_init : List Str := ["self", "thing"]
theorem sc_p_BadBegun_init : FnScope ["self", "thing"] ["self", "thing"] (defScope s_p_BadBegun_init) := ⟨rfl, rfl, rfl, by decide +kernel, rfl, by decide +kernel, by decide +kernel⟩
abbrev N_p_BadBox_init : List Str := ["self", "thing"]
theorem sc_p_BadBox_init : FnScope ["self", "thing"] ["self", "thing"] (defScope s_p_BadBox_init) := ⟨rfl, rfl, rfl, by decide +kernel, rfl, by decide +kernel, by decide +kernel⟩
abbrev N_p_BadCells_init : List Str := ["self", "thing"]
theorem sc_p_BadCells_init : FnScope ["self", "thing"] ["self", "thing"] (defScope s_p_BadCells_init) := ⟨rfl, rfl, rfl, by decide +kernel, rfl, by decide +kernel, by decide +kernel⟩
abbrev N_p_BadChain_init : List Str := ["self", "thing"]
theorem sc_p_BadChain_init : FnScope ["self", "thing"] ["self", "thing"] (defScope s_p_BadChain_init) := ⟨rfl, rfl, rfl, by decide +kernel, rfl, by decide +kernel, by decide +kernel⟩
abbrev N_p_BadCount_init : List Str := ["self", "thing"]
theorem sc_p_BadCount_init : FnScope ["self", "thing"] ["self", "thing"] (defScope s_p_BadCount_init) := ⟨rfl, rfl, rfl, by decide +kernel, rfl, by decide +kernel, by decide +kernel⟩
abbrev N_p_BadDeed_init : List Str := ["self", "thing"]
theorem sc_p_BadDeed_init : FnScope ["self", "thing"] ["self", "thing"] (defScope s_p_BadDeed_init) := ⟨rfl, rfl, rfl, by decide +kernel, rfl, by decide +kernel, by decide +kernel⟩
abbrev N_p_BadHeld_init : List Str := ["self", "index"]
theorem sc_p_BadHeld_init : FnScope ["self", "index"] ["self", "index"] (defScope s_p_BadHeld_init) := ⟨rfl, rfl, rfl, by decide +kernel, rfl, by decide +kernel, by decide +kernel⟩
abbrev N_p_BadHours_init : List Str := ["self", "index"]
theorem sc_p_BadHours_init : FnScope ["self", "index"] ["self", "index"] (defScope s_p_BadHours_init) := ⟨rfl, rfl, rfl, by decide +kernel, rfl, by decide +kernel, by decide +kernel⟩
abbrev N_p_BadLine_init : List Str := ["self", "thing"]
theorem sc_p_BadLine_init : FnScope ["self", "thing"] ["self", "thing"] (defScope s_p_BadLine_init) := ⟨rfl, rfl, rfl, by decide +kernel, rfl, by decide +kernel, by decide +kernel⟩
abbrev N_p_BadLines_init : List Str := ["self", "index"]
theorem sc_p_BadLines_init : FnScope ["self", "index"] ["self", "index"] (defScope s_p_BadLines_init) := ⟨rfl, rfl, rfl, by decide +kernel, rfl, by decide +kernel, by decide +kernel⟩
abbrev N_p_BadListing_init : List Str := ["self", "index"]
theorem sc_p_BadListing_init : FnScope ["self", "index"] ["self", "index"] (defScope s_p_BadListing_init) := ⟨rfl, rfl, rfl, by decide +kernel, rfl, by decide +kernel, by decide +kernel⟩
abbrev N_p_BadMany_init : List Str := ["self", "thing"]
theorem sc_p_BadMany_init : FnScope ["self", "thing"] ["self", "thing"] (defScope s_p_BadMany_init) := ⟨rfl, rfl, rfl, by decide +kernel, rfl, by decide +kernel, by decide +kernel⟩
abbrev N_p_BadNumber_init : List Str := ["self", "thing"]
theorem sc_p_BadNumber_init : FnScope ["self", "thing"] ["self", "thing"] (defScope s_p_BadNumber_init) := ⟨rfl, rfl, rfl, by decide +kernel, rfl, by decide +kernel, by decide +kernel⟩
abbrev N_p_BadOrder_init : List Str := ["self", "thing"]
theorem sc_p_BadOrder_init : FnScope ["self", "thing"] ["self", "thing"] (defScope s_p_BadOrder_init) := ⟨rfl, rfl, rfl, by decide +kernel, rfl, by decide +kernel, by decide +kernel⟩
abbrev N_p_BadPairs_init : List Str := ["self", "index"]
theorem sc_p_BadPairs_init : FnScope ["self", "index"] ["self", "index"] (defScope s_p_BadPairs_init) := ⟨rfl, rfl, rfl, by decide +kernel, rfl, by decide +kernel, by decide +kernel⟩
abbrev N_p_BadPlace_init : List Str := ["self", "thing"]
theorem sc_p_BadPlace_init : FnScope ["self", "thing"] ["self", "thing"] (defScope s_p_BadPlace_init) := ⟨rfl, rfl, rfl, by decide +kernel, rfl, by decide +kernel, by decide +kernel⟩
abbrev N_p_BadPlan_init : List Str := ["self", "thing"]
theorem sc_p_BadPlan_init : FnScope ["self", "thing"] ["self", "thing"] (defScope s_p_BadPlan_init) := ⟨rfl, rfl, rfl, by decide +kernel, rfl, by decide +kernel, by decide +kernel⟩
abbrev N_p_BadProgram_init : List Str := ["self", "thing"]
theorem sc_p_BadProgram_init : FnScope ["self", "thing"] ["self", "thing"] (defScope s_p_BadProgram_init) := ⟨rfl, rfl, rfl, by decide +kernel, rfl, by decide +kernel, by decide +kernel⟩
abbrev N_p_BadQuestion_init : List Str := ["self", "thing"]
theorem sc_p_BadQuestion_init : FnScope ["self", "thing"] ["self", "thing"] (defScope s_p_BadQuestion_init) := ⟨rfl, rfl, rfl, by decide +kernel, rfl, by decide +kernel, by decide +kernel⟩
abbrev N_p_BadReads_init : List Str := ["self", "index"]
theorem sc_p_BadReads_init : FnScope ["self", "index"] ["self", "index"] (defScope s_p_BadReads_init) := ⟨rfl, rfl, rfl, by decide +kernel, rfl, by decide +kernel, by decide +kernel⟩
abbrev N_p_BadRow_init : List Str := ["self", "index"]
theorem sc_p_BadRow_init : FnScope ["self", "index"] ["self", "index"] (defScope s_p_BadRow_init) := ⟨rfl, rfl, rfl, by decide +kernel, rfl, by decide +kernel, by decide +kernel⟩
abbrev N_p_BadRows_init : List Str := ["self", "index"]
theorem sc_p_BadRows_init : FnScope ["self", "index"] ["self", "index"] (defScope s_p_BadRows_init) := ⟨rfl, rfl, rfl, by decide +kernel, rfl, by decide +kernel, by decide +kernel⟩
abbrev N_p_BadSeen_init : List Str := ["self", "index"]
theorem sc_p_BadSeen_init : FnScope ["self", "index"] ["self", "index"] (defScope s_p_BadSeen_init) := ⟨rfl, rfl, rfl, by decide +kernel, rfl, by decide +kernel, by decide +kernel⟩
abbrev N_p_BadSession_init : List Str := ["self", "thing"]
theorem sc_p_BadSession_init : FnScope ["self", "thing"] ["self", "thing"] (defScope s_p_BadSession_init) := ⟨rfl, rfl, rfl, by decide +kernel, rfl, by decide +kernel, by decide +kernel⟩
abbrev N_p_BadSome_init : List Str := ["self", "index"]
theorem sc_p_BadSome_init : FnScope ["self", "index"] ["self", "index"] (defScope s_p_BadSome_init) := ⟨rfl, rfl, rfl, by decide +kernel, rfl, by decide +kernel, by decide +kernel⟩
abbrev N_p_BadSource_init : List Str := ["self", "thing"]
theorem sc_p_BadSource_init : FnScope ["self", "thing"] ["self", "thing"] (defScope s_p_BadSource_init) := ⟨rfl, rfl, rfl, by decide +kernel, rfl, by decide +kernel, by decide +kernel⟩
abbrev N_p_BadSpots_init : List Str := ["self", "index"]
theorem sc_p_BadSpots_init : FnScope ["self", "index"] ["self", "index"] (defScope s_p_BadSpots_init) := ⟨rfl, rfl, rfl, by decide +kernel, rfl, by decide +kernel, by decide +kernel⟩
abbrev N_p_BadTeller_init : List Str := ["self", "thing"]
theorem sc_p_BadTeller_init : FnScope ["self", "thing"] ["self", "thing"] (defScope s_p_BadTeller_init) := ⟨rfl, rfl, rfl, by decide +kernel, rfl, by decide +kernel, by decide +kernel⟩
abbrev N_p_BadTells_init : List Str := ["self", "index"]
theorem sc_p_BadTells_init : FnScope ["self", "index"] ["self", "index"] (defScope s_p_BadTells_init) := ⟨rfl, rfl, rfl, by decide +kernel, rfl, by decide +kernel, by decide +kernel⟩
abbrev N_p_BadText_init : List Str := ["self", "line", "sign"]
theorem sc_p_BadText_init : FnScope ["self", "line", "sign"] ["self", "line", "sign"] (defScope s_p_BadText_init) := ⟨rfl, rfl, rfl, by decide +kernel, rfl, by decide +kernel, by decide +kernel⟩
abbrev N_p_InUse_init : List Str := ["self", "question"]
theorem sc_p_InUse_init : FnScope ["self", "question"] ["self", "question"] (defScope s_p_InUse_init) := ⟨rfl, rfl, rfl, by decide +kernel, rfl, by decide +kernel, by decide +kernel⟩
abbrev N_p_IsWatched_init : List Str := ["self", "question"]
theorem sc_p_IsWatched_init : FnScope ["self", "question"] ["self", "question"] (defScope s_p_IsWatched_init) := ⟨rfl, rfl, rfl, by decide +kernel, rfl, by decide +kernel, by decide +kernel⟩
abbrev N_p_NoCell_init : List Str := ["self", "thing"]
theorem sc_p_NoCell_init : FnScope ["self", "thing"] ["self", "thing"] (defScope s_p_NoCell_init) := ⟨rfl, rfl, rfl, by decide +kernel, rfl, by decide +kernel, by decide +kernel⟩
abbrev N_p_NoCount_init : List Str := ["self", "thing"]
theorem sc_p_NoCount_init : FnScope ["self", "thing"] ["self", "thing"] (defScope s_p_NoCount_init) := ⟨rfl, rfl, rfl, by decide +kernel, rfl, by decide +kernel, by decide +kernel⟩
abbrev N_p_NoHour_init : List Str := ["self", "hour"]
theorem sc_p_NoHour_init : FnScope ["self", "hour"] ["self", "hour"] (defScope s_p_NoHour_init) := ⟨rfl, rfl, rfl, by decide +kernel, rfl, by decide +kernel, by decide +kernel⟩
abbrev N_p_NoLine_init : List Str := ["self", "thing"]
theorem sc_p_NoLine_init : FnScope ["self", "thing"] ["self", "thing"] (defScope s_p_NoLine_init) := ⟨rfl, rfl, rfl, by decide +kernel, rfl, by decide +kernel, by decide +kernel⟩
abbrev N_p_NoSpot_init : List Str := ["self", "hour", "slot"]
theorem sc_p_NoSpot_init : FnScope ["self", "hour", "slot"] ["self", "hour", "slot"] (defScope s_p_NoSpot_init) := ⟨rfl, rfl, rfl, by decide +kernel, rfl, by decide +kernel, by decide +kernel⟩
abbrev N_p_NoText_init : List Str := ["self", "index"]
theorem sc_p_NoText_init : FnScope ["self", "index"] ["self", "index"] (defScope s_p_NoText_init) := ⟨rfl, rfl, rfl, by decide +kernel, rfl, by decide +kernel, by decide +kernel⟩
abbrev N_p_NoThing_init : List Str := ["self", "thing"]
theorem sc_p_NoThing_init : FnScope ["self", "thing"] ["self", "thing"] (defScope s_p_NoThing_init) := ⟨rfl, rfl, rfl, by decide +kernel, rfl, by decide +kernel, by decide +kernel⟩
abbrev N_p_NoTold_init : List Str := ["self", "thing"]
theorem sc_p_NoTold_init : FnScope ["self", "thing"] ["self", "thing"] (defScope s_p_NoTold_init) := ⟨rfl, rfl, rfl, by decide +kernel, rfl, by decide +kernel, by decide +kernel⟩
abbrev N_p_NotSound_init : List Str := ["self", "fault"]
theorem sc_p_NotSound_init : FnScope ["self", "fault"] ["self", "fault"] (defScope s_p_NotSound_init) := ⟨rfl, rfl, rfl, by decide +kernel, rfl, by decide +kernel, by decide +kernel⟩
abbrev N_p_NotWatched_init : List Str := ["self", "question"]
theorem sc_p_NotWatched_init : FnScope ["self", "question"] ["self", "question"] (defScope s_p_NotWatched_init) := ⟨rfl, rfl, rfl, by decide +kernel, rfl, by decide +kernel, by decide +kernel⟩
abbrev N_p_WouldChange_init : List Str := ["self", "question", "why"]
theorem sc_p_WouldChange_init : FnScope ["self", "question", "why"] ["self", "question", "why"] (defScope s_p_WouldChange_init) := ⟨rfl, rfl, rfl, by decide +kernel, rfl, by decide +kernel, by decide +kernel⟩
abbrev N_l_start : List Str := ["_law_script"]
theorem sc_l_start : FnScope ["_law_script"] ["_law_script"] (defScope s_l_start) := ⟨rfl, rfl, rfl, by decide +kernel, rfl, by decide +kernel, by decide +kernel⟩
abbrev N_l_draw : List Str := ["_law_stream", "_law_many", "_law_cell", "_law_digit", "_law_mixed_here"]
theorem sc_l_draw : FnScope ["_law_stream", "_law_many", "_law_cell", "_law_digit", "_law_mixed_here"] ["_law_stream", "_law_many"] (defScope s_l_draw) := ⟨rfl, rfl, rfl, by decide +kernel, rfl, by decide +kernel, by decide +kernel⟩
abbrev N_l_mixed : List Str := ["_law_stream", "_law_some", "_law_left", "_law_k"]
theorem sc_l_mixed : FnScope ["_law_stream", "_law_some", "_law_left", "_law_k"] ["_law_stream", "_law_some"] (defScope s_l_mixed) := ⟨rfl, rfl, rfl, by decide +kernel, rfl, by decide +kernel, by decide +kernel⟩
abbrev N_l_made_a : List Str := ["_law_x", "_law_y", "_law_z", "_law_found", "_law_e"]
theorem sc_l_made_a : FnScope ["_law_x", "_law_y", "_law_z", "_law_found", "_law_e"] ["_law_x", "_law_y", "_law_z"] (defScope s_l_made_a) := ⟨rfl, rfl, rfl, by decide +kernel, rfl, by decide +kernel, by decide +kernel⟩
abbrev N_l_made_b : List Str := ["_law_x", "_law_y", "_law_z", "_law_found", "_law_e"]
theorem sc_l_made_b : FnScope ["_law_x", "_law_y", "_law_z", "_law_found", "_law_e"] ["_law_x", "_law_y", "_law_z"] (defScope s_l_made_b) := ⟨rfl, rfl, rfl, by decide +kernel, rfl, by decide +kernel, by decide +kernel⟩
abbrev N_l_made_c : List Str := ["_law_x", "_law_y", "_law_z", "_law_found", "_law_e"]
theorem sc_l_made_c : FnScope ["_law_x", "_law_y", "_law_z", "_law_found", "_law_e"] ["_law_x", "_law_y", "_law_z"] (defScope s_l_made_c) := ⟨rfl, rfl, rfl, by decide +kernel, rfl, by decide +kernel, by decide +kernel⟩
abbrev N_l_kinds_a : List Str := ["_law_e", "_law_found"]
theorem sc_l_kinds_a : FnScope ["_law_e", "_law_found"] ["_law_e"] (defScope s_l_kinds_a) := ⟨rfl, rfl, rfl, by decide +kernel, rfl, by decide +kernel, by decide +kernel⟩
abbrev N_l_kinds_b : List Str := ["_law_e", "_law_found"]
theorem sc_l_kinds_b : FnScope ["_law_e", "_law_found"] ["_law_e"] (defScope s_l_kinds_b) := ⟨rfl, rfl, rfl, by decide +kernel, rfl, by decide +kernel, by decide +kernel⟩
abbrev N_l_kinds_c : List Str := ["_law_e", "_law_found"]
theorem sc_l_kinds_c : FnScope ["_law_e", "_law_found"] ["_law_e"] (defScope s_l_kinds_c) := ⟨rfl, rfl, rfl, by decide +kernel, rfl, by decide +kernel, by decide +kernel⟩
abbrev N_l_kinds : List Str := ["_law_e"]
theorem sc_l_kinds : FnScope ["_law_e"] ["_law_e"] (defScope s_l_kinds) := ⟨rfl, rfl, rfl, by decide +kernel, rfl, by decide +kernel, by decide +kernel⟩
abbrev N_l_is_own : List Str := ["_law_e", "_law_at", "_law_k"]
theorem sc_l_is_own : FnScope ["_law_e", "_law_at", "_law_k"] ["_law_e", "_law_at"] (defScope s_l_is_own) := ⟨rfl, rfl, rfl, by decide +kernel, rfl, by decide +kernel, by decide +kernel⟩
abbrev N_l_are_these : List Str := ["_law_found", "_law_due"]
theorem sc_l_are_these : FnScope ["_law_found", "_law_due"] ["_law_found", "_law_due"] (defScope s_l_are_these) := ⟨rfl, rfl, rfl, by decide +kernel, rfl, by decide +kernel, by decide +kernel⟩
abbrev N_law : List Str := ["_law_script", "_law_stream", "_law_some", "_law_turn", "_law_x", "_law_y", "_law_z", "_law_made", "_law_at", "_law_mine", "_law_twin", "_law_field", "_law_due", "_law_held", "_law_base"]
theorem sc_law : FnScope ["_law_script", "_law_stream", "_law_some", "_law_turn", "_law_x", "_law_y", "_law_z", "_law_made", "_law_at", "_law_mine", "_law_twin", "_law_field", "_law_due", "_law_held", "_law_base"] ["_law_script"] (defScope s_law) := ⟨rfl, rfl, rfl, by decide +kernel, rfl, by decide +kernel, by decide +kernel⟩
structure Txt (K : PySem.W.Frag) (mg : Str → Option Value) (D : Ad0) : Prop where
  n_LookupError : mg "LookupError" = none
  n_ValueError : mg "ValueError" = none
  n_enumerate : mg "enumerate" = none
  n_int : mg "int" = none
  n_isinstance : mg "isinstance" = none
  n_len : mg "len" = none
  n_list : mg "list" = none
  n_range : mg "range" = none
  n_repr : mg "repr" = none
  g : ∀ i, i < 43 → mg (NM i) = some (.ref (D.c i))
  ox : ∀ i, i < 43 → OexC K (D.c i)
  xc : ∀ C, XC D C → ExcC K C
  xf : ∀ C f, XF D C f → XfC K C ∧ PySem.W.findIn K (.ref C) f = some none
  gE : mg "SlotError" = some (.ref D.cE)
  exE : PySem.W.excIn K D.cE [.type "ValueError", .type "Exception", .type "BaseException", .type "object"] "ValueError.__new__" = true
  kE : PySem.W.keepIn K (.ref D.cE) = true
  kit : Kit0 K D
theorem Txt.lam {P : Program} {w : World} {K : PySem.W.Frag} {mg : Str → Option Value} {base : Heap} {D : Ad0} (T : Txt K mg D) : ∀ (f : Addr) (F : LF) (sp : Sp), FldS (XF D) F sp → ∃ ps, LOk P w K mg base CX0 1 f F ps sp := fun f F sp ⟨fl, hF, e⟩ => ⟨_, e ▸ lok_fld T.xf hF⟩
structure TxtI (K : PySem.W.Frag) (D : Ad0) (fI : Nat → Addr) : Prop where
  ini : ∀ i, i < 43 → PySem.W.findIn K (.ref (D.c i)) "__init__" = some (some (.ref (fI i)))
  tyi : ∀ i, i < 43 → PySem.W.typeIn K (.ref (fI i)) = some (.type "function")
section
variable {P : Program} {w : World} {K : PySem.W.Frag} {mg : Str → Option Value} {base : Heap} {D : Ad0}
theorem ok_l_start {f : Addr} {fd : FuncData} (F : Fun K "_law_start" "_law_start" s_l_start f fd) (b : Binds K fd ["_law_script"] []) (hf : mg "_law_start" = some (.ref f)) (T : Txt K mg D)   : Cal P w K mg base 1 "_law_start" (spStart K) [] := by
  refine ⟨f, fd, ["_law_script"], [], F.ok sc_l_start (fun vs H Q E h => ?_) (fun cdv A outer s H vs Q E hr h => ⟨t_l_start K, ?_, rd_l_start K h⟩), hf, F.kp, b, .nil⟩
  · unfold spStart at h
    repeat (first | (obtain ⟨rfl, _⟩ := h; rfl) | (obtain ⟨_, h⟩ := h))
  · exact pss_one (ps_ret (pe_lstU (pa_cons (pe_callTy call_lstOf (by rfl) T.n_list (by decide +kernel) (pa_cons (pv 0) (pa_nil))) (pa_cons (pe_int) (pa_cons (pe_int) (pa_cons (pe_int) (pa_nil)))))))

theorem ok_l_draw {f : Addr} {fd : FuncData} (F : Fun K "_law_draw" "_law_draw" s_l_draw f fd) (b : Binds K fd ["_law_stream", "_law_many"] []) (hf : mg "_law_draw" = some (.ref f)) (T : Txt K mg D)   : Cal P w K mg base 1 "_law_draw" spDraw [] := by
  refine ⟨f, fd, ["_law_stream", "_law_many"], [], F.ok sc_l_draw (fun vs H Q E h => ?_) (fun cdv A outer s H vs Q E hr h => ⟨t_l_draw K, ?_, rd_l_draw K h⟩), hf, F.kp, b, .nil⟩
  · unfold spDraw at h
    repeat (first | (obtain ⟨rfl, _⟩ := h; rfl) | (obtain ⟨_, h⟩ := h))
  · exact pss_cons (ps_asg (pe_op op_addU (pe_ix ix_U (pv 0) (pe_int) (fun _ _ => rfl)) (pe_int)) (pg_sub (pv 0) (pe_int) (set_U (hu_of hr))))
      (pss_cons (ps_while PassesOwn.never (PW.pt (pw_and (pt_cmpR (op_eqU hr.units) (pe_ix ix_U (pv 0) (pe_int) (fun _ _ => rfl)) (pe_int) (nomark _)) (pw_and1 (pt_cmpR (op_neU hr.units) (pe_ix ix_U (pv 0) (pe_int) (fun _ _ => rfl)) (pe_lstU (pa_nil)) (nomark _))))) (pss_cons (ps_set (i := 2) sc_l_draw.nd rfl (Or.inl rfl) (pe_bm PySem.F.plainAttrs_list PySem.F.slot_list_pop PySem.F.type_list_pop mt_popAtU (pe_ix ix_U (pv 0) (pe_int) (fun _ _ => rfl)) (pa_cons (pe_int) (pa_nil))))
      (pss_cons (ps_asg (pe_op op_modN (pe_callTy call_in1 (by rfl) T.n_int (by decide +kernel) (pa_cons (pe_op op_addU (pe_op op_addU (pe_op op_mulU (pe_ix ix_U (pv 0) (pe_int) (fun _ _ => rfl)) (pe_int)) (pv 2)) (pe_int)) (pa_nil))) (pe_int)) (pg_sub (pv 0) (pe_int) (set_U (hu_of hr))))
      (pss_one (ps_asg (pe_ifExp (pt_cmpR op_ge (pv 2) (pe_op op_pow (pe_int) (pe_int)) (nomark _)) (pv 2) (pe_int)) (pg_sub (pv 0) (pe_int) (set_U (hu_of hr))))))))
      (pss_cons (ps_if (pt_cmpR op_gt (pe_ix ix_U (pv 0) (pe_int) (fun _ _ => rfl)) (pe_int) (nomark _)) (pss_cons (ps_set (i := 3) sc_l_draw.nd rfl (Or.inl rfl) (pe_op op_modN (pe_callTy call_in1 (by rfl) T.n_int (by decide +kernel) (pa_cons (pe_ix ix_U (pv 0) (pe_int) (fun _ _ => rfl)) (pa_nil))) (pv 1)))
      (pss_cons (ps_asg (pe_op op_fdivN (pe_ix ix_U (pv 0) (pe_int) (fun _ _ => rfl)) (pv 1)) (pg_sub (pv 0) (pe_int) (set_U (hu_of hr))))
      (pss_one (ps_ret (pv 3))))) (pss_nil))
      (pss_cons (ps_set (i := 4) sc_l_draw.nd rfl (Or.inl rfl) (pe_op op_modN (pe_callTy call_in1 (by rfl) T.n_int (by decide +kernel) (pa_cons (pe_op op_pow (pe_op op_addU (pe_op op_addU (pe_ix ix_U (pv 0) (pe_int) (fun _ _ => rfl)) (pe_op op_mulU (pe_int) (pe_ix ix_U (pv 0) (pe_int) (fun _ _ => rfl)))) (pe_int)) (pe_int)) (pa_nil))) (pe_int)))
      (pss_one (ps_ret (pe_op op_modN (pe_op op_modN (pe_callTy call_in1 (by rfl) T.n_int (by decide +kernel) (pa_cons (pe_op op_pow (pe_op op_addU (pe_op op_addU (pe_op op_mulU (pv 4) (pe_int)) (pe_op op_mulU (pe_int) (pe_ix ix_U (pv 0) (pe_int) (fun _ _ => rfl)))) (pe_int)) (pe_int)) (pa_nil))) (pe_int)) (pv 1)))))))

theorem ok_l_mixed {f : Addr} {fd : FuncData} (F : Fun K "_law_mixed" "_law_mixed" s_l_mixed f fd) (b : Binds K fd ["_law_stream", "_law_some"] []) (hf : mg "_law_mixed" = some (.ref f)) (T : Txt K mg D) (C_l_draw : Cal P w K mg base 1 "_law_draw" spDraw [])  : Cal P w K mg base 2 "_law_mixed" spMixed [] := by
  refine ⟨f, fd, ["_law_stream", "_law_some"], [], F.ok sc_l_mixed (fun vs H Q E h => ?_) (fun cdv A outer s H vs Q E hr h => ⟨t_l_mixed K, ?_, rd_l_mixed K h⟩), hf, F.kp, b, .nil⟩
  · unfold spMixed at h
    repeat (first | (obtain ⟨rfl, _⟩ := h; rfl) | (obtain ⟨_, h⟩ := h))
  · exact pss_cons (ps_set (i := 2) sc_l_mixed.nd rfl (Or.inr rfl) (pe_callTy call_lstOf (by rfl) T.n_list (by decide +kernel) (pa_cons (pv 1) (pa_nil))))
      (pss_one (ps_ret (pe_lcU (own := [("_law_k", 3)]) (g := gName 3) (tt := tYes) rfl sc_l_mixed.nd (pi_range1 rfl T.n_range (pa_cons (pe_callB call_lenU (by rfl) T.n_len (by decide +kernel) (pa_cons (pv 2) (pa_nil))) (pa_nil))) (blkOk_by (N := N_l_mixed) (sc := defScope s_l_mixed) (by decide +kernel)) (fun _ _ _ _ _ => pg_name (i := 3) sc_l_mixed.nd rfl (Or.inl rfl)) (fun _ _ _ _ _ => pts_nil) (fun _ _ _ _ _ => pe_bm PySem.F.plainAttrs_list PySem.F.slot_list_pop PySem.F.type_list_pop mt_popAtU (pv 2) (pa_cons (pe_c C_l_draw hr (by decide) rfl (pa_cons (pv 0) (pa_cons (pe_callB call_lenU (by rfl) T.n_len (by decide +kernel) (pa_cons (pv 2) (pa_nil))) (pa_nil)))) (pa_nil))))))

theorem okm_p_BadBegun_init {C f : Addr} {fd : FuncData} (F : Fun K "__init__" "BadBegun.__init__" s_p_BadBegun_init f fd) (hO : OexC K C) (hno : ∀ f ∈ (["thing"] : List Str), PySem.W.findIn K (.ref C) f = some none) : FnOk P w K mg base CX0 1 f fd ["self", "thing"] (spErr C ["thing"]) := by
  refine F.ok sc_p_BadBegun_init (fun vs H Q E h => ?_) (fun cdv A outer s H vs Q E hr h => ⟨(tOst K "thing" (tVar 0) (tVar 1)), ?_, rd_init1 hO (hno _ (by simp)) h⟩)
  · obtain ⟨_, ws, rfl, hl, _⟩ := h
    exact congrArg (· + 1) hl
  · exact pss_one (ps_ost (pv 0) (pv 1))
theorem bi_p_BadBegun_init {f : Addr} {fd : FuncData} (F : Fun K "__init__" "BadBegun.__init__" s_p_BadBegun_init f fd) : Binds K fd ["self", "thing"] [] := F.binds fun _ _ _ _ _ _ us hl => match us, hl with | [_, _], _ => rfl
theorem kb_p_BadBegun_init {f : Addr} {fd : FuncData} (F : Fun K "__init__" "BadBegun.__init__" s_p_BadBegun_init f fd) : KBn K fd ["self", "thing"] 1 ["thing"] (fun us ws => us ++ ws.reverse) revV := by
  obtain ⟨oc, od, kV, doc, pm, an, cdv, ct, osl, rfl, lk, hcd⟩ := F.ex
  exact ⟨fun s us ws _ h1 h2 => match us, ws, h1, h2 with | [_], [_], _, _ => .of_eq rfl, fun r1 r2 => r1.append r2.reverse⟩

theorem okm_p_BadBox_init {C f : Addr} {fd : FuncData} (F : Fun K "__init__" "BadBox.__init__" s_p_BadBox_init f fd) (hO : OexC K C) (hno : ∀ f ∈ (["thing"] : List Str), PySem.W.findIn K (.ref C) f = some none) : FnOk P w K mg base CX0 1 f fd ["self", "thing"] (spErr C ["thing"]) := by
  refine F.ok sc_p_BadBox_init (fun vs H Q E h => ?_) (fun cdv A outer s H vs Q E hr h => ⟨(tOst K "thing" (tVar 0) (tVar 1)), ?_, rd_init1 hO (hno _ (by simp)) h⟩)
  · obtain ⟨_, ws, rfl, hl, _⟩ := h
    exact congrArg (· + 1) hl
  · exact pss_one (ps_ost (pv 0) (pv 1))
theorem bi_p_BadBox_init {f : Addr} {fd : FuncData} (F : Fun K "__init__" "BadBox.__init__" s_p_BadBox_init f fd) : Binds K fd ["self", "thing"] [] := F.binds fun _ _ _ _ _ _ us hl => match us, hl with | [_, _], _ => rfl
theorem kb_p_BadBox_init {f : Addr} {fd : FuncData} (F : Fun K "__init__" "BadBox.__init__" s_p_BadBox_init f fd) : KBn K fd ["self", "thing"] 1 ["thing"] (fun us ws => us ++ ws.reverse) revV := by
  obtain ⟨oc, od, kV, doc, pm, an, cdv, ct, osl, rfl, lk, hcd⟩ := F.ex
  exact ⟨fun s us ws _ h1 h2 => match us, ws, h1, h2 with | [_], [_], _, _ => .of_eq rfl, fun r1 r2 => r1.append r2.reverse⟩

theorem okm_p_BadCells_init {C f : Addr} {fd : FuncData} (F : Fun K "__init__" "BadCells.__init__" s_p_BadCells_init f fd) (hO : OexC K C) (hno : ∀ f ∈ (["thing"] : List Str), PySem.W.findIn K (.ref C) f = some none) : FnOk P w K mg base CX0 1 f fd ["self", "thing"] (spErr C ["thing"]) := by
  refine F.ok sc_p_BadCells_init (fun vs H Q E h => ?_) (fun cdv A outer s H vs Q E hr h => ⟨(tOst K "thing" (tVar 0) (tVar 1)), ?_, rd_init1 hO (hno _ (by simp)) h⟩)
  · obtain ⟨_, ws, rfl, hl, _⟩ := h
    exact congrArg (· + 1) hl
  · exact pss_one (ps_ost (pv 0) (pv 1))
theorem bi_p_BadCells_init {f : Addr} {fd : FuncData} (F : Fun K "__init__" "BadCells.__init__" s_p_BadCells_init f fd) : Binds K fd ["self", "thing"] [] := F.binds fun _ _ _ _ _ _ us hl => match us, hl with | [_, _], _ => rfl
theorem kb_p_BadCells_init {f : Addr} {fd : FuncData} (F : Fun K "__init__" "BadCells.__init__" s_p_BadCells_init f fd) : KBn K fd ["self", "thing"] 1 ["thing"] (fun us ws => us ++ ws.reverse) revV := by
  obtain ⟨oc, od, kV, doc, pm, an, cdv, ct, osl, rfl, lk, hcd⟩ := F.ex
  exact ⟨fun s us ws _ h1 h2 => match us, ws, h1, h2 with | [_], [_], _, _ => .of_eq rfl, fun r1 r2 => r1.append r2.reverse⟩

theorem okm_p_BadChain_init {C f : Addr} {fd : FuncData} (F : Fun K "__init__" "BadChain.__init__" s_p_BadChain_init f fd) (hO : OexC K C) (hno : ∀ f ∈ (["thing"] : List Str), PySem.W.findIn K (.ref C) f = some none) : FnOk P w K mg base CX0 1 f fd ["self", "thing"] (spErr C ["thing"]) := by
  refine F.ok sc_p_BadChain_init (fun vs H Q E h => ?_) (fun cdv A outer s H vs Q E hr h => ⟨(tOst K "thing" (tVar 0) (tVar 1)), ?_, rd_init1 hO (hno _ (by simp)) h⟩)
  · obtain ⟨_, ws, rfl, hl, _⟩ := h
    exact congrArg (· + 1) hl
  · exact pss_one (ps_ost (pv 0) (pv 1))
theorem bi_p_BadChain_init {f : Addr} {fd : FuncData} (F : Fun K "__init__" "BadChain.__init__" s_p_BadChain_init f fd) : Binds K fd ["self", "thing"] [] := F.binds fun _ _ _ _ _ _ us hl => match us, hl with | [_, _], _ => rfl
theorem kb_p_BadChain_init {f : Addr} {fd : FuncData} (F : Fun K "__init__" "BadChain.__init__" s_p_BadChain_init f fd) : KBn K fd ["self", "thing"] 1 ["thing"] (fun us ws => us ++ ws.reverse) revV := by
  obtain ⟨oc, od, kV, doc, pm, an, cdv, ct, osl, rfl, lk, hcd⟩ := F.ex
  exact ⟨fun s us ws _ h1 h2 => match us, ws, h1, h2 with | [_], [_], _, _ => .of_eq rfl, fun r1 r2 => r1.append r2.reverse⟩

theorem okm_p_BadCount_init {C f : Addr} {fd : FuncData} (F : Fun K "__init__" "BadCount.__init__" s_p_BadCount_init f fd) (hO : OexC K C) (hno : ∀ f ∈ (["thing"] : List Str), PySem.W.findIn K (.ref C) f = some none) : FnOk P w K mg base CX0 1 f fd ["self", "thing"] (spErr C ["thing"]) := by
  refine F.ok sc_p_BadCount_init (fun vs H Q E h => ?_) (fun cdv A outer s H vs Q E hr h => ⟨(tOst K "thing" (tVar 0) (tVar 1)), ?_, rd_init1 hO (hno _ (by simp)) h⟩)
  · obtain ⟨_, ws, rfl, hl, _⟩ := h
    exact congrArg (· + 1) hl
  · exact pss_one (ps_ost (pv 0) (pv 1))
theorem bi_p_BadCount_init {f : Addr} {fd : FuncData} (F : Fun K "__init__" "BadCount.__init__" s_p_BadCount_init f fd) : Binds K fd ["self", "thing"] [] := F.binds fun _ _ _ _ _ _ us hl => match us, hl with | [_, _], _ => rfl
theorem kb_p_BadCount_init {f : Addr} {fd : FuncData} (F : Fun K "__init__" "BadCount.__init__" s_p_BadCount_init f fd) : KBn K fd ["self", "thing"] 1 ["thing"] (fun us ws => us ++ ws.reverse) revV := by
  obtain ⟨oc, od, kV, doc, pm, an, cdv, ct, osl, rfl, lk, hcd⟩ := F.ex
  exact ⟨fun s us ws _ h1 h2 => match us, ws, h1, h2 with | [_], [_], _, _ => .of_eq rfl, fun r1 r2 => r1.append r2.reverse⟩

theorem okm_p_BadDeed_init {C f : Addr} {fd : FuncData} (F : Fun K "__init__" "BadDeed.__init__" s_p_BadDeed_init f fd) (hO : OexC K C) (hno : ∀ f ∈ (["thing"] : List Str), PySem.W.findIn K (.ref C) f = some none) : FnOk P w K mg base CX0 1 f fd ["self", "thing"] (spErr C ["thing"]) := by
  refine F.ok sc_p_BadDeed_init (fun vs H Q E h => ?_) (fun cdv A outer s H vs Q E hr h => ⟨(tOst K "thing" (tVar 0) (tVar 1)), ?_, rd_init1 hO (hno _ (by simp)) h⟩)
  · obtain ⟨_, ws, rfl, hl, _⟩ := h
    exact congrArg (· + 1) hl
  · exact pss_one (ps_ost (pv 0) (pv 1))
theorem bi_p_BadDeed_init {f : Addr} {fd : FuncData} (F : Fun K "__init__" "BadDeed.__init__" s_p_BadDeed_init f fd) : Binds K fd ["self", "thing"] [] := F.binds fun _ _ _ _ _ _ us hl => match us, hl with | [_, _], _ => rfl
theorem kb_p_BadDeed_init {f : Addr} {fd : FuncData} (F : Fun K "__init__" "BadDeed.__init__" s_p_BadDeed_init f fd) : KBn K fd ["self", "thing"] 1 ["thing"] (fun us ws => us ++ ws.reverse) revV := by
  obtain ⟨oc, od, kV, doc, pm, an, cdv, ct, osl, rfl, lk, hcd⟩ := F.ex
  exact ⟨fun s us ws _ h1 h2 => match us, ws, h1, h2 with | [_], [_], _, _ => .of_eq rfl, fun r1 r2 => r1.append r2.reverse⟩

theorem okm_p_BadHeld_init {C f : Addr} {fd : FuncData} (F : Fun K "__init__" "BadHeld.__init__" s_p_BadHeld_init f fd) (hO : OexC K C) (hno : ∀ f ∈ (["index"] : List Str), PySem.W.findIn K (.ref C) f = some none) : FnOk P w K mg base CX0 1 f fd ["self", "index"] (spErr C ["index"]) := by
  refine F.ok sc_p_BadHeld_init (fun vs H Q E h => ?_) (fun cdv A outer s H vs Q E hr h => ⟨(tOst K "index" (tVar 0) (tVar 1)), ?_, rd_init1 hO (hno _ (by simp)) h⟩)
  · obtain ⟨_, ws, rfl, hl, _⟩ := h
    exact congrArg (· + 1) hl
  · exact pss_one (ps_ost (pv 0) (pv 1))
theorem bi_p_BadHeld_init {f : Addr} {fd : FuncData} (F : Fun K "__init__" "BadHeld.__init__" s_p_BadHeld_init f fd) : Binds K fd ["self", "index"] [] := F.binds fun _ _ _ _ _ _ us hl => match us, hl with | [_, _], _ => rfl
theorem kb_p_BadHeld_init {f : Addr} {fd : FuncData} (F : Fun K "__init__" "BadHeld.__init__" s_p_BadHeld_init f fd) : KBn K fd ["self", "index"] 1 ["index"] (fun us ws => us ++ ws.reverse) revV := by
  obtain ⟨oc, od, kV, doc, pm, an, cdv, ct, osl, rfl, lk, hcd⟩ := F.ex
  exact ⟨fun s us ws _ h1 h2 => match us, ws, h1, h2 with | [_], [_], _, _ => .of_eq rfl, fun r1 r2 => r1.append r2.reverse⟩

theorem okm_p_BadHours_init {C f : Addr} {fd : FuncData} (F : Fun K "__init__" "BadHours.__init__" s_p_BadHours_init f fd) (hO : OexC K C) (hno : ∀ f ∈ (["index"] : List Str), PySem.W.findIn K (.ref C) f = some none) : FnOk P w K mg base CX0 1 f fd ["self", "index"] (spErr C ["index"]) := by
  refine F.ok sc_p_BadHours_init (fun vs H Q E h => ?_) (fun cdv A outer s H vs Q E hr h => ⟨(tOst K "index" (tVar 0) (tVar 1)), ?_, rd_init1 hO (hno _ (by simp)) h⟩)
  · obtain ⟨_, ws, rfl, hl, _⟩ := h
    exact congrArg (· + 1) hl
  · exact pss_one (ps_ost (pv 0) (pv 1))
theorem bi_p_BadHours_init {f : Addr} {fd : FuncData} (F : Fun K "__init__" "BadHours.__init__" s_p_BadHours_init f fd) : Binds K fd ["self", "index"] [] := F.binds fun _ _ _ _ _ _ us hl => match us, hl with | [_, _], _ => rfl
theorem kb_p_BadHours_init {f : Addr} {fd : FuncData} (F : Fun K "__init__" "BadHours.__init__" s_p_BadHours_init f fd) : KBn K fd ["self", "index"] 1 ["index"] (fun us ws => us ++ ws.reverse) revV := by
  obtain ⟨oc, od, kV, doc, pm, an, cdv, ct, osl, rfl, lk, hcd⟩ := F.ex
  exact ⟨fun s us ws _ h1 h2 => match us, ws, h1, h2 with | [_], [_], _, _ => .of_eq rfl, fun r1 r2 => r1.append r2.reverse⟩

theorem okm_p_BadLine_init {C f : Addr} {fd : FuncData} (F : Fun K "__init__" "BadLine.__init__" s_p_BadLine_init f fd) (hO : OexC K C) (hno : ∀ f ∈ (["thing"] : List Str), PySem.W.findIn K (.ref C) f = some none) : FnOk P w K mg base CX0 1 f fd ["self", "thing"] (spErr C ["thing"]) := by
  refine F.ok sc_p_BadLine_init (fun vs H Q E h => ?_) (fun cdv A outer s H vs Q E hr h => ⟨(tOst K "thing" (tVar 0) (tVar 1)), ?_, rd_init1 hO (hno _ (by simp)) h⟩)
  · obtain ⟨_, ws, rfl, hl, _⟩ := h
    exact congrArg (· + 1) hl
  · exact pss_one (ps_ost (pv 0) (pv 1))
theorem bi_p_BadLine_init {f : Addr} {fd : FuncData} (F : Fun K "__init__" "BadLine.__init__" s_p_BadLine_init f fd) : Binds K fd ["self", "thing"] [] := F.binds fun _ _ _ _ _ _ us hl => match us, hl with | [_, _], _ => rfl
theorem kb_p_BadLine_init {f : Addr} {fd : FuncData} (F : Fun K "__init__" "BadLine.__init__" s_p_BadLine_init f fd) : KBn K fd ["self", "thing"] 1 ["thing"] (fun us ws => us ++ ws.reverse) revV := by
  obtain ⟨oc, od, kV, doc, pm, an, cdv, ct, osl, rfl, lk, hcd⟩ := F.ex
  exact ⟨fun s us ws _ h1 h2 => match us, ws, h1, h2 with | [_], [_], _, _ => .of_eq rfl, fun r1 r2 => r1.append r2.reverse⟩

theorem okm_p_BadLines_init {C f : Addr} {fd : FuncData} (F : Fun K "__init__" "BadLines.__init__" s_p_BadLines_init f fd) (hO : OexC K C) (hno : ∀ f ∈ (["index"] : List Str), PySem.W.findIn K (.ref C) f = some none) : FnOk P w K mg base CX0 1 f fd ["self", "index"] (spErr C ["index"]) := by
  refine F.ok sc_p_BadLines_init (fun vs H Q E h => ?_) (fun cdv A outer s H vs Q E hr h => ⟨(tOst K "index" (tVar 0) (tVar 1)), ?_, rd_init1 hO (hno _ (by simp)) h⟩)
  · obtain ⟨_, ws, rfl, hl, _⟩ := h
    exact congrArg (· + 1) hl
  · exact pss_one (ps_ost (pv 0) (pv 1))
theorem bi_p_BadLines_init {f : Addr} {fd : FuncData} (F : Fun K "__init__" "BadLines.__init__" s_p_BadLines_init f fd) : Binds K fd ["self", "index"] [] := F.binds fun _ _ _ _ _ _ us hl => match us, hl with | [_, _], _ => rfl
theorem kb_p_BadLines_init {f : Addr} {fd : FuncData} (F : Fun K "__init__" "BadLines.__init__" s_p_BadLines_init f fd) : KBn K fd ["self", "index"] 1 ["index"] (fun us ws => us ++ ws.reverse) revV := by
  obtain ⟨oc, od, kV, doc, pm, an, cdv, ct, osl, rfl, lk, hcd⟩ := F.ex
  exact ⟨fun s us ws _ h1 h2 => match us, ws, h1, h2 with | [_], [_], _, _ => .of_eq rfl, fun r1 r2 => r1.append r2.reverse⟩

theorem okm_p_BadListing_init {C f : Addr} {fd : FuncData} (F : Fun K "__init__" "BadListing.__init__" s_p_BadListing_init f fd) (hO : OexC K C) (hno : ∀ f ∈ (["index"] : List Str), PySem.W.findIn K (.ref C) f = some none) : FnOk P w K mg base CX0 1 f fd ["self", "index"] (spErr C ["index"]) := by
  refine F.ok sc_p_BadListing_init (fun vs H Q E h => ?_) (fun cdv A outer s H vs Q E hr h => ⟨(tOst K "index" (tVar 0) (tVar 1)), ?_, rd_init1 hO (hno _ (by simp)) h⟩)
  · obtain ⟨_, ws, rfl, hl, _⟩ := h
    exact congrArg (· + 1) hl
  · exact pss_one (ps_ost (pv 0) (pv 1))
theorem bi_p_BadListing_init {f : Addr} {fd : FuncData} (F : Fun K "__init__" "BadListing.__init__" s_p_BadListing_init f fd) : Binds K fd ["self", "index"] [] := F.binds fun _ _ _ _ _ _ us hl => match us, hl with | [_, _], _ => rfl
theorem kb_p_BadListing_init {f : Addr} {fd : FuncData} (F : Fun K "__init__" "BadListing.__init__" s_p_BadListing_init f fd) : KBn K fd ["self", "index"] 1 ["index"] (fun us ws => us ++ ws.reverse) revV := by
  obtain ⟨oc, od, kV, doc, pm, an, cdv, ct, osl, rfl, lk, hcd⟩ := F.ex
  exact ⟨fun s us ws _ h1 h2 => match us, ws, h1, h2 with | [_], [_], _, _ => .of_eq rfl, fun r1 r2 => r1.append r2.reverse⟩

theorem okm_p_BadMany_init {C f : Addr} {fd : FuncData} (F : Fun K "__init__" "BadMany.__init__" s_p_BadMany_init f fd) (hO : OexC K C) (hno : ∀ f ∈ (["thing"] : List Str), PySem.W.findIn K (.ref C) f = some none) : FnOk P w K mg base CX0 1 f fd ["self", "thing"] (spErr C ["thing"]) := by
  refine F.ok sc_p_BadMany_init (fun vs H Q E h => ?_) (fun cdv A outer s H vs Q E hr h => ⟨(tOst K "thing" (tVar 0) (tVar 1)), ?_, rd_init1 hO (hno _ (by simp)) h⟩)
  · obtain ⟨_, ws, rfl, hl, _⟩ := h
    exact congrArg (· + 1) hl
  · exact pss_one (ps_ost (pv 0) (pv 1))
theorem bi_p_BadMany_init {f : Addr} {fd : FuncData} (F : Fun K "__init__" "BadMany.__init__" s_p_BadMany_init f fd) : Binds K fd ["self", "thing"] [] := F.binds fun _ _ _ _ _ _ us hl => match us, hl with | [_, _], _ => rfl
theorem kb_p_BadMany_init {f : Addr} {fd : FuncData} (F : Fun K "__init__" "BadMany.__init__" s_p_BadMany_init f fd) : KBn K fd ["self", "thing"] 1 ["thing"] (fun us ws => us ++ ws.reverse) revV := by
  obtain ⟨oc, od, kV, doc, pm, an, cdv, ct, osl, rfl, lk, hcd⟩ := F.ex
  exact ⟨fun s us ws _ h1 h2 => match us, ws, h1, h2 with | [_], [_], _, _ => .of_eq rfl, fun r1 r2 => r1.append r2.reverse⟩

theorem okm_p_BadNumber_init {C f : Addr} {fd : FuncData} (F : Fun K "__init__" "BadNumber.__init__" s_p_BadNumber_init f fd) (hO : OexC K C) (hno : ∀ f ∈ (["thing"] : List Str), PySem.W.findIn K (.ref C) f = some none) : FnOk P w K mg base CX0 1 f fd ["self", "thing"] (spErr C ["thing"]) := by
  refine F.ok sc_p_BadNumber_init (fun vs H Q E h => ?_) (fun cdv A outer s H vs Q E hr h => ⟨(tOst K "thing" (tVar 0) (tVar 1)), ?_, rd_init1 hO (hno _ (by simp)) h⟩)
  · obtain ⟨_, ws, rfl, hl, _⟩ := h
    exact congrArg (· + 1) hl
  · exact pss_one (ps_ost (pv 0) (pv 1))
theorem bi_p_BadNumber_init {f : Addr} {fd : FuncData} (F : Fun K "__init__" "BadNumber.__init__" s_p_BadNumber_init f fd) : Binds K fd ["self", "thing"] [] := F.binds fun _ _ _ _ _ _ us hl => match us, hl with | [_, _], _ => rfl
theorem kb_p_BadNumber_init {f : Addr} {fd : FuncData} (F : Fun K "__init__" "BadNumber.__init__" s_p_BadNumber_init f fd) : KBn K fd ["self", "thing"] 1 ["thing"] (fun us ws => us ++ ws.reverse) revV := by
  obtain ⟨oc, od, kV, doc, pm, an, cdv, ct, osl, rfl, lk, hcd⟩ := F.ex
  exact ⟨fun s us ws _ h1 h2 => match us, ws, h1, h2 with | [_], [_], _, _ => .of_eq rfl, fun r1 r2 => r1.append r2.reverse⟩

theorem okm_p_BadOrder_init {C f : Addr} {fd : FuncData} (F : Fun K "__init__" "BadOrder.__init__" s_p_BadOrder_init f fd) (hO : OexC K C) (hno : ∀ f ∈ (["thing"] : List Str), PySem.W.findIn K (.ref C) f = some none) : FnOk P w K mg base CX0 1 f fd ["self", "thing"] (spErr C ["thing"]) := by
  refine F.ok sc_p_BadOrder_init (fun vs H Q E h => ?_) (fun cdv A outer s H vs Q E hr h => ⟨(tOst K "thing" (tVar 0) (tVar 1)), ?_, rd_init1 hO (hno _ (by simp)) h⟩)
  · obtain ⟨_, ws, rfl, hl, _⟩ := h
    exact congrArg (· + 1) hl
  · exact pss_one (ps_ost (pv 0) (pv 1))
theorem bi_p_BadOrder_init {f : Addr} {fd : FuncData} (F : Fun K "__init__" "BadOrder.__init__" s_p_BadOrder_init f fd) : Binds K fd ["self", "thing"] [] := F.binds fun _ _ _ _ _ _ us hl => match us, hl with | [_, _], _ => rfl
theorem kb_p_BadOrder_init {f : Addr} {fd : FuncData} (F : Fun K "__init__" "BadOrder.__init__" s_p_BadOrder_init f fd) : KBn K fd ["self", "thing"] 1 ["thing"] (fun us ws => us ++ ws.reverse) revV := by
  obtain ⟨oc, od, kV, doc, pm, an, cdv, ct, osl, rfl, lk, hcd⟩ := F.ex
  exact ⟨fun s us ws _ h1 h2 => match us, ws, h1, h2 with | [_], [_], _, _ => .of_eq rfl, fun r1 r2 => r1.append r2.reverse⟩

theorem okm_p_BadPairs_init {C f : Addr} {fd : FuncData} (F : Fun K "__init__" "BadPairs.__init__" s_p_BadPairs_init f fd) (hO : OexC K C) (hno : ∀ f ∈ (["index"] : List Str), PySem.W.findIn K (.ref C) f = some none) : FnOk P w K mg base CX0 1 f fd ["self", "index"] (spErr C ["index"]) := by
  refine F.ok sc_p_BadPairs_init (fun vs H Q E h => ?_) (fun cdv A outer s H vs Q E hr h => ⟨(tOst K "index" (tVar 0) (tVar 1)), ?_, rd_init1 hO (hno _ (by simp)) h⟩)
  · obtain ⟨_, ws, rfl, hl, _⟩ := h
    exact congrArg (· + 1) hl
  · exact pss_one (ps_ost (pv 0) (pv 1))
theorem bi_p_BadPairs_init {f : Addr} {fd : FuncData} (F : Fun K "__init__" "BadPairs.__init__" s_p_BadPairs_init f fd) : Binds K fd ["self", "index"] [] := F.binds fun _ _ _ _ _ _ us hl => match us, hl with | [_, _], _ => rfl
theorem kb_p_BadPairs_init {f : Addr} {fd : FuncData} (F : Fun K "__init__" "BadPairs.__init__" s_p_BadPairs_init f fd) : KBn K fd ["self", "index"] 1 ["index"] (fun us ws => us ++ ws.reverse) revV := by
  obtain ⟨oc, od, kV, doc, pm, an, cdv, ct, osl, rfl, lk, hcd⟩ := F.ex
  exact ⟨fun s us ws _ h1 h2 => match us, ws, h1, h2 with | [_], [_], _, _ => .of_eq rfl, fun r1 r2 => r1.append r2.reverse⟩

theorem okm_p_BadPlace_init {C f : Addr} {fd : FuncData} (F : Fun K "__init__" "BadPlace.__init__" s_p_BadPlace_init f fd) (hO : OexC K C) (hno : ∀ f ∈ (["thing"] : List Str), PySem.W.findIn K (.ref C) f = some none) : FnOk P w K mg base CX0 1 f fd ["self", "thing"] (spErr C ["thing"]) := by
  refine F.ok sc_p_BadPlace_init (fun vs H Q E h => ?_) (fun cdv A outer s H vs Q E hr h => ⟨(tOst K "thing" (tVar 0) (tVar 1)), ?_, rd_init1 hO (hno _ (by simp)) h⟩)
  · obtain ⟨_, ws, rfl, hl, _⟩ := h
    exact congrArg (· + 1) hl
  · exact pss_one (ps_ost (pv 0) (pv 1))
theorem bi_p_BadPlace_init {f : Addr} {fd : FuncData} (F : Fun K "__init__" "BadPlace.__init__" s_p_BadPlace_init f fd) : Binds K fd ["self", "thing"] [] := F.binds fun _ _ _ _ _ _ us hl => match us, hl with | [_, _], _ => rfl
theorem kb_p_BadPlace_init {f : Addr} {fd : FuncData} (F : Fun K "__init__" "BadPlace.__init__" s_p_BadPlace_init f fd) : KBn K fd ["self", "thing"] 1 ["thing"] (fun us ws => us ++ ws.reverse) revV := by
  obtain ⟨oc, od, kV, doc, pm, an, cdv, ct, osl, rfl, lk, hcd⟩ := F.ex
  exact ⟨fun s us ws _ h1 h2 => match us, ws, h1, h2 with | [_], [_], _, _ => .of_eq rfl, fun r1 r2 => r1.append r2.reverse⟩

theorem okm_p_BadPlan_init {C f : Addr} {fd : FuncData} (F : Fun K "__init__" "BadPlan.__init__" s_p_BadPlan_init f fd) (hO : OexC K C) (hno : ∀ f ∈ (["thing"] : List Str), PySem.W.findIn K (.ref C) f = some none) : FnOk P w K mg base CX0 1 f fd ["self", "thing"] (spErr C ["thing"]) := by
  refine F.ok sc_p_BadPlan_init (fun vs H Q E h => ?_) (fun cdv A outer s H vs Q E hr h => ⟨(tOst K "thing" (tVar 0) (tVar 1)), ?_, rd_init1 hO (hno _ (by simp)) h⟩)
  · obtain ⟨_, ws, rfl, hl, _⟩ := h
    exact congrArg (· + 1) hl
  · exact pss_one (ps_ost (pv 0) (pv 1))
theorem bi_p_BadPlan_init {f : Addr} {fd : FuncData} (F : Fun K "__init__" "BadPlan.__init__" s_p_BadPlan_init f fd) : Binds K fd ["self", "thing"] [] := F.binds fun _ _ _ _ _ _ us hl => match us, hl with | [_, _], _ => rfl
theorem kb_p_BadPlan_init {f : Addr} {fd : FuncData} (F : Fun K "__init__" "BadPlan.__init__" s_p_BadPlan_init f fd) : KBn K fd ["self", "thing"] 1 ["thing"] (fun us ws => us ++ ws.reverse) revV := by
  obtain ⟨oc, od, kV, doc, pm, an, cdv, ct, osl, rfl, lk, hcd⟩ := F.ex
  exact ⟨fun s us ws _ h1 h2 => match us, ws, h1, h2 with | [_], [_], _, _ => .of_eq rfl, fun r1 r2 => r1.append r2.reverse⟩

theorem okm_p_BadProgram_init {C f : Addr} {fd : FuncData} (F : Fun K "__init__" "BadProgram.__init__" s_p_BadProgram_init f fd) (hO : OexC K C) (hno : ∀ f ∈ (["thing"] : List Str), PySem.W.findIn K (.ref C) f = some none) : FnOk P w K mg base CX0 1 f fd ["self", "thing"] (spErr C ["thing"]) := by
  refine F.ok sc_p_BadProgram_init (fun vs H Q E h => ?_) (fun cdv A outer s H vs Q E hr h => ⟨(tOst K "thing" (tVar 0) (tVar 1)), ?_, rd_init1 hO (hno _ (by simp)) h⟩)
  · obtain ⟨_, ws, rfl, hl, _⟩ := h
    exact congrArg (· + 1) hl
  · exact pss_one (ps_ost (pv 0) (pv 1))
theorem bi_p_BadProgram_init {f : Addr} {fd : FuncData} (F : Fun K "__init__" "BadProgram.__init__" s_p_BadProgram_init f fd) : Binds K fd ["self", "thing"] [] := F.binds fun _ _ _ _ _ _ us hl => match us, hl with | [_, _], _ => rfl
theorem kb_p_BadProgram_init {f : Addr} {fd : FuncData} (F : Fun K "__init__" "BadProgram.__init__" s_p_BadProgram_init f fd) : KBn K fd ["self", "thing"] 1 ["thing"] (fun us ws => us ++ ws.reverse) revV := by
  obtain ⟨oc, od, kV, doc, pm, an, cdv, ct, osl, rfl, lk, hcd⟩ := F.ex
  exact ⟨fun s us ws _ h1 h2 => match us, ws, h1, h2 with | [_], [_], _, _ => .of_eq rfl, fun r1 r2 => r1.append r2.reverse⟩

theorem okm_p_BadQuestion_init {C f : Addr} {fd : FuncData} (F : Fun K "__init__" "BadQuestion.__init__" s_p_BadQuestion_init f fd) (hO : OexC K C) (hno : ∀ f ∈ (["thing"] : List Str), PySem.W.findIn K (.ref C) f = some none) : FnOk P w K mg base CX0 1 f fd ["self", "thing"] (spErr C ["thing"]) := by
  refine F.ok sc_p_BadQuestion_init (fun vs H Q E h => ?_) (fun cdv A outer s H vs Q E hr h => ⟨(tOst K "thing" (tVar 0) (tVar 1)), ?_, rd_init1 hO (hno _ (by simp)) h⟩)
  · obtain ⟨_, ws, rfl, hl, _⟩ := h
    exact congrArg (· + 1) hl
  · exact pss_one (ps_ost (pv 0) (pv 1))
theorem bi_p_BadQuestion_init {f : Addr} {fd : FuncData} (F : Fun K "__init__" "BadQuestion.__init__" s_p_BadQuestion_init f fd) : Binds K fd ["self", "thing"] [] := F.binds fun _ _ _ _ _ _ us hl => match us, hl with | [_, _], _ => rfl
theorem kb_p_BadQuestion_init {f : Addr} {fd : FuncData} (F : Fun K "__init__" "BadQuestion.__init__" s_p_BadQuestion_init f fd) : KBn K fd ["self", "thing"] 1 ["thing"] (fun us ws => us ++ ws.reverse) revV := by
  obtain ⟨oc, od, kV, doc, pm, an, cdv, ct, osl, rfl, lk, hcd⟩ := F.ex
  exact ⟨fun s us ws _ h1 h2 => match us, ws, h1, h2 with | [_], [_], _, _ => .of_eq rfl, fun r1 r2 => r1.append r2.reverse⟩

theorem okm_p_BadReads_init {C f : Addr} {fd : FuncData} (F : Fun K "__init__" "BadReads.__init__" s_p_BadReads_init f fd) (hO : OexC K C) (hno : ∀ f ∈ (["index"] : List Str), PySem.W.findIn K (.ref C) f = some none) : FnOk P w K mg base CX0 1 f fd ["self", "index"] (spErr C ["index"]) := by
  refine F.ok sc_p_BadReads_init (fun vs H Q E h => ?_) (fun cdv A outer s H vs Q E hr h => ⟨(tOst K "index" (tVar 0) (tVar 1)), ?_, rd_init1 hO (hno _ (by simp)) h⟩)
  · obtain ⟨_, ws, rfl, hl, _⟩ := h
    exact congrArg (· + 1) hl
  · exact pss_one (ps_ost (pv 0) (pv 1))
theorem bi_p_BadReads_init {f : Addr} {fd : FuncData} (F : Fun K "__init__" "BadReads.__init__" s_p_BadReads_init f fd) : Binds K fd ["self", "index"] [] := F.binds fun _ _ _ _ _ _ us hl => match us, hl with | [_, _], _ => rfl
theorem kb_p_BadReads_init {f : Addr} {fd : FuncData} (F : Fun K "__init__" "BadReads.__init__" s_p_BadReads_init f fd) : KBn K fd ["self", "index"] 1 ["index"] (fun us ws => us ++ ws.reverse) revV := by
  obtain ⟨oc, od, kV, doc, pm, an, cdv, ct, osl, rfl, lk, hcd⟩ := F.ex
  exact ⟨fun s us ws _ h1 h2 => match us, ws, h1, h2 with | [_], [_], _, _ => .of_eq rfl, fun r1 r2 => r1.append r2.reverse⟩

theorem okm_p_BadRow_init {C f : Addr} {fd : FuncData} (F : Fun K "__init__" "BadRow.__init__" s_p_BadRow_init f fd) (hO : OexC K C) (hno : ∀ f ∈ (["index"] : List Str), PySem.W.findIn K (.ref C) f = some none) : FnOk P w K mg base CX0 1 f fd ["self", "index"] (spErr C ["index"]) := by
  refine F.ok sc_p_BadRow_init (fun vs H Q E h => ?_) (fun cdv A outer s H vs Q E hr h => ⟨(tOst K "index" (tVar 0) (tVar 1)), ?_, rd_init1 hO (hno _ (by simp)) h⟩)
  · obtain ⟨_, ws, rfl, hl, _⟩ := h
    exact congrArg (· + 1) hl
  · exact pss_one (ps_ost (pv 0) (pv 1))
theorem bi_p_BadRow_init {f : Addr} {fd : FuncData} (F : Fun K "__init__" "BadRow.__init__" s_p_BadRow_init f fd) : Binds K fd ["self", "index"] [] := F.binds fun _ _ _ _ _ _ us hl => match us, hl with | [_, _], _ => rfl
theorem kb_p_BadRow_init {f : Addr} {fd : FuncData} (F : Fun K "__init__" "BadRow.__init__" s_p_BadRow_init f fd) : KBn K fd ["self", "index"] 1 ["index"] (fun us ws => us ++ ws.reverse) revV := by
  obtain ⟨oc, od, kV, doc, pm, an, cdv, ct, osl, rfl, lk, hcd⟩ := F.ex
  exact ⟨fun s us ws _ h1 h2 => match us, ws, h1, h2 with | [_], [_], _, _ => .of_eq rfl, fun r1 r2 => r1.append r2.reverse⟩

theorem okm_p_BadRows_init {C f : Addr} {fd : FuncData} (F : Fun K "__init__" "BadRows.__init__" s_p_BadRows_init f fd) (hO : OexC K C) (hno : ∀ f ∈ (["index"] : List Str), PySem.W.findIn K (.ref C) f = some none) : FnOk P w K mg base CX0 1 f fd ["self", "index"] (spErr C ["index"]) := by
  refine F.ok sc_p_BadRows_init (fun vs H Q E h => ?_) (fun cdv A outer s H vs Q E hr h => ⟨(tOst K "index" (tVar 0) (tVar 1)), ?_, rd_init1 hO (hno _ (by simp)) h⟩)
  · obtain ⟨_, ws, rfl, hl, _⟩ := h
    exact congrArg (· + 1) hl
  · exact pss_one (ps_ost (pv 0) (pv 1))
theorem bi_p_BadRows_init {f : Addr} {fd : FuncData} (F : Fun K "__init__" "BadRows.__init__" s_p_BadRows_init f fd) : Binds K fd ["self", "index"] [] := F.binds fun _ _ _ _ _ _ us hl => match us, hl with | [_, _], _ => rfl
theorem kb_p_BadRows_init {f : Addr} {fd : FuncData} (F : Fun K "__init__" "BadRows.__init__" s_p_BadRows_init f fd) : KBn K fd ["self", "index"] 1 ["index"] (fun us ws => us ++ ws.reverse) revV := by
  obtain ⟨oc, od, kV, doc, pm, an, cdv, ct, osl, rfl, lk, hcd⟩ := F.ex
  exact ⟨fun s us ws _ h1 h2 => match us, ws, h1, h2 with | [_], [_], _, _ => .of_eq rfl, fun r1 r2 => r1.append r2.reverse⟩

theorem okm_p_BadSeen_init {C f : Addr} {fd : FuncData} (F : Fun K "__init__" "BadSeen.__init__" s_p_BadSeen_init f fd) (hO : OexC K C) (hno : ∀ f ∈ (["index"] : List Str), PySem.W.findIn K (.ref C) f = some none) : FnOk P w K mg base CX0 1 f fd ["self", "index"] (spErr C ["index"]) := by
  refine F.ok sc_p_BadSeen_init (fun vs H Q E h => ?_) (fun cdv A outer s H vs Q E hr h => ⟨(tOst K "index" (tVar 0) (tVar 1)), ?_, rd_init1 hO (hno _ (by simp)) h⟩)
  · obtain ⟨_, ws, rfl, hl, _⟩ := h
    exact congrArg (· + 1) hl
  · exact pss_one (ps_ost (pv 0) (pv 1))
theorem bi_p_BadSeen_init {f : Addr} {fd : FuncData} (F : Fun K "__init__" "BadSeen.__init__" s_p_BadSeen_init f fd) : Binds K fd ["self", "index"] [] := F.binds fun _ _ _ _ _ _ us hl => match us, hl with | [_, _], _ => rfl
theorem kb_p_BadSeen_init {f : Addr} {fd : FuncData} (F : Fun K "__init__" "BadSeen.__init__" s_p_BadSeen_init f fd) : KBn K fd ["self", "index"] 1 ["index"] (fun us ws => us ++ ws.reverse) revV := by
  obtain ⟨oc, od, kV, doc, pm, an, cdv, ct, osl, rfl, lk, hcd⟩ := F.ex
  exact ⟨fun s us ws _ h1 h2 => match us, ws, h1, h2 with | [_], [_], _, _ => .of_eq rfl, fun r1 r2 => r1.append r2.reverse⟩

theorem okm_p_BadSession_init {C f : Addr} {fd : FuncData} (F : Fun K "__init__" "BadSession.__init__" s_p_BadSession_init f fd) (hO : OexC K C) (hno : ∀ f ∈ (["thing"] : List Str), PySem.W.findIn K (.ref C) f = some none) : FnOk P w K mg base CX0 1 f fd ["self", "thing"] (spErr C ["thing"]) := by
  refine F.ok sc_p_BadSession_init (fun vs H Q E h => ?_) (fun cdv A outer s H vs Q E hr h => ⟨(tOst K "thing" (tVar 0) (tVar 1)), ?_, rd_init1 hO (hno _ (by simp)) h⟩)
  · obtain ⟨_, ws, rfl, hl, _⟩ := h
    exact congrArg (· + 1) hl
  · exact pss_one (ps_ost (pv 0) (pv 1))
theorem bi_p_BadSession_init {f : Addr} {fd : FuncData} (F : Fun K "__init__" "BadSession.__init__" s_p_BadSession_init f fd) : Binds K fd ["self", "thing"] [] := F.binds fun _ _ _ _ _ _ us hl => match us, hl with | [_, _], _ => rfl
theorem kb_p_BadSession_init {f : Addr} {fd : FuncData} (F : Fun K "__init__" "BadSession.__init__" s_p_BadSession_init f fd) : KBn K fd ["self", "thing"] 1 ["thing"] (fun us ws => us ++ ws.reverse) revV := by
  obtain ⟨oc, od, kV, doc, pm, an, cdv, ct, osl, rfl, lk, hcd⟩ := F.ex
  exact ⟨fun s us ws _ h1 h2 => match us, ws, h1, h2 with | [_], [_], _, _ => .of_eq rfl, fun r1 r2 => r1.append r2.reverse⟩

theorem okm_p_BadSome_init {C f : Addr} {fd : FuncData} (F : Fun K "__init__" "BadSome.__init__" s_p_BadSome_init f fd) (hO : OexC K C) (hno : ∀ f ∈ (["index"] : List Str), PySem.W.findIn K (.ref C) f = some none) : FnOk P w K mg base CX0 1 f fd ["self", "index"] (spErr C ["index"]) := by
  refine F.ok sc_p_BadSome_init (fun vs H Q E h => ?_) (fun cdv A outer s H vs Q E hr h => ⟨(tOst K "index" (tVar 0) (tVar 1)), ?_, rd_init1 hO (hno _ (by simp)) h⟩)
  · obtain ⟨_, ws, rfl, hl, _⟩ := h
    exact congrArg (· + 1) hl
  · exact pss_one (ps_ost (pv 0) (pv 1))
theorem bi_p_BadSome_init {f : Addr} {fd : FuncData} (F : Fun K "__init__" "BadSome.__init__" s_p_BadSome_init f fd) : Binds K fd ["self", "index"] [] := F.binds fun _ _ _ _ _ _ us hl => match us, hl with | [_, _], _ => rfl
theorem kb_p_BadSome_init {f : Addr} {fd : FuncData} (F : Fun K "__init__" "BadSome.__init__" s_p_BadSome_init f fd) : KBn K fd ["self", "index"] 1 ["index"] (fun us ws => us ++ ws.reverse) revV := by
  obtain ⟨oc, od, kV, doc, pm, an, cdv, ct, osl, rfl, lk, hcd⟩ := F.ex
  exact ⟨fun s us ws _ h1 h2 => match us, ws, h1, h2 with | [_], [_], _, _ => .of_eq rfl, fun r1 r2 => r1.append r2.reverse⟩

theorem okm_p_BadSource_init {C f : Addr} {fd : FuncData} (F : Fun K "__init__" "BadSource.__init__" s_p_BadSource_init f fd) (hO : OexC K C) (hno : ∀ f ∈ (["thing"] : List Str), PySem.W.findIn K (.ref C) f = some none) : FnOk P w K mg base CX0 1 f fd ["self", "thing"] (spErr C ["thing"]) := by
  refine F.ok sc_p_BadSource_init (fun vs H Q E h => ?_) (fun cdv A outer s H vs Q E hr h => ⟨(tOst K "thing" (tVar 0) (tVar 1)), ?_, rd_init1 hO (hno _ (by simp)) h⟩)
  · obtain ⟨_, ws, rfl, hl, _⟩ := h
    exact congrArg (· + 1) hl
  · exact pss_one (ps_ost (pv 0) (pv 1))
theorem bi_p_BadSource_init {f : Addr} {fd : FuncData} (F : Fun K "__init__" "BadSource.__init__" s_p_BadSource_init f fd) : Binds K fd ["self", "thing"] [] := F.binds fun _ _ _ _ _ _ us hl => match us, hl with | [_, _], _ => rfl
theorem kb_p_BadSource_init {f : Addr} {fd : FuncData} (F : Fun K "__init__" "BadSource.__init__" s_p_BadSource_init f fd) : KBn K fd ["self", "thing"] 1 ["thing"] (fun us ws => us ++ ws.reverse) revV := by
  obtain ⟨oc, od, kV, doc, pm, an, cdv, ct, osl, rfl, lk, hcd⟩ := F.ex
  exact ⟨fun s us ws _ h1 h2 => match us, ws, h1, h2 with | [_], [_], _, _ => .of_eq rfl, fun r1 r2 => r1.append r2.reverse⟩

theorem okm_p_BadSpots_init {C f : Addr} {fd : FuncData} (F : Fun K "__init__" "BadSpots.__init__" s_p_BadSpots_init f fd) (hO : OexC K C) (hno : ∀ f ∈ (["index"] : List Str), PySem.W.findIn K (.ref C) f = some none) : FnOk P w K mg base CX0 1 f fd ["self", "index"] (spErr C ["index"]) := by
  refine F.ok sc_p_BadSpots_init (fun vs H Q E h => ?_) (fun cdv A outer s H vs Q E hr h => ⟨(tOst K "index" (tVar 0) (tVar 1)), ?_, rd_init1 hO (hno _ (by simp)) h⟩)
  · obtain ⟨_, ws, rfl, hl, _⟩ := h
    exact congrArg (· + 1) hl
  · exact pss_one (ps_ost (pv 0) (pv 1))
theorem bi_p_BadSpots_init {f : Addr} {fd : FuncData} (F : Fun K "__init__" "BadSpots.__init__" s_p_BadSpots_init f fd) : Binds K fd ["self", "index"] [] := F.binds fun _ _ _ _ _ _ us hl => match us, hl with | [_, _], _ => rfl
theorem kb_p_BadSpots_init {f : Addr} {fd : FuncData} (F : Fun K "__init__" "BadSpots.__init__" s_p_BadSpots_init f fd) : KBn K fd ["self", "index"] 1 ["index"] (fun us ws => us ++ ws.reverse) revV := by
  obtain ⟨oc, od, kV, doc, pm, an, cdv, ct, osl, rfl, lk, hcd⟩ := F.ex
  exact ⟨fun s us ws _ h1 h2 => match us, ws, h1, h2 with | [_], [_], _, _ => .of_eq rfl, fun r1 r2 => r1.append r2.reverse⟩

theorem okm_p_BadTeller_init {C f : Addr} {fd : FuncData} (F : Fun K "__init__" "BadTeller.__init__" s_p_BadTeller_init f fd) (hO : OexC K C) (hno : ∀ f ∈ (["thing"] : List Str), PySem.W.findIn K (.ref C) f = some none) : FnOk P w K mg base CX0 1 f fd ["self", "thing"] (spErr C ["thing"]) := by
  refine F.ok sc_p_BadTeller_init (fun vs H Q E h => ?_) (fun cdv A outer s H vs Q E hr h => ⟨(tOst K "thing" (tVar 0) (tVar 1)), ?_, rd_init1 hO (hno _ (by simp)) h⟩)
  · obtain ⟨_, ws, rfl, hl, _⟩ := h
    exact congrArg (· + 1) hl
  · exact pss_one (ps_ost (pv 0) (pv 1))
theorem bi_p_BadTeller_init {f : Addr} {fd : FuncData} (F : Fun K "__init__" "BadTeller.__init__" s_p_BadTeller_init f fd) : Binds K fd ["self", "thing"] [] := F.binds fun _ _ _ _ _ _ us hl => match us, hl with | [_, _], _ => rfl
theorem kb_p_BadTeller_init {f : Addr} {fd : FuncData} (F : Fun K "__init__" "BadTeller.__init__" s_p_BadTeller_init f fd) : KBn K fd ["self", "thing"] 1 ["thing"] (fun us ws => us ++ ws.reverse) revV := by
  obtain ⟨oc, od, kV, doc, pm, an, cdv, ct, osl, rfl, lk, hcd⟩ := F.ex
  exact ⟨fun s us ws _ h1 h2 => match us, ws, h1, h2 with | [_], [_], _, _ => .of_eq rfl, fun r1 r2 => r1.append r2.reverse⟩

theorem okm_p_BadTells_init {C f : Addr} {fd : FuncData} (F : Fun K "__init__" "BadTells.__init__" s_p_BadTells_init f fd) (hO : OexC K C) (hno : ∀ f ∈ (["index"] : List Str), PySem.W.findIn K (.ref C) f = some none) : FnOk P w K mg base CX0 1 f fd ["self", "index"] (spErr C ["index"]) := by
  refine F.ok sc_p_BadTells_init (fun vs H Q E h => ?_) (fun cdv A outer s H vs Q E hr h => ⟨(tOst K "index" (tVar 0) (tVar 1)), ?_, rd_init1 hO (hno _ (by simp)) h⟩)
  · obtain ⟨_, ws, rfl, hl, _⟩ := h
    exact congrArg (· + 1) hl
  · exact pss_one (ps_ost (pv 0) (pv 1))
theorem bi_p_BadTells_init {f : Addr} {fd : FuncData} (F : Fun K "__init__" "BadTells.__init__" s_p_BadTells_init f fd) : Binds K fd ["self", "index"] [] := F.binds fun _ _ _ _ _ _ us hl => match us, hl with | [_, _], _ => rfl
theorem kb_p_BadTells_init {f : Addr} {fd : FuncData} (F : Fun K "__init__" "BadTells.__init__" s_p_BadTells_init f fd) : KBn K fd ["self", "index"] 1 ["index"] (fun us ws => us ++ ws.reverse) revV := by
  obtain ⟨oc, od, kV, doc, pm, an, cdv, ct, osl, rfl, lk, hcd⟩ := F.ex
  exact ⟨fun s us ws _ h1 h2 => match us, ws, h1, h2 with | [_], [_], _, _ => .of_eq rfl, fun r1 r2 => r1.append r2.reverse⟩

theorem okm_p_BadText_init {C f : Addr} {fd : FuncData} (F : Fun K "__init__" "BadText.__init__" s_p_BadText_init f fd) (hO : OexC K C) (hno : ∀ f ∈ (["line", "sign"] : List Str), PySem.W.findIn K (.ref C) f = some none) : FnOk P w K mg base CX0 1 f fd ["self", "line", "sign"] (spErr C ["line", "sign"]) := by
  refine F.ok sc_p_BadText_init (fun vs H Q E h => ?_) (fun cdv A outer s H vs Q E hr h => ⟨tSeq (tOst K "line" (tVar 0) (tVar 1)) (tOst K "sign" (tVar 0) (tVar 2)), ?_, rd_init2 hO (hno _ (by simp)) (hno _ (by simp)) h⟩)
  · obtain ⟨_, ws, rfl, hl, _⟩ := h
    exact congrArg (· + 1) hl
  · exact pss_cons (ps_ost (pv 0) (pv 1))
      (pss_one (ps_ost (pv 0) (pv 2)))
theorem bi_p_BadText_init {f : Addr} {fd : FuncData} (F : Fun K "__init__" "BadText.__init__" s_p_BadText_init f fd) : Binds K fd ["self", "line", "sign"] [] := F.binds fun _ _ _ _ _ _ us hl => match us, hl with | [_, _, _], _ => rfl
theorem kb_p_BadText_init {f : Addr} {fd : FuncData} (F : Fun K "__init__" "BadText.__init__" s_p_BadText_init f fd) : KBn K fd ["self", "line", "sign"] 1 ["sign", "line"] (fun us ws => us ++ ws.reverse) revV := by
  obtain ⟨oc, od, kV, doc, pm, an, cdv, ct, osl, rfl, lk, hcd⟩ := F.ex
  exact ⟨fun s us ws _ h1 h2 => match us, ws, h1, h2 with | [_], [_, _], _, _ => .of_eq rfl, fun r1 r2 => r1.append r2.reverse⟩

theorem okm_p_InUse_init {C f : Addr} {fd : FuncData} (F : Fun K "__init__" "InUse.__init__" s_p_InUse_init f fd) (hO : OexC K C) (hno : ∀ f ∈ (["question"] : List Str), PySem.W.findIn K (.ref C) f = some none) : FnOk P w K mg base CX0 1 f fd ["self", "question"] (spErr C ["question"]) := by
  refine F.ok sc_p_InUse_init (fun vs H Q E h => ?_) (fun cdv A outer s H vs Q E hr h => ⟨(tOst K "question" (tVar 0) (tVar 1)), ?_, rd_init1 hO (hno _ (by simp)) h⟩)
  · obtain ⟨_, ws, rfl, hl, _⟩ := h
    exact congrArg (· + 1) hl
  · exact pss_one (ps_ost (pv 0) (pv 1))
theorem bi_p_InUse_init {f : Addr} {fd : FuncData} (F : Fun K "__init__" "InUse.__init__" s_p_InUse_init f fd) : Binds K fd ["self", "question"] [] := F.binds fun _ _ _ _ _ _ us hl => match us, hl with | [_, _], _ => rfl
theorem kb_p_InUse_init {f : Addr} {fd : FuncData} (F : Fun K "__init__" "InUse.__init__" s_p_InUse_init f fd) : KBn K fd ["self", "question"] 1 ["question"] (fun us ws => us ++ ws.reverse) revV := by
  obtain ⟨oc, od, kV, doc, pm, an, cdv, ct, osl, rfl, lk, hcd⟩ := F.ex
  exact ⟨fun s us ws _ h1 h2 => match us, ws, h1, h2 with | [_], [_], _, _ => .of_eq rfl, fun r1 r2 => r1.append r2.reverse⟩

theorem okm_p_IsWatched_init {C f : Addr} {fd : FuncData} (F : Fun K "__init__" "IsWatched.__init__" s_p_IsWatched_init f fd) (hO : OexC K C) (hno : ∀ f ∈ (["question"] : List Str), PySem.W.findIn K (.ref C) f = some none) : FnOk P w K mg base CX0 1 f fd ["self", "question"] (spErr C ["question"]) := by
  refine F.ok sc_p_IsWatched_init (fun vs H Q E h => ?_) (fun cdv A outer s H vs Q E hr h => ⟨(tOst K "question" (tVar 0) (tVar 1)), ?_, rd_init1 hO (hno _ (by simp)) h⟩)
  · obtain ⟨_, ws, rfl, hl, _⟩ := h
    exact congrArg (· + 1) hl
  · exact pss_one (ps_ost (pv 0) (pv 1))
theorem bi_p_IsWatched_init {f : Addr} {fd : FuncData} (F : Fun K "__init__" "IsWatched.__init__" s_p_IsWatched_init f fd) : Binds K fd ["self", "question"] [] := F.binds fun _ _ _ _ _ _ us hl => match us, hl with | [_, _], _ => rfl
theorem kb_p_IsWatched_init {f : Addr} {fd : FuncData} (F : Fun K "__init__" "IsWatched.__init__" s_p_IsWatched_init f fd) : KBn K fd ["self", "question"] 1 ["question"] (fun us ws => us ++ ws.reverse) revV := by
  obtain ⟨oc, od, kV, doc, pm, an, cdv, ct, osl, rfl, lk, hcd⟩ := F.ex
  exact ⟨fun s us ws _ h1 h2 => match us, ws, h1, h2 with | [_], [_], _, _ => .of_eq rfl, fun r1 r2 => r1.append r2.reverse⟩

theorem okm_p_NoCell_init {C f : Addr} {fd : FuncData} (F : Fun K "__init__" "NoCell.__init__" s_p_NoCell_init f fd) (hO : OexC K C) (hno : ∀ f ∈ (["thing"] : List Str), PySem.W.findIn K (.ref C) f = some none) : FnOk P w K mg base CX0 1 f fd ["self", "thing"] (spErr C ["thing"]) := by
  refine F.ok sc_p_NoCell_init (fun vs H Q E h => ?_) (fun cdv A outer s H vs Q E hr h => ⟨(tOst K "thing" (tVar 0) (tVar 1)), ?_, rd_init1 hO (hno _ (by simp)) h⟩)
  · obtain ⟨_, ws, rfl, hl, _⟩ := h
    exact congrArg (· + 1) hl
  · exact pss_one (ps_ost (pv 0) (pv 1))
theorem bi_p_NoCell_init {f : Addr} {fd : FuncData} (F : Fun K "__init__" "NoCell.__init__" s_p_NoCell_init f fd) : Binds K fd ["self", "thing"] [] := F.binds fun _ _ _ _ _ _ us hl => match us, hl with | [_, _], _ => rfl
theorem kb_p_NoCell_init {f : Addr} {fd : FuncData} (F : Fun K "__init__" "NoCell.__init__" s_p_NoCell_init f fd) : KBn K fd ["self", "thing"] 1 ["thing"] (fun us ws => us ++ ws.reverse) revV := by
  obtain ⟨oc, od, kV, doc, pm, an, cdv, ct, osl, rfl, lk, hcd⟩ := F.ex
  exact ⟨fun s us ws _ h1 h2 => match us, ws, h1, h2 with | [_], [_], _, _ => .of_eq rfl, fun r1 r2 => r1.append r2.reverse⟩

theorem okm_p_NoCount_init {C f : Addr} {fd : FuncData} (F : Fun K "__init__" "NoCount.__init__" s_p_NoCount_init f fd) (hO : OexC K C) (hno : ∀ f ∈ (["thing"] : List Str), PySem.W.findIn K (.ref C) f = some none) : FnOk P w K mg base CX0 1 f fd ["self", "thing"] (spErr C ["thing"]) := by
  refine F.ok sc_p_NoCount_init (fun vs H Q E h => ?_) (fun cdv A outer s H vs Q E hr h => ⟨(tOst K "thing" (tVar 0) (tVar 1)), ?_, rd_init1 hO (hno _ (by simp)) h⟩)
  · obtain ⟨_, ws, rfl, hl, _⟩ := h
    exact congrArg (· + 1) hl
  · exact pss_one (ps_ost (pv 0) (pv 1))
theorem bi_p_NoCount_init {f : Addr} {fd : FuncData} (F : Fun K "__init__" "NoCount.__init__" s_p_NoCount_init f fd) : Binds K fd ["self", "thing"] [] := F.binds fun _ _ _ _ _ _ us hl => match us, hl with | [_, _], _ => rfl
theorem kb_p_NoCount_init {f : Addr} {fd : FuncData} (F : Fun K "__init__" "NoCount.__init__" s_p_NoCount_init f fd) : KBn K fd ["self", "thing"] 1 ["thing"] (fun us ws => us ++ ws.reverse) revV := by
  obtain ⟨oc, od, kV, doc, pm, an, cdv, ct, osl, rfl, lk, hcd⟩ := F.ex
  exact ⟨fun s us ws _ h1 h2 => match us, ws, h1, h2 with | [_], [_], _, _ => .of_eq rfl, fun r1 r2 => r1.append r2.reverse⟩

theorem okm_p_NoHour_init {C f : Addr} {fd : FuncData} (F : Fun K "__init__" "NoHour.__init__" s_p_NoHour_init f fd) (hO : OexC K C) (hno : ∀ f ∈ (["hour"] : List Str), PySem.W.findIn K (.ref C) f = some none) : FnOk P w K mg base CX0 1 f fd ["self", "hour"] (spErr C ["hour"]) := by
  refine F.ok sc_p_NoHour_init (fun vs H Q E h => ?_) (fun cdv A outer s H vs Q E hr h => ⟨(tOst K "hour" (tVar 0) (tVar 1)), ?_, rd_init1 hO (hno _ (by simp)) h⟩)
  · obtain ⟨_, ws, rfl, hl, _⟩ := h
    exact congrArg (· + 1) hl
  · exact pss_one (ps_ost (pv 0) (pv 1))
theorem bi_p_NoHour_init {f : Addr} {fd : FuncData} (F : Fun K "__init__" "NoHour.__init__" s_p_NoHour_init f fd) : Binds K fd ["self", "hour"] [] := F.binds fun _ _ _ _ _ _ us hl => match us, hl with | [_, _], _ => rfl
theorem kb_p_NoHour_init {f : Addr} {fd : FuncData} (F : Fun K "__init__" "NoHour.__init__" s_p_NoHour_init f fd) : KBn K fd ["self", "hour"] 1 ["hour"] (fun us ws => us ++ ws.reverse) revV := by
  obtain ⟨oc, od, kV, doc, pm, an, cdv, ct, osl, rfl, lk, hcd⟩ := F.ex
  exact ⟨fun s us ws _ h1 h2 => match us, ws, h1, h2 with | [_], [_], _, _ => .of_eq rfl, fun r1 r2 => r1.append r2.reverse⟩

theorem okm_p_NoLine_init {C f : Addr} {fd : FuncData} (F : Fun K "__init__" "NoLine.__init__" s_p_NoLine_init f fd) (hO : OexC K C) (hno : ∀ f ∈ (["thing"] : List Str), PySem.W.findIn K (.ref C) f = some none) : FnOk P w K mg base CX0 1 f fd ["self", "thing"] (spErr C ["thing"]) := by
  refine F.ok sc_p_NoLine_init (fun vs H Q E h => ?_) (fun cdv A outer s H vs Q E hr h => ⟨(tOst K "thing" (tVar 0) (tVar 1)), ?_, rd_init1 hO (hno _ (by simp)) h⟩)
  · obtain ⟨_, ws, rfl, hl, _⟩ := h
    exact congrArg (· + 1) hl
  · exact pss_one (ps_ost (pv 0) (pv 1))
theorem bi_p_NoLine_init {f : Addr} {fd : FuncData} (F : Fun K "__init__" "NoLine.__init__" s_p_NoLine_init f fd) : Binds K fd ["self", "thing"] [] := F.binds fun _ _ _ _ _ _ us hl => match us, hl with | [_, _], _ => rfl
theorem kb_p_NoLine_init {f : Addr} {fd : FuncData} (F : Fun K "__init__" "NoLine.__init__" s_p_NoLine_init f fd) : KBn K fd ["self", "thing"] 1 ["thing"] (fun us ws => us ++ ws.reverse) revV := by
  obtain ⟨oc, od, kV, doc, pm, an, cdv, ct, osl, rfl, lk, hcd⟩ := F.ex
  exact ⟨fun s us ws _ h1 h2 => match us, ws, h1, h2 with | [_], [_], _, _ => .of_eq rfl, fun r1 r2 => r1.append r2.reverse⟩

theorem okm_p_NoSpot_init {C f : Addr} {fd : FuncData} (F : Fun K "__init__" "NoSpot.__init__" s_p_NoSpot_init f fd) (hO : OexC K C) (hno : ∀ f ∈ (["hour", "slot"] : List Str), PySem.W.findIn K (.ref C) f = some none) : FnOk P w K mg base CX0 1 f fd ["self", "hour", "slot"] (spErr C ["hour", "slot"]) := by
  refine F.ok sc_p_NoSpot_init (fun vs H Q E h => ?_) (fun cdv A outer s H vs Q E hr h => ⟨tSeq (tOst K "hour" (tVar 0) (tVar 1)) (tOst K "slot" (tVar 0) (tVar 2)), ?_, rd_init2 hO (hno _ (by simp)) (hno _ (by simp)) h⟩)
  · obtain ⟨_, ws, rfl, hl, _⟩ := h
    exact congrArg (· + 1) hl
  · exact pss_cons (ps_ost (pv 0) (pv 1))
      (pss_one (ps_ost (pv 0) (pv 2)))
theorem bi_p_NoSpot_init {f : Addr} {fd : FuncData} (F : Fun K "__init__" "NoSpot.__init__" s_p_NoSpot_init f fd) : Binds K fd ["self", "hour", "slot"] [] := F.binds fun _ _ _ _ _ _ us hl => match us, hl with | [_, _, _], _ => rfl
theorem kb_p_NoSpot_init {f : Addr} {fd : FuncData} (F : Fun K "__init__" "NoSpot.__init__" s_p_NoSpot_init f fd) : KBn K fd ["self", "hour", "slot"] 1 ["slot", "hour"] (fun us ws => us ++ ws.reverse) revV := by
  obtain ⟨oc, od, kV, doc, pm, an, cdv, ct, osl, rfl, lk, hcd⟩ := F.ex
  exact ⟨fun s us ws _ h1 h2 => match us, ws, h1, h2 with | [_], [_, _], _, _ => .of_eq rfl, fun r1 r2 => r1.append r2.reverse⟩

theorem okm_p_NoText_init {C f : Addr} {fd : FuncData} (F : Fun K "__init__" "NoText.__init__" s_p_NoText_init f fd) (hO : OexC K C) (hno : ∀ f ∈ (["index"] : List Str), PySem.W.findIn K (.ref C) f = some none) : FnOk P w K mg base CX0 1 f fd ["self", "index"] (spErr C ["index"]) := by
  refine F.ok sc_p_NoText_init (fun vs H Q E h => ?_) (fun cdv A outer s H vs Q E hr h => ⟨(tOst K "index" (tVar 0) (tVar 1)), ?_, rd_init1 hO (hno _ (by simp)) h⟩)
  · obtain ⟨_, ws, rfl, hl, _⟩ := h
    exact congrArg (· + 1) hl
  · exact pss_one (ps_ost (pv 0) (pv 1))
theorem bi_p_NoText_init {f : Addr} {fd : FuncData} (F : Fun K "__init__" "NoText.__init__" s_p_NoText_init f fd) : Binds K fd ["self", "index"] [] := F.binds fun _ _ _ _ _ _ us hl => match us, hl with | [_, _], _ => rfl
theorem kb_p_NoText_init {f : Addr} {fd : FuncData} (F : Fun K "__init__" "NoText.__init__" s_p_NoText_init f fd) : KBn K fd ["self", "index"] 1 ["index"] (fun us ws => us ++ ws.reverse) revV := by
  obtain ⟨oc, od, kV, doc, pm, an, cdv, ct, osl, rfl, lk, hcd⟩ := F.ex
  exact ⟨fun s us ws _ h1 h2 => match us, ws, h1, h2 with | [_], [_], _, _ => .of_eq rfl, fun r1 r2 => r1.append r2.reverse⟩

theorem okm_p_NoThing_init {C f : Addr} {fd : FuncData} (F : Fun K "__init__" "NoThing.__init__" s_p_NoThing_init f fd) (hO : OexC K C) (hno : ∀ f ∈ (["thing"] : List Str), PySem.W.findIn K (.ref C) f = some none) : FnOk P w K mg base CX0 1 f fd ["self", "thing"] (spErr C ["thing"]) := by
  refine F.ok sc_p_NoThing_init (fun vs H Q E h => ?_) (fun cdv A outer s H vs Q E hr h => ⟨(tOst K "thing" (tVar 0) (tVar 1)), ?_, rd_init1 hO (hno _ (by simp)) h⟩)
  · obtain ⟨_, ws, rfl, hl, _⟩ := h
    exact congrArg (· + 1) hl
  · exact pss_one (ps_ost (pv 0) (pv 1))
theorem bi_p_NoThing_init {f : Addr} {fd : FuncData} (F : Fun K "__init__" "NoThing.__init__" s_p_NoThing_init f fd) : Binds K fd ["self", "thing"] [] := F.binds fun _ _ _ _ _ _ us hl => match us, hl with | [_, _], _ => rfl
theorem kb_p_NoThing_init {f : Addr} {fd : FuncData} (F : Fun K "__init__" "NoThing.__init__" s_p_NoThing_init f fd) : KBn K fd ["self", "thing"] 1 ["thing"] (fun us ws => us ++ ws.reverse) revV := by
  obtain ⟨oc, od, kV, doc, pm, an, cdv, ct, osl, rfl, lk, hcd⟩ := F.ex
  exact ⟨fun s us ws _ h1 h2 => match us, ws, h1, h2 with | [_], [_], _, _ => .of_eq rfl, fun r1 r2 => r1.append r2.reverse⟩

theorem okm_p_NoTold_init {C f : Addr} {fd : FuncData} (F : Fun K "__init__" "NoTold.__init__" s_p_NoTold_init f fd) (hO : OexC K C) (hno : ∀ f ∈ (["thing"] : List Str), PySem.W.findIn K (.ref C) f = some none) : FnOk P w K mg base CX0 1 f fd ["self", "thing"] (spErr C ["thing"]) := by
  refine F.ok sc_p_NoTold_init (fun vs H Q E h => ?_) (fun cdv A outer s H vs Q E hr h => ⟨(tOst K "thing" (tVar 0) (tVar 1)), ?_, rd_init1 hO (hno _ (by simp)) h⟩)
  · obtain ⟨_, ws, rfl, hl, _⟩ := h
    exact congrArg (· + 1) hl
  · exact pss_one (ps_ost (pv 0) (pv 1))
theorem bi_p_NoTold_init {f : Addr} {fd : FuncData} (F : Fun K "__init__" "NoTold.__init__" s_p_NoTold_init f fd) : Binds K fd ["self", "thing"] [] := F.binds fun _ _ _ _ _ _ us hl => match us, hl with | [_, _], _ => rfl
theorem kb_p_NoTold_init {f : Addr} {fd : FuncData} (F : Fun K "__init__" "NoTold.__init__" s_p_NoTold_init f fd) : KBn K fd ["self", "thing"] 1 ["thing"] (fun us ws => us ++ ws.reverse) revV := by
  obtain ⟨oc, od, kV, doc, pm, an, cdv, ct, osl, rfl, lk, hcd⟩ := F.ex
  exact ⟨fun s us ws _ h1 h2 => match us, ws, h1, h2 with | [_], [_], _, _ => .of_eq rfl, fun r1 r2 => r1.append r2.reverse⟩

theorem okm_p_NotSound_init {C f : Addr} {fd : FuncData} (F : Fun K "__init__" "NotSound.__init__" s_p_NotSound_init f fd) (hO : OexC K C) (hno : ∀ f ∈ (["fault"] : List Str), PySem.W.findIn K (.ref C) f = some none) : FnOk P w K mg base CX0 1 f fd ["self", "fault"] (spErr C ["fault"]) := by
  refine F.ok sc_p_NotSound_init (fun vs H Q E h => ?_) (fun cdv A outer s H vs Q E hr h => ⟨(tOst K "fault" (tVar 0) (tVar 1)), ?_, rd_init1 hO (hno _ (by simp)) h⟩)
  · obtain ⟨_, ws, rfl, hl, _⟩ := h
    exact congrArg (· + 1) hl
  · exact pss_one (ps_ost (pv 0) (pv 1))
theorem bi_p_NotSound_init {f : Addr} {fd : FuncData} (F : Fun K "__init__" "NotSound.__init__" s_p_NotSound_init f fd) : Binds K fd ["self", "fault"] [] := F.binds fun _ _ _ _ _ _ us hl => match us, hl with | [_, _], _ => rfl
theorem kb_p_NotSound_init {f : Addr} {fd : FuncData} (F : Fun K "__init__" "NotSound.__init__" s_p_NotSound_init f fd) : KBn K fd ["self", "fault"] 1 ["fault"] (fun us ws => us ++ ws.reverse) revV := by
  obtain ⟨oc, od, kV, doc, pm, an, cdv, ct, osl, rfl, lk, hcd⟩ := F.ex
  exact ⟨fun s us ws _ h1 h2 => match us, ws, h1, h2 with | [_], [_], _, _ => .of_eq rfl, fun r1 r2 => r1.append r2.reverse⟩

theorem okm_p_NotWatched_init {C f : Addr} {fd : FuncData} (F : Fun K "__init__" "NotWatched.__init__" s_p_NotWatched_init f fd) (hO : OexC K C) (hno : ∀ f ∈ (["question"] : List Str), PySem.W.findIn K (.ref C) f = some none) : FnOk P w K mg base CX0 1 f fd ["self", "question"] (spErr C ["question"]) := by
  refine F.ok sc_p_NotWatched_init (fun vs H Q E h => ?_) (fun cdv A outer s H vs Q E hr h => ⟨(tOst K "question" (tVar 0) (tVar 1)), ?_, rd_init1 hO (hno _ (by simp)) h⟩)
  · obtain ⟨_, ws, rfl, hl, _⟩ := h
    exact congrArg (· + 1) hl
  · exact pss_one (ps_ost (pv 0) (pv 1))
theorem bi_p_NotWatched_init {f : Addr} {fd : FuncData} (F : Fun K "__init__" "NotWatched.__init__" s_p_NotWatched_init f fd) : Binds K fd ["self", "question"] [] := F.binds fun _ _ _ _ _ _ us hl => match us, hl with | [_, _], _ => rfl
theorem kb_p_NotWatched_init {f : Addr} {fd : FuncData} (F : Fun K "__init__" "NotWatched.__init__" s_p_NotWatched_init f fd) : KBn K fd ["self", "question"] 1 ["question"] (fun us ws => us ++ ws.reverse) revV := by
  obtain ⟨oc, od, kV, doc, pm, an, cdv, ct, osl, rfl, lk, hcd⟩ := F.ex
  exact ⟨fun s us ws _ h1 h2 => match us, ws, h1, h2 with | [_], [_], _, _ => .of_eq rfl, fun r1 r2 => r1.append r2.reverse⟩

theorem okm_p_WouldChange_init {C f : Addr} {fd : FuncData} (F : Fun K "__init__" "WouldChange.__init__" s_p_WouldChange_init f fd) (hO : OexC K C) (hno : ∀ f ∈ (["question", "why"] : List Str), PySem.W.findIn K (.ref C) f = some none) : FnOk P w K mg base CX0 1 f fd ["self", "question", "why"] (spErr C ["question", "why"]) := by
  refine F.ok sc_p_WouldChange_init (fun vs H Q E h => ?_) (fun cdv A outer s H vs Q E hr h => ⟨tSeq (tOst K "question" (tVar 0) (tVar 1)) (tOst K "why" (tVar 0) (tVar 2)), ?_, rd_init2 hO (hno _ (by simp)) (hno _ (by simp)) h⟩)
  · obtain ⟨_, ws, rfl, hl, _⟩ := h
    exact congrArg (· + 1) hl
  · exact pss_cons (ps_ost (pv 0) (pv 1))
      (pss_one (ps_ost (pv 0) (pv 2)))
theorem bi_p_WouldChange_init {f : Addr} {fd : FuncData} (F : Fun K "__init__" "WouldChange.__init__" s_p_WouldChange_init f fd) : Binds K fd ["self", "question", "why"] [] := F.binds fun _ _ _ _ _ _ us hl => match us, hl with | [_, _, _], _ => rfl
theorem kb_p_WouldChange_init {f : Addr} {fd : FuncData} (F : Fun K "__init__" "WouldChange.__init__" s_p_WouldChange_init f fd) : KBn K fd ["self", "question", "why"] 1 ["why", "question"] (fun us ws => us ++ ws.reverse) revV := by
  obtain ⟨oc, od, kV, doc, pm, an, cdv, ct, osl, rfl, lk, hcd⟩ := F.ex
  exact ⟨fun s us ws _ h1 h2 => match us, ws, h1, h2 with | [_], [_, _], _, _ => .of_eq rfl, fun r1 r2 => r1.append r2.reverse⟩

theorem rw_l_made_a_1 {cX f : Addr} {A : Around} {outer : List Env} {s : Shared} {H : Hp} {E : XK} (T : Txt K mg D) (TB : TabB base mg cX D.PA) {fI : Nat → Addr} {fdI : Nat → FuncData} (Y : TxtI K D fI) (I : ∀ i, i < 43 → FnOk P w K mg base CX0 1 (fI i) (fdI i) ("self" :: flds i) (spErr (D.c i) (flds i))) (B0 : ∀ i, i < 43 → Binds K (fdI i) ("self" :: flds i) []) (B : ∀ i, i < 43 → KBn K (fdI i) ("self" :: flds i) 1 (flds i).reverse (fun us ws => us ++ ws.reverse) revV) (hr : Room 2 (A.deeper (envOfC "_law_made_a" (defScope s_l_made_a) s.heap.objs.size f (.ref cX)))) :
    PS (cxOf CX0 P w K mg base N_l_made_a "_law_made_a" (defScope s_l_made_a) f (.ref cX) A outer s H E).nox (stm (defBody s_l_made_a) 1) (tDrop (tBM K "list" (rAppendU) (tVar 3) (tCons (tTupU (tCons (tMkV (D.c 0) (spErr (D.c 0) ["thing"]) (tCons (tVar 0) (tNil))) (tCons (tMkKV (D.c 0) (spErr (D.c 0) ["thing"]) revV 1 (tCons (tVar 0) (tNil))) (tCons (tLamW D.PA qA (IsFld ["thing"])) (tCons (tLstB (tCons (tVar 0) (tNil))) (tNil)))))) (tNil)))) := ps_expr (pe_bm PySem.F.plainAttrs_list PySem.F.slot_list_append PySem.F.type_list_append mt_appendU (pv 3) (pa_cons (pe_tupU (pa_cons (pe_oexV (T.ox 0 (by decide)) (Y.ini 0 (by decide)) (Y.tyi 0 (by decide)) (I 0 (by decide)) (hr.mono (by decide)) (B0 0 (by decide)) pass0 rfl (T.g 0 (by decide)) (pa_cons (pv 0) (pa_nil))) (pa_cons (pe_oexKV (ks := ["thing"]) (T.ox 0 (by decide)) (Y.ini 0 (by decide)) (Y.tyi 0 (by decide)) (I 0 (by decide)) (hr.mono (by decide)) (B 0 (by decide)) pass0 rfl (T.g 0 (by decide)) (pk_cons (pv 0) (pk_nil))) (pa_cons (pe_lamW (IsFld ["thing"]) TB rfl (by rfl) (fun c0 => ⟨rfl, fun pm ctv us h => match us, h with | [_], _ => rfl, nscope_by (by rfl), .inl ⟨_, _, _, _, rfl, rfl⟩⟩)) (pa_cons (pe_lstB (pa_cons (pv 0) (pa_nil))) (pa_nil)))))) (pa_nil)))
theorem rw_l_made_a_2 {cX f : Addr} {A : Around} {outer : List Env} {s : Shared} {H : Hp} {E : XK} (T : Txt K mg D) (TB : TabB base mg cX D.PA) {fI : Nat → Addr} {fdI : Nat → FuncData} (Y : TxtI K D fI) (I : ∀ i, i < 43 → FnOk P w K mg base CX0 1 (fI i) (fdI i) ("self" :: flds i) (spErr (D.c i) (flds i))) (B0 : ∀ i, i < 43 → Binds K (fdI i) ("self" :: flds i) []) (B : ∀ i, i < 43 → KBn K (fdI i) ("self" :: flds i) 1 (flds i).reverse (fun us ws => us ++ ws.reverse) revV) (hr : Room 2 (A.deeper (envOfC "_law_made_a" (defScope s_l_made_a) s.heap.objs.size f (.ref cX)))) :
    PS (cxOf CX0 P w K mg base N_l_made_a "_law_made_a" (defScope s_l_made_a) f (.ref cX) A outer s H E).nox (stm (defBody s_l_made_a) 2) (tDrop (tBM K "list" (rAppendU) (tVar 3) (tCons (tTupU (tCons (tMkV (D.c 1) (spErr (D.c 1) ["thing"]) (tCons (tVar 0) (tNil))) (tCons (tMkKV (D.c 1) (spErr (D.c 1) ["thing"]) revV 1 (tCons (tVar 0) (tNil))) (tCons (tLamW D.PA qA (IsFld ["thing"])) (tCons (tLstB (tCons (tVar 0) (tNil))) (tNil)))))) (tNil)))) := ps_expr (pe_bm PySem.F.plainAttrs_list PySem.F.slot_list_append PySem.F.type_list_append mt_appendU (pv 3) (pa_cons (pe_tupU (pa_cons (pe_oexV (T.ox 1 (by decide)) (Y.ini 1 (by decide)) (Y.tyi 1 (by decide)) (I 1 (by decide)) (hr.mono (by decide)) (B0 1 (by decide)) pass0 rfl (T.g 1 (by decide)) (pa_cons (pv 0) (pa_nil))) (pa_cons (pe_oexKV (ks := ["thing"]) (T.ox 1 (by decide)) (Y.ini 1 (by decide)) (Y.tyi 1 (by decide)) (I 1 (by decide)) (hr.mono (by decide)) (B 1 (by decide)) pass0 rfl (T.g 1 (by decide)) (pk_cons (pv 0) (pk_nil))) (pa_cons (pe_lamW (IsFld ["thing"]) TB rfl (by rfl) (fun c0 => ⟨rfl, fun pm ctv us h => match us, h with | [_], _ => rfl, nscope_by (by rfl), .inl ⟨_, _, _, _, rfl, rfl⟩⟩)) (pa_cons (pe_lstB (pa_cons (pv 0) (pa_nil))) (pa_nil)))))) (pa_nil)))
theorem rw_l_made_a_3 {cX f : Addr} {A : Around} {outer : List Env} {s : Shared} {H : Hp} {E : XK} (T : Txt K mg D) (TB : TabB base mg cX D.PA) {fI : Nat → Addr} {fdI : Nat → FuncData} (Y : TxtI K D fI) (I : ∀ i, i < 43 → FnOk P w K mg base CX0 1 (fI i) (fdI i) ("self" :: flds i) (spErr (D.c i) (flds i))) (B0 : ∀ i, i < 43 → Binds K (fdI i) ("self" :: flds i) []) (B : ∀ i, i < 43 → KBn K (fdI i) ("self" :: flds i) 1 (flds i).reverse (fun us ws => us ++ ws.reverse) revV) (hr : Room 2 (A.deeper (envOfC "_law_made_a" (defScope s_l_made_a) s.heap.objs.size f (.ref cX)))) :
    PS (cxOf CX0 P w K mg base N_l_made_a "_law_made_a" (defScope s_l_made_a) f (.ref cX) A outer s H E).nox (stm (defBody s_l_made_a) 3) (tDrop (tBM K "list" (rAppendU) (tVar 3) (tCons (tTupU (tCons (tMkV (D.c 2) (spErr (D.c 2) ["thing"]) (tCons (tVar 0) (tNil))) (tCons (tMkKV (D.c 2) (spErr (D.c 2) ["thing"]) revV 1 (tCons (tVar 0) (tNil))) (tCons (tLamW D.PA qA (IsFld ["thing"])) (tCons (tLstB (tCons (tVar 0) (tNil))) (tNil)))))) (tNil)))) := ps_expr (pe_bm PySem.F.plainAttrs_list PySem.F.slot_list_append PySem.F.type_list_append mt_appendU (pv 3) (pa_cons (pe_tupU (pa_cons (pe_oexV (T.ox 2 (by decide)) (Y.ini 2 (by decide)) (Y.tyi 2 (by decide)) (I 2 (by decide)) (hr.mono (by decide)) (B0 2 (by decide)) pass0 rfl (T.g 2 (by decide)) (pa_cons (pv 0) (pa_nil))) (pa_cons (pe_oexKV (ks := ["thing"]) (T.ox 2 (by decide)) (Y.ini 2 (by decide)) (Y.tyi 2 (by decide)) (I 2 (by decide)) (hr.mono (by decide)) (B 2 (by decide)) pass0 rfl (T.g 2 (by decide)) (pk_cons (pv 0) (pk_nil))) (pa_cons (pe_lamW (IsFld ["thing"]) TB rfl (by rfl) (fun c0 => ⟨rfl, fun pm ctv us h => match us, h with | [_], _ => rfl, nscope_by (by rfl), .inl ⟨_, _, _, _, rfl, rfl⟩⟩)) (pa_cons (pe_lstB (pa_cons (pv 0) (pa_nil))) (pa_nil)))))) (pa_nil)))
theorem rw_l_made_a_4 {cX f : Addr} {A : Around} {outer : List Env} {s : Shared} {H : Hp} {E : XK} (T : Txt K mg D) (TB : TabB base mg cX D.PA) {fI : Nat → Addr} {fdI : Nat → FuncData} (Y : TxtI K D fI) (I : ∀ i, i < 43 → FnOk P w K mg base CX0 1 (fI i) (fdI i) ("self" :: flds i) (spErr (D.c i) (flds i))) (B0 : ∀ i, i < 43 → Binds K (fdI i) ("self" :: flds i) []) (B : ∀ i, i < 43 → KBn K (fdI i) ("self" :: flds i) 1 (flds i).reverse (fun us ws => us ++ ws.reverse) revV) (hr : Room 2 (A.deeper (envOfC "_law_made_a" (defScope s_l_made_a) s.heap.objs.size f (.ref cX)))) :
    PS (cxOf CX0 P w K mg base N_l_made_a "_law_made_a" (defScope s_l_made_a) f (.ref cX) A outer s H E).nox (stm (defBody s_l_made_a) 4) (tDrop (tBM K "list" (rAppendU) (tVar 3) (tCons (tTupU (tCons (tMkV (D.c 3) (spErr (D.c 3) ["thing"]) (tCons (tVar 0) (tNil))) (tCons (tMkKV (D.c 3) (spErr (D.c 3) ["thing"]) revV 1 (tCons (tVar 0) (tNil))) (tCons (tLamW D.PA qA (IsFld ["thing"])) (tCons (tLstB (tCons (tVar 0) (tNil))) (tNil)))))) (tNil)))) := ps_expr (pe_bm PySem.F.plainAttrs_list PySem.F.slot_list_append PySem.F.type_list_append mt_appendU (pv 3) (pa_cons (pe_tupU (pa_cons (pe_oexV (T.ox 3 (by decide)) (Y.ini 3 (by decide)) (Y.tyi 3 (by decide)) (I 3 (by decide)) (hr.mono (by decide)) (B0 3 (by decide)) pass0 rfl (T.g 3 (by decide)) (pa_cons (pv 0) (pa_nil))) (pa_cons (pe_oexKV (ks := ["thing"]) (T.ox 3 (by decide)) (Y.ini 3 (by decide)) (Y.tyi 3 (by decide)) (I 3 (by decide)) (hr.mono (by decide)) (B 3 (by decide)) pass0 rfl (T.g 3 (by decide)) (pk_cons (pv 0) (pk_nil))) (pa_cons (pe_lamW (IsFld ["thing"]) TB rfl (by rfl) (fun c0 => ⟨rfl, fun pm ctv us h => match us, h with | [_], _ => rfl, nscope_by (by rfl), .inl ⟨_, _, _, _, rfl, rfl⟩⟩)) (pa_cons (pe_lstB (pa_cons (pv 0) (pa_nil))) (pa_nil)))))) (pa_nil)))
theorem rw_l_made_a_5 {cX f : Addr} {A : Around} {outer : List Env} {s : Shared} {H : Hp} {E : XK} (T : Txt K mg D) (TB : TabB base mg cX D.PA) {fI : Nat → Addr} {fdI : Nat → FuncData} (Y : TxtI K D fI) (I : ∀ i, i < 43 → FnOk P w K mg base CX0 1 (fI i) (fdI i) ("self" :: flds i) (spErr (D.c i) (flds i))) (B0 : ∀ i, i < 43 → Binds K (fdI i) ("self" :: flds i) []) (B : ∀ i, i < 43 → KBn K (fdI i) ("self" :: flds i) 1 (flds i).reverse (fun us ws => us ++ ws.reverse) revV) (hr : Room 2 (A.deeper (envOfC "_law_made_a" (defScope s_l_made_a) s.heap.objs.size f (.ref cX)))) :
    PS (cxOf CX0 P w K mg base N_l_made_a "_law_made_a" (defScope s_l_made_a) f (.ref cX) A outer s H E).nox (stm (defBody s_l_made_a) 5) (tDrop (tBM K "list" (rAppendU) (tVar 3) (tCons (tTupU (tCons (tMkV (D.c 4) (spErr (D.c 4) ["thing"]) (tCons (tVar 0) (tNil))) (tCons (tMkKV (D.c 4) (spErr (D.c 4) ["thing"]) revV 1 (tCons (tVar 0) (tNil))) (tCons (tLamW D.PA qA (IsFld ["thing"])) (tCons (tLstB (tCons (tVar 0) (tNil))) (tNil)))))) (tNil)))) := ps_expr (pe_bm PySem.F.plainAttrs_list PySem.F.slot_list_append PySem.F.type_list_append mt_appendU (pv 3) (pa_cons (pe_tupU (pa_cons (pe_oexV (T.ox 4 (by decide)) (Y.ini 4 (by decide)) (Y.tyi 4 (by decide)) (I 4 (by decide)) (hr.mono (by decide)) (B0 4 (by decide)) pass0 rfl (T.g 4 (by decide)) (pa_cons (pv 0) (pa_nil))) (pa_cons (pe_oexKV (ks := ["thing"]) (T.ox 4 (by decide)) (Y.ini 4 (by decide)) (Y.tyi 4 (by decide)) (I 4 (by decide)) (hr.mono (by decide)) (B 4 (by decide)) pass0 rfl (T.g 4 (by decide)) (pk_cons (pv 0) (pk_nil))) (pa_cons (pe_lamW (IsFld ["thing"]) TB rfl (by rfl) (fun c0 => ⟨rfl, fun pm ctv us h => match us, h with | [_], _ => rfl, nscope_by (by rfl), .inl ⟨_, _, _, _, rfl, rfl⟩⟩)) (pa_cons (pe_lstB (pa_cons (pv 0) (pa_nil))) (pa_nil)))))) (pa_nil)))
theorem rw_l_made_a_6 {cX f : Addr} {A : Around} {outer : List Env} {s : Shared} {H : Hp} {E : XK} (T : Txt K mg D) (TB : TabB base mg cX D.PA) {fI : Nat → Addr} {fdI : Nat → FuncData} (Y : TxtI K D fI) (I : ∀ i, i < 43 → FnOk P w K mg base CX0 1 (fI i) (fdI i) ("self" :: flds i) (spErr (D.c i) (flds i))) (B0 : ∀ i, i < 43 → Binds K (fdI i) ("self" :: flds i) []) (B : ∀ i, i < 43 → KBn K (fdI i) ("self" :: flds i) 1 (flds i).reverse (fun us ws => us ++ ws.reverse) revV) (hr : Room 2 (A.deeper (envOfC "_law_made_a" (defScope s_l_made_a) s.heap.objs.size f (.ref cX)))) :
    PS (cxOf CX0 P w K mg base N_l_made_a "_law_made_a" (defScope s_l_made_a) f (.ref cX) A outer s H E).nox (stm (defBody s_l_made_a) 6) (tDrop (tBM K "list" (rAppendU) (tVar 3) (tCons (tTupU (tCons (tMkV (D.c 5) (spErr (D.c 5) ["thing"]) (tCons (tVar 0) (tNil))) (tCons (tMkKV (D.c 5) (spErr (D.c 5) ["thing"]) revV 1 (tCons (tVar 0) (tNil))) (tCons (tLamW D.PA qA (IsFld ["thing"])) (tCons (tLstB (tCons (tVar 0) (tNil))) (tNil)))))) (tNil)))) := ps_expr (pe_bm PySem.F.plainAttrs_list PySem.F.slot_list_append PySem.F.type_list_append mt_appendU (pv 3) (pa_cons (pe_tupU (pa_cons (pe_oexV (T.ox 5 (by decide)) (Y.ini 5 (by decide)) (Y.tyi 5 (by decide)) (I 5 (by decide)) (hr.mono (by decide)) (B0 5 (by decide)) pass0 rfl (T.g 5 (by decide)) (pa_cons (pv 0) (pa_nil))) (pa_cons (pe_oexKV (ks := ["thing"]) (T.ox 5 (by decide)) (Y.ini 5 (by decide)) (Y.tyi 5 (by decide)) (I 5 (by decide)) (hr.mono (by decide)) (B 5 (by decide)) pass0 rfl (T.g 5 (by decide)) (pk_cons (pv 0) (pk_nil))) (pa_cons (pe_lamW (IsFld ["thing"]) TB rfl (by rfl) (fun c0 => ⟨rfl, fun pm ctv us h => match us, h with | [_], _ => rfl, nscope_by (by rfl), .inl ⟨_, _, _, _, rfl, rfl⟩⟩)) (pa_cons (pe_lstB (pa_cons (pv 0) (pa_nil))) (pa_nil)))))) (pa_nil)))
theorem rw_l_made_a_7 {cX f : Addr} {A : Around} {outer : List Env} {s : Shared} {H : Hp} {E : XK} (T : Txt K mg D) (TB : TabB base mg cX D.PA) {fI : Nat → Addr} {fdI : Nat → FuncData} (Y : TxtI K D fI) (I : ∀ i, i < 43 → FnOk P w K mg base CX0 1 (fI i) (fdI i) ("self" :: flds i) (spErr (D.c i) (flds i))) (B0 : ∀ i, i < 43 → Binds K (fdI i) ("self" :: flds i) []) (B : ∀ i, i < 43 → KBn K (fdI i) ("self" :: flds i) 1 (flds i).reverse (fun us ws => us ++ ws.reverse) revV) (hr : Room 2 (A.deeper (envOfC "_law_made_a" (defScope s_l_made_a) s.heap.objs.size f (.ref cX)))) :
    PS (cxOf CX0 P w K mg base N_l_made_a "_law_made_a" (defScope s_l_made_a) f (.ref cX) A outer s H E).nox (stm (defBody s_l_made_a) 7) (tDrop (tBM K "list" (rAppendU) (tVar 3) (tCons (tTupU (tCons (tMkV (D.c 6) (spErr (D.c 6) ["index"]) (tCons (tVar 0) (tNil))) (tCons (tMkKV (D.c 6) (spErr (D.c 6) ["index"]) revV 1 (tCons (tVar 0) (tNil))) (tCons (tLamW D.PA qA (IsFld ["index"])) (tCons (tLstB (tCons (tVar 0) (tNil))) (tNil)))))) (tNil)))) := ps_expr (pe_bm PySem.F.plainAttrs_list PySem.F.slot_list_append PySem.F.type_list_append mt_appendU (pv 3) (pa_cons (pe_tupU (pa_cons (pe_oexV (T.ox 6 (by decide)) (Y.ini 6 (by decide)) (Y.tyi 6 (by decide)) (I 6 (by decide)) (hr.mono (by decide)) (B0 6 (by decide)) pass0 rfl (T.g 6 (by decide)) (pa_cons (pv 0) (pa_nil))) (pa_cons (pe_oexKV (ks := ["index"]) (T.ox 6 (by decide)) (Y.ini 6 (by decide)) (Y.tyi 6 (by decide)) (I 6 (by decide)) (hr.mono (by decide)) (B 6 (by decide)) pass0 rfl (T.g 6 (by decide)) (pk_cons (pv 0) (pk_nil))) (pa_cons (pe_lamW (IsFld ["index"]) TB rfl (by rfl) (fun c0 => ⟨rfl, fun pm ctv us h => match us, h with | [_], _ => rfl, nscope_by (by rfl), .inl ⟨_, _, _, _, rfl, rfl⟩⟩)) (pa_cons (pe_lstB (pa_cons (pv 0) (pa_nil))) (pa_nil)))))) (pa_nil)))
theorem rw_l_made_a_8 {cX f : Addr} {A : Around} {outer : List Env} {s : Shared} {H : Hp} {E : XK} (T : Txt K mg D) (TB : TabB base mg cX D.PA) {fI : Nat → Addr} {fdI : Nat → FuncData} (Y : TxtI K D fI) (I : ∀ i, i < 43 → FnOk P w K mg base CX0 1 (fI i) (fdI i) ("self" :: flds i) (spErr (D.c i) (flds i))) (B0 : ∀ i, i < 43 → Binds K (fdI i) ("self" :: flds i) []) (B : ∀ i, i < 43 → KBn K (fdI i) ("self" :: flds i) 1 (flds i).reverse (fun us ws => us ++ ws.reverse) revV) (hr : Room 2 (A.deeper (envOfC "_law_made_a" (defScope s_l_made_a) s.heap.objs.size f (.ref cX)))) :
    PS (cxOf CX0 P w K mg base N_l_made_a "_law_made_a" (defScope s_l_made_a) f (.ref cX) A outer s H E).nox (stm (defBody s_l_made_a) 8) (tDrop (tBM K "list" (rAppendU) (tVar 3) (tCons (tTupU (tCons (tMkV (D.c 7) (spErr (D.c 7) ["index"]) (tCons (tVar 0) (tNil))) (tCons (tMkKV (D.c 7) (spErr (D.c 7) ["index"]) revV 1 (tCons (tVar 0) (tNil))) (tCons (tLamW D.PA qA (IsFld ["index"])) (tCons (tLstB (tCons (tVar 0) (tNil))) (tNil)))))) (tNil)))) := ps_expr (pe_bm PySem.F.plainAttrs_list PySem.F.slot_list_append PySem.F.type_list_append mt_appendU (pv 3) (pa_cons (pe_tupU (pa_cons (pe_oexV (T.ox 7 (by decide)) (Y.ini 7 (by decide)) (Y.tyi 7 (by decide)) (I 7 (by decide)) (hr.mono (by decide)) (B0 7 (by decide)) pass0 rfl (T.g 7 (by decide)) (pa_cons (pv 0) (pa_nil))) (pa_cons (pe_oexKV (ks := ["index"]) (T.ox 7 (by decide)) (Y.ini 7 (by decide)) (Y.tyi 7 (by decide)) (I 7 (by decide)) (hr.mono (by decide)) (B 7 (by decide)) pass0 rfl (T.g 7 (by decide)) (pk_cons (pv 0) (pk_nil))) (pa_cons (pe_lamW (IsFld ["index"]) TB rfl (by rfl) (fun c0 => ⟨rfl, fun pm ctv us h => match us, h with | [_], _ => rfl, nscope_by (by rfl), .inl ⟨_, _, _, _, rfl, rfl⟩⟩)) (pa_cons (pe_lstB (pa_cons (pv 0) (pa_nil))) (pa_nil)))))) (pa_nil)))
theorem rw_l_made_a_9 {cX f : Addr} {A : Around} {outer : List Env} {s : Shared} {H : Hp} {E : XK} (T : Txt K mg D) (TB : TabB base mg cX D.PA) {fI : Nat → Addr} {fdI : Nat → FuncData} (Y : TxtI K D fI) (I : ∀ i, i < 43 → FnOk P w K mg base CX0 1 (fI i) (fdI i) ("self" :: flds i) (spErr (D.c i) (flds i))) (B0 : ∀ i, i < 43 → Binds K (fdI i) ("self" :: flds i) []) (B : ∀ i, i < 43 → KBn K (fdI i) ("self" :: flds i) 1 (flds i).reverse (fun us ws => us ++ ws.reverse) revV) (hr : Room 2 (A.deeper (envOfC "_law_made_a" (defScope s_l_made_a) s.heap.objs.size f (.ref cX)))) :
    PS (cxOf CX0 P w K mg base N_l_made_a "_law_made_a" (defScope s_l_made_a) f (.ref cX) A outer s H E).nox (stm (defBody s_l_made_a) 9) (tDrop (tBM K "list" (rAppendU) (tVar 3) (tCons (tTupU (tCons (tMkV (D.c 8) (spErr (D.c 8) ["thing"]) (tCons (tVar 0) (tNil))) (tCons (tMkKV (D.c 8) (spErr (D.c 8) ["thing"]) revV 1 (tCons (tVar 0) (tNil))) (tCons (tLamW D.PA qA (IsFld ["thing"])) (tCons (tLstB (tCons (tVar 0) (tNil))) (tNil)))))) (tNil)))) := ps_expr (pe_bm PySem.F.plainAttrs_list PySem.F.slot_list_append PySem.F.type_list_append mt_appendU (pv 3) (pa_cons (pe_tupU (pa_cons (pe_oexV (T.ox 8 (by decide)) (Y.ini 8 (by decide)) (Y.tyi 8 (by decide)) (I 8 (by decide)) (hr.mono (by decide)) (B0 8 (by decide)) pass0 rfl (T.g 8 (by decide)) (pa_cons (pv 0) (pa_nil))) (pa_cons (pe_oexKV (ks := ["thing"]) (T.ox 8 (by decide)) (Y.ini 8 (by decide)) (Y.tyi 8 (by decide)) (I 8 (by decide)) (hr.mono (by decide)) (B 8 (by decide)) pass0 rfl (T.g 8 (by decide)) (pk_cons (pv 0) (pk_nil))) (pa_cons (pe_lamW (IsFld ["thing"]) TB rfl (by rfl) (fun c0 => ⟨rfl, fun pm ctv us h => match us, h with | [_], _ => rfl, nscope_by (by rfl), .inl ⟨_, _, _, _, rfl, rfl⟩⟩)) (pa_cons (pe_lstB (pa_cons (pv 0) (pa_nil))) (pa_nil)))))) (pa_nil)))
theorem rw_l_made_a_10 {cX f : Addr} {A : Around} {outer : List Env} {s : Shared} {H : Hp} {E : XK} (T : Txt K mg D) (TB : TabB base mg cX D.PA) {fI : Nat → Addr} {fdI : Nat → FuncData} (Y : TxtI K D fI) (I : ∀ i, i < 43 → FnOk P w K mg base CX0 1 (fI i) (fdI i) ("self" :: flds i) (spErr (D.c i) (flds i))) (B0 : ∀ i, i < 43 → Binds K (fdI i) ("self" :: flds i) []) (B : ∀ i, i < 43 → KBn K (fdI i) ("self" :: flds i) 1 (flds i).reverse (fun us ws => us ++ ws.reverse) revV) (hr : Room 2 (A.deeper (envOfC "_law_made_a" (defScope s_l_made_a) s.heap.objs.size f (.ref cX)))) :
    PS (cxOf CX0 P w K mg base N_l_made_a "_law_made_a" (defScope s_l_made_a) f (.ref cX) A outer s H E).nox (stm (defBody s_l_made_a) 10) (tDrop (tBM K "list" (rAppendU) (tVar 3) (tCons (tTupU (tCons (tMkV (D.c 9) (spErr (D.c 9) ["index"]) (tCons (tVar 0) (tNil))) (tCons (tMkKV (D.c 9) (spErr (D.c 9) ["index"]) revV 1 (tCons (tVar 0) (tNil))) (tCons (tLamW D.PA qA (IsFld ["index"])) (tCons (tLstB (tCons (tVar 0) (tNil))) (tNil)))))) (tNil)))) := ps_expr (pe_bm PySem.F.plainAttrs_list PySem.F.slot_list_append PySem.F.type_list_append mt_appendU (pv 3) (pa_cons (pe_tupU (pa_cons (pe_oexV (T.ox 9 (by decide)) (Y.ini 9 (by decide)) (Y.tyi 9 (by decide)) (I 9 (by decide)) (hr.mono (by decide)) (B0 9 (by decide)) pass0 rfl (T.g 9 (by decide)) (pa_cons (pv 0) (pa_nil))) (pa_cons (pe_oexKV (ks := ["index"]) (T.ox 9 (by decide)) (Y.ini 9 (by decide)) (Y.tyi 9 (by decide)) (I 9 (by decide)) (hr.mono (by decide)) (B 9 (by decide)) pass0 rfl (T.g 9 (by decide)) (pk_cons (pv 0) (pk_nil))) (pa_cons (pe_lamW (IsFld ["index"]) TB rfl (by rfl) (fun c0 => ⟨rfl, fun pm ctv us h => match us, h with | [_], _ => rfl, nscope_by (by rfl), .inl ⟨_, _, _, _, rfl, rfl⟩⟩)) (pa_cons (pe_lstB (pa_cons (pv 0) (pa_nil))) (pa_nil)))))) (pa_nil)))
theorem rw_l_made_a_11 {cX f : Addr} {A : Around} {outer : List Env} {s : Shared} {H : Hp} {E : XK} (T : Txt K mg D) (TB : TabB base mg cX D.PA) {fI : Nat → Addr} {fdI : Nat → FuncData} (Y : TxtI K D fI) (I : ∀ i, i < 43 → FnOk P w K mg base CX0 1 (fI i) (fdI i) ("self" :: flds i) (spErr (D.c i) (flds i))) (B0 : ∀ i, i < 43 → Binds K (fdI i) ("self" :: flds i) []) (B : ∀ i, i < 43 → KBn K (fdI i) ("self" :: flds i) 1 (flds i).reverse (fun us ws => us ++ ws.reverse) revV) (hr : Room 2 (A.deeper (envOfC "_law_made_a" (defScope s_l_made_a) s.heap.objs.size f (.ref cX)))) :
    PS (cxOf CX0 P w K mg base N_l_made_a "_law_made_a" (defScope s_l_made_a) f (.ref cX) A outer s H E).nox (stm (defBody s_l_made_a) 11) (tDrop (tBM K "list" (rAppendU) (tVar 3) (tCons (tTupU (tCons (tMkV (D.c 10) (spErr (D.c 10) ["index"]) (tCons (tVar 0) (tNil))) (tCons (tMkKV (D.c 10) (spErr (D.c 10) ["index"]) revV 1 (tCons (tVar 0) (tNil))) (tCons (tLamW D.PA qA (IsFld ["index"])) (tCons (tLstB (tCons (tVar 0) (tNil))) (tNil)))))) (tNil)))) := ps_expr (pe_bm PySem.F.plainAttrs_list PySem.F.slot_list_append PySem.F.type_list_append mt_appendU (pv 3) (pa_cons (pe_tupU (pa_cons (pe_oexV (T.ox 10 (by decide)) (Y.ini 10 (by decide)) (Y.tyi 10 (by decide)) (I 10 (by decide)) (hr.mono (by decide)) (B0 10 (by decide)) pass0 rfl (T.g 10 (by decide)) (pa_cons (pv 0) (pa_nil))) (pa_cons (pe_oexKV (ks := ["index"]) (T.ox 10 (by decide)) (Y.ini 10 (by decide)) (Y.tyi 10 (by decide)) (I 10 (by decide)) (hr.mono (by decide)) (B 10 (by decide)) pass0 rfl (T.g 10 (by decide)) (pk_cons (pv 0) (pk_nil))) (pa_cons (pe_lamW (IsFld ["index"]) TB rfl (by rfl) (fun c0 => ⟨rfl, fun pm ctv us h => match us, h with | [_], _ => rfl, nscope_by (by rfl), .inl ⟨_, _, _, _, rfl, rfl⟩⟩)) (pa_cons (pe_lstB (pa_cons (pv 0) (pa_nil))) (pa_nil)))))) (pa_nil)))
theorem rw_l_made_a_12 {cX f : Addr} {A : Around} {outer : List Env} {s : Shared} {H : Hp} {E : XK} (T : Txt K mg D) (TB : TabB base mg cX D.PA) {fI : Nat → Addr} {fdI : Nat → FuncData} (Y : TxtI K D fI) (I : ∀ i, i < 43 → FnOk P w K mg base CX0 1 (fI i) (fdI i) ("self" :: flds i) (spErr (D.c i) (flds i))) (B0 : ∀ i, i < 43 → Binds K (fdI i) ("self" :: flds i) []) (B : ∀ i, i < 43 → KBn K (fdI i) ("self" :: flds i) 1 (flds i).reverse (fun us ws => us ++ ws.reverse) revV) (hr : Room 2 (A.deeper (envOfC "_law_made_a" (defScope s_l_made_a) s.heap.objs.size f (.ref cX)))) :
    PS (cxOf CX0 P w K mg base N_l_made_a "_law_made_a" (defScope s_l_made_a) f (.ref cX) A outer s H E).nox (stm (defBody s_l_made_a) 12) (tDrop (tBM K "list" (rAppendU) (tVar 3) (tCons (tTupU (tCons (tMkV (D.c 11) (spErr (D.c 11) ["thing"]) (tCons (tVar 0) (tNil))) (tCons (tMkKV (D.c 11) (spErr (D.c 11) ["thing"]) revV 1 (tCons (tVar 0) (tNil))) (tCons (tLamW D.PA qA (IsFld ["thing"])) (tCons (tLstB (tCons (tVar 0) (tNil))) (tNil)))))) (tNil)))) := ps_expr (pe_bm PySem.F.plainAttrs_list PySem.F.slot_list_append PySem.F.type_list_append mt_appendU (pv 3) (pa_cons (pe_tupU (pa_cons (pe_oexV (T.ox 11 (by decide)) (Y.ini 11 (by decide)) (Y.tyi 11 (by decide)) (I 11 (by decide)) (hr.mono (by decide)) (B0 11 (by decide)) pass0 rfl (T.g 11 (by decide)) (pa_cons (pv 0) (pa_nil))) (pa_cons (pe_oexKV (ks := ["thing"]) (T.ox 11 (by decide)) (Y.ini 11 (by decide)) (Y.tyi 11 (by decide)) (I 11 (by decide)) (hr.mono (by decide)) (B 11 (by decide)) pass0 rfl (T.g 11 (by decide)) (pk_cons (pv 0) (pk_nil))) (pa_cons (pe_lamW (IsFld ["thing"]) TB rfl (by rfl) (fun c0 => ⟨rfl, fun pm ctv us h => match us, h with | [_], _ => rfl, nscope_by (by rfl), .inl ⟨_, _, _, _, rfl, rfl⟩⟩)) (pa_cons (pe_lstB (pa_cons (pv 0) (pa_nil))) (pa_nil)))))) (pa_nil)))
theorem rw_l_made_a_13 {cX f : Addr} {A : Around} {outer : List Env} {s : Shared} {H : Hp} {E : XK} (T : Txt K mg D) (TB : TabB base mg cX D.PA) {fI : Nat → Addr} {fdI : Nat → FuncData} (Y : TxtI K D fI) (I : ∀ i, i < 43 → FnOk P w K mg base CX0 1 (fI i) (fdI i) ("self" :: flds i) (spErr (D.c i) (flds i))) (B0 : ∀ i, i < 43 → Binds K (fdI i) ("self" :: flds i) []) (B : ∀ i, i < 43 → KBn K (fdI i) ("self" :: flds i) 1 (flds i).reverse (fun us ws => us ++ ws.reverse) revV) (hr : Room 2 (A.deeper (envOfC "_law_made_a" (defScope s_l_made_a) s.heap.objs.size f (.ref cX)))) :
    PS (cxOf CX0 P w K mg base N_l_made_a "_law_made_a" (defScope s_l_made_a) f (.ref cX) A outer s H E).nox (stm (defBody s_l_made_a) 13) (tDrop (tBM K "list" (rAppendU) (tVar 3) (tCons (tTupU (tCons (tMkV (D.c 12) (spErr (D.c 12) ["thing"]) (tCons (tVar 0) (tNil))) (tCons (tMkKV (D.c 12) (spErr (D.c 12) ["thing"]) revV 1 (tCons (tVar 0) (tNil))) (tCons (tLamW D.PA qA (IsFld ["thing"])) (tCons (tLstB (tCons (tVar 0) (tNil))) (tNil)))))) (tNil)))) := ps_expr (pe_bm PySem.F.plainAttrs_list PySem.F.slot_list_append PySem.F.type_list_append mt_appendU (pv 3) (pa_cons (pe_tupU (pa_cons (pe_oexV (T.ox 12 (by decide)) (Y.ini 12 (by decide)) (Y.tyi 12 (by decide)) (I 12 (by decide)) (hr.mono (by decide)) (B0 12 (by decide)) pass0 rfl (T.g 12 (by decide)) (pa_cons (pv 0) (pa_nil))) (pa_cons (pe_oexKV (ks := ["thing"]) (T.ox 12 (by decide)) (Y.ini 12 (by decide)) (Y.tyi 12 (by decide)) (I 12 (by decide)) (hr.mono (by decide)) (B 12 (by decide)) pass0 rfl (T.g 12 (by decide)) (pk_cons (pv 0) (pk_nil))) (pa_cons (pe_lamW (IsFld ["thing"]) TB rfl (by rfl) (fun c0 => ⟨rfl, fun pm ctv us h => match us, h with | [_], _ => rfl, nscope_by (by rfl), .inl ⟨_, _, _, _, rfl, rfl⟩⟩)) (pa_cons (pe_lstB (pa_cons (pv 0) (pa_nil))) (pa_nil)))))) (pa_nil)))
theorem rw_l_made_a_14 {cX f : Addr} {A : Around} {outer : List Env} {s : Shared} {H : Hp} {E : XK} (T : Txt K mg D) (TB : TabB base mg cX D.PA) {fI : Nat → Addr} {fdI : Nat → FuncData} (Y : TxtI K D fI) (I : ∀ i, i < 43 → FnOk P w K mg base CX0 1 (fI i) (fdI i) ("self" :: flds i) (spErr (D.c i) (flds i))) (B0 : ∀ i, i < 43 → Binds K (fdI i) ("self" :: flds i) []) (B : ∀ i, i < 43 → KBn K (fdI i) ("self" :: flds i) 1 (flds i).reverse (fun us ws => us ++ ws.reverse) revV) (hr : Room 2 (A.deeper (envOfC "_law_made_a" (defScope s_l_made_a) s.heap.objs.size f (.ref cX)))) :
    PS (cxOf CX0 P w K mg base N_l_made_a "_law_made_a" (defScope s_l_made_a) f (.ref cX) A outer s H E).nox (stm (defBody s_l_made_a) 14) (tDrop (tBM K "list" (rAppendU) (tVar 3) (tCons (tTupU (tCons (tMkV (D.c 13) (spErr (D.c 13) ["thing"]) (tCons (tVar 0) (tNil))) (tCons (tMkKV (D.c 13) (spErr (D.c 13) ["thing"]) revV 1 (tCons (tVar 0) (tNil))) (tCons (tLamW D.PA qA (IsFld ["thing"])) (tCons (tLstB (tCons (tVar 0) (tNil))) (tNil)))))) (tNil)))) := ps_expr (pe_bm PySem.F.plainAttrs_list PySem.F.slot_list_append PySem.F.type_list_append mt_appendU (pv 3) (pa_cons (pe_tupU (pa_cons (pe_oexV (T.ox 13 (by decide)) (Y.ini 13 (by decide)) (Y.tyi 13 (by decide)) (I 13 (by decide)) (hr.mono (by decide)) (B0 13 (by decide)) pass0 rfl (T.g 13 (by decide)) (pa_cons (pv 0) (pa_nil))) (pa_cons (pe_oexKV (ks := ["thing"]) (T.ox 13 (by decide)) (Y.ini 13 (by decide)) (Y.tyi 13 (by decide)) (I 13 (by decide)) (hr.mono (by decide)) (B 13 (by decide)) pass0 rfl (T.g 13 (by decide)) (pk_cons (pv 0) (pk_nil))) (pa_cons (pe_lamW (IsFld ["thing"]) TB rfl (by rfl) (fun c0 => ⟨rfl, fun pm ctv us h => match us, h with | [_], _ => rfl, nscope_by (by rfl), .inl ⟨_, _, _, _, rfl, rfl⟩⟩)) (pa_cons (pe_lstB (pa_cons (pv 0) (pa_nil))) (pa_nil)))))) (pa_nil)))
theorem rw_l_made_a_15 {cX f : Addr} {A : Around} {outer : List Env} {s : Shared} {H : Hp} {E : XK} (T : Txt K mg D) (TB : TabB base mg cX D.PA) {fI : Nat → Addr} {fdI : Nat → FuncData} (Y : TxtI K D fI) (I : ∀ i, i < 43 → FnOk P w K mg base CX0 1 (fI i) (fdI i) ("self" :: flds i) (spErr (D.c i) (flds i))) (B0 : ∀ i, i < 43 → Binds K (fdI i) ("self" :: flds i) []) (B : ∀ i, i < 43 → KBn K (fdI i) ("self" :: flds i) 1 (flds i).reverse (fun us ws => us ++ ws.reverse) revV) (hr : Room 2 (A.deeper (envOfC "_law_made_a" (defScope s_l_made_a) s.heap.objs.size f (.ref cX)))) :
    PS (cxOf CX0 P w K mg base N_l_made_a "_law_made_a" (defScope s_l_made_a) f (.ref cX) A outer s H E).nox (stm (defBody s_l_made_a) 15) (tDrop (tBM K "list" (rAppendU) (tVar 3) (tCons (tTupU (tCons (tMkV (D.c 14) (spErr (D.c 14) ["index"]) (tCons (tVar 0) (tNil))) (tCons (tMkKV (D.c 14) (spErr (D.c 14) ["index"]) revV 1 (tCons (tVar 0) (tNil))) (tCons (tLamW D.PA qA (IsFld ["index"])) (tCons (tLstB (tCons (tVar 0) (tNil))) (tNil)))))) (tNil)))) := ps_expr (pe_bm PySem.F.plainAttrs_list PySem.F.slot_list_append PySem.F.type_list_append mt_appendU (pv 3) (pa_cons (pe_tupU (pa_cons (pe_oexV (T.ox 14 (by decide)) (Y.ini 14 (by decide)) (Y.tyi 14 (by decide)) (I 14 (by decide)) (hr.mono (by decide)) (B0 14 (by decide)) pass0 rfl (T.g 14 (by decide)) (pa_cons (pv 0) (pa_nil))) (pa_cons (pe_oexKV (ks := ["index"]) (T.ox 14 (by decide)) (Y.ini 14 (by decide)) (Y.tyi 14 (by decide)) (I 14 (by decide)) (hr.mono (by decide)) (B 14 (by decide)) pass0 rfl (T.g 14 (by decide)) (pk_cons (pv 0) (pk_nil))) (pa_cons (pe_lamW (IsFld ["index"]) TB rfl (by rfl) (fun c0 => ⟨rfl, fun pm ctv us h => match us, h with | [_], _ => rfl, nscope_by (by rfl), .inl ⟨_, _, _, _, rfl, rfl⟩⟩)) (pa_cons (pe_lstB (pa_cons (pv 0) (pa_nil))) (pa_nil)))))) (pa_nil)))
theorem rw_l_made_a_16 {cX f : Addr} {A : Around} {outer : List Env} {s : Shared} {H : Hp} {E : XK} (T : Txt K mg D) (TB : TabB base mg cX D.PA) {fI : Nat → Addr} {fdI : Nat → FuncData} (Y : TxtI K D fI) (I : ∀ i, i < 43 → FnOk P w K mg base CX0 1 (fI i) (fdI i) ("self" :: flds i) (spErr (D.c i) (flds i))) (B0 : ∀ i, i < 43 → Binds K (fdI i) ("self" :: flds i) []) (B : ∀ i, i < 43 → KBn K (fdI i) ("self" :: flds i) 1 (flds i).reverse (fun us ws => us ++ ws.reverse) revV) (hr : Room 2 (A.deeper (envOfC "_law_made_a" (defScope s_l_made_a) s.heap.objs.size f (.ref cX)))) :
    PS (cxOf CX0 P w K mg base N_l_made_a "_law_made_a" (defScope s_l_made_a) f (.ref cX) A outer s H E).nox (stm (defBody s_l_made_a) 16) (tDrop (tBM K "list" (rAppendU) (tVar 3) (tCons (tTupU (tCons (tMkV (D.c 15) (spErr (D.c 15) ["thing"]) (tCons (tVar 0) (tNil))) (tCons (tMkKV (D.c 15) (spErr (D.c 15) ["thing"]) revV 1 (tCons (tVar 0) (tNil))) (tCons (tLamW D.PA qA (IsFld ["thing"])) (tCons (tLstB (tCons (tVar 0) (tNil))) (tNil)))))) (tNil)))) := ps_expr (pe_bm PySem.F.plainAttrs_list PySem.F.slot_list_append PySem.F.type_list_append mt_appendU (pv 3) (pa_cons (pe_tupU (pa_cons (pe_oexV (T.ox 15 (by decide)) (Y.ini 15 (by decide)) (Y.tyi 15 (by decide)) (I 15 (by decide)) (hr.mono (by decide)) (B0 15 (by decide)) pass0 rfl (T.g 15 (by decide)) (pa_cons (pv 0) (pa_nil))) (pa_cons (pe_oexKV (ks := ["thing"]) (T.ox 15 (by decide)) (Y.ini 15 (by decide)) (Y.tyi 15 (by decide)) (I 15 (by decide)) (hr.mono (by decide)) (B 15 (by decide)) pass0 rfl (T.g 15 (by decide)) (pk_cons (pv 0) (pk_nil))) (pa_cons (pe_lamW (IsFld ["thing"]) TB rfl (by rfl) (fun c0 => ⟨rfl, fun pm ctv us h => match us, h with | [_], _ => rfl, nscope_by (by rfl), .inl ⟨_, _, _, _, rfl, rfl⟩⟩)) (pa_cons (pe_lstB (pa_cons (pv 0) (pa_nil))) (pa_nil)))))) (pa_nil)))
theorem rw_l_made_a_17 {cX f : Addr} {A : Around} {outer : List Env} {s : Shared} {H : Hp} {E : XK} (T : Txt K mg D) (TB : TabB base mg cX D.PA) {fI : Nat → Addr} {fdI : Nat → FuncData} (Y : TxtI K D fI) (I : ∀ i, i < 43 → FnOk P w K mg base CX0 1 (fI i) (fdI i) ("self" :: flds i) (spErr (D.c i) (flds i))) (B0 : ∀ i, i < 43 → Binds K (fdI i) ("self" :: flds i) []) (B : ∀ i, i < 43 → KBn K (fdI i) ("self" :: flds i) 1 (flds i).reverse (fun us ws => us ++ ws.reverse) revV) (hr : Room 2 (A.deeper (envOfC "_law_made_a" (defScope s_l_made_a) s.heap.objs.size f (.ref cX)))) :
    PS (cxOf CX0 P w K mg base N_l_made_a "_law_made_a" (defScope s_l_made_a) f (.ref cX) A outer s H E).nox (stm (defBody s_l_made_a) 17) (tDrop (tBM K "list" (rAppendU) (tVar 3) (tCons (tTupU (tCons (tMkV (D.c 16) (spErr (D.c 16) ["thing"]) (tCons (tVar 0) (tNil))) (tCons (tMkKV (D.c 16) (spErr (D.c 16) ["thing"]) revV 1 (tCons (tVar 0) (tNil))) (tCons (tLamW D.PA qA (IsFld ["thing"])) (tCons (tLstB (tCons (tVar 0) (tNil))) (tNil)))))) (tNil)))) := ps_expr (pe_bm PySem.F.plainAttrs_list PySem.F.slot_list_append PySem.F.type_list_append mt_appendU (pv 3) (pa_cons (pe_tupU (pa_cons (pe_oexV (T.ox 16 (by decide)) (Y.ini 16 (by decide)) (Y.tyi 16 (by decide)) (I 16 (by decide)) (hr.mono (by decide)) (B0 16 (by decide)) pass0 rfl (T.g 16 (by decide)) (pa_cons (pv 0) (pa_nil))) (pa_cons (pe_oexKV (ks := ["thing"]) (T.ox 16 (by decide)) (Y.ini 16 (by decide)) (Y.tyi 16 (by decide)) (I 16 (by decide)) (hr.mono (by decide)) (B 16 (by decide)) pass0 rfl (T.g 16 (by decide)) (pk_cons (pv 0) (pk_nil))) (pa_cons (pe_lamW (IsFld ["thing"]) TB rfl (by rfl) (fun c0 => ⟨rfl, fun pm ctv us h => match us, h with | [_], _ => rfl, nscope_by (by rfl), .inl ⟨_, _, _, _, rfl, rfl⟩⟩)) (pa_cons (pe_lstB (pa_cons (pv 0) (pa_nil))) (pa_nil)))))) (pa_nil)))
theorem rw_l_made_a_18 {cX f : Addr} {A : Around} {outer : List Env} {s : Shared} {H : Hp} {E : XK} (T : Txt K mg D) (TB : TabB base mg cX D.PA) {fI : Nat → Addr} {fdI : Nat → FuncData} (Y : TxtI K D fI) (I : ∀ i, i < 43 → FnOk P w K mg base CX0 1 (fI i) (fdI i) ("self" :: flds i) (spErr (D.c i) (flds i))) (B0 : ∀ i, i < 43 → Binds K (fdI i) ("self" :: flds i) []) (B : ∀ i, i < 43 → KBn K (fdI i) ("self" :: flds i) 1 (flds i).reverse (fun us ws => us ++ ws.reverse) revV) (hr : Room 2 (A.deeper (envOfC "_law_made_a" (defScope s_l_made_a) s.heap.objs.size f (.ref cX)))) :
    PS (cxOf CX0 P w K mg base N_l_made_a "_law_made_a" (defScope s_l_made_a) f (.ref cX) A outer s H E).nox (stm (defBody s_l_made_a) 18) (tDrop (tBM K "list" (rAppendU) (tVar 3) (tCons (tTupU (tCons (tMkV (D.c 17) (spErr (D.c 17) ["thing"]) (tCons (tVar 0) (tNil))) (tCons (tMkKV (D.c 17) (spErr (D.c 17) ["thing"]) revV 1 (tCons (tVar 0) (tNil))) (tCons (tLamW D.PA qA (IsFld ["thing"])) (tCons (tLstB (tCons (tVar 0) (tNil))) (tNil)))))) (tNil)))) := ps_expr (pe_bm PySem.F.plainAttrs_list PySem.F.slot_list_append PySem.F.type_list_append mt_appendU (pv 3) (pa_cons (pe_tupU (pa_cons (pe_oexV (T.ox 17 (by decide)) (Y.ini 17 (by decide)) (Y.tyi 17 (by decide)) (I 17 (by decide)) (hr.mono (by decide)) (B0 17 (by decide)) pass0 rfl (T.g 17 (by decide)) (pa_cons (pv 0) (pa_nil))) (pa_cons (pe_oexKV (ks := ["thing"]) (T.ox 17 (by decide)) (Y.ini 17 (by decide)) (Y.tyi 17 (by decide)) (I 17 (by decide)) (hr.mono (by decide)) (B 17 (by decide)) pass0 rfl (T.g 17 (by decide)) (pk_cons (pv 0) (pk_nil))) (pa_cons (pe_lamW (IsFld ["thing"]) TB rfl (by rfl) (fun c0 => ⟨rfl, fun pm ctv us h => match us, h with | [_], _ => rfl, nscope_by (by rfl), .inl ⟨_, _, _, _, rfl, rfl⟩⟩)) (pa_cons (pe_lstB (pa_cons (pv 0) (pa_nil))) (pa_nil)))))) (pa_nil)))
theorem ok_l_made_a {f : Addr} {fd : FuncData} {cX : Addr} (F : FunC K "_law_made_a" "_law_made_a" s_l_made_a f fd cX) (b : Binds K fd ["_law_x", "_law_y", "_law_z"] []) (hf : mg "_law_made_a" = some (.ref f)) (T : Txt K mg D)  (TB : TabB base mg cX D.PA) {fI : Nat → Addr} {fdI : Nat → FuncData} (Y : TxtI K D fI) (I : ∀ i, i < 43 → FnOk P w K mg base CX0 1 (fI i) (fdI i) ("self" :: flds i) (spErr (D.c i) (flds i))) (B0 : ∀ i, i < 43 → Binds K (fdI i) ("self" :: flds i) []) (B : ∀ i, i < 43 → KBn K (fdI i) ("self" :: flds i) 1 (flds i).reverse (fun us ws => us ++ ws.reverse) revV) : Cal P w K mg base 3 "_law_made_a" (spMade D D.PA qA 0 18) [] := by
  refine ⟨f, fd, ["_law_x", "_law_y", "_law_z"], [], F.ok sc_l_made_a (fun vs H Q E h => ?_) (fun A outer s H vs Q E hr h => ⟨t_l_made_a K D, ?_, rd_l_made_a K D h⟩), hf, F.kp, b, .nil⟩
  · unfold spMade at h
    repeat (first | (obtain ⟨rfl, _⟩ := h; rfl) | (obtain ⟨_, h⟩ := h))
  · exact pss_cons (ps_set (i := 3) sc_l_made_a.nd rfl (Or.inl rfl) (pe_lstU (pa_nil)))
      (pss_cons (rw_l_made_a_1 T TB Y I B0 B hr)
      (pss_cons (rw_l_made_a_2 T TB Y I B0 B hr)
      (pss_cons (rw_l_made_a_3 T TB Y I B0 B hr)
      (pss_cons (rw_l_made_a_4 T TB Y I B0 B hr)
      (pss_cons (rw_l_made_a_5 T TB Y I B0 B hr)
      (pss_cons (rw_l_made_a_6 T TB Y I B0 B hr)
      (pss_cons (rw_l_made_a_7 T TB Y I B0 B hr)
      (pss_cons (rw_l_made_a_8 T TB Y I B0 B hr)
      (pss_cons (rw_l_made_a_9 T TB Y I B0 B hr)
      (pss_cons (rw_l_made_a_10 T TB Y I B0 B hr)
      (pss_cons (rw_l_made_a_11 T TB Y I B0 B hr)
      (pss_cons (rw_l_made_a_12 T TB Y I B0 B hr)
      (pss_cons (rw_l_made_a_13 T TB Y I B0 B hr)
      (pss_cons (rw_l_made_a_14 T TB Y I B0 B hr)
      (pss_cons (rw_l_made_a_15 T TB Y I B0 B hr)
      (pss_cons (rw_l_made_a_16 T TB Y I B0 B hr)
      (pss_cons (rw_l_made_a_17 T TB Y I B0 B hr)
      (pss_cons (rw_l_made_a_18 T TB Y I B0 B hr)
      (pss_one (ps_ret (pv 3)))))))))))))))))))))

theorem rw_l_made_b_1 {cX f : Addr} {A : Around} {outer : List Env} {s : Shared} {H : Hp} {E : XK} (T : Txt K mg D) (TB : TabB base mg cX D.PB) {fI : Nat → Addr} {fdI : Nat → FuncData} (Y : TxtI K D fI) (I : ∀ i, i < 43 → FnOk P w K mg base CX0 1 (fI i) (fdI i) ("self" :: flds i) (spErr (D.c i) (flds i))) (B0 : ∀ i, i < 43 → Binds K (fdI i) ("self" :: flds i) []) (B : ∀ i, i < 43 → KBn K (fdI i) ("self" :: flds i) 1 (flds i).reverse (fun us ws => us ++ ws.reverse) revV) (hr : Room 2 (A.deeper (envOfC "_law_made_b" (defScope s_l_made_b) s.heap.objs.size f (.ref cX)))) :
    PS (cxOf CX0 P w K mg base N_l_made_b "_law_made_b" (defScope s_l_made_b) f (.ref cX) A outer s H E).nox (stm (defBody s_l_made_b) 1) (tDrop (tBM K "list" (rAppendU) (tVar 3) (tCons (tTupU (tCons (tMkV (D.c 18) (spErr (D.c 18) ["thing"]) (tCons (tVar 0) (tNil))) (tCons (tMkKV (D.c 18) (spErr (D.c 18) ["thing"]) revV 1 (tCons (tVar 0) (tNil))) (tCons (tLamW D.PB qB (IsFld ["thing"])) (tCons (tLstB (tCons (tVar 0) (tNil))) (tNil)))))) (tNil)))) := ps_expr (pe_bm PySem.F.plainAttrs_list PySem.F.slot_list_append PySem.F.type_list_append mt_appendU (pv 3) (pa_cons (pe_tupU (pa_cons (pe_oexV (T.ox 18 (by decide)) (Y.ini 18 (by decide)) (Y.tyi 18 (by decide)) (I 18 (by decide)) (hr.mono (by decide)) (B0 18 (by decide)) pass0 rfl (T.g 18 (by decide)) (pa_cons (pv 0) (pa_nil))) (pa_cons (pe_oexKV (ks := ["thing"]) (T.ox 18 (by decide)) (Y.ini 18 (by decide)) (Y.tyi 18 (by decide)) (I 18 (by decide)) (hr.mono (by decide)) (B 18 (by decide)) pass0 rfl (T.g 18 (by decide)) (pk_cons (pv 0) (pk_nil))) (pa_cons (pe_lamW (IsFld ["thing"]) TB rfl (by rfl) (fun c0 => ⟨rfl, fun pm ctv us h => match us, h with | [_], _ => rfl, nscope_by (by rfl), .inl ⟨_, _, _, _, rfl, rfl⟩⟩)) (pa_cons (pe_lstB (pa_cons (pv 0) (pa_nil))) (pa_nil)))))) (pa_nil)))
theorem rw_l_made_b_2 {cX f : Addr} {A : Around} {outer : List Env} {s : Shared} {H : Hp} {E : XK} (T : Txt K mg D) (TB : TabB base mg cX D.PB) {fI : Nat → Addr} {fdI : Nat → FuncData} (Y : TxtI K D fI) (I : ∀ i, i < 43 → FnOk P w K mg base CX0 1 (fI i) (fdI i) ("self" :: flds i) (spErr (D.c i) (flds i))) (B0 : ∀ i, i < 43 → Binds K (fdI i) ("self" :: flds i) []) (B : ∀ i, i < 43 → KBn K (fdI i) ("self" :: flds i) 1 (flds i).reverse (fun us ws => us ++ ws.reverse) revV) (hr : Room 2 (A.deeper (envOfC "_law_made_b" (defScope s_l_made_b) s.heap.objs.size f (.ref cX)))) :
    PS (cxOf CX0 P w K mg base N_l_made_b "_law_made_b" (defScope s_l_made_b) f (.ref cX) A outer s H E).nox (stm (defBody s_l_made_b) 2) (tDrop (tBM K "list" (rAppendU) (tVar 3) (tCons (tTupU (tCons (tMkV (D.c 19) (spErr (D.c 19) ["index"]) (tCons (tVar 0) (tNil))) (tCons (tMkKV (D.c 19) (spErr (D.c 19) ["index"]) revV 1 (tCons (tVar 0) (tNil))) (tCons (tLamW D.PB qB (IsFld ["index"])) (tCons (tLstB (tCons (tVar 0) (tNil))) (tNil)))))) (tNil)))) := ps_expr (pe_bm PySem.F.plainAttrs_list PySem.F.slot_list_append PySem.F.type_list_append mt_appendU (pv 3) (pa_cons (pe_tupU (pa_cons (pe_oexV (T.ox 19 (by decide)) (Y.ini 19 (by decide)) (Y.tyi 19 (by decide)) (I 19 (by decide)) (hr.mono (by decide)) (B0 19 (by decide)) pass0 rfl (T.g 19 (by decide)) (pa_cons (pv 0) (pa_nil))) (pa_cons (pe_oexKV (ks := ["index"]) (T.ox 19 (by decide)) (Y.ini 19 (by decide)) (Y.tyi 19 (by decide)) (I 19 (by decide)) (hr.mono (by decide)) (B 19 (by decide)) pass0 rfl (T.g 19 (by decide)) (pk_cons (pv 0) (pk_nil))) (pa_cons (pe_lamW (IsFld ["index"]) TB rfl (by rfl) (fun c0 => ⟨rfl, fun pm ctv us h => match us, h with | [_], _ => rfl, nscope_by (by rfl), .inl ⟨_, _, _, _, rfl, rfl⟩⟩)) (pa_cons (pe_lstB (pa_cons (pv 0) (pa_nil))) (pa_nil)))))) (pa_nil)))
theorem rw_l_made_b_3 {cX f : Addr} {A : Around} {outer : List Env} {s : Shared} {H : Hp} {E : XK} (T : Txt K mg D) (TB : TabB base mg cX D.PB) {fI : Nat → Addr} {fdI : Nat → FuncData} (Y : TxtI K D fI) (I : ∀ i, i < 43 → FnOk P w K mg base CX0 1 (fI i) (fdI i) ("self" :: flds i) (spErr (D.c i) (flds i))) (B0 : ∀ i, i < 43 → Binds K (fdI i) ("self" :: flds i) []) (B : ∀ i, i < 43 → KBn K (fdI i) ("self" :: flds i) 1 (flds i).reverse (fun us ws => us ++ ws.reverse) revV) (hr : Room 2 (A.deeper (envOfC "_law_made_b" (defScope s_l_made_b) s.heap.objs.size f (.ref cX)))) :
    PS (cxOf CX0 P w K mg base N_l_made_b "_law_made_b" (defScope s_l_made_b) f (.ref cX) A outer s H E).nox (stm (defBody s_l_made_b) 3) (tDrop (tBM K "list" (rAppendU) (tVar 3) (tCons (tTupU (tCons (tMkV (D.c 20) (spErr (D.c 20) ["index"]) (tCons (tVar 0) (tNil))) (tCons (tMkKV (D.c 20) (spErr (D.c 20) ["index"]) revV 1 (tCons (tVar 0) (tNil))) (tCons (tLamW D.PB qB (IsFld ["index"])) (tCons (tLstB (tCons (tVar 0) (tNil))) (tNil)))))) (tNil)))) := ps_expr (pe_bm PySem.F.plainAttrs_list PySem.F.slot_list_append PySem.F.type_list_append mt_appendU (pv 3) (pa_cons (pe_tupU (pa_cons (pe_oexV (T.ox 20 (by decide)) (Y.ini 20 (by decide)) (Y.tyi 20 (by decide)) (I 20 (by decide)) (hr.mono (by decide)) (B0 20 (by decide)) pass0 rfl (T.g 20 (by decide)) (pa_cons (pv 0) (pa_nil))) (pa_cons (pe_oexKV (ks := ["index"]) (T.ox 20 (by decide)) (Y.ini 20 (by decide)) (Y.tyi 20 (by decide)) (I 20 (by decide)) (hr.mono (by decide)) (B 20 (by decide)) pass0 rfl (T.g 20 (by decide)) (pk_cons (pv 0) (pk_nil))) (pa_cons (pe_lamW (IsFld ["index"]) TB rfl (by rfl) (fun c0 => ⟨rfl, fun pm ctv us h => match us, h with | [_], _ => rfl, nscope_by (by rfl), .inl ⟨_, _, _, _, rfl, rfl⟩⟩)) (pa_cons (pe_lstB (pa_cons (pv 0) (pa_nil))) (pa_nil)))))) (pa_nil)))
theorem rw_l_made_b_4 {cX f : Addr} {A : Around} {outer : List Env} {s : Shared} {H : Hp} {E : XK} (T : Txt K mg D) (TB : TabB base mg cX D.PB) {fI : Nat → Addr} {fdI : Nat → FuncData} (Y : TxtI K D fI) (I : ∀ i, i < 43 → FnOk P w K mg base CX0 1 (fI i) (fdI i) ("self" :: flds i) (spErr (D.c i) (flds i))) (B0 : ∀ i, i < 43 → Binds K (fdI i) ("self" :: flds i) []) (B : ∀ i, i < 43 → KBn K (fdI i) ("self" :: flds i) 1 (flds i).reverse (fun us ws => us ++ ws.reverse) revV) (hr : Room 2 (A.deeper (envOfC "_law_made_b" (defScope s_l_made_b) s.heap.objs.size f (.ref cX)))) :
    PS (cxOf CX0 P w K mg base N_l_made_b "_law_made_b" (defScope s_l_made_b) f (.ref cX) A outer s H E).nox (stm (defBody s_l_made_b) 4) (tDrop (tBM K "list" (rAppendU) (tVar 3) (tCons (tTupU (tCons (tMkV (D.c 21) (spErr (D.c 21) ["index"]) (tCons (tVar 0) (tNil))) (tCons (tMkKV (D.c 21) (spErr (D.c 21) ["index"]) revV 1 (tCons (tVar 0) (tNil))) (tCons (tLamW D.PB qB (IsFld ["index"])) (tCons (tLstB (tCons (tVar 0) (tNil))) (tNil)))))) (tNil)))) := ps_expr (pe_bm PySem.F.plainAttrs_list PySem.F.slot_list_append PySem.F.type_list_append mt_appendU (pv 3) (pa_cons (pe_tupU (pa_cons (pe_oexV (T.ox 21 (by decide)) (Y.ini 21 (by decide)) (Y.tyi 21 (by decide)) (I 21 (by decide)) (hr.mono (by decide)) (B0 21 (by decide)) pass0 rfl (T.g 21 (by decide)) (pa_cons (pv 0) (pa_nil))) (pa_cons (pe_oexKV (ks := ["index"]) (T.ox 21 (by decide)) (Y.ini 21 (by decide)) (Y.tyi 21 (by decide)) (I 21 (by decide)) (hr.mono (by decide)) (B 21 (by decide)) pass0 rfl (T.g 21 (by decide)) (pk_cons (pv 0) (pk_nil))) (pa_cons (pe_lamW (IsFld ["index"]) TB rfl (by rfl) (fun c0 => ⟨rfl, fun pm ctv us h => match us, h with | [_], _ => rfl, nscope_by (by rfl), .inl ⟨_, _, _, _, rfl, rfl⟩⟩)) (pa_cons (pe_lstB (pa_cons (pv 0) (pa_nil))) (pa_nil)))))) (pa_nil)))
theorem rw_l_made_b_5 {cX f : Addr} {A : Around} {outer : List Env} {s : Shared} {H : Hp} {E : XK} (T : Txt K mg D) (TB : TabB base mg cX D.PB) {fI : Nat → Addr} {fdI : Nat → FuncData} (Y : TxtI K D fI) (I : ∀ i, i < 43 → FnOk P w K mg base CX0 1 (fI i) (fdI i) ("self" :: flds i) (spErr (D.c i) (flds i))) (B0 : ∀ i, i < 43 → Binds K (fdI i) ("self" :: flds i) []) (B : ∀ i, i < 43 → KBn K (fdI i) ("self" :: flds i) 1 (flds i).reverse (fun us ws => us ++ ws.reverse) revV) (hr : Room 2 (A.deeper (envOfC "_law_made_b" (defScope s_l_made_b) s.heap.objs.size f (.ref cX)))) :
    PS (cxOf CX0 P w K mg base N_l_made_b "_law_made_b" (defScope s_l_made_b) f (.ref cX) A outer s H E).nox (stm (defBody s_l_made_b) 5) (tDrop (tBM K "list" (rAppendU) (tVar 3) (tCons (tTupU (tCons (tMkV (D.c 22) (spErr (D.c 22) ["index"]) (tCons (tVar 0) (tNil))) (tCons (tMkKV (D.c 22) (spErr (D.c 22) ["index"]) revV 1 (tCons (tVar 0) (tNil))) (tCons (tLamW D.PB qB (IsFld ["index"])) (tCons (tLstB (tCons (tVar 0) (tNil))) (tNil)))))) (tNil)))) := ps_expr (pe_bm PySem.F.plainAttrs_list PySem.F.slot_list_append PySem.F.type_list_append mt_appendU (pv 3) (pa_cons (pe_tupU (pa_cons (pe_oexV (T.ox 22 (by decide)) (Y.ini 22 (by decide)) (Y.tyi 22 (by decide)) (I 22 (by decide)) (hr.mono (by decide)) (B0 22 (by decide)) pass0 rfl (T.g 22 (by decide)) (pa_cons (pv 0) (pa_nil))) (pa_cons (pe_oexKV (ks := ["index"]) (T.ox 22 (by decide)) (Y.ini 22 (by decide)) (Y.tyi 22 (by decide)) (I 22 (by decide)) (hr.mono (by decide)) (B 22 (by decide)) pass0 rfl (T.g 22 (by decide)) (pk_cons (pv 0) (pk_nil))) (pa_cons (pe_lamW (IsFld ["index"]) TB rfl (by rfl) (fun c0 => ⟨rfl, fun pm ctv us h => match us, h with | [_], _ => rfl, nscope_by (by rfl), .inl ⟨_, _, _, _, rfl, rfl⟩⟩)) (pa_cons (pe_lstB (pa_cons (pv 0) (pa_nil))) (pa_nil)))))) (pa_nil)))
theorem rw_l_made_b_6 {cX f : Addr} {A : Around} {outer : List Env} {s : Shared} {H : Hp} {E : XK} (T : Txt K mg D) (TB : TabB base mg cX D.PB) {fI : Nat → Addr} {fdI : Nat → FuncData} (Y : TxtI K D fI) (I : ∀ i, i < 43 → FnOk P w K mg base CX0 1 (fI i) (fdI i) ("self" :: flds i) (spErr (D.c i) (flds i))) (B0 : ∀ i, i < 43 → Binds K (fdI i) ("self" :: flds i) []) (B : ∀ i, i < 43 → KBn K (fdI i) ("self" :: flds i) 1 (flds i).reverse (fun us ws => us ++ ws.reverse) revV) (hr : Room 2 (A.deeper (envOfC "_law_made_b" (defScope s_l_made_b) s.heap.objs.size f (.ref cX)))) :
    PS (cxOf CX0 P w K mg base N_l_made_b "_law_made_b" (defScope s_l_made_b) f (.ref cX) A outer s H E).nox (stm (defBody s_l_made_b) 6) (tDrop (tBM K "list" (rAppendU) (tVar 3) (tCons (tTupU (tCons (tMkV (D.c 23) (spErr (D.c 23) ["thing"]) (tCons (tVar 0) (tNil))) (tCons (tMkKV (D.c 23) (spErr (D.c 23) ["thing"]) revV 1 (tCons (tVar 0) (tNil))) (tCons (tLamW D.PB qB (IsFld ["thing"])) (tCons (tLstB (tCons (tVar 0) (tNil))) (tNil)))))) (tNil)))) := ps_expr (pe_bm PySem.F.plainAttrs_list PySem.F.slot_list_append PySem.F.type_list_append mt_appendU (pv 3) (pa_cons (pe_tupU (pa_cons (pe_oexV (T.ox 23 (by decide)) (Y.ini 23 (by decide)) (Y.tyi 23 (by decide)) (I 23 (by decide)) (hr.mono (by decide)) (B0 23 (by decide)) pass0 rfl (T.g 23 (by decide)) (pa_cons (pv 0) (pa_nil))) (pa_cons (pe_oexKV (ks := ["thing"]) (T.ox 23 (by decide)) (Y.ini 23 (by decide)) (Y.tyi 23 (by decide)) (I 23 (by decide)) (hr.mono (by decide)) (B 23 (by decide)) pass0 rfl (T.g 23 (by decide)) (pk_cons (pv 0) (pk_nil))) (pa_cons (pe_lamW (IsFld ["thing"]) TB rfl (by rfl) (fun c0 => ⟨rfl, fun pm ctv us h => match us, h with | [_], _ => rfl, nscope_by (by rfl), .inl ⟨_, _, _, _, rfl, rfl⟩⟩)) (pa_cons (pe_lstB (pa_cons (pv 0) (pa_nil))) (pa_nil)))))) (pa_nil)))
theorem rw_l_made_b_7 {cX f : Addr} {A : Around} {outer : List Env} {s : Shared} {H : Hp} {E : XK} (T : Txt K mg D) (TB : TabB base mg cX D.PB) {fI : Nat → Addr} {fdI : Nat → FuncData} (Y : TxtI K D fI) (I : ∀ i, i < 43 → FnOk P w K mg base CX0 1 (fI i) (fdI i) ("self" :: flds i) (spErr (D.c i) (flds i))) (B0 : ∀ i, i < 43 → Binds K (fdI i) ("self" :: flds i) []) (B : ∀ i, i < 43 → KBn K (fdI i) ("self" :: flds i) 1 (flds i).reverse (fun us ws => us ++ ws.reverse) revV) (hr : Room 2 (A.deeper (envOfC "_law_made_b" (defScope s_l_made_b) s.heap.objs.size f (.ref cX)))) :
    PS (cxOf CX0 P w K mg base N_l_made_b "_law_made_b" (defScope s_l_made_b) f (.ref cX) A outer s H E).nox (stm (defBody s_l_made_b) 7) (tDrop (tBM K "list" (rAppendU) (tVar 3) (tCons (tTupU (tCons (tMkV (D.c 24) (spErr (D.c 24) ["index"]) (tCons (tVar 0) (tNil))) (tCons (tMkKV (D.c 24) (spErr (D.c 24) ["index"]) revV 1 (tCons (tVar 0) (tNil))) (tCons (tLamW D.PB qB (IsFld ["index"])) (tCons (tLstB (tCons (tVar 0) (tNil))) (tNil)))))) (tNil)))) := ps_expr (pe_bm PySem.F.plainAttrs_list PySem.F.slot_list_append PySem.F.type_list_append mt_appendU (pv 3) (pa_cons (pe_tupU (pa_cons (pe_oexV (T.ox 24 (by decide)) (Y.ini 24 (by decide)) (Y.tyi 24 (by decide)) (I 24 (by decide)) (hr.mono (by decide)) (B0 24 (by decide)) pass0 rfl (T.g 24 (by decide)) (pa_cons (pv 0) (pa_nil))) (pa_cons (pe_oexKV (ks := ["index"]) (T.ox 24 (by decide)) (Y.ini 24 (by decide)) (Y.tyi 24 (by decide)) (I 24 (by decide)) (hr.mono (by decide)) (B 24 (by decide)) pass0 rfl (T.g 24 (by decide)) (pk_cons (pv 0) (pk_nil))) (pa_cons (pe_lamW (IsFld ["index"]) TB rfl (by rfl) (fun c0 => ⟨rfl, fun pm ctv us h => match us, h with | [_], _ => rfl, nscope_by (by rfl), .inl ⟨_, _, _, _, rfl, rfl⟩⟩)) (pa_cons (pe_lstB (pa_cons (pv 0) (pa_nil))) (pa_nil)))))) (pa_nil)))
theorem rw_l_made_b_8 {cX f : Addr} {A : Around} {outer : List Env} {s : Shared} {H : Hp} {E : XK} (T : Txt K mg D) (TB : TabB base mg cX D.PB) {fI : Nat → Addr} {fdI : Nat → FuncData} (Y : TxtI K D fI) (I : ∀ i, i < 43 → FnOk P w K mg base CX0 1 (fI i) (fdI i) ("self" :: flds i) (spErr (D.c i) (flds i))) (B0 : ∀ i, i < 43 → Binds K (fdI i) ("self" :: flds i) []) (B : ∀ i, i < 43 → KBn K (fdI i) ("self" :: flds i) 1 (flds i).reverse (fun us ws => us ++ ws.reverse) revV) (hr : Room 2 (A.deeper (envOfC "_law_made_b" (defScope s_l_made_b) s.heap.objs.size f (.ref cX)))) :
    PS (cxOf CX0 P w K mg base N_l_made_b "_law_made_b" (defScope s_l_made_b) f (.ref cX) A outer s H E).nox (stm (defBody s_l_made_b) 8) (tDrop (tBM K "list" (rAppendU) (tVar 3) (tCons (tTupU (tCons (tMkV (D.c 25) (spErr (D.c 25) ["thing"]) (tCons (tVar 0) (tNil))) (tCons (tMkKV (D.c 25) (spErr (D.c 25) ["thing"]) revV 1 (tCons (tVar 0) (tNil))) (tCons (tLamW D.PB qB (IsFld ["thing"])) (tCons (tLstB (tCons (tVar 0) (tNil))) (tNil)))))) (tNil)))) := ps_expr (pe_bm PySem.F.plainAttrs_list PySem.F.slot_list_append PySem.F.type_list_append mt_appendU (pv 3) (pa_cons (pe_tupU (pa_cons (pe_oexV (T.ox 25 (by decide)) (Y.ini 25 (by decide)) (Y.tyi 25 (by decide)) (I 25 (by decide)) (hr.mono (by decide)) (B0 25 (by decide)) pass0 rfl (T.g 25 (by decide)) (pa_cons (pv 0) (pa_nil))) (pa_cons (pe_oexKV (ks := ["thing"]) (T.ox 25 (by decide)) (Y.ini 25 (by decide)) (Y.tyi 25 (by decide)) (I 25 (by decide)) (hr.mono (by decide)) (B 25 (by decide)) pass0 rfl (T.g 25 (by decide)) (pk_cons (pv 0) (pk_nil))) (pa_cons (pe_lamW (IsFld ["thing"]) TB rfl (by rfl) (fun c0 => ⟨rfl, fun pm ctv us h => match us, h with | [_], _ => rfl, nscope_by (by rfl), .inl ⟨_, _, _, _, rfl, rfl⟩⟩)) (pa_cons (pe_lstB (pa_cons (pv 0) (pa_nil))) (pa_nil)))))) (pa_nil)))
theorem rw_l_made_b_9 {cX f : Addr} {A : Around} {outer : List Env} {s : Shared} {H : Hp} {E : XK} (T : Txt K mg D) (TB : TabB base mg cX D.PB) {fI : Nat → Addr} {fdI : Nat → FuncData} (Y : TxtI K D fI) (I : ∀ i, i < 43 → FnOk P w K mg base CX0 1 (fI i) (fdI i) ("self" :: flds i) (spErr (D.c i) (flds i))) (B0 : ∀ i, i < 43 → Binds K (fdI i) ("self" :: flds i) []) (B : ∀ i, i < 43 → KBn K (fdI i) ("self" :: flds i) 1 (flds i).reverse (fun us ws => us ++ ws.reverse) revV) (hr : Room 2 (A.deeper (envOfC "_law_made_b" (defScope s_l_made_b) s.heap.objs.size f (.ref cX)))) :
    PS (cxOf CX0 P w K mg base N_l_made_b "_law_made_b" (defScope s_l_made_b) f (.ref cX) A outer s H E).nox (stm (defBody s_l_made_b) 9) (tDrop (tBM K "list" (rAppendU) (tVar 3) (tCons (tTupU (tCons (tMkV (D.c 26) (spErr (D.c 26) ["index"]) (tCons (tVar 0) (tNil))) (tCons (tMkKV (D.c 26) (spErr (D.c 26) ["index"]) revV 1 (tCons (tVar 0) (tNil))) (tCons (tLamW D.PB qB (IsFld ["index"])) (tCons (tLstB (tCons (tVar 0) (tNil))) (tNil)))))) (tNil)))) := ps_expr (pe_bm PySem.F.plainAttrs_list PySem.F.slot_list_append PySem.F.type_list_append mt_appendU (pv 3) (pa_cons (pe_tupU (pa_cons (pe_oexV (T.ox 26 (by decide)) (Y.ini 26 (by decide)) (Y.tyi 26 (by decide)) (I 26 (by decide)) (hr.mono (by decide)) (B0 26 (by decide)) pass0 rfl (T.g 26 (by decide)) (pa_cons (pv 0) (pa_nil))) (pa_cons (pe_oexKV (ks := ["index"]) (T.ox 26 (by decide)) (Y.ini 26 (by decide)) (Y.tyi 26 (by decide)) (I 26 (by decide)) (hr.mono (by decide)) (B 26 (by decide)) pass0 rfl (T.g 26 (by decide)) (pk_cons (pv 0) (pk_nil))) (pa_cons (pe_lamW (IsFld ["index"]) TB rfl (by rfl) (fun c0 => ⟨rfl, fun pm ctv us h => match us, h with | [_], _ => rfl, nscope_by (by rfl), .inl ⟨_, _, _, _, rfl, rfl⟩⟩)) (pa_cons (pe_lstB (pa_cons (pv 0) (pa_nil))) (pa_nil)))))) (pa_nil)))
theorem rw_l_made_b_10 {cX f : Addr} {A : Around} {outer : List Env} {s : Shared} {H : Hp} {E : XK} (T : Txt K mg D) (TB : TabB base mg cX D.PB) {fI : Nat → Addr} {fdI : Nat → FuncData} (Y : TxtI K D fI) (I : ∀ i, i < 43 → FnOk P w K mg base CX0 1 (fI i) (fdI i) ("self" :: flds i) (spErr (D.c i) (flds i))) (B0 : ∀ i, i < 43 → Binds K (fdI i) ("self" :: flds i) []) (B : ∀ i, i < 43 → KBn K (fdI i) ("self" :: flds i) 1 (flds i).reverse (fun us ws => us ++ ws.reverse) revV) (hr : Room 2 (A.deeper (envOfC "_law_made_b" (defScope s_l_made_b) s.heap.objs.size f (.ref cX)))) :
    PS (cxOf CX0 P w K mg base N_l_made_b "_law_made_b" (defScope s_l_made_b) f (.ref cX) A outer s H E).nox (stm (defBody s_l_made_b) 10) (tDrop (tBM K "list" (rAppendU) (tVar 3) (tCons (tTupU (tCons (tMkV (D.c 27) (spErr (D.c 27) ["thing"]) (tCons (tVar 0) (tNil))) (tCons (tMkKV (D.c 27) (spErr (D.c 27) ["thing"]) revV 1 (tCons (tVar 0) (tNil))) (tCons (tLamW D.PB qB (IsFld ["thing"])) (tCons (tLstB (tCons (tVar 0) (tNil))) (tNil)))))) (tNil)))) := ps_expr (pe_bm PySem.F.plainAttrs_list PySem.F.slot_list_append PySem.F.type_list_append mt_appendU (pv 3) (pa_cons (pe_tupU (pa_cons (pe_oexV (T.ox 27 (by decide)) (Y.ini 27 (by decide)) (Y.tyi 27 (by decide)) (I 27 (by decide)) (hr.mono (by decide)) (B0 27 (by decide)) pass0 rfl (T.g 27 (by decide)) (pa_cons (pv 0) (pa_nil))) (pa_cons (pe_oexKV (ks := ["thing"]) (T.ox 27 (by decide)) (Y.ini 27 (by decide)) (Y.tyi 27 (by decide)) (I 27 (by decide)) (hr.mono (by decide)) (B 27 (by decide)) pass0 rfl (T.g 27 (by decide)) (pk_cons (pv 0) (pk_nil))) (pa_cons (pe_lamW (IsFld ["thing"]) TB rfl (by rfl) (fun c0 => ⟨rfl, fun pm ctv us h => match us, h with | [_], _ => rfl, nscope_by (by rfl), .inl ⟨_, _, _, _, rfl, rfl⟩⟩)) (pa_cons (pe_lstB (pa_cons (pv 0) (pa_nil))) (pa_nil)))))) (pa_nil)))
theorem rw_l_made_b_11 {cX f : Addr} {A : Around} {outer : List Env} {s : Shared} {H : Hp} {E : XK} (T : Txt K mg D) (TB : TabB base mg cX D.PB) {fI : Nat → Addr} {fdI : Nat → FuncData} (Y : TxtI K D fI) (I : ∀ i, i < 43 → FnOk P w K mg base CX0 1 (fI i) (fdI i) ("self" :: flds i) (spErr (D.c i) (flds i))) (B0 : ∀ i, i < 43 → Binds K (fdI i) ("self" :: flds i) []) (B : ∀ i, i < 43 → KBn K (fdI i) ("self" :: flds i) 1 (flds i).reverse (fun us ws => us ++ ws.reverse) revV) (hr : Room 2 (A.deeper (envOfC "_law_made_b" (defScope s_l_made_b) s.heap.objs.size f (.ref cX)))) :
    PS (cxOf CX0 P w K mg base N_l_made_b "_law_made_b" (defScope s_l_made_b) f (.ref cX) A outer s H E).nox (stm (defBody s_l_made_b) 11) (tDrop (tBM K "list" (rAppendU) (tVar 3) (tCons (tTupU (tCons (tMkV (D.c 28) (spErr (D.c 28) ["index"]) (tCons (tVar 0) (tNil))) (tCons (tMkKV (D.c 28) (spErr (D.c 28) ["index"]) revV 1 (tCons (tVar 0) (tNil))) (tCons (tLamW D.PB qB (IsFld ["index"])) (tCons (tLstB (tCons (tVar 0) (tNil))) (tNil)))))) (tNil)))) := ps_expr (pe_bm PySem.F.plainAttrs_list PySem.F.slot_list_append PySem.F.type_list_append mt_appendU (pv 3) (pa_cons (pe_tupU (pa_cons (pe_oexV (T.ox 28 (by decide)) (Y.ini 28 (by decide)) (Y.tyi 28 (by decide)) (I 28 (by decide)) (hr.mono (by decide)) (B0 28 (by decide)) pass0 rfl (T.g 28 (by decide)) (pa_cons (pv 0) (pa_nil))) (pa_cons (pe_oexKV (ks := ["index"]) (T.ox 28 (by decide)) (Y.ini 28 (by decide)) (Y.tyi 28 (by decide)) (I 28 (by decide)) (hr.mono (by decide)) (B 28 (by decide)) pass0 rfl (T.g 28 (by decide)) (pk_cons (pv 0) (pk_nil))) (pa_cons (pe_lamW (IsFld ["index"]) TB rfl (by rfl) (fun c0 => ⟨rfl, fun pm ctv us h => match us, h with | [_], _ => rfl, nscope_by (by rfl), .inl ⟨_, _, _, _, rfl, rfl⟩⟩)) (pa_cons (pe_lstB (pa_cons (pv 0) (pa_nil))) (pa_nil)))))) (pa_nil)))
theorem rw_l_made_b_12 {cX f : Addr} {A : Around} {outer : List Env} {s : Shared} {H : Hp} {E : XK} (T : Txt K mg D) (TB : TabB base mg cX D.PB) {fI : Nat → Addr} {fdI : Nat → FuncData} (Y : TxtI K D fI) (I : ∀ i, i < 43 → FnOk P w K mg base CX0 1 (fI i) (fdI i) ("self" :: flds i) (spErr (D.c i) (flds i))) (B0 : ∀ i, i < 43 → Binds K (fdI i) ("self" :: flds i) []) (B : ∀ i, i < 43 → KBn K (fdI i) ("self" :: flds i) 1 (flds i).reverse (fun us ws => us ++ ws.reverse) revV) (hr : Room 2 (A.deeper (envOfC "_law_made_b" (defScope s_l_made_b) s.heap.objs.size f (.ref cX)))) :
    PS (cxOf CX0 P w K mg base N_l_made_b "_law_made_b" (defScope s_l_made_b) f (.ref cX) A outer s H E).nox (stm (defBody s_l_made_b) 12) (tDrop (tBM K "list" (rAppendU) (tVar 3) (tCons (tTupU (tCons (tMkV (D.c 29) (spErr (D.c 29) ["line", "sign"]) (tCons (tVar 0) (tCons (tVar 1) (tNil)))) (tCons (tMkKV (D.c 29) (spErr (D.c 29) ["line", "sign"]) revV 2 (tCons (tVar 1) (tCons (tVar 0) (tNil)))) (tCons (tLamW D.PB qB (IsFld ["line", "sign"])) (tCons (tLstB (tCons (tVar 0) (tCons (tVar 1) (tNil)))) (tNil)))))) (tNil)))) := ps_expr (pe_bm PySem.F.plainAttrs_list PySem.F.slot_list_append PySem.F.type_list_append mt_appendU (pv 3) (pa_cons (pe_tupU (pa_cons (pe_oexV (T.ox 29 (by decide)) (Y.ini 29 (by decide)) (Y.tyi 29 (by decide)) (I 29 (by decide)) (hr.mono (by decide)) (B0 29 (by decide)) pass0 rfl (T.g 29 (by decide)) (pa_cons (pv 0) (pa_cons (pv 1) (pa_nil)))) (pa_cons (pe_oexKV (ks := ["sign", "line"]) (T.ox 29 (by decide)) (Y.ini 29 (by decide)) (Y.tyi 29 (by decide)) (I 29 (by decide)) (hr.mono (by decide)) (B 29 (by decide)) pass0 rfl (T.g 29 (by decide)) (pk_cons (pv 1) (pk_cons (pv 0) (pk_nil)))) (pa_cons (pe_lamW (IsFld ["line", "sign"]) TB rfl (by rfl) (fun c0 => ⟨rfl, fun pm ctv us h => match us, h with | [_], _ => rfl, nscope_by (by rfl), .inr ⟨_, _, _, _, _, _, _, rfl, rfl⟩⟩)) (pa_cons (pe_lstB (pa_cons (pv 0) (pa_cons (pv 1) (pa_nil)))) (pa_nil)))))) (pa_nil)))
theorem rw_l_made_b_13 {cX f : Addr} {A : Around} {outer : List Env} {s : Shared} {H : Hp} {E : XK} (T : Txt K mg D) (TB : TabB base mg cX D.PB) {fI : Nat → Addr} {fdI : Nat → FuncData} (Y : TxtI K D fI) (I : ∀ i, i < 43 → FnOk P w K mg base CX0 1 (fI i) (fdI i) ("self" :: flds i) (spErr (D.c i) (flds i))) (B0 : ∀ i, i < 43 → Binds K (fdI i) ("self" :: flds i) []) (B : ∀ i, i < 43 → KBn K (fdI i) ("self" :: flds i) 1 (flds i).reverse (fun us ws => us ++ ws.reverse) revV) (hr : Room 2 (A.deeper (envOfC "_law_made_b" (defScope s_l_made_b) s.heap.objs.size f (.ref cX)))) :
    PS (cxOf CX0 P w K mg base N_l_made_b "_law_made_b" (defScope s_l_made_b) f (.ref cX) A outer s H E).nox (stm (defBody s_l_made_b) 13) (tDrop (tBM K "list" (rAppendU) (tVar 3) (tCons (tTupU (tCons (tMkV (D.c 30) (spErr (D.c 30) ["question"]) (tCons (tVar 0) (tNil))) (tCons (tMkKV (D.c 30) (spErr (D.c 30) ["question"]) revV 1 (tCons (tVar 0) (tNil))) (tCons (tLamW D.PB qB (IsFld ["question"])) (tCons (tLstB (tCons (tVar 0) (tNil))) (tNil)))))) (tNil)))) := ps_expr (pe_bm PySem.F.plainAttrs_list PySem.F.slot_list_append PySem.F.type_list_append mt_appendU (pv 3) (pa_cons (pe_tupU (pa_cons (pe_oexV (T.ox 30 (by decide)) (Y.ini 30 (by decide)) (Y.tyi 30 (by decide)) (I 30 (by decide)) (hr.mono (by decide)) (B0 30 (by decide)) pass0 rfl (T.g 30 (by decide)) (pa_cons (pv 0) (pa_nil))) (pa_cons (pe_oexKV (ks := ["question"]) (T.ox 30 (by decide)) (Y.ini 30 (by decide)) (Y.tyi 30 (by decide)) (I 30 (by decide)) (hr.mono (by decide)) (B 30 (by decide)) pass0 rfl (T.g 30 (by decide)) (pk_cons (pv 0) (pk_nil))) (pa_cons (pe_lamW (IsFld ["question"]) TB rfl (by rfl) (fun c0 => ⟨rfl, fun pm ctv us h => match us, h with | [_], _ => rfl, nscope_by (by rfl), .inl ⟨_, _, _, _, rfl, rfl⟩⟩)) (pa_cons (pe_lstB (pa_cons (pv 0) (pa_nil))) (pa_nil)))))) (pa_nil)))
theorem rw_l_made_b_14 {cX f : Addr} {A : Around} {outer : List Env} {s : Shared} {H : Hp} {E : XK} (T : Txt K mg D) (TB : TabB base mg cX D.PB) {fI : Nat → Addr} {fdI : Nat → FuncData} (Y : TxtI K D fI) (I : ∀ i, i < 43 → FnOk P w K mg base CX0 1 (fI i) (fdI i) ("self" :: flds i) (spErr (D.c i) (flds i))) (B0 : ∀ i, i < 43 → Binds K (fdI i) ("self" :: flds i) []) (B : ∀ i, i < 43 → KBn K (fdI i) ("self" :: flds i) 1 (flds i).reverse (fun us ws => us ++ ws.reverse) revV) (hr : Room 2 (A.deeper (envOfC "_law_made_b" (defScope s_l_made_b) s.heap.objs.size f (.ref cX)))) :
    PS (cxOf CX0 P w K mg base N_l_made_b "_law_made_b" (defScope s_l_made_b) f (.ref cX) A outer s H E).nox (stm (defBody s_l_made_b) 14) (tDrop (tBM K "list" (rAppendU) (tVar 3) (tCons (tTupU (tCons (tMkV (D.c 31) (spErr (D.c 31) ["question"]) (tCons (tVar 0) (tNil))) (tCons (tMkKV (D.c 31) (spErr (D.c 31) ["question"]) revV 1 (tCons (tVar 0) (tNil))) (tCons (tLamW D.PB qB (IsFld ["question"])) (tCons (tLstB (tCons (tVar 0) (tNil))) (tNil)))))) (tNil)))) := ps_expr (pe_bm PySem.F.plainAttrs_list PySem.F.slot_list_append PySem.F.type_list_append mt_appendU (pv 3) (pa_cons (pe_tupU (pa_cons (pe_oexV (T.ox 31 (by decide)) (Y.ini 31 (by decide)) (Y.tyi 31 (by decide)) (I 31 (by decide)) (hr.mono (by decide)) (B0 31 (by decide)) pass0 rfl (T.g 31 (by decide)) (pa_cons (pv 0) (pa_nil))) (pa_cons (pe_oexKV (ks := ["question"]) (T.ox 31 (by decide)) (Y.ini 31 (by decide)) (Y.tyi 31 (by decide)) (I 31 (by decide)) (hr.mono (by decide)) (B 31 (by decide)) pass0 rfl (T.g 31 (by decide)) (pk_cons (pv 0) (pk_nil))) (pa_cons (pe_lamW (IsFld ["question"]) TB rfl (by rfl) (fun c0 => ⟨rfl, fun pm ctv us h => match us, h with | [_], _ => rfl, nscope_by (by rfl), .inl ⟨_, _, _, _, rfl, rfl⟩⟩)) (pa_cons (pe_lstB (pa_cons (pv 0) (pa_nil))) (pa_nil)))))) (pa_nil)))
theorem rw_l_made_b_15 {cX f : Addr} {A : Around} {outer : List Env} {s : Shared} {H : Hp} {E : XK} (T : Txt K mg D) (TB : TabB base mg cX D.PB) {fI : Nat → Addr} {fdI : Nat → FuncData} (Y : TxtI K D fI) (I : ∀ i, i < 43 → FnOk P w K mg base CX0 1 (fI i) (fdI i) ("self" :: flds i) (spErr (D.c i) (flds i))) (B0 : ∀ i, i < 43 → Binds K (fdI i) ("self" :: flds i) []) (B : ∀ i, i < 43 → KBn K (fdI i) ("self" :: flds i) 1 (flds i).reverse (fun us ws => us ++ ws.reverse) revV) (hr : Room 2 (A.deeper (envOfC "_law_made_b" (defScope s_l_made_b) s.heap.objs.size f (.ref cX)))) :
    PS (cxOf CX0 P w K mg base N_l_made_b "_law_made_b" (defScope s_l_made_b) f (.ref cX) A outer s H E).nox (stm (defBody s_l_made_b) 15) (tDrop (tBM K "list" (rAppendU) (tVar 3) (tCons (tTupU (tCons (tMkV (D.c 32) (spErr (D.c 32) ["thing"]) (tCons (tVar 0) (tNil))) (tCons (tMkKV (D.c 32) (spErr (D.c 32) ["thing"]) revV 1 (tCons (tVar 0) (tNil))) (tCons (tLamW D.PB qB (IsFld ["thing"])) (tCons (tLstB (tCons (tVar 0) (tNil))) (tNil)))))) (tNil)))) := ps_expr (pe_bm PySem.F.plainAttrs_list PySem.F.slot_list_append PySem.F.type_list_append mt_appendU (pv 3) (pa_cons (pe_tupU (pa_cons (pe_oexV (T.ox 32 (by decide)) (Y.ini 32 (by decide)) (Y.tyi 32 (by decide)) (I 32 (by decide)) (hr.mono (by decide)) (B0 32 (by decide)) pass0 rfl (T.g 32 (by decide)) (pa_cons (pv 0) (pa_nil))) (pa_cons (pe_oexKV (ks := ["thing"]) (T.ox 32 (by decide)) (Y.ini 32 (by decide)) (Y.tyi 32 (by decide)) (I 32 (by decide)) (hr.mono (by decide)) (B 32 (by decide)) pass0 rfl (T.g 32 (by decide)) (pk_cons (pv 0) (pk_nil))) (pa_cons (pe_lamW (IsFld ["thing"]) TB rfl (by rfl) (fun c0 => ⟨rfl, fun pm ctv us h => match us, h with | [_], _ => rfl, nscope_by (by rfl), .inl ⟨_, _, _, _, rfl, rfl⟩⟩)) (pa_cons (pe_lstB (pa_cons (pv 0) (pa_nil))) (pa_nil)))))) (pa_nil)))
theorem rw_l_made_b_16 {cX f : Addr} {A : Around} {outer : List Env} {s : Shared} {H : Hp} {E : XK} (T : Txt K mg D) (TB : TabB base mg cX D.PB) {fI : Nat → Addr} {fdI : Nat → FuncData} (Y : TxtI K D fI) (I : ∀ i, i < 43 → FnOk P w K mg base CX0 1 (fI i) (fdI i) ("self" :: flds i) (spErr (D.c i) (flds i))) (B0 : ∀ i, i < 43 → Binds K (fdI i) ("self" :: flds i) []) (B : ∀ i, i < 43 → KBn K (fdI i) ("self" :: flds i) 1 (flds i).reverse (fun us ws => us ++ ws.reverse) revV) (hr : Room 2 (A.deeper (envOfC "_law_made_b" (defScope s_l_made_b) s.heap.objs.size f (.ref cX)))) :
    PS (cxOf CX0 P w K mg base N_l_made_b "_law_made_b" (defScope s_l_made_b) f (.ref cX) A outer s H E).nox (stm (defBody s_l_made_b) 16) (tDrop (tBM K "list" (rAppendU) (tVar 3) (tCons (tTupU (tCons (tMkV (D.c 33) (spErr (D.c 33) ["thing"]) (tCons (tVar 0) (tNil))) (tCons (tMkKV (D.c 33) (spErr (D.c 33) ["thing"]) revV 1 (tCons (tVar 0) (tNil))) (tCons (tLamW D.PB qB (IsFld ["thing"])) (tCons (tLstB (tCons (tVar 0) (tNil))) (tNil)))))) (tNil)))) := ps_expr (pe_bm PySem.F.plainAttrs_list PySem.F.slot_list_append PySem.F.type_list_append mt_appendU (pv 3) (pa_cons (pe_tupU (pa_cons (pe_oexV (T.ox 33 (by decide)) (Y.ini 33 (by decide)) (Y.tyi 33 (by decide)) (I 33 (by decide)) (hr.mono (by decide)) (B0 33 (by decide)) pass0 rfl (T.g 33 (by decide)) (pa_cons (pv 0) (pa_nil))) (pa_cons (pe_oexKV (ks := ["thing"]) (T.ox 33 (by decide)) (Y.ini 33 (by decide)) (Y.tyi 33 (by decide)) (I 33 (by decide)) (hr.mono (by decide)) (B 33 (by decide)) pass0 rfl (T.g 33 (by decide)) (pk_cons (pv 0) (pk_nil))) (pa_cons (pe_lamW (IsFld ["thing"]) TB rfl (by rfl) (fun c0 => ⟨rfl, fun pm ctv us h => match us, h with | [_], _ => rfl, nscope_by (by rfl), .inl ⟨_, _, _, _, rfl, rfl⟩⟩)) (pa_cons (pe_lstB (pa_cons (pv 0) (pa_nil))) (pa_nil)))))) (pa_nil)))
theorem rw_l_made_b_17 {cX f : Addr} {A : Around} {outer : List Env} {s : Shared} {H : Hp} {E : XK} (T : Txt K mg D) (TB : TabB base mg cX D.PB) {fI : Nat → Addr} {fdI : Nat → FuncData} (Y : TxtI K D fI) (I : ∀ i, i < 43 → FnOk P w K mg base CX0 1 (fI i) (fdI i) ("self" :: flds i) (spErr (D.c i) (flds i))) (B0 : ∀ i, i < 43 → Binds K (fdI i) ("self" :: flds i) []) (B : ∀ i, i < 43 → KBn K (fdI i) ("self" :: flds i) 1 (flds i).reverse (fun us ws => us ++ ws.reverse) revV) (hr : Room 2 (A.deeper (envOfC "_law_made_b" (defScope s_l_made_b) s.heap.objs.size f (.ref cX)))) :
    PS (cxOf CX0 P w K mg base N_l_made_b "_law_made_b" (defScope s_l_made_b) f (.ref cX) A outer s H E).nox (stm (defBody s_l_made_b) 17) (tDrop (tBM K "list" (rAppendU) (tVar 3) (tCons (tTupU (tCons (tMkV (D.c 34) (spErr (D.c 34) ["hour"]) (tCons (tVar 0) (tNil))) (tCons (tMkKV (D.c 34) (spErr (D.c 34) ["hour"]) revV 1 (tCons (tVar 0) (tNil))) (tCons (tLamW D.PB qB (IsFld ["hour"])) (tCons (tLstB (tCons (tVar 0) (tNil))) (tNil)))))) (tNil)))) := ps_expr (pe_bm PySem.F.plainAttrs_list PySem.F.slot_list_append PySem.F.type_list_append mt_appendU (pv 3) (pa_cons (pe_tupU (pa_cons (pe_oexV (T.ox 34 (by decide)) (Y.ini 34 (by decide)) (Y.tyi 34 (by decide)) (I 34 (by decide)) (hr.mono (by decide)) (B0 34 (by decide)) pass0 rfl (T.g 34 (by decide)) (pa_cons (pv 0) (pa_nil))) (pa_cons (pe_oexKV (ks := ["hour"]) (T.ox 34 (by decide)) (Y.ini 34 (by decide)) (Y.tyi 34 (by decide)) (I 34 (by decide)) (hr.mono (by decide)) (B 34 (by decide)) pass0 rfl (T.g 34 (by decide)) (pk_cons (pv 0) (pk_nil))) (pa_cons (pe_lamW (IsFld ["hour"]) TB rfl (by rfl) (fun c0 => ⟨rfl, fun pm ctv us h => match us, h with | [_], _ => rfl, nscope_by (by rfl), .inl ⟨_, _, _, _, rfl, rfl⟩⟩)) (pa_cons (pe_lstB (pa_cons (pv 0) (pa_nil))) (pa_nil)))))) (pa_nil)))
theorem rw_l_made_b_18 {cX f : Addr} {A : Around} {outer : List Env} {s : Shared} {H : Hp} {E : XK} (T : Txt K mg D) (TB : TabB base mg cX D.PB) {fI : Nat → Addr} {fdI : Nat → FuncData} (Y : TxtI K D fI) (I : ∀ i, i < 43 → FnOk P w K mg base CX0 1 (fI i) (fdI i) ("self" :: flds i) (spErr (D.c i) (flds i))) (B0 : ∀ i, i < 43 → Binds K (fdI i) ("self" :: flds i) []) (B : ∀ i, i < 43 → KBn K (fdI i) ("self" :: flds i) 1 (flds i).reverse (fun us ws => us ++ ws.reverse) revV) (hr : Room 2 (A.deeper (envOfC "_law_made_b" (defScope s_l_made_b) s.heap.objs.size f (.ref cX)))) :
    PS (cxOf CX0 P w K mg base N_l_made_b "_law_made_b" (defScope s_l_made_b) f (.ref cX) A outer s H E).nox (stm (defBody s_l_made_b) 18) (tDrop (tBM K "list" (rAppendU) (tVar 3) (tCons (tTupU (tCons (tMkV (D.c 35) (spErr (D.c 35) ["thing"]) (tCons (tVar 0) (tNil))) (tCons (tMkKV (D.c 35) (spErr (D.c 35) ["thing"]) revV 1 (tCons (tVar 0) (tNil))) (tCons (tLamW D.PB qB (IsFld ["thing"])) (tCons (tLstB (tCons (tVar 0) (tNil))) (tNil)))))) (tNil)))) := ps_expr (pe_bm PySem.F.plainAttrs_list PySem.F.slot_list_append PySem.F.type_list_append mt_appendU (pv 3) (pa_cons (pe_tupU (pa_cons (pe_oexV (T.ox 35 (by decide)) (Y.ini 35 (by decide)) (Y.tyi 35 (by decide)) (I 35 (by decide)) (hr.mono (by decide)) (B0 35 (by decide)) pass0 rfl (T.g 35 (by decide)) (pa_cons (pv 0) (pa_nil))) (pa_cons (pe_oexKV (ks := ["thing"]) (T.ox 35 (by decide)) (Y.ini 35 (by decide)) (Y.tyi 35 (by decide)) (I 35 (by decide)) (hr.mono (by decide)) (B 35 (by decide)) pass0 rfl (T.g 35 (by decide)) (pk_cons (pv 0) (pk_nil))) (pa_cons (pe_lamW (IsFld ["thing"]) TB rfl (by rfl) (fun c0 => ⟨rfl, fun pm ctv us h => match us, h with | [_], _ => rfl, nscope_by (by rfl), .inl ⟨_, _, _, _, rfl, rfl⟩⟩)) (pa_cons (pe_lstB (pa_cons (pv 0) (pa_nil))) (pa_nil)))))) (pa_nil)))
theorem ok_l_made_b {f : Addr} {fd : FuncData} {cX : Addr} (F : FunC K "_law_made_b" "_law_made_b" s_l_made_b f fd cX) (b : Binds K fd ["_law_x", "_law_y", "_law_z"] []) (hf : mg "_law_made_b" = some (.ref f)) (T : Txt K mg D)  (TB : TabB base mg cX D.PB) {fI : Nat → Addr} {fdI : Nat → FuncData} (Y : TxtI K D fI) (I : ∀ i, i < 43 → FnOk P w K mg base CX0 1 (fI i) (fdI i) ("self" :: flds i) (spErr (D.c i) (flds i))) (B0 : ∀ i, i < 43 → Binds K (fdI i) ("self" :: flds i) []) (B : ∀ i, i < 43 → KBn K (fdI i) ("self" :: flds i) 1 (flds i).reverse (fun us ws => us ++ ws.reverse) revV) : Cal P w K mg base 3 "_law_made_b" (spMade D D.PB qB 18 18) [] := by
  refine ⟨f, fd, ["_law_x", "_law_y", "_law_z"], [], F.ok sc_l_made_b (fun vs H Q E h => ?_) (fun A outer s H vs Q E hr h => ⟨t_l_made_b K D, ?_, rd_l_made_b K D h⟩), hf, F.kp, b, .nil⟩
  · unfold spMade at h
    repeat (first | (obtain ⟨rfl, _⟩ := h; rfl) | (obtain ⟨_, h⟩ := h))
  · exact pss_cons (ps_set (i := 3) sc_l_made_b.nd rfl (Or.inl rfl) (pe_lstU (pa_nil)))
      (pss_cons (rw_l_made_b_1 T TB Y I B0 B hr)
      (pss_cons (rw_l_made_b_2 T TB Y I B0 B hr)
      (pss_cons (rw_l_made_b_3 T TB Y I B0 B hr)
      (pss_cons (rw_l_made_b_4 T TB Y I B0 B hr)
      (pss_cons (rw_l_made_b_5 T TB Y I B0 B hr)
      (pss_cons (rw_l_made_b_6 T TB Y I B0 B hr)
      (pss_cons (rw_l_made_b_7 T TB Y I B0 B hr)
      (pss_cons (rw_l_made_b_8 T TB Y I B0 B hr)
      (pss_cons (rw_l_made_b_9 T TB Y I B0 B hr)
      (pss_cons (rw_l_made_b_10 T TB Y I B0 B hr)
      (pss_cons (rw_l_made_b_11 T TB Y I B0 B hr)
      (pss_cons (rw_l_made_b_12 T TB Y I B0 B hr)
      (pss_cons (rw_l_made_b_13 T TB Y I B0 B hr)
      (pss_cons (rw_l_made_b_14 T TB Y I B0 B hr)
      (pss_cons (rw_l_made_b_15 T TB Y I B0 B hr)
      (pss_cons (rw_l_made_b_16 T TB Y I B0 B hr)
      (pss_cons (rw_l_made_b_17 T TB Y I B0 B hr)
      (pss_cons (rw_l_made_b_18 T TB Y I B0 B hr)
      (pss_one (ps_ret (pv 3)))))))))))))))))))))

theorem rw_l_made_c_1 {cX f : Addr} {A : Around} {outer : List Env} {s : Shared} {H : Hp} {E : XK} (T : Txt K mg D) (TB : TabB base mg cX D.PC) {fI : Nat → Addr} {fdI : Nat → FuncData} (Y : TxtI K D fI) (I : ∀ i, i < 43 → FnOk P w K mg base CX0 1 (fI i) (fdI i) ("self" :: flds i) (spErr (D.c i) (flds i))) (B0 : ∀ i, i < 43 → Binds K (fdI i) ("self" :: flds i) []) (B : ∀ i, i < 43 → KBn K (fdI i) ("self" :: flds i) 1 (flds i).reverse (fun us ws => us ++ ws.reverse) revV) (hr : Room 2 (A.deeper (envOfC "_law_made_c" (defScope s_l_made_c) s.heap.objs.size f (.ref cX)))) :
    PS (cxOf CX0 P w K mg base N_l_made_c "_law_made_c" (defScope s_l_made_c) f (.ref cX) A outer s H E).nox (stm (defBody s_l_made_c) 1) (tDrop (tBM K "list" (rAppendU) (tVar 3) (tCons (tTupU (tCons (tMkV (D.c 36) (spErr (D.c 36) ["hour", "slot"]) (tCons (tVar 0) (tCons (tVar 1) (tNil)))) (tCons (tMkKV (D.c 36) (spErr (D.c 36) ["hour", "slot"]) revV 2 (tCons (tVar 1) (tCons (tVar 0) (tNil)))) (tCons (tLamW D.PC qC (IsFld ["hour", "slot"])) (tCons (tLstB (tCons (tVar 0) (tCons (tVar 1) (tNil)))) (tNil)))))) (tNil)))) := ps_expr (pe_bm PySem.F.plainAttrs_list PySem.F.slot_list_append PySem.F.type_list_append mt_appendU (pv 3) (pa_cons (pe_tupU (pa_cons (pe_oexV (T.ox 36 (by decide)) (Y.ini 36 (by decide)) (Y.tyi 36 (by decide)) (I 36 (by decide)) (hr.mono (by decide)) (B0 36 (by decide)) pass0 rfl (T.g 36 (by decide)) (pa_cons (pv 0) (pa_cons (pv 1) (pa_nil)))) (pa_cons (pe_oexKV (ks := ["slot", "hour"]) (T.ox 36 (by decide)) (Y.ini 36 (by decide)) (Y.tyi 36 (by decide)) (I 36 (by decide)) (hr.mono (by decide)) (B 36 (by decide)) pass0 rfl (T.g 36 (by decide)) (pk_cons (pv 1) (pk_cons (pv 0) (pk_nil)))) (pa_cons (pe_lamW (IsFld ["hour", "slot"]) TB rfl (by rfl) (fun c0 => ⟨rfl, fun pm ctv us h => match us, h with | [_], _ => rfl, nscope_by (by rfl), .inr ⟨_, _, _, _, _, _, _, rfl, rfl⟩⟩)) (pa_cons (pe_lstB (pa_cons (pv 0) (pa_cons (pv 1) (pa_nil)))) (pa_nil)))))) (pa_nil)))
theorem rw_l_made_c_2 {cX f : Addr} {A : Around} {outer : List Env} {s : Shared} {H : Hp} {E : XK} (T : Txt K mg D) (TB : TabB base mg cX D.PC) {fI : Nat → Addr} {fdI : Nat → FuncData} (Y : TxtI K D fI) (I : ∀ i, i < 43 → FnOk P w K mg base CX0 1 (fI i) (fdI i) ("self" :: flds i) (spErr (D.c i) (flds i))) (B0 : ∀ i, i < 43 → Binds K (fdI i) ("self" :: flds i) []) (B : ∀ i, i < 43 → KBn K (fdI i) ("self" :: flds i) 1 (flds i).reverse (fun us ws => us ++ ws.reverse) revV) (hr : Room 2 (A.deeper (envOfC "_law_made_c" (defScope s_l_made_c) s.heap.objs.size f (.ref cX)))) :
    PS (cxOf CX0 P w K mg base N_l_made_c "_law_made_c" (defScope s_l_made_c) f (.ref cX) A outer s H E).nox (stm (defBody s_l_made_c) 2) (tDrop (tBM K "list" (rAppendU) (tVar 3) (tCons (tTupU (tCons (tMkV (D.c 37) (spErr (D.c 37) ["index"]) (tCons (tVar 0) (tNil))) (tCons (tMkKV (D.c 37) (spErr (D.c 37) ["index"]) revV 1 (tCons (tVar 0) (tNil))) (tCons (tLamW D.PC qC (IsFld ["index"])) (tCons (tLstB (tCons (tVar 0) (tNil))) (tNil)))))) (tNil)))) := ps_expr (pe_bm PySem.F.plainAttrs_list PySem.F.slot_list_append PySem.F.type_list_append mt_appendU (pv 3) (pa_cons (pe_tupU (pa_cons (pe_oexV (T.ox 37 (by decide)) (Y.ini 37 (by decide)) (Y.tyi 37 (by decide)) (I 37 (by decide)) (hr.mono (by decide)) (B0 37 (by decide)) pass0 rfl (T.g 37 (by decide)) (pa_cons (pv 0) (pa_nil))) (pa_cons (pe_oexKV (ks := ["index"]) (T.ox 37 (by decide)) (Y.ini 37 (by decide)) (Y.tyi 37 (by decide)) (I 37 (by decide)) (hr.mono (by decide)) (B 37 (by decide)) pass0 rfl (T.g 37 (by decide)) (pk_cons (pv 0) (pk_nil))) (pa_cons (pe_lamW (IsFld ["index"]) TB rfl (by rfl) (fun c0 => ⟨rfl, fun pm ctv us h => match us, h with | [_], _ => rfl, nscope_by (by rfl), .inl ⟨_, _, _, _, rfl, rfl⟩⟩)) (pa_cons (pe_lstB (pa_cons (pv 0) (pa_nil))) (pa_nil)))))) (pa_nil)))
theorem rw_l_made_c_3 {cX f : Addr} {A : Around} {outer : List Env} {s : Shared} {H : Hp} {E : XK} (T : Txt K mg D) (TB : TabB base mg cX D.PC) {fI : Nat → Addr} {fdI : Nat → FuncData} (Y : TxtI K D fI) (I : ∀ i, i < 43 → FnOk P w K mg base CX0 1 (fI i) (fdI i) ("self" :: flds i) (spErr (D.c i) (flds i))) (B0 : ∀ i, i < 43 → Binds K (fdI i) ("self" :: flds i) []) (B : ∀ i, i < 43 → KBn K (fdI i) ("self" :: flds i) 1 (flds i).reverse (fun us ws => us ++ ws.reverse) revV) (hr : Room 2 (A.deeper (envOfC "_law_made_c" (defScope s_l_made_c) s.heap.objs.size f (.ref cX)))) :
    PS (cxOf CX0 P w K mg base N_l_made_c "_law_made_c" (defScope s_l_made_c) f (.ref cX) A outer s H E).nox (stm (defBody s_l_made_c) 3) (tDrop (tBM K "list" (rAppendU) (tVar 3) (tCons (tTupU (tCons (tMkV (D.c 38) (spErr (D.c 38) ["thing"]) (tCons (tVar 0) (tNil))) (tCons (tMkKV (D.c 38) (spErr (D.c 38) ["thing"]) revV 1 (tCons (tVar 0) (tNil))) (tCons (tLamW D.PC qC (IsFld ["thing"])) (tCons (tLstB (tCons (tVar 0) (tNil))) (tNil)))))) (tNil)))) := ps_expr (pe_bm PySem.F.plainAttrs_list PySem.F.slot_list_append PySem.F.type_list_append mt_appendU (pv 3) (pa_cons (pe_tupU (pa_cons (pe_oexV (T.ox 38 (by decide)) (Y.ini 38 (by decide)) (Y.tyi 38 (by decide)) (I 38 (by decide)) (hr.mono (by decide)) (B0 38 (by decide)) pass0 rfl (T.g 38 (by decide)) (pa_cons (pv 0) (pa_nil))) (pa_cons (pe_oexKV (ks := ["thing"]) (T.ox 38 (by decide)) (Y.ini 38 (by decide)) (Y.tyi 38 (by decide)) (I 38 (by decide)) (hr.mono (by decide)) (B 38 (by decide)) pass0 rfl (T.g 38 (by decide)) (pk_cons (pv 0) (pk_nil))) (pa_cons (pe_lamW (IsFld ["thing"]) TB rfl (by rfl) (fun c0 => ⟨rfl, fun pm ctv us h => match us, h with | [_], _ => rfl, nscope_by (by rfl), .inl ⟨_, _, _, _, rfl, rfl⟩⟩)) (pa_cons (pe_lstB (pa_cons (pv 0) (pa_nil))) (pa_nil)))))) (pa_nil)))
theorem rw_l_made_c_4 {cX f : Addr} {A : Around} {outer : List Env} {s : Shared} {H : Hp} {E : XK} (T : Txt K mg D) (TB : TabB base mg cX D.PC) {fI : Nat → Addr} {fdI : Nat → FuncData} (Y : TxtI K D fI) (I : ∀ i, i < 43 → FnOk P w K mg base CX0 1 (fI i) (fdI i) ("self" :: flds i) (spErr (D.c i) (flds i))) (B0 : ∀ i, i < 43 → Binds K (fdI i) ("self" :: flds i) []) (B : ∀ i, i < 43 → KBn K (fdI i) ("self" :: flds i) 1 (flds i).reverse (fun us ws => us ++ ws.reverse) revV) (hr : Room 2 (A.deeper (envOfC "_law_made_c" (defScope s_l_made_c) s.heap.objs.size f (.ref cX)))) :
    PS (cxOf CX0 P w K mg base N_l_made_c "_law_made_c" (defScope s_l_made_c) f (.ref cX) A outer s H E).nox (stm (defBody s_l_made_c) 4) (tDrop (tBM K "list" (rAppendU) (tVar 3) (tCons (tTupU (tCons (tMkV (D.c 39) (spErr (D.c 39) ["thing"]) (tCons (tVar 0) (tNil))) (tCons (tMkKV (D.c 39) (spErr (D.c 39) ["thing"]) revV 1 (tCons (tVar 0) (tNil))) (tCons (tLamW D.PC qC (IsFld ["thing"])) (tCons (tLstB (tCons (tVar 0) (tNil))) (tNil)))))) (tNil)))) := ps_expr (pe_bm PySem.F.plainAttrs_list PySem.F.slot_list_append PySem.F.type_list_append mt_appendU (pv 3) (pa_cons (pe_tupU (pa_cons (pe_oexV (T.ox 39 (by decide)) (Y.ini 39 (by decide)) (Y.tyi 39 (by decide)) (I 39 (by decide)) (hr.mono (by decide)) (B0 39 (by decide)) pass0 rfl (T.g 39 (by decide)) (pa_cons (pv 0) (pa_nil))) (pa_cons (pe_oexKV (ks := ["thing"]) (T.ox 39 (by decide)) (Y.ini 39 (by decide)) (Y.tyi 39 (by decide)) (I 39 (by decide)) (hr.mono (by decide)) (B 39 (by decide)) pass0 rfl (T.g 39 (by decide)) (pk_cons (pv 0) (pk_nil))) (pa_cons (pe_lamW (IsFld ["thing"]) TB rfl (by rfl) (fun c0 => ⟨rfl, fun pm ctv us h => match us, h with | [_], _ => rfl, nscope_by (by rfl), .inl ⟨_, _, _, _, rfl, rfl⟩⟩)) (pa_cons (pe_lstB (pa_cons (pv 0) (pa_nil))) (pa_nil)))))) (pa_nil)))
theorem rw_l_made_c_5 {cX f : Addr} {A : Around} {outer : List Env} {s : Shared} {H : Hp} {E : XK} (T : Txt K mg D) (TB : TabB base mg cX D.PC) {fI : Nat → Addr} {fdI : Nat → FuncData} (Y : TxtI K D fI) (I : ∀ i, i < 43 → FnOk P w K mg base CX0 1 (fI i) (fdI i) ("self" :: flds i) (spErr (D.c i) (flds i))) (B0 : ∀ i, i < 43 → Binds K (fdI i) ("self" :: flds i) []) (B : ∀ i, i < 43 → KBn K (fdI i) ("self" :: flds i) 1 (flds i).reverse (fun us ws => us ++ ws.reverse) revV) (hr : Room 2 (A.deeper (envOfC "_law_made_c" (defScope s_l_made_c) s.heap.objs.size f (.ref cX)))) :
    PS (cxOf CX0 P w K mg base N_l_made_c "_law_made_c" (defScope s_l_made_c) f (.ref cX) A outer s H E).nox (stm (defBody s_l_made_c) 5) (tDrop (tBM K "list" (rAppendU) (tVar 3) (tCons (tTupU (tCons (tMkV (D.c 40) (spErr (D.c 40) ["fault"]) (tCons (tVar 0) (tNil))) (tCons (tMkKV (D.c 40) (spErr (D.c 40) ["fault"]) revV 1 (tCons (tVar 0) (tNil))) (tCons (tLamW D.PC qC (IsFld ["fault"])) (tCons (tLstB (tCons (tVar 0) (tNil))) (tNil)))))) (tNil)))) := ps_expr (pe_bm PySem.F.plainAttrs_list PySem.F.slot_list_append PySem.F.type_list_append mt_appendU (pv 3) (pa_cons (pe_tupU (pa_cons (pe_oexV (T.ox 40 (by decide)) (Y.ini 40 (by decide)) (Y.tyi 40 (by decide)) (I 40 (by decide)) (hr.mono (by decide)) (B0 40 (by decide)) pass0 rfl (T.g 40 (by decide)) (pa_cons (pv 0) (pa_nil))) (pa_cons (pe_oexKV (ks := ["fault"]) (T.ox 40 (by decide)) (Y.ini 40 (by decide)) (Y.tyi 40 (by decide)) (I 40 (by decide)) (hr.mono (by decide)) (B 40 (by decide)) pass0 rfl (T.g 40 (by decide)) (pk_cons (pv 0) (pk_nil))) (pa_cons (pe_lamW (IsFld ["fault"]) TB rfl (by rfl) (fun c0 => ⟨rfl, fun pm ctv us h => match us, h with | [_], _ => rfl, nscope_by (by rfl), .inl ⟨_, _, _, _, rfl, rfl⟩⟩)) (pa_cons (pe_lstB (pa_cons (pv 0) (pa_nil))) (pa_nil)))))) (pa_nil)))
theorem rw_l_made_c_6 {cX f : Addr} {A : Around} {outer : List Env} {s : Shared} {H : Hp} {E : XK} (T : Txt K mg D) (TB : TabB base mg cX D.PC) {fI : Nat → Addr} {fdI : Nat → FuncData} (Y : TxtI K D fI) (I : ∀ i, i < 43 → FnOk P w K mg base CX0 1 (fI i) (fdI i) ("self" :: flds i) (spErr (D.c i) (flds i))) (B0 : ∀ i, i < 43 → Binds K (fdI i) ("self" :: flds i) []) (B : ∀ i, i < 43 → KBn K (fdI i) ("self" :: flds i) 1 (flds i).reverse (fun us ws => us ++ ws.reverse) revV) (hr : Room 2 (A.deeper (envOfC "_law_made_c" (defScope s_l_made_c) s.heap.objs.size f (.ref cX)))) :
    PS (cxOf CX0 P w K mg base N_l_made_c "_law_made_c" (defScope s_l_made_c) f (.ref cX) A outer s H E).nox (stm (defBody s_l_made_c) 6) (tDrop (tBM K "list" (rAppendU) (tVar 3) (tCons (tTupU (tCons (tMkV (D.c 41) (spErr (D.c 41) ["question"]) (tCons (tVar 0) (tNil))) (tCons (tMkKV (D.c 41) (spErr (D.c 41) ["question"]) revV 1 (tCons (tVar 0) (tNil))) (tCons (tLamW D.PC qC (IsFld ["question"])) (tCons (tLstB (tCons (tVar 0) (tNil))) (tNil)))))) (tNil)))) := ps_expr (pe_bm PySem.F.plainAttrs_list PySem.F.slot_list_append PySem.F.type_list_append mt_appendU (pv 3) (pa_cons (pe_tupU (pa_cons (pe_oexV (T.ox 41 (by decide)) (Y.ini 41 (by decide)) (Y.tyi 41 (by decide)) (I 41 (by decide)) (hr.mono (by decide)) (B0 41 (by decide)) pass0 rfl (T.g 41 (by decide)) (pa_cons (pv 0) (pa_nil))) (pa_cons (pe_oexKV (ks := ["question"]) (T.ox 41 (by decide)) (Y.ini 41 (by decide)) (Y.tyi 41 (by decide)) (I 41 (by decide)) (hr.mono (by decide)) (B 41 (by decide)) pass0 rfl (T.g 41 (by decide)) (pk_cons (pv 0) (pk_nil))) (pa_cons (pe_lamW (IsFld ["question"]) TB rfl (by rfl) (fun c0 => ⟨rfl, fun pm ctv us h => match us, h with | [_], _ => rfl, nscope_by (by rfl), .inl ⟨_, _, _, _, rfl, rfl⟩⟩)) (pa_cons (pe_lstB (pa_cons (pv 0) (pa_nil))) (pa_nil)))))) (pa_nil)))
theorem rw_l_made_c_7 {cX f : Addr} {A : Around} {outer : List Env} {s : Shared} {H : Hp} {E : XK} (T : Txt K mg D) (TB : TabB base mg cX D.PC) {fI : Nat → Addr} {fdI : Nat → FuncData} (Y : TxtI K D fI) (I : ∀ i, i < 43 → FnOk P w K mg base CX0 1 (fI i) (fdI i) ("self" :: flds i) (spErr (D.c i) (flds i))) (B0 : ∀ i, i < 43 → Binds K (fdI i) ("self" :: flds i) []) (B : ∀ i, i < 43 → KBn K (fdI i) ("self" :: flds i) 1 (flds i).reverse (fun us ws => us ++ ws.reverse) revV) (hr : Room 2 (A.deeper (envOfC "_law_made_c" (defScope s_l_made_c) s.heap.objs.size f (.ref cX)))) :
    PS (cxOf CX0 P w K mg base N_l_made_c "_law_made_c" (defScope s_l_made_c) f (.ref cX) A outer s H E).nox (stm (defBody s_l_made_c) 7) (tDrop (tBM K "list" (rAppendU) (tVar 3) (tCons (tTupU (tCons (tMkV (D.c 42) (spErr (D.c 42) ["question", "why"]) (tCons (tVar 0) (tCons (tVar 1) (tNil)))) (tCons (tMkKV (D.c 42) (spErr (D.c 42) ["question", "why"]) revV 2 (tCons (tVar 1) (tCons (tVar 0) (tNil)))) (tCons (tLamW D.PC qC (IsFld ["question", "why"])) (tCons (tLstB (tCons (tVar 0) (tCons (tVar 1) (tNil)))) (tNil)))))) (tNil)))) := ps_expr (pe_bm PySem.F.plainAttrs_list PySem.F.slot_list_append PySem.F.type_list_append mt_appendU (pv 3) (pa_cons (pe_tupU (pa_cons (pe_oexV (T.ox 42 (by decide)) (Y.ini 42 (by decide)) (Y.tyi 42 (by decide)) (I 42 (by decide)) (hr.mono (by decide)) (B0 42 (by decide)) pass0 rfl (T.g 42 (by decide)) (pa_cons (pv 0) (pa_cons (pv 1) (pa_nil)))) (pa_cons (pe_oexKV (ks := ["why", "question"]) (T.ox 42 (by decide)) (Y.ini 42 (by decide)) (Y.tyi 42 (by decide)) (I 42 (by decide)) (hr.mono (by decide)) (B 42 (by decide)) pass0 rfl (T.g 42 (by decide)) (pk_cons (pv 1) (pk_cons (pv 0) (pk_nil)))) (pa_cons (pe_lamW (IsFld ["question", "why"]) TB rfl (by rfl) (fun c0 => ⟨rfl, fun pm ctv us h => match us, h with | [_], _ => rfl, nscope_by (by rfl), .inr ⟨_, _, _, _, _, _, _, rfl, rfl⟩⟩)) (pa_cons (pe_lstB (pa_cons (pv 0) (pa_cons (pv 1) (pa_nil)))) (pa_nil)))))) (pa_nil)))
theorem ok_l_made_c {f : Addr} {fd : FuncData} {cX : Addr} (F : FunC K "_law_made_c" "_law_made_c" s_l_made_c f fd cX) (b : Binds K fd ["_law_x", "_law_y", "_law_z"] []) (hf : mg "_law_made_c" = some (.ref f)) (T : Txt K mg D)  (TB : TabB base mg cX D.PC) {fI : Nat → Addr} {fdI : Nat → FuncData} (Y : TxtI K D fI) (I : ∀ i, i < 43 → FnOk P w K mg base CX0 1 (fI i) (fdI i) ("self" :: flds i) (spErr (D.c i) (flds i))) (B0 : ∀ i, i < 43 → Binds K (fdI i) ("self" :: flds i) []) (B : ∀ i, i < 43 → KBn K (fdI i) ("self" :: flds i) 1 (flds i).reverse (fun us ws => us ++ ws.reverse) revV) : Cal P w K mg base 3 "_law_made_c" (spMade D D.PC qC 36 7) [] := by
  refine ⟨f, fd, ["_law_x", "_law_y", "_law_z"], [], F.ok sc_l_made_c (fun vs H Q E h => ?_) (fun A outer s H vs Q E hr h => ⟨t_l_made_c K D, ?_, rd_l_made_c K D h⟩), hf, F.kp, b, .nil⟩
  · unfold spMade at h
    repeat (first | (obtain ⟨rfl, _⟩ := h; rfl) | (obtain ⟨_, h⟩ := h))
  · exact pss_cons (ps_set (i := 3) sc_l_made_c.nd rfl (Or.inl rfl) (pe_lstU (pa_nil)))
      (pss_cons (rw_l_made_c_1 T TB Y I B0 B hr)
      (pss_cons (rw_l_made_c_2 T TB Y I B0 B hr)
      (pss_cons (rw_l_made_c_3 T TB Y I B0 B hr)
      (pss_cons (rw_l_made_c_4 T TB Y I B0 B hr)
      (pss_cons (rw_l_made_c_5 T TB Y I B0 B hr)
      (pss_cons (rw_l_made_c_6 T TB Y I B0 B hr)
      (pss_cons (rw_l_made_c_7 T TB Y I B0 B hr)
      (pss_one (ps_ret (pv 3))))))))))

theorem ok_l_kinds_a {f : Addr} {fd : FuncData} (F : Fun K "_law_kinds_a" "_law_kinds_a" s_l_kinds_a f fd) (b : Binds K fd ["_law_e"] []) (hf : mg "_law_kinds_a" = some (.ref f)) (T : Txt K mg D)   : Cal P w K mg base 1 "_law_kinds_a" (spKinds D 0 18) [] := by
  refine ⟨f, fd, ["_law_e"], [], F.ok sc_l_kinds_a (fun vs H Q E h => ?_) (fun cdv A outer s H vs Q E hr h => ⟨t_l_kinds_a K D, ?_, rd_l_kinds_a T.kit h⟩), hf, F.kp, b, .nil⟩
  · unfold spKinds at h
    repeat (first | (obtain ⟨rfl, _⟩ := h; rfl) | (obtain ⟨_, h⟩ := h))
  · exact pss_cons (ps_set (i := 1) sc_l_kinds_a.nd rfl (Or.inl rfl) (pe_lstU (pa_nil)))
      (pss_cons (ps_expr (pe_bm PySem.F.plainAttrs_list PySem.F.slot_list_extend PySem.F.type_list_extend mt_extendU (pv 1) (pa_cons (pe_lstU (pa_cons (pe_callB (call_isX T.xc) (by rfl) T.n_isinstance (by decide +kernel) (pa_cons (pv 0) (pa_cons (pe_gc rfl ⟨_, T.g 0 (by decide), rfl⟩) pa_nil))) (pa_cons (pe_callB (call_isX T.xc) (by rfl) T.n_isinstance (by decide +kernel) (pa_cons (pv 0) (pa_cons (pe_gc rfl ⟨_, T.g 1 (by decide), rfl⟩) pa_nil))) (pa_nil)))) (pa_nil))))
      (pss_cons (ps_expr (pe_bm PySem.F.plainAttrs_list PySem.F.slot_list_extend PySem.F.type_list_extend mt_extendU (pv 1) (pa_cons (pe_lstU (pa_cons (pe_callB (call_isX T.xc) (by rfl) T.n_isinstance (by decide +kernel) (pa_cons (pv 0) (pa_cons (pe_gc rfl ⟨_, T.g 2 (by decide), rfl⟩) pa_nil))) (pa_cons (pe_callB (call_isX T.xc) (by rfl) T.n_isinstance (by decide +kernel) (pa_cons (pv 0) (pa_cons (pe_gc rfl ⟨_, T.g 3 (by decide), rfl⟩) pa_nil))) (pa_nil)))) (pa_nil))))
      (pss_cons (ps_expr (pe_bm PySem.F.plainAttrs_list PySem.F.slot_list_extend PySem.F.type_list_extend mt_extendU (pv 1) (pa_cons (pe_lstU (pa_cons (pe_callB (call_isX T.xc) (by rfl) T.n_isinstance (by decide +kernel) (pa_cons (pv 0) (pa_cons (pe_gc rfl ⟨_, T.g 4 (by decide), rfl⟩) pa_nil))) (pa_cons (pe_callB (call_isX T.xc) (by rfl) T.n_isinstance (by decide +kernel) (pa_cons (pv 0) (pa_cons (pe_gc rfl ⟨_, T.g 5 (by decide), rfl⟩) pa_nil))) (pa_nil)))) (pa_nil))))
      (pss_cons (ps_expr (pe_bm PySem.F.plainAttrs_list PySem.F.slot_list_extend PySem.F.type_list_extend mt_extendU (pv 1) (pa_cons (pe_lstU (pa_cons (pe_callB (call_isX T.xc) (by rfl) T.n_isinstance (by decide +kernel) (pa_cons (pv 0) (pa_cons (pe_gc rfl ⟨_, T.g 6 (by decide), rfl⟩) pa_nil))) (pa_cons (pe_callB (call_isX T.xc) (by rfl) T.n_isinstance (by decide +kernel) (pa_cons (pv 0) (pa_cons (pe_gc rfl ⟨_, T.g 7 (by decide), rfl⟩) pa_nil))) (pa_nil)))) (pa_nil))))
      (pss_cons (ps_expr (pe_bm PySem.F.plainAttrs_list PySem.F.slot_list_extend PySem.F.type_list_extend mt_extendU (pv 1) (pa_cons (pe_lstU (pa_cons (pe_callB (call_isX T.xc) (by rfl) T.n_isinstance (by decide +kernel) (pa_cons (pv 0) (pa_cons (pe_gc rfl ⟨_, T.g 8 (by decide), rfl⟩) pa_nil))) (pa_cons (pe_callB (call_isX T.xc) (by rfl) T.n_isinstance (by decide +kernel) (pa_cons (pv 0) (pa_cons (pe_gc rfl ⟨_, T.g 9 (by decide), rfl⟩) pa_nil))) (pa_nil)))) (pa_nil))))
      (pss_cons (ps_expr (pe_bm PySem.F.plainAttrs_list PySem.F.slot_list_extend PySem.F.type_list_extend mt_extendU (pv 1) (pa_cons (pe_lstU (pa_cons (pe_callB (call_isX T.xc) (by rfl) T.n_isinstance (by decide +kernel) (pa_cons (pv 0) (pa_cons (pe_gc rfl ⟨_, T.g 10 (by decide), rfl⟩) pa_nil))) (pa_cons (pe_callB (call_isX T.xc) (by rfl) T.n_isinstance (by decide +kernel) (pa_cons (pv 0) (pa_cons (pe_gc rfl ⟨_, T.g 11 (by decide), rfl⟩) pa_nil))) (pa_nil)))) (pa_nil))))
      (pss_cons (ps_expr (pe_bm PySem.F.plainAttrs_list PySem.F.slot_list_extend PySem.F.type_list_extend mt_extendU (pv 1) (pa_cons (pe_lstU (pa_cons (pe_callB (call_isX T.xc) (by rfl) T.n_isinstance (by decide +kernel) (pa_cons (pv 0) (pa_cons (pe_gc rfl ⟨_, T.g 12 (by decide), rfl⟩) pa_nil))) (pa_cons (pe_callB (call_isX T.xc) (by rfl) T.n_isinstance (by decide +kernel) (pa_cons (pv 0) (pa_cons (pe_gc rfl ⟨_, T.g 13 (by decide), rfl⟩) pa_nil))) (pa_nil)))) (pa_nil))))
      (pss_cons (ps_expr (pe_bm PySem.F.plainAttrs_list PySem.F.slot_list_extend PySem.F.type_list_extend mt_extendU (pv 1) (pa_cons (pe_lstU (pa_cons (pe_callB (call_isX T.xc) (by rfl) T.n_isinstance (by decide +kernel) (pa_cons (pv 0) (pa_cons (pe_gc rfl ⟨_, T.g 14 (by decide), rfl⟩) pa_nil))) (pa_cons (pe_callB (call_isX T.xc) (by rfl) T.n_isinstance (by decide +kernel) (pa_cons (pv 0) (pa_cons (pe_gc rfl ⟨_, T.g 15 (by decide), rfl⟩) pa_nil))) (pa_nil)))) (pa_nil))))
      (pss_cons (ps_expr (pe_bm PySem.F.plainAttrs_list PySem.F.slot_list_extend PySem.F.type_list_extend mt_extendU (pv 1) (pa_cons (pe_lstU (pa_cons (pe_callB (call_isX T.xc) (by rfl) T.n_isinstance (by decide +kernel) (pa_cons (pv 0) (pa_cons (pe_gc rfl ⟨_, T.g 16 (by decide), rfl⟩) pa_nil))) (pa_cons (pe_callB (call_isX T.xc) (by rfl) T.n_isinstance (by decide +kernel) (pa_cons (pv 0) (pa_cons (pe_gc rfl ⟨_, T.g 17 (by decide), rfl⟩) pa_nil))) (pa_nil)))) (pa_nil))))
      (pss_one (ps_ret (pv 1))))))))))))

theorem ok_l_kinds_b {f : Addr} {fd : FuncData} (F : Fun K "_law_kinds_b" "_law_kinds_b" s_l_kinds_b f fd) (b : Binds K fd ["_law_e"] []) (hf : mg "_law_kinds_b" = some (.ref f)) (T : Txt K mg D)   : Cal P w K mg base 1 "_law_kinds_b" (spKinds D 18 18) [] := by
  refine ⟨f, fd, ["_law_e"], [], F.ok sc_l_kinds_b (fun vs H Q E h => ?_) (fun cdv A outer s H vs Q E hr h => ⟨t_l_kinds_b K D, ?_, rd_l_kinds_b T.kit h⟩), hf, F.kp, b, .nil⟩
  · unfold spKinds at h
    repeat (first | (obtain ⟨rfl, _⟩ := h; rfl) | (obtain ⟨_, h⟩ := h))
  · exact pss_cons (ps_set (i := 1) sc_l_kinds_b.nd rfl (Or.inl rfl) (pe_lstU (pa_nil)))
      (pss_cons (ps_expr (pe_bm PySem.F.plainAttrs_list PySem.F.slot_list_extend PySem.F.type_list_extend mt_extendU (pv 1) (pa_cons (pe_lstU (pa_cons (pe_callB (call_isX T.xc) (by rfl) T.n_isinstance (by decide +kernel) (pa_cons (pv 0) (pa_cons (pe_gc rfl ⟨_, T.g 18 (by decide), rfl⟩) pa_nil))) (pa_cons (pe_callB (call_isX T.xc) (by rfl) T.n_isinstance (by decide +kernel) (pa_cons (pv 0) (pa_cons (pe_gc rfl ⟨_, T.g 19 (by decide), rfl⟩) pa_nil))) (pa_nil)))) (pa_nil))))
      (pss_cons (ps_expr (pe_bm PySem.F.plainAttrs_list PySem.F.slot_list_extend PySem.F.type_list_extend mt_extendU (pv 1) (pa_cons (pe_lstU (pa_cons (pe_callB (call_isX T.xc) (by rfl) T.n_isinstance (by decide +kernel) (pa_cons (pv 0) (pa_cons (pe_gc rfl ⟨_, T.g 20 (by decide), rfl⟩) pa_nil))) (pa_cons (pe_callB (call_isX T.xc) (by rfl) T.n_isinstance (by decide +kernel) (pa_cons (pv 0) (pa_cons (pe_gc rfl ⟨_, T.g 21 (by decide), rfl⟩) pa_nil))) (pa_nil)))) (pa_nil))))
      (pss_cons (ps_expr (pe_bm PySem.F.plainAttrs_list PySem.F.slot_list_extend PySem.F.type_list_extend mt_extendU (pv 1) (pa_cons (pe_lstU (pa_cons (pe_callB (call_isX T.xc) (by rfl) T.n_isinstance (by decide +kernel) (pa_cons (pv 0) (pa_cons (pe_gc rfl ⟨_, T.g 22 (by decide), rfl⟩) pa_nil))) (pa_cons (pe_callB (call_isX T.xc) (by rfl) T.n_isinstance (by decide +kernel) (pa_cons (pv 0) (pa_cons (pe_gc rfl ⟨_, T.g 23 (by decide), rfl⟩) pa_nil))) (pa_nil)))) (pa_nil))))
      (pss_cons (ps_expr (pe_bm PySem.F.plainAttrs_list PySem.F.slot_list_extend PySem.F.type_list_extend mt_extendU (pv 1) (pa_cons (pe_lstU (pa_cons (pe_callB (call_isX T.xc) (by rfl) T.n_isinstance (by decide +kernel) (pa_cons (pv 0) (pa_cons (pe_gc rfl ⟨_, T.g 24 (by decide), rfl⟩) pa_nil))) (pa_cons (pe_callB (call_isX T.xc) (by rfl) T.n_isinstance (by decide +kernel) (pa_cons (pv 0) (pa_cons (pe_gc rfl ⟨_, T.g 25 (by decide), rfl⟩) pa_nil))) (pa_nil)))) (pa_nil))))
      (pss_cons (ps_expr (pe_bm PySem.F.plainAttrs_list PySem.F.slot_list_extend PySem.F.type_list_extend mt_extendU (pv 1) (pa_cons (pe_lstU (pa_cons (pe_callB (call_isX T.xc) (by rfl) T.n_isinstance (by decide +kernel) (pa_cons (pv 0) (pa_cons (pe_gc rfl ⟨_, T.g 26 (by decide), rfl⟩) pa_nil))) (pa_cons (pe_callB (call_isX T.xc) (by rfl) T.n_isinstance (by decide +kernel) (pa_cons (pv 0) (pa_cons (pe_gc rfl ⟨_, T.g 27 (by decide), rfl⟩) pa_nil))) (pa_nil)))) (pa_nil))))
      (pss_cons (ps_expr (pe_bm PySem.F.plainAttrs_list PySem.F.slot_list_extend PySem.F.type_list_extend mt_extendU (pv 1) (pa_cons (pe_lstU (pa_cons (pe_callB (call_isX T.xc) (by rfl) T.n_isinstance (by decide +kernel) (pa_cons (pv 0) (pa_cons (pe_gc rfl ⟨_, T.g 28 (by decide), rfl⟩) pa_nil))) (pa_cons (pe_callB (call_isX T.xc) (by rfl) T.n_isinstance (by decide +kernel) (pa_cons (pv 0) (pa_cons (pe_gc rfl ⟨_, T.g 29 (by decide), rfl⟩) pa_nil))) (pa_nil)))) (pa_nil))))
      (pss_cons (ps_expr (pe_bm PySem.F.plainAttrs_list PySem.F.slot_list_extend PySem.F.type_list_extend mt_extendU (pv 1) (pa_cons (pe_lstU (pa_cons (pe_callB (call_isX T.xc) (by rfl) T.n_isinstance (by decide +kernel) (pa_cons (pv 0) (pa_cons (pe_gc rfl ⟨_, T.g 30 (by decide), rfl⟩) pa_nil))) (pa_cons (pe_callB (call_isX T.xc) (by rfl) T.n_isinstance (by decide +kernel) (pa_cons (pv 0) (pa_cons (pe_gc rfl ⟨_, T.g 31 (by decide), rfl⟩) pa_nil))) (pa_nil)))) (pa_nil))))
      (pss_cons (ps_expr (pe_bm PySem.F.plainAttrs_list PySem.F.slot_list_extend PySem.F.type_list_extend mt_extendU (pv 1) (pa_cons (pe_lstU (pa_cons (pe_callB (call_isX T.xc) (by rfl) T.n_isinstance (by decide +kernel) (pa_cons (pv 0) (pa_cons (pe_gc rfl ⟨_, T.g 32 (by decide), rfl⟩) pa_nil))) (pa_cons (pe_callB (call_isX T.xc) (by rfl) T.n_isinstance (by decide +kernel) (pa_cons (pv 0) (pa_cons (pe_gc rfl ⟨_, T.g 33 (by decide), rfl⟩) pa_nil))) (pa_nil)))) (pa_nil))))
      (pss_cons (ps_expr (pe_bm PySem.F.plainAttrs_list PySem.F.slot_list_extend PySem.F.type_list_extend mt_extendU (pv 1) (pa_cons (pe_lstU (pa_cons (pe_callB (call_isX T.xc) (by rfl) T.n_isinstance (by decide +kernel) (pa_cons (pv 0) (pa_cons (pe_gc rfl ⟨_, T.g 34 (by decide), rfl⟩) pa_nil))) (pa_cons (pe_callB (call_isX T.xc) (by rfl) T.n_isinstance (by decide +kernel) (pa_cons (pv 0) (pa_cons (pe_gc rfl ⟨_, T.g 35 (by decide), rfl⟩) pa_nil))) (pa_nil)))) (pa_nil))))
      (pss_one (ps_ret (pv 1))))))))))))

theorem ok_l_kinds_c {f : Addr} {fd : FuncData} (F : Fun K "_law_kinds_c" "_law_kinds_c" s_l_kinds_c f fd) (b : Binds K fd ["_law_e"] []) (hf : mg "_law_kinds_c" = some (.ref f)) (T : Txt K mg D)   : Cal P w K mg base 1 "_law_kinds_c" (spKinds D 36 7) [] := by
  refine ⟨f, fd, ["_law_e"], [], F.ok sc_l_kinds_c (fun vs H Q E h => ?_) (fun cdv A outer s H vs Q E hr h => ⟨t_l_kinds_c K D, ?_, rd_l_kinds_c T.kit h⟩), hf, F.kp, b, .nil⟩
  · unfold spKinds at h
    repeat (first | (obtain ⟨rfl, _⟩ := h; rfl) | (obtain ⟨_, h⟩ := h))
  · exact pss_cons (ps_set (i := 1) sc_l_kinds_c.nd rfl (Or.inl rfl) (pe_lstU (pa_nil)))
      (pss_cons (ps_expr (pe_bm PySem.F.plainAttrs_list PySem.F.slot_list_extend PySem.F.type_list_extend mt_extendU (pv 1) (pa_cons (pe_lstU (pa_cons (pe_callB (call_isX T.xc) (by rfl) T.n_isinstance (by decide +kernel) (pa_cons (pv 0) (pa_cons (pe_gc rfl ⟨_, T.g 36 (by decide), rfl⟩) pa_nil))) (pa_cons (pe_callB (call_isX T.xc) (by rfl) T.n_isinstance (by decide +kernel) (pa_cons (pv 0) (pa_cons (pe_gc rfl ⟨_, T.g 37 (by decide), rfl⟩) pa_nil))) (pa_nil)))) (pa_nil))))
      (pss_cons (ps_expr (pe_bm PySem.F.plainAttrs_list PySem.F.slot_list_extend PySem.F.type_list_extend mt_extendU (pv 1) (pa_cons (pe_lstU (pa_cons (pe_callB (call_isX T.xc) (by rfl) T.n_isinstance (by decide +kernel) (pa_cons (pv 0) (pa_cons (pe_gc rfl ⟨_, T.g 38 (by decide), rfl⟩) pa_nil))) (pa_cons (pe_callB (call_isX T.xc) (by rfl) T.n_isinstance (by decide +kernel) (pa_cons (pv 0) (pa_cons (pe_gc rfl ⟨_, T.g 39 (by decide), rfl⟩) pa_nil))) (pa_nil)))) (pa_nil))))
      (pss_cons (ps_expr (pe_bm PySem.F.plainAttrs_list PySem.F.slot_list_extend PySem.F.type_list_extend mt_extendU (pv 1) (pa_cons (pe_lstU (pa_cons (pe_callB (call_isX T.xc) (by rfl) T.n_isinstance (by decide +kernel) (pa_cons (pv 0) (pa_cons (pe_gc rfl ⟨_, T.g 40 (by decide), rfl⟩) pa_nil))) (pa_cons (pe_callB (call_isX T.xc) (by rfl) T.n_isinstance (by decide +kernel) (pa_cons (pv 0) (pa_cons (pe_gc rfl ⟨_, T.g 41 (by decide), rfl⟩) pa_nil))) (pa_nil)))) (pa_nil))))
      (pss_cons (ps_expr (pe_bm PySem.F.plainAttrs_list PySem.F.slot_list_extend PySem.F.type_list_extend mt_extendU (pv 1) (pa_cons (pe_lstU (pa_cons (pe_callB (call_isX T.xc) (by rfl) T.n_isinstance (by decide +kernel) (pa_cons (pv 0) (pa_cons (pe_gc rfl ⟨_, T.g 42 (by decide), rfl⟩) pa_nil))) (pa_nil))) (pa_nil))))
      (pss_one (ps_ret (pv 1)))))))

theorem ok_l_kinds {f : Addr} {fd : FuncData} (F : Fun K "_law_kinds" "_law_kinds" s_l_kinds f fd) (b : Binds K fd ["_law_e"] []) (hf : mg "_law_kinds" = some (.ref f)) (T : Txt K mg D) (C_l_kinds_a : Cal P w K mg base 1 "_law_kinds_a" (spKinds D 0 18) []) (C_l_kinds_b : Cal P w K mg base 1 "_law_kinds_b" (spKinds D 18 18) []) (C_l_kinds_c : Cal P w K mg base 1 "_law_kinds_c" (spKinds D 36 7) [])  : Cal P w K mg base 2 "_law_kinds" (spKinds D 0 43) [] := by
  refine ⟨f, fd, ["_law_e"], [], F.ok sc_l_kinds (fun vs H Q E h => ?_) (fun cdv A outer s H vs Q E hr h => ⟨t_l_kinds K D, ?_, rd_l_kinds h⟩), hf, F.kp, b, .nil⟩
  · unfold spKinds at h
    repeat (first | (obtain ⟨rfl, _⟩ := h; rfl) | (obtain ⟨_, h⟩ := h))
  · exact pss_one (ps_ret (pe_op op_addU (pe_op op_addU (pe_c C_l_kinds_a hr (by decide) rfl (pa_cons (pv 0) (pa_nil))) (pe_c C_l_kinds_b hr (by decide) rfl (pa_cons (pv 0) (pa_nil)))) (pe_c C_l_kinds_c hr (by decide) rfl (pa_cons (pv 0) (pa_nil)))))

theorem ok_l_is_own {f : Addr} {fd : FuncData} (F : Fun K "_law_is_own" "_law_is_own" s_l_is_own f fd) (b : Binds K fd ["_law_e", "_law_at"] []) (hf : mg "_law_is_own" = some (.ref f)) (T : Txt K mg D) (C_l_kinds : Cal P w K mg base 2 "_law_kinds" (spKinds D 0 43) [])  : Cal P w K mg base 3 "_law_is_own" (spIsOwn D) [] := by
  refine ⟨f, fd, ["_law_e", "_law_at"], [], F.ok sc_l_is_own (fun vs H Q E h => ?_) (fun cdv A outer s H vs Q E hr h => ⟨t_l_is_own K D, ?_, rd_l_is_own T.kit h⟩), hf, F.kp, b, .nil⟩
  · unfold spIsOwn at h
    repeat (first | (obtain ⟨rfl, _⟩ := h; rfl) | (obtain ⟨_, h⟩ := h))
  · exact pss_cons (ps_if (PW.pt (pw_or (pt_not (pt_val (pe_callB (call_isX T.xc) (by rfl) T.n_isinstance (by decide +kernel) (pa_cons (pv 0) (pa_cons (pe_gc rfl ⟨_, T.gE, rfl⟩) pa_nil))))) (pw_or (pt_not (pt_val (pe_callB (call_isX T.xc) (by rfl) T.n_isinstance (by decide +kernel) (pa_cons (pv 0) (pa_cons (pe_bltn rfl T.n_ValueError (by decide +kernel) rfl) pa_nil))))) (pw_or1 (pt_val (pe_callB (call_isX T.xc) (by rfl) T.n_isinstance (by decide +kernel) (pa_cons (pv 0) (pa_cons (pe_bltn rfl T.n_LookupError (by decide +kernel) rfl) pa_nil)))))))) (pss_one (ps_ret (pe_bl))) (pss_nil))
      (pss_one (ps_ret (pe_cmpR (op_eqU hr.units) (pe_c C_l_kinds hr (by decide) rfl (pa_cons (pv 0) (pa_nil))) (pe_lcU (own := [("_law_k", 2)]) (g := gName 2) (tt := tYes) rfl sc_l_is_own.nd (pi_range1 rfl T.n_range (pa_cons (pe_int) (pa_nil))) (blkOk_by (N := N_l_is_own) (sc := defScope s_l_is_own) (by decide +kernel)) (fun _ _ _ _ _ => pg_name (i := 2) sc_l_is_own.nd rfl (Or.inl rfl)) (fun _ _ _ _ _ => pts_nil) (fun _ _ _ _ _ => pe_cmpR (op_eqU hr.units) (pv 2) (pv 1) (nomark _))) (nomark _))))

theorem ok_l_are_these {f : Addr} {fd : FuncData} (F : Fun K "_law_are_these" "_law_are_these" s_l_are_these f fd) (b : Binds K fd ["_law_found", "_law_due"] []) (T : Txt K mg D)   : FnG P w K mg base 1 f ["_law_found", "_law_due"] spThese := by
  refine Fun.okG F sc_l_are_these b (fun vs H Q E h => ?_) (fun cdv A outer s H vs Q E hg hr h => ⟨t_l_are_these K D, ?_, rd_l_are_these h⟩)
  · unfold spThese at h
    repeat (first | (obtain ⟨rfl, _⟩ := h; rfl) | (obtain ⟨_, h⟩ := h))
  · exact pss_one (ps_ret (pe_and (pe_cmpR (op_eqU hr.units) (pe_callB (call_reprS hg (hu65 hr)) (by rfl) T.n_repr (by decide +kernel) (pa_cons (pv 0) (pa_nil))) (pe_callB (call_reprS hg (hu65 hr)) (by rfl) T.n_repr (by decide +kernel) (pa_cons (pv 1) (pa_nil))) (nomark _)) (pe_one (pe_cmpR (op_eqU hr.units) (pe_callB call_lenU (by rfl) T.n_len (by decide +kernel) (pa_cons (pv 0) (pa_nil))) (pe_callB call_lenU (by rfl) T.n_len (by decide +kernel) (pa_cons (pv 1) (pa_nil))) (nomark _)))))

theorem ok_law {f : Addr} {fd : FuncData} (F : Fun K "law" "law" s_law f fd) (b : Binds K fd ["_law_script"] []) (T : Txt K mg D) (C_l_start : Cal P w K mg base 1 "_law_start" (spStart K) []) (C_l_mixed : Cal P w K mg base 2 "_law_mixed" spMixed []) (C_l_made_a : Cal P w K mg base 3 "_law_made_a" (spMade D D.PA qA 0 18) []) (C_l_made_b : Cal P w K mg base 3 "_law_made_b" (spMade D D.PB qB 18 18) []) (C_l_made_c : Cal P w K mg base 3 "_law_made_c" (spMade D D.PC qC 36 7) []) (C_l_is_own : Cal P w K mg base 3 "_law_is_own" (spIsOwn D) []) (C_l_are_these : CalG P w K mg base 1 "_law_are_these" spThese) (C_l_kinds : Cal P w K mg base 2 "_law_kinds" (spKinds D 0 43) [])  : FnG P w K mg base 4 f ["_law_script"] (spLaw0 K D) := by
  refine Fun.okG F sc_law b (fun vs H Q E h => ?_) (fun cdv A outer s H vs Q E hg hr h => ⟨t0_law K D, ?_, rd0_law T.kit h⟩)
  · unfold spLaw0 at h
    repeat (first | (obtain ⟨rfl, _⟩ := h; rfl) | (obtain ⟨_, h⟩ := h))
  · exact pss_cons (ps_set (i := 1) sc_law.nd rfl (Or.inl rfl) (pe_c C_l_start hr (by decide) rfl (pa_cons (pv 0) (pa_nil))))
      (pss_cons (ps_set (i := 2) sc_law.nd rfl (Or.inl rfl) (pe_lstB (pa_cons (pe_non) (pa_cons (pe_int) (pa_cons (pe_un un_neg (pe_int)) (pa_cons (pe_bl) (pa_cons (pe_str) (pa_cons (pe_str) (pa_cons (pe_lstB (pa_cons (pe_int) (pa_cons (pe_str) (pa_nil)))) (pa_cons (pe_tupU (pa_cons (pe_int) (pa_cons (pe_non) (pa_nil)))) (pa_cons (pe_disp (pps_cons (pe_str) (pe_int) (pps_nil)) (by rfl) (by rfl) (fun z => by cases z) (by decide)) (pa_cons (pe_lstB (pa_cons (pe_lstB (pa_cons (pe_str) (pa_nil))) (pa_nil))) (pa_cons (pe_op op_pow (pe_int) (pe_int)) (pa_cons (pe_tupU (pa_cons (pe_str) (pa_cons (pe_int) (pa_nil)))) (pa_cons (pe_bl) (pa_cons (pe_int) (pa_cons (pe_int) (pa_nil))))))))))))))))))
      (pss_cons (ps_forU PassesOwn.never rfl (pi_range1 rfl T.n_range (pa_cons (pe_int) (pa_nil))) (pg_name (i := 3) sc_law.nd rfl (Or.inl rfl)) (pss_cons (ps_asg (pe_slice sl_U (pe_c C_l_mixed hr (by decide) rfl (pa_cons (pv 1) (pa_cons (pv 2) (pa_nil)))) (po_none) (po_some (pe_int))) (pg_unl rfl (pgs_cons (pg_name (i := 4) sc_law.nd rfl (Or.inl rfl)) (pgs_cons (pg_name (i := 5) sc_law.nd rfl (Or.inl rfl)) (pgs_cons (pg_name (i := 6) sc_law.nd rfl (Or.inl rfl)) (pgs_nil))))))
      (pss_cons (ps_set (i := 7) sc_law.nd rfl (Or.inl rfl) (pe_op op_addU (pe_op op_addU (pe_c C_l_made_a hr (by decide) rfl (pa_cons (pv 4) (pa_cons (pv 5) (pa_cons (pv 6) (pa_nil))))) (pe_c C_l_made_b hr (by decide) rfl (pa_cons (pv 4) (pa_cons (pv 5) (pa_cons (pv 6) (pa_nil)))))) (pe_c C_l_made_c hr (by decide) rfl (pa_cons (pv 4) (pa_cons (pv 5) (pa_cons (pv 6) (pa_nil)))))))
      (pss_one (ps_forU PassesOwn.never rfl (pi_enumU rfl T.n_enumerate (pa_cons (pv 7) (pa_nil))) (pg_tup rfl (pgs_cons (pg_name (i := 8) sc_law.nd rfl (Or.inl rfl)) (pgs_cons (pg_tup rfl (pgs_cons (pg_name (i := 9) sc_law.nd rfl (Or.inl rfl)) (pgs_cons (pg_name (i := 10) sc_law.nd rfl (Or.inl rfl)) (pgs_cons (pg_name (i := 11) sc_law.nd rfl (Or.inl rfl)) (pgs_cons (pg_name (i := 12) sc_law.nd rfl (Or.inl rfl)) (pgs_nil)))))) (pgs_nil)))) (pss_cons (ps_if (PW.pt (pw_or (pt_not (pt_val (pe_c C_l_is_own hr (by decide) rfl (pa_cons (pv 9) (pa_cons (pv 8) (pa_nil)))))) (pw_or1 (pt_not (pt_val (pe_c C_l_is_own hr (by decide) rfl (pa_cons (pv 10) (pa_cons (pv 8) (pa_nil))))))))) (pss_one (ps_ret (pe_bl))) (pss_nil))
      (pss_one (ps_if (PW.pt (pw_or (pt_not (pt_val (pe_cG C_l_are_these hg hr (by decide) rfl (pa_cons (pe_callV T.lam (hr.mono (by decide)) (Nat.le_refl _) rfl (Or.inl rfl) (pa_cons (pv 9) (pa_nil))) (pa_cons (pv 12) (pa_nil)))))) (pw_or1 (pt_not (pt_val (pe_cG C_l_are_these hg hr (by decide) rfl (pa_cons (pe_callV T.lam (hr.mono (by decide)) (Nat.le_refl _) rfl (Or.inl rfl) (pa_cons (pv 10) (pa_nil))) (pa_cons (pv 12) (pa_nil))))))))) (pss_one (ps_ret (pe_bl))) (pss_nil)))))))))
      (pss_cons (ps_set (i := 13) sc_law.nd rfl (Or.inl rfl) (pe_lstB (pa_cons (pe_str) (pa_nil))))
      (pss_cons (ps_set (i := 7) sc_law.nd rfl (Or.inl rfl) (pe_op op_addU (pe_op op_addU (pe_c C_l_made_a hr (by decide) rfl (pa_cons (pv 13) (pa_cons (pv 13) (pa_cons (pv 13) (pa_nil))))) (pe_c C_l_made_b hr (by decide) rfl (pa_cons (pv 13) (pa_cons (pv 13) (pa_cons (pv 13) (pa_nil)))))) (pe_c C_l_made_c hr (by decide) rfl (pa_cons (pv 13) (pa_cons (pv 13) (pa_cons (pv 13) (pa_nil)))))))
      (pss_cons (ps_expr (pe_bm PySem.F.plainAttrs_list PySem.F.slot_list_append PySem.F.type_list_append mt_appendU (pv 13) (pa_cons (pe_str) (pa_nil))))
      (pss_cons (ps_forU PassesOwn.never rfl (pi_U (pv 7)) (pg_tup rfl (pgs_cons (pg_name (i := 9) sc_law.nd rfl (Or.inl rfl)) (pgs_cons (pg_name (i := 10) sc_law.nd rfl (Or.inl rfl)) (pgs_cons (pg_name (i := 11) sc_law.nd rfl (Or.inl rfl)) (pgs_cons (pg_name (i := 12) sc_law.nd rfl (Or.inl rfl)) (pgs_nil)))))) (pss_one (ps_if (PW.pt (pw_or (pt_not (pt_val (pe_cG C_l_are_these hg hr (by decide) rfl (pa_cons (pe_callV T.lam (hr.mono (by decide)) (Nat.le_refl _) rfl (Or.inl rfl) (pa_cons (pv 9) (pa_nil))) (pa_cons (pv 12) (pa_nil)))))) (pw_or1 (pt_not (pt_val (pe_cG C_l_are_these hg hr (by decide) rfl (pa_cons (pe_callV T.lam (hr.mono (by decide)) (Nat.le_refl _) rfl (Or.inl rfl) (pa_cons (pv 10) (pa_nil))) (pa_cons (pv 12) (pa_nil))))))))) (pss_one (ps_ret (pe_bl))) (pss_nil))))
      (pss_cons (ps_set (i := 14) sc_law.nd rfl (Or.inl rfl) (pe_exc0 PySem.F.excBase_ValueError T.exE T.gE T.kE rfl))
      (pss_one (ps_ret (pe_and (pe_callB (call_isX T.xc) (by rfl) T.n_isinstance (by decide +kernel) (pa_cons (pv 14) (pa_cons (pe_bltn rfl T.n_ValueError (by decide +kernel) rfl) pa_nil))) (pe_one (pe_notInU (hu65 hr) (pe_bl) (pe_c C_l_kinds hr (by decide) rfl (pa_cons (pv 14) (pa_nil)))))))))))))))

end
end Tw
end

section
set_option Elab.async false
set_option linter.all false
set_option maxRecDepth 100000
set_option maxHeartbeats 4000000
namespace Tw
open PySem L2 PyProof.Rows LamX NdefX

section
variable {K : PySem.W.Frag} {C N : Addr} {nm q : Str} {bs bm : List Value} {hdct : Bool} {sn : List Str} {sub : List Value} {ab : Bool} {col : Option Bool} {dd : Option Addr} {k0 k1 k2 k3 k5 : Option Value} {i : String}
theorem exo_sub (h : K.lookup C = some (excClassObj nm q C N bs bm hdct sn sub ab col dd k0 k1 k2 k3 k5 i)) (v : Value) : PySem.W.subIn K (.ref C) v = some ((Value.ref C :: bm).contains v) := by
  show PySem.W.mroIn K C v = _
  unfold PySem.W.mroIn PySem.W.clsIn
  rw [h] <;> rfl
theorem exo_type (h : K.lookup C = some (excClassObj nm q C N bs bm hdct sn sub ab col dd k0 k1 k2 k3 k5 i)) : PySem.W.typeIn K (.ref C) = some (.type "type") := by
  show (K.lookup C).map (·.cls) = _
  rw [h] <;> rfl
theorem exo_cls (h : K.lookup C = some (excClassObj nm q C N bs bm hdct sn sub ab col dd k0 k1 k2 k3 k5 i)) : (PySem.W.clsIn K C).isSome = true := by
  unfold PySem.W.clsIn
  rw [h] <;> rfl
theorem exo_hd (h : K.lookup C = some (excClassObj nm q C N bs bm hdct sn sub ab col dd k0 k1 k2 k3 k5 i)) : PySem.W.hasDictIn K C = hdct := by
  unfold PySem.W.hasDictIn PySem.W.clsIn
  rw [h] <;> rfl
theorem exo_kit (t : Value) (b : Bool) (hne : (t == .ref C) = false) (h : K.lookup C = some (excClassObj nm q C N bs bm hdct sn sub ab col dd k0 k1 k2 k3 k5 i)) (h4 : PySem.W.subIn K t (.ref C) = some b) : PySem.W.kitOne K t (.ref C) = some b := by
  have e2 : ((PySem.W.clsIn K C).isSome && PySem.W.typeIn K (.ref C) == some (.type "type")) = true := by rw [exo_cls h, exo_type h] <;> rfl
  unfold PySem.W.kitOne
  rw [hne, if_neg Bool.false_ne_true]
  show (if ((PySem.W.clsIn K C).isSome && PySem.W.typeIn K (.ref C) == some (.type "type")) = true then PySem.W.subIn K t (.ref C) else none) = some b
  rw [if_pos e2]
  exact h4
theorem exo_kitT (T : String) (b : Bool) (hm : PySem.W.kitMeta T = true) (h : K.lookup C = some (excClassObj nm q C N bs bm hdct sn sub ab col dd k0 k1 k2 k3 k5 i)) (h4 : (Value.ref C :: bm).contains (.type T) = b) : PySem.W.kitOne K (.ref C) (.type T) = some b := by
  unfold PySem.W.kitOne
  rw [if_neg (show ¬ ((Value.ref C == Value.type T) = true) from Bool.false_ne_true)]
  show (if PySem.W.kitMeta T = true then PySem.W.subIn K (.ref C) (.type T) else none) = some b
  rw [if_pos hm, exo_sub h, h4]
end
/-- what the written part says of one of the classes -/
structure ClsD (K : PySem.W.Frag) (mg : Str → Option Value) (cE C f : Addr) (n : Str) (fl : List Str) : Prop where
  g : mg n = some (.ref C)
  lk : ∃ nm q N bs sn sub ab col dd k0 k1 k2 k3 k5, K.lookup C = some (excClassObj nm q C N bs (.ref cE :: veT) true sn sub ab col dd k0 k1 k2 k3 k5 "ValueError.__new__")
  sa : PySem.W.findIn K (.ref C) "__setattr__" = some (some (.builtin "object.__setattr__"))
  kk : PySem.W.keepIn K (.ref C) = true
  ga : PySem.W.findIn K (.ref C) "__getattribute__" = some (some (.builtin "BaseException.__getattribute__"))
  gg : PySem.W.findIn K (.ref C) "__getattr__" = some none
  ha : PySem.W.findIn K (.ref C) "__class__" = some (some (.builtin "object.__class__"))
  no : ∀ x ∈ fl, PySem.W.findIn K (.ref C) x = some none
  ini : PySem.W.findIn K (.ref C) "__init__" = some (some (.ref f))
  tyi : PySem.W.typeIn K (.ref f) = some (.type "function")
  fn : ∃ fd, (∀ (P : Program) (w : World) (mg : Str → Option Value) (base : Heap), FnOk P w K mg base CX0 1 f fd ("self" :: fl) (spErr C fl)) ∧ Binds K fd ("self" :: fl) [] ∧ KBn K fd ("self" :: fl) 1 fl.reverse (fun us ws => us ++ ws.reverse) revV
theorem ClsD.oex {K : PySem.W.Frag} {mg : Str → Option Value} {cE C f : Addr} {n : Str} {fl : List Str} (h : ClsD K mg cE C f n fl) : OexC K C := by
  obtain ⟨nm, q, N, bs, sn, sub, ab, col, dd, k0, k1, k2, k3, k5, hC⟩ := h.lk
  exact ⟨⟨nm, q, N, bs, _, sn, sub, ab, col, dd, k0, k1, k2, k3, k5, hC, rfl⟩, h.sa, (exo_sub hC _).trans (by simp), exo_type hC, h.kk⟩
theorem ClsD.xf {K : PySem.W.Frag} {mg : Str → Option Value} {cE C f : Addr} {n : Str} {fl : List Str} (h : ClsD K mg cE C f n fl) : XfC K C := by
  obtain ⟨nm, q, N, bs, sn, sub, ab, col, dd, k0, k1, k2, k3, k5, hC⟩ := h.lk
  exact ⟨h.ga, h.gg, (exo_sub hC _).trans (by simp), exo_hd hC⟩
theorem ClsD.xc {K : PySem.W.Frag} {mg : Str → Option Value} {cE C f : Addr} {n : Str} {fl : List Str} (h : ClsD K mg cE C f n fl) (hn : PySem.W.specialIn K (.builtin "object.__class__") "__get__" = some (some (.builtin "getset_descriptor.__get__"))) (ht : PySem.W.takesIn K (.builtin "object.__class__") = some true) : ExcC K C := by
  obtain ⟨nm, q, N, bs, sn, sub, ab, col, dd, k0, k1, k2, k3, k5, hC⟩ := h.lk
  exact ⟨h.ga, h.gg, (exo_sub hC _).trans (by simp), exo_hd hC, h.ha, hn, ht, (exo_sub hC _).trans (by simp)⟩
theorem refNe {a b : Addr} (h : a ≠ b) : (Value.ref a == Value.ref b) = false := by
  rw [beq_eq_false_iff_ne]
  intro z
  cases z
  exact h rfl
theorem clsd_0 {K : PySem.W.Frag} {h : Heap} {mg : Str → Option Value} {cE C f N : Addr} {nm q : Str} {bs : List Value} {sn : List Str} {sub : List Value} {ab : Bool} {col : Option Bool} {dd : Option Addr} {k0 k1 k2 k3 k5 : Option Value} {od an : Option Addr} {osl : Array (Option Value)} {kV dc pm cd ct : Value} (X : K.In h) (G : h.Ns mainGlobals mg)
    (a : PySem.W.nsIn K mainGlobals "BadBegun" = some (some (.ref C)))
    (x : K.lookup C = some (excClassObj nm q C N bs (.ref cE :: veT) true sn sub ab col dd k0 k1 k2 k3 k5 "ValueError.__new__"))
    (b : clsB K C ["thing"] = true)
    (ai : PySem.W.findIn K (.ref C) "__init__" = some (some (.ref f)))
    (l : K.lookup f = some ⟨.type "function", od, .func (PySem.W.fnOf "__init__" "BadBegun.__init__" (defArgs s_p_BadBegun_init) (defBody s_p_BadBegun_init) (defScope s_p_BadBegun_init) .none kV dc pm an cd ct), osl⟩)
    (c : (PySem.W.codeIn K cd "BadBegun.__init__" && PySem.W.keepIn K (.ref f)) = true) : ClsD K mg cE C f "BadBegun" ["thing"] := by
  obtain ⟨sa, kk, ga, gg, ha, hno⟩ := clsB_ok b
  rw [Bool.and_eq_true] at c
  have lk : ∃ nm q N bs sn sub ab col dd k0 k1 k2 k3 k5, K.lookup C = some (excClassObj nm q C N bs (.ref cE :: veT) true sn sub ab col dd k0 k1 k2 k3 k5 "ValueError.__new__") := ⟨nm, q, N, bs, sn, sub, ab, col, dd, k0, k1, k2, k3, k5, x⟩
  have hO : OexC K C := ⟨⟨nm, q, N, bs, _, sn, sub, ab, col, dd, k0, k1, k2, k3, k5, x, rfl⟩, sa, (exo_sub x _).trans (by simp), exo_type x, kk⟩
  have Fi := fun_mk (st := s_p_BadBegun_init) l c.1 c.2
  have ti : PySem.W.typeIn K (.ref f) = some (.type "function") := by
    show (K.lookup f).map (·.cls) = _
    rw [l] <;> rfl
  exact ⟨PySem.W.mg_of X G a, lk, sa, kk, ga, gg, ha, hno, ai, ti, ⟨_, fun P w mg base => okm_p_BadBegun_init Fi hO hno, bi_p_BadBegun_init Fi, kb_p_BadBegun_init Fi⟩⟩

theorem clsd_1 {K : PySem.W.Frag} {h : Heap} {mg : Str → Option Value} {cE C f N : Addr} {nm q : Str} {bs : List Value} {sn : List Str} {sub : List Value} {ab : Bool} {col : Option Bool} {dd : Option Addr} {k0 k1 k2 k3 k5 : Option Value} {od an : Option Addr} {osl : Array (Option Value)} {kV dc pm cd ct : Value} (X : K.In h) (G : h.Ns mainGlobals mg)
    (a : PySem.W.nsIn K mainGlobals "BadBox" = some (some (.ref C)))
    (x : K.lookup C = some (excClassObj nm q C N bs (.ref cE :: veT) true sn sub ab col dd k0 k1 k2 k3 k5 "ValueError.__new__"))
    (b : clsB K C ["thing"] = true)
    (ai : PySem.W.findIn K (.ref C) "__init__" = some (some (.ref f)))
    (l : K.lookup f = some ⟨.type "function", od, .func (PySem.W.fnOf "__init__" "BadBox.__init__" (defArgs s_p_BadBox_init) (defBody s_p_BadBox_init) (defScope s_p_BadBox_init) .none kV dc pm an cd ct), osl⟩)
    (c : (PySem.W.codeIn K cd "BadBox.__init__" && PySem.W.keepIn K (.ref f)) = true) : ClsD K mg cE C f "BadBox" ["thing"] := by
  obtain ⟨sa, kk, ga, gg, ha, hno⟩ := clsB_ok b
  rw [Bool.and_eq_true] at c
  have lk : ∃ nm q N bs sn sub ab col dd k0 k1 k2 k3 k5, K.lookup C = some (excClassObj nm q C N bs (.ref cE :: veT) true sn sub ab col dd k0 k1 k2 k3 k5 "ValueError.__new__") := ⟨nm, q, N, bs, sn, sub, ab, col, dd, k0, k1, k2, k3, k5, x⟩
  have hO : OexC K C := ⟨⟨nm, q, N, bs, _, sn, sub, ab, col, dd, k0, k1, k2, k3, k5, x, rfl⟩, sa, (exo_sub x _).trans (by simp), exo_type x, kk⟩
  have Fi := fun_mk (st := s_p_BadBox_init) l c.1 c.2
  have ti : PySem.W.typeIn K (.ref f) = some (.type "function") := by
    show (K.lookup f).map (·.cls) = _
    rw [l] <;> rfl
  exact ⟨PySem.W.mg_of X G a, lk, sa, kk, ga, gg, ha, hno, ai, ti, ⟨_, fun P w mg base => okm_p_BadBox_init Fi hO hno, bi_p_BadBox_init Fi, kb_p_BadBox_init Fi⟩⟩

theorem clsd_2 {K : PySem.W.Frag} {h : Heap} {mg : Str → Option Value} {cE C f N : Addr} {nm q : Str} {bs : List Value} {sn : List Str} {sub : List Value} {ab : Bool} {col : Option Bool} {dd : Option Addr} {k0 k1 k2 k3 k5 : Option Value} {od an : Option Addr} {osl : Array (Option Value)} {kV dc pm cd ct : Value} (X : K.In h) (G : h.Ns mainGlobals mg)
    (a : PySem.W.nsIn K mainGlobals "BadCells" = some (some (.ref C)))
    (x : K.lookup C = some (excClassObj nm q C N bs (.ref cE :: veT) true sn sub ab col dd k0 k1 k2 k3 k5 "ValueError.__new__"))
    (b : clsB K C ["thing"] = true)
    (ai : PySem.W.findIn K (.ref C) "__init__" = some (some (.ref f)))
    (l : K.lookup f = some ⟨.type "function", od, .func (PySem.W.fnOf "__init__" "BadCells.__init__" (defArgs s_p_BadCells_init) (defBody s_p_BadCells_init) (defScope s_p_BadCells_init) .none kV dc pm an cd ct), osl⟩)
    (c : (PySem.W.codeIn K cd "BadCells.__init__" && PySem.W.keepIn K (.ref f)) = true) : ClsD K mg cE C f "BadCells" ["thing"] := by
  obtain ⟨sa, kk, ga, gg, ha, hno⟩ := clsB_ok b
  rw [Bool.and_eq_true] at c
  have lk : ∃ nm q N bs sn sub ab col dd k0 k1 k2 k3 k5, K.lookup C = some (excClassObj nm q C N bs (.ref cE :: veT) true sn sub ab col dd k0 k1 k2 k3 k5 "ValueError.__new__") := ⟨nm, q, N, bs, sn, sub, ab, col, dd, k0, k1, k2, k3, k5, x⟩
  have hO : OexC K C := ⟨⟨nm, q, N, bs, _, sn, sub, ab, col, dd, k0, k1, k2, k3, k5, x, rfl⟩, sa, (exo_sub x _).trans (by simp), exo_type x, kk⟩
  have Fi := fun_mk (st := s_p_BadCells_init) l c.1 c.2
  have ti : PySem.W.typeIn K (.ref f) = some (.type "function") := by
    show (K.lookup f).map (·.cls) = _
    rw [l] <;> rfl
  exact ⟨PySem.W.mg_of X G a, lk, sa, kk, ga, gg, ha, hno, ai, ti, ⟨_, fun P w mg base => okm_p_BadCells_init Fi hO hno, bi_p_BadCells_init Fi, kb_p_BadCells_init Fi⟩⟩

theorem clsd_3 {K : PySem.W.Frag} {h : Heap} {mg : Str → Option Value} {cE C f N : Addr} {nm q : Str} {bs : List Value} {sn : List Str} {sub : List Value} {ab : Bool} {col : Option Bool} {dd : Option Addr} {k0 k1 k2 k3 k5 : Option Value} {od an : Option Addr} {osl : Array (Option Value)} {kV dc pm cd ct : Value} (X : K.In h) (G : h.Ns mainGlobals mg)
    (a : PySem.W.nsIn K mainGlobals "BadChain" = some (some (.ref C)))
    (x : K.lookup C = some (excClassObj nm q C N bs (.ref cE :: veT) true sn sub ab col dd k0 k1 k2 k3 k5 "ValueError.__new__"))
    (b : clsB K C ["thing"] = true)
    (ai : PySem.W.findIn K (.ref C) "__init__" = some (some (.ref f)))
    (l : K.lookup f = some ⟨.type "function", od, .func (PySem.W.fnOf "__init__" "BadChain.__init__" (defArgs s_p_BadChain_init) (defBody s_p_BadChain_init) (defScope s_p_BadChain_init) .none kV dc pm an cd ct), osl⟩)
    (c : (PySem.W.codeIn K cd "BadChain.__init__" && PySem.W.keepIn K (.ref f)) = true) : ClsD K mg cE C f "BadChain" ["thing"] := by
  obtain ⟨sa, kk, ga, gg, ha, hno⟩ := clsB_ok b
  rw [Bool.and_eq_true] at c
  have lk : ∃ nm q N bs sn sub ab col dd k0 k1 k2 k3 k5, K.lookup C = some (excClassObj nm q C N bs (.ref cE :: veT) true sn sub ab col dd k0 k1 k2 k3 k5 "ValueError.__new__") := ⟨nm, q, N, bs, sn, sub, ab, col, dd, k0, k1, k2, k3, k5, x⟩
  have hO : OexC K C := ⟨⟨nm, q, N, bs, _, sn, sub, ab, col, dd, k0, k1, k2, k3, k5, x, rfl⟩, sa, (exo_sub x _).trans (by simp), exo_type x, kk⟩
  have Fi := fun_mk (st := s_p_BadChain_init) l c.1 c.2
  have ti : PySem.W.typeIn K (.ref f) = some (.type "function") := by
    show (K.lookup f).map (·.cls) = _
    rw [l] <;> rfl
  exact ⟨PySem.W.mg_of X G a, lk, sa, kk, ga, gg, ha, hno, ai, ti, ⟨_, fun P w mg base => okm_p_BadChain_init Fi hO hno, bi_p_BadChain_init Fi, kb_p_BadChain_init Fi⟩⟩

theorem clsd_4 {K : PySem.W.Frag} {h : Heap} {mg : Str → Option Value} {cE C f N : Addr} {nm q : Str} {bs : List Value} {sn : List Str} {sub : List Value} {ab : Bool} {col : Option Bool} {dd : Option Addr} {k0 k1 k2 k3 k5 : Option Value} {od an : Option Addr} {osl : Array (Option Value)} {kV dc pm cd ct : Value} (X : K.In h) (G : h.Ns mainGlobals mg)
    (a : PySem.W.nsIn K mainGlobals "BadCount" = some (some (.ref C)))
    (x : K.lookup C = some (excClassObj nm q C N bs (.ref cE :: veT) true sn sub ab col dd k0 k1 k2 k3 k5 "ValueError.__new__"))
    (b : clsB K C ["thing"] = true)
    (ai : PySem.W.findIn K (.ref C) "__init__" = some (some (.ref f)))
    (l : K.lookup f = some ⟨.type "function", od, .func (PySem.W.fnOf "__init__" "BadCount.__init__" (defArgs s_p_BadCount_init) (defBody s_p_BadCount_init) (defScope s_p_BadCount_init) .none kV dc pm an cd ct), osl⟩)
    (c : (PySem.W.codeIn K cd "BadCount.__init__" && PySem.W.keepIn K (.ref f)) = true) : ClsD K mg cE C f "BadCount" ["thing"] := by
  obtain ⟨sa, kk, ga, gg, ha, hno⟩ := clsB_ok b
  rw [Bool.and_eq_true] at c
  have lk : ∃ nm q N bs sn sub ab col dd k0 k1 k2 k3 k5, K.lookup C = some (excClassObj nm q C N bs (.ref cE :: veT) true sn sub ab col dd k0 k1 k2 k3 k5 "ValueError.__new__") := ⟨nm, q, N, bs, sn, sub, ab, col, dd, k0, k1, k2, k3, k5, x⟩
  have hO : OexC K C := ⟨⟨nm, q, N, bs, _, sn, sub, ab, col, dd, k0, k1, k2, k3, k5, x, rfl⟩, sa, (exo_sub x _).trans (by simp), exo_type x, kk⟩
  have Fi := fun_mk (st := s_p_BadCount_init) l c.1 c.2
  have ti : PySem.W.typeIn K (.ref f) = some (.type "function") := by
    show (K.lookup f).map (·.cls) = _
    rw [l] <;> rfl
  exact ⟨PySem.W.mg_of X G a, lk, sa, kk, ga, gg, ha, hno, ai, ti, ⟨_, fun P w mg base => okm_p_BadCount_init Fi hO hno, bi_p_BadCount_init Fi, kb_p_BadCount_init Fi⟩⟩

theorem clsd_5 {K : PySem.W.Frag} {h : Heap} {mg : Str → Option Value} {cE C f N : Addr} {nm q : Str} {bs : List Value} {sn : List Str} {sub : List Value} {ab : Bool} {col : Option Bool} {dd : Option Addr} {k0 k1 k2 k3 k5 : Option Value} {od an : Option Addr} {osl : Array (Option Value)} {kV dc pm cd ct : Value} (X : K.In h) (G : h.Ns mainGlobals mg)
    (a : PySem.W.nsIn K mainGlobals "BadDeed" = some (some (.ref C)))
    (x : K.lookup C = some (excClassObj nm q C N bs (.ref cE :: veT) true sn sub ab col dd k0 k1 k2 k3 k5 "ValueError.__new__"))
    (b : clsB K C ["thing"] = true)
    (ai : PySem.W.findIn K (.ref C) "__init__" = some (some (.ref f)))
    (l : K.lookup f = some ⟨.type "function", od, .func (PySem.W.fnOf "__init__" "BadDeed.__init__" (defArgs s_p_BadDeed_init) (defBody s_p_BadDeed_init) (defScope s_p_BadDeed_init) .none kV dc pm an cd ct), osl⟩)
    (c : (PySem.W.codeIn K cd "BadDeed.__init__" && PySem.W.keepIn K (.ref f)) = true) : ClsD K mg cE C f "BadDeed" ["thing"] := by
  obtain ⟨sa, kk, ga, gg, ha, hno⟩ := clsB_ok b
  rw [Bool.and_eq_true] at c
  have lk : ∃ nm q N bs sn sub ab col dd k0 k1 k2 k3 k5, K.lookup C = some (excClassObj nm q C N bs (.ref cE :: veT) true sn sub ab col dd k0 k1 k2 k3 k5 "ValueError.__new__") := ⟨nm, q, N, bs, sn, sub, ab, col, dd, k0, k1, k2, k3, k5, x⟩
  have hO : OexC K C := ⟨⟨nm, q, N, bs, _, sn, sub, ab, col, dd, k0, k1, k2, k3, k5, x, rfl⟩, sa, (exo_sub x _).trans (by simp), exo_type x, kk⟩
  have Fi := fun_mk (st := s_p_BadDeed_init) l c.1 c.2
  have ti : PySem.W.typeIn K (.ref f) = some (.type "function") := by
    show (K.lookup f).map (·.cls) = _
    rw [l] <;> rfl
  exact ⟨PySem.W.mg_of X G a, lk, sa, kk, ga, gg, ha, hno, ai, ti, ⟨_, fun P w mg base => okm_p_BadDeed_init Fi hO hno, bi_p_BadDeed_init Fi, kb_p_BadDeed_init Fi⟩⟩

theorem clsd_6 {K : PySem.W.Frag} {h : Heap} {mg : Str → Option Value} {cE C f N : Addr} {nm q : Str} {bs : List Value} {sn : List Str} {sub : List Value} {ab : Bool} {col : Option Bool} {dd : Option Addr} {k0 k1 k2 k3 k5 : Option Value} {od an : Option Addr} {osl : Array (Option Value)} {kV dc pm cd ct : Value} (X : K.In h) (G : h.Ns mainGlobals mg)
    (a : PySem.W.nsIn K mainGlobals "BadHeld" = some (some (.ref C)))
    (x : K.lookup C = some (excClassObj nm q C N bs (.ref cE :: veT) true sn sub ab col dd k0 k1 k2 k3 k5 "ValueError.__new__"))
    (b : clsB K C ["index"] = true)
    (ai : PySem.W.findIn K (.ref C) "__init__" = some (some (.ref f)))
    (l : K.lookup f = some ⟨.type "function", od, .func (PySem.W.fnOf "__init__" "BadHeld.__init__" (defArgs s_p_BadHeld_init) (defBody s_p_BadHeld_init) (defScope s_p_BadHeld_init) .none kV dc pm an cd ct), osl⟩)
    (c : (PySem.W.codeIn K cd "BadHeld.__init__" && PySem.W.keepIn K (.ref f)) = true) : ClsD K mg cE C f "BadHeld" ["index"] := by
  obtain ⟨sa, kk, ga, gg, ha, hno⟩ := clsB_ok b
  rw [Bool.and_eq_true] at c
  have lk : ∃ nm q N bs sn sub ab col dd k0 k1 k2 k3 k5, K.lookup C = some (excClassObj nm q C N bs (.ref cE :: veT) true sn sub ab col dd k0 k1 k2 k3 k5 "ValueError.__new__") := ⟨nm, q, N, bs, sn, sub, ab, col, dd, k0, k1, k2, k3, k5, x⟩
  have hO : OexC K C := ⟨⟨nm, q, N, bs, _, sn, sub, ab, col, dd, k0, k1, k2, k3, k5, x, rfl⟩, sa, (exo_sub x _).trans (by simp), exo_type x, kk⟩
  have Fi := fun_mk (st := s_p_BadHeld_init) l c.1 c.2
  have ti : PySem.W.typeIn K (.ref f) = some (.type "function") := by
    show (K.lookup f).map (·.cls) = _
    rw [l] <;> rfl
  exact ⟨PySem.W.mg_of X G a, lk, sa, kk, ga, gg, ha, hno, ai, ti, ⟨_, fun P w mg base => okm_p_BadHeld_init Fi hO hno, bi_p_BadHeld_init Fi, kb_p_BadHeld_init Fi⟩⟩

theorem clsd_7 {K : PySem.W.Frag} {h : Heap} {mg : Str → Option Value} {cE C f N : Addr} {nm q : Str} {bs : List Value} {sn : List Str} {sub : List Value} {ab : Bool} {col : Option Bool} {dd : Option Addr} {k0 k1 k2 k3 k5 : Option Value} {od an : Option Addr} {osl : Array (Option Value)} {kV dc pm cd ct : Value} (X : K.In h) (G : h.Ns mainGlobals mg)
    (a : PySem.W.nsIn K mainGlobals "BadHours" = some (some (.ref C)))
    (x : K.lookup C = some (excClassObj nm q C N bs (.ref cE :: veT) true sn sub ab col dd k0 k1 k2 k3 k5 "ValueError.__new__"))
    (b : clsB K C ["index"] = true)
    (ai : PySem.W.findIn K (.ref C) "__init__" = some (some (.ref f)))
    (l : K.lookup f = some ⟨.type "function", od, .func (PySem.W.fnOf "__init__" "BadHours.__init__" (defArgs s_p_BadHours_init) (defBody s_p_BadHours_init) (defScope s_p_BadHours_init) .none kV dc pm an cd ct), osl⟩)
    (c : (PySem.W.codeIn K cd "BadHours.__init__" && PySem.W.keepIn K (.ref f)) = true) : ClsD K mg cE C f "BadHours" ["index"] := by
  obtain ⟨sa, kk, ga, gg, ha, hno⟩ := clsB_ok b
  rw [Bool.and_eq_true] at c
  have lk : ∃ nm q N bs sn sub ab col dd k0 k1 k2 k3 k5, K.lookup C = some (excClassObj nm q C N bs (.ref cE :: veT) true sn sub ab col dd k0 k1 k2 k3 k5 "ValueError.__new__") := ⟨nm, q, N, bs, sn, sub, ab, col, dd, k0, k1, k2, k3, k5, x⟩
  have hO : OexC K C := ⟨⟨nm, q, N, bs, _, sn, sub, ab, col, dd, k0, k1, k2, k3, k5, x, rfl⟩, sa, (exo_sub x _).trans (by simp), exo_type x, kk⟩
  have Fi := fun_mk (st := s_p_BadHours_init) l c.1 c.2
  have ti : PySem.W.typeIn K (.ref f) = some (.type "function") := by
    show (K.lookup f).map (·.cls) = _
    rw [l] <;> rfl
  exact ⟨PySem.W.mg_of X G a, lk, sa, kk, ga, gg, ha, hno, ai, ti, ⟨_, fun P w mg base => okm_p_BadHours_init Fi hO hno, bi_p_BadHours_init Fi, kb_p_BadHours_init Fi⟩⟩

theorem clsd_8 {K : PySem.W.Frag} {h : Heap} {mg : Str → Option Value} {cE C f N : Addr} {nm q : Str} {bs : List Value} {sn : List Str} {sub : List Value} {ab : Bool} {col : Option Bool} {dd : Option Addr} {k0 k1 k2 k3 k5 : Option Value} {od an : Option Addr} {osl : Array (Option Value)} {kV dc pm cd ct : Value} (X : K.In h) (G : h.Ns mainGlobals mg)
    (a : PySem.W.nsIn K mainGlobals "BadLine" = some (some (.ref C)))
    (x : K.lookup C = some (excClassObj nm q C N bs (.ref cE :: veT) true sn sub ab col dd k0 k1 k2 k3 k5 "ValueError.__new__"))
    (b : clsB K C ["thing"] = true)
    (ai : PySem.W.findIn K (.ref C) "__init__" = some (some (.ref f)))
    (l : K.lookup f = some ⟨.type "function", od, .func (PySem.W.fnOf "__init__" "BadLine.__init__" (defArgs s_p_BadLine_init) (defBody s_p_BadLine_init) (defScope s_p_BadLine_init) .none kV dc pm an cd ct), osl⟩)
    (c : (PySem.W.codeIn K cd "BadLine.__init__" && PySem.W.keepIn K (.ref f)) = true) : ClsD K mg cE C f "BadLine" ["thing"] := by
  obtain ⟨sa, kk, ga, gg, ha, hno⟩ := clsB_ok b
  rw [Bool.and_eq_true] at c
  have lk : ∃ nm q N bs sn sub ab col dd k0 k1 k2 k3 k5, K.lookup C = some (excClassObj nm q C N bs (.ref cE :: veT) true sn sub ab col dd k0 k1 k2 k3 k5 "ValueError.__new__") := ⟨nm, q, N, bs, sn, sub, ab, col, dd, k0, k1, k2, k3, k5, x⟩
  have hO : OexC K C := ⟨⟨nm, q, N, bs, _, sn, sub, ab, col, dd, k0, k1, k2, k3, k5, x, rfl⟩, sa, (exo_sub x _).trans (by simp), exo_type x, kk⟩
  have Fi := fun_mk (st := s_p_BadLine_init) l c.1 c.2
  have ti : PySem.W.typeIn K (.ref f) = some (.type "function") := by
    show (K.lookup f).map (·.cls) = _
    rw [l] <;> rfl
  exact ⟨PySem.W.mg_of X G a, lk, sa, kk, ga, gg, ha, hno, ai, ti, ⟨_, fun P w mg base => okm_p_BadLine_init Fi hO hno, bi_p_BadLine_init Fi, kb_p_BadLine_init Fi⟩⟩

theorem clsd_9 {K : PySem.W.Frag} {h : Heap} {mg : Str → Option Value} {cE C f N : Addr} {nm q : Str} {bs : List Value} {sn : List Str} {sub : List Value} {ab : Bool} {col : Option Bool} {dd : Option Addr} {k0 k1 k2 k3 k5 : Option Value} {od an : Option Addr} {osl : Array (Option Value)} {kV dc pm cd ct : Value} (X : K.In h) (G : h.Ns mainGlobals mg)
    (a : PySem.W.nsIn K mainGlobals "BadLines" = some (some (.ref C)))
    (x : K.lookup C = some (excClassObj nm q C N bs (.ref cE :: veT) true sn sub ab col dd k0 k1 k2 k3 k5 "ValueError.__new__"))
    (b : clsB K C ["index"] = true)
    (ai : PySem.W.findIn K (.ref C) "__init__" = some (some (.ref f)))
    (l : K.lookup f = some ⟨.type "function", od, .func (PySem.W.fnOf "__init__" "BadLines.__init__" (defArgs s_p_BadLines_init) (defBody s_p_BadLines_init) (defScope s_p_BadLines_init) .none kV dc pm an cd ct), osl⟩)
    (c : (PySem.W.codeIn K cd "BadLines.__init__" && PySem.W.keepIn K (.ref f)) = true) : ClsD K mg cE C f "BadLines" ["index"] := by
  obtain ⟨sa, kk, ga, gg, ha, hno⟩ := clsB_ok b
  rw [Bool.and_eq_true] at c
  have lk : ∃ nm q N bs sn sub ab col dd k0 k1 k2 k3 k5, K.lookup C = some (excClassObj nm q C N bs (.ref cE :: veT) true sn sub ab col dd k0 k1 k2 k3 k5 "ValueError.__new__") := ⟨nm, q, N, bs, sn, sub, ab, col, dd, k0, k1, k2, k3, k5, x⟩
  have hO : OexC K C := ⟨⟨nm, q, N, bs, _, sn, sub, ab, col, dd, k0, k1, k2, k3, k5, x, rfl⟩, sa, (exo_sub x _).trans (by simp), exo_type x, kk⟩
  have Fi := fun_mk (st := s_p_BadLines_init) l c.1 c.2
  have ti : PySem.W.typeIn K (.ref f) = some (.type "function") := by
    show (K.lookup f).map (·.cls) = _
    rw [l] <;> rfl
  exact ⟨PySem.W.mg_of X G a, lk, sa, kk, ga, gg, ha, hno, ai, ti, ⟨_, fun P w mg base => okm_p_BadLines_init Fi hO hno, bi_p_BadLines_init Fi, kb_p_BadLines_init Fi⟩⟩

theorem clsd_10 {K : PySem.W.Frag} {h : Heap} {mg : Str → Option Value} {cE C f N : Addr} {nm q : Str} {bs : List Value} {sn : List Str} {sub : List Value} {ab : Bool} {col : Option Bool} {dd : Option Addr} {k0 k1 k2 k3 k5 : Option Value} {od an : Option Addr} {osl : Array (Option Value)} {kV dc pm cd ct : Value} (X : K.In h) (G : h.Ns mainGlobals mg)
    (a : PySem.W.nsIn K mainGlobals "BadListing" = some (some (.ref C)))
    (x : K.lookup C = some (excClassObj nm q C N bs (.ref cE :: veT) true sn sub ab col dd k0 k1 k2 k3 k5 "ValueError.__new__"))
    (b : clsB K C ["index"] = true)
    (ai : PySem.W.findIn K (.ref C) "__init__" = some (some (.ref f)))
    (l : K.lookup f = some ⟨.type "function", od, .func (PySem.W.fnOf "__init__" "BadListing.__init__" (defArgs s_p_BadListing_init) (defBody s_p_BadListing_init) (defScope s_p_BadListing_init) .none kV dc pm an cd ct), osl⟩)
    (c : (PySem.W.codeIn K cd "BadListing.__init__" && PySem.W.keepIn K (.ref f)) = true) : ClsD K mg cE C f "BadListing" ["index"] := by
  obtain ⟨sa, kk, ga, gg, ha, hno⟩ := clsB_ok b
  rw [Bool.and_eq_true] at c
  have lk : ∃ nm q N bs sn sub ab col dd k0 k1 k2 k3 k5, K.lookup C = some (excClassObj nm q C N bs (.ref cE :: veT) true sn sub ab col dd k0 k1 k2 k3 k5 "ValueError.__new__") := ⟨nm, q, N, bs, sn, sub, ab, col, dd, k0, k1, k2, k3, k5, x⟩
  have hO : OexC K C := ⟨⟨nm, q, N, bs, _, sn, sub, ab, col, dd, k0, k1, k2, k3, k5, x, rfl⟩, sa, (exo_sub x _).trans (by simp), exo_type x, kk⟩
  have Fi := fun_mk (st := s_p_BadListing_init) l c.1 c.2
  have ti : PySem.W.typeIn K (.ref f) = some (.type "function") := by
    show (K.lookup f).map (·.cls) = _
    rw [l] <;> rfl
  exact ⟨PySem.W.mg_of X G a, lk, sa, kk, ga, gg, ha, hno, ai, ti, ⟨_, fun P w mg base => okm_p_BadListing_init Fi hO hno, bi_p_BadListing_init Fi, kb_p_BadListing_init Fi⟩⟩

theorem clsd_11 {K : PySem.W.Frag} {h : Heap} {mg : Str → Option Value} {cE C f N : Addr} {nm q : Str} {bs : List Value} {sn : List Str} {sub : List Value} {ab : Bool} {col : Option Bool} {dd : Option Addr} {k0 k1 k2 k3 k5 : Option Value} {od an : Option Addr} {osl : Array (Option Value)} {kV dc pm cd ct : Value} (X : K.In h) (G : h.Ns mainGlobals mg)
    (a : PySem.W.nsIn K mainGlobals "BadMany" = some (some (.ref C)))
    (x : K.lookup C = some (excClassObj nm q C N bs (.ref cE :: veT) true sn sub ab col dd k0 k1 k2 k3 k5 "ValueError.__new__"))
    (b : clsB K C ["thing"] = true)
    (ai : PySem.W.findIn K (.ref C) "__init__" = some (some (.ref f)))
    (l : K.lookup f = some ⟨.type "function", od, .func (PySem.W.fnOf "__init__" "BadMany.__init__" (defArgs s_p_BadMany_init) (defBody s_p_BadMany_init) (defScope s_p_BadMany_init) .none kV dc pm an cd ct), osl⟩)
    (c : (PySem.W.codeIn K cd "BadMany.__init__" && PySem.W.keepIn K (.ref f)) = true) : ClsD K mg cE C f "BadMany" ["thing"] := by
  obtain ⟨sa, kk, ga, gg, ha, hno⟩ := clsB_ok b
  rw [Bool.and_eq_true] at c
  have lk : ∃ nm q N bs sn sub ab col dd k0 k1 k2 k3 k5, K.lookup C = some (excClassObj nm q C N bs (.ref cE :: veT) true sn sub ab col dd k0 k1 k2 k3 k5 "ValueError.__new__") := ⟨nm, q, N, bs, sn, sub, ab, col, dd, k0, k1, k2, k3, k5, x⟩
  have hO : OexC K C := ⟨⟨nm, q, N, bs, _, sn, sub, ab, col, dd, k0, k1, k2, k3, k5, x, rfl⟩, sa, (exo_sub x _).trans (by simp), exo_type x, kk⟩
  have Fi := fun_mk (st := s_p_BadMany_init) l c.1 c.2
  have ti : PySem.W.typeIn K (.ref f) = some (.type "function") := by
    show (K.lookup f).map (·.cls) = _
    rw [l] <;> rfl
  exact ⟨PySem.W.mg_of X G a, lk, sa, kk, ga, gg, ha, hno, ai, ti, ⟨_, fun P w mg base => okm_p_BadMany_init Fi hO hno, bi_p_BadMany_init Fi, kb_p_BadMany_init Fi⟩⟩

theorem clsd_12 {K : PySem.W.Frag} {h : Heap} {mg : Str → Option Value} {cE C f N : Addr} {nm q : Str} {bs : List Value} {sn : List Str} {sub : List Value} {ab : Bool} {col : Option Bool} {dd : Option Addr} {k0 k1 k2 k3 k5 : Option Value} {od an : Option Addr} {osl : Array (Option Value)} {kV dc pm cd ct : Value} (X : K.In h) (G : h.Ns mainGlobals mg)
    (a : PySem.W.nsIn K mainGlobals "BadNumber" = some (some (.ref C)))
    (x : K.lookup C = some (excClassObj nm q C N bs (.ref cE :: veT) true sn sub ab col dd k0 k1 k2 k3 k5 "ValueError.__new__"))
    (b : clsB K C ["thing"] = true)
    (ai : PySem.W.findIn K (.ref C) "__init__" = some (some (.ref f)))
    (l : K.lookup f = some ⟨.type "function", od, .func (PySem.W.fnOf "__init__" "BadNumber.__init__" (defArgs s_p_BadNumber_init) (defBody s_p_BadNumber_init) (defScope s_p_BadNumber_init) .none kV dc pm an cd ct), osl⟩)
    (c : (PySem.W.codeIn K cd "BadNumber.__init__" && PySem.W.keepIn K (.ref f)) = true) : ClsD K mg cE C f "BadNumber" ["thing"] := by
  obtain ⟨sa, kk, ga, gg, ha, hno⟩ := clsB_ok b
  rw [Bool.and_eq_true] at c
  have lk : ∃ nm q N bs sn sub ab col dd k0 k1 k2 k3 k5, K.lookup C = some (excClassObj nm q C N bs (.ref cE :: veT) true sn sub ab col dd k0 k1 k2 k3 k5 "ValueError.__new__") := ⟨nm, q, N, bs, sn, sub, ab, col, dd, k0, k1, k2, k3, k5, x⟩
  have hO : OexC K C := ⟨⟨nm, q, N, bs, _, sn, sub, ab, col, dd, k0, k1, k2, k3, k5, x, rfl⟩, sa, (exo_sub x _).trans (by simp), exo_type x, kk⟩
  have Fi := fun_mk (st := s_p_BadNumber_init) l c.1 c.2
  have ti : PySem.W.typeIn K (.ref f) = some (.type "function") := by
    show (K.lookup f).map (·.cls) = _
    rw [l] <;> rfl
  exact ⟨PySem.W.mg_of X G a, lk, sa, kk, ga, gg, ha, hno, ai, ti, ⟨_, fun P w mg base => okm_p_BadNumber_init Fi hO hno, bi_p_BadNumber_init Fi, kb_p_BadNumber_init Fi⟩⟩

theorem clsd_13 {K : PySem.W.Frag} {h : Heap} {mg : Str → Option Value} {cE C f N : Addr} {nm q : Str} {bs : List Value} {sn : List Str} {sub : List Value} {ab : Bool} {col : Option Bool} {dd : Option Addr} {k0 k1 k2 k3 k5 : Option Value} {od an : Option Addr} {osl : Array (Option Value)} {kV dc pm cd ct : Value} (X : K.In h) (G : h.Ns mainGlobals mg)
    (a : PySem.W.nsIn K mainGlobals "BadOrder" = some (some (.ref C)))
    (x : K.lookup C = some (excClassObj nm q C N bs (.ref cE :: veT) true sn sub ab col dd k0 k1 k2 k3 k5 "ValueError.__new__"))
    (b : clsB K C ["thing"] = true)
    (ai : PySem.W.findIn K (.ref C) "__init__" = some (some (.ref f)))
    (l : K.lookup f = some ⟨.type "function", od, .func (PySem.W.fnOf "__init__" "BadOrder.__init__" (defArgs s_p_BadOrder_init) (defBody s_p_BadOrder_init) (defScope s_p_BadOrder_init) .none kV dc pm an cd ct), osl⟩)
    (c : (PySem.W.codeIn K cd "BadOrder.__init__" && PySem.W.keepIn K (.ref f)) = true) : ClsD K mg cE C f "BadOrder" ["thing"] := by
  obtain ⟨sa, kk, ga, gg, ha, hno⟩ := clsB_ok b
  rw [Bool.and_eq_true] at c
  have lk : ∃ nm q N bs sn sub ab col dd k0 k1 k2 k3 k5, K.lookup C = some (excClassObj nm q C N bs (.ref cE :: veT) true sn sub ab col dd k0 k1 k2 k3 k5 "ValueError.__new__") := ⟨nm, q, N, bs, sn, sub, ab, col, dd, k0, k1, k2, k3, k5, x⟩
  have hO : OexC K C := ⟨⟨nm, q, N, bs, _, sn, sub, ab, col, dd, k0, k1, k2, k3, k5, x, rfl⟩, sa, (exo_sub x _).trans (by simp), exo_type x, kk⟩
  have Fi := fun_mk (st := s_p_BadOrder_init) l c.1 c.2
  have ti : PySem.W.typeIn K (.ref f) = some (.type "function") := by
    show (K.lookup f).map (·.cls) = _
    rw [l] <;> rfl
  exact ⟨PySem.W.mg_of X G a, lk, sa, kk, ga, gg, ha, hno, ai, ti, ⟨_, fun P w mg base => okm_p_BadOrder_init Fi hO hno, bi_p_BadOrder_init Fi, kb_p_BadOrder_init Fi⟩⟩

theorem clsd_14 {K : PySem.W.Frag} {h : Heap} {mg : Str → Option Value} {cE C f N : Addr} {nm q : Str} {bs : List Value} {sn : List Str} {sub : List Value} {ab : Bool} {col : Option Bool} {dd : Option Addr} {k0 k1 k2 k3 k5 : Option Value} {od an : Option Addr} {osl : Array (Option Value)} {kV dc pm cd ct : Value} (X : K.In h) (G : h.Ns mainGlobals mg)
    (a : PySem.W.nsIn K mainGlobals "BadPairs" = some (some (.ref C)))
    (x : K.lookup C = some (excClassObj nm q C N bs (.ref cE :: veT) true sn sub ab col dd k0 k1 k2 k3 k5 "ValueError.__new__"))
    (b : clsB K C ["index"] = true)
    (ai : PySem.W.findIn K (.ref C) "__init__" = some (some (.ref f)))
    (l : K.lookup f = some ⟨.type "function", od, .func (PySem.W.fnOf "__init__" "BadPairs.__init__" (defArgs s_p_BadPairs_init) (defBody s_p_BadPairs_init) (defScope s_p_BadPairs_init) .none kV dc pm an cd ct), osl⟩)
    (c : (PySem.W.codeIn K cd "BadPairs.__init__" && PySem.W.keepIn K (.ref f)) = true) : ClsD K mg cE C f "BadPairs" ["index"] := by
  obtain ⟨sa, kk, ga, gg, ha, hno⟩ := clsB_ok b
  rw [Bool.and_eq_true] at c
  have lk : ∃ nm q N bs sn sub ab col dd k0 k1 k2 k3 k5, K.lookup C = some (excClassObj nm q C N bs (.ref cE :: veT) true sn sub ab col dd k0 k1 k2 k3 k5 "ValueError.__new__") := ⟨nm, q, N, bs, sn, sub, ab, col, dd, k0, k1, k2, k3, k5, x⟩
  have hO : OexC K C := ⟨⟨nm, q, N, bs, _, sn, sub, ab, col, dd, k0, k1, k2, k3, k5, x, rfl⟩, sa, (exo_sub x _).trans (by simp), exo_type x, kk⟩
  have Fi := fun_mk (st := s_p_BadPairs_init) l c.1 c.2
  have ti : PySem.W.typeIn K (.ref f) = some (.type "function") := by
    show (K.lookup f).map (·.cls) = _
    rw [l] <;> rfl
  exact ⟨PySem.W.mg_of X G a, lk, sa, kk, ga, gg, ha, hno, ai, ti, ⟨_, fun P w mg base => okm_p_BadPairs_init Fi hO hno, bi_p_BadPairs_init Fi, kb_p_BadPairs_init Fi⟩⟩

theorem clsd_15 {K : PySem.W.Frag} {h : Heap} {mg : Str → Option Value} {cE C f N : Addr} {nm q : Str} {bs : List Value} {sn : List Str} {sub : List Value} {ab : Bool} {col : Option Bool} {dd : Option Addr} {k0 k1 k2 k3 k5 : Option Value} {od an : Option Addr} {osl : Array (Option Value)} {kV dc pm cd ct : Value} (X : K.In h) (G : h.Ns mainGlobals mg)
    (a : PySem.W.nsIn K mainGlobals "BadPlace" = some (some (.ref C)))
    (x : K.lookup C = some (excClassObj nm q C N bs (.ref cE :: veT) true sn sub ab col dd k0 k1 k2 k3 k5 "ValueError.__new__"))
    (b : clsB K C ["thing"] = true)
    (ai : PySem.W.findIn K (.ref C) "__init__" = some (some (.ref f)))
    (l : K.lookup f = some ⟨.type "function", od, .func (PySem.W.fnOf "__init__" "BadPlace.__init__" (defArgs s_p_BadPlace_init) (defBody s_p_BadPlace_init) (defScope s_p_BadPlace_init) .none kV dc pm an cd ct), osl⟩)
    (c : (PySem.W.codeIn K cd "BadPlace.__init__" && PySem.W.keepIn K (.ref f)) = true) : ClsD K mg cE C f "BadPlace" ["thing"] := by
  obtain ⟨sa, kk, ga, gg, ha, hno⟩ := clsB_ok b
  rw [Bool.and_eq_true] at c
  have lk : ∃ nm q N bs sn sub ab col dd k0 k1 k2 k3 k5, K.lookup C = some (excClassObj nm q C N bs (.ref cE :: veT) true sn sub ab col dd k0 k1 k2 k3 k5 "ValueError.__new__") := ⟨nm, q, N, bs, sn, sub, ab, col, dd, k0, k1, k2, k3, k5, x⟩
  have hO : OexC K C := ⟨⟨nm, q, N, bs, _, sn, sub, ab, col, dd, k0, k1, k2, k3, k5, x, rfl⟩, sa, (exo_sub x _).trans (by simp), exo_type x, kk⟩
  have Fi := fun_mk (st := s_p_BadPlace_init) l c.1 c.2
  have ti : PySem.W.typeIn K (.ref f) = some (.type "function") := by
    show (K.lookup f).map (·.cls) = _
    rw [l] <;> rfl
  exact ⟨PySem.W.mg_of X G a, lk, sa, kk, ga, gg, ha, hno, ai, ti, ⟨_, fun P w mg base => okm_p_BadPlace_init Fi hO hno, bi_p_BadPlace_init Fi, kb_p_BadPlace_init Fi⟩⟩

theorem clsd_16 {K : PySem.W.Frag} {h : Heap} {mg : Str → Option Value} {cE C f N : Addr} {nm q : Str} {bs : List Value} {sn : List Str} {sub : List Value} {ab : Bool} {col : Option Bool} {dd : Option Addr} {k0 k1 k2 k3 k5 : Option Value} {od an : Option Addr} {osl : Array (Option Value)} {kV dc pm cd ct : Value} (X : K.In h) (G : h.Ns mainGlobals mg)
    (a : PySem.W.nsIn K mainGlobals "BadPlan" = some (some (.ref C)))
    (x : K.lookup C = some (excClassObj nm q C N bs (.ref cE :: veT) true sn sub ab col dd k0 k1 k2 k3 k5 "ValueError.__new__"))
    (b : clsB K C ["thing"] = true)
    (ai : PySem.W.findIn K (.ref C) "__init__" = some (some (.ref f)))
    (l : K.lookup f = some ⟨.type "function", od, .func (PySem.W.fnOf "__init__" "BadPlan.__init__" (defArgs s_p_BadPlan_init) (defBody s_p_BadPlan_init) (defScope s_p_BadPlan_init) .none kV dc pm an cd ct), osl⟩)
    (c : (PySem.W.codeIn K cd "BadPlan.__init__" && PySem.W.keepIn K (.ref f)) = true) : ClsD K mg cE C f "BadPlan" ["thing"] := by
  obtain ⟨sa, kk, ga, gg, ha, hno⟩ := clsB_ok b
  rw [Bool.and_eq_true] at c
  have lk : ∃ nm q N bs sn sub ab col dd k0 k1 k2 k3 k5, K.lookup C = some (excClassObj nm q C N bs (.ref cE :: veT) true sn sub ab col dd k0 k1 k2 k3 k5 "ValueError.__new__") := ⟨nm, q, N, bs, sn, sub, ab, col, dd, k0, k1, k2, k3, k5, x⟩
  have hO : OexC K C := ⟨⟨nm, q, N, bs, _, sn, sub, ab, col, dd, k0, k1, k2, k3, k5, x, rfl⟩, sa, (exo_sub x _).trans (by simp), exo_type x, kk⟩
  have Fi := fun_mk (st := s_p_BadPlan_init) l c.1 c.2
  have ti : PySem.W.typeIn K (.ref f) = some (.type "function") := by
    show (K.lookup f).map (·.cls) = _
    rw [l] <;> rfl
  exact ⟨PySem.W.mg_of X G a, lk, sa, kk, ga, gg, ha, hno, ai, ti, ⟨_, fun P w mg base => okm_p_BadPlan_init Fi hO hno, bi_p_BadPlan_init Fi, kb_p_BadPlan_init Fi⟩⟩

theorem clsd_17 {K : PySem.W.Frag} {h : Heap} {mg : Str → Option Value} {cE C f N : Addr} {nm q : Str} {bs : List Value} {sn : List Str} {sub : List Value} {ab : Bool} {col : Option Bool} {dd : Option Addr} {k0 k1 k2 k3 k5 : Option Value} {od an : Option Addr} {osl : Array (Option Value)} {kV dc pm cd ct : Value} (X : K.In h) (G : h.Ns mainGlobals mg)
    (a : PySem.W.nsIn K mainGlobals "BadProgram" = some (some (.ref C)))
    (x : K.lookup C = some (excClassObj nm q C N bs (.ref cE :: veT) true sn sub ab col dd k0 k1 k2 k3 k5 "ValueError.__new__"))
    (b : clsB K C ["thing"] = true)
    (ai : PySem.W.findIn K (.ref C) "__init__" = some (some (.ref f)))
    (l : K.lookup f = some ⟨.type "function", od, .func (PySem.W.fnOf "__init__" "BadProgram.__init__" (defArgs s_p_BadProgram_init) (defBody s_p_BadProgram_init) (defScope s_p_BadProgram_init) .none kV dc pm an cd ct), osl⟩)
    (c : (PySem.W.codeIn K cd "BadProgram.__init__" && PySem.W.keepIn K (.ref f)) = true) : ClsD K mg cE C f "BadProgram" ["thing"] := by
  obtain ⟨sa, kk, ga, gg, ha, hno⟩ := clsB_ok b
  rw [Bool.and_eq_true] at c
  have lk : ∃ nm q N bs sn sub ab col dd k0 k1 k2 k3 k5, K.lookup C = some (excClassObj nm q C N bs (.ref cE :: veT) true sn sub ab col dd k0 k1 k2 k3 k5 "ValueError.__new__") := ⟨nm, q, N, bs, sn, sub, ab, col, dd, k0, k1, k2, k3, k5, x⟩
  have hO : OexC K C := ⟨⟨nm, q, N, bs, _, sn, sub, ab, col, dd, k0, k1, k2, k3, k5, x, rfl⟩, sa, (exo_sub x _).trans (by simp), exo_type x, kk⟩
  have Fi := fun_mk (st := s_p_BadProgram_init) l c.1 c.2
  have ti : PySem.W.typeIn K (.ref f) = some (.type "function") := by
    show (K.lookup f).map (·.cls) = _
    rw [l] <;> rfl
  exact ⟨PySem.W.mg_of X G a, lk, sa, kk, ga, gg, ha, hno, ai, ti, ⟨_, fun P w mg base => okm_p_BadProgram_init Fi hO hno, bi_p_BadProgram_init Fi, kb_p_BadProgram_init Fi⟩⟩

theorem clsd_18 {K : PySem.W.Frag} {h : Heap} {mg : Str → Option Value} {cE C f N : Addr} {nm q : Str} {bs : List Value} {sn : List Str} {sub : List Value} {ab : Bool} {col : Option Bool} {dd : Option Addr} {k0 k1 k2 k3 k5 : Option Value} {od an : Option Addr} {osl : Array (Option Value)} {kV dc pm cd ct : Value} (X : K.In h) (G : h.Ns mainGlobals mg)
    (a : PySem.W.nsIn K mainGlobals "BadQuestion" = some (some (.ref C)))
    (x : K.lookup C = some (excClassObj nm q C N bs (.ref cE :: veT) true sn sub ab col dd k0 k1 k2 k3 k5 "ValueError.__new__"))
    (b : clsB K C ["thing"] = true)
    (ai : PySem.W.findIn K (.ref C) "__init__" = some (some (.ref f)))
    (l : K.lookup f = some ⟨.type "function", od, .func (PySem.W.fnOf "__init__" "BadQuestion.__init__" (defArgs s_p_BadQuestion_init) (defBody s_p_BadQuestion_init) (defScope s_p_BadQuestion_init) .none kV dc pm an cd ct), osl⟩)
    (c : (PySem.W.codeIn K cd "BadQuestion.__init__" && PySem.W.keepIn K (.ref f)) = true) : ClsD K mg cE C f "BadQuestion" ["thing"] := by
  obtain ⟨sa, kk, ga, gg, ha, hno⟩ := clsB_ok b
  rw [Bool.and_eq_true] at c
  have lk : ∃ nm q N bs sn sub ab col dd k0 k1 k2 k3 k5, K.lookup C = some (excClassObj nm q C N bs (.ref cE :: veT) true sn sub ab col dd k0 k1 k2 k3 k5 "ValueError.__new__") := ⟨nm, q, N, bs, sn, sub, ab, col, dd, k0, k1, k2, k3, k5, x⟩
  have hO : OexC K C := ⟨⟨nm, q, N, bs, _, sn, sub, ab, col, dd, k0, k1, k2, k3, k5, x, rfl⟩, sa, (exo_sub x _).trans (by simp), exo_type x, kk⟩
  have Fi := fun_mk (st := s_p_BadQuestion_init) l c.1 c.2
  have ti : PySem.W.typeIn K (.ref f) = some (.type "function") := by
    show (K.lookup f).map (·.cls) = _
    rw [l] <;> rfl
  exact ⟨PySem.W.mg_of X G a, lk, sa, kk, ga, gg, ha, hno, ai, ti, ⟨_, fun P w mg base => okm_p_BadQuestion_init Fi hO hno, bi_p_BadQuestion_init Fi, kb_p_BadQuestion_init Fi⟩⟩

theorem clsd_19 {K : PySem.W.Frag} {h : Heap} {mg : Str → Option Value} {cE C f N : Addr} {nm q : Str} {bs : List Value} {sn : List Str} {sub : List Value} {ab : Bool} {col : Option Bool} {dd : Option Addr} {k0 k1 k2 k3 k5 : Option Value} {od an : Option Addr} {osl : Array (Option Value)} {kV dc pm cd ct : Value} (X : K.In h) (G : h.Ns mainGlobals mg)
    (a : PySem.W.nsIn K mainGlobals "BadReads" = some (some (.ref C)))
    (x : K.lookup C = some (excClassObj nm q C N bs (.ref cE :: veT) true sn sub ab col dd k0 k1 k2 k3 k5 "ValueError.__new__"))
    (b : clsB K C ["index"] = true)
    (ai : PySem.W.findIn K (.ref C) "__init__" = some (some (.ref f)))
    (l : K.lookup f = some ⟨.type "function", od, .func (PySem.W.fnOf "__init__" "BadReads.__init__" (defArgs s_p_BadReads_init) (defBody s_p_BadReads_init) (defScope s_p_BadReads_init) .none kV dc pm an cd ct), osl⟩)
    (c : (PySem.W.codeIn K cd "BadReads.__init__" && PySem.W.keepIn K (.ref f)) = true) : ClsD K mg cE C f "BadReads" ["index"] := by
  obtain ⟨sa, kk, ga, gg, ha, hno⟩ := clsB_ok b
  rw [Bool.and_eq_true] at c
  have lk : ∃ nm q N bs sn sub ab col dd k0 k1 k2 k3 k5, K.lookup C = some (excClassObj nm q C N bs (.ref cE :: veT) true sn sub ab col dd k0 k1 k2 k3 k5 "ValueError.__new__") := ⟨nm, q, N, bs, sn, sub, ab, col, dd, k0, k1, k2, k3, k5, x⟩
  have hO : OexC K C := ⟨⟨nm, q, N, bs, _, sn, sub, ab, col, dd, k0, k1, k2, k3, k5, x, rfl⟩, sa, (exo_sub x _).trans (by simp), exo_type x, kk⟩
  have Fi := fun_mk (st := s_p_BadReads_init) l c.1 c.2
  have ti : PySem.W.typeIn K (.ref f) = some (.type "function") := by
    show (K.lookup f).map (·.cls) = _
    rw [l] <;> rfl
  exact ⟨PySem.W.mg_of X G a, lk, sa, kk, ga, gg, ha, hno, ai, ti, ⟨_, fun P w mg base => okm_p_BadReads_init Fi hO hno, bi_p_BadReads_init Fi, kb_p_BadReads_init Fi⟩⟩

theorem clsd_20 {K : PySem.W.Frag} {h : Heap} {mg : Str → Option Value} {cE C f N : Addr} {nm q : Str} {bs : List Value} {sn : List Str} {sub : List Value} {ab : Bool} {col : Option Bool} {dd : Option Addr} {k0 k1 k2 k3 k5 : Option Value} {od an : Option Addr} {osl : Array (Option Value)} {kV dc pm cd ct : Value} (X : K.In h) (G : h.Ns mainGlobals mg)
    (a : PySem.W.nsIn K mainGlobals "BadRow" = some (some (.ref C)))
    (x : K.lookup C = some (excClassObj nm q C N bs (.ref cE :: veT) true sn sub ab col dd k0 k1 k2 k3 k5 "ValueError.__new__"))
    (b : clsB K C ["index"] = true)
    (ai : PySem.W.findIn K (.ref C) "__init__" = some (some (.ref f)))
    (l : K.lookup f = some ⟨.type "function", od, .func (PySem.W.fnOf "__init__" "BadRow.__init__" (defArgs s_p_BadRow_init) (defBody s_p_BadRow_init) (defScope s_p_BadRow_init) .none kV dc pm an cd ct), osl⟩)
    (c : (PySem.W.codeIn K cd "BadRow.__init__" && PySem.W.keepIn K (.ref f)) = true) : ClsD K mg cE C f "BadRow" ["index"] := by
  obtain ⟨sa, kk, ga, gg, ha, hno⟩ := clsB_ok b
  rw [Bool.and_eq_true] at c
  have lk : ∃ nm q N bs sn sub ab col dd k0 k1 k2 k3 k5, K.lookup C = some (excClassObj nm q C N bs (.ref cE :: veT) true sn sub ab col dd k0 k1 k2 k3 k5 "ValueError.__new__") := ⟨nm, q, N, bs, sn, sub, ab, col, dd, k0, k1, k2, k3, k5, x⟩
  have hO : OexC K C := ⟨⟨nm, q, N, bs, _, sn, sub, ab, col, dd, k0, k1, k2, k3, k5, x, rfl⟩, sa, (exo_sub x _).trans (by simp), exo_type x, kk⟩
  have Fi := fun_mk (st := s_p_BadRow_init) l c.1 c.2
  have ti : PySem.W.typeIn K (.ref f) = some (.type "function") := by
    show (K.lookup f).map (·.cls) = _
    rw [l] <;> rfl
  exact ⟨PySem.W.mg_of X G a, lk, sa, kk, ga, gg, ha, hno, ai, ti, ⟨_, fun P w mg base => okm_p_BadRow_init Fi hO hno, bi_p_BadRow_init Fi, kb_p_BadRow_init Fi⟩⟩

theorem clsd_21 {K : PySem.W.Frag} {h : Heap} {mg : Str → Option Value} {cE C f N : Addr} {nm q : Str} {bs : List Value} {sn : List Str} {sub : List Value} {ab : Bool} {col : Option Bool} {dd : Option Addr} {k0 k1 k2 k3 k5 : Option Value} {od an : Option Addr} {osl : Array (Option Value)} {kV dc pm cd ct : Value} (X : K.In h) (G : h.Ns mainGlobals mg)
    (a : PySem.W.nsIn K mainGlobals "BadRows" = some (some (.ref C)))
    (x : K.lookup C = some (excClassObj nm q C N bs (.ref cE :: veT) true sn sub ab col dd k0 k1 k2 k3 k5 "ValueError.__new__"))
    (b : clsB K C ["index"] = true)
    (ai : PySem.W.findIn K (.ref C) "__init__" = some (some (.ref f)))
    (l : K.lookup f = some ⟨.type "function", od, .func (PySem.W.fnOf "__init__" "BadRows.__init__" (defArgs s_p_BadRows_init) (defBody s_p_BadRows_init) (defScope s_p_BadRows_init) .none kV dc pm an cd ct), osl⟩)
    (c : (PySem.W.codeIn K cd "BadRows.__init__" && PySem.W.keepIn K (.ref f)) = true) : ClsD K mg cE C f "BadRows" ["index"] := by
  obtain ⟨sa, kk, ga, gg, ha, hno⟩ := clsB_ok b
  rw [Bool.and_eq_true] at c
  have lk : ∃ nm q N bs sn sub ab col dd k0 k1 k2 k3 k5, K.lookup C = some (excClassObj nm q C N bs (.ref cE :: veT) true sn sub ab col dd k0 k1 k2 k3 k5 "ValueError.__new__") := ⟨nm, q, N, bs, sn, sub, ab, col, dd, k0, k1, k2, k3, k5, x⟩
  have hO : OexC K C := ⟨⟨nm, q, N, bs, _, sn, sub, ab, col, dd, k0, k1, k2, k3, k5, x, rfl⟩, sa, (exo_sub x _).trans (by simp), exo_type x, kk⟩
  have Fi := fun_mk (st := s_p_BadRows_init) l c.1 c.2
  have ti : PySem.W.typeIn K (.ref f) = some (.type "function") := by
    show (K.lookup f).map (·.cls) = _
    rw [l] <;> rfl
  exact ⟨PySem.W.mg_of X G a, lk, sa, kk, ga, gg, ha, hno, ai, ti, ⟨_, fun P w mg base => okm_p_BadRows_init Fi hO hno, bi_p_BadRows_init Fi, kb_p_BadRows_init Fi⟩⟩

theorem clsd_22 {K : PySem.W.Frag} {h : Heap} {mg : Str → Option Value} {cE C f N : Addr} {nm q : Str} {bs : List Value} {sn : List Str} {sub : List Value} {ab : Bool} {col : Option Bool} {dd : Option Addr} {k0 k1 k2 k3 k5 : Option Value} {od an : Option Addr} {osl : Array (Option Value)} {kV dc pm cd ct : Value} (X : K.In h) (G : h.Ns mainGlobals mg)
    (a : PySem.W.nsIn K mainGlobals "BadSeen" = some (some (.ref C)))
    (x : K.lookup C = some (excClassObj nm q C N bs (.ref cE :: veT) true sn sub ab col dd k0 k1 k2 k3 k5 "ValueError.__new__"))
    (b : clsB K C ["index"] = true)
    (ai : PySem.W.findIn K (.ref C) "__init__" = some (some (.ref f)))
    (l : K.lookup f = some ⟨.type "function", od, .func (PySem.W.fnOf "__init__" "BadSeen.__init__" (defArgs s_p_BadSeen_init) (defBody s_p_BadSeen_init) (defScope s_p_BadSeen_init) .none kV dc pm an cd ct), osl⟩)
    (c : (PySem.W.codeIn K cd "BadSeen.__init__" && PySem.W.keepIn K (.ref f)) = true) : ClsD K mg cE C f "BadSeen" ["index"] := by
  obtain ⟨sa, kk, ga, gg, ha, hno⟩ := clsB_ok b
  rw [Bool.and_eq_true] at c
  have lk : ∃ nm q N bs sn sub ab col dd k0 k1 k2 k3 k5, K.lookup C = some (excClassObj nm q C N bs (.ref cE :: veT) true sn sub ab col dd k0 k1 k2 k3 k5 "ValueError.__new__") := ⟨nm, q, N, bs, sn, sub, ab, col, dd, k0, k1, k2, k3, k5, x⟩
  have hO : OexC K C := ⟨⟨nm, q, N, bs, _, sn, sub, ab, col, dd, k0, k1, k2, k3, k5, x, rfl⟩, sa, (exo_sub x _).trans (by simp), exo_type x, kk⟩
  have Fi := fun_mk (st := s_p_BadSeen_init) l c.1 c.2
  have ti : PySem.W.typeIn K (.ref f) = some (.type "function") := by
    show (K.lookup f).map (·.cls) = _
    rw [l] <;> rfl
  exact ⟨PySem.W.mg_of X G a, lk, sa, kk, ga, gg, ha, hno, ai, ti, ⟨_, fun P w mg base => okm_p_BadSeen_init Fi hO hno, bi_p_BadSeen_init Fi, kb_p_BadSeen_init Fi⟩⟩

theorem clsd_23 {K : PySem.W.Frag} {h : Heap} {mg : Str → Option Value} {cE C f N : Addr} {nm q : Str} {bs : List Value} {sn : List Str} {sub : List Value} {ab : Bool} {col : Option Bool} {dd : Option Addr} {k0 k1 k2 k3 k5 : Option Value} {od an : Option Addr} {osl : Array (Option Value)} {kV dc pm cd ct : Value} (X : K.In h) (G : h.Ns mainGlobals mg)
    (a : PySem.W.nsIn K mainGlobals "BadSession" = some (some (.ref C)))
    (x : K.lookup C = some (excClassObj nm q C N bs (.ref cE :: veT) true sn sub ab col dd k0 k1 k2 k3 k5 "ValueError.__new__"))
    (b : clsB K C ["thing"] = true)
    (ai : PySem.W.findIn K (.ref C) "__init__" = some (some (.ref f)))
    (l : K.lookup f = some ⟨.type "function", od, .func (PySem.W.fnOf "__init__" "BadSession.__init__" (defArgs s_p_BadSession_init) (defBody s_p_BadSession_init) (defScope s_p_BadSession_init) .none kV dc pm an cd ct), osl⟩)
    (c : (PySem.W.codeIn K cd "BadSession.__init__" && PySem.W.keepIn K (.ref f)) = true) : ClsD K mg cE C f "BadSession" ["thing"] := by
  obtain ⟨sa, kk, ga, gg, ha, hno⟩ := clsB_ok b
  rw [Bool.and_eq_true] at c
  have lk : ∃ nm q N bs sn sub ab col dd k0 k1 k2 k3 k5, K.lookup C = some (excClassObj nm q C N bs (.ref cE :: veT) true sn sub ab col dd k0 k1 k2 k3 k5 "ValueError.__new__") := ⟨nm, q, N, bs, sn, sub, ab, col, dd, k0, k1, k2, k3, k5, x⟩
  have hO : OexC K C := ⟨⟨nm, q, N, bs, _, sn, sub, ab, col, dd, k0, k1, k2, k3, k5, x, rfl⟩, sa, (exo_sub x _).trans (by simp), exo_type x, kk⟩
  have Fi := fun_mk (st := s_p_BadSession_init) l c.1 c.2
  have ti : PySem.W.typeIn K (.ref f) = some (.type "function") := by
    show (K.lookup f).map (·.cls) = _
    rw [l] <;> rfl
  exact ⟨PySem.W.mg_of X G a, lk, sa, kk, ga, gg, ha, hno, ai, ti, ⟨_, fun P w mg base => okm_p_BadSession_init Fi hO hno, bi_p_BadSession_init Fi, kb_p_BadSession_init Fi⟩⟩

theorem clsd_24 {K : PySem.W.Frag} {h : Heap} {mg : Str → Option Value} {cE C f N : Addr} {nm q : Str} {bs : List Value} {sn : List Str} {sub : List Value} {ab : Bool} {col : Option Bool} {dd : Option Addr} {k0 k1 k2 k3 k5 : Option Value} {od an : Option Addr} {osl : Array (Option Value)} {kV dc pm cd ct : Value} (X : K.In h) (G : h.Ns mainGlobals mg)
    (a : PySem.W.nsIn K mainGlobals "BadSome" = some (some (.ref C)))
    (x : K.lookup C = some (excClassObj nm q C N bs (.ref cE :: veT) true sn sub ab col dd k0 k1 k2 k3 k5 "ValueError.__new__"))
    (b : clsB K C ["index"] = true)
    (ai : PySem.W.findIn K (.ref C) "__init__" = some (some (.ref f)))
    (l : K.lookup f = some ⟨.type "function", od, .func (PySem.W.fnOf "__init__" "BadSome.__init__" (defArgs s_p_BadSome_init) (defBody s_p_BadSome_init) (defScope s_p_BadSome_init) .none kV dc pm an cd ct), osl⟩)
    (c : (PySem.W.codeIn K cd "BadSome.__init__" && PySem.W.keepIn K (.ref f)) = true) : ClsD K mg cE C f "BadSome" ["index"] := by
  obtain ⟨sa, kk, ga, gg, ha, hno⟩ := clsB_ok b
  rw [Bool.and_eq_true] at c
  have lk : ∃ nm q N bs sn sub ab col dd k0 k1 k2 k3 k5, K.lookup C = some (excClassObj nm q C N bs (.ref cE :: veT) true sn sub ab col dd k0 k1 k2 k3 k5 "ValueError.__new__") := ⟨nm, q, N, bs, sn, sub, ab, col, dd, k0, k1, k2, k3, k5, x⟩
  have hO : OexC K C := ⟨⟨nm, q, N, bs, _, sn, sub, ab, col, dd, k0, k1, k2, k3, k5, x, rfl⟩, sa, (exo_sub x _).trans (by simp), exo_type x, kk⟩
  have Fi := fun_mk (st := s_p_BadSome_init) l c.1 c.2
  have ti : PySem.W.typeIn K (.ref f) = some (.type "function") := by
    show (K.lookup f).map (·.cls) = _
    rw [l] <;> rfl
  exact ⟨PySem.W.mg_of X G a, lk, sa, kk, ga, gg, ha, hno, ai, ti, ⟨_, fun P w mg base => okm_p_BadSome_init Fi hO hno, bi_p_BadSome_init Fi, kb_p_BadSome_init Fi⟩⟩

theorem clsd_25 {K : PySem.W.Frag} {h : Heap} {mg : Str → Option Value} {cE C f N : Addr} {nm q : Str} {bs : List Value} {sn : List Str} {sub : List Value} {ab : Bool} {col : Option Bool} {dd : Option Addr} {k0 k1 k2 k3 k5 : Option Value} {od an : Option Addr} {osl : Array (Option Value)} {kV dc pm cd ct : Value} (X : K.In h) (G : h.Ns mainGlobals mg)
    (a : PySem.W.nsIn K mainGlobals "BadSource" = some (some (.ref C)))
    (x : K.lookup C = some (excClassObj nm q C N bs (.ref cE :: veT) true sn sub ab col dd k0 k1 k2 k3 k5 "ValueError.__new__"))
    (b : clsB K C ["thing"] = true)
    (ai : PySem.W.findIn K (.ref C) "__init__" = some (some (.ref f)))
    (l : K.lookup f = some ⟨.type "function", od, .func (PySem.W.fnOf "__init__" "BadSource.__init__" (defArgs s_p_BadSource_init) (defBody s_p_BadSource_init) (defScope s_p_BadSource_init) .none kV dc pm an cd ct), osl⟩)
    (c : (PySem.W.codeIn K cd "BadSource.__init__" && PySem.W.keepIn K (.ref f)) = true) : ClsD K mg cE C f "BadSource" ["thing"] := by
  obtain ⟨sa, kk, ga, gg, ha, hno⟩ := clsB_ok b
  rw [Bool.and_eq_true] at c
  have lk : ∃ nm q N bs sn sub ab col dd k0 k1 k2 k3 k5, K.lookup C = some (excClassObj nm q C N bs (.ref cE :: veT) true sn sub ab col dd k0 k1 k2 k3 k5 "ValueError.__new__") := ⟨nm, q, N, bs, sn, sub, ab, col, dd, k0, k1, k2, k3, k5, x⟩
  have hO : OexC K C := ⟨⟨nm, q, N, bs, _, sn, sub, ab, col, dd, k0, k1, k2, k3, k5, x, rfl⟩, sa, (exo_sub x _).trans (by simp), exo_type x, kk⟩
  have Fi := fun_mk (st := s_p_BadSource_init) l c.1 c.2
  have ti : PySem.W.typeIn K (.ref f) = some (.type "function") := by
    show (K.lookup f).map (·.cls) = _
    rw [l] <;> rfl
  exact ⟨PySem.W.mg_of X G a, lk, sa, kk, ga, gg, ha, hno, ai, ti, ⟨_, fun P w mg base => okm_p_BadSource_init Fi hO hno, bi_p_BadSource_init Fi, kb_p_BadSource_init Fi⟩⟩

theorem clsd_26 {K : PySem.W.Frag} {h : Heap} {mg : Str → Option Value} {cE C f N : Addr} {nm q : Str} {bs : List Value} {sn : List Str} {sub : List Value} {ab : Bool} {col : Option Bool} {dd : Option Addr} {k0 k1 k2 k3 k5 : Option Value} {od an : Option Addr} {osl : Array (Option Value)} {kV dc pm cd ct : Value} (X : K.In h) (G : h.Ns mainGlobals mg)
    (a : PySem.W.nsIn K mainGlobals "BadSpots" = some (some (.ref C)))
    (x : K.lookup C = some (excClassObj nm q C N bs (.ref cE :: veT) true sn sub ab col dd k0 k1 k2 k3 k5 "ValueError.__new__"))
    (b : clsB K C ["index"] = true)
    (ai : PySem.W.findIn K (.ref C) "__init__" = some (some (.ref f)))
    (l : K.lookup f = some ⟨.type "function", od, .func (PySem.W.fnOf "__init__" "BadSpots.__init__" (defArgs s_p_BadSpots_init) (defBody s_p_BadSpots_init) (defScope s_p_BadSpots_init) .none kV dc pm an cd ct), osl⟩)
    (c : (PySem.W.codeIn K cd "BadSpots.__init__" && PySem.W.keepIn K (.ref f)) = true) : ClsD K mg cE C f "BadSpots" ["index"] := by
  obtain ⟨sa, kk, ga, gg, ha, hno⟩ := clsB_ok b
  rw [Bool.and_eq_true] at c
  have lk : ∃ nm q N bs sn sub ab col dd k0 k1 k2 k3 k5, K.lookup C = some (excClassObj nm q C N bs (.ref cE :: veT) true sn sub ab col dd k0 k1 k2 k3 k5 "ValueError.__new__") := ⟨nm, q, N, bs, sn, sub, ab, col, dd, k0, k1, k2, k3, k5, x⟩
  have hO : OexC K C := ⟨⟨nm, q, N, bs, _, sn, sub, ab, col, dd, k0, k1, k2, k3, k5, x, rfl⟩, sa, (exo_sub x _).trans (by simp), exo_type x, kk⟩
  have Fi := fun_mk (st := s_p_BadSpots_init) l c.1 c.2
  have ti : PySem.W.typeIn K (.ref f) = some (.type "function") := by
    show (K.lookup f).map (·.cls) = _
    rw [l] <;> rfl
  exact ⟨PySem.W.mg_of X G a, lk, sa, kk, ga, gg, ha, hno, ai, ti, ⟨_, fun P w mg base => okm_p_BadSpots_init Fi hO hno, bi_p_BadSpots_init Fi, kb_p_BadSpots_init Fi⟩⟩

theorem clsd_27 {K : PySem.W.Frag} {h : Heap} {mg : Str → Option Value} {cE C f N : Addr} {nm q : Str} {bs : List Value} {sn : List Str} {sub : List Value} {ab : Bool} {col : Option Bool} {dd : Option Addr} {k0 k1 k2 k3 k5 : Option Value} {od an : Option Addr} {osl : Array (Option Value)} {kV dc pm cd ct : Value} (X : K.In h) (G : h.Ns mainGlobals mg)
    (a : PySem.W.nsIn K mainGlobals "BadTeller" = some (some (.ref C)))
    (x : K.lookup C = some (excClassObj nm q C N bs (.ref cE :: veT) true sn sub ab col dd k0 k1 k2 k3 k5 "ValueError.__new__"))
    (b : clsB K C ["thing"] = true)
    (ai : PySem.W.findIn K (.ref C) "__init__" = some (some (.ref f)))
    (l : K.lookup f = some ⟨.type "function", od, .func (PySem.W.fnOf "__init__" "BadTeller.__init__" (defArgs s_p_BadTeller_init) (defBody s_p_BadTeller_init) (defScope s_p_BadTeller_init) .none kV dc pm an cd ct), osl⟩)
    (c : (PySem.W.codeIn K cd "BadTeller.__init__" && PySem.W.keepIn K (.ref f)) = true) : ClsD K mg cE C f "BadTeller" ["thing"] := by
  obtain ⟨sa, kk, ga, gg, ha, hno⟩ := clsB_ok b
  rw [Bool.and_eq_true] at c
  have lk : ∃ nm q N bs sn sub ab col dd k0 k1 k2 k3 k5, K.lookup C = some (excClassObj nm q C N bs (.ref cE :: veT) true sn sub ab col dd k0 k1 k2 k3 k5 "ValueError.__new__") := ⟨nm, q, N, bs, sn, sub, ab, col, dd, k0, k1, k2, k3, k5, x⟩
  have hO : OexC K C := ⟨⟨nm, q, N, bs, _, sn, sub, ab, col, dd, k0, k1, k2, k3, k5, x, rfl⟩, sa, (exo_sub x _).trans (by simp), exo_type x, kk⟩
  have Fi := fun_mk (st := s_p_BadTeller_init) l c.1 c.2
  have ti : PySem.W.typeIn K (.ref f) = some (.type "function") := by
    show (K.lookup f).map (·.cls) = _
    rw [l] <;> rfl
  exact ⟨PySem.W.mg_of X G a, lk, sa, kk, ga, gg, ha, hno, ai, ti, ⟨_, fun P w mg base => okm_p_BadTeller_init Fi hO hno, bi_p_BadTeller_init Fi, kb_p_BadTeller_init Fi⟩⟩

theorem clsd_28 {K : PySem.W.Frag} {h : Heap} {mg : Str → Option Value} {cE C f N : Addr} {nm q : Str} {bs : List Value} {sn : List Str} {sub : List Value} {ab : Bool} {col : Option Bool} {dd : Option Addr} {k0 k1 k2 k3 k5 : Option Value} {od an : Option Addr} {osl : Array (Option Value)} {kV dc pm cd ct : Value} (X : K.In h) (G : h.Ns mainGlobals mg)
    (a : PySem.W.nsIn K mainGlobals "BadTells" = some (some (.ref C)))
    (x : K.lookup C = some (excClassObj nm q C N bs (.ref cE :: veT) true sn sub ab col dd k0 k1 k2 k3 k5 "ValueError.__new__"))
    (b : clsB K C ["index"] = true)
    (ai : PySem.W.findIn K (.ref C) "__init__" = some (some (.ref f)))
    (l : K.lookup f = some ⟨.type "function", od, .func (PySem.W.fnOf "__init__" "BadTells.__init__" (defArgs s_p_BadTells_init) (defBody s_p_BadTells_init) (defScope s_p_BadTells_init) .none kV dc pm an cd ct), osl⟩)
    (c : (PySem.W.codeIn K cd "BadTells.__init__" && PySem.W.keepIn K (.ref f)) = true) : ClsD K mg cE C f "BadTells" ["index"] := by
  obtain ⟨sa, kk, ga, gg, ha, hno⟩ := clsB_ok b
  rw [Bool.and_eq_true] at c
  have lk : ∃ nm q N bs sn sub ab col dd k0 k1 k2 k3 k5, K.lookup C = some (excClassObj nm q C N bs (.ref cE :: veT) true sn sub ab col dd k0 k1 k2 k3 k5 "ValueError.__new__") := ⟨nm, q, N, bs, sn, sub, ab, col, dd, k0, k1, k2, k3, k5, x⟩
  have hO : OexC K C := ⟨⟨nm, q, N, bs, _, sn, sub, ab, col, dd, k0, k1, k2, k3, k5, x, rfl⟩, sa, (exo_sub x _).trans (by simp), exo_type x, kk⟩
  have Fi := fun_mk (st := s_p_BadTells_init) l c.1 c.2
  have ti : PySem.W.typeIn K (.ref f) = some (.type "function") := by
    show (K.lookup f).map (·.cls) = _
    rw [l] <;> rfl
  exact ⟨PySem.W.mg_of X G a, lk, sa, kk, ga, gg, ha, hno, ai, ti, ⟨_, fun P w mg base => okm_p_BadTells_init Fi hO hno, bi_p_BadTells_init Fi, kb_p_BadTells_init Fi⟩⟩

theorem clsd_29 {K : PySem.W.Frag} {h : Heap} {mg : Str → Option Value} {cE C f N : Addr} {nm q : Str} {bs : List Value} {sn : List Str} {sub : List Value} {ab : Bool} {col : Option Bool} {dd : Option Addr} {k0 k1 k2 k3 k5 : Option Value} {od an : Option Addr} {osl : Array (Option Value)} {kV dc pm cd ct : Value} (X : K.In h) (G : h.Ns mainGlobals mg)
    (a : PySem.W.nsIn K mainGlobals "BadText" = some (some (.ref C)))
    (x : K.lookup C = some (excClassObj nm q C N bs (.ref cE :: veT) true sn sub ab col dd k0 k1 k2 k3 k5 "ValueError.__new__"))
    (b : clsB K C ["line", "sign"] = true)
    (ai : PySem.W.findIn K (.ref C) "__init__" = some (some (.ref f)))
    (l : K.lookup f = some ⟨.type "function", od, .func (PySem.W.fnOf "__init__" "BadText.__init__" (defArgs s_p_BadText_init) (defBody s_p_BadText_init) (defScope s_p_BadText_init) .none kV dc pm an cd ct), osl⟩)
    (c : (PySem.W.codeIn K cd "BadText.__init__" && PySem.W.keepIn K (.ref f)) = true) : ClsD K mg cE C f "BadText" ["line", "sign"] := by
  obtain ⟨sa, kk, ga, gg, ha, hno⟩ := clsB_ok b
  rw [Bool.and_eq_true] at c
  have lk : ∃ nm q N bs sn sub ab col dd k0 k1 k2 k3 k5, K.lookup C = some (excClassObj nm q C N bs (.ref cE :: veT) true sn sub ab col dd k0 k1 k2 k3 k5 "ValueError.__new__") := ⟨nm, q, N, bs, sn, sub, ab, col, dd, k0, k1, k2, k3, k5, x⟩
  have hO : OexC K C := ⟨⟨nm, q, N, bs, _, sn, sub, ab, col, dd, k0, k1, k2, k3, k5, x, rfl⟩, sa, (exo_sub x _).trans (by simp), exo_type x, kk⟩
  have Fi := fun_mk (st := s_p_BadText_init) l c.1 c.2
  have ti : PySem.W.typeIn K (.ref f) = some (.type "function") := by
    show (K.lookup f).map (·.cls) = _
    rw [l] <;> rfl
  exact ⟨PySem.W.mg_of X G a, lk, sa, kk, ga, gg, ha, hno, ai, ti, ⟨_, fun P w mg base => okm_p_BadText_init Fi hO hno, bi_p_BadText_init Fi, kb_p_BadText_init Fi⟩⟩

theorem clsd_30 {K : PySem.W.Frag} {h : Heap} {mg : Str → Option Value} {cE C f N : Addr} {nm q : Str} {bs : List Value} {sn : List Str} {sub : List Value} {ab : Bool} {col : Option Bool} {dd : Option Addr} {k0 k1 k2 k3 k5 : Option Value} {od an : Option Addr} {osl : Array (Option Value)} {kV dc pm cd ct : Value} (X : K.In h) (G : h.Ns mainGlobals mg)
    (a : PySem.W.nsIn K mainGlobals "InUse" = some (some (.ref C)))
    (x : K.lookup C = some (excClassObj nm q C N bs (.ref cE :: veT) true sn sub ab col dd k0 k1 k2 k3 k5 "ValueError.__new__"))
    (b : clsB K C ["question"] = true)
    (ai : PySem.W.findIn K (.ref C) "__init__" = some (some (.ref f)))
    (l : K.lookup f = some ⟨.type "function", od, .func (PySem.W.fnOf "__init__" "InUse.__init__" (defArgs s_p_InUse_init) (defBody s_p_InUse_init) (defScope s_p_InUse_init) .none kV dc pm an cd ct), osl⟩)
    (c : (PySem.W.codeIn K cd "InUse.__init__" && PySem.W.keepIn K (.ref f)) = true) : ClsD K mg cE C f "InUse" ["question"] := by
  obtain ⟨sa, kk, ga, gg, ha, hno⟩ := clsB_ok b
  rw [Bool.and_eq_true] at c
  have lk : ∃ nm q N bs sn sub ab col dd k0 k1 k2 k3 k5, K.lookup C = some (excClassObj nm q C N bs (.ref cE :: veT) true sn sub ab col dd k0 k1 k2 k3 k5 "ValueError.__new__") := ⟨nm, q, N, bs, sn, sub, ab, col, dd, k0, k1, k2, k3, k5, x⟩
  have hO : OexC K C := ⟨⟨nm, q, N, bs, _, sn, sub, ab, col, dd, k0, k1, k2, k3, k5, x, rfl⟩, sa, (exo_sub x _).trans (by simp), exo_type x, kk⟩
  have Fi := fun_mk (st := s_p_InUse_init) l c.1 c.2
  have ti : PySem.W.typeIn K (.ref f) = some (.type "function") := by
    show (K.lookup f).map (·.cls) = _
    rw [l] <;> rfl
  exact ⟨PySem.W.mg_of X G a, lk, sa, kk, ga, gg, ha, hno, ai, ti, ⟨_, fun P w mg base => okm_p_InUse_init Fi hO hno, bi_p_InUse_init Fi, kb_p_InUse_init Fi⟩⟩

theorem clsd_31 {K : PySem.W.Frag} {h : Heap} {mg : Str → Option Value} {cE C f N : Addr} {nm q : Str} {bs : List Value} {sn : List Str} {sub : List Value} {ab : Bool} {col : Option Bool} {dd : Option Addr} {k0 k1 k2 k3 k5 : Option Value} {od an : Option Addr} {osl : Array (Option Value)} {kV dc pm cd ct : Value} (X : K.In h) (G : h.Ns mainGlobals mg)
    (a : PySem.W.nsIn K mainGlobals "IsWatched" = some (some (.ref C)))
    (x : K.lookup C = some (excClassObj nm q C N bs (.ref cE :: veT) true sn sub ab col dd k0 k1 k2 k3 k5 "ValueError.__new__"))
    (b : clsB K C ["question"] = true)
    (ai : PySem.W.findIn K (.ref C) "__init__" = some (some (.ref f)))
    (l : K.lookup f = some ⟨.type "function", od, .func (PySem.W.fnOf "__init__" "IsWatched.__init__" (defArgs s_p_IsWatched_init) (defBody s_p_IsWatched_init) (defScope s_p_IsWatched_init) .none kV dc pm an cd ct), osl⟩)
    (c : (PySem.W.codeIn K cd "IsWatched.__init__" && PySem.W.keepIn K (.ref f)) = true) : ClsD K mg cE C f "IsWatched" ["question"] := by
  obtain ⟨sa, kk, ga, gg, ha, hno⟩ := clsB_ok b
  rw [Bool.and_eq_true] at c
  have lk : ∃ nm q N bs sn sub ab col dd k0 k1 k2 k3 k5, K.lookup C = some (excClassObj nm q C N bs (.ref cE :: veT) true sn sub ab col dd k0 k1 k2 k3 k5 "ValueError.__new__") := ⟨nm, q, N, bs, sn, sub, ab, col, dd, k0, k1, k2, k3, k5, x⟩
  have hO : OexC K C := ⟨⟨nm, q, N, bs, _, sn, sub, ab, col, dd, k0, k1, k2, k3, k5, x, rfl⟩, sa, (exo_sub x _).trans (by simp), exo_type x, kk⟩
  have Fi := fun_mk (st := s_p_IsWatched_init) l c.1 c.2
  have ti : PySem.W.typeIn K (.ref f) = some (.type "function") := by
    show (K.lookup f).map (·.cls) = _
    rw [l] <;> rfl
  exact ⟨PySem.W.mg_of X G a, lk, sa, kk, ga, gg, ha, hno, ai, ti, ⟨_, fun P w mg base => okm_p_IsWatched_init Fi hO hno, bi_p_IsWatched_init Fi, kb_p_IsWatched_init Fi⟩⟩

theorem clsd_32 {K : PySem.W.Frag} {h : Heap} {mg : Str → Option Value} {cE C f N : Addr} {nm q : Str} {bs : List Value} {sn : List Str} {sub : List Value} {ab : Bool} {col : Option Bool} {dd : Option Addr} {k0 k1 k2 k3 k5 : Option Value} {od an : Option Addr} {osl : Array (Option Value)} {kV dc pm cd ct : Value} (X : K.In h) (G : h.Ns mainGlobals mg)
    (a : PySem.W.nsIn K mainGlobals "NoCell" = some (some (.ref C)))
    (x : K.lookup C = some (excClassObj nm q C N bs (.ref cE :: veT) true sn sub ab col dd k0 k1 k2 k3 k5 "ValueError.__new__"))
    (b : clsB K C ["thing"] = true)
    (ai : PySem.W.findIn K (.ref C) "__init__" = some (some (.ref f)))
    (l : K.lookup f = some ⟨.type "function", od, .func (PySem.W.fnOf "__init__" "NoCell.__init__" (defArgs s_p_NoCell_init) (defBody s_p_NoCell_init) (defScope s_p_NoCell_init) .none kV dc pm an cd ct), osl⟩)
    (c : (PySem.W.codeIn K cd "NoCell.__init__" && PySem.W.keepIn K (.ref f)) = true) : ClsD K mg cE C f "NoCell" ["thing"] := by
  obtain ⟨sa, kk, ga, gg, ha, hno⟩ := clsB_ok b
  rw [Bool.and_eq_true] at c
  have lk : ∃ nm q N bs sn sub ab col dd k0 k1 k2 k3 k5, K.lookup C = some (excClassObj nm q C N bs (.ref cE :: veT) true sn sub ab col dd k0 k1 k2 k3 k5 "ValueError.__new__") := ⟨nm, q, N, bs, sn, sub, ab, col, dd, k0, k1, k2, k3, k5, x⟩
  have hO : OexC K C := ⟨⟨nm, q, N, bs, _, sn, sub, ab, col, dd, k0, k1, k2, k3, k5, x, rfl⟩, sa, (exo_sub x _).trans (by simp), exo_type x, kk⟩
  have Fi := fun_mk (st := s_p_NoCell_init) l c.1 c.2
  have ti : PySem.W.typeIn K (.ref f) = some (.type "function") := by
    show (K.lookup f).map (·.cls) = _
    rw [l] <;> rfl
  exact ⟨PySem.W.mg_of X G a, lk, sa, kk, ga, gg, ha, hno, ai, ti, ⟨_, fun P w mg base => okm_p_NoCell_init Fi hO hno, bi_p_NoCell_init Fi, kb_p_NoCell_init Fi⟩⟩

theorem clsd_33 {K : PySem.W.Frag} {h : Heap} {mg : Str → Option Value} {cE C f N : Addr} {nm q : Str} {bs : List Value} {sn : List Str} {sub : List Value} {ab : Bool} {col : Option Bool} {dd : Option Addr} {k0 k1 k2 k3 k5 : Option Value} {od an : Option Addr} {osl : Array (Option Value)} {kV dc pm cd ct : Value} (X : K.In h) (G : h.Ns mainGlobals mg)
    (a : PySem.W.nsIn K mainGlobals "NoCount" = some (some (.ref C)))
    (x : K.lookup C = some (excClassObj nm q C N bs (.ref cE :: veT) true sn sub ab col dd k0 k1 k2 k3 k5 "ValueError.__new__"))
    (b : clsB K C ["thing"] = true)
    (ai : PySem.W.findIn K (.ref C) "__init__" = some (some (.ref f)))
    (l : K.lookup f = some ⟨.type "function", od, .func (PySem.W.fnOf "__init__" "NoCount.__init__" (defArgs s_p_NoCount_init) (defBody s_p_NoCount_init) (defScope s_p_NoCount_init) .none kV dc pm an cd ct), osl⟩)
    (c : (PySem.W.codeIn K cd "NoCount.__init__" && PySem.W.keepIn K (.ref f)) = true) : ClsD K mg cE C f "NoCount" ["thing"] := by
  obtain ⟨sa, kk, ga, gg, ha, hno⟩ := clsB_ok b
  rw [Bool.and_eq_true] at c
  have lk : ∃ nm q N bs sn sub ab col dd k0 k1 k2 k3 k5, K.lookup C = some (excClassObj nm q C N bs (.ref cE :: veT) true sn sub ab col dd k0 k1 k2 k3 k5 "ValueError.__new__") := ⟨nm, q, N, bs, sn, sub, ab, col, dd, k0, k1, k2, k3, k5, x⟩
  have hO : OexC K C := ⟨⟨nm, q, N, bs, _, sn, sub, ab, col, dd, k0, k1, k2, k3, k5, x, rfl⟩, sa, (exo_sub x _).trans (by simp), exo_type x, kk⟩
  have Fi := fun_mk (st := s_p_NoCount_init) l c.1 c.2
  have ti : PySem.W.typeIn K (.ref f) = some (.type "function") := by
    show (K.lookup f).map (·.cls) = _
    rw [l] <;> rfl
  exact ⟨PySem.W.mg_of X G a, lk, sa, kk, ga, gg, ha, hno, ai, ti, ⟨_, fun P w mg base => okm_p_NoCount_init Fi hO hno, bi_p_NoCount_init Fi, kb_p_NoCount_init Fi⟩⟩

theorem clsd_34 {K : PySem.W.Frag} {h : Heap} {mg : Str → Option Value} {cE C f N : Addr} {nm q : Str} {bs : List Value} {sn : List Str} {sub : List Value} {ab : Bool} {col : Option Bool} {dd : Option Addr} {k0 k1 k2 k3 k5 : Option Value} {od an : Option Addr} {osl : Array (Option Value)} {kV dc pm cd ct : Value} (X : K.In h) (G : h.Ns mainGlobals mg)
    (a : PySem.W.nsIn K mainGlobals "NoHour" = some (some (.ref C)))
    (x : K.lookup C = some (excClassObj nm q C N bs (.ref cE :: veT) true sn sub ab col dd k0 k1 k2 k3 k5 "ValueError.__new__"))
    (b : clsB K C ["hour"] = true)
    (ai : PySem.W.findIn K (.ref C) "__init__" = some (some (.ref f)))
    (l : K.lookup f = some ⟨.type "function", od, .func (PySem.W.fnOf "__init__" "NoHour.__init__" (defArgs s_p_NoHour_init) (defBody s_p_NoHour_init) (defScope s_p_NoHour_init) .none kV dc pm an cd ct), osl⟩)
    (c : (PySem.W.codeIn K cd "NoHour.__init__" && PySem.W.keepIn K (.ref f)) = true) : ClsD K mg cE C f "NoHour" ["hour"] := by
  obtain ⟨sa, kk, ga, gg, ha, hno⟩ := clsB_ok b
  rw [Bool.and_eq_true] at c
  have lk : ∃ nm q N bs sn sub ab col dd k0 k1 k2 k3 k5, K.lookup C = some (excClassObj nm q C N bs (.ref cE :: veT) true sn sub ab col dd k0 k1 k2 k3 k5 "ValueError.__new__") := ⟨nm, q, N, bs, sn, sub, ab, col, dd, k0, k1, k2, k3, k5, x⟩
  have hO : OexC K C := ⟨⟨nm, q, N, bs, _, sn, sub, ab, col, dd, k0, k1, k2, k3, k5, x, rfl⟩, sa, (exo_sub x _).trans (by simp), exo_type x, kk⟩
  have Fi := fun_mk (st := s_p_NoHour_init) l c.1 c.2
  have ti : PySem.W.typeIn K (.ref f) = some (.type "function") := by
    show (K.lookup f).map (·.cls) = _
    rw [l] <;> rfl
  exact ⟨PySem.W.mg_of X G a, lk, sa, kk, ga, gg, ha, hno, ai, ti, ⟨_, fun P w mg base => okm_p_NoHour_init Fi hO hno, bi_p_NoHour_init Fi, kb_p_NoHour_init Fi⟩⟩

theorem clsd_35 {K : PySem.W.Frag} {h : Heap} {mg : Str → Option Value} {cE C f N : Addr} {nm q : Str} {bs : List Value} {sn : List Str} {sub : List Value} {ab : Bool} {col : Option Bool} {dd : Option Addr} {k0 k1 k2 k3 k5 : Option Value} {od an : Option Addr} {osl : Array (Option Value)} {kV dc pm cd ct : Value} (X : K.In h) (G : h.Ns mainGlobals mg)
    (a : PySem.W.nsIn K mainGlobals "NoLine" = some (some (.ref C)))
    (x : K.lookup C = some (excClassObj nm q C N bs (.ref cE :: veT) true sn sub ab col dd k0 k1 k2 k3 k5 "ValueError.__new__"))
    (b : clsB K C ["thing"] = true)
    (ai : PySem.W.findIn K (.ref C) "__init__" = some (some (.ref f)))
    (l : K.lookup f = some ⟨.type "function", od, .func (PySem.W.fnOf "__init__" "NoLine.__init__" (defArgs s_p_NoLine_init) (defBody s_p_NoLine_init) (defScope s_p_NoLine_init) .none kV dc pm an cd ct), osl⟩)
    (c : (PySem.W.codeIn K cd "NoLine.__init__" && PySem.W.keepIn K (.ref f)) = true) : ClsD K mg cE C f "NoLine" ["thing"] := by
  obtain ⟨sa, kk, ga, gg, ha, hno⟩ := clsB_ok b
  rw [Bool.and_eq_true] at c
  have lk : ∃ nm q N bs sn sub ab col dd k0 k1 k2 k3 k5, K.lookup C = some (excClassObj nm q C N bs (.ref cE :: veT) true sn sub ab col dd k0 k1 k2 k3 k5 "ValueError.__new__") := ⟨nm, q, N, bs, sn, sub, ab, col, dd, k0, k1, k2, k3, k5, x⟩
  have hO : OexC K C := ⟨⟨nm, q, N, bs, _, sn, sub, ab, col, dd, k0, k1, k2, k3, k5, x, rfl⟩, sa, (exo_sub x _).trans (by simp), exo_type x, kk⟩
  have Fi := fun_mk (st := s_p_NoLine_init) l c.1 c.2
  have ti : PySem.W.typeIn K (.ref f) = some (.type "function") := by
    show (K.lookup f).map (·.cls) = _
    rw [l] <;> rfl
  exact ⟨PySem.W.mg_of X G a, lk, sa, kk, ga, gg, ha, hno, ai, ti, ⟨_, fun P w mg base => okm_p_NoLine_init Fi hO hno, bi_p_NoLine_init Fi, kb_p_NoLine_init Fi⟩⟩

theorem clsd_36 {K : PySem.W.Frag} {h : Heap} {mg : Str → Option Value} {cE C f N : Addr} {nm q : Str} {bs : List Value} {sn : List Str} {sub : List Value} {ab : Bool} {col : Option Bool} {dd : Option Addr} {k0 k1 k2 k3 k5 : Option Value} {od an : Option Addr} {osl : Array (Option Value)} {kV dc pm cd ct : Value} (X : K.In h) (G : h.Ns mainGlobals mg)
    (a : PySem.W.nsIn K mainGlobals "NoSpot" = some (some (.ref C)))
    (x : K.lookup C = some (excClassObj nm q C N bs (.ref cE :: veT) true sn sub ab col dd k0 k1 k2 k3 k5 "ValueError.__new__"))
    (b : clsB K C ["hour", "slot"] = true)
    (ai : PySem.W.findIn K (.ref C) "__init__" = some (some (.ref f)))
    (l : K.lookup f = some ⟨.type "function", od, .func (PySem.W.fnOf "__init__" "NoSpot.__init__" (defArgs s_p_NoSpot_init) (defBody s_p_NoSpot_init) (defScope s_p_NoSpot_init) .none kV dc pm an cd ct), osl⟩)
    (c : (PySem.W.codeIn K cd "NoSpot.__init__" && PySem.W.keepIn K (.ref f)) = true) : ClsD K mg cE C f "NoSpot" ["hour", "slot"] := by
  obtain ⟨sa, kk, ga, gg, ha, hno⟩ := clsB_ok b
  rw [Bool.and_eq_true] at c
  have lk : ∃ nm q N bs sn sub ab col dd k0 k1 k2 k3 k5, K.lookup C = some (excClassObj nm q C N bs (.ref cE :: veT) true sn sub ab col dd k0 k1 k2 k3 k5 "ValueError.__new__") := ⟨nm, q, N, bs, sn, sub, ab, col, dd, k0, k1, k2, k3, k5, x⟩
  have hO : OexC K C := ⟨⟨nm, q, N, bs, _, sn, sub, ab, col, dd, k0, k1, k2, k3, k5, x, rfl⟩, sa, (exo_sub x _).trans (by simp), exo_type x, kk⟩
  have Fi := fun_mk (st := s_p_NoSpot_init) l c.1 c.2
  have ti : PySem.W.typeIn K (.ref f) = some (.type "function") := by
    show (K.lookup f).map (·.cls) = _
    rw [l] <;> rfl
  exact ⟨PySem.W.mg_of X G a, lk, sa, kk, ga, gg, ha, hno, ai, ti, ⟨_, fun P w mg base => okm_p_NoSpot_init Fi hO hno, bi_p_NoSpot_init Fi, kb_p_NoSpot_init Fi⟩⟩

theorem clsd_37 {K : PySem.W.Frag} {h : Heap} {mg : Str → Option Value} {cE C f N : Addr} {nm q : Str} {bs : List Value} {sn : List Str} {sub : List Value} {ab : Bool} {col : Option Bool} {dd : Option Addr} {k0 k1 k2 k3 k5 : Option Value} {od an : Option Addr} {osl : Array (Option Value)} {kV dc pm cd ct : Value} (X : K.In h) (G : h.Ns mainGlobals mg)
    (a : PySem.W.nsIn K mainGlobals "NoText" = some (some (.ref C)))
    (x : K.lookup C = some (excClassObj nm q C N bs (.ref cE :: veT) true sn sub ab col dd k0 k1 k2 k3 k5 "ValueError.__new__"))
    (b : clsB K C ["index"] = true)
    (ai : PySem.W.findIn K (.ref C) "__init__" = some (some (.ref f)))
    (l : K.lookup f = some ⟨.type "function", od, .func (PySem.W.fnOf "__init__" "NoText.__init__" (defArgs s_p_NoText_init) (defBody s_p_NoText_init) (defScope s_p_NoText_init) .none kV dc pm an cd ct), osl⟩)
    (c : (PySem.W.codeIn K cd "NoText.__init__" && PySem.W.keepIn K (.ref f)) = true) : ClsD K mg cE C f "NoText" ["index"] := by
  obtain ⟨sa, kk, ga, gg, ha, hno⟩ := clsB_ok b
  rw [Bool.and_eq_true] at c
  have lk : ∃ nm q N bs sn sub ab col dd k0 k1 k2 k3 k5, K.lookup C = some (excClassObj nm q C N bs (.ref cE :: veT) true sn sub ab col dd k0 k1 k2 k3 k5 "ValueError.__new__") := ⟨nm, q, N, bs, sn, sub, ab, col, dd, k0, k1, k2, k3, k5, x⟩
  have hO : OexC K C := ⟨⟨nm, q, N, bs, _, sn, sub, ab, col, dd, k0, k1, k2, k3, k5, x, rfl⟩, sa, (exo_sub x _).trans (by simp), exo_type x, kk⟩
  have Fi := fun_mk (st := s_p_NoText_init) l c.1 c.2
  have ti : PySem.W.typeIn K (.ref f) = some (.type "function") := by
    show (K.lookup f).map (·.cls) = _
    rw [l] <;> rfl
  exact ⟨PySem.W.mg_of X G a, lk, sa, kk, ga, gg, ha, hno, ai, ti, ⟨_, fun P w mg base => okm_p_NoText_init Fi hO hno, bi_p_NoText_init Fi, kb_p_NoText_init Fi⟩⟩

theorem clsd_38 {K : PySem.W.Frag} {h : Heap} {mg : Str → Option Value} {cE C f N : Addr} {nm q : Str} {bs : List Value} {sn : List Str} {sub : List Value} {ab : Bool} {col : Option Bool} {dd : Option Addr} {k0 k1 k2 k3 k5 : Option Value} {od an : Option Addr} {osl : Array (Option Value)} {kV dc pm cd ct : Value} (X : K.In h) (G : h.Ns mainGlobals mg)
    (a : PySem.W.nsIn K mainGlobals "NoThing" = some (some (.ref C)))
    (x : K.lookup C = some (excClassObj nm q C N bs (.ref cE :: veT) true sn sub ab col dd k0 k1 k2 k3 k5 "ValueError.__new__"))
    (b : clsB K C ["thing"] = true)
    (ai : PySem.W.findIn K (.ref C) "__init__" = some (some (.ref f)))
    (l : K.lookup f = some ⟨.type "function", od, .func (PySem.W.fnOf "__init__" "NoThing.__init__" (defArgs s_p_NoThing_init) (defBody s_p_NoThing_init) (defScope s_p_NoThing_init) .none kV dc pm an cd ct), osl⟩)
    (c : (PySem.W.codeIn K cd "NoThing.__init__" && PySem.W.keepIn K (.ref f)) = true) : ClsD K mg cE C f "NoThing" ["thing"] := by
  obtain ⟨sa, kk, ga, gg, ha, hno⟩ := clsB_ok b
  rw [Bool.and_eq_true] at c
  have lk : ∃ nm q N bs sn sub ab col dd k0 k1 k2 k3 k5, K.lookup C = some (excClassObj nm q C N bs (.ref cE :: veT) true sn sub ab col dd k0 k1 k2 k3 k5 "ValueError.__new__") := ⟨nm, q, N, bs, sn, sub, ab, col, dd, k0, k1, k2, k3, k5, x⟩
  have hO : OexC K C := ⟨⟨nm, q, N, bs, _, sn, sub, ab, col, dd, k0, k1, k2, k3, k5, x, rfl⟩, sa, (exo_sub x _).trans (by simp), exo_type x, kk⟩
  have Fi := fun_mk (st := s_p_NoThing_init) l c.1 c.2
  have ti : PySem.W.typeIn K (.ref f) = some (.type "function") := by
    show (K.lookup f).map (·.cls) = _
    rw [l] <;> rfl
  exact ⟨PySem.W.mg_of X G a, lk, sa, kk, ga, gg, ha, hno, ai, ti, ⟨_, fun P w mg base => okm_p_NoThing_init Fi hO hno, bi_p_NoThing_init Fi, kb_p_NoThing_init Fi⟩⟩

theorem clsd_39 {K : PySem.W.Frag} {h : Heap} {mg : Str → Option Value} {cE C f N : Addr} {nm q : Str} {bs : List Value} {sn : List Str} {sub : List Value} {ab : Bool} {col : Option Bool} {dd : Option Addr} {k0 k1 k2 k3 k5 : Option Value} {od an : Option Addr} {osl : Array (Option Value)} {kV dc pm cd ct : Value} (X : K.In h) (G : h.Ns mainGlobals mg)
    (a : PySem.W.nsIn K mainGlobals "NoTold" = some (some (.ref C)))
    (x : K.lookup C = some (excClassObj nm q C N bs (.ref cE :: veT) true sn sub ab col dd k0 k1 k2 k3 k5 "ValueError.__new__"))
    (b : clsB K C ["thing"] = true)
    (ai : PySem.W.findIn K (.ref C) "__init__" = some (some (.ref f)))
    (l : K.lookup f = some ⟨.type "function", od, .func (PySem.W.fnOf "__init__" "NoTold.__init__" (defArgs s_p_NoTold_init) (defBody s_p_NoTold_init) (defScope s_p_NoTold_init) .none kV dc pm an cd ct), osl⟩)
    (c : (PySem.W.codeIn K cd "NoTold.__init__" && PySem.W.keepIn K (.ref f)) = true) : ClsD K mg cE C f "NoTold" ["thing"] := by
  obtain ⟨sa, kk, ga, gg, ha, hno⟩ := clsB_ok b
  rw [Bool.and_eq_true] at c
  have lk : ∃ nm q N bs sn sub ab col dd k0 k1 k2 k3 k5, K.lookup C = some (excClassObj nm q C N bs (.ref cE :: veT) true sn sub ab col dd k0 k1 k2 k3 k5 "ValueError.__new__") := ⟨nm, q, N, bs, sn, sub, ab, col, dd, k0, k1, k2, k3, k5, x⟩
  have hO : OexC K C := ⟨⟨nm, q, N, bs, _, sn, sub, ab, col, dd, k0, k1, k2, k3, k5, x, rfl⟩, sa, (exo_sub x _).trans (by simp), exo_type x, kk⟩
  have Fi := fun_mk (st := s_p_NoTold_init) l c.1 c.2
  have ti : PySem.W.typeIn K (.ref f) = some (.type "function") := by
    show (K.lookup f).map (·.cls) = _
    rw [l] <;> rfl
  exact ⟨PySem.W.mg_of X G a, lk, sa, kk, ga, gg, ha, hno, ai, ti, ⟨_, fun P w mg base => okm_p_NoTold_init Fi hO hno, bi_p_NoTold_init Fi, kb_p_NoTold_init Fi⟩⟩

theorem clsd_40 {K : PySem.W.Frag} {h : Heap} {mg : Str → Option Value} {cE C f N : Addr} {nm q : Str} {bs : List Value} {sn : List Str} {sub : List Value} {ab : Bool} {col : Option Bool} {dd : Option Addr} {k0 k1 k2 k3 k5 : Option Value} {od an : Option Addr} {osl : Array (Option Value)} {kV dc pm cd ct : Value} (X : K.In h) (G : h.Ns mainGlobals mg)
    (a : PySem.W.nsIn K mainGlobals "NotSound" = some (some (.ref C)))
    (x : K.lookup C = some (excClassObj nm q C N bs (.ref cE :: veT) true sn sub ab col dd k0 k1 k2 k3 k5 "ValueError.__new__"))
    (b : clsB K C ["fault"] = true)
    (ai : PySem.W.findIn K (.ref C) "__init__" = some (some (.ref f)))
    (l : K.lookup f = some ⟨.type "function", od, .func (PySem.W.fnOf "__init__" "NotSound.__init__" (defArgs s_p_NotSound_init) (defBody s_p_NotSound_init) (defScope s_p_NotSound_init) .none kV dc pm an cd ct), osl⟩)
    (c : (PySem.W.codeIn K cd "NotSound.__init__" && PySem.W.keepIn K (.ref f)) = true) : ClsD K mg cE C f "NotSound" ["fault"] := by
  obtain ⟨sa, kk, ga, gg, ha, hno⟩ := clsB_ok b
  rw [Bool.and_eq_true] at c
  have lk : ∃ nm q N bs sn sub ab col dd k0 k1 k2 k3 k5, K.lookup C = some (excClassObj nm q C N bs (.ref cE :: veT) true sn sub ab col dd k0 k1 k2 k3 k5 "ValueError.__new__") := ⟨nm, q, N, bs, sn, sub, ab, col, dd, k0, k1, k2, k3, k5, x⟩
  have hO : OexC K C := ⟨⟨nm, q, N, bs, _, sn, sub, ab, col, dd, k0, k1, k2, k3, k5, x, rfl⟩, sa, (exo_sub x _).trans (by simp), exo_type x, kk⟩
  have Fi := fun_mk (st := s_p_NotSound_init) l c.1 c.2
  have ti : PySem.W.typeIn K (.ref f) = some (.type "function") := by
    show (K.lookup f).map (·.cls) = _
    rw [l] <;> rfl
  exact ⟨PySem.W.mg_of X G a, lk, sa, kk, ga, gg, ha, hno, ai, ti, ⟨_, fun P w mg base => okm_p_NotSound_init Fi hO hno, bi_p_NotSound_init Fi, kb_p_NotSound_init Fi⟩⟩

theorem clsd_41 {K : PySem.W.Frag} {h : Heap} {mg : Str → Option Value} {cE C f N : Addr} {nm q : Str} {bs : List Value} {sn : List Str} {sub : List Value} {ab : Bool} {col : Option Bool} {dd : Option Addr} {k0 k1 k2 k3 k5 : Option Value} {od an : Option Addr} {osl : Array (Option Value)} {kV dc pm cd ct : Value} (X : K.In h) (G : h.Ns mainGlobals mg)
    (a : PySem.W.nsIn K mainGlobals "NotWatched" = some (some (.ref C)))
    (x : K.lookup C = some (excClassObj nm q C N bs (.ref cE :: veT) true sn sub ab col dd k0 k1 k2 k3 k5 "ValueError.__new__"))
    (b : clsB K C ["question"] = true)
    (ai : PySem.W.findIn K (.ref C) "__init__" = some (some (.ref f)))
    (l : K.lookup f = some ⟨.type "function", od, .func (PySem.W.fnOf "__init__" "NotWatched.__init__" (defArgs s_p_NotWatched_init) (defBody s_p_NotWatched_init) (defScope s_p_NotWatched_init) .none kV dc pm an cd ct), osl⟩)
    (c : (PySem.W.codeIn K cd "NotWatched.__init__" && PySem.W.keepIn K (.ref f)) = true) : ClsD K mg cE C f "NotWatched" ["question"] := by
  obtain ⟨sa, kk, ga, gg, ha, hno⟩ := clsB_ok b
  rw [Bool.and_eq_true] at c
  have lk : ∃ nm q N bs sn sub ab col dd k0 k1 k2 k3 k5, K.lookup C = some (excClassObj nm q C N bs (.ref cE :: veT) true sn sub ab col dd k0 k1 k2 k3 k5 "ValueError.__new__") := ⟨nm, q, N, bs, sn, sub, ab, col, dd, k0, k1, k2, k3, k5, x⟩
  have hO : OexC K C := ⟨⟨nm, q, N, bs, _, sn, sub, ab, col, dd, k0, k1, k2, k3, k5, x, rfl⟩, sa, (exo_sub x _).trans (by simp), exo_type x, kk⟩
  have Fi := fun_mk (st := s_p_NotWatched_init) l c.1 c.2
  have ti : PySem.W.typeIn K (.ref f) = some (.type "function") := by
    show (K.lookup f).map (·.cls) = _
    rw [l] <;> rfl
  exact ⟨PySem.W.mg_of X G a, lk, sa, kk, ga, gg, ha, hno, ai, ti, ⟨_, fun P w mg base => okm_p_NotWatched_init Fi hO hno, bi_p_NotWatched_init Fi, kb_p_NotWatched_init Fi⟩⟩

theorem clsd_42 {K : PySem.W.Frag} {h : Heap} {mg : Str → Option Value} {cE C f N : Addr} {nm q : Str} {bs : List Value} {sn : List Str} {sub : List Value} {ab : Bool} {col : Option Bool} {dd : Option Addr} {k0 k1 k2 k3 k5 : Option Value} {od an : Option Addr} {osl : Array (Option Value)} {kV dc pm cd ct : Value} (X : K.In h) (G : h.Ns mainGlobals mg)
    (a : PySem.W.nsIn K mainGlobals "WouldChange" = some (some (.ref C)))
    (x : K.lookup C = some (excClassObj nm q C N bs (.ref cE :: veT) true sn sub ab col dd k0 k1 k2 k3 k5 "ValueError.__new__"))
    (b : clsB K C ["question", "why"] = true)
    (ai : PySem.W.findIn K (.ref C) "__init__" = some (some (.ref f)))
    (l : K.lookup f = some ⟨.type "function", od, .func (PySem.W.fnOf "__init__" "WouldChange.__init__" (defArgs s_p_WouldChange_init) (defBody s_p_WouldChange_init) (defScope s_p_WouldChange_init) .none kV dc pm an cd ct), osl⟩)
    (c : (PySem.W.codeIn K cd "WouldChange.__init__" && PySem.W.keepIn K (.ref f)) = true) : ClsD K mg cE C f "WouldChange" ["question", "why"] := by
  obtain ⟨sa, kk, ga, gg, ha, hno⟩ := clsB_ok b
  rw [Bool.and_eq_true] at c
  have lk : ∃ nm q N bs sn sub ab col dd k0 k1 k2 k3 k5, K.lookup C = some (excClassObj nm q C N bs (.ref cE :: veT) true sn sub ab col dd k0 k1 k2 k3 k5 "ValueError.__new__") := ⟨nm, q, N, bs, sn, sub, ab, col, dd, k0, k1, k2, k3, k5, x⟩
  have hO : OexC K C := ⟨⟨nm, q, N, bs, _, sn, sub, ab, col, dd, k0, k1, k2, k3, k5, x, rfl⟩, sa, (exo_sub x _).trans (by simp), exo_type x, kk⟩
  have Fi := fun_mk (st := s_p_WouldChange_init) l c.1 c.2
  have ti : PySem.W.typeIn K (.ref f) = some (.type "function") := by
    show (K.lookup f).map (·.cls) = _
    rw [l] <;> rfl
  exact ⟨PySem.W.mg_of X G a, lk, sa, kk, ga, gg, ha, hno, ai, ti, ⟨_, fun P w mg base => okm_p_WouldChange_init Fi hO hno, bi_p_WouldChange_init Fi, kb_p_WouldChange_init Fi⟩⟩
theorem all43 {P : Nat → Prop} (h0 : P 0) (h1 : P 1) (h2 : P 2) (h3 : P 3) (h4 : P 4) (h5 : P 5) (h6 : P 6) (h7 : P 7) (h8 : P 8) (h9 : P 9) (h10 : P 10) (h11 : P 11) (h12 : P 12) (h13 : P 13) (h14 : P 14) (h15 : P 15) (h16 : P 16) (h17 : P 17) (h18 : P 18) (h19 : P 19) (h20 : P 20) (h21 : P 21) (h22 : P 22) (h23 : P 23) (h24 : P 24) (h25 : P 25) (h26 : P 26) (h27 : P 27) (h28 : P 28) (h29 : P 29) (h30 : P 30) (h31 : P 31) (h32 : P 32) (h33 : P 33) (h34 : P 34) (h35 : P 35) (h36 : P 36) (h37 : P 37) (h38 : P 38) (h39 : P 39) (h40 : P 40) (h41 : P 41) (h42 : P 42) : ∀ i, i < 43 → P i := fun i hi => match i, hi with
  | 0, _ => h0
  | 1, _ => h1
  | 2, _ => h2
  | 3, _ => h3
  | 4, _ => h4
  | 5, _ => h5
  | 6, _ => h6
  | 7, _ => h7
  | 8, _ => h8
  | 9, _ => h9
  | 10, _ => h10
  | 11, _ => h11
  | 12, _ => h12
  | 13, _ => h13
  | 14, _ => h14
  | 15, _ => h15
  | 16, _ => h16
  | 17, _ => h17
  | 18, _ => h18
  | 19, _ => h19
  | 20, _ => h20
  | 21, _ => h21
  | 22, _ => h22
  | 23, _ => h23
  | 24, _ => h24
  | 25, _ => h25
  | 26, _ => h26
  | 27, _ => h27
  | 28, _ => h28
  | 29, _ => h29
  | 30, _ => h30
  | 31, _ => h31
  | 32, _ => h32
  | 33, _ => h33
  | 34, _ => h34
  | 35, _ => h35
  | 36, _ => h36
  | 37, _ => h37
  | 38, _ => h38
  | 39, _ => h39
  | 40, _ => h40
  | 41, _ => h41
  | 42, _ => h42
  | k + 43, hk => absurd hk (by omega)

def cAt (cs : List Addr) (i : Nat) : Addr := cs.getD i 0
theorem cAt_ne {cs : List Addr} {cE : Addr} (h : (cE :: cs).Nodup) {i j : Nat} (hi : i < cs.length) (hj : j < cs.length) (ne : i ≠ j) : cAt cs i ≠ cAt cs j := fun z => by
  have hc := (List.nodup_cons.mp h).2
  unfold cAt at z
  rw [List.getD_eq_getElem?_getD, List.getD_eq_getElem?_getD, List.getElem?_eq_getElem hi, List.getElem?_eq_getElem hj] at z
  exact ne ((List.getElem_inj hc).mp z)
theorem cAt_nE {cs : List Addr} {cE : Addr} (h : (cE :: cs).Nodup) {i : Nat} (hi : i < cs.length) : cAt cs i ≠ cE := fun z => by
  have hc := (List.nodup_cons.mp h).1
  unfold cAt at z
  rw [List.getD_eq_getElem?_getD, List.getElem?_eq_getElem hi] at z
  exact hc (by rw [← z]; exact List.getElem_mem hi)
structure AllC (K : PySem.W.Frag) (mg : Str → Option Value) (D : Ad0) (fI : Nat → Addr) (fdI : Nat → FuncData) : Prop where
  cls : ∀ i, i < 43 → ClsD K mg D.cE (D.c i) (fI i) (NM i) (flds i)
  I : ∀ (P : Program) (w : World) (mg : Str → Option Value) (base : Heap), ∀ i, i < 43 → FnOk P w K mg base CX0 1 (fI i) (fdI i) ("self" :: flds i) (spErr (D.c i) (flds i))
  B0 : ∀ i, i < 43 → Binds K (fdI i) ("self" :: flds i) []
  B : ∀ i, i < 43 → KBn K (fdI i) ("self" :: flds i) 1 (flds i).reverse (fun us ws => us ++ ws.reverse) revV
theorem allC_mk {K : PySem.W.Frag} {mg : Str → Option Value} {D : Ad0} {fI : Nat → Addr} (h : ∀ i, i < 43 → ClsD K mg D.cE (D.c i) (fI i) (NM i) (flds i)) : ∃ fdI, AllC K mg D fI fdI := by
  have ch : ∀ i, ∃ fd : FuncData, i < 43 → (∀ (P : Program) (w : World) (mg : Str → Option Value) (base : Heap), FnOk P w K mg base CX0 1 (fI i) fd ("self" :: flds i) (spErr (D.c i) (flds i))) ∧ Binds K fd ("self" :: flds i) [] ∧ KBn K fd ("self" :: flds i) 1 (flds i).reverse (fun us ws => us ++ ws.reverse) revV := fun i => by
    by_cases hi : i < 43
    · obtain ⟨fd, r⟩ := (h i hi).fn
      exact ⟨fd, fun _ => r⟩
    · obtain ⟨fd, r⟩ := (h 0 (by decide)).fn
      exact ⟨fd, fun z => absurd z hi⟩
  refine ⟨fun i => Classical.choose (ch i), h, fun P w mg base i hi => (Classical.choose_spec (ch i) hi).1 P w mg base, fun i hi => (Classical.choose_spec (ch i) hi).2.1, fun i hi => (Classical.choose_spec (ch i) hi).2.2⟩
theorem kit_mk {K : PySem.W.Frag} {mg : Str → Option Value} {cs : List Addr} {cE PA PB PC N : Addr} {fI : Nat → Addr} {fdI : Nat → FuncData} {nm q : Str} {bs : List Value} {hdct : Bool} {sn : List Str} {sub : List Value} {ab : Bool} {col : Option Bool} {dd : Option Addr} {k0 k1 k2 k3 k5 : Option Value} {s : String}
    (Y : AllC K mg ⟨cAt cs, cE, PA, PB, PC⟩ fI fdI) (hl : cs.length = 43) (hd : (cE :: cs).Nodup) (xE : K.lookup cE = some (excClassObj nm q cE N bs veT hdct sn sub ab col dd k0 k1 k2 k3 k5 s)) (mV : PySem.W.kitMeta "ValueError" = true) (mL : PySem.W.kitMeta "LookupError" = true) : Kit0 K ⟨cAt cs, cE, PA, PB, PC⟩ := by
  have nE : ∀ i, i < 43 → cAt cs i ≠ cE := fun i hi => cAt_nE hd (by rw [hl]; exact hi)
  have nC : ∀ i j, i < 43 → j < 43 → i ≠ j → cAt cs i ≠ cAt cs j := fun i j hi hj ne => cAt_ne hd (by rw [hl]; exact hi) (by rw [hl]; exact hj) ne
  refine ⟨fun i j hi hj => ?_, fun i hi => ?_, fun i hi => ?_, fun i hi => ?_, fun j hj => ?_, ?_⟩
  · obtain ⟨nm, q, N, bs, sn, sub, ab, col, dd, k0, k1, k2, k3, k5, hC⟩ := (Y.cls i hi).lk
    obtain ⟨nm', q', N', bs', sn', sub', ab', col', dd', k0', k1', k2', k3', k5', hC'⟩ := (Y.cls j hj).lk
    by_cases e : i = j
    · subst e
      rw [decide_eq_true rfl]
      unfold PySem.W.kitOne
      rw [if_pos (beq_self_eq_true _)]
    · rw [decide_eq_false e]
      have ne := nC i j hi hj e
      refine exo_kit _ _ (refNe ne) hC' ((exo_sub hC _).trans ?_)
      simp [ne, Ne.symm ne, nE j hj, Ne.symm (nE j hj)]
  · obtain ⟨nm, q, N, bs, sn, sub, ab, col, dd, k0, k1, k2, k3, k5, hC⟩ := (Y.cls i hi).lk
    refine exo_kit _ _ (refNe (nE i hi)) xE ((exo_sub hC _).trans ?_)
    simp
  · obtain ⟨nm, q, N, bs, sn, sub, ab, col, dd, k0, k1, k2, k3, k5, hC⟩ := (Y.cls i hi).lk
    exact exo_kitT _ _ mV hC (by simp)
  · obtain ⟨nm, q, N, bs, sn, sub, ab, col, dd, k0, k1, k2, k3, k5, hC⟩ := (Y.cls i hi).lk
    exact exo_kitT _ _ mL hC (by simp)
  · obtain ⟨nm, q, N, bs, sn, sub, ab, col, dd, k0, k1, k2, k3, k5, hC⟩ := (Y.cls j hj).lk
    refine exo_kit _ _ (refNe (Ne.symm (nE j hj))) hC ((exo_sub xE _).trans ?_)
    simp
    exact nE j hj
  · exact exo_kitT _ _ mV xE (by simp)
theorem all_mk {l : PySem.W.OpenLaw} {w : World} {K : PySem.W.Frag} {qq : Program} {h : Heap} {mg : Str → Option Value} {fa cE NE c0 c1 c2 c3 c4 c5 c6 c7 c8 c9 c10 c11 c12 c13 c14 c15 c16 c17 c18 c19 c20 c21 c22 c23 c24 c25 c26 c27 c28 c29 c30 c31 c32 c33 c34 c35 c36 c37 c38 c39 c40 c41 c42 f0 f1 f2 f3 f4 f5 f6 f7 f8 f9 f10 f11 f12 f13 f14 f15 f16 f17 f18 f19 f20 f21 f22 f23 f24 f25 f26 f27 f28 f29 f30 f31 f32 f33 f34 f35 f36 f37 f38 f39 f40 f41 f42 f_l_start f_l_draw f_l_mixed f_l_made_a cdA PA f_l_made_b cdB PB f_l_made_c cdC PC f_l_kinds_a f_l_kinds_b f_l_kinds_c f_l_kinds f_l_is_own f_l_are_these f_law : Addr} (X : K.In h) (G : h.Ns mainGlobals mg) (hfa : mg "law" = some (.ref fa)) (own : OwnTabs qq K mg h)
    {od_l_start an_l_start od_l_draw an_l_draw od_l_mixed an_l_mixed od_l_made_a an_l_made_a eDA od_l_made_b an_l_made_b eDB od_l_made_c an_l_made_c eDC od_l_kinds_a an_l_kinds_a od_l_kinds_b an_l_kinds_b od_l_kinds_c an_l_kinds_c od_l_kinds an_l_kinds od_l_is_own an_l_is_own od_l_are_these an_l_are_these od_law an_law ddE : Option Addr} {sl_l_start sl_l_draw sl_l_mixed sl_l_made_a eSA sl_l_made_b eSB sl_l_made_c eSC sl_l_kinds_a sl_l_kinds_b sl_l_kinds_c sl_l_kinds sl_l_is_own sl_l_are_these sl_law : Array (Option Value)} {oc_l_start kV_l_start dc_l_start pm_l_start ct_l_start cd_l_start oc_l_draw kV_l_draw dc_l_draw pm_l_draw ct_l_draw cd_l_draw oc_l_mixed kV_l_mixed dc_l_mixed pm_l_mixed ct_l_mixed cd_l_mixed oc_l_made_a kV_l_made_a dc_l_made_a pm_l_made_a ct_l_made_a eVA oc_l_made_b kV_l_made_b dc_l_made_b pm_l_made_b ct_l_made_b eVB oc_l_made_c kV_l_made_c dc_l_made_c pm_l_made_c ct_l_made_c eVC oc_l_kinds_a kV_l_kinds_a dc_l_kinds_a pm_l_kinds_a ct_l_kinds_a cd_l_kinds_a oc_l_kinds_b kV_l_kinds_b dc_l_kinds_b pm_l_kinds_b ct_l_kinds_b cd_l_kinds_b oc_l_kinds_c kV_l_kinds_c dc_l_kinds_c pm_l_kinds_c ct_l_kinds_c cd_l_kinds_c oc_l_kinds kV_l_kinds dc_l_kinds pm_l_kinds ct_l_kinds cd_l_kinds oc_l_is_own kV_l_is_own dc_l_is_own pm_l_is_own ct_l_is_own cd_l_is_own oc_l_are_these kV_l_are_these dc_l_are_these pm_l_are_these ct_l_are_these cd_l_are_these oc_law kV_law dc_law pm_law ct_law cd_law : Value} {vsA vsB vsC : Array Value} {nmE qE : Str} {bsE subE : List Value} {hdE abE : Bool} {snE : List Str} {colE : Option Bool} {m0E m1E m2E m3E m5E : Option Value}
    (h_0 : ClsD K mg cE c0 f0 "BadBegun" ["thing"])
    (h_1 : ClsD K mg cE c1 f1 "BadBox" ["thing"])
    (h_2 : ClsD K mg cE c2 f2 "BadCells" ["thing"])
    (h_3 : ClsD K mg cE c3 f3 "BadChain" ["thing"])
    (h_4 : ClsD K mg cE c4 f4 "BadCount" ["thing"])
    (h_5 : ClsD K mg cE c5 f5 "BadDeed" ["thing"])
    (h_6 : ClsD K mg cE c6 f6 "BadHeld" ["index"])
    (h_7 : ClsD K mg cE c7 f7 "BadHours" ["index"])
    (h_8 : ClsD K mg cE c8 f8 "BadLine" ["thing"])
    (h_9 : ClsD K mg cE c9 f9 "BadLines" ["index"])
    (h_10 : ClsD K mg cE c10 f10 "BadListing" ["index"])
    (h_11 : ClsD K mg cE c11 f11 "BadMany" ["thing"])
    (h_12 : ClsD K mg cE c12 f12 "BadNumber" ["thing"])
    (h_13 : ClsD K mg cE c13 f13 "BadOrder" ["thing"])
    (h_14 : ClsD K mg cE c14 f14 "BadPairs" ["index"])
    (h_15 : ClsD K mg cE c15 f15 "BadPlace" ["thing"])
    (h_16 : ClsD K mg cE c16 f16 "BadPlan" ["thing"])
    (h_17 : ClsD K mg cE c17 f17 "BadProgram" ["thing"])
    (h_18 : ClsD K mg cE c18 f18 "BadQuestion" ["thing"])
    (h_19 : ClsD K mg cE c19 f19 "BadReads" ["index"])
    (h_20 : ClsD K mg cE c20 f20 "BadRow" ["index"])
    (h_21 : ClsD K mg cE c21 f21 "BadRows" ["index"])
    (h_22 : ClsD K mg cE c22 f22 "BadSeen" ["index"])
    (h_23 : ClsD K mg cE c23 f23 "BadSession" ["thing"])
    (h_24 : ClsD K mg cE c24 f24 "BadSome" ["index"])
    (h_25 : ClsD K mg cE c25 f25 "BadSource" ["thing"])
    (h_26 : ClsD K mg cE c26 f26 "BadSpots" ["index"])
    (h_27 : ClsD K mg cE c27 f27 "BadTeller" ["thing"])
    (h_28 : ClsD K mg cE c28 f28 "BadTells" ["index"])
    (h_29 : ClsD K mg cE c29 f29 "BadText" ["line", "sign"])
    (h_30 : ClsD K mg cE c30 f30 "InUse" ["question"])
    (h_31 : ClsD K mg cE c31 f31 "IsWatched" ["question"])
    (h_32 : ClsD K mg cE c32 f32 "NoCell" ["thing"])
    (h_33 : ClsD K mg cE c33 f33 "NoCount" ["thing"])
    (h_34 : ClsD K mg cE c34 f34 "NoHour" ["hour"])
    (h_35 : ClsD K mg cE c35 f35 "NoLine" ["thing"])
    (h_36 : ClsD K mg cE c36 f36 "NoSpot" ["hour", "slot"])
    (h_37 : ClsD K mg cE c37 f37 "NoText" ["index"])
    (h_38 : ClsD K mg cE c38 f38 "NoThing" ["thing"])
    (h_39 : ClsD K mg cE c39 f39 "NoTold" ["thing"])
    (h_40 : ClsD K mg cE c40 f40 "NotSound" ["fault"])
    (h_41 : ClsD K mg cE c41 f41 "NotWatched" ["question"])
    (h_42 : ClsD K mg cE c42 f42 "WouldChange" ["question", "why"])
    (aE : PySem.W.nsIn K mainGlobals "SlotError" = some (some (.ref cE)))
    (xE : K.lookup cE = some (excClassObj nmE qE cE NE bsE veT hdE snE subE abE colE ddE m0E m1E m2E m3E m5E "ValueError.__new__"))
    (exE : PySem.W.excIn K cE [.type "ValueError", .type "Exception", .type "BaseException", .type "object"] "ValueError.__new__" = true)
    (kE : PySem.W.keepIn K (.ref cE) = true)
    (gaE : PySem.W.findIn K (.ref cE) "__getattribute__" = some (some (.builtin "BaseException.__getattribute__")))
    (ggE : PySem.W.findIn K (.ref cE) "__getattr__" = some none)
    (haE : PySem.W.findIn K (.ref cE) "__class__" = some (some (.builtin "object.__class__")))
    (hdE' : PySem.W.hasDictIn K cE = true)
    (hn : PySem.W.specialIn K (.builtin "object.__class__") "__get__" = some (some (.builtin "getset_descriptor.__get__")))
    (htk : PySem.W.takesIn K (.builtin "object.__class__") = some true)
    (a_l_start : PySem.W.nsIn K mainGlobals "_law_start" = some (some (.ref f_l_start)))
    (l_l_start : K.lookup f_l_start = some ⟨oc_l_start, od_l_start, .func (PySem.W.fnOf "_law_start" "_law_start" (defArgs s_l_start) (defBody s_l_start) (defScope s_l_start) .none kV_l_start dc_l_start pm_l_start an_l_start cd_l_start ct_l_start), sl_l_start⟩)
    (c_l_start : PySem.W.codeIn K cd_l_start "_law_start" = true)
    (k_l_start : PySem.W.keepIn K (.ref f_l_start) = true)
    (a_l_draw : PySem.W.nsIn K mainGlobals "_law_draw" = some (some (.ref f_l_draw)))
    (l_l_draw : K.lookup f_l_draw = some ⟨oc_l_draw, od_l_draw, .func (PySem.W.fnOf "_law_draw" "_law_draw" (defArgs s_l_draw) (defBody s_l_draw) (defScope s_l_draw) .none kV_l_draw dc_l_draw pm_l_draw an_l_draw cd_l_draw ct_l_draw), sl_l_draw⟩)
    (c_l_draw : PySem.W.codeIn K cd_l_draw "_law_draw" = true)
    (k_l_draw : PySem.W.keepIn K (.ref f_l_draw) = true)
    (a_l_mixed : PySem.W.nsIn K mainGlobals "_law_mixed" = some (some (.ref f_l_mixed)))
    (l_l_mixed : K.lookup f_l_mixed = some ⟨oc_l_mixed, od_l_mixed, .func (PySem.W.fnOf "_law_mixed" "_law_mixed" (defArgs s_l_mixed) (defBody s_l_mixed) (defScope s_l_mixed) .none kV_l_mixed dc_l_mixed pm_l_mixed an_l_mixed cd_l_mixed ct_l_mixed), sl_l_mixed⟩)
    (c_l_mixed : PySem.W.codeIn K cd_l_mixed "_law_mixed" = true)
    (k_l_mixed : PySem.W.keepIn K (.ref f_l_mixed) = true)
    (a_l_made_a : PySem.W.nsIn K mainGlobals "_law_made_a" = some (some (.ref f_l_made_a)))
    (l_l_made_a : K.lookup f_l_made_a = some ⟨oc_l_made_a, od_l_made_a, .func (PySem.W.fnOf "_law_made_a" "_law_made_a" (defArgs s_l_made_a) (defBody s_l_made_a) (defScope s_l_made_a) .none kV_l_made_a dc_l_made_a pm_l_made_a an_l_made_a (.ref cdA) ct_l_made_a), sl_l_made_a⟩)
    (c_l_made_a : PySem.W.codeIn K ((.ref cdA)) "_law_made_a" = true)
    (k_l_made_a : PySem.W.keepIn K (.ref f_l_made_a) = true)
    (vA : K.lookup cdA = some ⟨eVA, eDA, .fields vsA, eSA⟩)
    (pA : vsA[11]? = some (.ref PA))
    (dA : PySem.W.codeHdIn K cdA PA = true)
    (nA : K.lookup PA = none)
    (a_l_made_b : PySem.W.nsIn K mainGlobals "_law_made_b" = some (some (.ref f_l_made_b)))
    (l_l_made_b : K.lookup f_l_made_b = some ⟨oc_l_made_b, od_l_made_b, .func (PySem.W.fnOf "_law_made_b" "_law_made_b" (defArgs s_l_made_b) (defBody s_l_made_b) (defScope s_l_made_b) .none kV_l_made_b dc_l_made_b pm_l_made_b an_l_made_b (.ref cdB) ct_l_made_b), sl_l_made_b⟩)
    (c_l_made_b : PySem.W.codeIn K ((.ref cdB)) "_law_made_b" = true)
    (k_l_made_b : PySem.W.keepIn K (.ref f_l_made_b) = true)
    (vB : K.lookup cdB = some ⟨eVB, eDB, .fields vsB, eSB⟩)
    (pB : vsB[11]? = some (.ref PB))
    (dB : PySem.W.codeHdIn K cdB PB = true)
    (nB : K.lookup PB = none)
    (a_l_made_c : PySem.W.nsIn K mainGlobals "_law_made_c" = some (some (.ref f_l_made_c)))
    (l_l_made_c : K.lookup f_l_made_c = some ⟨oc_l_made_c, od_l_made_c, .func (PySem.W.fnOf "_law_made_c" "_law_made_c" (defArgs s_l_made_c) (defBody s_l_made_c) (defScope s_l_made_c) .none kV_l_made_c dc_l_made_c pm_l_made_c an_l_made_c (.ref cdC) ct_l_made_c), sl_l_made_c⟩)
    (c_l_made_c : PySem.W.codeIn K ((.ref cdC)) "_law_made_c" = true)
    (k_l_made_c : PySem.W.keepIn K (.ref f_l_made_c) = true)
    (vC : K.lookup cdC = some ⟨eVC, eDC, .fields vsC, eSC⟩)
    (pC : vsC[11]? = some (.ref PC))
    (dC : PySem.W.codeHdIn K cdC PC = true)
    (nC : K.lookup PC = none)
    (a_l_kinds_a : PySem.W.nsIn K mainGlobals "_law_kinds_a" = some (some (.ref f_l_kinds_a)))
    (l_l_kinds_a : K.lookup f_l_kinds_a = some ⟨oc_l_kinds_a, od_l_kinds_a, .func (PySem.W.fnOf "_law_kinds_a" "_law_kinds_a" (defArgs s_l_kinds_a) (defBody s_l_kinds_a) (defScope s_l_kinds_a) .none kV_l_kinds_a dc_l_kinds_a pm_l_kinds_a an_l_kinds_a cd_l_kinds_a ct_l_kinds_a), sl_l_kinds_a⟩)
    (c_l_kinds_a : PySem.W.codeIn K cd_l_kinds_a "_law_kinds_a" = true)
    (k_l_kinds_a : PySem.W.keepIn K (.ref f_l_kinds_a) = true)
    (a_l_kinds_b : PySem.W.nsIn K mainGlobals "_law_kinds_b" = some (some (.ref f_l_kinds_b)))
    (l_l_kinds_b : K.lookup f_l_kinds_b = some ⟨oc_l_kinds_b, od_l_kinds_b, .func (PySem.W.fnOf "_law_kinds_b" "_law_kinds_b" (defArgs s_l_kinds_b) (defBody s_l_kinds_b) (defScope s_l_kinds_b) .none kV_l_kinds_b dc_l_kinds_b pm_l_kinds_b an_l_kinds_b cd_l_kinds_b ct_l_kinds_b), sl_l_kinds_b⟩)
    (c_l_kinds_b : PySem.W.codeIn K cd_l_kinds_b "_law_kinds_b" = true)
    (k_l_kinds_b : PySem.W.keepIn K (.ref f_l_kinds_b) = true)
    (a_l_kinds_c : PySem.W.nsIn K mainGlobals "_law_kinds_c" = some (some (.ref f_l_kinds_c)))
    (l_l_kinds_c : K.lookup f_l_kinds_c = some ⟨oc_l_kinds_c, od_l_kinds_c, .func (PySem.W.fnOf "_law_kinds_c" "_law_kinds_c" (defArgs s_l_kinds_c) (defBody s_l_kinds_c) (defScope s_l_kinds_c) .none kV_l_kinds_c dc_l_kinds_c pm_l_kinds_c an_l_kinds_c cd_l_kinds_c ct_l_kinds_c), sl_l_kinds_c⟩)
    (c_l_kinds_c : PySem.W.codeIn K cd_l_kinds_c "_law_kinds_c" = true)
    (k_l_kinds_c : PySem.W.keepIn K (.ref f_l_kinds_c) = true)
    (a_l_kinds : PySem.W.nsIn K mainGlobals "_law_kinds" = some (some (.ref f_l_kinds)))
    (l_l_kinds : K.lookup f_l_kinds = some ⟨oc_l_kinds, od_l_kinds, .func (PySem.W.fnOf "_law_kinds" "_law_kinds" (defArgs s_l_kinds) (defBody s_l_kinds) (defScope s_l_kinds) .none kV_l_kinds dc_l_kinds pm_l_kinds an_l_kinds cd_l_kinds ct_l_kinds), sl_l_kinds⟩)
    (c_l_kinds : PySem.W.codeIn K cd_l_kinds "_law_kinds" = true)
    (k_l_kinds : PySem.W.keepIn K (.ref f_l_kinds) = true)
    (a_l_is_own : PySem.W.nsIn K mainGlobals "_law_is_own" = some (some (.ref f_l_is_own)))
    (l_l_is_own : K.lookup f_l_is_own = some ⟨oc_l_is_own, od_l_is_own, .func (PySem.W.fnOf "_law_is_own" "_law_is_own" (defArgs s_l_is_own) (defBody s_l_is_own) (defScope s_l_is_own) .none kV_l_is_own dc_l_is_own pm_l_is_own an_l_is_own cd_l_is_own ct_l_is_own), sl_l_is_own⟩)
    (c_l_is_own : PySem.W.codeIn K cd_l_is_own "_law_is_own" = true)
    (k_l_is_own : PySem.W.keepIn K (.ref f_l_is_own) = true)
    (a_l_are_these : PySem.W.nsIn K mainGlobals "_law_are_these" = some (some (.ref f_l_are_these)))
    (l_l_are_these : K.lookup f_l_are_these = some ⟨oc_l_are_these, od_l_are_these, .func (PySem.W.fnOf "_law_are_these" "_law_are_these" (defArgs s_l_are_these) (defBody s_l_are_these) (defScope s_l_are_these) .none kV_l_are_these dc_l_are_these pm_l_are_these an_l_are_these cd_l_are_these ct_l_are_these), sl_l_are_these⟩)
    (c_l_are_these : PySem.W.codeIn K cd_l_are_these "_law_are_these" = true)
    (k_l_are_these : PySem.W.keepIn K (.ref f_l_are_these) = true)
    (a_law : PySem.W.nsIn K mainGlobals "law" = some (some (.ref f_law)))
    (l_law : K.lookup f_law = some ⟨oc_law, od_law, .func (PySem.W.fnOf "law" "law" (defArgs s_law) (defBody s_law) (defScope s_law) .none kV_law dc_law pm_law an_law cd_law ct_law), sl_law⟩)
    (c_law : PySem.W.codeIn K cd_law "law" = true)
    (k_law : PySem.W.keepIn K (.ref f_law) = true)
    (z_LookupError : PySem.W.nsIn K mainGlobals "LookupError" = some none)
    (z_ValueError : PySem.W.nsIn K mainGlobals "ValueError" = some none)
    (z_enumerate : PySem.W.nsIn K mainGlobals "enumerate" = some none)
    (z_int : PySem.W.nsIn K mainGlobals "int" = some none)
    (z_isinstance : PySem.W.nsIn K mainGlobals "isinstance" = some none)
    (z_len : PySem.W.nsIn K mainGlobals "len" = some none)
    (z_list : PySem.W.nsIn K mainGlobals "list" = some none)
    (z_range : PySem.W.nsIn K mainGlobals "range" = some none)
    (z_repr : PySem.W.nsIn K mainGlobals "repr" = some none)
    (nd : (cE :: [c0, c1, c2, c3, c4, c5, c6, c7, c8, c9, c10, c11, c12, c13, c14, c15, c16, c17, c18, c19, c20, c21, c22, c23, c24, c25, c26, c27, c28, c29, c30, c31, c32, c33, c34, c35, c36, c37, c38, c39, c40, c41, c42] : List Addr).Nodup)
    (nAB : PA ≠ PB)
    (nAC : PA ≠ PC)
    (nBC : PB ≠ PC)
    (mV : PySem.W.kitMeta "ValueError" = true)
    (mL : PySem.W.kitMeta "LookupError" = true)
    (rA : ((recsOf qq).any fun e => e.name == "_law_made_a") = true)
    (rB : ((recsOf qq).any fun e => e.name == "_law_made_b") = true)
    (rC : ((recsOf qq).any fun e => e.name == "_law_made_c") = true) :
    ∃ (ps : List Str) (cs : List (Addr × Addr)) (sp : Sp), (∀ p ∈ cs, h.get? p.2 = some { cls := .none, data := .fields #[] }) ∧ (∀ p ∈ cs, K.lookup p.2 = none) ∧ (∀ p ∈ cs, PySem.W.CodeHd h p.1 p.2) ∧
        (∀ (H : Hp) (a : Addr) (ns : List Int), ns.length ≤ 63 → (∀ p ∈ cs, H p.2 = some (.tbl #[])) → SqL K H a (ns.map V.int) → sp [.ref a] H (fun v _ => v = .bl true) fun _ _ _ => False) ∧
        ∀ base : Heap, K.In base → base.Ns mainGlobals mg → (∀ p ∈ cs, TabB base mg p.1 p.2) → FnG l.prog w K mg base 4 fa ps sp := by
  have e := hfa.symm.trans (PySem.W.mg_of X G a_law)
  cases e
  have hall : ∀ i, i < 43 → ClsD K mg cE (cAt [c0, c1, c2, c3, c4, c5, c6, c7, c8, c9, c10, c11, c12, c13, c14, c15, c16, c17, c18, c19, c20, c21, c22, c23, c24, c25, c26, c27, c28, c29, c30, c31, c32, c33, c34, c35, c36, c37, c38, c39, c40, c41, c42] i) (cAt [f0, f1, f2, f3, f4, f5, f6, f7, f8, f9, f10, f11, f12, f13, f14, f15, f16, f17, f18, f19, f20, f21, f22, f23, f24, f25, f26, f27, f28, f29, f30, f31, f32, f33, f34, f35, f36, f37, f38, f39, f40, f41, f42] i) (NM i) (flds i) := all43 h_0 h_1 h_2 h_3 h_4 h_5 h_6 h_7 h_8 h_9 h_10 h_11 h_12 h_13 h_14 h_15 h_16 h_17 h_18 h_19 h_20 h_21 h_22 h_23 h_24 h_25 h_26 h_27 h_28 h_29 h_30 h_31 h_32 h_33 h_34 h_35 h_36 h_37 h_38 h_39 h_40 h_41 h_42
  obtain ⟨fdI, Y⟩ := allC_mk (D := ⟨cAt [c0, c1, c2, c3, c4, c5, c6, c7, c8, c9, c10, c11, c12, c13, c14, c15, c16, c17, c18, c19, c20, c21, c22, c23, c24, c25, c26, c27, c28, c29, c30, c31, c32, c33, c34, c35, c36, c37, c38, c39, c40, c41, c42], cE, PA, PB, PC⟩) hall
  have kit := kit_mk Y rfl nd xE mV mL
  have xc : ∀ C, XC ⟨cAt [c0, c1, c2, c3, c4, c5, c6, c7, c8, c9, c10, c11, c12, c13, c14, c15, c16, c17, c18, c19, c20, c21, c22, c23, c24, c25, c26, c27, c28, c29, c30, c31, c32, c33, c34, c35, c36, c37, c38, c39, c40, c41, c42], cE, PA, PB, PC⟩ C → ExcC K C := fun C h => by
    rcases h with ⟨i, hi, rfl⟩ | rfl
    · exact (hall i hi).xc hn htk
    · exact ⟨gaE, ggE, (exo_sub xE _).trans (by simp), hdE', haE, hn, htk, (exo_sub xE _).trans (by simp)⟩
  have xf : ∀ C f, XF ⟨cAt [c0, c1, c2, c3, c4, c5, c6, c7, c8, c9, c10, c11, c12, c13, c14, c15, c16, c17, c18, c19, c20, c21, c22, c23, c24, c25, c26, c27, c28, c29, c30, c31, c32, c33, c34, c35, c36, c37, c38, c39, c40, c41, c42], cE, PA, PB, PC⟩ C f → XfC K C ∧ PySem.W.findIn K (.ref C) f = some none := fun C f h => by
    obtain ⟨i, hi, rfl, hf⟩ := h
    exact ⟨(hall i hi).xf, (hall i hi).no f hf⟩
  have T : Txt K mg ⟨cAt [c0, c1, c2, c3, c4, c5, c6, c7, c8, c9, c10, c11, c12, c13, c14, c15, c16, c17, c18, c19, c20, c21, c22, c23, c24, c25, c26, c27, c28, c29, c30, c31, c32, c33, c34, c35, c36, c37, c38, c39, c40, c41, c42], cE, PA, PB, PC⟩ := { n_LookupError := PySem.W.mg_none_of X G z_LookupError, n_ValueError := PySem.W.mg_none_of X G z_ValueError, n_enumerate := PySem.W.mg_none_of X G z_enumerate, n_int := PySem.W.mg_none_of X G z_int, n_isinstance := PySem.W.mg_none_of X G z_isinstance, n_len := PySem.W.mg_none_of X G z_len, n_list := PySem.W.mg_none_of X G z_list, n_range := PySem.W.mg_none_of X G z_range, n_repr := PySem.W.mg_none_of X G z_repr, g := fun i hi => (hall i hi).g, ox := fun i hi => (hall i hi).oex, xc := xc, xf := xf, gE := PySem.W.mg_of X G aE, exE := exE, kE := kE, kit := kit }
  have F_l_start := fun_mk (st := s_l_start) l_l_start c_l_start k_l_start
  have b_l_start := F_l_start.binds (ps := ["_law_script"]) fun _ _ _ _ _ _ us hl => match us, hl with | [_], _ => rfl
  have F_l_draw := fun_mk (st := s_l_draw) l_l_draw c_l_draw k_l_draw
  have b_l_draw := F_l_draw.binds (ps := ["_law_stream", "_law_many"]) fun _ _ _ _ _ _ us hl => match us, hl with | [_, _], _ => rfl
  have F_l_mixed := fun_mk (st := s_l_mixed) l_l_mixed c_l_mixed k_l_mixed
  have b_l_mixed := F_l_mixed.binds (ps := ["_law_stream", "_law_some"]) fun _ _ _ _ _ _ us hl => match us, hl with | [_, _], _ => rfl
  have F_l_made_a : FunC K "_law_made_a" "_law_made_a" s_l_made_a f_l_made_a _ cdA := ⟨⟨_, _, _, _, _, _, _, _, rfl, l_l_made_a, c_l_made_a⟩, k_l_made_a⟩
  have b_l_made_a := F_l_made_a.fun.binds (ps := ["_law_x", "_law_y", "_law_z"]) fun _ _ _ _ _ _ us hl => match us, hl with | [_, _, _], _ => rfl
  have F_l_made_b : FunC K "_law_made_b" "_law_made_b" s_l_made_b f_l_made_b _ cdB := ⟨⟨_, _, _, _, _, _, _, _, rfl, l_l_made_b, c_l_made_b⟩, k_l_made_b⟩
  have b_l_made_b := F_l_made_b.fun.binds (ps := ["_law_x", "_law_y", "_law_z"]) fun _ _ _ _ _ _ us hl => match us, hl with | [_, _, _], _ => rfl
  have F_l_made_c : FunC K "_law_made_c" "_law_made_c" s_l_made_c f_l_made_c _ cdC := ⟨⟨_, _, _, _, _, _, _, _, rfl, l_l_made_c, c_l_made_c⟩, k_l_made_c⟩
  have b_l_made_c := F_l_made_c.fun.binds (ps := ["_law_x", "_law_y", "_law_z"]) fun _ _ _ _ _ _ us hl => match us, hl with | [_, _, _], _ => rfl
  have F_l_kinds_a := fun_mk (st := s_l_kinds_a) l_l_kinds_a c_l_kinds_a k_l_kinds_a
  have b_l_kinds_a := F_l_kinds_a.binds (ps := ["_law_e"]) fun _ _ _ _ _ _ us hl => match us, hl with | [_], _ => rfl
  have F_l_kinds_b := fun_mk (st := s_l_kinds_b) l_l_kinds_b c_l_kinds_b k_l_kinds_b
  have b_l_kinds_b := F_l_kinds_b.binds (ps := ["_law_e"]) fun _ _ _ _ _ _ us hl => match us, hl with | [_], _ => rfl
  have F_l_kinds_c := fun_mk (st := s_l_kinds_c) l_l_kinds_c c_l_kinds_c k_l_kinds_c
  have b_l_kinds_c := F_l_kinds_c.binds (ps := ["_law_e"]) fun _ _ _ _ _ _ us hl => match us, hl with | [_], _ => rfl
  have F_l_kinds := fun_mk (st := s_l_kinds) l_l_kinds c_l_kinds k_l_kinds
  have b_l_kinds := F_l_kinds.binds (ps := ["_law_e"]) fun _ _ _ _ _ _ us hl => match us, hl with | [_], _ => rfl
  have F_l_is_own := fun_mk (st := s_l_is_own) l_l_is_own c_l_is_own k_l_is_own
  have b_l_is_own := F_l_is_own.binds (ps := ["_law_e", "_law_at"]) fun _ _ _ _ _ _ us hl => match us, hl with | [_, _], _ => rfl
  have F_l_are_these := fun_mk (st := s_l_are_these) l_l_are_these c_l_are_these k_l_are_these
  have b_l_are_these := F_l_are_these.binds (ps := ["_law_found", "_law_due"]) fun _ _ _ _ _ _ us hl => match us, hl with | [_, _], _ => rfl
  have F_law := fun_mk (st := s_law) l_law c_law k_law
  have b_law := F_law.binds (ps := ["_law_script"]) fun _ _ _ _ _ _ us hl => match us, hl with | [_], _ => rfl
  have tA := own "_law_made_a" f_l_made_a cdA PA _ _ _ _ _ _ rA (PySem.W.mg_of X G a_l_made_a) l_l_made_a rfl rfl vA pA
  have tB := own "_law_made_b" f_l_made_b cdB PB _ _ _ _ _ _ rB (PySem.W.mg_of X G a_l_made_b) l_l_made_b rfl rfl vB pB
  have tC := own "_law_made_c" f_l_made_c cdC PC _ _ _ _ _ _ rC (PySem.W.mg_of X G a_l_made_c) l_l_made_c rfl rfl vC pC
  have mem3 : ∀ {R : Addr × Addr → Prop}, R (cdA, PA) → R (cdB, PB) → R (cdC, PC) → ∀ p ∈ [(cdA, PA), (cdB, PB), (cdC, PC)], R p := fun ra rb rc p hp => by
    simp only [List.mem_cons, List.not_mem_nil, or_false] at hp
    rcases hp with z | z | z <;> rw [z] <;> assumption
  refine ⟨["_law_script"], [(cdA, PA), (cdB, PB), (cdC, PC)], spLaw0 K ⟨cAt [c0, c1, c2, c3, c4, c5, c6, c7, c8, c9, c10, c11, c12, c13, c14, c15, c16, c17, c18, c19, c20, c21, c22, c23, c24, c25, c26, c27, c28, c29, c30, c31, c32, c33, c34, c35, c36, c37, c38, c39, c40, c41, c42], cE, PA, PB, PC⟩, mem3 tA tB tC, mem3 nA nB nC, mem3 (PySem.W.codeHd_of_K X dA) (PySem.W.codeHd_of_K X dB) (PySem.W.codeHd_of_K X dC), fun H a ns hl hH hS => ?_, fun base _ _ TB => ?_⟩
  · exact ⟨a, ns, rfl, hS, Nat.le_trans hl (by decide), TabS.nil (hH (cdA, PA) (by simp)), TabS.nil (hH (cdB, PB) (by simp)), TabS.nil (hH (cdC, PC) (by simp)), nAB, nAC, nBC, fun _ => rfl⟩
  have TA := TB (cdA, PA) (by simp)
  have TBB := TB (cdB, PB) (by simp)
  have TC := TB (cdC, PC) (by simp)
  have Yi : TxtI K ⟨cAt [c0, c1, c2, c3, c4, c5, c6, c7, c8, c9, c10, c11, c12, c13, c14, c15, c16, c17, c18, c19, c20, c21, c22, c23, c24, c25, c26, c27, c28, c29, c30, c31, c32, c33, c34, c35, c36, c37, c38, c39, c40, c41, c42], cE, PA, PB, PC⟩ (cAt [f0, f1, f2, f3, f4, f5, f6, f7, f8, f9, f10, f11, f12, f13, f14, f15, f16, f17, f18, f19, f20, f21, f22, f23, f24, f25, f26, f27, f28, f29, f30, f31, f32, f33, f34, f35, f36, f37, f38, f39, f40, f41, f42]) := ⟨fun i hi => (hall i hi).ini, fun i hi => (hall i hi).tyi⟩
  have C_l_start := ok_l_start (P := l.prog) (w := w) (base := base) F_l_start b_l_start (PySem.W.mg_of X G a_l_start) T 
  have C_l_draw := ok_l_draw (P := l.prog) (w := w) (base := base) F_l_draw b_l_draw (PySem.W.mg_of X G a_l_draw) T 
  have C_l_mixed := ok_l_mixed (P := l.prog) (w := w) (base := base) F_l_mixed b_l_mixed (PySem.W.mg_of X G a_l_mixed) T C_l_draw
  have C_l_made_a := ok_l_made_a (P := l.prog) (w := w) (base := base) F_l_made_a b_l_made_a (PySem.W.mg_of X G a_l_made_a) T  TA Yi (Y.I l.prog w mg base) Y.B0 Y.B
  have C_l_made_b := ok_l_made_b (P := l.prog) (w := w) (base := base) F_l_made_b b_l_made_b (PySem.W.mg_of X G a_l_made_b) T  TBB Yi (Y.I l.prog w mg base) Y.B0 Y.B
  have C_l_made_c := ok_l_made_c (P := l.prog) (w := w) (base := base) F_l_made_c b_l_made_c (PySem.W.mg_of X G a_l_made_c) T  TC Yi (Y.I l.prog w mg base) Y.B0 Y.B
  have C_l_kinds_a := ok_l_kinds_a (P := l.prog) (w := w) (base := base) F_l_kinds_a b_l_kinds_a (PySem.W.mg_of X G a_l_kinds_a) T 
  have C_l_kinds_b := ok_l_kinds_b (P := l.prog) (w := w) (base := base) F_l_kinds_b b_l_kinds_b (PySem.W.mg_of X G a_l_kinds_b) T 
  have C_l_kinds_c := ok_l_kinds_c (P := l.prog) (w := w) (base := base) F_l_kinds_c b_l_kinds_c (PySem.W.mg_of X G a_l_kinds_c) T 
  have C_l_kinds := ok_l_kinds (P := l.prog) (w := w) (base := base) F_l_kinds b_l_kinds (PySem.W.mg_of X G a_l_kinds) T C_l_kinds_a C_l_kinds_b C_l_kinds_c
  have C_l_is_own := ok_l_is_own (P := l.prog) (w := w) (base := base) F_l_is_own b_l_is_own (PySem.W.mg_of X G a_l_is_own) T C_l_kinds
  have G_these := ok_l_are_these (P := l.prog) (w := w) (mg := mg) (base := base) F_l_are_these b_l_are_these T 
  have C_l_are_these : CalG l.prog w K mg base 1 "_law_are_these" spThese := ⟨⟨_, _, G_these, PySem.W.mg_of X G a_l_are_these, k_l_are_these⟩⟩
  exact ok_law F_law b_law T C_l_start C_l_mixed C_l_made_a C_l_made_b C_l_made_c C_l_is_own C_l_are_these C_l_kinds
theorem clsdF_0 {K : PySem.W.Frag} {h : Heap} {mg : Str → Option Value} {cE C f : Addr} (X : K.In h) (G : h.Ns mainGlobals mg) (z : ClsF K cE C f "BadBegun" "BadBegun.__init__" ["thing"] s_p_BadBegun_init) : ClsD K mg cE C f "BadBegun" ["thing"] := by
  obtain ⟨a, x, b, ai, l, c⟩ := z
  exact clsd_0 X G a x b ai l c
theorem clsdF_1 {K : PySem.W.Frag} {h : Heap} {mg : Str → Option Value} {cE C f : Addr} (X : K.In h) (G : h.Ns mainGlobals mg) (z : ClsF K cE C f "BadBox" "BadBox.__init__" ["thing"] s_p_BadBox_init) : ClsD K mg cE C f "BadBox" ["thing"] := by
  obtain ⟨a, x, b, ai, l, c⟩ := z
  exact clsd_1 X G a x b ai l c
theorem clsdF_2 {K : PySem.W.Frag} {h : Heap} {mg : Str → Option Value} {cE C f : Addr} (X : K.In h) (G : h.Ns mainGlobals mg) (z : ClsF K cE C f "BadCells" "BadCells.__init__" ["thing"] s_p_BadCells_init) : ClsD K mg cE C f "BadCells" ["thing"] := by
  obtain ⟨a, x, b, ai, l, c⟩ := z
  exact clsd_2 X G a x b ai l c
theorem clsdF_3 {K : PySem.W.Frag} {h : Heap} {mg : Str → Option Value} {cE C f : Addr} (X : K.In h) (G : h.Ns mainGlobals mg) (z : ClsF K cE C f "BadChain" "BadChain.__init__" ["thing"] s_p_BadChain_init) : ClsD K mg cE C f "BadChain" ["thing"] := by
  obtain ⟨a, x, b, ai, l, c⟩ := z
  exact clsd_3 X G a x b ai l c
theorem clsdF_4 {K : PySem.W.Frag} {h : Heap} {mg : Str → Option Value} {cE C f : Addr} (X : K.In h) (G : h.Ns mainGlobals mg) (z : ClsF K cE C f "BadCount" "BadCount.__init__" ["thing"] s_p_BadCount_init) : ClsD K mg cE C f "BadCount" ["thing"] := by
  obtain ⟨a, x, b, ai, l, c⟩ := z
  exact clsd_4 X G a x b ai l c
theorem clsdF_5 {K : PySem.W.Frag} {h : Heap} {mg : Str → Option Value} {cE C f : Addr} (X : K.In h) (G : h.Ns mainGlobals mg) (z : ClsF K cE C f "BadDeed" "BadDeed.__init__" ["thing"] s_p_BadDeed_init) : ClsD K mg cE C f "BadDeed" ["thing"] := by
  obtain ⟨a, x, b, ai, l, c⟩ := z
  exact clsd_5 X G a x b ai l c
theorem clsdF_6 {K : PySem.W.Frag} {h : Heap} {mg : Str → Option Value} {cE C f : Addr} (X : K.In h) (G : h.Ns mainGlobals mg) (z : ClsF K cE C f "BadHeld" "BadHeld.__init__" ["index"] s_p_BadHeld_init) : ClsD K mg cE C f "BadHeld" ["index"] := by
  obtain ⟨a, x, b, ai, l, c⟩ := z
  exact clsd_6 X G a x b ai l c
theorem clsdF_7 {K : PySem.W.Frag} {h : Heap} {mg : Str → Option Value} {cE C f : Addr} (X : K.In h) (G : h.Ns mainGlobals mg) (z : ClsF K cE C f "BadHours" "BadHours.__init__" ["index"] s_p_BadHours_init) : ClsD K mg cE C f "BadHours" ["index"] := by
  obtain ⟨a, x, b, ai, l, c⟩ := z
  exact clsd_7 X G a x b ai l c
theorem clsdF_8 {K : PySem.W.Frag} {h : Heap} {mg : Str → Option Value} {cE C f : Addr} (X : K.In h) (G : h.Ns mainGlobals mg) (z : ClsF K cE C f "BadLine" "BadLine.__init__" ["thing"] s_p_BadLine_init) : ClsD K mg cE C f "BadLine" ["thing"] := by
  obtain ⟨a, x, b, ai, l, c⟩ := z
  exact clsd_8 X G a x b ai l c
theorem clsdF_9 {K : PySem.W.Frag} {h : Heap} {mg : Str → Option Value} {cE C f : Addr} (X : K.In h) (G : h.Ns mainGlobals mg) (z : ClsF K cE C f "BadLines" "BadLines.__init__" ["index"] s_p_BadLines_init) : ClsD K mg cE C f "BadLines" ["index"] := by
  obtain ⟨a, x, b, ai, l, c⟩ := z
  exact clsd_9 X G a x b ai l c
theorem clsdF_10 {K : PySem.W.Frag} {h : Heap} {mg : Str → Option Value} {cE C f : Addr} (X : K.In h) (G : h.Ns mainGlobals mg) (z : ClsF K cE C f "BadListing" "BadListing.__init__" ["index"] s_p_BadListing_init) : ClsD K mg cE C f "BadListing" ["index"] := by
  obtain ⟨a, x, b, ai, l, c⟩ := z
  exact clsd_10 X G a x b ai l c
theorem clsdF_11 {K : PySem.W.Frag} {h : Heap} {mg : Str → Option Value} {cE C f : Addr} (X : K.In h) (G : h.Ns mainGlobals mg) (z : ClsF K cE C f "BadMany" "BadMany.__init__" ["thing"] s_p_BadMany_init) : ClsD K mg cE C f "BadMany" ["thing"] := by
  obtain ⟨a, x, b, ai, l, c⟩ := z
  exact clsd_11 X G a x b ai l c
theorem clsdF_12 {K : PySem.W.Frag} {h : Heap} {mg : Str → Option Value} {cE C f : Addr} (X : K.In h) (G : h.Ns mainGlobals mg) (z : ClsF K cE C f "BadNumber" "BadNumber.__init__" ["thing"] s_p_BadNumber_init) : ClsD K mg cE C f "BadNumber" ["thing"] := by
  obtain ⟨a, x, b, ai, l, c⟩ := z
  exact clsd_12 X G a x b ai l c
theorem clsdF_13 {K : PySem.W.Frag} {h : Heap} {mg : Str → Option Value} {cE C f : Addr} (X : K.In h) (G : h.Ns mainGlobals mg) (z : ClsF K cE C f "BadOrder" "BadOrder.__init__" ["thing"] s_p_BadOrder_init) : ClsD K mg cE C f "BadOrder" ["thing"] := by
  obtain ⟨a, x, b, ai, l, c⟩ := z
  exact clsd_13 X G a x b ai l c
theorem clsdF_14 {K : PySem.W.Frag} {h : Heap} {mg : Str → Option Value} {cE C f : Addr} (X : K.In h) (G : h.Ns mainGlobals mg) (z : ClsF K cE C f "BadPairs" "BadPairs.__init__" ["index"] s_p_BadPairs_init) : ClsD K mg cE C f "BadPairs" ["index"] := by
  obtain ⟨a, x, b, ai, l, c⟩ := z
  exact clsd_14 X G a x b ai l c
theorem clsdF_15 {K : PySem.W.Frag} {h : Heap} {mg : Str → Option Value} {cE C f : Addr} (X : K.In h) (G : h.Ns mainGlobals mg) (z : ClsF K cE C f "BadPlace" "BadPlace.__init__" ["thing"] s_p_BadPlace_init) : ClsD K mg cE C f "BadPlace" ["thing"] := by
  obtain ⟨a, x, b, ai, l, c⟩ := z
  exact clsd_15 X G a x b ai l c
theorem clsdF_16 {K : PySem.W.Frag} {h : Heap} {mg : Str → Option Value} {cE C f : Addr} (X : K.In h) (G : h.Ns mainGlobals mg) (z : ClsF K cE C f "BadPlan" "BadPlan.__init__" ["thing"] s_p_BadPlan_init) : ClsD K mg cE C f "BadPlan" ["thing"] := by
  obtain ⟨a, x, b, ai, l, c⟩ := z
  exact clsd_16 X G a x b ai l c
theorem clsdF_17 {K : PySem.W.Frag} {h : Heap} {mg : Str → Option Value} {cE C f : Addr} (X : K.In h) (G : h.Ns mainGlobals mg) (z : ClsF K cE C f "BadProgram" "BadProgram.__init__" ["thing"] s_p_BadProgram_init) : ClsD K mg cE C f "BadProgram" ["thing"] := by
  obtain ⟨a, x, b, ai, l, c⟩ := z
  exact clsd_17 X G a x b ai l c
theorem clsdF_18 {K : PySem.W.Frag} {h : Heap} {mg : Str → Option Value} {cE C f : Addr} (X : K.In h) (G : h.Ns mainGlobals mg) (z : ClsF K cE C f "BadQuestion" "BadQuestion.__init__" ["thing"] s_p_BadQuestion_init) : ClsD K mg cE C f "BadQuestion" ["thing"] := by
  obtain ⟨a, x, b, ai, l, c⟩ := z
  exact clsd_18 X G a x b ai l c
theorem clsdF_19 {K : PySem.W.Frag} {h : Heap} {mg : Str → Option Value} {cE C f : Addr} (X : K.In h) (G : h.Ns mainGlobals mg) (z : ClsF K cE C f "BadReads" "BadReads.__init__" ["index"] s_p_BadReads_init) : ClsD K mg cE C f "BadReads" ["index"] := by
  obtain ⟨a, x, b, ai, l, c⟩ := z
  exact clsd_19 X G a x b ai l c
theorem clsdF_20 {K : PySem.W.Frag} {h : Heap} {mg : Str → Option Value} {cE C f : Addr} (X : K.In h) (G : h.Ns mainGlobals mg) (z : ClsF K cE C f "BadRow" "BadRow.__init__" ["index"] s_p_BadRow_init) : ClsD K mg cE C f "BadRow" ["index"] := by
  obtain ⟨a, x, b, ai, l, c⟩ := z
  exact clsd_20 X G a x b ai l c
theorem clsdF_21 {K : PySem.W.Frag} {h : Heap} {mg : Str → Option Value} {cE C f : Addr} (X : K.In h) (G : h.Ns mainGlobals mg) (z : ClsF K cE C f "BadRows" "BadRows.__init__" ["index"] s_p_BadRows_init) : ClsD K mg cE C f "BadRows" ["index"] := by
  obtain ⟨a, x, b, ai, l, c⟩ := z
  exact clsd_21 X G a x b ai l c
theorem clsdF_22 {K : PySem.W.Frag} {h : Heap} {mg : Str → Option Value} {cE C f : Addr} (X : K.In h) (G : h.Ns mainGlobals mg) (z : ClsF K cE C f "BadSeen" "BadSeen.__init__" ["index"] s_p_BadSeen_init) : ClsD K mg cE C f "BadSeen" ["index"] := by
  obtain ⟨a, x, b, ai, l, c⟩ := z
  exact clsd_22 X G a x b ai l c
theorem clsdF_23 {K : PySem.W.Frag} {h : Heap} {mg : Str → Option Value} {cE C f : Addr} (X : K.In h) (G : h.Ns mainGlobals mg) (z : ClsF K cE C f "BadSession" "BadSession.__init__" ["thing"] s_p_BadSession_init) : ClsD K mg cE C f "BadSession" ["thing"] := by
  obtain ⟨a, x, b, ai, l, c⟩ := z
  exact clsd_23 X G a x b ai l c
theorem clsdF_24 {K : PySem.W.Frag} {h : Heap} {mg : Str → Option Value} {cE C f : Addr} (X : K.In h) (G : h.Ns mainGlobals mg) (z : ClsF K cE C f "BadSome" "BadSome.__init__" ["index"] s_p_BadSome_init) : ClsD K mg cE C f "BadSome" ["index"] := by
  obtain ⟨a, x, b, ai, l, c⟩ := z
  exact clsd_24 X G a x b ai l c
theorem clsdF_25 {K : PySem.W.Frag} {h : Heap} {mg : Str → Option Value} {cE C f : Addr} (X : K.In h) (G : h.Ns mainGlobals mg) (z : ClsF K cE C f "BadSource" "BadSource.__init__" ["thing"] s_p_BadSource_init) : ClsD K mg cE C f "BadSource" ["thing"] := by
  obtain ⟨a, x, b, ai, l, c⟩ := z
  exact clsd_25 X G a x b ai l c
theorem clsdF_26 {K : PySem.W.Frag} {h : Heap} {mg : Str → Option Value} {cE C f : Addr} (X : K.In h) (G : h.Ns mainGlobals mg) (z : ClsF K cE C f "BadSpots" "BadSpots.__init__" ["index"] s_p_BadSpots_init) : ClsD K mg cE C f "BadSpots" ["index"] := by
  obtain ⟨a, x, b, ai, l, c⟩ := z
  exact clsd_26 X G a x b ai l c
theorem clsdF_27 {K : PySem.W.Frag} {h : Heap} {mg : Str → Option Value} {cE C f : Addr} (X : K.In h) (G : h.Ns mainGlobals mg) (z : ClsF K cE C f "BadTeller" "BadTeller.__init__" ["thing"] s_p_BadTeller_init) : ClsD K mg cE C f "BadTeller" ["thing"] := by
  obtain ⟨a, x, b, ai, l, c⟩ := z
  exact clsd_27 X G a x b ai l c
theorem clsdF_28 {K : PySem.W.Frag} {h : Heap} {mg : Str → Option Value} {cE C f : Addr} (X : K.In h) (G : h.Ns mainGlobals mg) (z : ClsF K cE C f "BadTells" "BadTells.__init__" ["index"] s_p_BadTells_init) : ClsD K mg cE C f "BadTells" ["index"] := by
  obtain ⟨a, x, b, ai, l, c⟩ := z
  exact clsd_28 X G a x b ai l c
theorem clsdF_29 {K : PySem.W.Frag} {h : Heap} {mg : Str → Option Value} {cE C f : Addr} (X : K.In h) (G : h.Ns mainGlobals mg) (z : ClsF K cE C f "BadText" "BadText.__init__" ["line", "sign"] s_p_BadText_init) : ClsD K mg cE C f "BadText" ["line", "sign"] := by
  obtain ⟨a, x, b, ai, l, c⟩ := z
  exact clsd_29 X G a x b ai l c
theorem clsdF_30 {K : PySem.W.Frag} {h : Heap} {mg : Str → Option Value} {cE C f : Addr} (X : K.In h) (G : h.Ns mainGlobals mg) (z : ClsF K cE C f "InUse" "InUse.__init__" ["question"] s_p_InUse_init) : ClsD K mg cE C f "InUse" ["question"] := by
  obtain ⟨a, x, b, ai, l, c⟩ := z
  exact clsd_30 X G a x b ai l c
theorem clsdF_31 {K : PySem.W.Frag} {h : Heap} {mg : Str → Option Value} {cE C f : Addr} (X : K.In h) (G : h.Ns mainGlobals mg) (z : ClsF K cE C f "IsWatched" "IsWatched.__init__" ["question"] s_p_IsWatched_init) : ClsD K mg cE C f "IsWatched" ["question"] := by
  obtain ⟨a, x, b, ai, l, c⟩ := z
  exact clsd_31 X G a x b ai l c
theorem clsdF_32 {K : PySem.W.Frag} {h : Heap} {mg : Str → Option Value} {cE C f : Addr} (X : K.In h) (G : h.Ns mainGlobals mg) (z : ClsF K cE C f "NoCell" "NoCell.__init__" ["thing"] s_p_NoCell_init) : ClsD K mg cE C f "NoCell" ["thing"] := by
  obtain ⟨a, x, b, ai, l, c⟩ := z
  exact clsd_32 X G a x b ai l c
theorem clsdF_33 {K : PySem.W.Frag} {h : Heap} {mg : Str → Option Value} {cE C f : Addr} (X : K.In h) (G : h.Ns mainGlobals mg) (z : ClsF K cE C f "NoCount" "NoCount.__init__" ["thing"] s_p_NoCount_init) : ClsD K mg cE C f "NoCount" ["thing"] := by
  obtain ⟨a, x, b, ai, l, c⟩ := z
  exact clsd_33 X G a x b ai l c
theorem clsdF_34 {K : PySem.W.Frag} {h : Heap} {mg : Str → Option Value} {cE C f : Addr} (X : K.In h) (G : h.Ns mainGlobals mg) (z : ClsF K cE C f "NoHour" "NoHour.__init__" ["hour"] s_p_NoHour_init) : ClsD K mg cE C f "NoHour" ["hour"] := by
  obtain ⟨a, x, b, ai, l, c⟩ := z
  exact clsd_34 X G a x b ai l c
theorem clsdF_35 {K : PySem.W.Frag} {h : Heap} {mg : Str → Option Value} {cE C f : Addr} (X : K.In h) (G : h.Ns mainGlobals mg) (z : ClsF K cE C f "NoLine" "NoLine.__init__" ["thing"] s_p_NoLine_init) : ClsD K mg cE C f "NoLine" ["thing"] := by
  obtain ⟨a, x, b, ai, l, c⟩ := z
  exact clsd_35 X G a x b ai l c
theorem clsdF_36 {K : PySem.W.Frag} {h : Heap} {mg : Str → Option Value} {cE C f : Addr} (X : K.In h) (G : h.Ns mainGlobals mg) (z : ClsF K cE C f "NoSpot" "NoSpot.__init__" ["hour", "slot"] s_p_NoSpot_init) : ClsD K mg cE C f "NoSpot" ["hour", "slot"] := by
  obtain ⟨a, x, b, ai, l, c⟩ := z
  exact clsd_36 X G a x b ai l c
theorem clsdF_37 {K : PySem.W.Frag} {h : Heap} {mg : Str → Option Value} {cE C f : Addr} (X : K.In h) (G : h.Ns mainGlobals mg) (z : ClsF K cE C f "NoText" "NoText.__init__" ["index"] s_p_NoText_init) : ClsD K mg cE C f "NoText" ["index"] := by
  obtain ⟨a, x, b, ai, l, c⟩ := z
  exact clsd_37 X G a x b ai l c
theorem clsdF_38 {K : PySem.W.Frag} {h : Heap} {mg : Str → Option Value} {cE C f : Addr} (X : K.In h) (G : h.Ns mainGlobals mg) (z : ClsF K cE C f "NoThing" "NoThing.__init__" ["thing"] s_p_NoThing_init) : ClsD K mg cE C f "NoThing" ["thing"] := by
  obtain ⟨a, x, b, ai, l, c⟩ := z
  exact clsd_38 X G a x b ai l c
theorem clsdF_39 {K : PySem.W.Frag} {h : Heap} {mg : Str → Option Value} {cE C f : Addr} (X : K.In h) (G : h.Ns mainGlobals mg) (z : ClsF K cE C f "NoTold" "NoTold.__init__" ["thing"] s_p_NoTold_init) : ClsD K mg cE C f "NoTold" ["thing"] := by
  obtain ⟨a, x, b, ai, l, c⟩ := z
  exact clsd_39 X G a x b ai l c
theorem clsdF_40 {K : PySem.W.Frag} {h : Heap} {mg : Str → Option Value} {cE C f : Addr} (X : K.In h) (G : h.Ns mainGlobals mg) (z : ClsF K cE C f "NotSound" "NotSound.__init__" ["fault"] s_p_NotSound_init) : ClsD K mg cE C f "NotSound" ["fault"] := by
  obtain ⟨a, x, b, ai, l, c⟩ := z
  exact clsd_40 X G a x b ai l c
theorem clsdF_41 {K : PySem.W.Frag} {h : Heap} {mg : Str → Option Value} {cE C f : Addr} (X : K.In h) (G : h.Ns mainGlobals mg) (z : ClsF K cE C f "NotWatched" "NotWatched.__init__" ["question"] s_p_NotWatched_init) : ClsD K mg cE C f "NotWatched" ["question"] := by
  obtain ⟨a, x, b, ai, l, c⟩ := z
  exact clsd_41 X G a x b ai l c
theorem clsdF_42 {K : PySem.W.Frag} {h : Heap} {mg : Str → Option Value} {cE C f : Addr} (X : K.In h) (G : h.Ns mainGlobals mg) (z : ClsF K cE C f "WouldChange" "WouldChange.__init__" ["question", "why"] s_p_WouldChange_init) : ClsD K mg cE C f "WouldChange" ["question", "why"] := by
  obtain ⟨a, x, b, ai, l, c⟩ := z
  exact clsd_42 X G a x b ai l c
theorem all_fact {l : PySem.W.OpenLaw} {w : World} {K : PySem.W.Frag} {qq : Program} {h : Heap} {mg : Str → Option Value} {fa : Addr} (F : Fact K qq) (X : K.In h) (G : h.Ns mainGlobals mg) (hfa : mg "law" = some (.ref fa)) (own : OwnTabs qq K mg h) :
    ∃ (ps : List Str) (cs : List (Addr × Addr)) (sp : Sp), (∀ p ∈ cs, h.get? p.2 = some { cls := .none, data := .fields #[] }) ∧ (∀ p ∈ cs, K.lookup p.2 = none) ∧ (∀ p ∈ cs, PySem.W.CodeHd h p.1 p.2) ∧
        (∀ (H : Hp) (a : Addr) (ns : List Int), ns.length ≤ 63 → (∀ p ∈ cs, H p.2 = some (.tbl #[])) → SqL K H a (ns.map V.int) → sp [.ref a] H (fun v _ => v = .bl true) fun _ _ _ => False) ∧
        ∀ base : Heap, K.In base → base.Ns mainGlobals mg → (∀ p ∈ cs, TabB base mg p.1 p.2) → FnG l.prog w K mg base 4 fa ps sp := by
  obtain ⟨h_0, h_1, h_2, h_3, h_4, h_5, h_6, h_7, h_8, h_9, h_10, h_11, h_12, h_13, h_14, h_15, h_16, h_17, h_18, h_19, h_20, h_21, h_22, h_23, h_24, h_25, h_26, h_27, h_28, h_29, h_30, h_31, h_32, h_33, h_34, h_35, h_36, h_37, h_38, h_39, h_40, h_41, h_42, aE, xE, exE, kE, gaE, ggE, haE, hdE_, hn, htk, a_l_start, l_l_start, c_l_start, k_l_start, a_l_draw, l_l_draw, c_l_draw, k_l_draw, a_l_mixed, l_l_mixed, c_l_mixed, k_l_mixed, a_l_made_a, l_l_made_a, c_l_made_a, k_l_made_a, vA, pA, dA, nA, a_l_made_b, l_l_made_b, c_l_made_b, k_l_made_b, vB, pB, dB, nB, a_l_made_c, l_l_made_c, c_l_made_c, k_l_made_c, vC, pC, dC, nC, a_l_kinds_a, l_l_kinds_a, c_l_kinds_a, k_l_kinds_a, a_l_kinds_b, l_l_kinds_b, c_l_kinds_b, k_l_kinds_b, a_l_kinds_c, l_l_kinds_c, c_l_kinds_c, k_l_kinds_c, a_l_kinds, l_l_kinds, c_l_kinds, k_l_kinds, a_l_is_own, l_l_is_own, c_l_is_own, k_l_is_own, a_l_are_these, l_l_are_these, c_l_are_these, k_l_are_these, a_law, l_law, c_law, k_law, z_LookupError, z_ValueError, z_enumerate, z_int, z_isinstance, z_len, z_list, z_range, z_repr, nd, nAB, nAC, nBC, mV, mL, rA, rB, rC⟩ := F
  exact all_mk X G hfa own (clsdF_0 X G h_0) (clsdF_1 X G h_1) (clsdF_2 X G h_2) (clsdF_3 X G h_3) (clsdF_4 X G h_4) (clsdF_5 X G h_5) (clsdF_6 X G h_6) (clsdF_7 X G h_7) (clsdF_8 X G h_8) (clsdF_9 X G h_9) (clsdF_10 X G h_10) (clsdF_11 X G h_11) (clsdF_12 X G h_12) (clsdF_13 X G h_13) (clsdF_14 X G h_14) (clsdF_15 X G h_15) (clsdF_16 X G h_16) (clsdF_17 X G h_17) (clsdF_18 X G h_18) (clsdF_19 X G h_19) (clsdF_20 X G h_20) (clsdF_21 X G h_21) (clsdF_22 X G h_22) (clsdF_23 X G h_23) (clsdF_24 X G h_24) (clsdF_25 X G h_25) (clsdF_26 X G h_26) (clsdF_27 X G h_27) (clsdF_28 X G h_28) (clsdF_29 X G h_29) (clsdF_30 X G h_30) (clsdF_31 X G h_31) (clsdF_32 X G h_32) (clsdF_33 X G h_33) (clsdF_34 X G h_34) (clsdF_35 X G h_35) (clsdF_36 X G h_36) (clsdF_37 X G h_37) (clsdF_38 X G h_38) (clsdF_39 X G h_39) (clsdF_40 X G h_40) (clsdF_41 X G h_41) (clsdF_42 X G h_42) aE xE exE kE gaE ggE haE hdE_ hn htk a_l_start l_l_start c_l_start k_l_start a_l_draw l_l_draw c_l_draw k_l_draw a_l_mixed l_l_mixed c_l_mixed k_l_mixed a_l_made_a l_l_made_a c_l_made_a k_l_made_a vA pA dA nA a_l_made_b l_l_made_b c_l_made_b k_l_made_b vB pB dB nB a_l_made_c l_l_made_c c_l_made_c k_l_made_c vC pC dC nC a_l_kinds_a l_l_kinds_a c_l_kinds_a k_l_kinds_a a_l_kinds_b l_l_kinds_b c_l_kinds_b k_l_kinds_b a_l_kinds_c l_l_kinds_c c_l_kinds_c k_l_kinds_c a_l_kinds l_l_kinds c_l_kinds k_l_kinds a_l_is_own l_l_is_own c_l_is_own k_l_is_own a_l_are_these l_l_are_these c_l_are_these k_l_are_these a_law l_law c_law k_law z_LookupError z_ValueError z_enumerate z_int z_isinstance z_len z_list z_range z_repr nd nAB nAC nBC mV mL rA rB rC
end Tw
end

section
open PySem PySem.W PyProof.Rows
set_option maxRecDepth 100000 in
set_option maxHeartbeats 4000000 in
theorem PySem.Challenge.cw_twoslots_k00_errors_made_holds : PySem.Challenge.rw_twoslots_k00_errors_made.Holds := by
  refine Tw.head fun q loose XP YP d K hd hn hk hf => ?_
  refine Tw.walkGT (l := PySem.Challenge.rw_twoslots_k00_errors_made) (n := 63) (k := 4) rfl (by decide) hd ⟨rfl, by decide, by decide⟩ hk fun w mg fa h KX G hmg Y own => ?_
  exact Tw.all_fact (hf w) KX G (by rw [← hn]; exact hmg) own
end
