import PyProof.Rows.All
import Wide.All
import OpenK.AllK
import Wide.FinOn
import HandS.ForMost
import HandS.ForExc
import HandS.CallSlots
import HandS.Walk
import HandS.Wide
import HandS.IsInst
import HandS.Zip
import HandS.Comp
import HandS.EndBits
import HandS.Style
import HandS.TupLe
import HandS.ExcInit
import HandS.ClsMeth
import HandS.Words
import KE.KExcSuper
import HandS.FStr
import HandS.FStrTup
import HandS.ExcField
import HandS.TryMany
import KE.KOpsOwn
import HandS.TupAny
import HandS.Codes
import HandS.Iter
import KE.GoesMore
import HandS.Rev
import HandS.RevRange
import HandS.RaiseMore
import HandS.SortInts
import HandS.Strs
import HandS.SetFor
import HandS.Small
import HandS.Star
import KE.KCallOwn
import HandS.Flow
import HandS.Text
import HandS.TupSets
import PyProof.TupleOps
import HandS.Steps
import HandS.TryOnly
import HandS.Zip0
import KE.KDictZip
import HandS.OwnIter
import KE.KStar
import HandS.Defaults
import HandS.MakeKwOnly
import HandS.HotCalls
import HandS.Conv
import KE.SortData
import HandS.WordsDict
import HandS.ReSub
import HandS.Deep
import HandS.More
import HandS.DictComp
import KE.KDictOf
import HandS.ReplaceLit
import HandS.DictEq
import KE.KDictItemsList
import HandS.DictTup
import HandS.SetBool
import PyProof.NeKinds
import KE.KAssignIn
import PyProof.AutoSeq1
import PyProof.ListOps
import KE.KStateDown
import HandS.Head0
import HandS.Head1
import HandS.Head2
import HandS.HeadHook1
import HandS.HeadHook3
import HandS.HeadEnd
import PySem.Challenge.RW_everyfield_k82_sentences_that_are_none
set_option Elab.async false
set_option linter.all false
set_option maxRecDepth 100000
set_option maxHeartbeats 4000000
namespace DW.K82
open PySem PySem.Spec PyProof.Rows L2 DL
section
variable {P : Program} {w : World} {K : PySem.W.Frag} {h : Heap} {mg : Str → Option Value}
theorem all_mk (X : K.In h) (G : h.Ns mainGlobals mg) {fa : Addr} (hfa : mg "law" = some (.ref fa))
    {cE0 fE0 NE0 daE0 ccE0 : Addr} {nmE0 qE0 fiE0 : Str} {bsE0 bmE0 subE0 : List Value} {snE0 : List Str} {abE0 : Bool} {colE0 : Option Bool} {ddE0 odE0 anE0 cddE0 cldE0 : Option Addr} {mE0_0 mE0_1 mE0_2 mE0_3 mE0_5 : Option Value} {ocE0 kVE0 dcE0 pmE0 ctE0 cclE0 clE0 : Value} {slE0 ccsE0 cslE0 : Array (Option Value)} {vsE0 : Array Value} {tfE0 : Tok}
    (eA0 : PySem.W.nsIn K mainGlobals "BadNumber" = some (some (.ref cE0))) (eX0 : K.lookup cE0 = some (excClassObj nmE0 qE0 cE0 NE0 bsE0 bmE0 true snE0 subE0 abE0 colE0 ddE0 mE0_0 mE0_1 mE0_2 mE0_3 mE0_5 "ValueError.__new__")) (eR0 : PySem.HandSPX.refsVE bmE0 = true)
    (eI0 : PySem.W.findIn K (.ref cE0) "__init__" = some (some (.ref fE0))) (eB0 : errB K cE0 fE0 ["n"] = true)
    (eL0 : K.lookup fE0 = some ⟨ocE0, odE0, .func (PySem.W.ksFn "__init__" "BadNumber.__init__" (defArgs si_BadNumber) (defBody si_BadNumber) (defScope si_BadNumber) .none kVE0 dcE0 pmE0 anE0 (.ref daE0) ctE0 ccE0), slE0⟩)
    (eC0 : PySem.W.codeIn K (.ref daE0) "BadNumber.__init__" = true) (eD0 : K.lookup daE0 = some ⟨cclE0, cddE0, .fields vsE0, ccsE0⟩) (eV0 : vsE0[2]? = some (.str fiE0 tfE0)) (eF0 : ((P.main.file : Str) == fiE0) = true) (eE0 : K.lookup ccE0 = some ⟨clE0, cldE0, .cell (some (.ref cE0)), cslE0⟩)
    {cE1 fE1 NE1 daE1 ccE1 : Addr} {nmE1 qE1 fiE1 : Str} {bsE1 bmE1 subE1 : List Value} {snE1 : List Str} {abE1 : Bool} {colE1 : Option Bool} {ddE1 odE1 anE1 cddE1 cldE1 : Option Addr} {mE1_0 mE1_1 mE1_2 mE1_3 mE1_5 : Option Value} {ocE1 kVE1 dcE1 pmE1 ctE1 cclE1 clE1 : Value} {slE1 ccsE1 cslE1 : Array (Option Value)} {vsE1 : Array Value} {tfE1 : Tok}
    (eA1 : PySem.W.nsIn K mainGlobals "BadCharacteristic" = some (some (.ref cE1))) (eX1 : K.lookup cE1 = some (excClassObj nmE1 qE1 cE1 NE1 bsE1 bmE1 true snE1 subE1 abE1 colE1 ddE1 mE1_0 mE1_1 mE1_2 mE1_3 mE1_5 "ValueError.__new__")) (eR1 : PySem.HandSPX.refsVE bmE1 = true)
    (eI1 : PySem.W.findIn K (.ref cE1) "__init__" = some (some (.ref fE1))) (eB1 : errB K cE1 fE1 ["p"] = true)
    (eL1 : K.lookup fE1 = some ⟨ocE1, odE1, .func (PySem.W.ksFn "__init__" "BadCharacteristic.__init__" (defArgs si_BadCharacteristic) (defBody si_BadCharacteristic) (defScope si_BadCharacteristic) .none kVE1 dcE1 pmE1 anE1 (.ref daE1) ctE1 ccE1), slE1⟩)
    (eC1 : PySem.W.codeIn K (.ref daE1) "BadCharacteristic.__init__" = true) (eD1 : K.lookup daE1 = some ⟨cclE1, cddE1, .fields vsE1, ccsE1⟩) (eV1 : vsE1[2]? = some (.str fiE1 tfE1)) (eF1 : ((P.main.file : Str) == fiE1) = true) (eE1 : K.lookup ccE1 = some ⟨clE1, cldE1, .cell (some (.ref cE1)), cslE1⟩)
    {cE2 fE2 NE2 daE2 ccE2 : Addr} {nmE2 qE2 fiE2 : Str} {bsE2 bmE2 subE2 : List Value} {snE2 : List Str} {abE2 : Bool} {colE2 : Option Bool} {ddE2 odE2 anE2 cddE2 cldE2 : Option Addr} {mE2_0 mE2_1 mE2_2 mE2_3 mE2_5 : Option Value} {ocE2 kVE2 dcE2 pmE2 ctE2 cclE2 clE2 : Value} {slE2 ccsE2 cslE2 : Array (Option Value)} {vsE2 : Array Value} {tfE2 : Tok}
    (eA2 : PySem.W.nsIn K mainGlobals "BadText" = some (some (.ref cE2))) (eX2 : K.lookup cE2 = some (excClassObj nmE2 qE2 cE2 NE2 bsE2 bmE2 true snE2 subE2 abE2 colE2 ddE2 mE2_0 mE2_1 mE2_2 mE2_3 mE2_5 "ValueError.__new__")) (eR2 : PySem.HandSPX.refsVE bmE2 = true)
    (eI2 : PySem.W.findIn K (.ref cE2) "__init__" = some (some (.ref fE2))) (eB2 : errB K cE2 fE2 ["at"] = true)
    (eL2 : K.lookup fE2 = some ⟨ocE2, odE2, .func (PySem.W.ksFn "__init__" "BadText.__init__" (defArgs si_BadText) (defBody si_BadText) (defScope si_BadText) .none kVE2 dcE2 pmE2 anE2 (.ref daE2) ctE2 ccE2), slE2⟩)
    (eC2 : PySem.W.codeIn K (.ref daE2) "BadText.__init__" = true) (eD2 : K.lookup daE2 = some ⟨cclE2, cddE2, .fields vsE2, ccsE2⟩) (eV2 : vsE2[2]? = some (.str fiE2 tfE2)) (eF2 : ((P.main.file : Str) == fiE2) = true) (eE2 : K.lookup ccE2 = some ⟨clE2, cldE2, .cell (some (.ref cE2)), cslE2⟩)
    {cE8 fE8 NE8 daE8 ccE8 : Addr} {nmE8 qE8 fiE8 : Str} {bsE8 bmE8 subE8 : List Value} {snE8 : List Str} {abE8 : Bool} {colE8 : Option Bool} {ddE8 odE8 anE8 cddE8 cldE8 : Option Addr} {mE8_0 mE8_1 mE8_2 mE8_3 mE8_5 : Option Value} {ocE8 kVE8 dcE8 pmE8 ctE8 cclE8 clE8 : Value} {slE8 ccsE8 cslE8 : Array (Option Value)} {vsE8 : Array Value} {tfE8 : Tok}
    (eA8 : PySem.W.nsIn K mainGlobals "BadStep" = some (some (.ref cE8))) (eX8 : K.lookup cE8 = some (excClassObj nmE8 qE8 cE8 NE8 bsE8 bmE8 true snE8 subE8 abE8 colE8 ddE8 mE8_0 mE8_1 mE8_2 mE8_3 mE8_5 "ValueError.__new__")) (eR8 : PySem.HandSPX.refsVE bmE8 = true)
    (eI8 : PySem.W.findIn K (.ref cE8) "__init__" = some (some (.ref fE8))) (eB8 : errB K cE8 fE8 ["at"] = true)
    (eL8 : K.lookup fE8 = some ⟨ocE8, odE8, .func (PySem.W.ksFn "__init__" "BadStep.__init__" (defArgs si_BadStep) (defBody si_BadStep) (defScope si_BadStep) .none kVE8 dcE8 pmE8 anE8 (.ref daE8) ctE8 ccE8), slE8⟩)
    (eC8 : PySem.W.codeIn K (.ref daE8) "BadStep.__init__" = true) (eD8 : K.lookup daE8 = some ⟨cclE8, cddE8, .fields vsE8, ccsE8⟩) (eV8 : vsE8[2]? = some (.str fiE8 tfE8)) (eF8 : ((P.main.file : Str) == fiE8) = true) (eE8 : K.lookup ccE8 = some ⟨clE8, cldE8, .cell (some (.ref cE8)), cslE8⟩)
    {cE9 fE9 NE9 daE9 ccE9 : Addr} {nmE9 qE9 fiE9 : Str} {bsE9 bmE9 subE9 : List Value} {snE9 : List Str} {abE9 : Bool} {colE9 : Option Bool} {ddE9 odE9 anE9 cddE9 cldE9 : Option Addr} {mE9_0 mE9_1 mE9_2 mE9_3 mE9_5 : Option Value} {ocE9 kVE9 dcE9 pmE9 ctE9 cclE9 clE9 : Value} {slE9 ccsE9 cslE9 : Array (Option Value)} {vsE9 : Array Value} {tfE9 : Tok}
    (eA9 : PySem.W.nsIn K mainGlobals "UnknownName" = some (some (.ref cE9))) (eX9 : K.lookup cE9 = some (excClassObj nmE9 qE9 cE9 NE9 bsE9 bmE9 true snE9 subE9 abE9 colE9 ddE9 mE9_0 mE9_1 mE9_2 mE9_3 mE9_5 "ValueError.__new__")) (eR9 : PySem.HandSPX.refsVE bmE9 = true)
    (eI9 : PySem.W.findIn K (.ref cE9) "__init__" = some (some (.ref fE9))) (eB9 : errB K cE9 fE9 ["name"] = true)
    (eL9 : K.lookup fE9 = some ⟨ocE9, odE9, .func (PySem.W.ksFn "__init__" "UnknownName.__init__" (defArgs si_UnknownName) (defBody si_UnknownName) (defScope si_UnknownName) .none kVE9 dcE9 pmE9 anE9 (.ref daE9) ctE9 ccE9), slE9⟩)
    (eC9 : PySem.W.codeIn K (.ref daE9) "UnknownName.__init__" = true) (eD9 : K.lookup daE9 = some ⟨cclE9, cddE9, .fields vsE9, ccsE9⟩) (eV9 : vsE9[2]? = some (.str fiE9 tfE9)) (eF9 : ((P.main.file : Str) == fiE9) = true) (eE9 : K.lookup ccE9 = some ⟨clE9, cldE9, .cell (some (.ref cE9)), cslE9⟩)
    {cC20 : Addr} (kA20 : PySem.W.nsIn K mainGlobals "Chars" = some (some (.ref cC20))) (kB20 : clsB K cC20 ["endless", "primes"] = true)
    (kR20 : crB K cC20 = true)
    {cC24 : Addr} (kA24 : PySem.W.nsIn K mainGlobals "Many" = some (some (.ref cC24))) (kB24 : clsB K cC24 ["terms"] = true)
    (kR24 : crB K cC24 = true)
    {cC27 : Addr} (kA27 : PySem.W.nsIn K mainGlobals "Drawing" = some (some (.ref cC27))) (kB27 : clsB K cC27 ["kinds", "triples", "open_names"] = true)
    (eN : PySem.W.nsIn K mainGlobals "super" = some none) (eY : PySem.W.nsIn K cStatics "thirdparty.any" = some none) (eT : (P.main.scope.names.lookup ("super" : Str)).isSome = false)
    (eQ1 : exmB K [cE0, cE1, cE2, 0, 0, 0, 0, 0, cE8, cE9, 0, 0, 0, 0, 0, 0, 0, 0, 0, 0, cC20, 0, 0, 0, cC24, 0, 0, cC27] [0, 1, 2, 8, 9] 1 = true)
    (eQ2 : exmB K [cE0, cE1, cE2, 0, 0, 0, 0, 0, cE8, cE9, 0, 0, 0, 0, 0, 0, 0, 0, 0, 0, cC20, 0, 0, 0, cC24, 0, 0, cC27] [0, 1, 2, 8, 9] 2 = true)
    (eQ9 : exmB K [cE0, cE1, cE2, 0, 0, 0, 0, 0, cE8, cE9, 0, 0, 0, 0, 0, 0, 0, 0, 0, 0, cC20, 0, 0, 0, cC24, 0, 0, cC27] [0, 1, 2, 8, 9] 9 = true)
    (qX_24_o_27 : apartB [cE0, cE1, cE2, 0, 0, 0, 0, 0, cE8, cE9, 0, 0, 0, 0, 0, 0, 0, 0, 0, 0, cC20, 0, 0, 0, cC24, 0, 0, cC27] [24] [27] = true)
    {fa0 : Addr} {od0 an0 : Option Addr} {sl0 : Array (Option Value)} {oc0 kV0 dc0 pm0 cd0 ct0 : Value}
    (a0 : PySem.W.nsIn K mainGlobals "_law_cell" = some (some (.ref fa0))) (l0 : K.lookup fa0 = some ⟨oc0, od0, .func (PySem.W.fnOf "_law_cell" "_law_cell" (defArgs s__law_cell) (defBody s__law_cell) (defScope s__law_cell) .none kV0 dc0 pm0 an0 cd0 ct0), sl0⟩) (c0 : PySem.W.codeIn K cd0 "_law_cell" = true) (k0 : PySem.W.keepIn K (.ref fa0) = true)
    {fa1 : Addr} {od1 an1 : Option Addr} {sl1 : Array (Option Value)} {oc1 kV1 dc1 pm1 cd1 ct1 : Value}
    (a1 : PySem.W.nsIn K mainGlobals "_law_pool" = some (some (.ref fa1))) (l1 : K.lookup fa1 = some ⟨oc1, od1, .func (PySem.W.fnOf "_law_pool" "_law_pool" (defArgs s__law_pool) (defBody s__law_pool) (defScope s__law_pool) .none kV1 dc1 pm1 an1 cd1 ct1), sl1⟩) (c1 : PySem.W.codeIn K cd1 "_law_pool" = true) (k1 : PySem.W.keepIn K (.ref fa1) = true)
    {fa2 : Addr} {od2 an2 : Option Addr} {sl2 : Array (Option Value)} {oc2 kV2 dc2 pm2 cd2 ct2 : Value}
    (a2 : PySem.W.nsIn K mainGlobals "_law_take" = some (some (.ref fa2))) (l2 : K.lookup fa2 = some ⟨oc2, od2, .func (PySem.W.fnOf "_law_take" "_law_take" (defArgs s__law_take) (defBody s__law_take) (defScope s__law_take) .none kV2 dc2 pm2 an2 cd2 ct2), sl2⟩) (c2 : PySem.W.codeIn K cd2 "_law_take" = true) (k2 : PySem.W.keepIn K (.ref fa2) = true)
    {fa3 : Addr} {od3 an3 : Option Addr} {sl3 : Array (Option Value)} {oc3 kV3 dc3 pm3 cd3 ct3 : Value}
    (a3 : PySem.W.nsIn K mainGlobals "_law_picked" = some (some (.ref fa3))) (l3 : K.lookup fa3 = some ⟨oc3, od3, .func (PySem.W.fnOf "_law_picked" "_law_picked" (defArgs s__law_picked_l) (defBody s__law_picked_l) (defScope s__law_picked_l) .none kV3 dc3 pm3 an3 cd3 ct3), sl3⟩) (c3 : PySem.W.codeIn K cd3 "_law_picked" = true) (k3 : PySem.W.keepIn K (.ref fa3) = true)
    {fa4 : Addr} {od4 an4 : Option Addr} {sl4 : Array (Option Value)} {oc4 kV4 dc4 pm4 cd4 ct4 : Value}
    (a4 : PySem.W.nsIn K mainGlobals "_law_gathered" = some (some (.ref fa4))) (l4 : K.lookup fa4 = some ⟨oc4, od4, .func (PySem.W.fnOf "_law_gathered" "_law_gathered" (defArgs s__law_gathered) (defBody s__law_gathered) (defScope s__law_gathered) .none kV4 dc4 pm4 an4 cd4 ct4), sl4⟩) (c4 : PySem.W.codeIn K cd4 "_law_gathered" = true) (k4 : PySem.W.keepIn K (.ref fa4) = true)
    {fa5 : Addr} {od5 an5 : Option Addr} {sl5 : Array (Option Value)} {oc5 kV5 dc5 pm5 cd5 ct5 : Value}
    (a5 : PySem.W.nsIn K mainGlobals "_law_number_triple" = some (some (.ref fa5))) (l5 : K.lookup fa5 = some ⟨oc5, od5, .func (PySem.W.fnOf "_law_number_triple" "_law_number_triple" (defArgs s__law_number_triple) (defBody s__law_number_triple) (defScope s__law_number_triple) .none kV5 dc5 pm5 an5 cd5 ct5), sl5⟩) (c5 : PySem.W.codeIn K cd5 "_law_number_triple" = true) (k5 : PySem.W.keepIn K (.ref fa5) = true)
    {fa6 : Addr} {od6 an6 : Option Addr} {sl6 : Array (Option Value)} {oc6 kV6 dc6 pm6 cd6 ct6 : Value}
    (a6 : PySem.W.nsIn K mainGlobals "_law_plain" = some (some (.ref fa6))) (l6 : K.lookup fa6 = some ⟨oc6, od6, .func (PySem.W.fnOf "_law_plain" "_law_plain" (defArgs s__law_plain) (defBody s__law_plain) (defScope s__law_plain) .none kV6 dc6 pm6 an6 cd6 ct6), sl6⟩) (c6 : PySem.W.codeIn K cd6 "_law_plain" = true) (k6 : PySem.W.keepIn K (.ref fa6) = true)
    {fa7 : Addr} {od7 an7 : Option Addr} {sl7 : Array (Option Value)} {oc7 kV7 dc7 pm7 cd7 ct7 : Value}
    (a7 : PySem.W.nsIn K mainGlobals "_law_times" = some (some (.ref fa7))) (l7 : K.lookup fa7 = some ⟨oc7, od7, .func (PySem.W.fnOf "_law_times" "_law_times" (defArgs s__law_times) (defBody s__law_times) (defScope s__law_times) .none kV7 dc7 pm7 an7 cd7 ct7), sl7⟩) (c7 : PySem.W.codeIn K cd7 "_law_times" = true) (k7 : PySem.W.keepIn K (.ref fa7) = true)
    {fa8 : Addr} {od8 an8 : Option Addr} {sl8 : Array (Option Value)} {oc8 kV8 dc8 pm8 cd8 ct8 : Value}
    (a8 : PySem.W.nsIn K mainGlobals "_law_cross" = some (some (.ref fa8))) (l8 : K.lookup fa8 = some ⟨oc8, od8, .func (PySem.W.fnOf "_law_cross" "_law_cross" (defArgs s__law_cross) (defBody s__law_cross) (defScope s__law_cross) .none kV8 dc8 pm8 an8 cd8 ct8), sl8⟩) (c8 : PySem.W.codeIn K cd8 "_law_cross" = true) (k8 : PySem.W.keepIn K (.ref fa8) = true)
    {fa9 : Addr} {od9 an9 : Option Addr} {sl9 : Array (Option Value)} {oc9 kV9 dc9 pm9 cd9 ct9 : Value}
    (a9 : PySem.W.nsIn K mainGlobals "_law_made_row" = some (some (.ref fa9))) (l9 : K.lookup fa9 = some ⟨oc9, od9, .func (PySem.W.fnOf "_law_made_row" "_law_made_row" (defArgs s__law_made_row_l) (defBody s__law_made_row_l) (defScope s__law_made_row_l) .none kV9 dc9 pm9 an9 cd9 ct9), sl9⟩) (c9 : PySem.W.codeIn K cd9 "_law_made_row" = true) (k9 : PySem.W.keepIn K (.ref fa9) = true)
    {fa10 : Addr} {od10 an10 : Option Addr} {sl10 : Array (Option Value)} {oc10 kV10 dc10 pm10 cd10 ct10 : Value}
    (a10 : PySem.W.nsIn K mainGlobals "_law_largest" = some (some (.ref fa10))) (l10 : K.lookup fa10 = some ⟨oc10, od10, .func (PySem.W.fnOf "_law_largest" "_law_largest" (defArgs s__law_largest) (defBody s__law_largest) (defScope s__law_largest) .none kV10 dc10 pm10 an10 cd10 ct10), sl10⟩) (c10 : PySem.W.codeIn K cd10 "_law_largest" = true) (k10 : PySem.W.keepIn K (.ref fa10) = true)
    {fa11 : Addr} {od11 an11 : Option Addr} {sl11 : Array (Option Value)} {oc11 kV11 dc11 pm11 cd11 ct11 : Value}
    (a11 : PySem.W.nsIn K mainGlobals "_law_put" = some (some (.ref fa11))) (l11 : K.lookup fa11 = some ⟨oc11, od11, .func (PySem.W.fnOf "_law_put" "_law_put" (defArgs s__law_put) (defBody s__law_put) (defScope s__law_put) .none kV11 dc11 pm11 an11 cd11 ct11), sl11⟩) (c11 : PySem.W.codeIn K cd11 "_law_put" = true) (k11 : PySem.W.keepIn K (.ref fa11) = true)
    {fa12 : Addr} {od12 an12 : Option Addr} {sl12 : Array (Option Value)} {oc12 kV12 dc12 pm12 cd12 ct12 : Value}
    (a12 : PySem.W.nsIn K mainGlobals "_law_added" = some (some (.ref fa12))) (l12 : K.lookup fa12 = some ⟨oc12, od12, .func (PySem.W.fnOf "_law_added" "_law_added" (defArgs s__law_added) (defBody s__law_added) (defScope s__law_added) .none kV12 dc12 pm12 an12 cd12 ct12), sl12⟩) (c12 : PySem.W.codeIn K cd12 "_law_added" = true) (k12 : PySem.W.keepIn K (.ref fa12) = true)
    {fa13 : Addr} {od13 an13 : Option Addr} {sl13 : Array (Option Value)} {oc13 kV13 dc13 pm13 cd13 ct13 : Value}
    (a13 : PySem.W.nsIn K mainGlobals "_law_world" = some (some (.ref fa13))) (l13 : K.lookup fa13 = some ⟨oc13, od13, .func (PySem.W.fnOf "_law_world" "_law_world" (defArgs s__law_world) (defBody s__law_world) (defScope s__law_world) .none kV13 dc13 pm13 an13 cd13 ct13), sl13⟩) (c13 : PySem.W.codeIn K cd13 "_law_world" = true) (k13 : PySem.W.keepIn K (.ref fa13) = true)
    {fa14 : Addr} {od14 an14 : Option Addr} {sl14 : Array (Option Value)} {oc14 kV14 dc14 pm14 cd14 ct14 : Value}
    (a14 : PySem.W.nsIn K mainGlobals "is_name" = some (some (.ref fa14))) (l14 : K.lookup fa14 = some ⟨oc14, od14, .func (PySem.W.fnOf "is_name" "is_name" (defArgs s_is_name) (defBody s_is_name) (defScope s_is_name) .none kV14 dc14 pm14 an14 cd14 ct14), sl14⟩) (c14 : PySem.W.codeIn K cd14 "is_name" = true) (k14 : PySem.W.keepIn K (.ref fa14) = true)
    {fa15 : Addr} {od15 an15 : Option Addr} {sl15 : Array (Option Value)} {oc15 kV15 dc15 pm15 cd15 ct15 : Value}
    (a15 : PySem.W.nsIn K mainGlobals "is_integer" = some (some (.ref fa15))) (l15 : K.lookup fa15 = some ⟨oc15, od15, .func (PySem.W.fnOf "is_integer" "is_integer" (defArgs s_is_integer) (defBody s_is_integer) (defScope s_is_integer) .none kV15 dc15 pm15 an15 cd15 ct15), sl15⟩) (c15 : PySem.W.codeIn K cd15 "is_integer" = true) (k15 : PySem.W.keepIn K (.ref fa15) = true)
    {fa16 : Addr} {od16 an16 : Option Addr} {sl16 : Array (Option Value)} {oc16 kV16 dc16 pm16 cd16 ct16 : Value}
    (a16 : PySem.W.nsIn K mainGlobals "is_item" = some (some (.ref fa16))) (l16 : K.lookup fa16 = some ⟨oc16, od16, .func (PySem.W.fnOf "is_item" "is_item" (defArgs s_is_item) (defBody s_is_item) (defScope s_is_item) .none kV16 dc16 pm16 an16 cd16 ct16), sl16⟩) (c16 : PySem.W.codeIn K cd16 "is_item" = true) (k16 : PySem.W.keepIn K (.ref fa16) = true)
    {fa17 : Addr} {od17 an17 : Option Addr} {sl17 : Array (Option Value)} {oc17 kV17 dc17 pm17 cd17 ct17 : Value}
    (a17 : PySem.W.findIn K (.ref cC27) "fits" = some (some (.ref fa17))) (l17 : K.lookup fa17 = some ⟨oc17, od17, .func (PySem.W.fnOf "fits" "Drawing.fits" (defArgs s_Drawing_fits) (defBody s_Drawing_fits) (defScope s_Drawing_fits) .none kV17 dc17 pm17 an17 cd17 ct17), sl17⟩) (c17 : PySem.W.codeIn K cd17 "Drawing.fits" = true) (b17 : methB K fa17 = true)
    {fa18 : Addr} {od18 an18 : Option Addr} {sl18 : Array (Option Value)} {oc18 kV18 dc18 pm18 cd18 ct18 : Value}
    (a18 : PySem.W.nsIn K mainGlobals "gathered" = some (some (.ref fa18))) (l18 : K.lookup fa18 = some ⟨oc18, od18, .func (PySem.W.fnOf "gathered" "gathered" (defArgs s_gathered) (defBody s_gathered) (defScope s_gathered) .none kV18 dc18 pm18 an18 cd18 ct18), sl18⟩) (c18 : PySem.W.codeIn K cd18 "gathered" = true) (k18 : PySem.W.keepIn K (.ref fa18) = true)
    {fa19 : Addr} {od19 an19 : Option Addr} {sl19 : Array (Option Value)} {oc19 kV19 dc19 pm19 cd19 ct19 : Value}
    (a19 : PySem.W.findIn K (.ref cC24) "__init__" = some (some (.ref fa19))) (l19 : K.lookup fa19 = some ⟨oc19, od19, .func (PySem.W.fnOf "__init__" "Many.__init__" (defArgs s_Many___init__) (defBody s_Many___init__) (defScope s_Many___init__) .none kV19 dc19 pm19 an19 cd19 ct19), sl19⟩) (c19 : PySem.W.codeIn K cd19 "Many.__init__" = true) (b19 : methB K fa19 = true)
    {fa20 : Addr} {od20 an20 : Option Addr} {sl20 : Array (Option Value)} {oc20 kV20 dc20 pm20 cd20 ct20 : Value}
    {fp20 : Addr} {rs20 : List Value} (a20 : PySem.W.findCls K (.ref cC24) (.type "type") "number" = some (.get (.builtin "classmethod.__get__") (.ref fp20) .none (.ref cC24))) (r20 : PySem.W.recIn K fp20 "classmethod" = some (.ref fa20 :: rs20)) (l20 : K.lookup fa20 = some ⟨oc20, od20, .func (PySem.W.fnOf "number" "Many.number" (defArgs s_Many_number) (defBody s_Many_number) (defScope s_Many_number) .none kV20 dc20 pm20 an20 cd20 ct20), sl20⟩) (c20 : PySem.W.codeIn K cd20 "Many.number" = true) (b20 : methB K fa20 = true)
    {fa21 : Addr} {od21 an21 : Option Addr} {sl21 : Array (Option Value)} {oc21 kV21 dc21 pm21 cd21 ct21 : Value}
    {fp21 : Addr} {rs21 : List Value} (a21 : PySem.W.findCls K (.ref cC24) (.type "type") "unknown" = some (.get (.builtin "classmethod.__get__") (.ref fp21) .none (.ref cC24))) (r21 : PySem.W.recIn K fp21 "classmethod" = some (.ref fa21 :: rs21)) (l21 : K.lookup fa21 = some ⟨oc21, od21, .func (PySem.W.fnOf "unknown" "Many.unknown" (defArgs s_Many_unknown) (defBody s_Many_unknown) (defScope s_Many_unknown) .none kV21 dc21 pm21 an21 cd21 ct21), sl21⟩) (c21 : PySem.W.codeIn K cd21 "Many.unknown" = true) (b21 : methB K fa21 = true)
    {fa22 : Addr} {od22 an22 : Option Addr} {sl22 : Array (Option Value)} {oc22 kV22 dc22 pm22 cd22 ct22 : Value}
    (a22 : PySem.W.findIn K (.ref cC27) "new_unknown" = some (some (.ref fa22))) (l22 : K.lookup fa22 = some ⟨oc22, od22, .func (PySem.W.fnOf "new_unknown" "Drawing.new_unknown" (defArgs s_Drawing_new_unknown) (defBody s_Drawing_new_unknown) (defScope s_Drawing_new_unknown) .none kV22 dc22 pm22 an22 cd22 ct22), sl22⟩) (c22 : PySem.W.codeIn K cd22 "Drawing.new_unknown" = true) (b22 : methB K fa22 = true)
    {fa23 : Addr} {od23 an23 : Option Addr} {sl23 : Array (Option Value)} {oc23 kV23 dc23 pm23 cd23 ct23 : Value}
    (a23 : PySem.W.nsIn K mainGlobals "product_terms" = some (some (.ref fa23))) (l23 : K.lookup fa23 = some ⟨oc23, od23, .func (PySem.W.fnOf "product_terms" "product_terms" (defArgs s_product_terms) (defBody s_product_terms) (defScope s_product_terms) .none kV23 dc23 pm23 an23 cd23 ct23), sl23⟩) (c23 : PySem.W.codeIn K cd23 "product_terms" = true) (k23 : PySem.W.keepIn K (.ref fa23) = true)
    {fa24 : Addr} {od24 an24 : Option Addr} {sl24 : Array (Option Value)} {oc24 kV24 dc24 pm24 cd24 ct24 : Value}
    (a24 : PySem.W.findIn K (.ref cC24) "__mul__" = some (some (.ref fa24))) (l24 : K.lookup fa24 = some ⟨oc24, od24, .func (PySem.W.fnOf "__mul__" "Many.__mul__" (defArgs s_Many___mul__) (defBody s_Many___mul__) (defScope s_Many___mul__) .none kV24 dc24 pm24 an24 cd24 ct24), sl24⟩) (c24 : PySem.W.codeIn K cd24 "Many.__mul__" = true) (b24 : methB K fa24 = true)
    {fa25 : Addr} {od25 an25 : Option Addr} {sl25 : Array (Option Value)} {oc25 kV25 dc25 pm25 cd25 ct25 : Value}
    (a25 : PySem.W.findIn K (.ref cC24) "__neg__" = some (some (.ref fa25))) (l25 : K.lookup fa25 = some ⟨oc25, od25, .func (PySem.W.fnOf "__neg__" "Many.__neg__" (defArgs s_Many___neg__) (defBody s_Many___neg__) (defScope s_Many___neg__) .none kV25 dc25 pm25 an25 cd25 ct25), sl25⟩) (c25 : PySem.W.codeIn K cd25 "Many.__neg__" = true) (b25 : methB K fa25 = true)
    {fa26 : Addr} {od26 an26 : Option Addr} {sl26 : Array (Option Value)} {oc26 kV26 dc26 pm26 cd26 ct26 : Value}
    (a26 : PySem.W.findIn K (.ref cC24) "__add__" = some (some (.ref fa26))) (l26 : K.lookup fa26 = some ⟨oc26, od26, .func (PySem.W.fnOf "__add__" "Many.__add__" (defArgs s_Many___add__) (defBody s_Many___add__) (defScope s_Many___add__) .none kV26 dc26 pm26 an26 cd26 ct26), sl26⟩) (c26 : PySem.W.codeIn K cd26 "Many.__add__" = true) (b26 : methB K fa26 = true)
    {fa27 : Addr} {od27 an27 : Option Addr} {sl27 : Array (Option Value)} {oc27 kV27 dc27 pm27 cd27 ct27 : Value}
    (a27 : PySem.W.findIn K (.ref cC24) "__sub__" = some (some (.ref fa27))) (l27 : K.lookup fa27 = some ⟨oc27, od27, .func (PySem.W.fnOf "__sub__" "Many.__sub__" (defArgs s_Many___sub__) (defBody s_Many___sub__) (defScope s_Many___sub__) .none kV27 dc27 pm27 an27 cd27 ct27), sl27⟩) (c27 : PySem.W.codeIn K cd27 "Many.__sub__" = true) (b27 : methB K fa27 = true)
    {fa28 : Addr} {od28 an28 : Option Addr} {sl28 : Array (Option Value)} {oc28 kV28 dc28 pm28 cd28 ct28 : Value}
    (a28 : PySem.W.nsIn K mainGlobals "cross" = some (some (.ref fa28))) (l28 : K.lookup fa28 = some ⟨oc28, od28, .func (PySem.W.fnOf "cross" "cross" (defArgs s_cross) (defBody s_cross) (defScope s_cross) .none kV28 dc28 pm28 an28 cd28 ct28), sl28⟩) (c28 : PySem.W.codeIn K cd28 "cross" = true) (k28 : PySem.W.keepIn K (.ref fa28) = true)
    {fa29 : Addr} {od29 an29 : Option Addr} {sl29 : Array (Option Value)} {oc29 kV29 dc29 pm29 cd29 ct29 : Value}
    (a29 : PySem.W.findIn K (.ref cC27) "triple_made" = some (some (.ref fa29))) (l29 : K.lookup fa29 = some ⟨oc29, od29, .func (PySem.W.fnOf "triple_made" "Drawing.triple_made" (defArgs s_Drawing_triple_made) (defBody s_Drawing_triple_made) (defScope s_Drawing_triple_made) .none kV29 dc29 pm29 an29 cd29 ct29), sl29⟩) (c29 : PySem.W.codeIn K cd29 "Drawing.triple_made" = true) (b29 : methB K fa29 = true)
    {fa30 : Addr} {od30 an30 : Option Addr} {sl30 : Array (Option Value)} {oc30 kV30 dc30 pm30 cd30 ct30 : Value}
    (a30 : PySem.W.findIn K (.ref cC27) "add" = some (some (.ref fa30))) (l30 : K.lookup fa30 = some ⟨oc30, od30, .func (PySem.W.fnOf "add" "Drawing.add" (defArgs s_Drawing_add) (defBody s_Drawing_add) (defScope s_Drawing_add) .none kV30 dc30 pm30 an30 cd30 ct30), sl30⟩) (c30 : PySem.W.codeIn K cd30 "Drawing.add" = true) (b30 : methB K fa30 = true)
    {fa31 : Addr} {od31 an31 : Option Addr} {sl31 : Array (Option Value)} {oc31 kV31 dc31 pm31 cd31 ct31 : Value}
    (a31 : PySem.W.findIn K (.ref cC27) "__init__" = some (some (.ref fa31))) (l31 : K.lookup fa31 = some ⟨oc31, od31, .func (PySem.W.fnOf "__init__" "Drawing.__init__" (defArgs s_Drawing___init__) (defBody s_Drawing___init__) (defScope s_Drawing___init__) .none kV31 dc31 pm31 an31 cd31 ct31), sl31⟩) (c31 : PySem.W.codeIn K cd31 "Drawing.__init__" = true) (b31 : methB K fa31 = true)
    {fa32 : Addr} {od32 an32 : Option Addr} {sl32 : Array (Option Value)} {oc32 kV32 dc32 pm32 cd32 ct32 : Value}
    (a32 : PySem.W.nsIn K mainGlobals "_law_dot" = some (some (.ref fa32))) (l32 : K.lookup fa32 = some ⟨oc32, od32, .func (PySem.W.fnOf "_law_dot" "_law_dot" (defArgs s__law_dot) (defBody s__law_dot) (defScope s__law_dot) .none kV32 dc32 pm32 an32 cd32 ct32), sl32⟩) (c32 : PySem.W.codeIn K cd32 "_law_dot" = true) (k32 : PySem.W.keepIn K (.ref fa32) = true)
    {fa33 : Addr} {od33 an33 : Option Addr} {sl33 : Array (Option Value)} {oc33 kV33 dc33 pm33 cd33 ct33 : Value}
    (a33 : PySem.W.nsIn K mainGlobals "_law_sentence" = some (some (.ref fa33))) (l33 : K.lookup fa33 = some ⟨oc33, od33, .func (PySem.W.fnOf "_law_sentence" "_law_sentence" (defArgs s__law_sentence) (defBody s__law_sentence) (defScope s__law_sentence) .none kV33 dc33 pm33 an33 cd33 ct33), sl33⟩) (c33 : PySem.W.codeIn K cd33 "_law_sentence" = true) (k33 : PySem.W.keepIn K (.ref fa33) = true)
    {fa34 : Addr} {od34 an34 : Option Addr} {sl34 : Array (Option Value)} {oc34 kV34 dc34 pm34 cd34 ct34 : Value}
    (a34 : PySem.W.nsIn K mainGlobals "_law_changed" = some (some (.ref fa34))) (l34 : K.lookup fa34 = some ⟨oc34, od34, .func (PySem.W.fnOf "_law_changed" "_law_changed" (defArgs s__law_changed) (defBody s__law_changed) (defScope s__law_changed) .none kV34 dc34 pm34 an34 cd34 ct34), sl34⟩) (c34 : PySem.W.codeIn K cd34 "_law_changed" = true) (k34 : PySem.W.keepIn K (.ref fa34) = true)
    {fa35 : Addr} {od35 an35 : Option Addr} {sl35 : Array (Option Value)} {oc35 kV35 dc35 pm35 cd35 ct35 : Value}
    (a35 : PySem.W.nsIn K mainGlobals "_law_fault" = some (some (.ref fa35))) (l35 : K.lookup fa35 = some ⟨oc35, od35, .func (PySem.W.fnOf "_law_fault" "_law_fault" (defArgs s__law_fault) (defBody s__law_fault) (defScope s__law_fault) .none kV35 dc35 pm35 an35 cd35 ct35), sl35⟩) (c35 : PySem.W.codeIn K cd35 "_law_fault" = true) (k35 : PySem.W.keepIn K (.ref fa35) = true)
    {fa36 : Addr} {od36 an36 : Option Addr} {sl36 : Array (Option Value)} {oc36 kV36 dc36 pm36 cd36 ct36 : Value}
    (a36 : PySem.W.nsIn K mainGlobals "is_prime" = some (some (.ref fa36))) (l36 : K.lookup fa36 = some ⟨oc36, od36, .func (PySem.W.fnOf "is_prime" "is_prime" (defArgs s_is_prime) (defBody s_is_prime) (defScope s_is_prime) .none kV36 dc36 pm36 an36 cd36 ct36), sl36⟩) (c36 : PySem.W.codeIn K cd36 "is_prime" = true) (k36 : PySem.W.keepIn K (.ref fa36) = true)
    {fa37 : Addr} {od37 an37 : Option Addr} {sl37 : Array (Option Value)} {oc37 kV37 dc37 pm37 cd37 ct37 : Value}
    (a37 : PySem.W.findIn K (.ref cC20) "__init__" = some (some (.ref fa37))) (l37 : K.lookup fa37 = some ⟨oc37, od37, .func (PySem.W.fnOf "__init__" "Chars.__init__" (defArgs s_Chars___init__) (defBody s_Chars___init__) (defScope s_Chars___init__) .none kV37 dc37 pm37 an37 cd37 ct37), sl37⟩) (c37 : PySem.W.codeIn K cd37 "Chars.__init__" = true) (b37 : methB K fa37 = true)
    {fa38 : Addr} {od38 an38 : Option Addr} {sl38 : Array (Option Value)} {oc38 kV38 dc38 pm38 cd38 ct38 : Value}
    {fp38 : Addr} {rs38 : List Value} (a38 : PySem.W.findCls K (.ref cC20) (.type "type") "every" = some (.get (.builtin "classmethod.__get__") (.ref fp38) .none (.ref cC20))) (r38 : PySem.W.recIn K fp38 "classmethod" = some (.ref fa38 :: rs38)) (l38 : K.lookup fa38 = some ⟨oc38, od38, .func (PySem.W.fnOf "every" "Chars.every" (defArgs s_Chars_every) (defBody s_Chars_every) (defScope s_Chars_every) .none kV38 dc38 pm38 an38 cd38 ct38), sl38⟩) (c38 : PySem.W.codeIn K cd38 "Chars.every" = true) (b38 : methB K fa38 = true)
    {fa39 : Addr} {od39 an39 : Option Addr} {sl39 : Array (Option Value)} {oc39 kV39 dc39 pm39 cd39 ct39 : Value}
    (a39 : PySem.W.nsIn K mainGlobals "common" = some (some (.ref fa39))) (l39 : K.lookup fa39 = some ⟨oc39, od39, .func (PySem.W.fnOf "common" "common" (defArgs s_common) (defBody s_common) (defScope s_common) .none kV39 dc39 pm39 an39 cd39 ct39), sl39⟩) (c39 : PySem.W.codeIn K cd39 "common" = true) (k39 : PySem.W.keepIn K (.ref fa39) = true)
    {fa40 : Addr} {od40 an40 : Option Addr} {sl40 : Array (Option Value)} {oc40 kV40 dc40 pm40 cd40 ct40 : Value}
    (a40 : PySem.W.findIn K (.ref cC24) "content" = some (some (.ref fa40))) (l40 : K.lookup fa40 = some ⟨oc40, od40, .func (PySem.W.fnOf "content" "Many.content" (defArgs s_Many_content) (defBody s_Many_content) (defScope s_Many_content) .none kV40 dc40 pm40 an40 cd40 ct40), sl40⟩) (c40 : PySem.W.codeIn K cd40 "Many.content" = true) (b40 : methB K fa40 = true)
    {fa41 : Addr} {od41 an41 : Option Addr} {sl41 : Array (Option Value)} {oc41 kV41 dc41 pm41 cd41 ct41 : Value}
    (a41 : PySem.W.nsIn K mainGlobals "content_of" = some (some (.ref fa41))) (l41 : K.lookup fa41 = some ⟨oc41, od41, .func (PySem.W.fnOf "content_of" "content_of" (defArgs s_content_of) (defBody s_content_of) (defScope s_content_of) .none kV41 dc41 pm41 an41 cd41 ct41), sl41⟩) (c41 : PySem.W.codeIn K cd41 "content_of" = true) (k41 : PySem.W.keepIn K (.ref fa41) = true)
    {fa42 : Addr} {od42 an42 : Option Addr} {sl42 : Array (Option Value)} {oc42 kV42 dc42 pm42 cd42 ct42 : Value}
    (a42 : PySem.W.nsIn K mainGlobals "prime_divisors" = some (some (.ref fa42))) (l42 : K.lookup fa42 = some ⟨oc42, od42, .func (PySem.W.fnOf "prime_divisors" "prime_divisors" (defArgs s_prime_divisors) (defBody s_prime_divisors) (defScope s_prime_divisors) .none kV42 dc42 pm42 an42 cd42 ct42), sl42⟩) (c42 : PySem.W.codeIn K cd42 "prime_divisors" = true) (k42 : PySem.W.keepIn K (.ref fa42) = true)
    {fa43 : Addr} {od43 an43 : Option Addr} {sl43 : Array (Option Value)} {oc43 kV43 dc43 pm43 cd43 ct43 : Value}
    {fp43 : Addr} {rs43 : List Value} (a43 : PySem.W.findCls K (.ref cC20) (.type "type") "zero_of" = some (.get (.builtin "classmethod.__get__") (.ref fp43) .none (.ref cC20))) (r43 : PySem.W.recIn K fp43 "classmethod" = some (.ref fa43 :: rs43)) (l43 : K.lookup fa43 = some ⟨oc43, od43, .func (PySem.W.fnOf "zero_of" "Chars.zero_of" (defArgs s_Chars_zero_of) (defBody s_Chars_zero_of) (defScope s_Chars_zero_of) .none kV43 dc43 pm43 an43 cd43 ct43), sl43⟩) (c43 : PySem.W.codeIn K cd43 "Chars.zero_of" = true) (b43 : methB K fa43 = true)
    {fa44 : Addr} {od44 an44 : Option Addr} {sl44 : Array (Option Value)} {oc44 kV44 dc44 pm44 cd44 ct44 : Value}
    (a44 : PySem.W.findIn K (.ref cC20) "__invert__" = some (some (.ref fa44))) (l44 : K.lookup fa44 = some ⟨oc44, od44, .func (PySem.W.fnOf "__invert__" "Chars.__invert__" (defArgs s_Chars___invert__) (defBody s_Chars___invert__) (defScope s_Chars___invert__) .none kV44 dc44 pm44 an44 cd44 ct44), sl44⟩) (c44 : PySem.W.codeIn K cd44 "Chars.__invert__" = true) (b44 : methB K fa44 = true)
    {fa45 : Addr} {od45 an45 : Option Addr} {sl45 : Array (Option Value)} {oc45 kV45 dc45 pm45 cd45 ct45 : Value}
    {fp45 : Addr} {rs45 : List Value} (a45 : PySem.W.findCls K (.ref cC20) (.type "type") "unit_of" = some (.get (.builtin "classmethod.__get__") (.ref fp45) .none (.ref cC20))) (r45 : PySem.W.recIn K fp45 "classmethod" = some (.ref fa45 :: rs45)) (l45 : K.lookup fa45 = some ⟨oc45, od45, .func (PySem.W.fnOf "unit_of" "Chars.unit_of" (defArgs s_Chars_unit_of) (defBody s_Chars_unit_of) (defScope s_Chars_unit_of) .none kV45 dc45 pm45 an45 cd45 ct45), sl45⟩) (c45 : PySem.W.codeIn K cd45 "Chars.unit_of" = true) (b45 : methB K fa45 = true)
    {fa46 : Addr} {od46 an46 : Option Addr} {sl46 : Array (Option Value)} {oc46 kV46 dc46 pm46 cd46 ct46 : Value}
    (a46 : PySem.W.nsIn K mainGlobals "shared" = some (some (.ref fa46))) (l46 : K.lookup fa46 = some ⟨oc46, od46, .func (PySem.W.fnOf "shared" "shared" (defArgs s_shared) (defBody s_shared) (defScope s_shared) .none kV46 dc46 pm46 an46 cd46 ct46), sl46⟩) (c46 : PySem.W.codeIn K cd46 "shared" = true) (k46 : PySem.W.keepIn K (.ref fa46) = true)
    {fa47 : Addr} {od47 an47 : Option Addr} {sl47 : Array (Option Value)} {oc47 kV47 dc47 pm47 cd47 ct47 : Value}
    (a47 : PySem.W.findIn K (.ref cC20) "__and__" = some (some (.ref fa47))) (l47 : K.lookup fa47 = some ⟨oc47, od47, .func (PySem.W.fnOf "__and__" "Chars.__and__" (defArgs s_Chars___and__) (defBody s_Chars___and__) (defScope s_Chars___and__) .none kV47 dc47 pm47 an47 cd47 ct47), sl47⟩) (c47 : PySem.W.codeIn K cd47 "Chars.__and__" = true) (b47 : methB K fa47 = true)
    {fa48 : Addr} {od48 an48 : Option Addr} {sl48 : Array (Option Value)} {oc48 kV48 dc48 pm48 cd48 ct48 : Value}
    (a48 : PySem.W.findIn K (.ref cC27) "possible" = some (some (.ref fa48))) (l48 : K.lookup fa48 = some ⟨oc48, od48, .func (PySem.W.fnOf "possible" "Drawing.possible" (defArgs s_Drawing_possible) (defBody s_Drawing_possible) (defScope s_Drawing_possible) .none kV48 dc48 pm48 an48 cd48 ct48), sl48⟩) (c48 : PySem.W.codeIn K cd48 "Drawing.possible" = true) (b48 : methB K fa48 = true)
    {fa49 : Addr} {od49 an49 : Option Addr} {sl49 : Array (Option Value)} {oc49 kV49 dc49 pm49 cd49 ct49 : Value}
    (a49 : PySem.W.findIn K (.ref cC27) "wanted" = some (some (.ref fa49))) (l49 : K.lookup fa49 = some ⟨oc49, od49, .func (PySem.W.fnOf "wanted" "Drawing.wanted" (defArgs s_Drawing_wanted) (defBody s_Drawing_wanted) (defScope s_Drawing_wanted) .none kV49 dc49 pm49 an49 cd49 ct49), sl49⟩) (c49 : PySem.W.codeIn K cd49 "Drawing.wanted" = true) (b49 : methB K fa49 = true)
    {fa50 : Addr} {od50 an50 : Option Addr} {sl50 : Array (Option Value)} {oc50 kV50 dc50 pm50 cd50 ct50 : Value}
    (a50 : PySem.W.findIn K (.ref cC27) "understood" = some (some (.ref fa50))) (l50 : K.lookup fa50 = some ⟨oc50, od50, .func (PySem.W.fnOf "understood" "Drawing.understood" (defArgs s_Drawing_understood) (defBody s_Drawing_understood) (defScope s_Drawing_understood) .none kV50 dc50 pm50 an50 cd50 ct50), sl50⟩) (c50 : PySem.W.codeIn K cd50 "Drawing.understood" = true) (b50 : methB K fa50 = true)
    {fa51 : Addr} {od51 an51 : Option Addr} {sl51 : Array (Option Value)} {oc51 kV51 dc51 pm51 cd51 ct51 : Value}
    (a51 : PySem.W.nsIn K mainGlobals "dot" = some (some (.ref fa51))) (l51 : K.lookup fa51 = some ⟨oc51, od51, .func (PySem.W.fnOf "dot" "dot" (defArgs s_dot) (defBody s_dot) (defScope s_dot) .none kV51 dc51 pm51 an51 cd51 ct51), sl51⟩) (c51 : PySem.W.codeIn K cd51 "dot" = true) (k51 : PySem.W.keepIn K (.ref fa51) = true)
    {fa52 : Addr} {od52 an52 : Option Addr} {sl52 : Array (Option Value)} {oc52 kV52 dc52 pm52 cd52 ct52 : Value}
    (a52 : PySem.W.nsIn K mainGlobals "volume" = some (some (.ref fa52))) (l52 : K.lookup fa52 = some ⟨oc52, od52, .func (PySem.W.fnOf "volume" "volume" (defArgs s_volume) (defBody s_volume) (defScope s_volume) .none kV52 dc52 pm52 an52 cd52 ct52), sl52⟩) (c52 : PySem.W.codeIn K cd52 "volume" = true) (k52 : PySem.W.keepIn K (.ref fa52) = true)
    {fa53 : Addr} {od53 an53 : Option Addr} {sl53 : Array (Option Value)} {oc53 kV53 dc53 pm53 cd53 ct53 : Value}
    (a53 : PySem.W.findIn K (.ref cC27) "conditions" = some (some (.ref fa53))) (l53 : K.lookup fa53 = some ⟨oc53, od53, .func (PySem.W.fnOf "conditions" "Drawing.conditions" (defArgs s_Drawing_conditions) (defBody s_Drawing_conditions) (defScope s_Drawing_conditions) .none kV53 dc53 pm53 an53 cd53 ct53), sl53⟩) (c53 : PySem.W.codeIn K cd53 "Drawing.conditions" = true) (b53 : methB K fa53 = true)
    {fa54 : Addr} {od54 an54 : Option Addr} {sl54 : Array (Option Value)} {oc54 kV54 dc54 pm54 cd54 ct54 : Value}
    (a54 : PySem.W.findIn K (.ref cC24) "vanishing" = some (some (.ref fa54))) (l54 : K.lookup fa54 = some ⟨oc54, od54, .func (PySem.W.fnOf "vanishing" "Many.vanishing" (defArgs s_Many_vanishing) (defBody s_Many_vanishing) (defScope s_Many_vanishing) .none kV54 dc54 pm54 an54 cd54 ct54), sl54⟩) (c54 : PySem.W.codeIn K cd54 "Many.vanishing" = true) (b54 : methB K fa54 = true)
    {fa55 : Addr} {od55 an55 : Option Addr} {sl55 : Array (Option Value)} {oc55 kV55 dc55 pm55 cd55 ct55 : Value}
    (a55 : PySem.W.findIn K (.ref cC27) "always" = some (some (.ref fa55))) (l55 : K.lookup fa55 = some ⟨oc55, od55, .func (PySem.W.fnOf "always" "Drawing.always" (defArgs s_Drawing_always) (defBody s_Drawing_always) (defScope s_Drawing_always) .none kV55 dc55 pm55 an55 cd55 ct55), sl55⟩) (c55 : PySem.W.codeIn K cd55 "Drawing.always" = true) (b55 : methB K fa55 = true)
    {fa56 : Addr} {od56 an56 : Option Addr} {sl56 : Array (Option Value)} {oc56 kV56 dc56 pm56 cd56 ct56 : Value}
    (a56 : PySem.W.nsIn K mainGlobals "checked" = some (some (.ref fa56))) (l56 : K.lookup fa56 = some ⟨oc56, od56, .func (PySem.W.fnOf "checked" "checked" (defArgs s_checked) (defBody s_checked) (defScope s_checked) .none kV56 dc56 pm56 an56 cd56 ct56), sl56⟩) (c56 : PySem.W.codeIn K cd56 "checked" = true) (k56 : PySem.W.keepIn K (.ref fa56) = true)
    {fa57 : Addr} {od57 an57 : Option Addr} {sl57 : Array (Option Value)} {oc57 kV57 dc57 pm57 cd57 ct57 : Value}
    (a57 : PySem.W.findIn K (.ref cC24) "names" = some (some (.ref fa57))) (l57 : K.lookup fa57 = some ⟨oc57, od57, .func (PySem.W.fnOf "names" "Many.names" (defArgs s_Many_names) (defBody s_Many_names) (defScope s_Many_names) .none kV57 dc57 pm57 an57 cd57 ct57), sl57⟩) (c57 : PySem.W.codeIn K cd57 "Many.names" = true) (b57 : methB K fa57 = true)
    {fa58 : Addr} {od58 an58 : Option Addr} {sl58 : Array (Option Value)} {oc58 kV58 dc58 pm58 cd58 ct58 : Value}
    (a58 : PySem.W.findIn K (.ref cC24) "put" = some (some (.ref fa58))) (l58 : K.lookup fa58 = some ⟨oc58, od58, .func (PySem.W.fnOf "put" "Many.put" (defArgs s_Many_put) (defBody s_Many_put) (defScope s_Many_put) .none kV58 dc58 pm58 an58 cd58 ct58), sl58⟩) (c58 : PySem.W.codeIn K cd58 "Many.put" = true) (b58 : methB K fa58 = true)
    {fa59 : Addr} {od59 an59 : Option Addr} {sl59 : Array (Option Value)} {oc59 dc59 pm59 cd59 ct59 : Value}
    {kV59 : Value}
    (a59 : PySem.W.findIn K (.ref cC24) "value" = some (some (.ref fa59))) (l59 : K.lookup fa59 = some ⟨oc59, od59, .func (PySem.W.fnOf "value" "Many.value" (defArgs s_Many_value) (defBody s_Many_value) (defScope s_Many_value) .none kV59 dc59 pm59 an59 cd59 ct59), sl59⟩) (c59 : PySem.W.codeIn K cd59 "Many.value" = true) (b59 : methB K fa59 = true)
    {fa60 : Addr} {od60 an60 : Option Addr} {sl60 : Array (Option Value)} {oc60 kV60 dc60 pm60 cd60 ct60 : Value}
    (a60 : PySem.W.findIn K (.ref cC27) "allowed" = some (some (.ref fa60))) (l60 : K.lookup fa60 = some ⟨oc60, od60, .func (PySem.W.fnOf "allowed" "Drawing.allowed" (defArgs s_Drawing_allowed) (defBody s_Drawing_allowed) (defScope s_Drawing_allowed) .none kV60 dc60 pm60 an60 cd60 ct60), sl60⟩) (c60 : PySem.W.codeIn K cd60 "Drawing.allowed" = true) (b60 : methB K fa60 = true)
    {fa61 : Addr} {od61 an61 : Option Addr} {sl61 : Array (Option Value)} {oc61 dc61 pm61 cd61 ct61 : Value}
    {kV61 : Value}
    (a61 : PySem.W.findIn K (.ref cC27) "holds" = some (some (.ref fa61))) (l61 : K.lookup fa61 = some ⟨oc61, od61, .func (PySem.W.fnOf "holds" "Drawing.holds" (defArgs s_Drawing_holds) (defBody s_Drawing_holds) (defScope s_Drawing_holds) .none kV61 dc61 pm61 an61 cd61 ct61), sl61⟩) (c61 : PySem.W.codeIn K cd61 "Drawing.holds" = true) (b61 : methB K fa61 = true)
    {fa62 : Addr} {od62 an62 : Option Addr} {sl62 : Array (Option Value)} {oc62 kV62 dc62 pm62 cd62 ct62 : Value}
    (a62 : PySem.W.nsIn K mainGlobals "rows_of" = some (some (.ref fa62))) (l62 : K.lookup fa62 = some ⟨oc62, od62, .func (PySem.W.fnOf "rows_of" "rows_of" (defArgs s_rows_of__0) (defBody s_rows_of__0) (defScope s_rows_of__0) .none kV62 dc62 pm62 an62 cd62 ct62), sl62⟩) (c62 : PySem.W.codeIn K cd62 "rows_of" = true) (k62 : PySem.W.keepIn K (.ref fa62) = true)
    {fa63 : Addr} {od63 an63 : Option Addr} {sl63 : Array (Option Value)} {oc63 kV63 dc63 pm63 cd63 ct63 : Value}
    (a63 : PySem.W.nsIn K mainGlobals "rows_of" = some (some (.ref fa63))) (l63 : K.lookup fa63 = some ⟨oc63, od63, .func (PySem.W.fnOf "rows_of" "rows_of" (defArgs s_rows_of__1) (defBody s_rows_of__1) (defScope s_rows_of__1) .none kV63 dc63 pm63 an63 cd63 ct63), sl63⟩) (c63 : PySem.W.codeIn K cd63 "rows_of" = true) (k63 : PySem.W.keepIn K (.ref fa63) = true)
    {fa64 : Addr} {od64 an64 : Option Addr} {sl64 : Array (Option Value)} {oc64 kV64 dc64 pm64 cd64 ct64 : Value}
    (a64 : PySem.W.nsIn K mainGlobals "rows_of" = some (some (.ref fa64))) (l64 : K.lookup fa64 = some ⟨oc64, od64, .func (PySem.W.fnOf "rows_of" "rows_of" (defArgs s_rows_of__2) (defBody s_rows_of__2) (defScope s_rows_of__2) .none kV64 dc64 pm64 an64 cd64 ct64), sl64⟩) (c64 : PySem.W.codeIn K cd64 "rows_of" = true) (k64 : PySem.W.keepIn K (.ref fa64) = true)
    {fa65 : Addr} {od65 an65 : Option Addr} {sl65 : Array (Option Value)} {oc65 kV65 dc65 pm65 cd65 ct65 : Value}
    (a65 : PySem.W.nsIn K mainGlobals "rows_of" = some (some (.ref fa65))) (l65 : K.lookup fa65 = some ⟨oc65, od65, .func (PySem.W.fnOf "rows_of" "rows_of" (defArgs s_rows_of__3) (defBody s_rows_of__3) (defScope s_rows_of__3) .none kV65 dc65 pm65 an65 cd65 ct65), sl65⟩) (c65 : PySem.W.codeIn K cd65 "rows_of" = true) (k65 : PySem.W.keepIn K (.ref fa65) = true)
    {fa66 : Addr} {od66 an66 : Option Addr} {sl66 : Array (Option Value)} {oc66 kV66 dc66 pm66 cd66 ct66 : Value}
    (a66 : PySem.W.nsIn K mainGlobals "rows_of" = some (some (.ref fa66))) (l66 : K.lookup fa66 = some ⟨oc66, od66, .func (PySem.W.fnOf "rows_of" "rows_of" (defArgs s_rows_of__4) (defBody s_rows_of__4) (defScope s_rows_of__4) .none kV66 dc66 pm66 an66 cd66 ct66), sl66⟩) (c66 : PySem.W.codeIn K cd66 "rows_of" = true) (k66 : PySem.W.keepIn K (.ref fa66) = true)
    {fa67 : Addr} {od67 an67 : Option Addr} {sl67 : Array (Option Value)} {oc67 kV67 dc67 pm67 cd67 ct67 : Value}
    (a67 : PySem.W.nsIn K mainGlobals "rows_of" = some (some (.ref fa67))) (l67 : K.lookup fa67 = some ⟨oc67, od67, .func (PySem.W.fnOf "rows_of" "rows_of" (defArgs s_rows_of__5) (defBody s_rows_of__5) (defScope s_rows_of__5) .none kV67 dc67 pm67 an67 cd67 ct67), sl67⟩) (c67 : PySem.W.codeIn K cd67 "rows_of" = true) (k67 : PySem.W.keepIn K (.ref fa67) = true)
    {fa68 : Addr} {od68 an68 : Option Addr} {sl68 : Array (Option Value)} {oc68 dc68 pm68 cd68 ct68 : Value} {kD68 : Addr} {kt68 : Tok}
    (a68 : PySem.W.findIn K (.ref cC27) "breaking" = some (some (.ref fa68))) (l68 : K.lookup fa68 = some ⟨oc68, od68, .func (PySem.W.fnOf "breaking" "Drawing.breaking" (defArgs s_Drawing_breaking) (defBody s_Drawing_breaking) (defScope s_Drawing_breaking) .none (.ref kD68) dc68 pm68 an68 cd68 ct68), sl68⟩) (c68 : PySem.W.codeIn K cd68 "Drawing.breaking" = true) (b68 : methB K fa68 = true)
    (n68 : PySem.W.nsIn K kD68 "most" = some (some (.int 3 kt68)))
    {fa69 : Addr} {od69 an69 : Option Addr} {sl69 : Array (Option Value)} {oc69 kV69 dc69 pm69 cd69 ct69 : Value}
    (a69 : PySem.W.nsIn K mainGlobals "_law_asked" = some (some (.ref fa69))) (l69 : K.lookup fa69 = some ⟨oc69, od69, .func (PySem.W.fnOf "_law_asked" "_law_asked" (defArgs s__law_asked) (defBody s__law_asked) (defScope s__law_asked) .none kV69 dc69 pm69 an69 cd69 ct69), sl69⟩) (c69 : PySem.W.codeIn K cd69 "_law_asked" = true) (k69 : PySem.W.keepIn K (.ref fa69) = true)
    {fa70 : Addr} {od70 an70 : Option Addr} {sl70 : Array (Option Value)} {oc70 kV70 dc70 pm70 cd70 ct70 : Value}
    (a70 : PySem.W.nsIn K mainGlobals "law" = some (some (.ref fa70))) (l70 : K.lookup fa70 = some ⟨oc70, od70, .func (PySem.W.fnOf "law" "law" (defArgs s_law) (defBody s_law) (defScope s_law) .none kV70 dc70 pm70 an70 cd70 ct70), sl70⟩) (c70 : PySem.W.codeIn K cd70 "law" = true) (k70 : PySem.W.keepIn K (.ref fa70) = true)
    (z0 : PySem.W.nsIn K mainGlobals "len" = some none)
    (z1 : PySem.W.nsIn K mainGlobals "int" = some none)
    (z2 : PySem.W.nsIn K mainGlobals "range" = some none)
    (z3 : PySem.W.nsIn K mainGlobals "str" = some none)
    (z4 : PySem.W.nsIn K mainGlobals "sorted" = some none)
    (z5 : PySem.W.nsIn K mainGlobals "list" = some none)
    (z6 : PySem.W.nsIn K mainGlobals "max" = some none)
    (z7 : PySem.W.nsIn K mainGlobals "abs" = some none)
    (z8 : PySem.W.nsIn K mainGlobals "all" = some none)
    (z9 : PySem.W.nsIn K mainGlobals "tuple" = some none)
    (z10 : PySem.W.nsIn K mainGlobals "zip" = some none)
    (z11 : PySem.W.nsIn K mainGlobals "enumerate" = some none)
    (z12 : PySem.W.nsIn K mainGlobals "set" = some none)
    (z13 : PySem.W.nsIn K mainGlobals "dict" = some none)
    {t_MOST_LETTERS : Tok} (gg_MOST_LETTERS : PySem.W.nsIn K mainGlobals "MOST_LETTERS" = some (some (.int 8 t_MOST_LETTERS)))
    {t_LETTERS : Tok} (gg_LETTERS : PySem.W.nsIn K mainGlobals "LETTERS" = some (some (.str "abcdefghijklmnopqrstuvwxyzABCDEFGHIJKLMNOPQRSTUVWXYZ" t_LETTERS)))
    {t_MOST_DIGITS_matrices : Tok} (gg_MOST_DIGITS_matrices : PySem.W.nsIn K mainGlobals "MOST_DIGITS_matrices" = some (some (.int 30 t_MOST_DIGITS_matrices)))
    {t_MOST_ITEM : Tok} (gg_MOST_ITEM : PySem.W.nsIn K mainGlobals "MOST_ITEM" = some (some (.int 1000 t_MOST_ITEM)))
    {t_SAME : Tok} (gg_SAME : PySem.W.nsIn K mainGlobals "SAME" = some (some (.str "same" t_SAME)))
    {t_POINT : Tok} (gg_POINT : PySem.W.nsIn K mainGlobals "POINT" = some (some (.str "point" t_POINT)))
    {gT_SHAPES : Addr} {gE_SHAPES : Array DictEntry} {gn_SHAPES : Nat} (ga_SHAPES : PySem.W.nsIn K mainGlobals "SHAPES" = some (some (.ref gT_SHAPES))) (gl_SHAPES : K.lookup gT_SHAPES = some ⟨.type "dict", none, .dict gE_SHAPES gn_SHAPES, #[]⟩) (gk_SHAPES : PySem.W.KeysLit w.params gE_SHAPES.toList) (gm_SHAPES : (gT_SHAPES == sysModules) = false) (gx_SHAPES : tabB K gE_SHAPES.toList [("point", some "point", ["number", "number", "number"]), ("free", some "point", []), ("join", some "line", ["point", "point"]), ("meet", some "point", ["line", "line"]), ("on", some "point", ["point", "point"])] = true)
    {gT_SENTENCES : Addr} {gE_SENTENCES : Array DictEntry} {gn_SENTENCES : Nat} (ga_SENTENCES : PySem.W.nsIn K mainGlobals "SENTENCES" = some (some (.ref gT_SENTENCES))) (gl_SENTENCES : K.lookup gT_SENTENCES = some ⟨.type "dict", none, .dict gE_SENTENCES gn_SENTENCES, #[]⟩) (gk_SENTENCES : PySem.W.KeysLit w.params gE_SENTENCES.toList) (gm_SENTENCES : (gT_SENTENCES == sysModules) = false) (gx_SENTENCES : tabB K gE_SENTENCES.toList [("line", none, ["point", "point", "point"]), ("through", none, ["line", "line", "line"]), ("on", none, ["point", "line"])] = true) :
    ∃ fd : FuncData, (∀ (s : Shared) (v : Value), BindsTo s fd ⟨[v], []⟩ [("_law_script", v)]) ∧ ∀ base : Heap, K.In base → base.Ns mainGlobals mg → FnOk P w K mg base (L2.CX P w) 15 fa fd ["_law_script"] (spLaw K m_law) := by
  have e := hfa.symm.trans (PySem.W.mg_of X G a70)
  cases e
  let C : Nat → Addr := fun i => ([cE0, cE1, cE2, 0, 0, 0, 0, 0, cE8, cE9, 0, 0, 0, 0, 0, 0, 0, 0, 0, 0, cC20, 0, 0, 0, cC24, 0, 0, cC27] : List Addr).getD i 0
  have G0 : mg "BadNumber" = some (.ref cE0) := PySem.W.mg_of X G eA0
  have F0 := errB_ok eB0
  have O0 : OexC K cE0 := ErrF.oex (C := C) (c := 0) F0 eX0 eR0
  have U0 : SupC P K cE0 := ErrF.sup (C := C) (c := 0) F0 O0 eN eY eT
  have B0 : Binds K (PySem.W.ksFn "__init__" "BadNumber.__init__" (defArgs si_BadNumber) (defBody si_BadNumber) (defScope si_BadNumber) .none kVE0 dcE0 pmE0 anE0 (.ref daE0) ctE0 ccE0) ["self", "n"] [] := Binds.all fun us hl => match us, hl with | [_, _], _ => rfl
  have G1 : mg "BadCharacteristic" = some (.ref cE1) := PySem.W.mg_of X G eA1
  have F1 := errB_ok eB1
  have O1 : OexC K cE1 := ErrF.oex (C := C) (c := 1) F1 eX1 eR1
  have U1 : SupC P K cE1 := ErrF.sup (C := C) (c := 1) F1 O1 eN eY eT
  have B1 : Binds K (PySem.W.ksFn "__init__" "BadCharacteristic.__init__" (defArgs si_BadCharacteristic) (defBody si_BadCharacteristic) (defScope si_BadCharacteristic) .none kVE1 dcE1 pmE1 anE1 (.ref daE1) ctE1 ccE1) ["self", "p"] [] := Binds.all fun us hl => match us, hl with | [_, _], _ => rfl
  have Q_BadCharacteristic : Caught K mg C [0, 1, 2, 8, 9] 1 "BadCharacteristic" ["p"] := ⟨exmB_ok eQ1, G1, F1.xf, F1.no⟩
  have G2 : mg "BadText" = some (.ref cE2) := PySem.W.mg_of X G eA2
  have F2 := errB_ok eB2
  have O2 : OexC K cE2 := ErrF.oex (C := C) (c := 2) F2 eX2 eR2
  have U2 : SupC P K cE2 := ErrF.sup (C := C) (c := 2) F2 O2 eN eY eT
  have B2 : Binds K (PySem.W.ksFn "__init__" "BadText.__init__" (defArgs si_BadText) (defBody si_BadText) (defScope si_BadText) .none kVE2 dcE2 pmE2 anE2 (.ref daE2) ctE2 ccE2) ["self", "at"] [] := Binds.all fun us hl => match us, hl with | [_, _], _ => rfl
  have Q_BadText : Caught K mg C [0, 1, 2, 8, 9] 2 "BadText" ["at"] := ⟨exmB_ok eQ2, G2, F2.xf, F2.no⟩
  have G8 : mg "BadStep" = some (.ref cE8) := PySem.W.mg_of X G eA8
  have F8 := errB_ok eB8
  have O8 : OexC K cE8 := ErrF.oex (C := C) (c := 8) F8 eX8 eR8
  have U8 : SupC P K cE8 := ErrF.sup (C := C) (c := 8) F8 O8 eN eY eT
  have B8 : Binds K (PySem.W.ksFn "__init__" "BadStep.__init__" (defArgs si_BadStep) (defBody si_BadStep) (defScope si_BadStep) .none kVE8 dcE8 pmE8 anE8 (.ref daE8) ctE8 ccE8) ["self", "at"] [] := Binds.all fun us hl => match us, hl with | [_, _], _ => rfl
  have G9 : mg "UnknownName" = some (.ref cE9) := PySem.W.mg_of X G eA9
  have F9 := errB_ok eB9
  have O9 : OexC K cE9 := ErrF.oex (C := C) (c := 9) F9 eX9 eR9
  have U9 : SupC P K cE9 := ErrF.sup (C := C) (c := 9) F9 O9 eN eY eT
  have B9 : Binds K (PySem.W.ksFn "__init__" "UnknownName.__init__" (defArgs si_UnknownName) (defBody si_UnknownName) (defScope si_UnknownName) .none kVE9 dcE9 pmE9 anE9 (.ref daE9) ctE9 ccE9) ["self", "name"] [] := Binds.all fun us hl => match us, hl with | [_, _], _ => rfl
  have Q_UnknownName : Caught K mg C [0, 1, 2, 8, 9] 9 "UnknownName" ["name"] := ⟨exmB_ok eQ9, G9, F9.xf, F9.no⟩
  have K_Chars : CF K mg C 20 "Chars" ["endless", "primes"] := clsB_ok (C := C) (c := 20) (PySem.W.mg_of X G kA20) kB20
  have K_Many : CF K mg C 24 "Many" ["terms"] := clsB_ok (C := C) (c := 24) (PySem.W.mg_of X G kA24) kB24
  have K_Drawing : CF K mg C 27 "Drawing" ["kinds", "triples", "open_names"] := clsB_ok (C := C) (c := 27) (PySem.W.mg_of X G kA27) kB27
  have X_24_o_27 : Apart C [24] [27] := apartB_ok qX_24_o_27
  have A0 : At K mg "_law_cell" s__law_cell ["_law_script", "_law_k"] := at_mk X G a0 l0 c0 k0 fun _ _ _ _ _ _ us hl => match us, hl with | [_, _], _ => rfl
  have A1 : At K mg "_law_pool" s__law_pool ["_law_cell_here"] := at_mk X G a1 l1 c1 k1 fun _ _ _ _ _ _ us hl => match us, hl with | [_], _ => rfl
  have A2 : At K mg "_law_take" s__law_take ["_law_pool_here", "_law_limit"] := at_mk X G a2 l2 c2 k2 fun _ _ _ _ _ _ us hl => match us, hl with | [_, _], _ => rfl
  have A3 : At K mg "_law_picked" s__law_picked_l ["_law_world_here", "_law_pool_here", "_law_fewer"] := at_mk X G a3 l3 c3 k3 fun _ _ _ _ _ _ us hl => match us, hl with | [_, _, _], _ => rfl
  have A4 : At K mg "_law_gathered" s__law_gathered ["_law_terms"] := at_mk X G a4 l4 c4 k4 fun _ _ _ _ _ _ us hl => match us, hl with | [_], _ => rfl
  have A5 : At K mg "_law_number_triple" s__law_number_triple ["_law_numbers"] := at_mk X G a5 l5 c5 k5 fun _ _ _ _ _ _ us hl => match us, hl with | [_], _ => rfl
  have A6 : At K mg "_law_plain" s__law_plain ["_law_row"] := at_mk X G a6 l6 c6 k6 fun _ _ _ _ _ _ us hl => match us, hl with | [_], _ => rfl
  have A7 : At K mg "_law_times" s__law_times ["_law_first", "_law_second", "_law_factor"] := at_mk X G a7 l7 c7 k7 fun _ _ _ _ _ _ us hl => match us, hl with | [_, _, _], _ => rfl
  have A8 : At K mg "_law_cross" s__law_cross ["_law_one", "_law_two"] := at_mk X G a8 l8 c8 k8 fun _ _ _ _ _ _ us hl => match us, hl with | [_, _], _ => rfl
  have A9 : At K mg "_law_made_row" s__law_made_row_l ["_law_world_here", "_law_words"] := at_mk X G a9 l9 c9 k9 fun _ _ _ _ _ _ us hl => match us, hl with | [_, _], _ => rfl
  have A10 : At K mg "_law_largest" s__law_largest ["_law_triple"] := at_mk X G a10 l10 c10 k10 fun _ _ _ _ _ _ us hl => match us, hl with | [_], _ => rfl
  have A11 : At K mg "_law_put" s__law_put ["_law_world_here", "_law_words"] := at_mk X G a11 l11 c11 k11 fun _ _ _ _ _ _ us hl => match us, hl with | [_, _], _ => rfl
  have A12 : At K mg "_law_added" s__law_added ["_law_world_here", "_law_pool_here", "_law_fewer"] := at_mk X G a12 l12 c12 k12 fun _ _ _ _ _ _ us hl => match us, hl with | [_, _, _], _ => rfl
  have A13 : At K mg "_law_world" s__law_world ["_law_pool_here", "_law_many", "_law_fewer"] := at_mk X G a13 l13 c13 k13 fun _ _ _ _ _ _ us hl => match us, hl with | [_, _, _], _ => rfl
  have A14 : At K mg "is_name" s_is_name ["word"] := at_mk X G a14 l14 c14 k14 fun _ _ _ _ _ _ us hl => match us, hl with | [_], _ => rfl
  have A15 : At K mg "is_integer" s_is_integer ["word"] := at_mk X G a15 l15 c15 k15 fun _ _ _ _ _ _ us hl => match us, hl with | [_], _ => rfl
  have A16 : At K mg "is_item" s_is_item ["word"] := at_mk X G a16 l16 c16 k16 fun _ _ _ _ _ _ us hl => match us, hl with | [_], _ => rfl
  have A17 : Am K C 27 "fits" "Drawing.fits" s_Drawing_fits ["self", "word", "kind"] := am_mk (C := C) (c := 27) a17 l17 c17 b17 fun _ _ _ _ _ _ us hl => match us, hl with | [_, _, _], _ => rfl
  have A18 : At K mg "gathered" s_gathered ["terms"] := at_mk X G a18 l18 c18 k18 fun _ _ _ _ _ _ us hl => match us, hl with | [_], _ => rfl
  have A19 : Am K C 24 "__init__" "Many.__init__" s_Many___init__ ["self", "terms"] := am_mk (C := C) (c := 24) a19 l19 c19 b19 fun _ _ _ _ _ _ us hl => match us, hl with | [_, _], _ => rfl
  have A20 : Ac K C 24 "number" "Many.number" s_Many_number ["cls", "n"] := ac_mk (C := C) (c := 24) kR24 a20 r20 l20 c20 b20 fun _ _ _ _ _ _ us hl => match us, hl with | [_, _], _ => rfl
  have A21 : Ac K C 24 "unknown" "Many.unknown" s_Many_unknown ["cls", "name"] := ac_mk (C := C) (c := 24) kR24 a21 r21 l21 c21 b21 fun _ _ _ _ _ _ us hl => match us, hl with | [_, _], _ => rfl
  have A22 : Am K C 27 "new_unknown" "Drawing.new_unknown" s_Drawing_new_unknown ["self", "name"] := am_mk (C := C) (c := 27) a22 l22 c22 b22 fun _ _ _ _ _ _ us hl => match us, hl with | [_, _], _ => rfl
  have A23 : At K mg "product_terms" s_product_terms ["first", "second"] := at_mk X G a23 l23 c23 k23 fun _ _ _ _ _ _ us hl => match us, hl with | [_, _], _ => rfl
  have A24 : Am K C 24 "__mul__" "Many.__mul__" s_Many___mul__ ["self", "other"] := am_mk (C := C) (c := 24) a24 l24 c24 b24 fun _ _ _ _ _ _ us hl => match us, hl with | [_, _], _ => rfl
  have A25 : Am K C 24 "__neg__" "Many.__neg__" s_Many___neg__ ["self"] := am_mk (C := C) (c := 24) a25 l25 c25 b25 fun _ _ _ _ _ _ us hl => match us, hl with | [_], _ => rfl
  have A26 : Am K C 24 "__add__" "Many.__add__" s_Many___add__ ["self", "other"] := am_mk (C := C) (c := 24) a26 l26 c26 b26 fun _ _ _ _ _ _ us hl => match us, hl with | [_, _], _ => rfl
  have A27 : Am K C 24 "__sub__" "Many.__sub__" s_Many___sub__ ["self", "other"] := am_mk (C := C) (c := 24) a27 l27 c27 b27 fun _ _ _ _ _ _ us hl => match us, hl with | [_, _], _ => rfl
  have A28 : At K mg "cross" s_cross ["first", "second"] := at_mk X G a28 l28 c28 k28 fun _ _ _ _ _ _ us hl => match us, hl with | [_, _], _ => rfl
  have A29 : Am K C 27 "triple_made" "Drawing.triple_made" s_Drawing_triple_made ["self", "deed", "name", "rest"] := am_mk (C := C) (c := 27) a29 l29 c29 b29 fun _ _ _ _ _ _ us hl => match us, hl with | [_, _, _, _], _ => rfl
  have A30 : Am K C 27 "add" "Drawing.add" s_Drawing_add ["self", "at", "words"] := am_mk (C := C) (c := 27) a30 l30 c30 b30 fun _ _ _ _ _ _ us hl => match us, hl with | [_, _, _], _ => rfl
  have A31 : Am K C 27 "__init__" "Drawing.__init__" s_Drawing___init__ ["self", "text"] := am_mk (C := C) (c := 27) a31 l31 c31 b31 fun _ _ _ _ _ _ us hl => match us, hl with | [_, _], _ => rfl
  have A32 : At K mg "_law_dot" s__law_dot ["_law_one", "_law_two"] := at_mk X G a32 l32 c32 k32 fun _ _ _ _ _ _ us hl => match us, hl with | [_, _], _ => rfl
  have A33 : At K mg "_law_sentence" s__law_sentence ["_law_world_here", "_law_pool_here"] := at_mk X G a33 l33 c33 k33 fun _ _ _ _ _ _ us hl => match us, hl with | [_, _], _ => rfl
  have A34 : At K mg "_law_changed" s__law_changed ["_law_pool_here", "_law_words", "_law_names"] := at_mk X G a34 l34 c34 k34 fun _ _ _ _ _ _ us hl => match us, hl with | [_, _, _], _ => rfl
  have A35 : At K mg "_law_fault" s__law_fault ["_law_world_here", "_law_words"] := at_mk X G a35 l35 c35 k35 fun _ _ _ _ _ _ us hl => match us, hl with | [_, _], _ => rfl
  have A36 : At K mg "is_prime" s_is_prime ["n"] := at_mk X G a36 l36 c36 k36 fun _ _ _ _ _ _ us hl => match us, hl with | [_], _ => rfl
  have A37 : Am K C 20 "__init__" "Chars.__init__" s_Chars___init__ ["self", "endless", "primes"] := am_mk (C := C) (c := 20) a37 l37 c37 b37 fun _ _ _ _ _ _ us hl => match us, hl with | [_, _, _], _ => rfl
  have A38 : Ac K C 20 "every" "Chars.every" s_Chars_every ["cls"] := ac_mk (C := C) (c := 20) kR20 a38 r38 l38 c38 b38 fun _ _ _ _ _ _ us hl => match us, hl with | [_], _ => rfl
  have A39 : At K mg "common" s_common ["a", "b"] := at_mk X G a39 l39 c39 k39 fun _ _ _ _ _ _ us hl => match us, hl with | [_, _], _ => rfl
  have A40 : Am K C 24 "content" "Many.content" s_Many_content ["self"] := am_mk (C := C) (c := 24) a40 l40 c40 b40 fun _ _ _ _ _ _ us hl => match us, hl with | [_], _ => rfl
  have A41 : At K mg "content_of" s_content_of ["triple"] := at_mk X G a41 l41 c41 k41 fun _ _ _ _ _ _ us hl => match us, hl with | [_], _ => rfl
  have A42 : At K mg "prime_divisors" s_prime_divisors ["n"] := at_mk X G a42 l42 c42 k42 fun _ _ _ _ _ _ us hl => match us, hl with | [_], _ => rfl
  have A43 : Ac K C 20 "zero_of" "Chars.zero_of" s_Chars_zero_of ["cls", "n"] := ac_mk (C := C) (c := 20) kR20 a43 r43 l43 c43 b43 fun _ _ _ _ _ _ us hl => match us, hl with | [_, _], _ => rfl
  have A44 : Am K C 20 "__invert__" "Chars.__invert__" s_Chars___invert__ ["self"] := am_mk (C := C) (c := 20) a44 l44 c44 b44 fun _ _ _ _ _ _ us hl => match us, hl with | [_], _ => rfl
  have A45 : Ac K C 20 "unit_of" "Chars.unit_of" s_Chars_unit_of ["cls", "n"] := ac_mk (C := C) (c := 20) kR20 a45 r45 l45 c45 b45 fun _ _ _ _ _ _ us hl => match us, hl with | [_, _], _ => rfl
  have A46 : At K mg "shared" s_shared ["first", "second"] := at_mk X G a46 l46 c46 k46 fun _ _ _ _ _ _ us hl => match us, hl with | [_, _], _ => rfl
  have A47 : Am K C 20 "__and__" "Chars.__and__" s_Chars___and__ ["self", "other"] := am_mk (C := C) (c := 20) a47 l47 c47 b47 fun _ _ _ _ _ _ us hl => match us, hl with | [_, _], _ => rfl
  have A48 : Am K C 27 "possible" "Drawing.possible" s_Drawing_possible ["self"] := am_mk (C := C) (c := 27) a48 l48 c48 b48 fun _ _ _ _ _ _ us hl => match us, hl with | [_], _ => rfl
  have A49 : Am K C 27 "wanted" "Drawing.wanted" s_Drawing_wanted ["self", "words"] := am_mk (C := C) (c := 27) a49 l49 c49 b49 fun _ _ _ _ _ _ us hl => match us, hl with | [_, _], _ => rfl
  have A50 : Am K C 27 "understood" "Drawing.understood" s_Drawing_understood ["self", "sentence"] := am_mk (C := C) (c := 27) a50 l50 c50 b50 fun _ _ _ _ _ _ us hl => match us, hl with | [_, _], _ => rfl
  have A51 : At K mg "dot" s_dot ["first", "second"] := at_mk X G a51 l51 c51 k51 fun _ _ _ _ _ _ us hl => match us, hl with | [_, _], _ => rfl
  have A52 : At K mg "volume" s_volume ["first", "second", "third"] := at_mk X G a52 l52 c52 k52 fun _ _ _ _ _ _ us hl => match us, hl with | [_, _, _], _ => rfl
  have A53 : Am K C 27 "conditions" "Drawing.conditions" s_Drawing_conditions ["self", "sentence"] := am_mk (C := C) (c := 27) a53 l53 c53 b53 fun _ _ _ _ _ _ us hl => match us, hl with | [_, _], _ => rfl
  have A54 : Am K C 24 "vanishing" "Many.vanishing" s_Many_vanishing ["self"] := am_mk (C := C) (c := 24) a54 l54 c54 b54 fun _ _ _ _ _ _ us hl => match us, hl with | [_], _ => rfl
  have A55 : Am K C 27 "always" "Drawing.always" s_Drawing_always ["self", "sentence"] := am_mk (C := C) (c := 27) a55 l55 c55 b55 fun _ _ _ _ _ _ us hl => match us, hl with | [_, _], _ => rfl
  have A56 : At K mg "checked" s_checked ["p"] := at_mk X G a56 l56 c56 k56 fun _ _ _ _ _ _ us hl => match us, hl with | [_], _ => rfl
  have A57 : Am K C 24 "names" "Many.names" s_Many_names ["self"] := am_mk (C := C) (c := 24) a57 l57 c57 b57 fun _ _ _ _ _ _ us hl => match us, hl with | [_], _ => rfl
  have A58 : Am K C 24 "put" "Many.put" s_Many_put ["self", "values"] := am_mk (C := C) (c := 24) a58 l58 c58 b58 fun _ _ _ _ _ _ us hl => match us, hl with | [_, _], _ => rfl
  have A59 : AmK K C 24 "value" "Many.value" s_Many_value ["self", "values", "p"] "p" := amK_mk (C := C) (c := 24) (n := 2) rfl a59 l59 c59 b59 (fun _ _ _ _ _ _ us ws l1 l2 => match us, l1, ws, l2 with | [_, _], _, [_], _ => rfl)
  have A60 : Am K C 27 "allowed" "Drawing.allowed" s_Drawing_allowed ["self", "choice", "p"] := am_mk (C := C) (c := 27) a60 l60 c60 b60 fun _ _ _ _ _ _ us hl => match us, hl with | [_, _, _], _ => rfl
  have A61 : AmK K C 27 "holds" "Drawing.holds" s_Drawing_holds ["self", "sentence", "choice", "p"] "p" := amK_mk (C := C) (c := 27) (n := 3) rfl a61 l61 c61 b61 (fun _ _ _ _ _ _ us ws l1 l2 => match us, l1, ws, l2 with | [_, _, _], _, [_], _ => rfl)
  have A62 : At K mg "rows_of" s_rows_of__0 ["most", "length"] := at_mk X G a62 l62 c62 k62 fun _ _ _ _ _ _ us hl => match us, hl with | [_, _], _ => rfl
  have A63 : At K mg "rows_of" s_rows_of__1 ["most", "length"] := at_mk X G a63 l63 c63 k63 fun _ _ _ _ _ _ us hl => match us, hl with | [_, _], _ => rfl
  have A64 : At K mg "rows_of" s_rows_of__2 ["most", "length"] := at_mk X G a64 l64 c64 k64 fun _ _ _ _ _ _ us hl => match us, hl with | [_, _], _ => rfl
  have A65 : At K mg "rows_of" s_rows_of__3 ["most", "length"] := at_mk X G a65 l65 c65 k65 fun _ _ _ _ _ _ us hl => match us, hl with | [_, _], _ => rfl
  have A66 : At K mg "rows_of" s_rows_of__4 ["most", "length"] := at_mk X G a66 l66 c66 k66 fun _ _ _ _ _ _ us hl => match us, hl with | [_, _], _ => rfl
  have A67 : At K mg "rows_of" s_rows_of__5 ["most", "length"] := at_mk X G a67 l67 c67 k67 fun _ _ _ _ _ _ us hl => match us, hl with | [_, _], _ => rfl
  have A68 : AmK2 K C 27 "breaking" "Drawing.breaking" s_Drawing_breaking ["self", "sentence", "p", "most"] "p" "most" (.int 3) := amK2_mk (C := C) (c := 27) (n := 2) rfl a68 l68 c68 b68 n68 ⟨_, rfl⟩ (fun _ _ _ _ _ _ us ws l1 l2 => match us, l1, ws, l2 with | [_, _], _, [_, _], _ => rfl) (fun _ _ _ _ _ _ us ws _ l1 l2 => match us, l1, ws, l2 with | [_, _], _, [_], _ => ⟨_, _, _, _, _, _, rfl, rfl, rfl⟩)
  have A69 : At K mg "_law_asked" s__law_asked ["_law_which", "_law_drawing", "_law_sentence_here", "_law_choice", "_law_sides"] := at_mk X G a69 l69 c69 k69 fun _ _ _ _ _ _ us hl => match us, hl with | [_, _, _, _, _], _ => rfl
  have h_len : mg "len" = none := PySem.W.mg_none_of X G z0
  have h_int : mg "int" = none := PySem.W.mg_none_of X G z1
  have h_range : mg "range" = none := PySem.W.mg_none_of X G z2
  have h_str : mg "str" = none := PySem.W.mg_none_of X G z3
  have h_sorted : mg "sorted" = none := PySem.W.mg_none_of X G z4
  have h_list : mg "list" = none := PySem.W.mg_none_of X G z5
  have h_max : mg "max" = none := PySem.W.mg_none_of X G z6
  have h_abs : mg "abs" = none := PySem.W.mg_none_of X G z7
  have h_all : mg "all" = none := PySem.W.mg_none_of X G z8
  have h_tuple : mg "tuple" = none := PySem.W.mg_none_of X G z9
  have h_zip : mg "zip" = none := PySem.W.mg_none_of X G z10
  have h_enumerate : mg "enumerate" = none := PySem.W.mg_none_of X G z11
  have h_set : mg "set" = none := PySem.W.mg_none_of X G z12
  have h_dict : mg "dict" = none := PySem.W.mg_none_of X G z13
  have g_MOST_LETTERS : mg "MOST_LETTERS" = some (.int 8 t_MOST_LETTERS) := PySem.W.mg_of X G gg_MOST_LETTERS
  have g_LETTERS : mg "LETTERS" = some (.str "abcdefghijklmnopqrstuvwxyzABCDEFGHIJKLMNOPQRSTUVWXYZ" t_LETTERS) := PySem.W.mg_of X G gg_LETTERS
  have g_MOST_DIGITS_matrices : mg "MOST_DIGITS_matrices" = some (.int 30 t_MOST_DIGITS_matrices) := PySem.W.mg_of X G gg_MOST_DIGITS_matrices
  have g_MOST_ITEM : mg "MOST_ITEM" = some (.int 1000 t_MOST_ITEM) := PySem.W.mg_of X G gg_MOST_ITEM
  have g_SAME : mg "SAME" = some (.str "same" t_SAME) := PySem.W.mg_of X G gg_SAME
  have g_POINT : mg "POINT" = some (.str "point" t_POINT) := PySem.W.mg_of X G gg_POINT
  have gs_SHAPES : GTab ⟨K, C⟩ mg w "SHAPES" (shT [("point", some "point", ["number", "number", "number"]), ("free", some "point", []), ("join", some "line", ["point", "point"]), ("meet", some "point", ["line", "line"]), ("on", some "point", ["point", "point"])]) := gtab_ok (Z := ⟨K, C⟩) (PySem.W.mg_of X G ga_SHAPES) gl_SHAPES gk_SHAPES gm_SHAPES gx_SHAPES
  have gs_SENTENCES : GTab ⟨K, C⟩ mg w "SENTENCES" (shT [("line", none, ["point", "point", "point"]), ("through", none, ["line", "line", "line"]), ("on", none, ["point", "line"])]) := gtab_ok (Z := ⟨K, C⟩) (PySem.W.mg_of X G ga_SENTENCES) gl_SENTENCES gk_SENTENCES gm_SENTENCES gx_SENTENCES
  refine ⟨PySem.W.fnOf "law" "law" (defArgs s_law) (defBody s_law) (defScope s_law) .none kV70 dc70 pm70 an70 cd70 ct70, fun s v => .of_eq rfl, fun base _ _ => ?_⟩
  have E_BadNumber : Err P w K mg base C 0 "BadNumber" ["self", "n"] (spE1 K (C 0) "n") := ⟨fE0, _, O0, eI0, F0.tI, dE_BadNumber (supF_mk eL0 eC0 eD0 eV0 eF0 eE0) U0 (F0.no _ (by simp)), B0, G0⟩
  have E_BadCharacteristic : Err P w K mg base C 1 "BadCharacteristic" ["self", "p"] (spE1 K (C 1) "p") := ⟨fE1, _, O1, eI1, F1.tI, dE_BadCharacteristic (supF_mk eL1 eC1 eD1 eV1 eF1 eE1) U1 (F1.no _ (by simp)), B1, G1⟩
  have E_BadText : Err P w K mg base C 2 "BadText" ["self", "at"] (spE1 K (C 2) "at") := ⟨fE2, _, O2, eI2, F2.tI, dE_BadText (supF_mk eL2 eC2 eD2 eV2 eF2 eE2) U2 (F2.no _ (by simp)), B2, G2⟩
  have E_BadStep : Err P w K mg base C 8 "BadStep" ["self", "at"] (spE1 K (C 8) "at") := ⟨fE8, _, O8, eI8, F8.tI, dE_BadStep (supF_mk eL8 eC8 eD8 eV8 eF8 eE8) U8 (F8.no _ (by simp)), B8, G8⟩
  have E_UnknownName : Err P w K mg base C 9 "UnknownName" ["self", "name"] (spE1 K (C 9) "name") := ⟨fE9, _, O9, eI9, F9.tI, dE_UnknownName (supF_mk eL9 eC9 eD9 eV9 eF9 eE9) U9 (F9.no _ (by simp)), B9, G9⟩
  have D__law_cell : Df P w K mg base C "_law_cell" 1 ["_law_script", "_law_k"] [] m__law_cell := d__law_cell A0 h_len
  have D__law_pool : Df P w K mg base C "_law_pool" 1 ["_law_cell_here"] [] m__law_pool := d__law_pool A1 
  have D__law_take : Df P w K mg base C "_law_take" 1 ["_law_pool_here", "_law_limit"] [0] m__law_take := d__law_take A2 h_int
  have D__law_picked_l : Df P w K mg base C "_law_picked" 2 ["_law_world_here", "_law_pool_here", "_law_fewer"] [0, 1] m__law_picked_l := d__law_picked_l A3 h_len h_range h_str h_int D__law_take
  have D__law_gathered : Df P w K mg base C "_law_gathered" 1 ["_law_terms"] [] m__law_gathered := d__law_gathered A4 h_sorted h_list
  have D__law_number_triple : Df P w K mg base C "_law_number_triple" 2 ["_law_numbers"] [] m__law_number_triple := d__law_number_triple A5 D__law_gathered
  have D__law_plain : Df P w K mg base C "_law_plain" 1 ["_law_row"] [] m__law_plain := d__law_plain A6 
  have D__law_times : Df P w K mg base C "_law_times" 2 ["_law_first", "_law_second", "_law_factor"] [] m__law_times := d__law_times A7 D__law_plain
  have D__law_cross : Df P w K mg base C "_law_cross" 3 ["_law_one", "_law_two"] [] m__law_cross := d__law_cross A8 D__law_times D__law_gathered
  have D__law_made_row_l : Df P w K mg base C "_law_made_row" 4 ["_law_world_here", "_law_words"] [0] m__law_made_row_l := d__law_made_row_l A9 h_int h_range D__law_number_triple D__law_gathered D__law_cross D__law_times
  have D__law_largest : Df P w K mg base C "_law_largest" 1 ["_law_triple"] [] m__law_largest := d__law_largest A10 h_max h_abs
  have D__law_put : Df P w K mg base C "_law_put" 5 ["_law_world_here", "_law_words"] [0] m__law_put := d__law_put A11 h_int D__law_made_row_l
  have D__law_added : Df P w K mg base C "_law_added" 6 ["_law_world_here", "_law_pool_here", "_law_fewer"] [0, 1] m__law_added := d__law_added A12 h_len h_str D__law_take D__law_picked_l D__law_made_row_l D__law_largest D__law_put
  have D__law_world : Df P w K mg base C "_law_world" 7 ["_law_pool_here", "_law_many", "_law_fewer"] [0] m__law_world := d__law_world A13 h_range D__law_added
  have D_is_name : Df P w K mg base C "is_name" 1 ["word"] [] m_is_name := d_is_name A14 h_len h_all g_MOST_LETTERS g_LETTERS
  have D_is_integer : Df P w K mg base C "is_integer" 1 ["word"] [] m_is_integer := d_is_integer A15 h_len h_all g_MOST_DIGITS_matrices
  have D_is_item : Df P w K mg base C "is_item" 2 ["word"] [] m_is_item := d_is_item A16 h_abs h_int g_MOST_ITEM D_is_integer
  have D_Drawing_fits : Dm P w K mg base C 27 "fits" 3 ["self", "word", "kind"] [] m_Drawing_fits := d_Drawing_fits A17 K_Drawing D_is_item
  have D_gathered : Df P w K mg base C "gathered" 1 ["terms"] [] m_gathered := d_gathered A18 
  have D_Many___init__ : Dm P w K mg base C 24 "__init__" 2 ["self", "terms"] [0] m_Many___init__ := d_Many___init__ A19 K_Many D_gathered
  have D_Many_number : Dc P w K mg base C 24 "number" 4 ["cls", "n"] m_Many_number := d_Many_number A20 K_Many D_Many___init__
  have D_Many_unknown : Dc P w K mg base C 24 "unknown" 4 ["cls", "name"] m_Many_unknown := d_Many_unknown A21 K_Many D_Many___init__
  have D_Drawing_new_unknown : Dm P w K mg base C 27 "new_unknown" 5 ["self", "name"] [0] m_Drawing_new_unknown := d_Drawing_new_unknown A22 K_Drawing K_Many D_Many_unknown
  have D_product_terms : Df P w K mg base C "product_terms" 1 ["first", "second"] [] m_product_terms := d_product_terms A23 h_tuple h_sorted
  have D_Many___mul__ : Dm P w K mg base C 24 "__mul__" 4 ["self", "other"] [] m_Many___mul__ := d_Many___mul__ A24 K_Many D_product_terms D_Many___init__
  have D_Many___neg__ : Dm P w K mg base C 24 "__neg__" 4 ["self"] [] m_Many___neg__ := d_Many___neg__ A25 K_Many D_Many___init__
  have D_Many___add__ : Dm P w K mg base C 24 "__add__" 4 ["self", "other"] [] m_Many___add__ := d_Many___add__ A26 h_list K_Many D_Many___init__
  have D_Many___sub__ : Dm P w K mg base C 24 "__sub__" 5 ["self", "other"] [] m_Many___sub__ := d_Many___sub__ A27 K_Many D_Many___neg__ D_Many___add__
  have D_cross : Df P w K mg base C "cross" 6 ["first", "second"] [] m_cross := d_cross A28 K_Many D_Many___mul__ D_Many___sub__
  have D_Drawing_triple_made : Dm P w K mg base C 27 "triple_made" 7 ["self", "deed", "name", "rest"] [0] m_Drawing_triple_made := d_Drawing_triple_made A29 h_tuple h_int h_zip K_Many K_Drawing X_24_o_27 D_Many_number D_Drawing_new_unknown D_cross D_Many___mul__ D_Many___add__
  have D_Drawing_add : Dm P w K mg base C 27 "add" 8 ["self", "at", "words"] [0] m_Drawing_add := d_Drawing_add A30 h_len h_all h_zip gs_SHAPES K_Drawing D_is_name D_Drawing_fits D_Drawing_triple_made E_BadStep
  have D_Drawing___init__ : Dm P w K mg base C 27 "__init__" 9 ["self", "text"] [0] m_Drawing___init__ := d_Drawing___init__ A31 h_enumerate K_Drawing D_Drawing_add
  have D__law_dot : Df P w K mg base C "_law_dot" 3 ["_law_one", "_law_two"] [] m__law_dot := d__law_dot A32 h_range D__law_times D__law_gathered
  have D__law_sentence : Df P w K mg base C "_law_sentence" 4 ["_law_world_here", "_law_pool_here"] [1] m__law_sentence := d__law_sentence A33 h_len h_range h_int D__law_take D__law_dot D__law_cross
  have D__law_changed : Df P w K mg base C "_law_changed" 2 ["_law_pool_here", "_law_words", "_law_names"] [0] m__law_changed := d__law_changed A34 h_len D__law_take
  have D__law_fault : Df P w K mg base C "_law_fault" 1 ["_law_world_here", "_law_words"] [] m__law_fault := d__law_fault A35 h_len h_range
  have D_is_prime : Df P w K mg base C "is_prime" 1 ["n"] [] m_is_prime := d_is_prime A36 
  have D_Chars___init__ : Dm P w K mg base C 20 "__init__" 3 ["self", "endless", "primes"] [0] m_Chars___init__ := d_Chars___init__ A37 h_tuple h_sorted h_set K_Chars D_is_prime E_BadCharacteristic
  have D_Chars_every : Dc P w K mg base C 20 "every" 5 ["cls"] m_Chars_every := d_Chars_every A38 K_Chars D_Chars___init__
  have D_common : Df P w K mg base C "common" 1 ["a", "b"] [] m_common := d_common A39 h_abs
  have D_Many_content : Dm P w K mg base C 24 "content" 2 ["self"] [] m_Many_content := d_Many_content A40 K_Many D_common
  have D_content_of : Df P w K mg base C "content_of" 3 ["triple"] [] m_content_of := d_content_of A41 K_Many D_Many_content D_common
  have D_prime_divisors : Df P w K mg base C "prime_divisors" 3 ["n"] [] m_prime_divisors := d_prime_divisors A42 h_abs E_BadNumber
  have D_Chars_zero_of : Dc P w K mg base C 20 "zero_of" 5 ["cls", "n"] m_Chars_zero_of := d_Chars_zero_of A43 K_Chars D_Chars___init__ D_prime_divisors
  have D_Chars___invert__ : Dm P w K mg base C 20 "__invert__" 5 ["self"] [] m_Chars___invert__ := d_Chars___invert__ A44 K_Chars D_Chars___init__
  have D_Chars_unit_of : Dc P w K mg base C 20 "unit_of" 6 ["cls", "n"] m_Chars_unit_of := d_Chars_unit_of A45 D_Chars_zero_of D_Chars___invert__
  have D_shared : Df P w K mg base C "shared" 1 ["first", "second"] [] m_shared := d_shared A46 K_Chars
  have D_Chars___and__ : Dm P w K mg base C 20 "__and__" 5 ["self", "other"] [] m_Chars___and__ := d_Chars___and__ A47 K_Chars D_shared D_Chars___init__
  have D_Drawing_possible : Dm P w K mg base C 27 "possible" 7 ["self"] [] m_Drawing_possible := d_Drawing_possible A48 K_Chars K_Drawing D_Chars_every D_content_of D_Chars_unit_of D_Chars___and__
  have D_Drawing_wanted : Dm P w K mg base C 27 "wanted" 3 ["self", "words"] [] m_Drawing_wanted := d_Drawing_wanted A49 h_len g_SAME g_POINT gs_SENTENCES K_Drawing E_BadText
  have D_Drawing_understood : Dm P w K mg base C 27 "understood" 4 ["self", "sentence"] [] m_Drawing_understood := d_Drawing_understood A50 h_enumerate h_len K_Drawing D_Drawing_wanted D_Drawing_fits E_BadText
  have D_dot : Df P w K mg base C "dot" 5 ["first", "second"] [] m_dot := d_dot A51 K_Many D_Many___mul__ D_Many___add__
  have D_volume : Df P w K mg base C "volume" 7 ["first", "second", "third"] [] m_volume := d_volume A52 D_cross D_dot
  have D_Drawing_conditions : Dm P w K mg base C 27 "conditions" 8 ["self", "sentence"] [] m_Drawing_conditions := d_Drawing_conditions A53 h_list g_SAME K_Drawing D_Drawing_understood D_cross D_dot D_volume
  have D_Many_vanishing : Dm P w K mg base C 24 "vanishing" 6 ["self"] [] m_Many_vanishing := d_Many_vanishing A54 K_Many K_Chars D_Many_content D_Chars_zero_of
  have D_Drawing_always : Dm P w K mg base C 27 "always" 9 ["self", "sentence"] [] m_Drawing_always := d_Drawing_always A55 K_Drawing K_Many K_Chars D_Drawing_possible D_Drawing_conditions D_Many_vanishing D_Chars___and__
  have D_checked : Df P w K mg base C "checked" 3 ["p"] [] m_checked := d_checked A56 D_is_prime E_BadCharacteristic
  have D_Many_names : Dm P w K mg base C 24 "names" 1 ["self"] [] m_Many_names := d_Many_names A57 h_sorted K_Many
  have D_Many_put : Dm P w K mg base C 24 "put" 4 ["self", "values"] [] m_Many_put := d_Many_put A58 h_tuple K_Many D_Many___init__
  have D_Many_value : DmK P w K mg base C 24 "value" 5 ["self", "values", "p"] "p" [] m_Many_value := d_Many_value A59 K_Many D_checked D_Many_names D_Many_put E_UnknownName
  have D_Drawing_allowed : Dm P w K mg base C 27 "allowed" 6 ["self", "choice", "p"] [] m_Drawing_allowed := d_Drawing_allowed A60 h_all K_Many K_Drawing D_Many_value
  have D_Drawing_holds : DmK P w K mg base C 27 "holds" 9 ["self", "sentence", "choice", "p"] "p" [] m_Drawing_holds := d_Drawing_holds A61 h_all K_Drawing K_Many D_checked D_Drawing_conditions D_Drawing_allowed D_Many_value E_UnknownName
  have D_rows_of__0 : Dg2 P w K mg base C "rows_of" 1 ["most", "length"] m_rows_of__0 := d_rows_of__0 A62 
  have D_rows_of__1 : Dg2 P w K mg base C "rows_of" 3 ["most", "length"] m_rows_of__1 := d_rows_of__1 A63 h_range D_rows_of__0
  have D_rows_of__2 : Dg2 P w K mg base C "rows_of" 5 ["most", "length"] m_rows_of__2 := d_rows_of__2 A64 h_range D_rows_of__1
  have D_rows_of__3 : Dg2 P w K mg base C "rows_of" 7 ["most", "length"] m_rows_of__3 := d_rows_of__3 A65 h_range D_rows_of__2
  have D_rows_of__4 : Dg2 P w K mg base C "rows_of" 9 ["most", "length"] m_rows_of__4 := d_rows_of__4 A66 h_range D_rows_of__3
  have D_rows_of__5 : Dg2 P w K mg base C "rows_of" 11 ["most", "length"] m_rows_of__5 := d_rows_of__5 A67 h_range D_rows_of__4
  have D_Drawing_breaking : DmK2 P w K mg base C 27 "breaking" 13 ["self", "sentence", "p", "most"] "p" "most" (.int 3) m_Drawing_breaking := d_Drawing_breaking A68 h_len h_dict h_zip K_Drawing D_checked D_Drawing_conditions D_rows_of__5 D_Drawing_holds
  have D__law_asked : Df P w K mg base C "_law_asked" 14 ["_law_which", "_law_drawing", "_law_sentence_here", "_law_choice", "_law_sides"] [] m__law_asked := d__law_asked A69 K_Drawing D_Drawing_always D_Drawing_holds D_Drawing_breaking Q_BadCharacteristic Q_UnknownName Q_BadText
  exact law_imp (C := C) (d_law (fun_mk (st := s_law) l70 c70 k70) h_dict h_list h_range h_int K_Drawing D__law_cell D__law_pool D__law_take D__law_world D_Drawing___init__ D__law_sentence D__law_changed D__law_fault D__law_asked)
end
end DW.K82
open PySem PySem.W PyProof.Rows
set_option maxHeartbeats 0 in
theorem PySem.Challenge.cw_everyfield_k82_sentences_that_are_none_holds : PySem.Challenge.rw_everyfield_k82_sentences_that_are_none.Holds := by
  w_on; o_law; k_head; (case hw => w_witness2)
  k_fill
  refine L2.walk_ofB (l := PySem.Challenge.rw_everyfield_k82_sentences_that_are_none) (n := 63) (k := 15) (x := "_law_script") (CX := fun w => L2.CX (PySem.Challenge.rw_everyfield_k82_sentences_that_are_none).prog w) (sp := fun w => DL.spLaw _ DW.K82.m_law) rfl (by decide) rfl ⟨rfl, by decide, by decide⟩ (fun w h Y => PySem.W.kIn_of Y) ?F (fun _ H a ns hl hb _ hS => DL.law_sp2 DW.K82.law_holds H a ns hl hb hS) (fun _ _ _ _ _ h => DL.law_cx h)
  case F =>
    intro w mg fa h KX G hmg
    refine' DW.K82.all_mk KX G hmg ?eA0 ?eX0 ?eR0 ?eI0 ?eB0 ?eL0 ?eC0 ?eD0 ?eV0 ?eF0 ?eE0 ?eA1 ?eX1 ?eR1 ?eI1 ?eB1 ?eL1 ?eC1 ?eD1 ?eV1 ?eF1 ?eE1 ?eA2 ?eX2 ?eR2 ?eI2 ?eB2 ?eL2 ?eC2 ?eD2 ?eV2 ?eF2 ?eE2 ?eA8 ?eX8 ?eR8 ?eI8 ?eB8 ?eL8 ?eC8 ?eD8 ?eV8 ?eF8 ?eE8 ?eA9 ?eX9 ?eR9 ?eI9 ?eB9 ?eL9 ?eC9 ?eD9 ?eV9 ?eF9 ?eE9 ?kA20 ?kB20 ?kR20 ?kA24 ?kB24 ?kR24 ?kA27 ?kB27 ?eN ?eY ?eT ?eQ1 ?eQ2 ?eQ9 ?qX_24_o_27 ?a0 ?l0 ?c0 ?k0 ?a1 ?l1 ?c1 ?k1 ?a2 ?l2 ?c2 ?k2 ?a3 ?l3 ?c3 ?k3 ?a4 ?l4 ?c4 ?k4 ?a5 ?l5 ?c5 ?k5 ?a6 ?l6 ?c6 ?k6 ?a7 ?l7 ?c7 ?k7 ?a8 ?l8 ?c8 ?k8 ?a9 ?l9 ?c9 ?k9 ?a10 ?l10 ?c10 ?k10 ?a11 ?l11 ?c11 ?k11 ?a12 ?l12 ?c12 ?k12 ?a13 ?l13 ?c13 ?k13 ?a14 ?l14 ?c14 ?k14 ?a15 ?l15 ?c15 ?k15 ?a16 ?l16 ?c16 ?k16 ?a17 ?l17 ?c17 ?b17 ?a18 ?l18 ?c18 ?k18 ?a19 ?l19 ?c19 ?b19 ?a20 ?r20 ?l20 ?c20 ?b20 ?a21 ?r21 ?l21 ?c21 ?b21 ?a22 ?l22 ?c22 ?b22 ?a23 ?l23 ?c23 ?k23 ?a24 ?l24 ?c24 ?b24 ?a25 ?l25 ?c25 ?b25 ?a26 ?l26 ?c26 ?b26 ?a27 ?l27 ?c27 ?b27 ?a28 ?l28 ?c28 ?k28 ?a29 ?l29 ?c29 ?b29 ?a30 ?l30 ?c30 ?b30 ?a31 ?l31 ?c31 ?b31 ?a32 ?l32 ?c32 ?k32 ?a33 ?l33 ?c33 ?k33 ?a34 ?l34 ?c34 ?k34 ?a35 ?l35 ?c35 ?k35 ?a36 ?l36 ?c36 ?k36 ?a37 ?l37 ?c37 ?b37 ?a38 ?r38 ?l38 ?c38 ?b38 ?a39 ?l39 ?c39 ?k39 ?a40 ?l40 ?c40 ?b40 ?a41 ?l41 ?c41 ?k41 ?a42 ?l42 ?c42 ?k42 ?a43 ?r43 ?l43 ?c43 ?b43 ?a44 ?l44 ?c44 ?b44 ?a45 ?r45 ?l45 ?c45 ?b45 ?a46 ?l46 ?c46 ?k46 ?a47 ?l47 ?c47 ?b47 ?a48 ?l48 ?c48 ?b48 ?a49 ?l49 ?c49 ?b49 ?a50 ?l50 ?c50 ?b50 ?a51 ?l51 ?c51 ?k51 ?a52 ?l52 ?c52 ?k52 ?a53 ?l53 ?c53 ?b53 ?a54 ?l54 ?c54 ?b54 ?a55 ?l55 ?c55 ?b55 ?a56 ?l56 ?c56 ?k56 ?a57 ?l57 ?c57 ?b57 ?a58 ?l58 ?c58 ?b58 ?a59 ?l59 ?c59 ?b59 ?a60 ?l60 ?c60 ?b60 ?a61 ?l61 ?c61 ?b61 ?a62 ?l62 ?c62 ?k62 ?a63 ?l63 ?c63 ?k63 ?a64 ?l64 ?c64 ?k64 ?a65 ?l65 ?c65 ?k65 ?a66 ?l66 ?c66 ?k66 ?a67 ?l67 ?c67 ?k67 ?a68 ?l68 ?c68 ?b68 ?n68 ?a69 ?l69 ?c69 ?k69 ?a70 ?l70 ?c70 ?k70 ?z0 ?z1 ?z2 ?z3 ?z4 ?z5 ?z6 ?z7 ?z8 ?z9 ?z10 ?z11 ?z12 ?z13 ?gg_MOST_LETTERS ?gg_LETTERS ?gg_MOST_DIGITS_matrices ?gg_MOST_ITEM ?gg_SAME ?gg_POINT ?ga_SHAPES ?gl_SHAPES ?gk_SHAPES ?gm_SHAPES ?gx_SHAPES ?ga_SENTENCES ?gl_SENTENCES ?gk_SENTENCES ?gm_SENTENCES ?gx_SENTENCES
    (case eA0 => k_is)
    (case eX0 => k_is)
    (case eR0 => first | rfl | decide +kernel | k_is)
    (case eI0 => k_is)
    (case eB0 => kernel_rfl)
    (case eL0 => k_is)
    (case eC0 => k_is)
    (case eD0 => k_is)
    (case eV0 => first | rfl | k_is)
    (case eF0 => first | rfl | decide +kernel | k_is)
    (case eE0 => k_is)
    (case eA1 => k_is)
    (case eX1 => k_is)
    (case eR1 => first | rfl | decide +kernel | k_is)
    (case eI1 => k_is)
    (case eB1 => kernel_rfl)
    (case eL1 => k_is)
    (case eC1 => k_is)
    (case eD1 => k_is)
    (case eV1 => first | rfl | k_is)
    (case eF1 => first | rfl | decide +kernel | k_is)
    (case eE1 => k_is)
    (case eA2 => k_is)
    (case eX2 => k_is)
    (case eR2 => first | rfl | decide +kernel | k_is)
    (case eI2 => k_is)
    (case eB2 => kernel_rfl)
    (case eL2 => k_is)
    (case eC2 => k_is)
    (case eD2 => k_is)
    (case eV2 => first | rfl | k_is)
    (case eF2 => first | rfl | decide +kernel | k_is)
    (case eE2 => k_is)
    (case eA8 => k_is)
    (case eX8 => k_is)
    (case eR8 => first | rfl | decide +kernel | k_is)
    (case eI8 => k_is)
    (case eB8 => kernel_rfl)
    (case eL8 => k_is)
    (case eC8 => k_is)
    (case eD8 => k_is)
    (case eV8 => first | rfl | k_is)
    (case eF8 => first | rfl | decide +kernel | k_is)
    (case eE8 => k_is)
    (case eA9 => k_is)
    (case eX9 => k_is)
    (case eR9 => first | rfl | decide +kernel | k_is)
    (case eI9 => k_is)
    (case eB9 => kernel_rfl)
    (case eL9 => k_is)
    (case eC9 => k_is)
    (case eD9 => k_is)
    (case eV9 => first | rfl | k_is)
    (case eF9 => first | rfl | decide +kernel | k_is)
    (case eE9 => k_is)
    (case kA20 => k_is)
    (case kB20 => kernel_rfl)
    (case kR20 => kernel_rfl)
    (case kA24 => k_is)
    (case kB24 => kernel_rfl)
    (case kR24 => kernel_rfl)
    (case kA27 => k_is)
    (case kB27 => kernel_rfl)
    (case eN => k_is)
    (case eY => k_is)
    (case eT => first | rfl | decide +kernel | k_is)
    (case qX_24_o_27 => kernel_rfl)
    (case a0 => k_is)
    (case l0 => k_is)
    (case c0 => k_is)
    (case k0 => k_is)
    (case a1 => k_is)
    (case l1 => k_is)
    (case c1 => k_is)
    (case k1 => k_is)
    (case a2 => k_is)
    (case l2 => k_is)
    (case c2 => k_is)
    (case k2 => k_is)
    (case a3 => k_is)
    (case l3 => k_is)
    (case c3 => k_is)
    (case k3 => k_is)
    (case a4 => k_is)
    (case l4 => k_is)
    (case c4 => k_is)
    (case k4 => k_is)
    (case a5 => k_is)
    (case l5 => k_is)
    (case c5 => k_is)
    (case k5 => k_is)
    (case a6 => k_is)
    (case l6 => k_is)
    (case c6 => k_is)
    (case k6 => k_is)
    (case a7 => k_is)
    (case l7 => k_is)
    (case c7 => k_is)
    (case k7 => k_is)
    (case a8 => k_is)
    (case l8 => k_is)
    (case c8 => k_is)
    (case k8 => k_is)
    (case a9 => k_is)
    (case l9 => k_is)
    (case c9 => k_is)
    (case k9 => k_is)
    (case a10 => k_is)
    (case l10 => k_is)
    (case c10 => k_is)
    (case k10 => k_is)
    (case a11 => k_is)
    (case l11 => k_is)
    (case c11 => k_is)
    (case k11 => k_is)
    (case a12 => k_is)
    (case l12 => k_is)
    (case c12 => k_is)
    (case k12 => k_is)
    (case a13 => k_is)
    (case l13 => k_is)
    (case c13 => k_is)
    (case k13 => k_is)
    (case a14 => k_is)
    (case l14 => k_is)
    (case c14 => k_is)
    (case k14 => k_is)
    (case a15 => k_is)
    (case l15 => k_is)
    (case c15 => k_is)
    (case k15 => k_is)
    (case a16 => k_is)
    (case l16 => k_is)
    (case c16 => k_is)
    (case k16 => k_is)
    (case a17 => k_is)
    (case l17 => k_is)
    (case c17 => k_is)
    (case b17 => kernel_rfl)
    (case a18 => k_is)
    (case l18 => k_is)
    (case c18 => k_is)
    (case k18 => k_is)
    (case a19 => k_is)
    (case l19 => k_is)
    (case c19 => k_is)
    (case b19 => kernel_rfl)
    (case a20 => k_is)
    (case r20 => k_is)
    (case l20 => k_is)
    (case c20 => k_is)
    (case b20 => kernel_rfl)
    (case a21 => k_is)
    (case r21 => k_is)
    (case l21 => k_is)
    (case c21 => k_is)
    (case b21 => kernel_rfl)
    (case a22 => k_is)
    (case l22 => k_is)
    (case c22 => k_is)
    (case b22 => kernel_rfl)
    (case a23 => k_is)
    (case l23 => k_is)
    (case c23 => k_is)
    (case k23 => k_is)
    (case a24 => k_is)
    (case l24 => k_is)
    (case c24 => k_is)
    (case b24 => kernel_rfl)
    (case a25 => k_is)
    (case l25 => k_is)
    (case c25 => k_is)
    (case b25 => kernel_rfl)
    (case a26 => k_is)
    (case l26 => k_is)
    (case c26 => k_is)
    (case b26 => kernel_rfl)
    (case a27 => k_is)
    (case l27 => k_is)
    (case c27 => k_is)
    (case b27 => kernel_rfl)
    (case a28 => k_is)
    (case l28 => k_is)
    (case c28 => k_is)
    (case k28 => k_is)
    (case a29 => k_is)
    (case l29 => k_is)
    (case c29 => k_is)
    (case b29 => kernel_rfl)
    (case a30 => k_is)
    (case l30 => k_is)
    (case c30 => k_is)
    (case b30 => kernel_rfl)
    (case a31 => k_is)
    (case l31 => k_is)
    (case c31 => k_is)
    (case b31 => kernel_rfl)
    (case a32 => k_is)
    (case l32 => k_is)
    (case c32 => k_is)
    (case k32 => k_is)
    (case a33 => k_is)
    (case l33 => k_is)
    (case c33 => k_is)
    (case k33 => k_is)
    (case a34 => k_is)
    (case l34 => k_is)
    (case c34 => k_is)
    (case k34 => k_is)
    (case a35 => k_is)
    (case l35 => k_is)
    (case c35 => k_is)
    (case k35 => k_is)
    (case a36 => k_is)
    (case l36 => k_is)
    (case c36 => k_is)
    (case k36 => k_is)
    (case a37 => k_is)
    (case l37 => k_is)
    (case c37 => k_is)
    (case b37 => kernel_rfl)
    (case a38 => k_is)
    (case r38 => k_is)
    (case l38 => k_is)
    (case c38 => k_is)
    (case b38 => kernel_rfl)
    (case a39 => k_is)
    (case l39 => k_is)
    (case c39 => k_is)
    (case k39 => k_is)
    (case a40 => k_is)
    (case l40 => k_is)
    (case c40 => k_is)
    (case b40 => kernel_rfl)
    (case a41 => k_is)
    (case l41 => k_is)
    (case c41 => k_is)
    (case k41 => k_is)
    (case a42 => k_is)
    (case l42 => k_is)
    (case c42 => k_is)
    (case k42 => k_is)
    (case a43 => k_is)
    (case r43 => k_is)
    (case l43 => k_is)
    (case c43 => k_is)
    (case b43 => kernel_rfl)
    (case a44 => k_is)
    (case l44 => k_is)
    (case c44 => k_is)
    (case b44 => kernel_rfl)
    (case a45 => k_is)
    (case r45 => k_is)
    (case l45 => k_is)
    (case c45 => k_is)
    (case b45 => kernel_rfl)
    (case a46 => k_is)
    (case l46 => k_is)
    (case c46 => k_is)
    (case k46 => k_is)
    (case a47 => k_is)
    (case l47 => k_is)
    (case c47 => k_is)
    (case b47 => kernel_rfl)
    (case a48 => k_is)
    (case l48 => k_is)
    (case c48 => k_is)
    (case b48 => kernel_rfl)
    (case a49 => k_is)
    (case l49 => k_is)
    (case c49 => k_is)
    (case b49 => kernel_rfl)
    (case a50 => k_is)
    (case l50 => k_is)
    (case c50 => k_is)
    (case b50 => kernel_rfl)
    (case a51 => k_is)
    (case l51 => k_is)
    (case c51 => k_is)
    (case k51 => k_is)
    (case a52 => k_is)
    (case l52 => k_is)
    (case c52 => k_is)
    (case k52 => k_is)
    (case a53 => k_is)
    (case l53 => k_is)
    (case c53 => k_is)
    (case b53 => kernel_rfl)
    (case a54 => k_is)
    (case l54 => k_is)
    (case c54 => k_is)
    (case b54 => kernel_rfl)
    (case a55 => k_is)
    (case l55 => k_is)
    (case c55 => k_is)
    (case b55 => kernel_rfl)
    (case a56 => k_is)
    (case l56 => k_is)
    (case c56 => k_is)
    (case k56 => k_is)
    (case a57 => k_is)
    (case l57 => k_is)
    (case c57 => k_is)
    (case b57 => kernel_rfl)
    (case a58 => k_is)
    (case l58 => k_is)
    (case c58 => k_is)
    (case b58 => kernel_rfl)
    (case a59 => k_is)
    (case l59 => k_is)
    (case c59 => k_is)
    (case b59 => kernel_rfl)
    (case a60 => k_is)
    (case l60 => k_is)
    (case c60 => k_is)
    (case b60 => kernel_rfl)
    (case a61 => k_is)
    (case l61 => k_is)
    (case c61 => k_is)
    (case b61 => kernel_rfl)
    (case a62 => k_is)
    (case l62 => k_is)
    (case c62 => k_is)
    (case k62 => k_is)
    (case a63 => k_is)
    (case l63 => k_is)
    (case c63 => k_is)
    (case k63 => k_is)
    (case a64 => k_is)
    (case l64 => k_is)
    (case c64 => k_is)
    (case k64 => k_is)
    (case a65 => k_is)
    (case l65 => k_is)
    (case c65 => k_is)
    (case k65 => k_is)
    (case a66 => k_is)
    (case l66 => k_is)
    (case c66 => k_is)
    (case k66 => k_is)
    (case a67 => k_is)
    (case l67 => k_is)
    (case c67 => k_is)
    (case k67 => k_is)
    (case a68 => k_is)
    (case l68 => k_is)
    (case c68 => k_is)
    (case b68 => kernel_rfl)
    (case n68 => k_is)
    (case a69 => k_is)
    (case l69 => k_is)
    (case c69 => k_is)
    (case k69 => k_is)
    (case a70 => k_is)
    (case l70 => k_is)
    (case c70 => k_is)
    (case k70 => k_is)
    (case z0 => k_is)
    (case z1 => k_is)
    (case z2 => k_is)
    (case z3 => k_is)
    (case z4 => k_is)
    (case z5 => k_is)
    (case z6 => k_is)
    (case z7 => k_is)
    (case z8 => k_is)
    (case z9 => k_is)
    (case z10 => k_is)
    (case z11 => k_is)
    (case z12 => k_is)
    (case z13 => k_is)
    (case gg_MOST_LETTERS => k_is)
    (case gg_LETTERS => k_is)
    (case gg_MOST_DIGITS_matrices => k_is)
    (case gg_MOST_ITEM => k_is)
    (case gg_SAME => k_is)
    (case gg_POINT => k_is)
    (case ga_SHAPES => k_is)
    (case gl_SHAPES => k_is)
    (case gk_SHAPES => (repeat (first | exact True.intro | refine And.intro ⟨_, _, rfl, rfl⟩ ?_)))
    (case gm_SHAPES => first | rfl | decide +kernel)
    (case gx_SHAPES => first | rfl | kernel_rfl)
    (case ga_SENTENCES => k_is)
    (case gl_SENTENCES => k_is)
    (case gk_SENTENCES => (repeat (first | exact True.intro | refine And.intro ⟨_, _, rfl, rfl⟩ ?_)))
    (case gm_SENTENCES => first | rfl | decide +kernel)
    (case gx_SENTENCES => first | rfl | kernel_rfl)
    (case eQ1 => kernel_rfl)
    (case eQ2 => kernel_rfl)
    (case eQ9 => kernel_rfl)
set_option maxHeartbeats 4000000
namespace DW.K82
open PySem L2 DL
def q0 : MS := fSet 1 (fCall m__law_pool [] [none] (fCons (fVar 7) (fNil)))
def q1 : MS := fSet 8 (fBin gIx (fCall m__law_sentence [1] [none, some 1] (fCons (fVar 2) (fMove 1 (fNil)))) (fC (.int 0)))
def q2 : MS := fFor (iArgs range1D (fCons (fCall m__law_take [1] [some 1, none] (fMove 1 (fCons (fC (.int 3)) (fNil)))) (fNil))) (sName 9) b_law_f0
def q3 : MS := fSet 10 (fJoin (fC (.str " ")) (fVar 8))
def q4 : MS := fSet 11 (fCall m__law_fault [] [none, none] (fCons (fVar 2) (fCons (fSplit (fVar 10) (fC (.str " "))) (fNil))))
def q5 : MS := fSet 12 (fBin gIx (fLst (fCons (fLst (fCons (fC (.str "at")) (fCons (fVar 11) (fNil)))) (fCons (fLst (fNil)) (fNil)))) (fCB (g1 gInt) (fCons (fBin (gIsN false) (fVar 11) (fC .non)) (fNil))))
def q6 : MS := fFor (iArgs range1D (fCons (fC (.int 3)) (fNil))) (sName 13) b_law_f1
def q7 : MS := fFor (iArgs range2D (fCons (fC (.int 1)) (fCons (fC (.int 3)) (fNil)))) (sName 13) b_law_f2
def q8 : MS := fSet 14 (fBin gAdd2 (fLc (iSeq (fSl (fBin gDGet (fVar 2) (fC (.str "unknowns"))) fNoP (fPt (fC (.int 1))))) (sName 15) (fYes) b_law_e2 [15]) (fLst (fCons (fLst (fNil)) (fNil))))
def q9 : MS := fIfS (fTestB (fBin (gEq2 true) (fCall m__law_asked [] [none, none, none, none, none] (fCons (fC (.int 1)) (fCons (fVar 3) (fCons (fVar 10) (fCons (fVar 5) (fCons (fC (.int 5)) (fNil))))))) (fBin gIx (fLst (fCons (fVar 12) (fCons (fBin gIx (fVar 14) (fC (.int 0))) (fNil)))) (fCB (g1 gInt) (fCons (fBin (gIsN false) (fVar 11) (fC .non)) (fNil)))))) (fRet (fC (.bl false))) (fNext)
theorem q_parts : b_law_f3 = fSeq q0 (fSeq q1 (fSeq q2 (fSeq q3 (fSeq q4 (fSeq q5 (fSeq q6 (fSeq q7 (fSeq q8 q9)))))))) := rfl
theorem wn_g {w : Str} (h : Wn w) : Wg w := ⟨Nat.le_trans h.nm.l (by decide), h.sp⟩
theorem sent_g {S : List En} (hS : ∀ e ∈ S, Wg e.nm) {ws : List Str} {cs : List (List Trm)} (s : Sent S ws cs) : ws ≠ [] ∧ ws.length ≤ 4 ∧ ∀ w ∈ ws, Wg w := by
  have k : ∀ x ∈ [Str.ofString "on", Str.ofString "same", Str.ofString "line", Str.ofString "through"], x.length ≤ 100 ∧ (32 : Nat) ∉ x.cps.toList := by decide +kernel
  cases s with
  | on a l ha hl =>
    refine ⟨by simp, by simp, fun w hw => ?_⟩
    simp only [List.mem_cons, List.not_mem_nil, or_false] at hw
    rcases hw with rfl | rfl | rfl
    · exact k _ (by simp)
    · exact hS a ha
    · exact hS l hl
  | same a b ha hb =>
    refine ⟨by simp, by simp, fun w hw => ?_⟩
    simp only [List.mem_cons, List.not_mem_nil, or_false] at hw
    rcases hw with rfl | rfl | rfl
    · exact k _ (by simp)
    · exact hS a ha
    · exact hS b hb
  | line q a b c ha hb hc =>
    refine ⟨by simp, by simp, fun w hw => ?_⟩
    simp only [List.mem_cons, List.not_mem_nil, or_false] at hw
    rcases hw with rfl | rfl | rfl | rfl
    · cases q
      · exact k _ (by simp)
      · exact k _ (by simp)
    · exact hS a ha
    · exact hS b hb
    · exact hS c hc
theorem flt_le {S : List En} {ws : List Str} {k : Nat} (hl : ws.length ≤ 50) (h : flt S ws = some k) : k ≤ 60 := by
  unfold flt at h
  cases hn : needK S ws with
  | none => rw [hn] at h; cases h; omega
  | some ks =>
    rw [hn] at h
    dsimp only at h
    cases hc : chkL S 1 ws.tail ks with
    | some q =>
      rw [hc] at h
      cases h
      have := chkL_le hc
      rw [List.length_tail] at this
      omega
    | none =>
      rw [hc] at h
      dsimp only at h
      split at h
      · cases h; omega
      · cases h
section
variable {R : List PE} {U : List Str} {ws : List Str} {kv kv2 : Kv} {o0 o1 o2 o3 o4 o5 o6 o7 o8 o9 o10 o11 o12 o13 o14 o15 : Option T}
theorem f0_loop {S : List En} (hS : ∀ e ∈ S, Wg e.nm) (hSl : S.length ≤ 20) : ∀ (ds : List D) (ws : List Str) (v t : T) (j : Nat) (O9 : Option T), frz v = .lst (ws.map D.str) → IsPool j t → j + 3 * ds.length < 100000 → ws ≠ [] → (∀ w ∈ ws, Wg w) → ws.length + ds.length ≤ 40 →
    ∃ (ws' : List Str) (v' t' : T) (j' : Nat) (O9' : Option T), frz v' = .lst (ws'.map D.str) ∧ IsPool j' t' ∧ j' ≤ j + 3 * ds.length ∧ ws' ≠ [] ∧ (∀ w ∈ ws', Wg w) ∧ ws'.length ≤ ws.length + ds.length ∧
    loopF (sName 9) b_law_f0 ds [o0, some t, some (.fz (wD S U)), o3, o4, o5, o6, o7, some v, O9, o10, o11, o12, o13, o14, o15] = .nx [o0, some t', some (.fz (wD S U)), o3, o4, o5, o6, o7, some v', O9', o10, o11, o12, o13, o14, o15]
  | [], ws, v, t, j, O9, hv, hp, _, h0, hg, _ => ⟨ws, v, t, j, O9, hv, hp, by simp, h0, hg, by simp, rfl⟩
  | d :: ds, ws, v, t, j, O9, hv, hp, hj, h0, hg, hl => by
    simp only [List.length_cons] at hj hl
    obtain ⟨u, t1, ws1, j1, e1, fu, p1, lj, n1, g1, l1⟩ := changed_ex (S := S) hp (by omega) h0 hg (by omega) hS hSl
    obtain ⟨ws', v', t', j', O9', fv, p2, lj2, n2, g2, l2, ih⟩ := f0_loop hS hSl ds ws1 u t1 j1 (some (.fz d)) fu p1 (by omega) n1 g1 (by omega)
    have gn := get_names S U
    have st : b_law_f0 [o0, some t, some (.fz (wD S U)), o3, o4, o5, o6, o7, some v, some (.fz d), o10, o11, o12, o13, o14, o15] = .nx [o0, some t1, some (.fz (wD S U)), o3, o4, o5, o6, o7, some u, some (.fz d), o10, o11, o12, o13, o14, o15] := by
      generalize wD S U = WD at *
      generalize nmsK S = NK at *
      simp [b_law_f0, hv, gn, -gDGet, e1]
    refine ⟨ws', v', t', j', O9', fv, p2, by simp only [List.length_cons]; omega, n2, g2, by simp only [List.length_cons]; omega, ?_⟩
    rw [loopF_go (e := [o0, some t, some (.fz (wD S U)), o3, o4, o5, o6, o7, some v, some (.fz d), o10, o11, o12, o13, o14, o15]) (by
      generalize wD S U = WD at *
      simp) st]
    exact ih
theorem mis_loop : ∀ (V : List Str) (acc : List T), acc.length + V.length ≤ 100 → loopC (sName 15) fYes b_law_e2 [15] (V.map D.str) acc [o0, o1, o2, o3, o4, o5, o6, o7, o8, o9, o10, o11, o12, o13, o14, none] = .ok (acc ++ V.map fun u => T.lst [.fz (.str "name"), .fz (.str u)]) [o0, o1, o2, o3, o4, o5, o6, o7, o8, o9, o10, o11, o12, o13, o14, none]
  | [], acc, _ => by simp [loopC]
  | u :: V, acc, hl => by
    simp only [List.length_cons] at hl
    have ih := mis_loop V (acc ++ [T.lst [.fz (.str "name"), .fz (.str u)]]) (by simp; omega)
    have lt : acc.length < sizeLine := szN (n := acc.length + 1) (by omega)
    have z2 : 2 ≤ sizeLine := szN (by decide)
    have st : b_law_e2 [o0, o1, o2, o3, o4, o5, o6, o7, o8, o9, o10, o11, o12, o13, o14, some (.fz (.str u))] = .ok (T.lst [.fz (.str "name"), .fz (.str u)]) [o0, o1, o2, o3, o4, o5, o6, o7, o8, o9, o10, o11, o12, o13, o14, some (.fz (.str u))] := by
      simp [b_law_e2, z2]
    rw [List.map_cons]
    simp [loopC, st, lt, ih]
end
end DW.K82
set_option maxHeartbeats 4000000
namespace DW.K82
open PySem L2 DL
section
variable {R : List PE} {U : List Str} {kv kv2 : Kv} {o0 o1 o8 o9 o10 o11 o12 o13 o14 o15 : Option T}
theorem sumW {ws : List Str} (h : ∀ w ∈ ws, Wg w) (hl : ws.length ≤ 50) : (ws.map (·.length)).sum + ws.length ≤ 16777216 := by
  have b := sum_leW ws 100 fun w hw => (h w hw).1
  have : ws.length * 100 ≤ 50 * 100 := Nat.mul_le_mul_right _ hl
  omega
theorem q5_eq (o : Option Nat) {a0 a1 a2 a3 a4 a5 a6 a7 a8 a9 a10 : Option T} : q5 [a0, a1, a2, a3, a4, a5, a6, a7, a8, a9, a10, some (.fz (optD o)), o12, o13, o14, o15] = .nx [a0, a1, a2, a3, a4, a5, a6, a7, a8, a9, a10, some (.fz (optD o)), some (.fz (dueD o)), o13, o14, o15] := by
  have z2 : 2 ≤ sizeLine := szN (by decide)
  cases o with
  | none => simp [q5, optD, dueD, z2, atI, ixN]
  | some k => simp [q5, optD, dueD, z2, atI, ixN]
theorem f3_eq (x : Kx R U) {c b : Int} (hc : c.natAbs < 2 ^ 1048576) {D3 D4 D5 : T} (h3 : frz D3 = drD R U) (h4 : frz D4 = dicD kv) (h5 : frz D5 = dicD kv2) (ch : Cho U kv) (df : difK (nmsK (nmsR R)) (kv.map fun p => D.str p.1) = true) (few : Few U kv2) (hb : b ∈ [(1 : Int), 4, -2, 9, -1, 15]) :
    ∃ o1' o8' o9' o10' o11' o12' o13' o14' o15', b_law_f3 [o0, o1, some (.fz (wD (nmsR R) U)), some D3, some D4, some D5, some (.fz (.int b)), some (.fz (.int c)), o8, o9, o10, o11, o12, o13, o14, o15] = .nx [o0, o1', some (.fz (wD (nmsR R) U)), some (.fz (drD R U)), some (.fz (dicD kv)), some (.fz (dicD kv2)), some (.fz (.int b)), some (.fz (.int c)), o8', o9', o10', o11', o12', o13', o14', o15'] := by
  obtain ⟨t0, hp, pt⟩ := pool_ex hc
  have hS : ∀ e ∈ nmsR R, Wg e.nm := fun e he => wn_g (x.wn e he)
  obtain ⟨ws0, cs0, v0, t1, st0, p1, fv0, e1⟩ := sentence_eq (U := U) x.nd x.wb x.wn (by have := x.lS; omega) pt (by decide) x.pt
  obtain ⟨n0, l0, g0⟩ := sent_g hS st0
  obtain ⟨r, t2, hr, p2, e2⟩ := take8 3 p1 (by decide) (by decide) (by decide)
  simp only [Int.ofNat_eq_natCast, Int.cast_ofNat_Int] at e2
  have rl : (rangeD 0 r).length = r := by unfold rangeD; simp
  obtain ⟨ws, v, t3, j3, O9, fv, p3, lj, nw, gw, lw, lp⟩ := f0_loop (U := U) (o0 := o0) (o3 := some D3) (o4 := some D4) (o5 := some D5) (o6 := some (.fz (.int b))) (o7 := some (.fz (.int c))) (o10 := o10) (o11 := o11) (o12 := o12) (o13 := o13) (o14 := o14) (o15 := o15) hS (by have := x.lS; omega) (rangeD 0 r) ws0 (.fz (lsD ws0)) t2 _ o9 rfl p2 (by rw [rl]; omega) n0 g0 (by rw [rl]; omega)
  rw [rl] at lw lj
  have lw6 : ws.length ≤ 50 := by omega
  have sj := strsD_map ws
  have su := sumW gw lw6
  have z1 : (Str.ofString " ").length = 1 := by decide
  have sp : Txt.split (jn ws) (Str.ofString " ") = ws := split_spW (fun w hw => (gw w hw).2) nw
  have sz : (jn ws).length + 2 ≤ sizeLine := szN (by
    have := jnL (fun w hw => (gw w hw).1)
    have : ws.length * 101 ≤ 50 * 101 := Nat.mul_le_mul_right _ lw6
    omega)
  have fa := fault_eq (S := nmsR R) (U := U) nw lw6
  have jd : Txt.join (Str.ofString " ") ws = jn ws := rfl
  have s0 : q0 [o0, o1, some (.fz (wD (nmsR R) U)), some D3, some D4, some D5, some (.fz (.int b)), some (.fz (.int c)), o8, o9, o10, o11, o12, o13, o14, o15] = .nx [o0, some t0, some (.fz (wD (nmsR R) U)), some D3, some D4, some D5, some (.fz (.int b)), some (.fz (.int c)), o8, o9, o10, o11, o12, o13, o14, o15] := by
    generalize wD (nmsR R) U = WD at *
    simp [q0, hp]
  have s1 : q1 [o0, some t0, some (.fz (wD (nmsR R) U)), some D3, some D4, some D5, some (.fz (.int b)), some (.fz (.int c)), o8, o9, o10, o11, o12, o13, o14, o15] = .nx [o0, some t1, some (.fz (wD (nmsR R) U)), some D3, some D4, some D5, some (.fz (.int b)), some (.fz (.int c)), some (.fz (lsD ws0)), o9, o10, o11, o12, o13, o14, o15] := by
    generalize wD (nmsR R) U = WD at *
    generalize (D.lst (cs0.map lpD)) = CD at *
    simp [q1, e1, fv0, atI, ixN]
  have rg : range1D [.int (r : Int)] = some (rangeD 0 r) := range1_eq (by omega)
  have s2 : q2 [o0, some t1, some (.fz (wD (nmsR R) U)), some D3, some D4, some D5, some (.fz (.int b)), some (.fz (.int c)), some (.fz (lsD ws0)), o9, o10, o11, o12, o13, o14, o15] = .nx [o0, some t3, some (.fz (wD (nmsR R) U)), some D3, some D4, some D5, some (.fz (.int b)), some (.fz (.int c)), some v, O9, o10, o11, o12, o13, o14, o15] := by
    rw [← lp]
    generalize wD (nmsR R) U = WD at *
    generalize lsD ws0 = L0 at *
    simp [q2, e2, rg]
  have s3 : q3 [o0, some t3, some (.fz (wD (nmsR R) U)), some D3, some D4, some D5, some (.fz (.int b)), some (.fz (.int c)), some v, O9, o10, o11, o12, o13, o14, o15] = .nx [o0, some t3, some (.fz (wD (nmsR R) U)), some D3, some D4, some D5, some (.fz (.int b)), some (.fz (.int c)), some (.fz (.lst (ws.map D.str))), O9, some (.fz (.str (jn ws))), o11, o12, o13, o14, o15] := by
    generalize wD (nmsR R) U = WD at *
    simp [q3, fv, sj, z1, su, jd]
  have s4 : q4 [o0, some t3, some (.fz (wD (nmsR R) U)), some D3, some D4, some D5, some (.fz (.int b)), some (.fz (.int c)), some (.fz (.lst (ws.map D.str))), O9, some (.fz (.str (jn ws))), o11, o12, o13, o14, o15] = .nx [o0, some t3, some (.fz (wD (nmsR R) U)), some D3, some D4, some D5, some (.fz (.int b)), some (.fz (.int c)), some (.fz (.lst (ws.map D.str))), O9, some (.fz (.str (jn ws))), some (.fz (optD (flt (nmsR R) ws))), o12, o13, o14, o15] := by
    generalize wD (nmsR R) U = WD at *
    generalize jn ws = J at *
    simp [q4, sp, sz, z1, fa]
  have s5 := q5_eq (flt (nmsR R) ws) (a0 := o0) (a1 := some t3) (a2 := some (.fz (wD (nmsR R) U))) (a3 := some D3) (a4 := some D4) (a5 := some D5) (a6 := some (.fz (.int b))) (a7 := some (.fz (.int c))) (a8 := some (.fz (.lst (ws.map D.str)))) (a9 := O9) (a10 := some (.fz (.str (jn ws)))) (o12 := o12) (o13 := o13) (o14 := o14) (o15 := o15)
  have hle : ∀ k, flt (nmsR R) ws = some k → k ≤ 60 := fun k h => flt_le lw6 h
  have ask := fun (q : Nat) (hq : q < 3) p hp => q_all x gw nw lw6 ch df (p := p) hp q hq
  obtain ⟨u1, i1, a1⟩ := f1_eq (o0 := o0) (o2 := some (.fz (wD (nmsR R) U))) (o5 := some D5) (o6 := some (.fz (.int b))) (o7 := some (.fz (.int c))) (o8 := some (.fz (.lst (ws.map D.str)))) (o9 := O9) (o11 := some (.fz (optD (flt (nmsR R) ws)))) (o14 := o14) (o15 := o15) 0 (by decide) h3 h4 p3 (by omega) hle (ask 0 (by decide))
  obtain ⟨u2, i2, a2⟩ := f1_eq (o0 := o0) (o2 := some (.fz (wD (nmsR R) U))) (o5 := some D5) (o6 := some (.fz (.int b))) (o7 := some (.fz (.int c))) (o8 := some (.fz (.lst (ws.map D.str)))) (o9 := O9) (o11 := some (.fz (optD (flt (nmsR R) ws)))) (o14 := o14) (o15 := o15) (D3 := .fz (drD R U)) (D4 := .fz (dicD kv)) 1 (by decide) rfl rfl i1 (by omega) hle (ask 1 (by decide))
  obtain ⟨u3, i3, a3⟩ := f1_eq (o0 := o0) (o2 := some (.fz (wD (nmsR R) U))) (o5 := some D5) (o6 := some (.fz (.int b))) (o7 := some (.fz (.int c))) (o8 := some (.fz (.lst (ws.map D.str)))) (o9 := O9) (o11 := some (.fz (optD (flt (nmsR R) ws)))) (o14 := o14) (o15 := o15) (D3 := .fz (drD R U)) (D4 := .fz (dicD kv)) 2 (by decide) rfl rfl i2 (by omega) hle (ask 2 (by decide))
  simp only [Int.natCast_zero, Int.cast_ofNat_Int] at a1 a2 a3
  have s6 : q6 [o0, some t3, some (.fz (wD (nmsR R) U)), some D3, some D4, some D5, some (.fz (.int b)), some (.fz (.int c)), some (.fz (.lst (ws.map D.str))), O9, some (.fz (.str (jn ws))), some (.fz (optD (flt (nmsR R) ws))), some (.fz (dueD (flt (nmsR R) ws))), o13, o14, o15] = .nx [o0, some u3, some (.fz (wD (nmsR R) U)), some (.fz (drD R U)), some (.fz (dicD kv)), some D5, some (.fz (.int b)), some (.fz (.int c)), some (.fz (.lst (ws.map D.str))), O9, some (.fz (.str (jn ws))), some (.fz (optD (flt (nmsR R) ws))), some (.fz (dueD (flt (nmsR R) ws))), some (.fz (.int 2)), o14, o15] := by
    have rg3 : range1D [.int 3] = some [.int 0, .int 1, .int 2] := rfl
    generalize wD (nmsR R) U = WD at *
    generalize drD R U = DD at *
    generalize dicD kv = KD at *
    generalize dueD (flt (nmsR R) ws) = DU at *
    generalize optD (flt (nmsR R) ws) = OD at *
    simp [q6, rg3, loopF, a1, a2, a3]
  have b1 := f2_eq (o0 := o0) (o1 := some u3) (o2 := some (.fz (wD (nmsR R) U))) (o4 := some (.fz (dicD kv))) (o7 := some (.fz (.int c))) (o8 := some (.fz (.lst (ws.map D.str)))) (o9 := O9) (o11 := some (.fz (optD (flt (nmsR R) ws)))) (o12 := some (.fz (dueD (flt (nmsR R) ws)))) (o14 := o14) (o15 := o15) (D3 := .fz (drD R U)) (J := jn ws) 1 rfl h5 (q_bad (R := R) (U := U) (d := dicD kv2) hb 1 (by decide) (by decide))
  have b2 := f2_eq (o0 := o0) (o1 := some u3) (o2 := some (.fz (wD (nmsR R) U))) (o4 := some (.fz (dicD kv))) (o7 := some (.fz (.int c))) (o8 := some (.fz (.lst (ws.map D.str)))) (o9 := O9) (o11 := some (.fz (optD (flt (nmsR R) ws)))) (o12 := some (.fz (dueD (flt (nmsR R) ws)))) (o14 := o14) (o15 := o15) (D3 := .fz (drD R U)) (D5 := .fz (dicD kv2)) (J := jn ws) 2 rfl rfl (q_bad (R := R) (U := U) (d := dicD kv2) hb 2 (by decide) (by decide))
  simp only [Int.cast_ofNat_Int] at b1 b2
  have s7 : q7 [o0, some u3, some (.fz (wD (nmsR R) U)), some (.fz (drD R U)), some (.fz (dicD kv)), some D5, some (.fz (.int b)), some (.fz (.int c)), some (.fz (.lst (ws.map D.str))), O9, some (.fz (.str (jn ws))), some (.fz (optD (flt (nmsR R) ws))), some (.fz (dueD (flt (nmsR R) ws))), some (.fz (.int 2)), o14, o15] = .nx [o0, some u3, some (.fz (wD (nmsR R) U)), some (.fz (drD R U)), some (.fz (dicD kv)), some (.fz (dicD kv2)), some (.fz (.int b)), some (.fz (.int c)), some (.fz (.lst (ws.map D.str))), O9, some (.fz (.str (jn ws))), some (.fz (optD (flt (nmsR R) ws))), some (.fz (dueD (flt (nmsR R) ws))), some (.fz (.int 2)), o14, o15] := by
    have rg3 : range2D [.int 1, .int 3] = some [.int 1, .int 2] := rfl
    generalize wD (nmsR R) U = WD at *
    generalize drD R U = DD at *
    generalize dicD kv = KD at *
    generalize dicD kv2 = KD2 at *
    generalize dueD (flt (nmsR R) ws) = DU at *
    generalize optD (flt (nmsR R) ws) = OD at *
    simp [q7, rg3, loopF, b1, b2]
  have gu := get_unks (nmsR R) U
  have cu := cutT (usD U) 1
  have ml := mis_loop (o0 := o0) (o1 := some u3) (o2 := some (.fz (wD (nmsR R) U))) (o3 := some (.fz (drD R U))) (o4 := some (.fz (dicD kv))) (o5 := some (.fz (dicD kv2))) (o6 := some (.fz (.int b))) (o7 := some (.fz (.int c))) (o8 := some (.fz (.lst (ws.map D.str)))) (o9 := O9) (o10 := some (.fz (.str (jn ws)))) (o11 := some (.fz (optD (flt (nmsR R) ws)))) (o12 := some (.fz (dueD (flt (nmsR R) ws)))) (o13 := some (.fz (.int 2))) (o14 := o14) (U.take 1) [] (by simp; omega)
  have ex8 : ∃ M, (∃ m rest, frz M = .lst (m :: rest) ∧ m = misD U) ∧ q8 [o0, some u3, some (.fz (wD (nmsR R) U)), some (.fz (drD R U)), some (.fz (dicD kv)), some (.fz (dicD kv2)), some (.fz (.int b)), some (.fz (.int c)), some (.fz (.lst (ws.map D.str))), O9, some (.fz (.str (jn ws))), some (.fz (optD (flt (nmsR R) ws))), some (.fz (dueD (flt (nmsR R) ws))), some (.fz (.int 2)), o14, o15] = .nx [o0, some u3, some (.fz (wD (nmsR R) U)), some (.fz (drD R U)), some (.fz (dicD kv)), some (.fz (dicD kv2)), some (.fz (.int b)), some (.fz (.int c)), some (.fz (.lst (ws.map D.str))), O9, some (.fz (.str (jn ws))), some (.fz (optD (flt (nmsR R) ws))), some (.fz (dueD (flt (nmsR R) ws))), some (.fz (.int 2)), some M, none] := by
    have gs : gSl none (some 1) (.lst (usD U)) = some (.lst (((U.take 1).map D.str).map T.fz)) := by
      show some (T.lst ((cutD (usD U) none (some ((1 : Nat) : Int))).map T.fz)) = _
      rw [cu, usD, ← List.map_take]
    have f2 : frzs (((U.take 1).map D.str).map T.fz) = (U.take 1).map D.str := frzs_fz' _
    have z1 : 1 ≤ sizeLine := szN (by decide)
    have z2 : 2 ≤ sizeLine := szN (by decide)
    cases U with
    | nil =>
      refine ⟨.lst [.fz (.lst [])], ⟨.lst [], [], rfl, rfl⟩, ?_⟩
      simp only [List.take_nil, List.map_nil] at gs f2 ml
      generalize wD (nmsR R) [] = WD at *
      generalize drD R [] = DD at *
      generalize dicD kv = KD at *
      generalize dicD kv2 = KD2 at *
      generalize dueD (flt (nmsR R) ws) = DU at *
      generalize optD (flt (nmsR R) ws) = OD at *
      generalize usD [] = US at *
      simp [q8, gu, -gDGet, gs, -gSl, loopC, z1]
    | cons u V =>
      refine ⟨.lst [.fz (nmE u), .fz (.lst [])], ⟨nmE u, [.lst []], rfl, rfl⟩, ?_⟩
      simp only [List.take_succ_cons, List.take_zero, List.map_cons, List.map_nil, List.nil_append] at gs f2 ml
      generalize wD (nmsR R) (u :: V) = WD at *
      generalize drD R (u :: V) = DD at *
      generalize dicD kv = KD at *
      generalize dicD kv2 = KD2 at *
      generalize dueD (flt (nmsR R) ws) = DU at *
      generalize optD (flt (nmsR R) ws) = OD at *
      generalize usD (u :: V) = US at *
      simp [q8, gu, -gDGet, gs, -gSl, ml, z1, z2]
  obtain ⟨M, ⟨m, rest, fM, em⟩, s8⟩ := ex8
  have s9 : q9 [o0, some u3, some (.fz (wD (nmsR R) U)), some (.fz (drD R U)), some (.fz (dicD kv)), some (.fz (dicD kv2)), some (.fz (.int b)), some (.fz (.int c)), some (.fz (.lst (ws.map D.str))), O9, some (.fz (.str (jn ws))), some (.fz (optD (flt (nmsR R) ws))), some (.fz (dueD (flt (nmsR R) ws))), some (.fz (.int 2)), some M, none] = .nx [o0, some u3, some (.fz (wD (nmsR R) U)), some (.fz (drD R U)), some (.fz (dicD kv)), some (.fz (dicD kv2)), some (.fz (.int b)), some (.fz (.int c)), some (.fz (.lst (ws.map D.str))), O9, some (.fz (.str (jn ws))), some (.fz (optD (flt (nmsR R) ws))), some (.fz (dueD (flt (nmsR R) ws))), some (.fz (.int 2)), some (.fz (.lst (m :: rest))), none] := by
    obtain ⟨ta, fta, ask5⟩ := q_few x gw nw lw6 few
    have z2 : 2 ≤ sizeLine := szN (by decide)
    subst em
    have fin : ∀ (o : Option Nat), flt (nmsR R) ws = o → (∀ k, o = some k → k ≤ 60) → frz ta = (match o with | some k => atD k | none => misD U) → q9 [o0, some u3, some (.fz (wD (nmsR R) U)), some (.fz (drD R U)), some (.fz (dicD kv)), some (.fz (dicD kv2)), some (.fz (.int b)), some (.fz (.int c)), some (.fz (.lst (ws.map D.str))), O9, some (.fz (.str (jn ws))), some (.fz (optD o)), some (.fz (dueD o)), some (.fz (.int 2)), some M, none] = .nx [o0, some u3, some (.fz (wD (nmsR R) U)), some (.fz (drD R U)), some (.fz (dicD kv)), some (.fz (dicD kv2)), some (.fz (.int b)), some (.fz (.int c)), some (.fz (.lst (ws.map D.str))), O9, some (.fz (.str (jn ws))), some (.fz (optD o)), some (.fz (dueD o)), some (.fz (.int 2)), some (.fz (.lst (misD U :: rest))), none] := by
      intro o _ ho hta
      have nm : gEq2 true (misD U) (misD U) = some (.fz (.bl false)) := by
        cases hU : U with
        | nil => simp [misD]
        | cons u V =>
          have ok : PyData.strOk u = true := nm_okW (x.nU u (by rw [hU]; simp)).nm
          have e : okD (nmE u) 8 = true := by
            have : PyData.strOk (Str.ofString "name") = true := by decide +kernel
            simp [this, ok]
          exact ge_lst true e
      have q0' : (0 : Int) < (rest.length : Int) + 1 := by omega
      generalize wD (nmsR R) U = WD at *
      generalize drD R U = DD at *
      generalize dicD kv = KD at *
      generalize dicD kv2 = KD2 at *
      cases o with
      | none =>
        replace hta : frz ta = misD U := hta
        clear fta
        generalize misD U = MU at *
        simp [q9, ask5, hta, optD, dueD, fM, atI, ixN, q0', z2, nm, -gEq2]
      | some k =>
        replace hta : frz ta = atD k := hta
        clear fta
        have na := ne_due (o := some k) ho
        have na : gEq2 true (atD k) (atD k) = some (.fz (.bl false)) := na
        have de : dueD (some k) = atD k := rfl
        rw [de]
        generalize atD k = AK at *
        generalize misD U = MU at *
        simp [q9, ask5, hta, optD, fM, atI, ixN, q0', z2, na, -gEq2]
    exact fin _ rfl hle fta
  rw [q_parts, seq_nx s0, seq_nx s1, seq_nx s2, seq_nx s3, seq_nx s4, seq_nx s5, seq_nx s6, seq_nx s7, seq_nx s8, s9]
  exact ⟨_, _, _, _, _, _, _, _, _, rfl⟩
end
end DW.K82
set_option maxHeartbeats 4000000
namespace DW.K82
open PySem L2 DL
def c0 : MS := fSet 1 (fCall m__law_pool [] [none] (fCons (fCall m__law_cell [] [none, none] (fCons (fVar 0) (fCons (fC (.int 0)) (fNil)))) (fNil)))
def c1 : MS := fSet 2 (fCall m__law_world [1] [some 1, none, none] (fLateH 1 (fCons (fBin gAdd2 (fC (.int 4)) (fCall m__law_take [1] [some 1, none] (fMove 1 (fCons (fC (.int 5)) (fNil))))) (fCons (fC (.int 2)) (fNil)))))
def c2 : MS := fSet 3 (fMake 27 m_Drawing___init__ [none] (fCons (fJoin (fC (.str "\n")) (fBin gDGet (fVar 2) (fC (.str "rows")))) (fNil)))
def c3 : MS := fSet 4 (fCB (g1 gDictP) (fCons (fLc (iSeq (fBin gDGet (fVar 2) (fC (.str "unknowns")))) (sName 15) (fYes) b_law_e0 [15]) (fNil)))
def c4 : MS := fSet 5 (fCB (g1 gDictP) (fCons (fLc (iSeq (fSl (fBin gDGet (fVar 2) (fC (.str "unknowns"))) (fPt (fC (.int 1))) fNoP)) (sName 15) (fYes) b_law_e1 [15]) (fNil)))
def c5 : MS := fSet 6 (fBin gIx (fLst (fCons (fC (.int 1)) (fCons (fC (.int 4)) (fCons (fUn gNeg (fC (.int 2))) (fCons (fC (.int 9)) (fCons (fUn gNeg (fC (.int 1))) (fCons (fC (.int 15)) (fNil)))))))) (fCall m__law_take [1] [some 1, none] (fMove 1 (fCons (fC (.int 6)) (fNil)))))
def c6 : MS := fFor (iSeq (fBin gAdd2 (fLst (fCons (fCall m__law_cell [] [none, none] (fCons (fVar 0) (fCons (fC (.int 1)) (fNil)))) (fNil))) (fCB (g1 gList) (fCons (fSl (fVar 0) (fPt (fC (.int 2))) (fPt (fC (.int 6)))) (fNil))))) (sName 7) b_law_f3
def c7 : MS := fRet (fBin (gEq2 false) (fCall m__law_asked [] [none, none, none, none, none] (fCons (fC (.int 0)) (fCons (fVar 3) (fCons (fC (.str "")) (fCons (fVar 4) (fCons (fC (.int 0)) (fNil))))))) (fLst (fCons (fC (.str "at")) (fCons (fC (.int 0)) (fNil)))))
theorem c_parts : b_law = fSeq c0 (fSeq c1 (fSeq c2 (fSeq c3 (fSeq c4 (fSeq c5 (fSeq c6 c7)))))) := rfl
abbrev few2 (U : List Str) (kv : Kv) : Kv := (U.drop 1).map fun u => (u, (lkp kv u).getD 0)
theorem few_of {U : List Str} {kv : Kv} (nd : U.Nodup) (h : KvB 64 kv) : Few U (few2 U kv) := by
  refine ⟨lkp_bd fun q hq => ?_, fun h => by rw [h]; rfl, fun u V e => ?_⟩
  · obtain ⟨u, _, rfl⟩ := List.mem_map.mp hq
    cases e : lkp kv u with
    | none => show (0 : Int).natAbs < _; decide
    | some i => exact h u i e
  · subst e
    rw [lkp_no]
    intro p hp
    obtain ⟨v, hv, rfl⟩ := List.mem_map.mp hp
    exact fun z => (List.nodup_cons.mp nd).1 (z ▸ hv)
section
variable {R : List PE} {U : List Str} {o0 o1 o3 : Option T}
theorem c3_eq {S : List En} (nd : U.Nodup) (hU : U.length ≤ 4) {j : Nat} {t : T} (hp : IsPool j t) (hj : j < 90000) : ∃ (vs : List Int) (t' : T), vs.length = U.length ∧ (∀ i ∈ vs, 0 ≤ i ∧ i < 5) ∧ IsPool (j + U.length) t' ∧
    c3 [o0, some t, some (.fz (wD S U)), o3, none, none, none, none, none, none, none, none, none, none, none, none] = .nx [o0, some t', some (.fz (wD S U)), o3, some (dicT (U.zip vs)), none, none, none, none, none, none, none, none, none, none, none] := by
  obtain ⟨vs, t', lv, bv, p2, lp⟩ := ch_loop (o0 := o0) (o2 := some (.fz (wD S U))) (o3 := o3) (o4 := none) (o5 := none) (o6 := none) (o7 := none) (o8 := none) (o9 := none) (o10 := none) (o11 := none) (o12 := none) (o13 := none) (o14 := none) U [] j t hp (by omega) (by simp; omega)
  refine ⟨vs, t', lv, bv, p2, ?_⟩
  have gu := get_unks S U
  have fr : frzs ((U.zip vs).map fun p => T.fz (.tup [.str p.1, .int p.2])) = (U.zip vs).map fun p => D.tup [.str p.1, .int p.2] := frzs_map _ _
  have dp := dictP_eq (kv := U.zip vs) (by rw [zip_fst]; exact nd.sublist (List.take_sublist _ _)) (by simp; omega)
  rw [List.nil_append] at lp
  unfold usD at gu
  generalize wD S U = WD at *
  generalize ((U.zip vs).map fun p => T.fz (.tup [.str p.1, .int p.2])) = TS at *
  generalize ((U.zip vs).map fun p => D.tup [.str p.1, .int p.2]) = DS at *
  generalize dicT (U.zip vs) = DT at *
  simp [c3, gu, -gDGet, lp, fr, dp, -gDictP]
theorem c4_eq {S : List En} {kv : Kv} (nd : U.Nodup) (hU : U.length ≤ 4) (h : ∀ u ∈ U, (lkp kv u).isSome = true) : ∃ X', frz X' = dicD kv ∧ c4 [o0, o1, some (.fz (wD S U)), o3, some (dicT kv), none, none, none, none, none, none, none, none, none, none, none] = .nx [o0, o1, some (.fz (wD S U)), o3, some X', some (dicT (few2 U kv)), none, none, none, none, none, none, none, none, none, none] := by
  obtain ⟨X', hX, lp⟩ := fe_loop (kv := kv) (X := dicT kv) (o0 := o0) (o1 := o1) (o2 := some (.fz (wD S U))) (o3 := o3) (o5 := none) (o6 := none) (o7 := none) (o8 := none) (o9 := none) (o10 := none) (o11 := none) (o12 := none) (o13 := none) (o14 := none) (U.drop 1) [] (dicT kv) (frz_dicT kv) (fun u hu => h u (List.mem_of_mem_drop hu)) (by simp; omega)
  refine ⟨X', hX, ?_⟩
  have gu := get_unks S U
  have gs : gSl (some 1) none (.lst (usD U)) = some (.lst (((U.drop 1).map D.str).map T.fz)) := by
    show some (T.lst ((cutD (usD U) (some ((1 : Nat) : Int)) none).map T.fz)) = _
    rw [cutF, usD, ← List.map_drop]
  have f2 : frzs (((U.drop 1).map D.str).map T.fz) = (U.drop 1).map D.str := frzs_fz' _
  have fr : frzs ((U.drop 1).map fun u => T.fz (.tup [.str u, .int ((lkp kv u).getD 0)])) = (few2 U kv).map fun p => D.tup [.str p.1, .int p.2] := by
    rw [List.map_map]
    exact frzs_map (fun u => D.tup [.str u, .int ((lkp kv u).getD 0)]) _
  have dp := dictP_eq (kv := few2 U kv) (by
    rw [List.map_map]
    have : ((fun p : Str × Int => p.1) ∘ fun u => (u, (lkp kv u).getD 0)) = id := rfl
    rw [this, List.map_id]
    exact nd.sublist (List.drop_sublist _ _)) (by simp; omega)
  rw [List.nil_append] at lp
  generalize wD S U = WD at *
  generalize usD U = US at *
  generalize (U.drop 1).map D.str = UD at *
  generalize ((U.drop 1).map fun u => T.fz (.tup [.str u, .int ((lkp kv u).getD 0)])) = TS at *
  generalize few2 U kv = KV2 at *
  generalize (KV2.map fun p => D.tup [.str p.1, .int p.2]) = DS at *
  generalize dicT KV2 = DT2 at *
  generalize dicT kv = DT at *
  simp [c4, gu, -gDGet, gs, -gSl, f2, lp, fr, dp, -gDictP]
end
abbrev EvL (ns : List Int) (t : T) (S : List En) (U : List Str) (a3 a4 a5 a6 : Option T) : DL.Env := [some (.fz (scr ns)), some t, some (.fz (wD S U)), a3, a4, a5, a6, none, none, none, none, none, none, none, none, none]
theorem law_holds (ns : List Int) (hl : ns.length ≤ 63) (hw : Wide ns) : m_law [.fz (scr ns)] = .ok (.fz (.bl true)) [] := by
  obtain ⟨c, hc, bc⟩ := cell_ex hw 0
  obtain ⟨d1, hd1, bd1⟩ := cell_ex hw 1
  obtain ⟨t, hp, pt⟩ := pool_ex bc
  obtain ⟨r, t1, br, p1, e1⟩ := take8 5 pt (by decide) (by decide) (by decide)
  simp only [Int.ofNat_eq_natCast, Int.cast_ofNat_Int] at e1
  have hc : m__law_cell [.fz (scr ns), .fz (.int 0)] = .ok (.fz (.int c)) [] := hc
  have hd1 : m__law_cell [.fz (scr ns), .fz (.int 1)] = .ok (.fz (.int d1)) [] := hd1
  obtain ⟨S, U, t3, wd, sl, p3, e3⟩ := world_eq (n := 4 + r) lim3 (by omega) p1 (by decide)
  have h0 : S ≠ [] := fun z => by rw [z] at sl; simp at sl; omega
  obtain ⟨R, eR, pm, ini⟩ := init_eq lim3.t lim3.n2 (by decide) wd (by omega) h0
  subst eR
  have rl : R.length = (nmsR R).length := by simp [nmsR]
  have x : Kx R U := Kx.of few3' (by decide) fewP3 (by decide) (by decide) (by decide) wd (by omega) (by omega) h0 pm
  have n3 : ((4 + r : Nat) : Int) = 4 + (r : Int) := by omega
  rw [n3] at e3
  have e3 : m__law_world [t1, .fz (.int (4 + (r : Int))), .fz (.int 2)] = .ok (.fz (wD (nmsR R) U)) [t3] := e3
  have tx := wd.tx
  have gr := get_rows (nmsR R) U
  have sj : strsD (DW.rowsD (nmsR R)) = some ((nmsR R).map (·.row)) := by
    have := strsD_map ((nmsR R).map (·.row))
    rw [List.map_map] at this
    exact this
  have z1 : (Str.ofString "\n").length = 1 := by decide
  have szj : (((nmsR R).map (·.row)).map (·.length)).sum + ((nmsR R).map (·.row)).length ≤ 16777216 := by have := tx.1; omega
  have ej : Txt.join (Str.ofString "\n") ((nmsR R).map (·.row)) = txW (nmsR R) := rfl
  have s0 : c0 [some (.fz (scr ns)), none, none, none, none, none, none, none, none, none, none, none, none, none, none, none] = .nx [some (.fz (scr ns)), some t, none, none, none, none, none, none, none, none, none, none, none, none, none, none] := by
    generalize scr ns = SC at *
    simp [c0, hc, hp]
  have s1 : c1 [some (.fz (scr ns)), some t, none, none, none, none, none, none, none, none, none, none, none, none, none, none] = .nx (EvL ns t3 (nmsR R) U none none none none) := by
    unfold EvL
    generalize wD (nmsR R) U = WD at *
    generalize scr ns = SC at *
    simp [c1, e1, e3]
  have s2 : c2 (EvL ns t3 (nmsR R) U none none none none) = .nx (EvL ns t3 (nmsR R) U (some (drT R U)) none none none) := by
    unfold EvL
    generalize wD (nmsR R) U = WD at *
    generalize drT R U = DT at *
    generalize DW.rowsD (nmsR R) = RD at *
    generalize (nmsR R).map (·.row) = RS at *
    generalize scr ns = SC at *
    simp [c2, gr, -gDGet, sj, z1, szj, ej, ini]
  have pj : 1 + 10 * (4 + r) < 90000 := by omega
  obtain ⟨vs, t4, lv, bv, p4, s3⟩ := c3_eq (o0 := some (.fz (scr ns))) (o3 := some (drT R U)) (S := nmsR R) x.ndU x.lU p3 (by omega)
  have kb : KvB 64 (U.zip vs) := lkp_bd fun q hq => by
    have := bv q.2 (List.of_mem_zip hq).2
    exact Nat.lt_of_lt_of_le (show q.2.natAbs < 1000 by omega) (by decide)
  have ka : ∀ u ∈ U, (lkp (U.zip vs) u).isSome = true := lkp_zip (r := vs) (by omega)
  obtain ⟨X', hX, s4⟩ := c4_eq (o0 := some (.fz (scr ns))) (o1 := some t4) (o3 := some (drT R U)) (S := nmsR R) x.ndU x.lU ka
  have fw := few_of x.ndU kb
  obtain ⟨b6, t6, h6, p6, e6⟩ := take8 6 p4 (by decide) (by decide) (by have := x.lU; omega)
  simp only [Int.ofNat_eq_natCast, Int.cast_ofNat_Int] at e6
  obtain ⟨b, hb, ib⟩ : ∃ b ∈ [(1 : Int), 4, -2, 9, -1, 15], gIx (.lst [.int 1, .int 4, .int (-2), .int 9, .int (-1), .int 15]) (.int (b6 : Int)) = some (.fz (.int b)) := by
    have : b6 = 0 ∨ b6 = 1 ∨ b6 = 2 ∨ b6 = 3 ∨ b6 = 4 ∨ b6 = 5 := by omega
    rcases this with rfl | rfl | rfl | rfl | rfl | rfl
    · exact ⟨1, by simp, rfl⟩
    · exact ⟨4, by simp, rfl⟩
    · exact ⟨-2, by simp, rfl⟩
    · exact ⟨9, by simp, rfl⟩
    · exact ⟨-1, by simp, rfl⟩
    · exact ⟨15, by simp, rfl⟩
  have z6 : 6 ≤ sizeLine := szN (by decide)
  have s5 : c5 [some (.fz (scr ns)), some t4, some (.fz (wD (nmsR R) U)), some (drT R U), some X', some (dicT (few2 U (U.zip vs))), none, none, none, none, none, none, none, none, none, none] = .nx [some (.fz (scr ns)), some t6, some (.fz (wD (nmsR R) U)), some (drT R U), some X', some (dicT (few2 U (U.zip vs))), some (.fz (.int b)), none, none, none, none, none, none, none, none, none] := by
    generalize wD (nmsR R) U = WD at *
    generalize drT R U = DT at *
    generalize scr ns = SC at *
    generalize dicT (few2 U (U.zip vs)) = F2 at *
    simp [c5, e6, ib, -gIx, z6]
  have dfk : difK (nmsK (nmsR R)) ((U.zip vs).map fun p => D.str p.1) = true := x.difU vs
  obtain ⟨cs, hcs⟩ : ∃ cs, (ns.drop (HT.sIx (ns.map D.int).length 0 (some 2))).take (HT.sIx (ns.map D.int).length (ns.map D.int).length (some 6) - HT.sIx (ns.map D.int).length 0 (some 2)) = cs := ⟨_, rfl⟩
  have cut : cutD (ns.map D.int) (some 2) (some 6) = cs.map D.int := by
    rw [← hcs, List.map_take, List.map_drop]
    rfl
  have hm : ∀ c ∈ cs, c ∈ ns := fun c h => by
    rw [← hcs] at h
    exact List.mem_of_mem_drop (List.mem_of_mem_take h)
  have lcs : cs.length ≤ 63 := by
    rw [← hcs, List.length_take, List.length_drop]
    omega
  have frD := frz_drT R U
  have fr2 := frz_dicT (few2 U (U.zip vs))
  have step := fun {c : Int} (hc : c.natAbs < 2 ^ 1048576) {D3 D4 D5 : T} (h3 : frz D3 = drD R U) (h4 : frz D4 = dicD (U.zip vs)) (h5 : frz D5 = dicD (few2 U (U.zip vs))) (o1 o8 o9 o10 o11 o12 o13 o14 o15 : Option T) => f3_eq (o0 := some (.fz (scr ns))) (o1 := o1) (o8 := o8) (o9 := o9) (o10 := o10) (o11 := o11) (o12 := o12) (o13 := o13) (o14 := o14) (o15 := o15) x hc h3 h4 h5 ⟨kb, ka⟩ dfk fw hb
  have loop : ∀ (xs : List Int), (∀ c ∈ xs, c.natAbs < 2 ^ 1048576) → ∀ (D3 D4 D5 : T), frz D3 = drD R U → frz D4 = dicD (U.zip vs) → frz D5 = dicD (few2 U (U.zip vs)) → ∀ o1 o7 o8 o9 o10 o11 o12 o13 o14 o15, ∃ (D3' D4' D5' : T), frz D3' = drD R U ∧ frz D4' = dicD (U.zip vs) ∧ frz D5' = dicD (few2 U (U.zip vs)) ∧ ∃ o1' o7' o8' o9' o10' o11' o12' o13' o14' o15', loopF (sName 7) b_law_f3 (xs.map D.int) [some (.fz (scr ns)), o1, some (.fz (wD (nmsR R) U)), some D3, some D4, some D5, some (.fz (.int b)), o7, o8, o9, o10, o11, o12, o13, o14, o15] = .nx [some (.fz (scr ns)), o1', some (.fz (wD (nmsR R) U)), some D3', some D4', some D5', some (.fz (.int b)), o7', o8', o9', o10', o11', o12', o13', o14', o15'] := by
    intro xs
    induction xs with
    | nil => intro _ D3 D4 D5 h3 h4 h5 o1 o7 o8 o9 o10 o11 o12 o13 o14 o15; exact ⟨D3, D4, D5, h3, h4, h5, o1, o7, o8, o9, o10, o11, o12, o13, o14, o15, rfl⟩
    | cons y xs ih =>
      intro hx D3 D4 D5 h3 h4 h5 o1 o7 o8 o9 o10 o11 o12 o13 o14 o15
      obtain ⟨a1, a8, a9, a10, a11, a12, a13, a14, a15, e⟩ := step (hx y List.mem_cons_self) h3 h4 h5 o1 o8 o9 o10 o11 o12 o13 o14 o15
      obtain ⟨E3, E4, E5, g3, g4, g5, b1, b7, b8, b9, b10, b11, b12, b13, b14, b15, e2⟩ := ih (fun c h => hx c (List.mem_cons_of_mem _ h)) (.fz (drD R U)) (.fz (dicD (U.zip vs))) (.fz (dicD (few2 U (U.zip vs)))) rfl rfl rfl a1 (some (.fz (.int y))) a8 a9 a10 a11 a12 a13 a14 a15
      refine ⟨E3, E4, E5, g3, g4, g5, b1, b7, b8, b9, b10, b11, b12, b13, b14, b15, ?_⟩
      rw [List.map_cons, loopF_go (e := [some (.fz (scr ns)), o1, some (.fz (wD (nmsR R) U)), some D3, some D4, some D5, some (.fz (.int b)), some (.fz (.int y)), o8, o9, o10, o11, o12, o13, o14, o15]) (by simp) e]
      exact e2
  obtain ⟨D3, D4, D5, g3, g4, g5, b1, b7, b8, b9, b10, b11, b12, b13, b14, b15, lp⟩ := loop (d1 :: cs) (fun c h => by
    rcases List.mem_cons.mp h with rfl | h
    · exact bd1
    · exact hw c (hm c h)) (drT R U) X' (dicT (few2 U (U.zip vs))) frD hX fr2 (some t6) none none none none none none none none none
  clear loop step bc bd1 hw
  have fz := frzs_fz (cs.map D.int)
  have k1 : (1 : Nat) ≤ sizeLine := szN (by decide)
  have ln : 1 + (cs.map D.int).length ≤ sizeLine := szN (by rw [List.length_map]; omega)
  have ln' : (cs.map D.int).length + 1 ≤ sizeLine := szN (by rw [List.length_map]; omega)
  have ln'' : (cs.map D.int).length ≤ sizeLine := szN (by rw [List.length_map]; omega)
  have s6 : c6 [some (.fz (scr ns)), some t6, some (.fz (wD (nmsR R) U)), some (drT R U), some X', some (dicT (few2 U (U.zip vs))), some (.fz (.int b)), none, none, none, none, none, none, none, none, none] = .nx [some (.fz (scr ns)), b1, some (.fz (wD (nmsR R) U)), some D3, some D4, some D5, some (.fz (.int b)), b7, b8, b9, b10, b11, b12, b13, b14, b15] := by
    rw [List.map_cons] at lp
    clear s0 s1 s2 s3 s4 s5
    generalize wD (nmsR R) U = WD at *
    generalize drT R U = DT at *
    generalize dicT (few2 U (U.zip vs)) = F2 at *
    generalize cs.map D.int = CS at *
    simp [c6, hd1, cut, -cutD, fz, k1, ln, ln', ln'', lp]
  obtain ⟨ta, fta, ea⟩ := q_emp x (d := dicD (U.zip vs))
  have ge : gEq2 false (atD 0) (atD 0) = some (.fz (.bl true)) := ge_lst false (by decide +kernel)
  have ge : gEq2 false (atD 0) (.lst [.str (Str.ofString "at"), .int 0]) = some (.fz (.bl true)) := ge
  have z2 : 2 ≤ sizeLine := szN (by decide)
  have fin : m_law [.fz (scr ns)] = finF [] (b_law [some (.fz (scr ns)), none, none, none, none, none, none, none, none, none, none, none, none, none, none, none]) := rfl
  rw [fin, c_parts, seq_nx s0, seq_nx s1, seq_nx s2, seq_nx s3, seq_nx s4, seq_nx s5, seq_nx s6]
  clear s0 s1 s2 s3 s4 s5 s6 lp
  generalize wD (nmsR R) U = WD at *
  generalize drD R U = DD at *
  generalize dicD (U.zip vs) = KD at *
  generalize atD 0 = AK at *
  simp [c7, g3, g4, ea, fta, ge, -gEq2, z2]
end DW.K82
set_option maxHeartbeats 4000000
namespace DL
open PySem PySem.Spec PyProof.Rows L2
def isTup : HO → Bool
  | .tup _ => true
  | .frz _ (.tup _) => true
  | .frz _ (.dT _) => true
  | .xd _ => true
  | _ => false
inductive D where
  | non | bl (b : Bool) | int (i : Int) | str (x : Str) | ty (n : String)
  | cls (c : Nat)
  | lst (xs : List D) | tup (xs : List D)
  | obj (c : Nat) (ns : List Str) (xs : List D)
  | dic (ks : List D) (xs : List D)
  | xd (c : Nat) (ns : List Str) (xs : List D)
  | dit (kvs : List (List Str × Int))
  | wt (xs : List D)
  | val (v : V) | know (F : Hp) | raw (l : List (Addr × HO))
def ditH (kvs : List (List Str × Int)) : List (List Key × V) := kvs.map fun p => (p.1.map Sum.inr, V.int p.2)
inductive T where
  | fz (d : D)
  | lst (xs : List T)
  | obj (c : Nat) (ns : List Str) (xs : List T)
  | dic (ks : List D) (xs : List T)
  | raw (l : List (Addr × HO))
def SqU (K : PySem.W.Frag) (F : Hp) (a : Addr) (vs : List V) : Prop := SqT K F a vs ∧ ((∀ v ∈ vs, ∃ x, v = V.str x) → F a = some (.tup vs))
theorem SqU.of {K : PySem.W.Frag} {F : Hp} {a : Addr} {vs : List V} (h : F a = some (.tup vs)) : SqU K F a vs := ⟨SqT.of h, fun _ => h⟩
structure Wd where
  K : PySem.W.Frag
  C : Nat → Addr
section
variable (Z : Wd)
mutual
def Rp (F : Hp) : V → D → Prop
  | v, .non => v = .non
  | v, .bl b => v = .bl b
  | v, .int i => v = .int i
  | v, .str x => v = .str x
  | v, .ty n => v = .ty n
  | v, .cls c => v = .ref (Z.C c)
  | v, .lst ds => ∃ a vs, v = .ref a ∧ SqL Z.K F a vs ∧ Rps F vs ds
  | v, .tup ds => ∃ a vs, v = .ref a ∧ SqU Z.K F a vs ∧ Rps F vs ds
  | v, .obj c ns ds => ∃ a dx vs, v = .ref a ∧ F a = some (.ins (Z.C c) dx (ns.zip vs)) ∧ ns.length = vs.length ∧ Rps F vs ds
  | v, .dic ks ds => ∃ a kvs, v = .ref a ∧ F a = some (.dK kvs) ∧ Rps F (kvs.map fun p => kV p.1) ks ∧ Rps F (kvs.map fun p => p.2) ds
  | v, .xd _ ns ds => ∃ a vs, v = .ref a ∧ F a = some (.xd (ns.zip vs)) ∧ ns.length = vs.length ∧ Rps F vs ds
  | v, .dit kvs => ∃ a o, v = .ref a ∧ F a = some (.frz o (.dT (ditH kvs)))
  | v, .wt ds => ∃ a vs, v = .ref a ∧ SqT Z.K (fun _ => none) a vs ∧ Rps F vs ds
  | v, .val w => v = w
  | _, .know F0 => Same F0 F
  | _, .raw l => ∀ p ∈ l, F p.1 = some p.2
def Rps (F : Hp) : List V → List D → Prop
  | [], [] => True
  | v :: vs, d :: ds => Rp F v d ∧ Rps F vs ds
  | _, _ => False
end
mutual
def Own (F H : Hp) : V → T → List Addr → Prop
  | v, .fz d, fp => Rp Z F v d ∧ fp = []
  | v, .lst ts, fp => ∃ a vs fp', v = .ref a ∧ H a = some (.lst vs) ∧ Owns F H vs ts fp' ∧ fp = a :: fp'
  | v, .obj c ns ts, fp => ∃ a dx vs fp', v = .ref a ∧ H a = some (.ins (Z.C c) dx (ns.zip vs)) ∧ ns.length = vs.length ∧ H dx = some (.own a) ∧ Owns F H vs ts fp' ∧ fp = a :: dx :: fp'
  | v, .dic ks ts, fp => ∃ a kvs fp', v = .ref a ∧ H a = some (.dK kvs) ∧ Rps Z F (kvs.map fun p => kV p.1) ks ∧ Owns F H (kvs.map fun p => p.2) ts fp' ∧ fp = a :: fp'
  | _, .raw l, fp => (∀ p ∈ l, H p.1 = some p.2 ∧ isTup p.2 = false) ∧ fp = l.map (·.1)
def Owns (F H : Hp) : List V → List T → List Addr → Prop
  | [], [], fp => fp = []
  | v :: vs, t :: ts, fp => ∃ f1 f2, Own F H v t f1 ∧ Owns F H vs ts f2 ∧ fp = f1 ++ f2
  | _, _, _ => False
end
end
mutual
@[simp] def frz : T → D
  | .fz d => d
  | .lst ts => .lst (frzs ts)
  | .obj c ns ts => .obj c ns (frzs ts)
  | .dic ks ts => .dic ks (frzs ts)
  | .raw l => .raw l
@[simp] def frzs : List T → List D
  | [] => []
  | t :: ts => frz t :: frzs ts
end
theorem same_t {K : PySem.W.Frag} {H H' : Hp} {a : Addr} {xs : List V} (e : Same H H') (h : SqT K H a xs) : SqT K H' a xs := by
  rcases h with (h | ⟨o, h⟩) | h
  · exact .inl (.inl (e _ _ h))
  · exact .inl (.inr ⟨o, e _ _ h⟩)
  · exact .inr h
section
variable {Z : Wd} {F F' H H' : Hp}
mutual
theorem Rp.mono (s : Same F F') : ∀ {v : V} {d : D}, Rp Z F v d → Rp Z F' v d
  | _, .non, h => h
  | _, .bl _, h => h
  | _, .int _, h => h
  | _, .str _, h => h
  | _, .ty _, h => h
  | _, .cls _, h => h
  | _, .lst ds, h => by
    obtain ⟨a, vs, e, q, r⟩ := h
    exact ⟨a, vs, e, s.seq q, Rps.mono s (ds := ds) r⟩
  | _, .tup ds, h => by
    obtain ⟨a, vs, e, q, r⟩ := h
    exact ⟨a, vs, e, ⟨same_t s q.1, fun z => s _ _ (q.2 z)⟩, Rps.mono s (ds := ds) r⟩
  | _, .obj c ns ds, h => by
    obtain ⟨a, dx, vs, e, q, l, r⟩ := h
    exact ⟨a, dx, vs, e, s _ _ q, l, Rps.mono s (ds := ds) r⟩
  | _, .dic ks ds, h => by
    obtain ⟨a, kvs, e, q, l, r⟩ := h
    exact ⟨a, kvs, e, s _ _ q, Rps.mono s (ds := ks) l, Rps.mono s (ds := ds) r⟩
  | _, .xd _ ns ds, h => by
    obtain ⟨a, vs, e, q, l, r⟩ := h
    exact ⟨a, vs, e, s _ _ q, l, Rps.mono s (ds := ds) r⟩
  | _, .dit _, h => by
    obtain ⟨a, o, e, q⟩ := h
    exact ⟨a, o, e, s _ _ q⟩
  | _, .wt ds, h => by
    obtain ⟨a, vs, e, q, r⟩ := h
    exact ⟨a, vs, e, q, Rps.mono s (ds := ds) r⟩
  | _, .val _, h => h
  | _, .know _, h => fun b x e => s b x (h b x e)
  | _, .raw _, h => fun p hp => s _ _ (h p hp)
theorem Rps.mono (s : Same F F') : ∀ {vs : List V} {ds : List D}, Rps Z F vs ds → Rps Z F' vs ds
  | [], [], _ => trivial
  | _ :: _, d :: ds, h => ⟨Rp.mono s (d := d) h.1, Rps.mono s (ds := ds) h.2⟩
  | [], _ :: _, h => h
  | _ :: _, [], h => h
end
theorem Rps.length : ∀ {vs : List V} {ds : List D}, Rps Z F vs ds → vs.length = ds.length
  | [], [], _ => rfl
  | _ :: _, _ :: _, h => congrArg (· + 1) (Rps.length h.2)
  | [], _ :: _, h => h.elim
  | _ :: _, [], h => h.elim
theorem Rps.get : ∀ {vs : List V} {ds : List D} {i : Nat} {d : D}, Rps Z F vs ds → ds[i]? = some d → ∃ v, vs[i]? = some v ∧ Rp Z F v d
  | [], [], _, _, _, e => by simp at e
  | v :: vs, d :: ds, 0, _, h, e => by
    have e : d = _ := Option.some.inj e
    subst e
    exact ⟨v, rfl, h.1⟩
  | v :: vs, d :: ds, i + 1, x, h, e => Rps.get (vs := vs) (ds := ds) (i := i) (d := x) h.2 e
  | [], _ :: _, _, _, h, _ => h.elim
  | _ :: _, [], _, _, h, _ => h.elim
theorem Rps.append : ∀ {vs ws : List V} {ds es : List D}, Rps Z F vs ds → Rps Z F ws es → Rps Z F (vs ++ ws) (ds ++ es)
  | [], _, [], _, _, h => h
  | _ :: _, _, _ :: _, _, h, h' => ⟨h.1, Rps.append h.2 h'⟩
  | [], _, _ :: _, _, h, _ => h.elim
  | _ :: _, _, [], _, h, _ => h.elim
mutual
theorem Own.stay (s : Same F F') : ∀ {v : V} {t : T} {fp : List Addr}, Own Z F H v t fp → (∀ b ∈ fp, H' b = H b) → Own Z F' H' v t fp
  | _, .fz d, _, h, _ => ⟨Rp.mono s h.1, h.2⟩
  | _, .lst ts, _, h, k => by
    obtain ⟨a, vs, fp', e, q, r, rfl⟩ := h
    exact ⟨a, vs, fp', e, (k a (List.mem_cons_self ..)).trans q, Owns.stay s (ts := ts) r fun b hb => k b (List.mem_cons_of_mem _ hb), rfl⟩
  | _, .obj c ns ts, _, h, k => by
    obtain ⟨a, dx, vs, fp', e, q, l, qd, r, rfl⟩ := h
    exact ⟨a, dx, vs, fp', e, (k a (List.mem_cons_self ..)).trans q, l, (k dx (List.mem_cons_of_mem _ (List.mem_cons_self ..))).trans qd, Owns.stay s (ts := ts) r fun b hb => k b (List.mem_cons_of_mem _ (List.mem_cons_of_mem _ hb)), rfl⟩
  | _, .dic ks ts, _, h, k => by
    obtain ⟨a, kvs, fp', e, q, l, r, rfl⟩ := h
    exact ⟨a, kvs, fp', e, (k a (List.mem_cons_self ..)).trans q, Rps.mono s l, Owns.stay s (ts := ts) r fun b hb => k b (List.mem_cons_of_mem _ hb), rfl⟩
  | _, .raw l, _, h, k => ⟨fun p hp => ⟨(k p.1 (by rw [h.2]; exact List.mem_map_of_mem hp)).trans (h.1 p hp).1, (h.1 p hp).2⟩, h.2⟩
theorem Owns.stay (s : Same F F') : ∀ {vs : List V} {ts : List T} {fp : List Addr}, Owns Z F H vs ts fp → (∀ b ∈ fp, H' b = H b) → Owns Z F' H' vs ts fp
  | [], [], _, h, _ => h
  | _ :: _, t :: ts, _, h, k => by
    obtain ⟨f1, f2, h1, h2, rfl⟩ := h
    exact ⟨f1, f2, Own.stay s (t := t) h1 fun b hb => k b (List.mem_append_left _ hb), Owns.stay s (ts := ts) h2 fun b hb => k b (List.mem_append_right _ hb), rfl⟩
  | [], _ :: _, _, h, _ => h
  | _ :: _, [], _, h, _ => h
end
mutual
theorem Own.there : ∀ {v : V} {t : T} {fp : List Addr}, Own Z F H v t fp → ∀ b ∈ fp, ∃ o, H b = some o
  | _, .fz d, _, h, b, hb => by rw [h.2] at hb; cases hb
  | _, .lst ts, _, h, b, hb => by
    obtain ⟨a, vs, fp', e, q, r, rfl⟩ := h
    rcases List.mem_cons.mp hb with rfl | hb
    · exact ⟨_, q⟩
    · exact Owns.there (ts := ts) r b hb
  | _, .obj c ns ts, _, h, b, hb => by
    obtain ⟨a, dx, vs, fp', e, q, l, qd, r, rfl⟩ := h
    rcases List.mem_cons.mp hb with rfl | hb
    · exact ⟨_, q⟩
    rcases List.mem_cons.mp hb with rfl | hb
    · exact ⟨_, qd⟩
    · exact Owns.there (ts := ts) r b hb
  | _, .dic ks ts, _, h, b, hb => by
    obtain ⟨a, kvs, fp', e, q, l, r, rfl⟩ := h
    rcases List.mem_cons.mp hb with rfl | hb
    · exact ⟨_, q⟩
    · exact Owns.there (ts := ts) r b hb
  | _, .raw l, _, h, b, hb => by
    rw [h.2] at hb
    obtain ⟨p, hp, rfl⟩ := List.mem_map.mp hb
    exact ⟨_, (h.1 p hp).1⟩
theorem Owns.there : ∀ {vs : List V} {ts : List T} {fp : List Addr}, Owns Z F H vs ts fp → ∀ b ∈ fp, ∃ o, H b = some o
  | [], [], _, h, b, hb => by
    have h : _ = [] := h
    rw [h] at hb; cases hb
  | _ :: _, t :: ts, _, h, b, hb => by
    obtain ⟨f1, f2, h1, h2, rfl⟩ := h
    rcases List.mem_append.mp hb with hb | hb
    · exact Own.there (t := t) h1 b hb
    · exact Owns.there (ts := ts) h2 b hb
  | [], _ :: _, _, h, _, _ => h.elim
  | _ :: _, [], _, h, _, _ => h.elim
end
mutual
theorem Own.frz (s : Same F F') : ∀ {v : V} {t : T} {fp : List Addr}, Own Z F H v t fp → (∀ b ∈ fp, F' b = H b) → Rp Z F' v (frz t)
  | _, .fz d, _, h, _ => Rp.mono s h.1
  | _, .lst ts, _, h, k => by
    obtain ⟨a, vs, fp', e, q, r, rfl⟩ := h
    exact ⟨a, vs, e, SqL.of ((k a (List.mem_cons_self ..)).trans q), Owns.frz s (ts := ts) r fun b hb => k b (List.mem_cons_of_mem _ hb)⟩
  | _, .obj c ns ts, _, h, k => by
    obtain ⟨a, dx, vs, fp', e, q, l, qd, r, rfl⟩ := h
    exact ⟨a, dx, vs, e, (k a (List.mem_cons_self ..)).trans q, l, Owns.frz s (ts := ts) r fun b hb => k b (List.mem_cons_of_mem _ (List.mem_cons_of_mem _ hb))⟩
  | _, .dic ks ts, _, h, k => by
    obtain ⟨a, kvs, fp', e, q, l, r, rfl⟩ := h
    exact ⟨a, kvs, e, (k a (List.mem_cons_self ..)).trans q, Rps.mono s l, Owns.frz s (ts := ts) r fun b hb => k b (List.mem_cons_of_mem _ hb)⟩
  | _, .raw l, _, h, k => fun p hp => (k p.1 (by rw [h.2]; exact List.mem_map_of_mem hp)).trans (h.1 p hp).1
theorem Owns.frz (s : Same F F') : ∀ {vs : List V} {ts : List T} {fp : List Addr}, Owns Z F H vs ts fp → (∀ b ∈ fp, F' b = H b) → Rps Z F' vs (frzs ts)
  | [], [], _, _, _ => trivial
  | _ :: _, t :: ts, _, h, k => by
    obtain ⟨f1, f2, h1, h2, rfl⟩ := h
    exact ⟨Own.frz s (t := t) h1 fun b hb => k b (List.mem_append_left _ hb), Owns.frz s (ts := ts) h2 fun b hb => k b (List.mem_append_right _ hb)⟩
  | [], _ :: _, _, h, _ => h
  | _ :: _, [], _, h, _ => h
end
theorem Owns.append : ∀ {vs ws : List V} {ts us : List T} {f g : List Addr}, Owns Z F H vs ts f → Owns Z F H ws us g → Owns Z F H (vs ++ ws) (ts ++ us) (f ++ g)
  | [], _, [], _, _, _, h, h' => by
    have h : _ = [] := h
    rw [h]; exact h'
  | v :: vs, ws, t :: ts, us, _, g, h, h' => by
    obtain ⟨f1, f2, h1, h2, rfl⟩ := h
    exact ⟨f1, f2 ++ g, h1, Owns.append h2 h', List.append_assoc ..⟩
  | [], _, _ :: _, _, _, _, h, _ => h.elim
  | _ :: _, _, [], _, _, _, h, _ => h.elim
theorem Owns.split : ∀ {vs ws : List V} {ts us : List T} {f : List Addr}, vs.length = ts.length → Owns Z F H (vs ++ ws) (ts ++ us) f → ∃ f1 f2, Owns Z F H vs ts f1 ∧ Owns Z F H ws us f2 ∧ f = f1 ++ f2
  | [], _, [], _, f, _, h => ⟨[], f, rfl, h, rfl⟩
  | v :: vs, ws, t :: ts, us, _, l, h => by
    obtain ⟨f1, f2, h1, h2, rfl⟩ := h
    obtain ⟨g1, g2, k1, k2, rfl⟩ := Owns.split (vs := vs) (ts := ts) (Nat.succ.inj l) h2
    exact ⟨f1 ++ g1, g2, ⟨f1, g1, h1, k1, rfl⟩, k2, (List.append_assoc ..).symm⟩
  | [], _, _ :: _, _, _, l, _ => by cases l
  | _ :: _, _, [], _, _, l, _ => by cases l
theorem Owns.length : ∀ {vs : List V} {ts : List T} {f : List Addr}, Owns Z F H vs ts f → vs.length = ts.length
  | [], [], _, _ => rfl
  | _ :: _, _ :: _, _, h => by
    obtain ⟨f1, f2, h1, h2, rfl⟩ := h
    exact congrArg (· + 1) (Owns.length h2)
  | [], _ :: _, _, h => h.elim
  | _ :: _, [], _, h => h.elim
end
end DL
set_option maxHeartbeats 4000000
namespace DL
open PySem PySem.Spec PyProof.Rows L2
def OwnR (Z : Wd) (F H : Hp) : List (V × T) → List Addr → Prop
  | [], fp => fp = []
  | r :: rs, fp => ∃ f1 f2, Own Z F H r.1 r.2 f1 ∧ OwnR Z F H rs f2 ∧ fp = f1 ++ f2
def Roots (Z : Wd) (H : Hp) (rs : List (V × T)) : Prop := ∃ F fp, Same F H ∧ OwnR Z F H rs fp ∧ fp.Nodup ∧ ∀ p ∈ fp, F p = none
section
variable {Z : Wd} {F F' H H' : Hp}
theorem OwnR.stay (s : Same F F') : ∀ {rs : List (V × T)} {fp : List Addr}, OwnR Z F H rs fp → (∀ b ∈ fp, H' b = H b) → OwnR Z F' H' rs fp
  | [], _, h, _ => h
  | r :: rs, _, h, k => by
    obtain ⟨f1, f2, h1, h2, rfl⟩ := h
    exact ⟨f1, f2, Own.stay s h1 fun b hb => k b (List.mem_append_left _ hb), OwnR.stay s h2 fun b hb => k b (List.mem_append_right _ hb), rfl⟩
theorem OwnR.there : ∀ {rs : List (V × T)} {fp : List Addr}, OwnR Z F H rs fp → ∀ b ∈ fp, ∃ o, H b = some o
  | [], _, h, b, hb => by
    have h : _ = [] := h
    rw [h] at hb; cases hb
  | r :: rs, _, h, b, hb => by
    obtain ⟨f1, f2, h1, h2, rfl⟩ := h
    rcases List.mem_append.mp hb with hb | hb
    · exact Own.there h1 b hb
    · exact OwnR.there h2 b hb
theorem OwnR.append : ∀ {rs qs : List (V × T)} {f g : List Addr}, OwnR Z F H rs f → OwnR Z F H qs g → OwnR Z F H (rs ++ qs) (f ++ g)
  | [], _, _, _, h, h' => by
    have h : _ = [] := h
    rw [h]; exact h'
  | r :: rs, qs, _, g, h, h' => by
    obtain ⟨f1, f2, h1, h2, rfl⟩ := h
    exact ⟨f1, f2 ++ g, h1, OwnR.append h2 h', List.append_assoc ..⟩
theorem OwnR.split : ∀ {rs qs : List (V × T)} {f : List Addr}, OwnR Z F H (rs ++ qs) f → ∃ f1 f2, OwnR Z F H rs f1 ∧ OwnR Z F H qs f2 ∧ f = f1 ++ f2
  | [], _, f, h => ⟨[], f, rfl, h, rfl⟩
  | r :: rs, qs, _, h => by
    obtain ⟨f1, f2, h1, h2, rfl⟩ := h
    obtain ⟨g1, g2, k1, k2, rfl⟩ := OwnR.split (rs := rs) h2
    exact ⟨f1 ++ g1, g2, ⟨f1, g1, h1, k1, rfl⟩, k2, (List.append_assoc ..).symm⟩
theorem OwnR.perm {rs qs : List (V × T)} (p : rs.Perm qs) : ∀ {f : List Addr}, OwnR Z F H rs f → ∃ g, OwnR Z F H qs g ∧ f.Perm g := by
  induction p with
  | nil => exact fun h => ⟨_, h, .refl _⟩
  | cons x _ ih =>
    rintro f ⟨f1, f2, h1, h2, rfl⟩
    obtain ⟨g, h, q⟩ := ih h2
    exact ⟨f1 ++ g, ⟨f1, g, h1, h, rfl⟩, q.append_left f1⟩
  | swap x y l =>
    rintro f ⟨f1, f2, h1, ⟨f3, f4, h3, h4, rfl⟩, rfl⟩
    refine ⟨f3 ++ (f1 ++ f4), ⟨f3, f1 ++ f4, h3, ⟨f1, f4, h1, h4, rfl⟩, rfl⟩, ?_⟩
    rw [← List.append_assoc, ← List.append_assoc]
    exact List.perm_append_comm.append_right f4
  | trans _ _ ih1 ih2 =>
    intro f h
    obtain ⟨g, h1, q1⟩ := ih1 h
    obtain ⟨k, h2, q2⟩ := ih2 h1
    exact ⟨k, h2, q1.trans q2⟩
theorem Roots.perm {rs qs : List (V × T)} (h : Roots Z H rs) (p : rs.Perm qs) : Roots Z H qs := by
  obtain ⟨F, f, s, o, n, d⟩ := h
  obtain ⟨g, o', q⟩ := OwnR.perm p o
  exact ⟨F, g, s, o', q.nodup_iff.mp n, fun b hb => d b (q.mem_iff.mpr hb)⟩
theorem Roots.drop {r : V × T} {rs : List (V × T)} (h : Roots Z H (r :: rs)) : Roots Z H rs := by
  obtain ⟨F, _, s, ⟨f1, f2, _, o, rfl⟩, n, d⟩ := h
  exact ⟨F, f2, s, o, (List.nodup_append.mp n).2.1, fun b hb => d b (List.mem_append_right _ hb)⟩
theorem Roots.freeze {v : V} {t : T} {rs : List (V × T)} (h : Roots Z H ((v, t) :: rs)) : Roots Z H ((v, .fz (frz t)) :: rs) := by
  obtain ⟨F, _, s, ⟨f1, f2, o1, o, rfl⟩, n, d⟩ := h
  have nd := List.nodup_append.mp n
  let F' : Hp := fun b => if b ∈ f1 then H b else F b
  have in1 : ∀ b ∈ f1, F' b = H b := fun b hb => if_pos hb
  have out : ∀ b, b ∉ f1 → F' b = F b := fun b hb => if_neg hb
  have s1 : Same F F' := fun b x e => by
    have nb : b ∉ f1 := fun hb => by
      rw [d b (List.mem_append_left _ hb)] at e
      cases e
    rw [out b nb]; exact e
  refine ⟨F', f2, fun b x e => ?_, ⟨[], f2, ⟨Own.frz s1 o1 in1, rfl⟩, OwnR.stay s1 o fun _ _ => rfl, rfl⟩, nd.2.1, fun b hb => ?_⟩
  · by_cases hb : b ∈ f1
    · rw [in1 b hb] at e; exact e
    · rw [out b hb] at e; exact s b x e
  · rw [out b fun h1 => nd.2.2 b h1 b hb rfl]
    exact d b (List.mem_append_right _ hb)
theorem same_new {p : Addr} {o : HO} (h : H p = none) : Same H (upd H p o) := fun b x e => by
  rw [upd_ne (ne_of_none e h)]; exact e
theorem Roots.other {p : Addr} {o : HO} {rs : List (V × T)} (h : Roots Z H rs) (hp : H p = none) : Roots Z (upd H p o) rs := by
  obtain ⟨F, f, s, ow, n, d⟩ := h
  refine ⟨F, f, s.trans (same_new hp), OwnR.stay (Same.refl F) ow fun b hb => ?_, n, d⟩
  obtain ⟨x, e⟩ := ow.there b hb
  exact upd_ne (ne_of_none e hp)
theorem OwnR.of : ∀ {vs : List V} {ts : List T} {f : List Addr}, vs.length = ts.length → OwnR Z F H (vs.zip ts) f → Owns Z F H vs ts f
  | [], [], _, _, h => h
  | v :: vs, t :: ts, _, l, h => by
    obtain ⟨f1, f2, h1, h2, e⟩ := h
    exact ⟨f1, f2, h1, OwnR.of (Nat.succ.inj l) h2, e⟩
  | [], _ :: _, _, l, _ => by cases l
  | _ :: _, [], _, l, _ => by cases l
theorem Owns.to : ∀ {vs : List V} {ts : List T} {f : List Addr}, Owns Z F H vs ts f → OwnR Z F H (vs.zip ts) f
  | [], [], _, h => h
  | v :: vs, t :: ts, _, h => by
    obtain ⟨f1, f2, h1, h2, e⟩ := h
    exact ⟨f1, f2, h1, Owns.to h2, e⟩
  | [], _ :: _, _, h => h.elim
  | _ :: _, [], _, h => h.elim
theorem Roots.fz {v : V} {d : D} {rs : List (V × T)} (h : Roots Z H ((v, .fz d) :: rs)) : Rp Z H v d := by
  obtain ⟨F, _, s, ⟨f1, f2, o1, o, rfl⟩, n, _⟩ := h
  exact Rp.mono s o1.1
theorem Roots.int {v : V} {i : Int} {rs : List (V × T)} (h : Roots Z H ((v, .fz (.int i)) :: rs)) : v = .int i := h.fz
theorem Roots.add {v : V} {d : D} {rs : List (V × T)} (h : Roots Z H rs) (k : ∀ F, Rp Z F v d) : Roots Z H ((v, .fz d) :: rs) := by
  obtain ⟨F, f, s, o, n, e⟩ := h
  exact ⟨F, f, s, ⟨[], f, ⟨k F, rfl⟩, o, rfl⟩, n, e⟩
theorem Roots.lst {v : V} {ts : List T} {rs : List (V × T)} (h : Roots Z H ((v, .lst ts) :: rs)) : ∃ p vs, v = .ref p ∧ H p = some (.lst vs) ∧ vs.length = ts.length := by
  obtain ⟨F, _, s, ⟨_, f2, ⟨a, ws', f1, e1, e2, o1, rfl⟩, o2, rfl⟩, n, d⟩ := h
  exact ⟨a, ws', e1, e2, o1.length⟩
end
abbrev Env := List (Option T)
def slots : L2.St → Env → List (V × T)
  | some v :: σ, some t :: env => (v, t) :: slots σ env
  | _ :: σ, _ :: env => slots σ env
  | _, _ => []
def Fit (σ : L2.St) (env : Env) : Prop := σ.length = env.length ∧ ∀ (i : Nat) (t : T), env[i]? = some (some t) → ∃ v, σ[i]? = some (some v)
theorem slots_set : ∀ {σ : L2.St} {env : Env} {i : Nat} {v : V} {t : T}, i < σ.length → i < env.length → (slots (σ.set i (some v)) (env.set i (some t))).Perm ((v, t) :: slots σ (env.set i none))
  | [], _, _, _, _, h, _ => by simp at h
  | _ :: _, [], _, _, _, _, h => by simp at h
  | o :: σ, e :: env, 0, v, t, _, _ => by cases o <;> exact .refl _
  | o :: σ, e :: env, i + 1, v, t, h, h' => by
    have ih := slots_set (σ := σ) (env := env) (i := i) (v := v) (t := t) (by simpa using h) (by simpa using h')
    cases o <;> cases e <;> first | exact ih | exact (ih.cons _).trans (.swap ..)
theorem set_self {α : Type} : ∀ {l : List α} {i : Nat} {a : α}, l[i]? = some a → l.set i a = l
  | [], _, _, _ => rfl
  | x :: l, 0, a, h => by
    have e : x = a := Option.some.inj h
    rw [e]; rfl
  | x :: l, i + 1, a, h => by
    show x :: l.set i a = x :: l
    rw [set_self (l := l) h]
theorem lt_of_get {α : Type} {l : List α} {i : Nat} {a : α} (h : l[i]? = some a) : i < l.length := (List.getElem?_eq_some_iff.mp h).1
theorem slots_get {σ : L2.St} {env : Env} {i : Nat} {v : V} {t : T} (h : σ[i]? = some (some v)) (h' : env[i]? = some (some t)) : (slots σ env).Perm ((v, t) :: slots σ (env.set i none)) := by
  have p := slots_set (v := v) (t := t) (lt_of_get h) (lt_of_get h')
  rw [set_self h, set_self h'] at p
  exact p
end DL
set_option maxHeartbeats 4000000
namespace DL
open PySem PySem.Spec PyProof.Rows L2
structure Sg where
  Z : Wd
  io : List Nat
  s0 : L2.St
  n : Nat
  hot : Bool
structure Ex where
  c : Nat
  d : Option (List Str × List D)
inductive R (α : Type) where
  | ok (a : α) (env : Env) | ex (x : Ex) (env : Env) | no
@[simp] def R.bind {α β : Type} (r : R α) (k : α → Env → R β) : R β := match r with
  | .ok a env => k a env
  | .ex x env => .ex x env
  | .no => .no
abbrev M (α : Type) := Env → R α
def Rel (G : Sg) (H : Hp) (σ : L2.St) (env : Env) (ex : List (V × T)) : Prop :=
  Fit σ env ∧ (env.length = G.n ∧ ∀ i ∈ G.io, σ[i]? = G.s0[i]?) ∧ Roots G.Z H (slots σ env ++ ex)
section
variable {G : Sg} {H H' : Hp} {σ : L2.St} {env : Env} {ex l : List (V × T)}
theorem Rel.out (h : Rel G H σ env (l ++ ex)) : Roots G.Z H (l ++ (slots σ env ++ ex)) := by
  refine h.2.2.perm ?_
  rw [← List.append_assoc, ← List.append_assoc]
  exact List.perm_append_comm.append_right ex
theorem Rel.back {ex0 : List (V × T)} (h : Rel G H σ env ex0) (r : Roots G.Z H' (l ++ (slots σ env ++ ex))) : Rel G H' σ env (l ++ ex) := by
  refine ⟨h.1, h.2.1, r.perm ?_⟩
  rw [← List.append_assoc, ← List.append_assoc]
  exact List.perm_append_comm.append_right ex
theorem Rel.out1 {r : V × T} (h : Rel G H σ env (r :: ex)) : Roots G.Z H (r :: (slots σ env ++ ex)) := Rel.out (l := [r]) h
theorem Rel.back1 {r : V × T} {ex0 : List (V × T)} (h : Rel G H σ env ex0) (q : Roots G.Z H' (r :: (slots σ env ++ ex))) : Rel G H' σ env (r :: ex) := Rel.back (l := [r]) h q
theorem Rel.drop {r : V × T} (h : Rel G H σ env (r :: ex)) : Rel G H σ env ex := Rel.back (l := []) h h.out1.drop
theorem Rel.drops : ∀ {l : List (V × T)}, Rel G H σ env (l ++ ex) → Rel G H σ env ex
  | [], h => h
  | _ :: l, h => Rel.drops (l := l) h.drop
theorem Rel.freeze {v : V} {t : T} (h : Rel G H σ env ((v, t) :: ex)) : Rel G H σ env ((v, .fz (frz t)) :: ex) := h.back1 h.out1.freeze
theorem Rel.perm {ex' : List (V × T)} (h : Rel G H σ env ex) (p : ex.Perm ex') : Rel G H σ env ex' := ⟨h.1, h.2.1, h.2.2.perm (p.append_left _)⟩
theorem fit_set {v : V} {t : Option T} {i : Nat} (f : Fit σ env) : Fit (σ.set i (some v)) (env.set i t) := by
  refine ⟨by simpa using f.1, fun j u e => ?_⟩
  by_cases h : i = j
  · subst h
    by_cases hl : i < env.length
    · exact ⟨v, List.getElem?_set_self (by rw [f.1]; exact hl)⟩
    · rw [List.getElem?_eq_none (by simpa using hl)] at e
      cases e
  · rw [List.getElem?_set_ne h] at e ⊢
    exact f.2 j u e
theorem fit_none {i : Nat} (f : Fit σ env) : Fit σ (env.set i none) := by
  refine ⟨by simpa using f.1, fun j u e => ?_⟩
  by_cases h : i = j
  · subst h
    by_cases hl : i < env.length
    · rw [List.getElem?_set_self hl] at e
      cases e
    · rw [List.getElem?_eq_none (by simpa using hl)] at e
      cases e
  · rw [List.getElem?_set_ne h] at e
    exact f.2 j u e
theorem Rel.take {i : Nat} {t : T} (h : Rel G H σ env ex) (e : env[i]? = some (some t)) : ∃ v, σ[i]? = some (some v) ∧ Rel G H σ (env.set i none) ((v, t) :: ex) := by
  obtain ⟨v, ev⟩ := h.1.2 i t e
  refine ⟨v, ev, fit_none h.1, ⟨by simpa using h.2.1.1, h.2.1.2⟩, ?_⟩
  refine h.2.2.perm (((slots_get ev e).append_right ex).trans ?_)
  exact List.perm_middle.symm
theorem Rel.forget {i : Nat} (h : Rel G H σ env ex) : Rel G H σ (env.set i none) ex := by
  cases e : env[i]? with
  | none =>
    rw [List.set_eq_of_length_le (List.getElem?_eq_none_iff.mp e)]
    exact h
  | some o =>
    cases o with
    | none => rw [set_self e]; exact h
    | some t =>
      obtain ⟨v, _, r⟩ := h.take e
      exact r.drop
theorem Rel.put {i : Nat} {v : V} {t : T} (h : Rel G H σ env ((v, t) :: ex)) (e : σ[i]? = some (some v)) : Rel G H σ (env.set i (some t)) ex := by
  have hl := lt_of_get e
  have he : i < env.length := by rw [← h.1.1]; exact hl
  have f : Fit σ (env.set i (some t)) := by
    have f := fit_set (v := v) (t := some t) (i := i) h.1
    rw [set_self e] at f
    exact f
  have h2 := h.forget (i := i)
  refine ⟨f, ⟨by simpa using h.2.1.1, h.2.1.2⟩, h2.2.2.perm ?_⟩
  have p := slots_set (v := v) (t := t) hl he
  rw [set_self e] at p
  exact List.perm_middle.trans (p.symm.append_right ex)
end
def XOk (G : Sg) (W : WX) (σ : L2.St) (ex : List (V × T)) (env : Env) (x : Ex) : Prop := match x.d with
  | none => ∀ H', Rel G H' σ env ex → W (.ref (G.Z.C x.c)) none σ H'
  | some p => ∀ H' dx, Rel G H' σ env ((.ref dx, .fz (.xd x.c p.1 p.2)) :: ex) → W (.ref (G.Z.C x.c)) (some dx) σ H'
def Aft {α : Type} (xw : Env → Ex → Prop) (k : α → Env → Prop) : R α → Prop
  | .ok a e => k a e
  | .ex x e => xw e x
  | .no => False
def rdE (G : Sg) (W : WX) (f : M T) : TE := fun σ H Q => ∃ env ex, Rel G H σ env ex ∧ Aft (XOk G W σ ex) (fun t e => ∀ H' v, Rel G H' σ e ((v, t) :: ex) → Q v H') (f env)
def rdT (G : Sg) (W : WX) (f : M Bool) : TT := fun σ H Q => ∃ env ex, Rel G H σ env ex ∧ Aft (XOk G W σ ex) (fun b e => ∀ H', Rel G H' σ e ex → Q b H') (f env)
structure Good (X : Cx) (G : Sg) (W : WX) : Prop where
  hK : G.Z.K = X.K
  tk : Takes X W
  calm : G.hot = false → X.calm = true
  nd : X.N.Nodup
  own : PassesOwn (model X.prog X.w) X.A X.env X.xe
def DT (X : Cx) (G : Sg) (W : WX) (e : Expr) (f : M Bool) : Prop := Good X G W → PT X e (rdT G W f)
theorem _root_.L2.PE.imp {X : Cx} {e : Expr} {t u : TE} (h : PE X e t) (k : ∀ σ H Q, u σ H Q → t σ H Q) : PE X e u := ⟨fun pins s σ H Q I q => h.run pins s σ H Q I (k σ H Q q)⟩
theorem _root_.L2.PT.imp {X : Cx} {e : Expr} {t u : TT} (h : PT X e t) (k : ∀ σ H Q, u σ H Q → t σ H Q) : PT X e u := ⟨fun pins s σ H Q I q => h.run pins s σ H Q I (k σ H Q q)⟩
theorem _root_.L2.PA.imp {X : Cx} {e : List Expr} {t u : TA} (h : PA X e t) (k : ∀ σ H Q, u σ H Q → t σ H Q) : PA X e u := ⟨fun pos pins s σ H Q I q => h.run pos pins s σ H Q I (k σ H Q q)⟩
theorem _root_.L2.PS.imp {X : Cx} {e : Stmt} {t u : TS} (h : PS X e t) (k : ∀ D σ H, u D σ H → t D σ H) : PS X e u := ⟨fun pins s σ H D I q => h.run pins s σ H D I (k D σ H q)⟩
theorem _root_.L2.PSs.imp {X : Cx} {e : List Stmt} {t u : TS} (h : PSs X e t) (k : ∀ D σ H, u D σ H → t D σ H) : PSs X e u := ⟨fun pins s σ H D I q => h.run pins s σ H D I (k D σ H q)⟩
section
variable {X : Cx} {G : Sg} {W : WX} {a b c : Expr} {fa fb fc : M T} {pos : Pos}
@[simp] def fVar (i : Nat) (env : Env) : R T := match env[i]? with
  | some (some t) => .ok (.fz (frz t)) (env.set i (some (.fz (frz t))))
  | _ => .no
@[simp] def fC (d : D) (env : Env) : R T := .ok (.fz d) env
def OpD (X : Cx) (Z : Wd) (f : Value → Value → Sem Value) (g : D → D → Option T) : Prop := ∃ r, OpR X f r ∧ ∀ (H : Hp) (rs : List (V × T)) (v1 v2 : V) (d1 d2 : D) (t : T) (Q : VK),
  Roots Z H ((v2, .fz d2) :: (v1, .fz d1) :: rs) → g d1 d2 = some t → (∀ H' v, Roots Z H' ((v, t) :: rs) → Q v H') → r v1 v2 H Q
@[simp] def ofO (env : Env) : Option T → R T
  | some t => .ok t env
  | none => .no
@[simp] def fBin (g : D → D → Option T) (fa fb : M T) (env : Env) : R T := (fa env).bind fun a e1 => (fb e1).bind fun b e2 => ofO e2 (g (frz a) (frz b))
end
end DL
set_option maxHeartbeats 4000000
namespace DL
open PySem PySem.Spec PyProof.Rows L2
section
variable {X : Cx} {G : Sg} {W : WX} {a b c : Expr} {fa fb fc : M T} {ga gb gc : M Bool} {pos : Pos}
@[simp] def truD : D → Option Bool
  | .non => some false
  | .bl b => some b
  | .int i => some (i != 0)
  | .str y => if y.length ≤ sizeLine then some ((y.length : Int) != 0) else none
  | .lst xs => some (!xs.isEmpty)
  | .tup xs => some (!xs.isEmpty)
  | .dic ks _ => some (!ks.isEmpty)
  | _ => none
@[simp] def ofB (env : Env) : Option Bool → R Bool
  | some t => .ok t env
  | none => .no
@[simp] def fTest (f : M T) (env : Env) : R Bool := (f env).bind fun t e => ofB e (truD (frz t))
@[simp] def fTestB (f : M T) (env : Env) : R Bool := (f env).bind fun t e => match t with | .fz (.bl b) => .ok b e | _ => .no
def DW (X : Cx) (G : Sg) (W : WX) (e : Expr) (f : M Bool) : Prop := Good X G W → PW X e (rdT G W f)
theorem _root_.L2.PW.imp {X : Cx} {e : Expr} {t u : TT} (h : PW X e t) (k : ∀ σ H Q, u σ H Q → t σ H Q) : PW X e u := ⟨fun wh pins s σ H Q I q => h.run wh pins s σ H Q I (k σ H Q q)⟩
theorem DW.dt (h : DW X G W a ga) : DT X G W a ga := fun g => (h g).pt
variable {rest : List Expr}
theorem Rel.bl {H : Hp} {σ : L2.St} {env : Env} {ex : List (V × T)} {H' : Hp} {ex0 : List (V × T)} (r : Rel G H σ env ex) (b : Bool) : Rel G H σ env ((.bl b, .fz (.bl b)) :: ex) := r.back1 (Roots.add r.2.2 fun _ => rfl)
def UnD (X : Cx) (Z : Wd) (f : Value → Sem Value) (g : D → Option T) : Prop := ∃ r, UnR X f r ∧ ∀ (H : Hp) (rs : List (V × T)) (v : V) (d : D) (t : T) (Q : VK),
  Roots Z H ((v, .fz d) :: rs) → g d = some t → (∀ H' v, Roots Z H' ((v, t) :: rs) → Q v H') → r v H Q
@[simp] def fUn (g : D → Option T) (f : M T) (env : Env) : R T := (f env).bind fun a e => ofO e (g (frz a))
@[simp] def fNil (env : Env) : R (List T) := .ok [] env
@[simp] def fCons (f : M T) (g : M (List T)) (env : Env) : R (List T) := (f env).bind fun t e => (g e).bind fun ts e' => .ok (t :: ts) e'
@[simp] def fMove (i : Nat) (g : M (List T)) (env : Env) : R (List T) := match env[i]? with
  | some (some t) => (g (env.set i none)).bind fun ts e' => .ok (t :: ts) e'
  | _ => .no
variable {e : Expr} {es : List Expr} {src : List (Option Nat)} {fs : M (List T)}
@[simp] def fCB (g : List D → Option T) (fs : M (List T)) (env : Env) : R T := (fs env).bind fun ts e => ofO e (g (frzs ts))
@[simp] def fLst (fs : M (List T)) (env : Env) : R T := (fs env).bind fun ts e => if ts.length ≤ sizeLine then .ok (.lst ts) e else .no
end
end DL
set_option maxHeartbeats 4000000
namespace DL
open PySem PySem.Spec PyProof.Rows L2
inductive RS where
  | nx (e : Env) | rt (t : T) (e : Env) | bk (e : Env) | ct (e : Env) | ex (x : Ex) (e : Env) | no
abbrev MS := Env → RS
def AftS (G : Sg) (W : WX) (D : Ends) (ex : List (V × T)) : RS → Prop
  | .nx e => ∀ σ' H', Rel G H' σ' e ex → D.nx σ' H'
  | .rt t e => ∀ σ' H' v, Rel G H' σ' e ((v, t) :: ex) → D.rt v H'
  | .bk e => ∀ σ' H', Rel G H' σ' e ex → D.bk σ' H'
  | .ct e => ∀ σ' H', Rel G H' σ' e ex → D.ct σ' H'
  | .ex x e => ∀ σ', XOk G W σ' ex e x
  | .no => False
def rdS (G : Sg) (W : WX) (f : MS) : TS := fun D σ H => ∃ env ex, Rel G H σ env ex ∧ AftS G W D ex (f env)
def DS (X : Cx) (G : Sg) (W : WX) (st : Stmt) (f : MS) : Prop := Good X G W → PS X st (rdS G W f)
@[simp] def R.s {α : Type} (r : R α) (k : α → Env → RS) : RS := match r with
  | .ok a e => k a e
  | .ex x e => .ex x e
  | .no => .no
section
variable {X : Cx} {G : Sg} {W : WX} {e a b c : Expr} {es : List Expr} {fa fb fc : M T} {ga gb gc : M Bool} {src : List (Option Nat)} {fs : M (List T)} {pos : Pos} {st : Stmt} {sts bd : List Stmt} {f g : MS}
@[simp] def fNext (env : Env) : RS := .nx env
@[simp] def fSeq (f g : MS) (env : Env) : RS := match f env with
  | .nx e => g e
  | r => r
@[simp] def fRet (f : M T) (env : Env) : RS := (f env).s fun t e => .rt t e
@[simp] def fIfS (c : M Bool) (f g : MS) (env : Env) : RS := (c env).s fun b e => if b = true then f e else g e
def Off (vs : List Nat) (σ σ' : L2.St) : Prop := σ'.length = σ.length ∧ ∀ i : Nat, i ∉ vs → σ'[i]? = σ[i]?
theorem Off.refl (vs : List Nat) (σ : L2.St) : Off vs σ σ := ⟨rfl, fun _ _ => rfl⟩
theorem Off.mono {vs ws : List Nat} {σ σ' : L2.St} (h : Off vs σ σ') (k : ∀ i ∈ vs, i ∈ ws) : Off ws σ σ' := ⟨h.1, fun i hi => h.2 i fun z => hi (k i z)⟩
theorem Off.trans {vs : List Nat} {σ σ' σ'' : L2.St} (h : Off vs σ σ') (k : Off vs σ' σ'') : Off vs σ σ'' := ⟨k.1.trans h.1, fun i hi => (k.2 i hi).trans (h.2 i hi)⟩
theorem Off.set {i : Nat} {σ : L2.St} {x : Option V} : Off [i] σ (σ.set i x) := ⟨by simp, fun j hj => List.getElem?_set_ne (fun z => hj (by simp [z]))⟩
theorem _root_.L2.PG.imp {X : Cx} {e : Expr} {t u : TG} (h : PG X e t) (k : ∀ v σ H Q, u v σ H Q → t v σ H Q) : PG X e u := ⟨fun pins s σ H v x Q I rv q => h.run pins s σ H v x Q I rv (k v σ H Q q)⟩
theorem _root_.L2.PGs.imp {X : Cx} {e : List Expr} {t u : TGs} (h : PGs X e t) (k : ∀ v σ H Q, u v σ H Q → t v σ H Q) : PGs X e u := ⟨fun pins s σ H v x Q I rv q => h.run pins s σ H v x Q I rv (k v σ H Q q)⟩
@[simp] def sName (i : Nat) (t : T) (env : Env) : Option Env := some (env.set i (some t))
theorem Rel.tup {H : Hp} {σ : L2.St} {env : Env} {ex : List (V × T)} {v : V} {ds : List D} (r : Rel G H σ env ((v, .fz (.tup ds)) :: ex)) : ∃ a vs, v = .ref a ∧ SqT G.Z.K H a vs ∧ vs.length = ds.length ∧ Rel G H σ env (vs.zip (ds.map T.fz) ++ ex) := by
  have ro := r.out1
  obtain ⟨F, _, s, ⟨f1, f2, ⟨⟨a, vs, e, q, rp⟩, e1⟩, o2, rfl⟩, n, d⟩ := ro
  subst e1
  refine ⟨a, vs, e, same_t s q.1, rp.length, r.back (l := vs.zip (ds.map T.fz)) ⟨F, f2, s, ?_, n, d⟩⟩
  have all : ∀ {vs : List V} {ds : List D}, Rps G.Z F vs ds → OwnR G.Z F H (vs.zip (ds.map T.fz)) [] := by
    intro vs
    induction vs with
    | nil => intro ds h; cases ds <;> rfl
    | cons v vs ih =>
      intro ds h
      cases ds with
      | nil => exact h.elim
      | cons d ds => exact ⟨[], [], ⟨h.1, rfl⟩, ih h.2, rfl⟩
  exact (all rp).append o2
@[simp] def fAsg (f : M T) (set : T → Env → Option Env) (env : Env) : RS := (f env).s fun t e => match set t e with
  | some e' => .nx e'
  | none => .no
@[simp] def fSet (i : Nat) (f : M T) (env : Env) : RS := (f env).s fun t e => .nx (e.set i (some t))
@[simp] def par2 (i j : Nat) (e : Env) : List T → RS
  | [t, u] => .nx ((e.set i (some t)).set j (some u))
  | _ => .no
@[simp] def fPar (i j : Nat) (fs : M (List T)) (env : Env) : RS := (fs env).s fun ts e => par2 i j e ts
def loopW (c : M Bool) (b : MS) : Nat → Env → RS
  | 0, _ => .no
  | n + 1, env => (c env).s fun k e => if k = true then (match b e with
      | .nx e' => loopW c b n e'
      | .ct e' => loopW c b n e'
      | .bk e' => .nx e'
      | .rt t e' => .rt t e'
      | .ex x e' => .ex x e'
      | .no => .no) else .nx e
@[simp] def fWhile (fuel : Env → Nat) (c : M Bool) (b : MS) (env : Env) : RS := loopW c b (fuel env) env
theorem _root_.L2.PI.imp {X : Cx} {tg e : Expr} {t u : TI} (h : PI X tg e t) (k : ∀ σ H Q, u σ H Q → t σ H Q) : PI X tg e u := ⟨fun pins s σ H Q I q => h.run pins s σ H Q I (k σ H Q q)⟩
def loopF (set : T → Env → Option Env) (b : MS) : List D → Env → RS
  | [], env => .nx env
  | d :: ds, env => match set (.fz d) env with
    | none => .no
    | some e => match b e with
      | .nx e' => loopF set b ds e'
      | .ct e' => loopF set b ds e'
      | .bk e' => .nx e'
      | .rt t e' => .rt t e'
      | .ex x e' => .ex x e'
      | .no => .no
@[simp] def fFor (fi : M (List D)) (set : T → Env → Option Env) (b : MS) (env : Env) : RS := (fi env).s fun ds e => loopF set b ds e
end
end DL
set_option maxHeartbeats 4000000
namespace DL
open PySem PySem.Spec PyProof.Rows L2
theorem Roots.drops {Z : Wd} {H : Hp} : ∀ {q rs : List (V × T)}, Roots Z H (q ++ rs) → Roots Z H rs
  | [], _, h => h
  | _ :: q, _, h => Roots.drops (q := q) h.drop
inductive RF where
  | ok (t : T) (ts : List T) | ex (x : Ex) (ts : List T) | no
abbrev Mir := List T → RF
def ioV (io : List Nat) (vs : List V) : List V := io.map fun k => vs.getD k .non
def XF (Z : Wd) (E : XK) (rs : List (V × T)) (x : Ex) : Prop := match x.d with
  | none => ∀ H', Roots Z H' rs → E (.ref (Z.C x.c)) none H'
  | some p => ∀ H' dx, Roots Z H' ((.ref dx, .fz (.xd x.c p.1 p.2)) :: rs) → E (.ref (Z.C x.c)) (some dx) H'
def AftF (Z : Wd) (Q : VK) (E : XK) (io : List Nat) (vs : List V) (ex : List (V × T)) : RF → Prop
  | .ok t us => us.length = io.length ∧ ∀ H' v, Roots Z H' ((v, t) :: ((ioV io vs).zip us ++ ex)) → Q v H'
  | .ex x us => us.length = io.length ∧ XF Z E ((ioV io vs).zip us ++ ex) x
  | .no => False
def spOf (Z : Wd) (n : Nat) (io : List Nat) (m : Mir) : Sp := fun vs H Q E => ∃ ts ex, vs.length = n ∧ ts.length = n ∧ Roots Z H (vs.zip ts ++ ex) ∧ AftF Z Q E io vs ex (m ts)
@[simp] def outs (io : List Nat) (e : Env) : Option (List T) := match io with
  | [] => some []
  | k :: io => match e[k]? with
    | some (some t) => (outs io e).map (t :: ·)
    | _ => none
@[simp] def finF (io : List Nat) : RS → RF
  | .nx e => match outs io e with | some us => .ok (.fz .non) us | none => .no
  | .rt t e => match outs io e with | some us => .ok t us | none => .no
  | .ex x e => match outs io e with | some us => .ex x us | none => .no
  | _ => .no
@[simp] def startE (n : Nat) (ts : List T) : Env := ts.map some ++ List.replicate (n - ts.length) none
@[simp] def mirOf (n : Nat) (io : List Nat) (f : MS) (ts : List T) : RF := finF io (f (startE n ts))
section
variable {G : Sg} {H : Hp} {σ : L2.St} {e : Env} {ex : List (V × T)}
theorem Rel.outs : ∀ {io : List Nat} {us : List T} {vs : List V} {e : Env} {ex : List (V × T)}, Rel G H σ e ex → io.Nodup → outs io e = some us → vs.length = io.length → (∀ (k j : Nat), io[k]? = some j → ∃ v, vs[k]? = some v ∧ σ[j]? = some (some v)) → ∃ e', Rel G H σ e' (vs.zip us ++ ex)
  | [], us, vs, e, ex, r, _, h, hl, _ => by
    cases vs with
    | nil => exact ⟨e, r⟩
    | cons => cases hl
  | k :: io, us, vs, e, ex, r, nd, h, hl, hv => by
    cases vs with
    | nil => cases hl
    | cons v vs =>
      unfold DL.outs at h
      split at h
      · rename_i t et
        obtain ⟨us', h1, rfl⟩ := Option.map_eq_some_iff.mp h
        obtain ⟨v', ev, r1⟩ := r.take et
        obtain ⟨v2, e2, e3⟩ := hv 0 k rfl
        have e2 : v = v2 := Option.some.inj e2
        subst e2
        rw [ev] at e3
        cases e3
        obtain ⟨nk, nd'⟩ := List.nodup_cons.mp nd
        have same : DL.outs io (e.set k none) = DL.outs io e := by
          clear h1 hv hl h nd
          induction io with
          | nil => rfl
          | cons j io ih =>
            have hj : k ≠ j := fun z => nk (by rw [z]; exact List.mem_cons_self ..)
            unfold DL.outs
            rw [List.getElem?_set_ne hj, ih (fun z => nk (List.mem_cons_of_mem _ z)) (List.nodup_cons.mp nd').2]
        obtain ⟨e', r2⟩ := Rel.outs (io := io) (us := us') (vs := vs) r1 nd' (same.trans h1) (Nat.succ.inj hl) fun k j ek => hv (k + 1) j ek
        exact ⟨e', r2.perm List.perm_middle⟩
      · cases h
end
section
variable {P : Program} {w : World} {K : PySem.W.Frag} {mg : Str → Option Value} {base : Heap}
end
@[simp] def frzA : List (Option Nat) → List T → List T
  | some _ :: s, t :: ts => t :: frzA s ts
  | _ :: s, t :: ts => .fz (frz t) :: frzA s ts
  | [], ts => ts
  | _, [] => []
@[simp] def putJ : List Nat → List T → Env → Env
  | j :: js, t :: ts, e => putJ js ts (e.set j (some t))
  | _, _, e => e
@[simp] def retF (js : List Nat) (e : Env) : RF → R T
  | .ok t us => if us.length = js.length then .ok t (putJ js us e) else .no
  | .ex x us => if us.length = js.length then .ex x (putJ js us e) else .no
  | .no => .no
@[simp] def fCall (m : Mir) (js : List Nat) (src : List (Option Nat)) (fs : M (List T)) (env : Env) : R T := (fs env).bind fun ts e => retF js e (m (frzA src ts))
theorem Roots.frzA {Z : Wd} {H : Hp} : ∀ {src : List (Option Nat)} {vs : List V} {ts : List T} {rs : List (V × T)}, Roots Z H (vs.zip ts ++ rs) → Roots Z H (vs.zip (frzA src ts) ++ rs)
  | [], _, _, _, h => h
  | _ :: _, [], _, _, h => by simpa using h
  | some _ :: s, v :: vs, [], _, h => by simpa [DL.frzA] using h
  | none :: s, v :: vs, [], _, h => by simpa [DL.frzA] using h
  | some j :: s, v :: vs, t :: ts, rs, h => by
    have h2 : Roots Z H (vs.zip ts ++ ((v, t) :: rs)) := h.perm List.perm_middle.symm
    exact (Roots.frzA (src := s) h2).perm List.perm_middle
  | none :: s, v :: vs, t :: ts, rs, h => by
    have h1 : Roots Z H ((v, .fz (frz t)) :: (vs.zip ts ++ rs)) := Roots.freeze h
    have h2 : Roots Z H (vs.zip ts ++ ((v, .fz (frz t)) :: rs)) := h1.perm List.perm_middle.symm
    exact (Roots.frzA (src := s) h2).perm List.perm_middle
section
variable {G : Sg} {W : WX} {H : Hp} {σ : L2.St} {e : Env} {ex : List (V × T)}
theorem Rel.putJ : ∀ {js : List Nat} {us : List T} {vs : List V} {e : Env}, Rel G H σ e (vs.zip us ++ ex) → vs.length = us.length → js.length = us.length → (∀ (k j : Nat), js[k]? = some j → ∃ v, vs[k]? = some v ∧ σ[j]? = some (some v)) → Rel G H σ (putJ js us e) ex
  | [], [], [], _, r, _, _, _ => r
  | [], [], _ :: _, _, _, h, _, _ => by cases h
  | [], _ :: _, _, _, _, _, h, _ => by cases h
  | _ :: _, [], _, _, _, _, h, _ => by cases h
  | _ :: _, _ :: _, [], _, _, h, _, _ => by cases h
  | j :: js, u :: us, v :: vs, e, r, h1, h2, hv => by
    obtain ⟨v', e1, e2⟩ := hv 0 j rfl
    have e1 : v = v' := Option.some.inj e1
    subst e1
    exact Rel.putJ (js := js) (us := us) (vs := vs) (Rel.put r e2) (Nat.succ.inj h1) (Nat.succ.inj h2) fun k j ek => hv (k + 1) j ek
end
section
variable {X : Cx} {G : Sg} {W : WX} {e : Expr} {es : List Expr} {fs : M (List T)} {src : List (Option Nat)} {k : Nat} {f : Addr} {fd : FuncData} {ps : List Str} {io : List Nat} {m : Mir} {x : Str} {p pos : Pos}
end
end DL
set_option maxHeartbeats 4000000
namespace DL
open PySem PySem.Spec PyProof.Rows L2
section
variable {X : Cx} {Z : Wd}
@[simp] def gI (c : Int → Int → Bool) (g : Int → Int → D) : D → D → Option T
  | .int i, .int j => if c i j = true then some (.fz (g i j)) else none
  | _, _ => none
@[simp] def gI0 (g : Int → Int → D) : D → D → Option T
  | .int i, .int j => some (.fz (g i j))
  | _, _ => none
def sz (i : Int) : Nat := i.natAbs.log2
def mulOk (i j : Int) : Bool := decide (sz i + sz j < 134000000)
def divOk (_ j : Int) : Bool := decide (j ≠ 0 ∧ sz j < 9000)
def powOk (i j : Int) : Bool := decide (0 ≤ j ∧ j ≤ 1000000 ∧ i.natAbs < 2 ^ 64)
@[simp] def eqS : D → D → Option Bool
  | .int i, .int j => some (decide (i = j))
  | .bl i, .bl j => some (decide (i = j))
  | .str i, .str j => some (decide (i = j))
  | .non, .non => some true
  | .non, .int _ => some false
  | .int _, .non => some false
  | .non, .bl _ => some false
  | .bl _, .non => some false
  | .non, .str _ => some false
  | .str _, .non => some false
  | .int _, .str _ => some false
  | .str _, .int _ => some false
  | .bl _, .str _ => some false
  | .str _, .bl _ => some false
  | _, _ => none
@[simp] def gNeg : D → Option T
  | .int i => some (.fz (.int (-i)))
  | _ => none
@[simp] def g1 (g : D → Option T) : List D → Option T
  | [d] => g d
  | _ => none
@[simp] def g2 (g : D → D → Option T) : List D → Option T
  | [d, e] => g d e
  | _ => none
@[simp] def gLen : D → Option T
  | .lst xs => some (.fz (.int xs.length))
  | .tup xs => some (.fz (.int xs.length))
  | .str y => if y.length ≤ sizeLine then some (.fz (.int y.length)) else none
  | .wt xs => some (.fz (.int xs.length))
  | _ => none
@[simp] def gAbs : D → Option T
  | .int i => some (.fz (.int (if i < 0 then -i else i)))
  | _ => none
@[simp] def gInt : D → Option T
  | .int i => some (.fz (.int i))
  | .bl b => some (.fz (.int (if b then 1 else 0)))
  | _ => none
end
end DL
set_option maxHeartbeats 4000000
namespace DL
open PySem PySem.Spec PyProof.Rows L2
section
variable {X : Cx} {G : Sg} {W : WX} {Z : Wd} {a b c e : Expr} {es : List Expr} {fa fb fc : M T} {fs : M (List T)} {src : List (Option Nat)} {pos : Pos}
theorem Rps.atI {F : Hp} {vs : List V} {ds : List D} {i : Int} {d : D} (r : Rps Z F vs ds) (h : L2.atI ds i = some d) : ∃ v, L2.atI vs i = some v ∧ Rp Z F v d := by
  unfold L2.atI at h ⊢
  rw [r.length]
  obtain ⟨j, h1, h2⟩ := Option.bind_eq_some_iff.mp h
  obtain ⟨v, e, q⟩ := r.get h2
  exact ⟨v, by rw [h1]; exact e, q⟩
@[simp] def gIx : D → D → Option T
  | .lst ds, .int i => (atI ds i).map T.fz
  | .tup ds, .int i => (atI ds i).map T.fz
  | .str z, .int i => if z.length ≤ sizeLine then (atI z.cps.toList i).map fun c => T.fz (.str ⟨#[c]⟩) else none
  | .wt ds, .int i => (atI ds i).map T.fz
  | _, _ => none
@[simp] def peekT : T → D → Option T
  | .lst ts, .int i => match atI ts i with
    | some (.fz d) => some (.fz d)
    | _ => none
  | .fz d, k => gIx d k
  | _, _ => none
@[simp] def peekS (i : Nat) (e : Env) (k : D) : R T := match e[i]? with
  | some (some t) => ofO e (peekT t k)
  | _ => .no
@[simp] def fPeek (i : Nat) (fb : M T) (env : Env) : R T := match env[i]? with
  | some (some _) => (fb env).bind fun k e => peekS i e (frz k)
  | _ => .no
theorem Owns.get : ∀ {F H : Hp} {vs : List V} {ts : List T} {fp : List Addr} {j : Nat} {t : T}, Owns Z F H vs ts fp → ts[j]? = some t → ∃ v f, vs[j]? = some v ∧ Own Z F H v t f
  | F, H, [], [], _, _, _, _, e => by simp at e
  | F, H, v :: vs, t :: ts, _, 0, u, h, e => by
    obtain ⟨f1, f2, h1, h2, rfl⟩ := h
    have e : t = u := Option.some.inj e
    subst e
    exact ⟨v, f1, rfl, h1⟩
  | F, H, v :: vs, t :: ts, _, j + 1, u, h, e => by
    obtain ⟨f1, f2, h1, h2, rfl⟩ := h
    exact Owns.get (j := j) h2 e
  | _, _, [], _ :: _, _, _, _, h, _ => h.elim
  | _, _, _ :: _, [], _, _, _, h, _ => h.elim
@[simp] def sPutAt (i : Nat) (t : T) (k : D) (e : Env) : Option Env := match e[i]?, k with
  | some (some (.lst ts)), .int n => (ixN ts.length n).map fun j => e.set i (some (.lst (ts.set j t)))
  | _, _ => none
@[simp] def sPut (i : Nat) (fb : M T) (t : T) (env : Env) : Option Env := match env[i]? with
  | some (some _) => (match fb env with
    | .ok k e => sPutAt i t (frz k) e
    | _ => none)
  | _ => none
end
end DL
set_option maxHeartbeats 4000000
namespace DL
open PySem PySem.Spec PyProof.Rows L2
section
variable {X : Cx} {G : Sg} {W : WX} {Z : Wd} {a b c e : Expr} {es : List Expr} {fa fb fc : M T} {fs : M (List T)} {src : List (Option Nat)} {pos : Pos}
@[simp] def seqD : D → Option (List D)
  | .lst ds => some ds
  | .tup ds => some ds
  | _ => none
@[simp] def ofL (e : Env) : Option (List D) → R (List D)
  | some ds => .ok ds e
  | none => .no
@[simp] def iSeq (f : M T) (env : Env) : R (List D) := (f env).bind fun t e => ofL e (seqD (frz t))
def rangeD (lo : Int) (n : Nat) : List D := (List.range n).map fun i => .int (lo + (i : Nat))
def rgOk (i : Int) : Bool := Nat.ble i.natAbs 4611686018427387903
def range1D : List D → Option (List D)
  | [.int n] => if rgOk n = true then some (rangeD 0 n.toNat) else none
  | _ => none
def range2D : List D → Option (List D)
  | [.int i, .int j] => if (rgOk i && rgOk j) = true then some (rangeD i (j - i).toNat) else none
  | _ => none
@[simp] def iArgs (g : List D → Option (List D)) (fs : M (List T)) (env : Env) : R (List D) := (fs env).bind fun ts e => ofL e (g (frzs ts))
@[simp] def wipeE (e : Env) : List Nat → Env
  | [] => e
  | v :: vs => (wipeE e vs).set v none
def loopC (set : T → Env → Option Env) (tst : M Bool) (elt : M T) (vs : List Nat) : List D → List T → Env → R (List T)
  | [], acc, env => .ok acc env
  | d :: ds, acc, env => match set (.fz d) env with
    | none => .no
    | some e1 => match tst e1 with
      | .ok true e2 => (match elt e2 with
        | .ok t e3 => if acc.length < sizeLine then loopC set tst elt vs ds (acc ++ [t]) (wipeE e3 vs) else .no
        | _ => .no)
      | .ok false e2 => loopC set tst elt vs ds acc (wipeE e2 vs)
      | _ => .no
@[simp] def fLc (fi : M (List D)) (set : T → Env → Option Env) (tst : M Bool) (elt : M T) (vs : List Nat) (env : Env) : R T := (fi env).bind fun ds e => (loopC set tst elt vs ds [] (wipeE e vs)).bind fun acc e' => .ok (.lst acc) (wipeE e' vs)
abbrev W0 : WX := fun _ _ _ _ => False
@[simp] def fYes (env : Env) : R Bool := .ok true env
@[simp] def gList : D → Option T
  | .lst ds => some (.lst (ds.map T.fz))
  | .tup ds => some (.lst (ds.map T.fz))
  | _ => none
end
end DL
set_option maxHeartbeats 4000000
namespace DL
open PySem PySem.Spec PyProof.Rows L2
section
variable {X : Cx} {G : Sg} {W : WX} {a b c e : Expr} {es : List Expr} {fa fb fc : M T} {fs : M (List T)} {src : List (Option Nat)} {pos p : Pos}
end
structure Df (P : Program) (w : World) (K : PySem.W.Frag) (mg : Str → Option Value) (base : Heap) (C : Nat → Addr) (x : Str) (k : Nat) (ps : List Str) (io : List Nat) (m : Mir) : Prop where
  ex : ∃ f fd, mg x = some (.ref f) ∧ PySem.W.keepIn K (.ref f) = true ∧ Binds K fd ps [] ∧ FnOk P w K mg base (L2.CX P w) k f fd ps (spOf ⟨K, C⟩ ps.length io m)
structure At (K : PySem.W.Frag) (mg : Str → Option Value) (x : Str) (st : Stmt) (ps : List Str) : Prop where
  ex : ∃ f fd, mg x = some (.ref f) ∧ Fun K x x st f fd ∧ Binds K fd ps []
section
variable {P : Program} {w : World} {K : PySem.W.Frag} {mg : Str → Option Value} {base : Heap} {C : Nat → Addr}
theorem Df.mono {x : Str} {j k : Nat} {ps : List Str} {io : List Nat} {m : Mir} (h : Df P w K mg base C x j ps io m) (hk : j ≤ k) : Df P w K mg base C x k ps io m := by
  obtain ⟨f, fd, h1, h2, h3, h4⟩ := h.ex
  exact ⟨f, fd, h1, h2, h3, h4.mono hk⟩
end
end DL
namespace DL
open PySem PySem.Spec PyProof.Rows L2
@[simp] def gMul (a b : D) : Option T := (gI mulOk fun i j => .int (i * j)) a b
@[simp] def gFdiv (a b : D) : Option T := (gI divOk fun i j => .int (i.fdiv j)) a b
@[simp] def gMod (a b : D) : Option T := (gI (fun _ j => decide (j ≠ 0)) fun i j => .int (i.fmod j)) a b
@[simp] def gPow (a b : D) : Option T := (gI powOk fun i j => .int (i ^ j.toNat)) a b
@[simp] def gLt (a b : D) : Option T := (gI0 fun i j => .bl (decide (i < j))) a b
@[simp] def gGe (a b : D) : Option T := (gI0 fun i j => .bl (decide (j ≤ i))) a b
section
variable {X : Cx} {Z : Wd}
end
end DL
namespace DL
def fuelI (i : Nat) (e : Env) : Nat := match e[i]? with
  | some (some (.fz (.int n))) => n.natAbs + 1
  | _ => 0
end DL
set_option maxHeartbeats 4000000
namespace DL
open PySem PySem.Spec PyProof.Rows L2
section
variable {X : Cx} {G : Sg} {W : WX} {a b c e : Expr} {es : List Expr} {fa fb fc : M T} {fs : M (List T)} {src : List (Option Nat)} {pos p : Pos}
end
section
variable {X : Cx} {Z : Wd}
end
section
variable {X : Cx} {G : Sg} {W : WX} {a b c e : Expr} {es : List Expr} {fa fb fc : M T} {fs : M (List T)} {src : List (Option Nat)} {pos p : Pos}
end
mutual
/-- data that == compares, of depth at most n -/
@[simp] def okD : D → Nat → Bool
  | .non, _ => true
  | .bl _, _ => true
  | .int _, _ => true
  | .str x, _ => PyData.strOk x
  | .lst xs, n + 1 => okDs xs n
  | .tup xs, n + 1 => okDs xs n
  | _, _ => false
@[simp] def okDs : List D → Nat → Bool
  | [], _ => true
  | x :: xs, n => okD x n && okDs xs n
end
mutual
def pdD : D → PyData
  | .bl b => .bool b
  | .int i => .int i
  | .str x => .str x
  | .lst xs => .list (pdDs xs)
  | .tup xs => .tuple (pdDs xs)
  | _ => .none
def pdDs : List D → List PyData
  | [] => []
  | x :: xs => pdD x :: pdDs xs
end
mutual
theorem okD_ok {Z : Wd} {H : Hp} : ∀ {v : V} {d : D} {n : Nat}, Rp Z H v d → okD d n = true → Dp Z.K H v (pdD d) ∧ (pdD d).canLay0 = true ∧ (pdD d).depth ≤ n
  | _, .non, _, r, _ => by cases r; exact ⟨.non, rfl, Nat.zero_le _⟩
  | _, .bl _, _, r, _ => by cases r; exact ⟨.bl _, rfl, Nat.zero_le _⟩
  | _, .int _, _, r, _ => by cases r; exact ⟨.int _, rfl, Nat.zero_le _⟩
  | _, .str _, _, r, h => by cases r; exact ⟨.str _, h, Nat.zero_le _⟩
  | _, .lst ds, n + 1, ⟨a, vs, e, q, rp⟩, h => by
    subst e
    obtain ⟨h1, h2, h3⟩ := okDs_ok rp h
    exact ⟨.lst q h1, h2, Nat.succ_le_succ h3⟩
  | _, .tup ds, n + 1, ⟨a, vs, e, q, rp⟩, h => by
    subst e
    obtain ⟨h1, h2, h3⟩ := okDs_ok rp h
    exact ⟨.tup q.1 h1, h2, Nat.succ_le_succ h3⟩
  | _, .lst _, 0, _, h => by simp at h
  | _, .tup _, 0, _, h => by simp at h
  | _, .ty _, _, _, h => by simp at h
  | _, .cls _, _, _, h => by simp at h
  | _, .obj .., _, _, h => by simp at h
  | _, .dic .., _, _, h => by simp at h
  | _, .xd .., _, _, h => by simp at h
  | _, .dit _, _, _, h => by simp at h
  | _, .wt _, _, _, h => by simp at h
theorem okDs_ok {Z : Wd} {H : Hp} : ∀ {vs : List V} {ds : List D} {n : Nat}, Rps Z H vs ds → okDs ds n = true → DpAll Z.K H vs (pdDs ds) ∧ PyData.canLayAll0 (pdDs ds) = true ∧ PyData.depthAll (pdDs ds) ≤ n
  | [], [], _, _, _ => ⟨.nil, rfl, Nat.zero_le _⟩
  | v :: vs, d :: ds, n, ⟨r1, r2⟩, h => by
    have h : (okD d n && okDs ds n) = true := h
    rw [Bool.and_eq_true] at h
    obtain ⟨a1, a2, a3⟩ := okD_ok r1 h.1
    obtain ⟨b1, b2, b3⟩ := okDs_ok r2 h.2
    refine ⟨.cons a1 b1, ?_, ?_⟩
    · show (PyData.canLay0 (pdD d) && PyData.canLayAll0 (pdDs ds)) = true
      rw [a2, b2]; rfl
    · exact Nat.max_le.mpr ⟨a3, b3⟩
  | [], _ :: _, _, r, _ => r.elim
  | _ :: _, [], _, r, _ => r.elim
end
mutual
@[simp] def eqD : D → D → Bool
  | .non, .non => true
  | .bl i, .bl j => decide (i = j)
  | .bl a, .int j => decide ((if a then 1 else 0) = j)
  | .int i, .bl b => decide (i = (if b then 1 else 0))
  | .int i, .int j => decide (i = j)
  | .str i, .str j => decide (i = j)
  | .lst xs, .lst ys => eqDs xs ys
  | .tup xs, .tup ys => eqDs xs ys
  | _, _ => false
@[simp] def eqDs : List D → List D → Bool
  | [], [] => true
  | x :: xs, y :: ys => eqD x y && eqDs xs ys
  | _, _ => false
end
mutual
theorem eqv_ok : ∀ (d e : D) (n m : Nat), okD d n = true → okD e m = true → PyData.eqv (pdD d) (pdD e) = eqD d e
  | .lst xs, e, n, m, h1, h2 => by
    cases n with
    | zero => simp at h1
    | succ n =>
      cases e with
      | lst ys =>
        cases m with
        | zero => simp at h2
        | succ m => simpa [pdD, PyData.eqv] using eqvs_ok xs ys n m (by simpa using h1) (by simpa using h2)
      | _ => simp_all [pdD, PyData.eqv]
  | .tup xs, e, n, m, h1, h2 => by
    cases n with
    | zero => simp at h1
    | succ n =>
      cases e with
      | tup ys =>
        cases m with
        | zero => simp at h2
        | succ m => simpa [pdD, PyData.eqv] using eqvs_ok xs ys n m (by simpa using h1) (by simpa using h2)
      | _ => simp_all [pdD, PyData.eqv]
  | .non, e, n, m, h1, h2 => by cases e <;> simp_all [pdD, PyData.eqv]
  | .bl _, e, n, m, h1, h2 => by cases e <;> simp_all [pdD, PyData.eqv] <;> rfl
  | .int _, e, n, m, h1, h2 => by cases e <;> simp_all [pdD, PyData.eqv] <;> rfl
  | .str _, e, n, m, h1, h2 => by cases e <;> simp_all [pdD, PyData.eqv] <;> rfl
  | .ty _, e, n, m, h1, h2 => by simp at h1
  | .cls _, e, n, m, h1, h2 => by simp at h1
  | .obj .., e, n, m, h1, h2 => by simp at h1
  | .dic .., e, n, m, h1, h2 => by simp at h1
  | .xd .., e, n, m, h1, h2 => by simp at h1
  | .dit _, e, n, m, h1, h2 => by simp at h1
  | .wt _, e, n, m, h1, h2 => by simp at h1
theorem eqvs_ok : ∀ (d e : List D) (n m : Nat), okDs d n = true → okDs e m = true → PyData.eqvAll (pdDs d) (pdDs e) = eqDs d e
  | [], [], _, _, _, _ => rfl
  | [], _ :: _, _, _, _, _ => rfl
  | _ :: _, [], _, _, _, _ => rfl
  | x :: xs, y :: ys, n, m, h1, h2 => by
    simp only [okDs, Bool.and_eq_true] at h1 h2
    simp only [pdDs, PyData.eqvAll, eqDs, eqv_ok x y n m h1.1 h2.1, eqvs_ok xs ys n m h1.2 h2.2]
end
@[simp] def gEqD (neg : Bool) (a b : D) : Option T := if okD a 8 = true ∧ okD b 8 = true then some (.fz (.bl (if neg then !eqD a b else eqD a b))) else none
section
variable {X : Cx} {Z : Wd}
end
@[simp] theorem okDs_ints (xs : List Int) (n : Nat) : okDs (xs.map D.int) n = true := by
  induction xs with
  | nil => rfl
  | cons x xs ih => simpa using ih
@[simp] theorem eqDs_ints : ∀ (xs ys : List Int), eqDs (xs.map D.int) (ys.map D.int) = decide (xs = ys)
  | [], [] => by simp
  | [], _ :: _ => by simp
  | _ :: _, [] => by simp
  | x :: xs, y :: ys => by simp [eqDs_ints xs ys]
end DL
set_option maxHeartbeats 4000000
namespace DL
open PySem PySem.Spec PyProof.Rows L2
structure SupScope (N P : List Str) (sc : Scope) : Prop where
  kind : sc.kind = .function
  co : sc.isCoroutine = false
  gen : sc.isGenerator = false
  nd : N.Nodup
  pre : N.take P.length = P
  par : ∀ x ∈ P, sc.names.lookup x = some .local
  nocell : ∀ y ∈ sc.names, y.2 ≠ .cell
  fre : ∀ x, sc.names.lookup x = some .free → x = "__class__"
  sup : sc.names.lookup ("super" : Str) = some .globalImplicit
  cl : sc.names.lookup ("__class__" : Str) = some .free
structure SupF (P : Program) (K : PySem.W.Frag) (x qual : Str) (st : Stmt) (f : Addr) (fd : FuncData) (C : Addr) : Prop where
  ex : ∃ (oc : Value) (od : Option Addr) (kV doc pm : Value) (an : Option Addr) (cda : Addr) (ct : Value) (osl : Array (Option Value)) (cc : Addr) (ccl : Value) (cdd : Option Addr) (vs : Array Value) (ccs : Array (Option Value)) (file : Str) (tf : Tok) (cl : Value) (cld : Option Addr) (csl : Array (Option Value)),
    fd = PySem.W.ksFn x qual (defArgs st) (defBody st) (defScope st) .none kV doc pm an (.ref cda) ct cc ∧ K.lookup f = some ⟨oc, od, .func fd, osl⟩ ∧ PySem.W.codeIn K (.ref cda) qual = true ∧
      K.lookup cda = some ⟨ccl, cdd, .fields vs, ccs⟩ ∧ vs[2]? = some (.str file tf) ∧ ((P.main.file : Str) == file) = true ∧ K.lookup cc = some ⟨cl, cld, .cell (some (.ref C)), csl⟩
structure SupC (P : Program) (K : PySem.W.Frag) (C : Addr) : Prop where
  oex : OexC K C
  sub : PySem.W.mroIn K C (.ref C) = some true
  nos : PySem.W.nsIn K mainGlobals "super" = some none
  any : PySem.W.nsIn K cStatics "thirdparty.any" = some none
  ini : PySem.W.ks_superIn K C C "__init__" = some (some (.builtin "ValueError.__init__"))
  vb : PySem.W.subIn K (.ref C) (.type "ValueError") = some true
  top : (P.main.scope.names.lookup ("super" : Str)).isSome = false
end DL
set_option maxHeartbeats 4000000
namespace DL
open PySem PySem.Spec PyProof.Rows L2
section
variable {prog : Program} {w : World} {A : Around} {E : Value → Shared → Prop} {h : Heap} {g : Array GenState} {d : Drawn} {t : Nat} {os : OsState}
variable {nm q : Str} {C N : Addr} {bs bm : List Value} {hdct : Bool} {sn : List Str} {sub : List Value} {ab : Bool} {col : Option Bool} {dd : Option Addr} {k0 k1 k2 k3 k5 : Option Value}
end
end DL
set_option maxHeartbeats 4000000
namespace DL
open PySem PySem.Spec PyProof.Rows L2
def intF (i : Int) : Bool := decide (i.natAbs.log2 < 1920)
def fmtV (K : PySem.W.Frag) (H : Hp) (v : V) : Prop := (∃ y : Str, v = .str y ∧ y.length ≤ 1000000) ∨ (∃ i : Int, v = .int i ∧ intF i = true) ∨ (∃ (a : Addr) (l : List Int), v = .ref a ∧ SqT K H a (l.map V.int) ∧ l.length ≤ 500 ∧ ∀ i ∈ l, intF i = true)
def tPart (K : PySem.W.Frag) (is : List Nat) : TE := fun σ H Q => (∀ i ∈ is, ∃ v, σ[i]? = some (some v) ∧ fmtV K H v) ∧ ∀ m : Str, m.length ≤ 1050000 → Q (.str m) H
def MP (X : Cx) (e : Expr) (is : List Nat) : Prop := PE X e (tPart X.K is)
section
variable {X : Cx}
inductive MPs (X : Cx) : List Expr → List Nat → Prop where
  | nil : MPs X [] []
  | cons {e : Expr} {is js : List Nat} {es : List Expr} (h : MP X e is) (r : MPs X es js) : MPs X (e :: es) (is ++ js)
end
end DL
set_option maxHeartbeats 4000000
namespace DL
open PySem PySem.Spec PyProof.Rows L2
theorem fmtV.mono {K : PySem.W.Frag} {H H' : Hp} {v : V} (s : Same H H') (h : fmtV K H v) : fmtV K H' v := by
  rcases h with h | h | ⟨a, l, e, ht, hl, hi⟩
  · exact .inl h
  · exact .inr (.inl h)
  · exact .inr (.inr ⟨a, l, e, same_t s ht, hl, hi⟩)
def spE1 (K : PySem.W.Frag) (C : Addr) (f : Str) : Sp := fun vs H Q _ => ∃ a v, vs = [.ref a, v] ∧ H a = some (exo a C none) ∧ fmtV K H v ∧ ∀ dx, H dx = none → dx ≠ a → Q .non (upd (upd H dx (exd dx [(f, v)])) a (exo a C (some dx)))
section
variable {P : Program} {w : World} {K : PySem.W.Frag} {mg : Str → Option Value} {base : Heap} {C : Addr} {qual : Str} {st : Stmt} {fa : Addr} {fd : FuncData} {p0 p1 p2 p3 p4 q1 q2 q3 q4 q5 q6 q7 q8 : Pos} {a1 : Expr} {ar : Arg} {x y f g : Str} {is : List Nat}
structure SupT (st : Stmt) (a1 : Expr) (p0 p1 p2 p3 p4 : Pos) (ar : Arg) (rest : List Stmt) : Prop where
  bd : defBody st = .Expr (.Call (.Attribute (.Call (.Name "super" p0) [] [] p1) "__init__" p2) [a1] [] p3) p4 :: rest
  first : ((defArgs st).posonlyargs ++ (defArgs st).args).head? = some ar
  ar : ar.arg = "self"
  pl : ∀ env : PySem.Env, starEach [a1] env = (false, eval a1 env) :: starEach [] env
  sw : ∀ env : PySem.Env, env.scope = defScope st → swapsWith (.Call (.Attribute (.Call (.Name "super" p0) [] [] p1) "__init__" p2) [a1] [] p3) none p4.line env = pure false
  ev : ∀ env : PySem.Env, ∃ pl : Sem Bool, eval (.Call (.Attribute (.Call (.Name "super" p0) [] [] p1) "__init__" p2) [a1] [] p3) env = (do
      let ov ← attributeBase (.Call (.Name "super" p0) [] [] p1) "__init__" env (eval (.Call (.Name "super" p0) [] [] p1) env)
      standAt p2.atName
      let (f, first) ← holding [ov] (getMethod ov "__init__" pl)
      callWith p3 f first (backTo p3 (starEach [a1] env)) [])
end
end DL
set_option maxHeartbeats 4000000
namespace DL
open PySem PySem.Spec PyProof.Rows L2
structure Err (P : Program) (w : World) (K : PySem.W.Frag) (mg : Str → Option Value) (base : Heap) (C : Nat → Addr) (c : Nat) (x : Str) (ps : List Str) (sp : Sp) : Prop where
  ex : ∃ fI fd, OexC K (C c) ∧ PySem.W.findIn K (.ref (C c)) "__init__" = some (some (.ref fI)) ∧ PySem.W.typeIn K (.ref fI) = some (.type "function") ∧ FnOk P w K mg base (L2.CX P w) 1 fI fd ps sp ∧ Binds K fd ps [] ∧ mg x = some (.ref (C c))
section
variable {X : Cx} {io0 : List Nat} {s0 : L2.St} {n : Nat} {C : Nat → Addr} {W : WX} {e e2 : Expr} {fs : M (List T)} {src : List (Option Nat)} {c : Nat} {ps : List Str} {x f g : Str} {p pos pos' : Pos}
end
end DL
set_option maxHeartbeats 4000000
namespace DL
open PySem PySem.Spec PyProof.Rows L2
abbrev Cl := Value × Option Nat × (Addr → Value → Option Addr → TS)
inductive HdsM (X : Cx) : List ExceptHandler → List Cl → Prop
  | nil : HdsM X [] []
  | cons {x : Str} {c : Value} {ts : Addr → Value → Option Addr → TS} {b₀ : Stmt} {suite : List Stmt} {np pos' : Pos} {hds : List ExceptHandler} {l : List Cl} (hc : Names X x c)
      (hsu : ∀ (a : Addr) (oe : Obj) (cls : Value) (d : Option Addr) (pn : List (Addr × Obj)), Zc cls d oe → (∃ vs, oe.data = .fields vs) → PSs (X.suite a ((a, oe) :: pn)) (b₀ :: suite) (ts a cls d)) (r : HdsM X hds l) :
      HdsM X (.ExceptHandler (some (.Name x np)) none (b₀ :: suite) pos' :: hds) ((c, none, ts) :: l)
  | consA {x n : Str} {i : Nat} {c : Value} {ts : Addr → Value → Option Addr → TS} {b₀ : Stmt} {suite : List Stmt} {np pos' : Pos} {hds : List ExceptHandler} {l : List Cl} (hi : X.N[i]? = some n) (hln : X.env.kindOf n = some .local) (hc : Names X x c)
      (hsu : ∀ (a : Addr) (oe : Obj) (cls : Value) (d : Option Addr) (pn : List (Addr × Obj)), Zc cls d oe → (∃ vs, oe.data = .fields vs) → PSs (X.suite a ((a, oe) :: pn)) (b₀ :: suite) (ts a cls d)) (r : HdsM X hds l) :
      HdsM X (.ExceptHandler (some (.Name x np)) (some n) (b₀ :: suite) pos' :: hds) ((c, some i, ts) :: l)
end DL
set_option maxHeartbeats 4000000
namespace DL
open PySem PySem.Spec PyProof.Rows L2
section
variable {Z : Wd} {F H : Hp}
theorem Roots.obj {v : V} {c : Nat} {ns : List Str} {ts : List T} {rs : List (V × T)} (h : Roots Z H ((v, .obj c ns ts) :: rs)) : ∃ p dx vs, v = .ref p ∧ H p = some (.ins (Z.C c) dx (ns.zip vs)) ∧ ns.length = vs.length ∧ vs.length = ts.length := by
  obtain ⟨F, _, s, ⟨_, f2, ⟨a, dx, ws, f1, e1, e2, l, e3, o1, rfl⟩, o2, rfl⟩, n, d⟩ := h
  exact ⟨a, dx, ws, e1, e2, l, o1.length⟩
end
structure Fld (K : PySem.W.Frag) (C : Nat → Addr) (c : Nat) (f : Str) : Prop where
  cl : Cls K (C c)
  no : NoAttr K (C c) f
section
variable {X : Cx} {G : Sg} {W : WX} {a b c e o : Expr} {es : List Expr} {fa fb fc : M T} {fs : M (List T)} {src : List (Option Nat)} {pos p p' apos : Pos}
end
end DL
set_option maxHeartbeats 4000000
namespace DL
open PySem PySem.Spec PyProof.Rows L2
structure Dm (P : Program) (w : World) (K : PySem.W.Frag) (mg : Str → Option Value) (base : Heap) (C : Nat → Addr) (c : Nat) (x : Str) (k : Nat) (ps : List Str) (io : List Nat) (m : Mir) : Prop where
  ex : ∃ f fd, Meth K (C c) x f ∧ Binds K fd ps [] ∧ FnOk P w K mg base (L2.CX P w) k f fd ps (spOf ⟨K, C⟩ ps.length io m)
theorem Dm.mono {P : Program} {w : World} {K : PySem.W.Frag} {mg : Str → Option Value} {base : Heap} {C : Nat → Addr} {c : Nat} {x : Str} {j k : Nat} {ps : List Str} {io : List Nat} {m : Mir} (h : Dm P w K mg base C c x j ps io m) (hk : j ≤ k) : Dm P w K mg base C c x k ps io m := by
  obtain ⟨f, fd, h1, h2, h3⟩ := h.ex
  exact ⟨f, fd, h1, h2, h3.mono hk⟩
section
variable {X : Cx} {k : Nat} {C f : Addr} {fd : FuncData} {ps : List Str} {sp : Sp} {E : L2.St → XK}
end
@[simp] def retMk (e : Env) : RF → R T
  | .ok (.fz .non) [t] => .ok t e
  | .ex x [_] => .ex x e
  | _ => .no
@[simp] def fMake (c : Nat) (m : Mir) (src : List (Option Nat)) (fs : M (List T)) (env : Env) : R T := (fs env).bind fun ts e => retMk e (m (.obj c [] [] :: frzA src ts))
section
variable {X : Cx} {io0 : List Nat} {s0 : L2.St} {n : Nat} {C : Nat → Addr} {W : WX} {e o : Expr} {es : List Expr} {fs : M (List T)} {fo : M T} {src : List (Option Nat)} {k c : Nat} {ps : List Str} {io : List Nat} {m : Mir} {x : Str} {p pos apos : Pos}
structure MkC (K : PySem.W.Frag) (mg : Str → Option Value) (C : Nat → Addr) (c : Nat) (x : Str) : Prop where
  gl : mg x = some (.ref (C c))
  makes : PySem.W.makesIn K (C c) = true
  kp : PySem.W.keepIn K (.ref (C c)) = true
theorem MkC.of {K : PySem.W.Frag} {mg : Str → Option Value} {c : Nat} {f : Addr} (h : MkC K mg C c x) (a : Meth K (C c) "__init__" f) : Mk K (C c) f := ⟨h.makes, a.at_, a.fn, h.kp⟩
end
end DL
set_option maxHeartbeats 4000000
namespace DL
open PySem PySem.Spec PyProof.Rows L2
section
variable {X : Cx} {G : Sg} {W : WX} {a b c e o : Expr} {es : List Expr} {fa fb fc : M T} {pos p : Pos}
abbrev Wnt (G : Sg) (W : WX) (σ : L2.St) (ex : List (V × T)) (Q : VK) (r : R T) : Prop := Aft (XOk G W σ ex) (fun t e => ∀ H' v, Rel G H' σ e ((v, t) :: ex) → Q v H') r
def OpX (X : Cx) (G : Sg) (W : WX) (F : Value → Value → Sem Value) (g : D → D → RF) : Prop := Good X G W → ∀ (pins : List (Addr × Obj)) (s : Shared) (σ : L2.St) (H : Hp) (v1 v2 : V) (w1 w2 : Value) (d1 d2 : D) (e : Env) (ex : List (V × T)) (Q : VK),
  Inv X pins σ H s → RelV v1 w1 → RelV v2 w2 → Rel G H σ e ((v2, .fz d2) :: (v1, .fz d1) :: ex) → Wnt G W σ ex Q (retF [] e (g d1 d2)) → wpAny (model X.prog X.w) X.A (F w1 w2) (EP X pins σ Q) X.xe s
@[simp] def gB (g : D → D → Option T) (a b : D) : RF := match g a b with
  | some t => .ok t []
  | none => .no
theorem OpX.of {F : Value → Value → Sem Value} {g : D → D → Option T} (h : OpD X G.Z F g) : OpX X G W F (gB g) := fun gd pins s σ H v1 v2 w1 w2 d1 d2 e ex Q I r1 r2 r k => by
  obtain ⟨rr, h1, h2⟩ := h
  refine h1 pins s σ H v1 v2 w1 w2 Q I r1 r2 ?_
  unfold gB at k
  cases eg : g d1 d2 with
  | none => rw [eg] at k; exact k.elim
  | some t =>
    rw [eg] at k
    exact h2 H _ v1 v2 d1 d2 t Q (Rel.out (l := [(v2, .fz d2), (v1, .fz d1)]) r) eg fun H' v q => k H' v (r.back1 q)
variable {io0 : List Nat} {s0 : L2.St} {n : Nat} {C : Nat → Addr} {k c : Nat} {ps : List Str} {m : Mir}
def UnX (X : Cx) (G : Sg) (W : WX) (F : Value → Sem Value) (g : D → RF) : Prop := Good X G W → ∀ (pins : List (Addr × Obj)) (s : Shared) (σ : L2.St) (H : Hp) (v1 : V) (w1 : Value) (d1 : D) (e : Env) (ex : List (V × T)) (Q : VK),
  Inv X pins σ H s → RelV v1 w1 → Rel G H σ e ((v1, .fz d1) :: ex) → Wnt G W σ ex Q (retF [] e (g d1)) → wpAny (model X.prog X.w) X.A (F w1) (EP X pins σ Q) X.xe s
@[simp] def gB1 (g : D → Option T) (a : D) : RF := match g a with
  | some t => .ok t []
  | none => .no
theorem UnX.of {F : Value → Sem Value} {g : D → Option T} (h : UnD X G.Z F g) : UnX X G W F (gB1 g) := fun gd pins s σ H v1 w1 d1 e ex Q I r1 r k => by
  obtain ⟨rr, h1, h2⟩ := h
  refine h1 pins s σ H v1 w1 Q I r1 ?_
  unfold gB1 at k
  cases eg : g d1 with
  | none => rw [eg] at k; exact k.elim
  | some t =>
    rw [eg] at k
    exact h2 H _ v1 d1 t Q r.out1 eg fun H' v q => k H' v (r.back1 q)
end
end DL
set_option maxHeartbeats 4000000
namespace DL
open PySem PySem.Spec PyProof.Rows L2
section
variable {G : Sg} {W : WX} {σ : L2.St} {H : Hp}
end
def vwS (oi : Option Nat) (d : Option Addr) (σ : L2.St) : L2.St := match oi, d with
  | some i, some dd => σ.set i (some (.ref dd))
  | some i, none => σ.set i none
  | none, _ => σ
def cdS (G : Sg) (oi : Option Nat) (k : Nat) (a : Addr) (cls : Value) (σ : L2.St) : Prop := cls = .ref (G.Z.C k) ∧ ∀ i, oi = some i → σ[i]? = some (some (.ref a))
def rdV (G : Sg) (oi : Option Nat) (k : Nat) (a : Addr) (cls : Value) (d : Option Addr) (f : M T) : TE := fun σ H Q => cdS G oi k a cls σ ∧ rdE G W0 f (vwS oi d σ) H Q
def HE (X : Cx) (G : Sg) (oi : Option Nat) (k : Nat) (e : Expr) (f : M T) : Prop := ∀ (a : Addr) (oe : Obj) (cls : Value) (d : Option Addr) (pn : List (Addr × Obj)), G.Z.K = X.K → Zc cls d oe → (∃ vs, oe.data = .fields vs) → PE (X.suite a ((a, oe) :: pn)) e (rdV G oi k a cls d f)
section
variable {X : Cx} {G : Sg} {oi : Option Nat} {k : Nat} {e a1 b1 : Expr} {es : List Expr} {fa fb : M T} {fs : M (List T)} {src : List (Option Nat)} {pos p : Pos}
end
end DL
set_option maxHeartbeats 4000000
namespace DL
open PySem PySem.Spec PyProof.Rows L2
def Exm (K : PySem.W.Frag) (C : Nat → Addr) (es : List Nat) (k : Nat) : Prop := ∀ c ∈ es, PySem.W.exmOne K (.ref (C c)) (.ref (C k)) = some (decide (c = k))
inductive HM (X : Cx) (G : Sg) (es : List Nat) : List ExceptHandler → List (Nat × Option Nat × M T) → Prop
  | nil : HM X G es [] []
  | cons {x : Str} {k : Nat} {f : M T} {e : Expr} {np pos' p' : Pos} {hds : List ExceptHandler} {l : List (Nat × Option Nat × M T)} (hx : Exm G.Z.K G.Z.C es k) (hm : X.mg x = some (.ref (G.Z.C k))) (he : HE X G none k e f) (r : HM X G es hds l) (hg : Gl X x := by rfl) (hd : (x == ("__debug__" : Str)) = false := by decide) :
      HM X G es (.ExceptHandler (some (.Name x np)) none [.Return (some e) p'] pos' :: hds) ((k, none, f) :: l)
  | consA {x n : Str} (i : Nat) {k : Nat} {f : M T} {e : Expr} {np pos' p' : Pos} {hds : List ExceptHandler} {l : List (Nat × Option Nat × M T)} (hx : Exm G.Z.K G.Z.C es k) (hm : X.mg x = some (.ref (G.Z.C k))) (he : HE X G (some i) k e f) (r : HM X G es hds l)
      (hi : X.N[i]? = some n := by rfl) (hln : X.env.kindOf n = some .local := by rfl) (hn : Nat.blt i G.n = true := by rfl) (ni : G.io.contains i = false := by rfl) (hg : Gl X x := by rfl) (hd : (x == ("__debug__" : Str)) = false := by decide) :
      HM X G es (.ExceptHandler (some (.Name x np)) (some n) [.Return (some e) p'] pos' :: hds) ((k, some i, f) :: l)
section
variable {X : Cx} {G : Sg} {W : WX} {es : List Nat} {pos : Pos} {body : List Stmt} {fb : MS}
end
end DL
set_option maxHeartbeats 4000000
namespace DL
open PySem PySem.Spec PyProof.Rows L2
section
variable {X : Cx} {Z : Wd}
theorem OpD.le {f : Value → Value → Sem Value} {g k : D → D → Option T} (h : OpD X Z f g) (hk : ∀ a b t, k a b = some t → g a b = some t) : OpD X Z f k := by
  obtain ⟨r, a1, b1⟩ := h
  exact ⟨r, a1, fun H rs v1 v2 d1 d2 t Q ro e q => b1 H rs v1 v2 d1 d2 t Q ro (hk _ _ _ e) q⟩
@[simp] def gAdd2 : D → D → Option T
  | .int i, .int j => some (.fz (.int (i + j)))
  | .lst a, .lst b => if a.length + b.length ≤ sizeLine then some (.lst ((a ++ b).map T.fz)) else none
  | .tup a, .tup b => if a.length + b.length ≤ sizeLine then some (.fz (.tup (a ++ b))) else none
  | .str a, .str b => if a.length + b.length ≤ sizeLine then some (.fz (.str (a ++ b))) else none
  | _, _ => none
@[simp] def gEq2 (neg : Bool) (a b : D) : Option T := match eqS a b with
  | some k => some (.fz (.bl (if neg then !k else k)))
  | none => gEqD neg a b
@[simp] def gIsN (neg : Bool) : D → D → Option T
  | .non, .non => some (.fz (.bl !neg))
  | .ty _, .non => none
  | .xd .., .non => none
  | .val _, .non => none
  | .know _, .non => none
  | .raw _, .non => none
  | .bl i, .bl j => some (.fz (.bl (if neg then !decide (i = j) else decide (i = j))))
  | _, .non => some (.fz (.bl neg))
  | _, _ => none
end
end DL
set_option maxHeartbeats 1000000
namespace DL
open PySem L2
def b__law_pool : MS := fRet (fLst (fCons (fVar 0) (fCons (fC (.int 0)) (fCons (fBin gGe (fVar 0) (fBin gPow (fC (.int 10)) (fC (.int 18)))) (fNil)))))
def m__law_pool : Mir := mirOf 1 [] b__law_pool
def b__law_take : MS := fSeq (fAsg (fBin gAdd2 (fPeek 0 (fC (.int 1))) (fC (.int 1))) (sPut 0 (fC (.int 1)))) (fSeq (fIfS (fTest (fPeek 0 (fC (.int 2)))) (fSeq (fSet 2 (fBin gMod (fCB (g1 gInt) (fCons (fPeek 0 (fC (.int 0))) (fNil))) (fVar 1))) (fSeq (fAsg (fBin gFdiv (fCB (g1 gInt) (fCons (fPeek 0 (fC (.int 0))) (fNil))) (fVar 1)) (sPut 0 (fC (.int 0)))) (fRet (fVar 2)))) (fNext)) (fSeq (fSet 3 (fBin gMod (fCB (g1 gInt) (fCons (fBin gAdd2 (fBin gAdd2 (fBin gMul (fPeek 0 (fC (.int 0))) (fC (.int 7919))) (fBin gMul (fPeek 0 (fC (.int 1))) (fC (.int 104729)))) (fC (.int 13))) (fNil))) (fC (.int 2147483647)))) (fRet (fBin gMod (fBin gFdiv (fCB (g1 gInt) (fCons (fBin gMod (fBin gPow (fVar 3) (fC (.int 5))) (fC (.int 2147483647))) (fNil))) (fC (.int 17))) (fVar 1)))))
def m__law_take : Mir := mirOf 4 [0] b__law_take
def b__law_cell : MS := fSeq (fIfS (fTestB (fBin gLt (fVar 1) (fCB (g1 gLen) (fCons (fVar 0) (fNil))))) (fRet (fPeek 0 (fVar 1))) (fNext)) (fRet (fC (.int 0)))
def m__law_cell : Mir := mirOf 2 [] b__law_cell
theorem fmod_nonneg_lt {x l : Int} (h : 0 < l) : 0 ≤ x.fmod l ∧ x.fmod l < l := by
  rw [Int.fmod_eq_emod_of_nonneg x (Int.le_of_lt h)]
  exact ⟨Int.emod_nonneg x (by omega), Int.emod_lt_of_pos x h⟩
abbrev scr (ns : List Int) : D := .lst (ns.map D.int)
def Wide (ns : List Int) : Prop := ∀ z ∈ ns, z.natAbs < 2 ^ 1048576
theorem wide_of {ns : List Int} (h : ∀ z ∈ ns, Builtin.Int.intBits z ≤ 1048576) : Wide ns := fun z hz => by
  have b := h z hz
  unfold Builtin.Int.intBits at b
  split at b
  · rename_i e
    have : z.natAbs = 0 := by simpa using e
    rw [this]
    exact Nat.pow_pos (by decide)
  · exact Nat.lt_of_lt_of_le Nat.lt_log2_self (Nat.pow_le_pow_right (by decide) b)
end DL
set_option maxHeartbeats 1000000
namespace DL
open PySem L2
def b_common_c0 : M Bool := fTestB (fBin (gEq2 true) (fVar 3) (fC (.int 0)))
def b_common_w0 : MS := fPar 2 3 (fCons (fVar 3) (fCons (fBin gMod (fVar 2) (fVar 3)) (fNil)))
def b_common : MS := fSeq (fPar 2 3 (fCons (fCB (g1 gAbs) (fCons (fVar 0) (fNil))) (fCons (fCB (g1 gAbs) (fCons (fVar 1) (fNil))) (fNil)))) (fSeq (fWhile (fuelI 3) b_common_c0 b_common_w0) (fRet (fVar 2)))
def m_common : Mir := mirOf 4 [] b_common
theorem loopF_go {set : T → Env → Option Env} {b : MS} {d : D} {ds : List D} {env e e' : Env} (h1 : set (.fz d) env = some e) (h2 : b e = .nx e') : loopF set b (d :: ds) env = loopF set b ds e' := by
  simp only [loopF, h1, h2]
theorem seq_nx {f g : MS} {env e : Env} (h : f env = .nx e) : fSeq f g env = g e := by unfold fSeq; rw [h]
structure CI (a b : Int) (B : Nat) (r0 u0 v0 r1 u1 v1 : Int) : Prop where
  e0 : r0 = u0 * a + v0 * b
  e1 : r1 = u1 * a + v1 * b
  g : Int.gcd r0 r1 = Int.gcd a b
  b0 : r0.natAbs ≤ B
  b1 : r1.natAbs ≤ B
  ph : (u0.natAbs + u1.natAbs ≤ 1 ∧ v0.natAbs + v1.natAbs ≤ 1) ∨
    (0 ≤ r0 * r1 ∧ r0 ≠ 0 ∧ (u0.natAbs + u1.natAbs) * (r0.natAbs * r1.natAbs) ≤ (B + 2) * (B * B) ∧ (v0.natAbs + v1.natAbs) * (r0.natAbs * r1.natAbs) ≤ (B + 2) * (B * B) ∧
      u0.natAbs + u1.natAbs ≤ (B + 1) * ((B + 2) * (B * B)) + (B + 2) ∧ v0.natAbs + v1.natAbs ≤ (B + 1) * ((B + 2) * (B * B)) + (B + 2))
theorem fmod_facts {x y : Int} (h : y ≠ 0) : x - x.fdiv y * y = x.fmod y ∧ (x.fmod y).natAbs < y.natAbs ∧ 0 ≤ y * x.fmod y := by
  have e : x - x.fdiv y * y = x.fmod y := by rw [Int.fmod_def, Int.mul_comm]
  refine ⟨e, ?_⟩
  by_cases hp : 0 < y
  · have := fmod_nonneg_lt (x := x) hp
    exact ⟨by omega, Int.mul_nonneg (by omega) this.1⟩
  · have hp : 0 < -y := by omega
    have := fmod_nonneg_lt (x := -x) hp
    rw [Int.neg_fmod_neg] at this
    refine ⟨by omega, ?_⟩
    have h2 := Int.mul_nonneg (show 0 ≤ -y by omega) this.1
    rw [Int.neg_mul_neg] at h2
    exact h2
theorem fdiv_facts {x y : Int} (h : y ≠ 0) : (x.fdiv y).natAbs * y.natAbs ≤ x.natAbs + y.natAbs := by
  obtain ⟨e, l, _⟩ := fmod_facts (x := x) h
  rw [← Int.natAbs_mul]
  omega
theorem fdiv_like {x y : Int} (h : y ≠ 0) (hs : 0 ≤ x * y) : (x.fdiv y).natAbs * y.natAbs + (x.fmod y).natAbs = x.natAbs := by
  obtain ⟨e, l, s⟩ := fmod_facts (x := x) h
  rw [← Int.natAbs_mul]
  by_cases hp : 0 < y
  · have hx : 0 ≤ x := by
      by_cases hx : 0 ≤ x
      · exact hx
      · have := Int.mul_neg_of_neg_of_pos (show x < 0 by omega) hp
        omega
    have hq : 0 ≤ x.fdiv y := by rw [Int.fdiv_eq_ediv_of_nonneg x (by omega)]; exact Int.ediv_nonneg hx (by omega)
    have := Int.mul_nonneg hq (show 0 ≤ y by omega)
    have m := fmod_nonneg_lt (x := x) hp
    omega
  · have hp : 0 < -y := by omega
    have hx : x ≤ 0 := by
      by_cases hx : x ≤ 0
      · exact hx
      · have := Int.mul_neg_of_pos_of_neg (show 0 < x by omega) (show y < 0 by omega)
        omega
    have hq : 0 ≤ x.fdiv y := by
      rw [← Int.neg_fdiv_neg, Int.fdiv_eq_ediv_of_nonneg _ (by omega)]
      exact Int.ediv_nonneg (by omega) (by omega)
    have := Int.mul_nonneg hq (show 0 ≤ -y by omega)
    have m := fmod_nonneg_lt (x := -x) hp
    rw [Int.neg_fmod_neg] at m
    rw [Int.mul_neg] at this
    omega
theorem coef_step (x0 x1 q : Int) : x1.natAbs + (x0 - q * x1).natAbs ≤ (q.natAbs + 1) * (x0.natAbs + x1.natAbs) := by
  have h : (x0 - q * x1).natAbs ≤ x0.natAbs + q.natAbs * x1.natAbs := by
    rw [← Int.natAbs_mul]; omega
  have e : (q.natAbs + 1) * (x0.natAbs + x1.natAbs) = q.natAbs * x0.natAbs + q.natAbs * x1.natAbs + (x0.natAbs + x1.natAbs) := by
    rw [Nat.add_mul, Nat.one_mul, Nat.mul_add]
  rw [e]
  omega
theorem phase_step {B R0 R1 R2 q S S' : Nat} (hS' : S' ≤ (q + 1) * S) (h : q * R1 + R2 = R0) (hlt : R2 < R1) (hb : R0 ≤ B) (h0 : 0 < R0) (k : S * (R0 * R1) ≤ (B + 2) * (B * B)) :
    S' * (R1 * R2) ≤ (B + 2) * (B * B) ∧ S' ≤ (B + 1) * ((B + 2) * (B * B)) + (B + 2) := by
  have h1 : (q + 1) * R2 ≤ R0 := by
    rw [Nat.add_mul, Nat.one_mul]
    have : q * R2 ≤ q * R1 := Nat.mul_le_mul_left q (Nat.le_of_lt hlt)
    omega
  have hq : q ≤ R0 := by
    have : q * 1 ≤ q * R1 := Nat.mul_le_mul_left q (by omega)
    omega
  have hS : S ≤ S * (R0 * R1) := Nat.le_mul_of_pos_right S (Nat.mul_pos h0 (by omega))
  constructor
  · calc S' * (R1 * R2) ≤ ((q + 1) * S) * (R1 * R2) := Nat.mul_le_mul_right _ hS'
      _ = (S * R1) * ((q + 1) * R2) := by
        simp only [Nat.mul_comm, Nat.mul_left_comm, Nat.mul_assoc]
      _ ≤ (S * R1) * R0 := Nat.mul_le_mul_left _ h1
      _ = S * (R0 * R1) := by simp only [Nat.mul_comm, Nat.mul_left_comm, Nat.mul_assoc]
      _ ≤ _ := k
  · have : (q + 1) * S ≤ (B + 1) * ((B + 2) * (B * B)) := Nat.mul_le_mul (by omega) (Nat.le_trans hS k)
    omega
theorem first_step {B R0 R1 R2 q S S' : Nat} (hS' : S' ≤ (q + 1) * S) (hS : S ≤ 1) (h : q * R1 ≤ R0 + R1) (h1 : 0 < R1) (hlt : R2 < R1) (hb : R0 ≤ B) (hb1 : R1 ≤ B) :
    S' * (R1 * R2) ≤ (B + 2) * (B * B) ∧ S' ≤ (B + 1) * ((B + 2) * (B * B)) + (B + 2) := by
  have hq : q ≤ R0 + 1 := by
    rcases Nat.lt_or_ge (R0 + 1) q with z | z
    · have : (R0 + 2) * R1 ≤ q * R1 := Nat.mul_le_mul_right R1 z
      have h3 : R0 * 1 ≤ R0 * R1 := Nat.mul_le_mul_left R0 h1
      rw [Nat.add_mul] at this
      omega
    · exact z
  have hs : S' ≤ B + 2 := by
    have : (q + 1) * S ≤ (q + 1) * 1 := Nat.mul_le_mul_left _ hS
    omega
  exact ⟨Nat.mul_le_mul hs (Nat.mul_le_mul hb1 (by omega)), by omega⟩
theorem CI.step {a b : Int} {B : Nat} {r0 u0 v0 r1 u1 v1 : Int} (h : CI a b B r0 u0 v0 r1 u1 v1) (n1 : r1 ≠ 0) :
    CI a b B r1 u1 v1 (r0 - r0.fdiv r1 * r1) (u0 - r0.fdiv r1 * u1) (v0 - r0.fdiv r1 * v1) := by
  obtain ⟨e, l, s⟩ := fmod_facts (x := r0) n1
  have e' : r0 - r0.fdiv r1 * r1 = (u0 - r0.fdiv r1 * u1) * a + (v0 - r0.fdiv r1 * v1) * b := by
    have h0 := h.e0
    have h1 := h.e1
    generalize r0.fdiv r1 = q at *
    rw [Int.sub_mul, Int.sub_mul, Int.mul_assoc, Int.mul_assoc]
    have : q * r1 = q * (u1 * a) + q * (v1 * b) := by rw [h1, Int.mul_add]
    omega
  have p1 : 0 < r1.natAbs := by omega
  refine ⟨h.e1, e', ?_, h.b1, by rw [e]; have := h.b1; omega, .inr ?_⟩
  · rw [Int.gcd_sub_mul_right_right, Int.gcd_comm]; exact h.g
  · rw [e]
    refine ⟨s, n1, ?_⟩
    rcases h.ph with ⟨s1, s2⟩ | ⟨sg, n0, k1, k2, _, _⟩
    · have f := fdiv_facts (x := r0) n1
      have a1 := first_step (coef_step u0 u1 (r0.fdiv r1)) s1 f p1 l h.b0 h.b1
      have a2 := first_step (coef_step v0 v1 (r0.fdiv r1)) s2 f p1 l h.b0 h.b1
      exact ⟨a1.1, a2.1, a1.2, a2.2⟩
    · have f := fdiv_like n1 sg
      have a1 := phase_step (coef_step u0 u1 (r0.fdiv r1)) f l h.b0 (by omega) k1
      have a2 := phase_step (coef_step v0 v1 (r0.fdiv r1)) f l h.b0 (by omega) k2
      exact ⟨a1.1, a2.1, a1.2, a2.2⟩
def cB (B : Nat) : Nat := (B + 1) * ((B + 2) * (B * B)) + (B + 2)
theorem CI.sum {a b : Int} {B : Nat} {r0 u0 v0 r1 u1 v1 : Int} (h : CI a b B r0 u0 v0 r1 u1 v1) : u0.natAbs + u1.natAbs ≤ cB B ∧ v0.natAbs + v1.natAbs ≤ cB B := by
  unfold cB
  rcases h.ph with ⟨s1, s2⟩ | ⟨_, _, _, _, k1, k2⟩
  · exact ⟨by omega, by omega⟩
  · exact ⟨k1, k2⟩
end DL
set_option maxHeartbeats 1000000
namespace DL
open PySem PySem.Spec PyProof.Rows L2
theorem rps_ints (Z : Wd) (F : Hp) : ∀ ns : List Int, Rps Z F (ns.map V.int) (ns.map D.int)
  | [] => trivial
  | _ :: ns => ⟨rfl, rps_ints Z F ns⟩
theorem law_sp {K : PySem.W.Frag} {C : Nat → Addr} {m : Mir} (h : ∀ ns : List Int, ns.length ≤ 63 → Wide ns → m [.fz (scr ns)] = .ok (.fz (.bl true)) []) (H : Hp) (a : Addr) (ns : List Int) (hl : ns.length ≤ 63) (hb : ∀ z ∈ ns, Builtin.Int.intBits z ≤ 1048576) (hS : SqL K H a (ns.map V.int)) :
    spOf ⟨K, C⟩ 1 [] m [.ref a] H (fun v _ => v = .bl true) fun _ _ _ => False := by
  refine ⟨[.fz (scr ns)], [], rfl, rfl, ⟨H, [], fun _ _ e => e, ⟨[], [], ⟨⟨a, _, rfl, hS, rps_ints _ _ ns⟩, rfl⟩, rfl, rfl⟩, List.nodup_nil, fun _ h => nomatch h⟩, ?_⟩
  rw [h ns hl (wide_of hb)]
  exact ⟨rfl, fun H' v r => r.fz⟩
theorem law_cx {P : Program} {w : World} {H : Hp} {s : Shared} {e : Value} {s' : Shared} (h : L2.CX P w [] H s (fun _ _ _ => False) e s') : False := by
  obtain ⟨_, _, _, _, _, _, _, _, _, _, _, _, z⟩ := h
  exact z.elim
theorem at_mk {K : PySem.W.Frag} {h : Heap} {mg : Str → Option Value} (X : K.In h) (G : h.Ns mainGlobals mg) {x : Str} {st : Stmt} {ps : List Str} {f : Addr} {od an : Option Addr} {sl : Array (Option Value)} {oc kV dc pm cd ct : Value}
    (a : PySem.W.nsIn K mainGlobals x = some (some (.ref f))) (l : K.lookup f = some ⟨oc, od, .func (PySem.W.fnOf x x (defArgs st) (defBody st) (defScope st) .none kV dc pm an cd ct), sl⟩) (c : PySem.W.codeIn K cd x = true) (k : PySem.W.keepIn K (.ref f) = true)
    (hb : ∀ (kV doc pm : Value) (an : Option Addr) (cdv ct : Value) (us : List Value), us.length = ps.length → bindArgs (PySem.W.fnOf x x (defArgs st) (defBody st) (defScope st) .none kV doc pm an cdv ct) ⟨us, []⟩ = pure (ps.zip us)) : At K mg x st ps :=
  ⟨f, _, PySem.W.mg_of X G a, fun_mk l c k, (fun_mk (st := st) l c k).binds hb⟩
end DL
set_option maxHeartbeats 4000000
namespace DL
open PySem PySem.Spec PyProof.Rows L2
def errB (K : PySem.W.Frag) (C fI : Addr) (flds : List Str) : Bool := xfB K C && (decide (PySem.W.findIn K (.ref C) "__setattr__" = some (some (.builtin "object.__setattr__"))) && (decide (PySem.W.typeIn K (.ref C) = some (.type "type")) && (PySem.W.keepIn K (.ref C) && (decide (PySem.W.mroIn K C (.ref C) = some true) &&
  (decide (PySem.W.ks_superIn K C C "__init__" = some (some (.builtin "ValueError.__init__"))) && (decide (PySem.W.subIn K (.ref C) (.type "ValueError") = some true) && (decide (PySem.W.typeIn K (.ref fI) = some (.type "function")) && flds.all fun f => decide (PySem.W.findIn K (.ref C) f = some none))))))))
structure ErrF (K : PySem.W.Frag) (C fI : Addr) (flds : List Str) : Prop where
  xf : XfC K C
  sa : PySem.W.findIn K (.ref C) "__setattr__" = some (some (.builtin "object.__setattr__"))
  ty : PySem.W.typeIn K (.ref C) = some (.type "type")
  kp : PySem.W.keepIn K (.ref C) = true
  sub : PySem.W.mroIn K C (.ref C) = some true
  ini : PySem.W.ks_superIn K C C "__init__" = some (some (.builtin "ValueError.__init__"))
  vb : PySem.W.subIn K (.ref C) (.type "ValueError") = some true
  tI : PySem.W.typeIn K (.ref fI) = some (.type "function")
  no : ∀ f ∈ flds, PySem.W.findIn K (.ref C) f = some none
theorem errB_ok {K : PySem.W.Frag} {C fI : Addr} {flds : List Str} (h : errB K C fI flds = true) : ErrF K C fI flds := by
  unfold errB at h
  simp only [Bool.and_eq_true, decide_eq_true_eq] at h
  obtain ⟨h1, h2, h3, h4, h5, h6, h7, h8, h9⟩ := h
  exact ⟨xfB_ok h1, h2, h3, h4, h5, h6, h7, h8, fun f hf => of_decide_eq_true (List.all_eq_true.mp h9 f hf)⟩
section
variable {P : Program} {w : World} {K : PySem.W.Frag} {mg : Str → Option Value} {base : Heap} {C : Nat → Addr} {c : Nat} {fI : Addr} {flds : List Str}
theorem ErrF.oex (E : ErrF K (C c) fI flds) {nm q : Str} {N : Addr} {bs : List Value} {bm : List Value} {sn : List Str} {sub : List Value} {ab : Bool} {col : Option Bool} {dd : Option Addr} {m0 m1 m2 m3 m5 : Option Value}
    (x : K.lookup (C c) = some (excClassObj nm q (C c) N bs bm true sn sub ab col dd m0 m1 m2 m3 m5 "ValueError.__new__")) (hbm : PySem.HandSPX.refsVE bm = true) : OexC K (C c) :=
  ⟨⟨nm, q, N, bs, bm, sn, sub, ab, col, dd, m0, m1, m2, m3, m5, x, hbm⟩, E.sa, E.xf.exC, E.ty, E.kp⟩
theorem ErrF.sup (E : ErrF K (C c) fI flds) (O : OexC K (C c)) (nos : PySem.W.nsIn K mainGlobals "super" = some none) (any : PySem.W.nsIn K cStatics "thirdparty.any" = some none) (top : (P.main.scope.names.lookup ("super" : Str)).isSome = false) : SupC P K (C c) :=
  ⟨O, E.sub, nos, any, E.ini, E.vb, top⟩
theorem supF_mk {st : Stmt} {qual : Str} {Ca : Addr} {oc kV dc pm ct ccl cl : Value} {od an cdd cld : Option Addr} {cda cc : Addr} {sl ccs csl : Array (Option Value)} {vs : Array Value} {file : Str} {tf : Tok}
    (l : K.lookup fI = some ⟨oc, od, .func (PySem.W.ksFn "__init__" qual (defArgs st) (defBody st) (defScope st) .none kV dc pm an (.ref cda) ct cc), sl⟩) (cI : PySem.W.codeIn K (.ref cda) qual = true) (lc : K.lookup cda = some ⟨ccl, cdd, .fields vs, ccs⟩) (hv : vs[2]? = some (.str file tf)) (hf : ((P.main.file : Str) == file) = true)
    (le : K.lookup cc = some ⟨cl, cld, .cell (some (.ref Ca)), csl⟩) : SupF P K "__init__" qual st fI (PySem.W.ksFn "__init__" qual (defArgs st) (defBody st) (defScope st) .none kV dc pm an (.ref cda) ct cc) Ca :=
  ⟨oc, od, kV, dc, pm, an, cda, ct, sl, cc, ccl, cdd, vs, ccs, file, tf, cl, cld, csl, rfl, l, cI, lc, hv, hf, le⟩
end
def exmB (K : PySem.W.Frag) (cs : List Addr) (es : List Nat) (k : Nat) : Bool := es.all fun i => decide (PySem.W.exmOne K (.ref (cs.getD i 0)) (.ref (cs.getD k 0)) = some (decide (i = k)))
theorem exmB_ok {K : PySem.W.Frag} {cs : List Addr} {es : List Nat} {k : Nat} (h : exmB K cs es k = true) : Exm K (fun i => cs.getD i 0) es k := fun c hc => of_decide_eq_true (List.all_eq_true.mp h c hc)
def spLaw (K : PySem.W.Frag) (m : Mir) : Sp := fun vs H Q E => ∀ C, spOf ⟨K, C⟩ 1 [] m vs H Q E
theorem law_sp2 {K : PySem.W.Frag} {m : Mir} (h : ∀ ns : List Int, ns.length ≤ 63 → Wide ns → m [.fz (scr ns)] = .ok (.fz (.bl true)) []) (H : Hp) (a : Addr) (ns : List Int) (hl : ns.length ≤ 63) (hb : ∀ z ∈ ns, Builtin.Int.intBits z ≤ 1048576) (hS : SqL K H a (ns.map V.int)) :
    spLaw K m [.ref a] H (fun v _ => v = .bl true) fun _ _ _ => False := fun C => law_sp h H a ns hl hb hS
theorem law_imp {P : Program} {w : World} {K : PySem.W.Frag} {mg : Str → Option Value} {base : Heap} {k : Nat} {f : Addr} {fd : FuncData} {ps : List Str} {m : Mir} {C : Nat → Addr} (F : FnOk P w K mg base (L2.CX P w) k f fd ps (spOf ⟨K, C⟩ 1 [] m)) : FnOk P w K mg base (L2.CX P w) k f fd ps (spLaw K m) := F.imp fun vs H Q E h => h C
end DL
namespace DL
open PySem PySem.Spec PyProof.Rows L2
structure Caught (K : PySem.W.Frag) (mg : Str → Option Value) (C : Nat → Addr) (es : List Nat) (k : Nat) (x : Str) (flds : List Str) : Prop where
  exm : Exm K C es k
  gl : mg x = some (.ref (C k))
  xf : XfC K (C k)
  no : ∀ f ∈ flds, PySem.W.findIn K (.ref (C k)) f = some none
end DL
set_option maxHeartbeats 4000000
namespace PySem
open Sem (wp)
open AutoSeq1 (wpAny_loadPart')
end PySem
namespace DL
open PySem PySem.Spec PyProof.Rows L2
end DL
set_option maxHeartbeats 4000000
namespace DL
open PySem PySem.Spec PyProof.Rows L2
section
variable {X : Cx} {G : Sg} {W : WX} {Z : Wd} {a b c e : Expr} {es : List Expr} {fa fb fc : M T} {fs : M (List T)} {src : List (Option Nat)} {pos : Pos}
end
end DL
set_option maxHeartbeats 4000000
namespace DL
open PySem PySem.Spec PyProof.Rows L2
theorem _root_.L2.PO.imp {X : Cx} {e : Option Expr} {t u : TO} (h : PO X e t) (k : ∀ σ H Q, u σ H Q → t σ H Q) : PO X e u := ⟨fun pins s σ H Q I q => h.run pins s σ H Q I (k σ H Q q)⟩
@[simp] def fNoP (env : Env) : R (Option Int) := .ok none env
@[simp] def fPt (f : M T) (env : Env) : R (Option Int) := (f env).bind fun t e => match t with | .fz (.int i) => .ok (some i) e | _ => .no
@[simp] def cutD (xs : List D) (lo hi : Option Int) : List D := (xs.drop (HT.sIx xs.length 0 lo)).take (HT.sIx xs.length xs.length hi - HT.sIx xs.length 0 lo)
@[simp] def gSl (lo hi : Option Int) : D → Option T
  | .lst ds => some (.lst ((cutD ds lo hi).map T.fz))
  | .tup ds => some (.fz (.tup (cutD ds lo hi)))
  | .str z => if z.length ≤ sizeLine then some (.fz (.str (Txt.slice z lo hi))) else none
  | _ => none
@[simp] def fSl (fa : M T) (lo hi : M (Option Int)) (env : Env) : R T := (fa env).bind fun t e1 => (lo e1).bind fun l e2 => (hi e2).bind fun h e3 => ofO e3 (gSl l h (frz t))
section
variable {X : Cx} {G : Sg} {W : WX} {Z : Wd} {a b c e : Expr} {es : List Expr} {fa fb fc : M T} {fs : M (List T)} {src : List (Option Nat)} {pos p2 : Pos} {lo hi : Option Expr} {fl fh : M (Option Int)}
theorem Rps.take : ∀ {F : Hp} {vs : List V} {ds : List D} (n : Nat), Rps Z F vs ds → Rps Z F (vs.take n) (ds.take n)
  | F, vs, ds, 0, h => by simp; trivial
  | F, [], [], n + 1, h => trivial
  | F, v :: vs, d :: ds, n + 1, h => ⟨h.1, Rps.take n h.2⟩
  | F, [], _ :: _, _, h => h.elim
  | F, _ :: _, [], _, h => h.elim
theorem Rps.drop : ∀ {F : Hp} {vs : List V} {ds : List D} (n : Nat), Rps Z F vs ds → Rps Z F (vs.drop n) (ds.drop n)
  | F, vs, ds, 0, h => by simpa using h
  | F, [], [], n + 1, h => trivial
  | F, v :: vs, d :: ds, n + 1, h => Rps.drop n h.2
  | F, [], _ :: _, _, h => h.elim
  | F, _ :: _, [], _, h => h.elim
theorem Rps.cut {F : Hp} {vs : List V} {ds : List D} (lo hi : Option Int) (h : Rps Z F vs ds) : Rps Z F (cutV vs lo hi) (cutD ds lo hi) := by
  unfold cutV cutD
  rw [h.length]
  exact Rps.take _ (Rps.drop _ h)
end
end DL
set_option maxHeartbeats 4000000
namespace DL
open PySem PySem.Spec PyProof.Rows L2
section
variable {prog : Program} {w : World} {A : Around} {E : Value → Shared → Prop} {s : Shared}
end
section
variable {X : Cx} {G : Sg} {W : WX} {Z : Wd} {a b c e : Expr} {es : List Expr} {fa fb fc : M T} {fs : M (List T)} {src : List (Option Nat)} {pos p p1 p2 p3 : Pos} {k : Nat}
end
end DL
set_option maxHeartbeats 4000000
namespace DL
open PySem PySem.Spec PyProof.Rows L2
@[simp] def intsD : List D → Option (List Int)
  | [] => some []
  | .int i :: ds => (intsD ds).map (i :: ·)
  | _ => none
@[simp] def blsD : List D → Option (List Bool)
  | [] => some []
  | .bl i :: ds => (blsD ds).map (i :: ·)
  | _ => none
@[simp] theorem intsD_map (ns : List Int) : intsD (ns.map D.int) = some ns := by
  induction ns with
  | nil => rfl
  | cons n ns ih => simp [ih]
@[simp] theorem blsD_map (ns : List Bool) : blsD (ns.map D.bl) = some ns := by
  induction ns with
  | nil => rfl
  | cons n ns ih => simp [ih]
section
variable {X : Cx} {Z : Wd} {H : Hp}
def tys7 : List String := ["int", "bool", "str", "NoneType", "list", "tuple", "dict"]
structure IsiC (K : PySem.W.Frag) (C : Nat → Addr) (cs : List Nat) (k : Nat) : Prop where
  ty : ∀ n ∈ tys7, PySem.W.kitOne K (.type n) (.ref (C k)) = some false
  ow : ∀ c ∈ cs, PySem.W.kitOne K (.ref (C c)) (.ref (C k)) = some (decide (c = k)) ∧ Cls K (C c) ∧ PySem.W.findIn K (.ref (C c)) "__class__" = some (some (.builtin "object.__class__")) ∧
    PySem.W.specialIn K (.builtin "object.__class__") "__get__" = some (some (.builtin "getset_descriptor.__get__")) ∧ PySem.W.takesIn K (.builtin "object.__class__") = some true ∧ PySem.W.mroIn K (C c) (.type "object") = some true
end
end DL
set_option maxHeartbeats 4000000
namespace DL
open PySem PySem.Spec PyProof.Rows L2
section
variable {X : Cx} {io0 : List Nat} {s0 : L2.St} {n : Nat} {C : Nat → Addr} {W : WX} {e o : Expr} {es : List Expr} {fs : M (List T)} {fo fa fb : M T} {src : List (Option Nat)} {k c : Nat} {ps : List Str} {io : List Nat} {m : Mir} {x : Str} {p pos apos : Pos} {a b : Expr}
theorem Room.in1 {k : Nat} {A : Around} (r : Room (k + 1) A) : Room k A.in1 := ⟨r.hd, by have := r.dp; show A.depth + 3 * k + 5 < _; omega, by have := r.un; show A.units + 1 + 16 * k + 200 < _; omega⟩
structure Dc (P : Program) (w : World) (K : PySem.W.Frag) (mg : Str → Option Value) (base : Heap) (C : Nat → Addr) (c : Nat) (x : Str) (k : Nat) (ps : List Str) (m : Mir) : Prop where
  ex : ∃ mc p g fd, ClX.CRead K (C c) mc ∧ ClX.CMet K (C c) mc x p g ∧ Binds K fd ps [] ∧ FnOk P w K mg base (L2.CX P w) k g fd ps (spOf ⟨K, C⟩ ps.length [] m)
end
end DL
set_option maxHeartbeats 4000000
namespace DL
open PySem PySem.Spec PyProof.Rows L2
section
variable {X : Cx} {io0 : List Nat} {s0 : L2.St} {n : Nat} {C : Nat → Addr} {W : WX} {e o : Expr} {es : List Expr} {fs : M (List T)} {fo fa fb : M T} {src : List (Option Nat)} {k c : Nat} {ps : List Str} {io : List Nat} {m : Mir} {x : Str} {p pos apos : Pos} {a b : Expr}
structure Do (P : Program) (w : World) (K : PySem.W.Frag) (mg : Str → Option Value) (base : Heap) (C : Nat → Addr) (c : Nat) (k : Nat) (ps : List Str) (m : Mir) : Prop where
  ex : ∃ f fd, StX.CallO K (C c) f ∧ Binds K fd ps [] ∧ FnOk P w K mg base (L2.CX P w) k f fd ps (spOf ⟨K, C⟩ ps.length [] m)
end
end DL
set_option maxHeartbeats 4000000
namespace DL
open PySem PySem.Spec PyProof.Rows L2
section
variable {X : Cx} {G : Sg} {W : WX} {a b : Expr} {fs : M (List T)} {src : List (Option Nat)} {p pos : Pos}
end
section
variable {X : Cx} {G : Sg} {W : WX} {Z : Wd} {a b c e o : Expr} {es : List Expr} {fa fb fc fo : M T} {fs : M (List T)} {src : List (Option Nat)} {p p2 pos apos : Pos}
@[simp] def strsD : List D → Option (List Str)
  | [] => some []
  | .str x :: ds => (strsD ds).map (x :: ·)
  | _ => none
@[simp] def joinD (x : D) (l : D) : Option T := match x, (match l with | .lst ds => strsD ds | .tup ds => strsD ds | _ => none) with
  | .str a, some ys => if (ys.map (·.length)).sum + ys.length * a.length ≤ 16777216 then some (.fz (.str (Txt.join a ys))) else none
  | _, _ => none
@[simp] def isStr : D → Bool
  | .str _ => true
  | _ => false
@[simp] def fJoin (fo fa : M T) (env : Env) : R T := (fo env).bind fun t e => if isStr (frz t) = true then (fa e).bind fun u e2 => ofO e2 (joinD (frz t) (frz u)) else .no
end
end DL
set_option maxHeartbeats 4000000
namespace DL
open PySem PySem.Spec PyProof.Rows L2
section
variable {X : Cx} {G : Sg} {W : WX} {Z : Wd} {a b c e o : Expr} {es : List Expr} {fa fb fc fo : M T} {fs : M (List T)} {src : List (Option Nat)} {p p2 pos apos : Pos}
def PurD (X : Cx) (Z : Wd) (f : Value → Value → Sem Value) (g : D → D → Option D) : Prop := ∃ r, OpR X f r ∧ ∀ (H : Hp) (v1 v2 : V) (d1 d2 d : D) (Q : VK),
  Rp Z H v1 d1 → Rp Z H v2 d2 → g d1 d2 = some d → (∀ v, (∀ F, Rp Z F v d) → Q v H) → r v1 v2 H Q
theorem PurD.le {f : Value → Value → Sem Value} {g k : D → D → Option D} (h : PurD X Z f g) (hk : ∀ a b t, k a b = some t → g a b = some t) : PurD X Z f k := by
  obtain ⟨r, h1, h2⟩ := h
  exact ⟨r, h1, fun H v1 v2 d1 d2 t Q p1 p2 e q => h2 H v1 v2 d1 d2 t Q p1 p2 (hk _ _ _ e) q⟩
theorem Roots.all {H : Hp} : ∀ {vs : List V} {ds : List D} {rs : List (V × T)}, vs.length = ds.length → Roots Z H (vs.zip (ds.map T.fz) ++ rs) → Rps Z H vs ds
  | [], [], _, _, _ => trivial
  | [], _ :: _, _, h, _ => by cases h
  | _ :: _, [], _, h, _ => by cases h
  | v :: vs, d :: ds, rs, h, r => ⟨Roots.fz r, Roots.all (rs := rs) (Nat.succ.inj h) (Roots.drop r)⟩
@[simp] def q1 (g : D → Option D) : List D → Option D
  | [d] => g d
  | _ => none
@[simp] def q2 (g : D → D → Option D) : List D → Option D
  | [d, e] => g d e
  | _ => none
variable {lo hi : Option Expr} {fl fh : M (Option Int)}
end
end DL
set_option maxHeartbeats 4000000
namespace DL
open PySem PySem.Spec PyProof.Rows L2
section
variable {X : Cx} {io0 : List Nat} {s0 : L2.St} {n : Nat} {C : Nat → Addr} {W : WX} {e o : Expr} {es : List Expr} {fs : M (List T)} {fo : M T} {src : List (Option Nat)} {k c : Nat} {ps : List Str} {m : Mir} {x : Str} {p pos apos : Pos}
end
end DL
set_option maxHeartbeats 4000000
namespace DL
end DL
set_option maxHeartbeats 4000000
namespace DL
open PySem PySem.Spec PyProof.Rows L2
def clsB (K : PySem.W.Frag) (C : Addr) (flds : List Str) : Bool := PySem.W.plainGet K C Str.empty && (PySem.W.hasDictIn K C && (PySem.W.plainOver K C && (decide (PySem.W.findIn K (.ref C) "__setattr__" = some (some (.builtin "object.__setattr__"))) && (PySem.W.makesIn K C && (PySem.W.keepIn K (.ref C) && (PySem.W.selfFirst K C &&
  ((tys7.all fun n => PySem.W.notFirst K C (.type n)) && flds.all fun f => decide (PySem.W.findIn K (.ref C) f = some none))))))))
structure CF (K : PySem.W.Frag) (mg : Str → Option Value) (C : Nat → Addr) (c : Nat) (x : Str) (flds : List Str) : Prop where
  cl : Cls K (C c)
  gl : mg x = some (.ref (C c))
  mks : PySem.W.makesIn K (C c) = true
  kp : PySem.W.keepIn K (.ref (C c)) = true
  sf : PySem.W.selfFirst K (C c) = true
  nf : ∀ n ∈ tys7, PySem.W.notFirst K (C c) (.type n) = true
  no : ∀ f ∈ flds, NoAttr K (C c) f
section
variable {K : PySem.W.Frag} {mg : Str → Option Value} {C : Nat → Addr} {c : Nat} {x : Str} {flds : List Str}
theorem clsB_ok (g : mg x = some (.ref (C c))) (h : clsB K (C c) flds = true) : CF K mg C c x flds := by
  unfold clsB at h
  simp only [Bool.and_eq_true, decide_eq_true_eq] at h
  obtain ⟨h1, h2, h3, h4, h5, h6, h7, h8, h9⟩ := h
  exact ⟨⟨h1, h2, h3, h4⟩, g, h5, h6, h7, fun n hn => List.all_eq_true.mp h8 n hn, fun f hf => (show PySem.W.findIn K (.ref (C c)) f = some none from of_decide_eq_true (List.all_eq_true.mp h9 f hf))⟩
end
def methB (K : PySem.W.Frag) (f : Addr) : Bool := PySem.W.isFn K (.ref f) && (PySem.W.keepIn K (.ref f) && PySem.W.fnIn K f)
theorem methB_ok {K : PySem.W.Frag} {f : Addr} (h : methB K f = true) : PySem.W.isFn K (.ref f) = true ∧ PySem.W.keepIn K (.ref f) = true ∧ PySem.W.fnIn K f = true := by
  unfold methB at h
  simp only [Bool.and_eq_true] at h
  exact ⟨h.1, h.2.1, h.2.2⟩
structure Am (K : PySem.W.Frag) (C : Nat → Addr) (c : Nat) (x qual : Str) (st : Stmt) (ps : List Str) : Prop where
  ex : ∃ f fd, Meth K (C c) x f ∧ PySem.W.fnIn K f = true ∧ Fun K x qual st f fd ∧ Binds K fd ps []
structure Ac (K : PySem.W.Frag) (C : Nat → Addr) (c : Nat) (x qual : Str) (st : Stmt) (ps : List Str) : Prop where
  ex : ∃ mc p g fd, ClX.CRead K (C c) mc ∧ ClX.CMet K (C c) mc x p g ∧ Fun K x qual st g fd ∧ Binds K fd ps []
section
variable {P : Program} {w : World} {K : PySem.W.Frag} {mg : Str → Option Value} {base : Heap} {C : Nat → Addr} {c : Nat} {x qual : Str} {st : Stmt} {N ps : List Str} {k : Nat} {io : List Nat} {fb : MS}
theorem am_mk {f : Addr} {od an : Option Addr} {sl : Array (Option Value)} {oc kV dc pm cd ct : Value} (a : PySem.W.findIn K (.ref (C c)) x = some (some (.ref f)))
    (l : K.lookup f = some ⟨oc, od, .func (PySem.W.fnOf x qual (defArgs st) (defBody st) (defScope st) .none kV dc pm an cd ct), sl⟩) (cI : PySem.W.codeIn K cd qual = true) (b : methB K f = true)
    (hb : ∀ (kV doc pm : Value) (an : Option Addr) (cdv ct : Value) (us : List Value), us.length = ps.length → bindArgs (PySem.W.fnOf x qual (defArgs st) (defBody st) (defScope st) .none kV doc pm an cdv ct) ⟨us, []⟩ = pure (ps.zip us)) : Am K C c x qual st ps := by
  obtain ⟨b1, b2, b3⟩ := methB_ok b
  exact ⟨f, _, ⟨a, b1, b2⟩, b3, fun_mk l cI b2, (fun_mk (st := st) l cI b2).binds hb⟩
def crB (K : PySem.W.Frag) (C : Addr) : Bool := PySem.W.readsIn K C (.type "type") && decide (PySem.W.specialIn K (.ref C) "__getattribute__" = some (some (.builtin "type.__getattribute__")))
theorem ac_mk {p f : Addr} {rest : List Value} {od an : Option Addr} {sl : Array (Option Value)} {oc kV dc pm cd ct : Value} (r : crB K (C c) = true) (a : PySem.W.findCls K (.ref (C c)) (.type "type") x = some (.get (.builtin "classmethod.__get__") (.ref p) .none (.ref (C c)))) (rc : PySem.W.recIn K p "classmethod" = some (.ref f :: rest))
    (l : K.lookup f = some ⟨oc, od, .func (PySem.W.fnOf x qual (defArgs st) (defBody st) (defScope st) .none kV dc pm an cd ct), sl⟩) (cI : PySem.W.codeIn K cd qual = true) (b : methB K f = true)
    (hb : ∀ (kV doc pm : Value) (an : Option Addr) (cdv ct : Value) (us : List Value), us.length = ps.length → bindArgs (PySem.W.fnOf x qual (defArgs st) (defBody st) (defScope st) .none kV doc pm an cdv ct) ⟨us, []⟩ = pure (ps.zip us)) : Ac K C c x qual st ps := by
  obtain ⟨b1, b2, b3⟩ := methB_ok b
  unfold crB at r
  simp only [Bool.and_eq_true, decide_eq_true_eq] at r
  exact ⟨_, p, f, _, ⟨r.1, r.2⟩, ⟨a, ⟨rest, rc⟩, b3⟩, fun_mk l cI b2, (fun_mk (st := st) l cI b2).binds hb⟩
end
end DL
set_option maxHeartbeats 4000000
namespace DL
open PySem PySem.Spec PyProof.Rows L2 StX
section
variable {P : Program} {w : World} {K : PySem.W.Frag} {mg : Str → Option Value} {base : Heap}
end
def spStar (Z : Wd) (n : Nat) (m : Mir) : Sp := fun vs H Q E => ∃ ws rest, vs = ws ++ rest ∧ ws.length = n ∧ rest.length ≤ sizeLine ∧ ∀ p, H p = Option.none → spOf Z (n + 1) [] m (ws ++ [V.ref p]) (upd H p (.tup rest)) Q E
structure Dcs (P : Program) (w : World) (K : PySem.W.Frag) (mg : Str → Option Value) (base : Heap) (C : Nat → Addr) (c : Nat) (x : Str) (k : Nat) (m : Mir) : Prop where
  ex : ∃ mc p g, ClX.CRead K (C c) mc ∧ ClX.CMet K (C c) mc x p g ∧ FnR P w K mg base (L2.CX P w) k g (spStar ⟨K, C⟩ 1 m)
structure Acs (K : PySem.W.Frag) (C : Nat → Addr) (c : Nat) (x qual : Str) (st : Stmt) (p1 pv : Str) : Prop where
  ex : ∃ mc p g fd, ClX.CRead K (C c) mc ∧ ClX.CMet K (C c) mc x p g ∧ Fun K x qual st g fd ∧ ∀ us rest : List Value, us.length = [p1].length → bindArgs fd ⟨us ++ rest, []⟩ = (newTuple rest >>= fun t => pure ([p1].zip us ++ [(pv, t)]))
section
variable {P : Program} {w : World} {K : PySem.W.Frag} {mg : Str → Option Value} {base : Heap} {C : Nat → Addr} {c : Nat} {x qual : Str} {st : Stmt} {N : List Str} {p1 pv : Str} {k : Nat} {fb : MS}
end
section
variable {X : Cx} {W : WX} {io0 : List Nat} {s0 : L2.St} {n : Nat} {C : Nat → Addr} {c k : Nat} {x : Str} {m : Mir} {o e : Expr} {es : List Expr} {fo : M T} {fs : M (List T)} {src : List (Option Nat)} {pos apos : Pos}
end
end DL
set_option maxHeartbeats 4000000
namespace DL
open PySem PySem.Spec PyProof.Rows L2
section
variable {P : Program} {w : World} {A : Around} {E : Value → Shared → Prop} {s : Shared}
end
end DL
set_option maxHeartbeats 4000000
namespace L2
open PySem PySem.Spec PyProof.Rows
section
variable {P : Program} {w : World} {A : Around} {E : Value → Shared → Prop} {s : Shared} {a : Addr}
end
section
variable {X : Cx}
end
end L2
set_option maxHeartbeats 4000000
namespace DL
open PySem PySem.Spec PyProof.Rows L2
section
variable {X : Cx} {G : Sg} {W : WX} {a b : Expr} {fa : M T} {p p2 p3 pos pos2 : Pos}
end
section
variable {prog : Program} {w : World} {A : Around} {E : Value → Shared → Prop} {s : Shared}
end
end DL
set_option maxHeartbeats 4000000
namespace DL
open PySem PySem.Spec PyProof.Rows L2
section
variable {X : Cx} {G : Sg} {W : WX} {Z : Wd} {a b : Expr} {fa : M T} {fs : M (List T)} {src : List (Option Nat)} {p pos : Pos}
end
section
variable {X : Cx} {W : WX} {a : Expr} {fa : M T} {p pos : Pos} {io0 : List Nat} {s0 : L2.St} {n : Nat} {C : Nat → Addr} {c k : Nat} {ps : List Str} {m : Mir}
end
section
variable {X : Cx} {G : Sg} {W : WX} {a e : Expr} {es : List Expr} {fa : M T} {fs : M (List T)} {src : List (Option Nat)} {p pos : Pos}
end
section
variable {X : Cx} {G : Sg} {W : WX} {Z : Wd} {p pos : Pos} {bd : List Stmt} {f : MS}
end
end DL
set_option maxHeartbeats 4000000
namespace DL
open PySem PySem.Spec PyProof.Rows L2
section
variable {X : Cx} {G : Sg} {W : WX} {Z : Wd} {a b c e o : Expr} {es : List Expr} {fa fb fc fo : M T} {fs : M (List T)} {src : List (Option Nat)} {p p2 pos apos : Pos}
@[simp] def splitD (x y : D) : Option T := match x, y with
  | .str a, .str b => if (b.length == 0) = false ∧ a.length + 2 ≤ sizeLine then some (.lst ((Txt.split a b).map fun z => .fz (.str z))) else none
  | _, _ => none
@[simp] def fSplit (fo fa : M T) (env : Env) : R T := (fo env).bind fun t e => if isStr (frz t) = true then (fa e).bind fun u e2 => ofO e2 (splitD (frz t) (frz u)) else .no
end
end DL
set_option maxHeartbeats 4000000
namespace DL
open PySem PySem.Spec PyProof.Rows L2
section
variable {X : Cx} {G : Sg} {W : WX} {p pos : Pos}
end
end DL
set_option maxHeartbeats 4000000
namespace DL
open PySem PySem.Spec PyProof.Rows L2
section
variable {G : Sg} {W : WX} {H : Hp} {σ : L2.St} {e : Env} {ex : List (V × T)}
end
end DL
set_option maxHeartbeats 4000000
namespace DL
open PySem PySem.Spec PyProof.Rows L2
section
variable {X : Cx} {G : Sg} {W : WX} {pos : Pos} {es : List Expr}
end
end DL
set_option maxHeartbeats 4000000
namespace ZN
open PySem PySem.Spec PyProof.Rows
structure Zi where
  it : Addr
  l : Addr
  tp : Bool
def ItI (h : Heap) (k : Nat) (p : Zi) : Prop := if p.tp then h.IsTupleIter p.it p.l k else h.IsListIter p.it p.l k
def SqC (h : Heap) (p : Zi) (xs : Array Value) : Prop := if p.tp then h.IsTuple p.l xs else h.IsList p.l xs
theorem ItI.at {h h' : Heap} {k : Nat} {p : Zi} (q : ItI h k p) (e : ∀ o, h.get? p.it = some o → h'.get? p.it = some o) : ItI h' k p := by
  unfold ItI at q ⊢
  cases c : p.tp <;> simp only [c, Bool.false_eq_true, if_true, if_false] at q ⊢
  · exact Heap.IsListIter.at q e
  · exact Heap.IsTupleIter.at q e
theorem SqC.at {h h' : Heap} {p : Zi} {xs : Array Value} (q : SqC h p xs) (e : ∀ o, h.get? p.l = some o → h'.get? p.l = some o) : SqC h' p xs := by
  unfold SqC at q ⊢
  cases c : p.tp <;> simp only [c, Bool.false_eq_true, if_true, if_false] at q ⊢
  · exact Heap.IsList.at q e
  · exact Heap.IsTuple.at q e
section
variable {prog : Program} {w : World} {A : Around} {E : Value → Shared → Prop} {s : Shared}
structure Apart (z TI TO : Addr) (zs : List Zi) : Prop where
  nd : (z :: TO :: zs.map (·.it)).Nodup
  ti : TI ∉ z :: TO :: zs.map (·.it)
  ls : ∀ p ∈ zs, p.l ∉ z :: TO :: zs.map (·.it)
abbrev TupAt (h : Heap) (a : Addr) (xs : List Value) : Prop := h.get? a = some { cls := .type "tuple", data := .seq xs.toArray }
def St (h : Heap) (z TI TO : Addr) (zs : List Zi) (k : Nat) : Prop := TupAt h TI (zs.map fun p => .ref p.it) ∧ (∀ p ∈ zs, ItI h k p) ∧
  ((IsZip h z TI TO .none ∧ ∃ tl : List Value, TupAt h TO tl ∧ tl.length = zs.length) ∨ ∃ T f oT, IsZipHeld h z TI TO T f ∧ h.get? T = some oT ∧ T ∉ z :: TO :: zs.map (·.it))
end
end ZN
set_option maxHeartbeats 4000000
namespace ZN
open PySem PySem.Spec PyProof.Rows
def Sq0 (h : Heap) (l : Addr × Bool) : Prop := ∃ xs : Array Value, if l.2 then h.IsTuple l.1 xs else h.IsList l.1 xs
theorem Sq0.at {h h' : Heap} {l : Addr × Bool} (q : Sq0 h l) (e : ∀ o, h.get? l.1 = some o → h'.get? l.1 = some o) : Sq0 h' l := by
  obtain ⟨xs, q⟩ := q
  refine ⟨xs, ?_⟩
  cases c : l.2 <;> simp only [c, Bool.false_eq_true, if_true, if_false] at q ⊢
  · exact Heap.IsList.at q e
  · exact Heap.IsTuple.at q e
end ZN
set_option maxHeartbeats 4000000
namespace ZN
open PySem PySem.Spec PyProof.Rows L2
section
variable {prog : Program} {w : World} {A : Around} {E : Value → Shared → Prop} {s : Shared}
end
def SqN (K : PySem.W.Frag) (H : Hp) (l : Addr × Bool) (xs : List V) : Prop := if l.2 then SqT K H l.1 xs else SqL K H l.1 xs
def SqNs (K : PySem.W.Frag) (H : Hp) (n : Nat) : List (Addr × Bool) → List (List V) → Prop
  | [], [] => True
  | l :: ls, xs :: xss => SqN K H l xs ∧ xs.length = n ∧ SqNs K H n ls xss
  | _, _ => False
def col (i : Nat) (rows : List (List V)) : List V := rows.map fun xs => xs.getD i .non
section
variable {X : Cx} {pins : List (Addr × Obj)} {σ : L2.St} {H : Hp} {s : Shared}
structure Run (K : PySem.W.Frag) (q : Addr) (ls : List (Addr × Bool)) (n : Nat) (P : Nat → List V → Hp → Prop) (R : Hp → Prop) : Prop where
  at_ : ∀ i acc H, P i acc H → H q = some (.lst acc) ∧ ∃ rows, SqNs K H n ls rows ∧ (i < n → acc.length < sizeLine ∧ ∀ T, H T = none → P (i + 1) (acc ++ [.ref T]) (upd (upd H T (.tup (col i rows))) q (.lst (acc ++ [.ref T]))))
  fin : ∀ acc H, P n acc H → R H
end
end ZN
set_option maxHeartbeats 4000000
namespace ZN
open PySem PySem.Spec PyProof.Rows L2
section
variable {X : Cx} {pins : List (Addr × Obj)} {σ : L2.St} {H : Hp} {s : Shared}
end
end ZN
set_option maxHeartbeats 4000000
namespace DL
open PySem PySem.Spec PyProof.Rows L2
@[simp] def rowD : D → Option (List D)
  | .lst ds => some ds
  | .tup ds => some ds
  | .wt ds => some ds
  | _ => none
@[simp] def rowsD : List D → Option (List (List D))
  | [] => some []
  | d :: ds => match rowD d with
    | some r => match rowsD ds with
      | some rs => some (r :: rs)
      | none => none
    | none => none
section
variable {Z : Wd} {F H : Hp}
end
section
variable {X : Cx} {G : Sg} {W : WX} {p p2 pos pos2 sp_ : Pos} {e : Expr} {es : List Expr} {src : List (Option Nat)} {fs : M (List T)} {fa : M T}
end
end DL
set_option maxHeartbeats 4000000
namespace DL
open PySem PySem.Spec PyProof.Rows L2
section
variable {X : Cx} {G : Sg} {W : WX} {Z : Wd} {p p2 pos pos2 : Pos} {a b c : Expr} {fa fb fc : M T}
end
end DL
set_option maxHeartbeats 4000000
namespace DL
open PySem PySem.Spec PyProof.Rows L2
mutual
@[simp] def pureD : D → Bool
  | .non => true
  | .bl _ => true
  | .int _ => true
  | .str _ => true
  | .ty _ => true
  | .cls _ => true
  | .tup xs => pureDs xs
  | .xd _ _ xs => pureDs xs
  | .dit _ => true
  | .wt xs => pureDs xs
  | _ => false
@[simp] def pureDs : List D → Bool
  | [] => true
  | d :: ds => pureD d && pureDs ds
end
mutual
@[simp] def pureT : T → Bool
  | .fz d => pureD d
  | .lst ts => pureTs ts
  | .obj _ _ ts => pureTs ts
  | _ => false
@[simp] def pureTs : List T → Bool
  | [] => true
  | t :: ts => pureT t && pureTs ts
end
section
variable {Z : Wd} {F F' F1 H H' : Hp}
mutual
theorem Own.notTup : ∀ {v : V} {t : T} {fp : List Addr}, Own Z F H v t fp → ∀ b ∈ fp, ∀ o, H b = some o → isTup o = false
  | _, .fz d, _, h, b, hb, o, e => by rw [h.2] at hb; cases hb
  | _, .lst ts, _, h, b, hb, o, e => by
    obtain ⟨a, vs, fp', _, q, r, rfl⟩ := h
    rcases List.mem_cons.mp hb with rfl | hb
    · rw [q] at e; cases e; rfl
    · exact Owns.notTup (ts := ts) r b hb o e
  | _, .obj c ns ts, _, h, b, hb, o, e => by
    obtain ⟨a, dx, vs, fp', _, q, l, qd, r, rfl⟩ := h
    rcases List.mem_cons.mp hb with rfl | hb
    · rw [q] at e; cases e; rfl
    rcases List.mem_cons.mp hb with rfl | hb
    · rw [qd] at e; cases e; rfl
    · exact Owns.notTup (ts := ts) r b hb o e
  | _, .dic ks ts, _, h, b, hb, o, e => by
    obtain ⟨a, kvs, fp', _, q, l, r, rfl⟩ := h
    rcases List.mem_cons.mp hb with rfl | hb
    · rw [q] at e; cases e; rfl
    · exact Owns.notTup (ts := ts) r b hb o e
  | _, .raw l, _, h, b, hb, o, e => by
    rw [h.2] at hb
    obtain ⟨p, hp, rfl⟩ := List.mem_map.mp hb
    rw [(h.1 p hp).1] at e
    cases e
    exact (h.1 p hp).2
theorem Owns.notTup : ∀ {vs : List V} {ts : List T} {fp : List Addr}, Owns Z F H vs ts fp → ∀ b ∈ fp, ∀ o, H b = some o → isTup o = false
  | [], [], _, h, b, hb, o, e => by
    have h : _ = [] := h
    rw [h] at hb; cases hb
  | _ :: _, t :: ts, _, h, b, hb, o, e => by
    obtain ⟨f1, f2, h1, h2, rfl⟩ := h
    rcases List.mem_append.mp hb with hb | hb
    · exact Own.notTup (t := t) h1 b hb o e
    · exact Owns.notTup (ts := ts) h2 b hb o e
  | [], _ :: _, _, h, _, _, _, _ => h.elim
  | _ :: _, [], _, h, _, _, _, _ => h.elim
end
theorem OwnR.notTup : ∀ {rs : List (V × T)} {fp : List Addr}, OwnR Z F H rs fp → ∀ b ∈ fp, ∀ o, H b = some o → isTup o = false
  | [], _, h, b, hb, o, e => by
    have h : _ = [] := h
    rw [h] at hb; cases hb
  | r :: rs, _, h, b, hb, o, e => by
    obtain ⟨f1, f2, h1, h2, rfl⟩ := h
    rcases List.mem_append.mp hb with hb | hb
    · exact Own.notTup h1 b hb o e
    · exact OwnR.notTup h2 b hb o e
theorem sqT_tup {a : Addr} {vs : List V} (k : ∀ b o, F1 b = some o → isTup o = true → F' b = some o) (h : SqT Z.K F1 a vs) : SqT Z.K F' a vs := by
  rcases h with (h | ⟨o, h⟩) | h
  · exact .inl (.inl (k _ _ h rfl))
  · exact .inl (.inr ⟨o, k _ _ h rfl⟩)
  · exact .inr h
mutual
theorem Rp.pure (k : ∀ b o, F1 b = some o → isTup o = true → F' b = some o) : ∀ {v : V} {d : D}, pureD d = true → Rp Z F1 v d → Rp Z F' v d
  | _, .non, _, h => h
  | _, .bl _, _, h => h
  | _, .int _, _, h => h
  | _, .str _, _, h => h
  | _, .ty _, _, h => h
  | _, .cls _, _, h => h
  | _, .tup ds, p, h => by
    obtain ⟨a, vs, e, q, r⟩ := h
    exact ⟨a, vs, e, ⟨sqT_tup (Z := Z) k q.1, fun z => k _ _ (q.2 z) rfl⟩, Rps.pure k (ds := ds) p r⟩
  | _, .lst _, p, _ => by cases p
  | _, .obj .., p, _ => by cases p
  | _, .dic .., p, _ => by cases p
  | _, .xd _ ns ds, p, h => by
    obtain ⟨a, vs, e, q, l, r⟩ := h
    exact ⟨a, vs, e, k _ _ q rfl, l, Rps.pure k (ds := ds) p r⟩
  | _, .dit _, _, h => by
    obtain ⟨a, o, e, q⟩ := h
    exact ⟨a, o, e, k _ _ q rfl⟩
  | _, .wt ds, p, h => by
    obtain ⟨a, vs, e, q, r⟩ := h
    exact ⟨a, vs, e, q, Rps.pure k (ds := ds) p r⟩
  | _, .val _, p, _ => by cases p
  | _, .know _, p, _ => by cases p
  | _, .raw _, p, _ => by cases p
theorem Rps.pure (k : ∀ b o, F1 b = some o → isTup o = true → F' b = some o) : ∀ {vs : List V} {ds : List D}, pureDs ds = true → Rps Z F1 vs ds → Rps Z F' vs ds
  | [], [], _, _ => trivial
  | _ :: _, d :: ds, p, h => by
    have p := Bool.and_eq_true_iff.mp p
    exact ⟨Rp.pure k (d := d) p.1 h.1, Rps.pure k (ds := ds) p.2 h.2⟩
  | [], _ :: _, _, h => h
  | _ :: _, [], _, h => h
end
mutual
theorem Own.pure (k : ∀ b o, F1 b = some o → isTup o = true → F' b = some o) : ∀ {v : V} {t : T} {fp : List Addr}, pureT t = true → Own Z F1 H v t fp → Own Z F' H v t fp
  | _, .fz d, _, p, h => ⟨Rp.pure k p h.1, h.2⟩
  | _, .lst ts, _, p, h => by
    obtain ⟨a, vs, fp', e, q, r, rfl⟩ := h
    exact ⟨a, vs, fp', e, q, Owns.pure k (ts := ts) p r, rfl⟩
  | _, .obj c ns ts, _, p, h => by
    obtain ⟨a, dx, vs, fp', e, q, l, qd, r, rfl⟩ := h
    exact ⟨a, dx, vs, fp', e, q, l, qd, Owns.pure k (ts := ts) p r, rfl⟩
  | _, .dic .., _, p, _ => by cases p
  | _, .raw _, _, p, _ => by cases p
theorem Owns.pure (k : ∀ b o, F1 b = some o → isTup o = true → F' b = some o) : ∀ {vs : List V} {ts : List T} {fp : List Addr}, pureTs ts = true → Owns Z F1 H vs ts fp → Owns Z F' H vs ts fp
  | [], [], _, _, h => h
  | _ :: _, t :: ts, _, p, h => by
    obtain ⟨f1, f2, h1, h2, rfl⟩ := h
    have p := Bool.and_eq_true_iff.mp p
    exact ⟨f1, f2, Own.pure k (t := t) p.1 h1, Owns.pure k (ts := ts) p.2 h2, rfl⟩
  | [], _ :: _, _, _, h => h
  | _ :: _, [], _, _, h => h
end
end
@[simp] def frzE : Env → Env
  | [] => []
  | none :: e => none :: frzE e
  | some t :: e => some (.fz (frz t)) :: frzE e
theorem frzE_len : ∀ e : Env, (frzE e).length = e.length
  | [] => rfl
  | none :: e => congrArg (· + 1) (frzE_len e)
  | some _ :: e => congrArg (· + 1) (frzE_len e)
theorem frzE_fit : ∀ {σ : L2.St} {env : Env}, Fit σ env → Fit σ (frzE env) := by
  intro σ env f
  refine ⟨by rw [frzE_len]; exact f.1, fun i t e => ?_⟩
  have key : ∀ (env : Env) (i : Nat) (t : T), (frzE env)[i]? = some (some t) → ∃ u, env[i]? = some (some u) := by
    intro env
    induction env with
    | nil => intro i t e; simp at e
    | cons x env ih =>
      intro i t e
      cases i with
      | zero =>
        cases x with
        | none => simp at e
        | some u => exact ⟨u, rfl⟩
      | succ i =>
        cases x with
        | none => exact ih i t e
        | some u => exact ih i t e
  obtain ⟨u, hu⟩ := key env i t e
  exact f.2 i u hu
theorem frzE_slots {Z : Wd} {F F' H : Hp} (s : Same F F') : ∀ {σ : L2.St} {env : Env} {fp : List Addr}, OwnR Z F H (slots σ env) fp → (∀ b ∈ fp, F' b = H b) → OwnR Z F' H (slots σ (frzE env)) []
  | [], [], _, _, _ => rfl
  | [], _ :: _, _, _, _ => rfl
  | _ :: _, [], _, _, _ => by simp [slots, OwnR]
  | o :: σ, none :: env, fp, h, k => by
    cases o with
    | none => exact frzE_slots s (σ := σ) (env := env) h k
    | some v => exact frzE_slots s (σ := σ) (env := env) h k
  | none :: σ, some t :: env, fp, h, k => frzE_slots s (σ := σ) (env := env) h k
  | some v :: σ, some t :: env, fp, h, k => by
    obtain ⟨f1, f2, h1, h2, rfl⟩ := h
    exact ⟨[], [], ⟨Own.frz s h1 fun b hb => k b (List.mem_append_left _ hb), rfl⟩, frzE_slots s (σ := σ) (env := env) h2 fun b hb => k b (List.mem_append_right _ hb), rfl⟩
theorem Rel.ro {G : Sg} {H : Hp} {σ : L2.St} {env : Env} {ex : List (V × T)} (r : Rel G H σ env ex) : ∃ ex', Rel G H σ (frzE env) ex' ∧
    ∀ H' e' (l : List (V × T)), (∀ p ∈ l, pureT p.2 = true) → Rel G H' σ e' (l ++ ex') → Rel G H' σ env (l ++ ex) := by
  obtain ⟨ft, hio, F, fp, s, ow, nd, dj⟩ := r
  obtain ⟨f1, f2, o1, o2, rfl⟩ := OwnR.split ow
  have ndp := List.nodup_append.mp nd
  have th1 := o1.there
  have th2 := o2.there
  let F0 : Hp := fun b => if b ∈ f1 then H b else F b
  have in1 : ∀ b ∈ f1, F0 b = H b := fun b hb => if_pos hb
  have out : ∀ b, b ∉ f1 → F0 b = F b := fun b hb => if_neg hb
  have s1 : Same F F0 := fun b x e => by
    have nb : b ∉ f1 := fun hb => by
      rw [dj b (List.mem_append_left _ hb)] at e
      cases e
    rw [out b nb]; exact e
  have s2 : Same F0 H := fun b x e => by
    by_cases hb : b ∈ f1
    · rw [in1 b hb] at e; exact e
    · rw [out b hb] at e; exact s b x e
  let L : List (Addr × HO) := f2.map fun b => (b, (H b).getD (.lst []))
  have hL : ∀ p ∈ L, H p.1 = some p.2 ∧ isTup p.2 = false := fun p hp => by
    obtain ⟨b, hb, rfl⟩ := List.mem_map.mp hp
    obtain ⟨o, eo⟩ := th2 b hb
    have : H b = some ((H b).getD (.lst [])) := by rw [eo]; rfl
    exact ⟨this, o2.notTup b hb _ this⟩
  have eL : L.map (·.1) = f2 := by
    show (f2.map fun b => (b, (H b).getD (.lst []))).map (·.1) = f2
    rw [List.map_map]
    show f2.map (fun b => b) = f2
    exact List.map_id f2
  refine ⟨[(.non, .raw L), (.non, .fz (.know F0))], ⟨frzE_fit ft, ⟨by rw [frzE_len]; exact hio.1, hio.2⟩, F0, f2, s2, ?_, ndp.2.1, fun b hb => ?_⟩, ?_⟩
  · have a1 := frzE_slots s1 o1 in1
    have a2 : OwnR G.Z F0 H [(V.non, T.raw L), (V.non, .fz (.know F0))] f2 := ⟨f2, [], ⟨hL, eL.symm⟩, ⟨[], [], ⟨fun _ _ e => e, rfl⟩, rfl, rfl⟩, (List.append_nil _).symm⟩
    exact a1.append a2
  · rw [out b fun h1 => ndp.2.2 b h1 b hb rfl]
    exact dj b (List.mem_append_right _ hb)
  · intro H' e' l hl r'
    have ro : Roots G.Z H' (l ++ [(V.non, T.raw L), (V.non, .fz (.know F0))]) := r'.2.2.drops
    obtain ⟨F1, fp1, t1, ow1, nd1, dj1⟩ := ro
    obtain ⟨g1, g2, p1, p2, rfl⟩ := OwnR.split ow1
    obtain ⟨_, _, ⟨hraw, rfl⟩, ⟨_, _, ⟨hkn, rfl⟩, h0, rfl⟩, rfl⟩ := p2
    have h0 : _ = [] := h0
    subst h0
    have hkn : Same F0 F1 := hkn
    rw [eL, List.append_nil] at nd1
    rw [eL, List.append_nil] at dj1
    have nd1p := List.nodup_append.mp nd1
    let F2 : Hp := fun b => match F1 b with
      | some o => if isTup o = true then some o else F b
      | none => F b
    have sF : Same F F2 := fun b x e => by
      have e1 : F1 b = some x := hkn b x (s1 b x e)
      show (match F1 b with | some o => if isTup o = true then some o else F b | none => F b) = some x
      rw [e1]
      show (if isTup x = true then some x else F b) = some x
      split
      · rfl
      · exact e
    have sH : Same F2 H' := fun b x e => by
      have e : (match F1 b with | some o => if isTup o = true then some o else F b | none => F b) = some x := e
      cases q : F1 b with
      | none =>
        rw [q] at e
        have := hkn b x (s1 b x e)
        rw [q] at this; cases this
      | some o =>
        rw [q] at e
        have e : (if isTup o = true then some o else F b) = some x := e
        split at e
        · cases e; exact t1 b _ q
        · have z := hkn b x (s1 b x e)
          exact t1 b x z
    have kT : ∀ b o, F1 b = some o → isTup o = true → F2 b = some o := fun b o e ht => by
      show (match F1 b with | some o => if isTup o = true then some o else F b | none => F b) = some o
      rw [e]
      exact if_pos ht
    have h1eq : ∀ b ∈ f1, H' b = H b := fun b hb => by
      obtain ⟨o, eo⟩ := th1 b hb
      rw [eo]
      exact t1 b o (hkn b o (by rw [in1 b hb]; exact eo))
    have h2eq : ∀ b ∈ f2, H' b = H b := fun b hb => by
      have hm : (b, (H b).getD (.lst [])) ∈ L := List.mem_map_of_mem hb
      obtain ⟨o, eo⟩ := th2 b hb
      rw [eo, (hraw _ hm).1]
      show some ((H b).getD (.lst [])) = some o
      rw [eo]; rfl
    have pl : ∀ {l : List (V × T)} {g : List Addr}, (∀ p ∈ l, pureT p.2 = true) → OwnR G.Z F1 H' l g → OwnR G.Z F2 H' l g := by
      intro l
      induction l with
      | nil => exact fun _ h => h
      | cons x l ih =>
        rintro g hp ⟨a1, a2, q1, q2, rfl⟩
        exact ⟨a1, a2, Own.pure kT (hp x (List.mem_cons_self ..)) q1, ih (fun p hp' => hp p (List.mem_cons_of_mem _ hp')) q2, rfl⟩
    have F2n : ∀ b, F1 b = none → F2 b = none := fun b e => by
      show (match F1 b with | some o => if isTup o = true then some o else F b | none => F b) = none
      rw [e]
      cases q : F b with
      | none => rfl
      | some x =>
        have := hkn b x (s1 b x q)
        rw [e] at this; cases this
    have in1n : ∀ b ∈ f1, F2 b = none := fun b hb => by
      obtain ⟨o, eo⟩ := th1 b hb
      have e1 : F1 b = some o := hkn b o (by rw [in1 b hb]; exact eo)
      show (match F1 b with | some o => if isTup o = true then some o else F b | none => F b) = none
      rw [e1]
      show (if isTup o = true then some o else F b) = none
      rw [o1.notTup b hb o eo, if_neg Bool.false_ne_true]
      exact dj b (List.mem_append_left _ hb)
    refine ⟨ft, hio, F2, f1 ++ (g1 ++ f2), sH, OwnR.append (OwnR.stay sF o1 h1eq) (OwnR.append (pl hl p1) (OwnR.stay sF o2 h2eq)), ?_, ?_⟩
    · refine List.nodup_append.mpr ⟨ndp.1, nd1, fun a ha b hb e => ?_⟩
      subst e
      rcases List.mem_append.mp hb with hb | hb
      · have z := dj1 a (List.mem_append_left _ hb)
        obtain ⟨o, eo⟩ := th1 a ha
        have e1 : F1 a = some o := hkn a o (by rw [in1 a ha]; exact eo)
        rw [z] at e1; cases e1
      · exact ndp.2.2 a ha a hb rfl
    · intro b hb
      rcases List.mem_append.mp hb with hb | hb
      · exact in1n b hb
      · exact F2n b (dj1 b hb)
section
variable {X : Cx} {G : Sg} {W : WX} {e : Expr} {f : M T} {g : M Bool}
end
end DL
set_option maxHeartbeats 4000000
namespace DL
open PySem PySem.Spec PyProof.Rows L2
@[simp] def setKid : T → Nat → T → T
  | .lst ts, j, s => .lst (ts.set j s)
  | .obj c ns ts, j, s => .obj c ns (ts.set j s)
  | .dic ks ts, j, s => .dic ks (ts.set j s)
  | t, _, _ => t
section
variable {Z : Wd} {F F' H H' : Hp}
theorem Owns.at : ∀ {vs : List V} {ts : List T} {fp : List Addr} {j : Nat} {v : V}, Owns Z F H vs ts fp → ts[j]? = some (.fz (.val v)) → vs[j]? = some v
  | [], [], _, _, _, _, e => by simp at e
  | v :: vs, t :: ts, _, 0, u, h, e => by
    obtain ⟨f1, f2, h1, h2, rfl⟩ := h
    have e : t = _ := Option.some.inj e
    subst e
    have h1 : v = u := h1.1
    subst h1
    rfl
  | v :: vs, t :: ts, _, j + 1, u, h, e => by
    obtain ⟨f1, f2, h1, h2, rfl⟩ := h
    exact Owns.at (j := j) h2 e
  | [], _ :: _, _, _, _, h, _ => h.elim
  | _ :: _, [], _, _, _, h, _ => h.elim
end
@[simp] def fr : V → List (Nat × T) → List V → List (V × T)
  | v, (j, t) :: fs, w :: ws => (w, setKid t j (.fz (.val v))) :: fr w fs ws
  | _, _, _ => []
structure Pl where
  i : Nat
  fs : List (Nat × T)
  sub : T
section
variable {X : Cx} {G : Sg} {W : WX} {a b c e : Expr} {fa fb : M T} {fp : M Pl} {pos : Pos}
end
end DL
set_option maxHeartbeats 4000000
namespace DL
open PySem PySem.Spec PyProof.Rows L2
abbrev hole (w : V) : T := .fz (.val w)
section
variable {Z : Wd} {F F' H H' : Hp}
theorem owns_holes : ∀ (ws : List V), Owns Z F H ws (ws.map hole) []
  | [] => rfl
  | w :: ws => ⟨[], [], ⟨rfl, rfl⟩, owns_holes ws, rfl⟩
theorem Roots.open {vr : V} {ts : List T} {rs : List (V × T)} (h : Roots Z H ((vr, .lst ts) :: rs)) : ∃ p ws, vr = .ref p ∧ H p = some (.lst ws) ∧ ws.length = ts.length ∧ Roots Z H ((vr, .lst (ws.map hole)) :: (ws.zip ts ++ rs)) := by
  obtain ⟨F, _, s, ⟨_, f2, ⟨a, ws, f1, e1, e2, o1, rfl⟩, o2, rfl⟩, n, d⟩ := h
  refine ⟨a, ws, e1, e2, o1.length, F, (a :: f1) ++ f2, s, ⟨[a], f1 ++ f2, ⟨a, ws, [], e1, e2, owns_holes ws, rfl⟩, OwnR.append o1.to o2, rfl⟩, n, d⟩
end
section
variable {X : Cx} {G : Sg} {W : WX} {a b c d e : Expr} {fa fb fc fd : M T} {fp : M Pl} {pos : Pos}
end
end DL
set_option maxHeartbeats 4000000
namespace DL
open PySem PySem.Spec PyProof.Rows L2
section
variable {X : Cx} {G : Sg} {W : WX} {a b c d e : Expr} {fa fb fc fd : M T} {fp : M Pl} {pos : Pos} {bd : List Stmt} {f : MS}
end
end DL
set_option maxHeartbeats 4000000
namespace DL
open PySem PySem.Spec PyProof.Rows L2
section
variable {X : Cx} {G : Sg} {W : WX} {a b c e : Expr} {fa fb : M T} {fp : M Pl} {pos : Pos}
end
end DL
set_option maxHeartbeats 4000000
namespace DL
open PySem PySem.Spec PyProof.Rows L2
section
variable {X : Cx} {io0 : List Nat} {s0 : L2.St} {n : Nat} {C : Nat → Addr} {W : WX} {e o : Expr} {es : List Expr} {fs : M (List T)} {fo : M T} {src : List (Option Nat)} {k c : Nat} {ps : List Str} {io : List Nat} {m : Mir} {x y : Str} {p pos apos : Pos}
end
end DL
set_option maxHeartbeats 4000000
namespace DL
open PySem PySem.Spec PyProof.Rows L2
structure DmD (P : Program) (w : World) (K : PySem.W.Frag) (mg : Str → Option Value) (base : Heap) (C : Nat → Addr) (c : Nat) (x : Str) (k : Nat) (ps : List Str) (vv : V) (io : List Nat) (m : Mir) : Prop where
  ex : ∃ f fd ds, Meth K (C c) x f ∧ Vals [vv] ds ∧ Binds K fd ps ds ∧ FnOk P w K mg base (L2.CX P w) k f fd ps (spOf ⟨K, C⟩ ps.length io m)
section
variable {X : Cx} {io0 : List Nat} {s0 : L2.St} {n : Nat} {C : Nat → Addr} {W : WX} {e o : Expr} {es : List Expr} {fs : M (List T)} {fo : M T} {src : List (Option Nat)} {k c : Nat} {ps : List Str} {io : List Nat} {m : Mir} {x y : Str} {p pos apos : Pos}
end
end DL
set_option maxHeartbeats 4000000
namespace DL
open PySem PySem.Spec PyProof.Rows L2
structure DmK (P : Program) (w : World) (K : PySem.W.Frag) (mg : Str → Option Value) (base : Heap) (C : Nat → Addr) (c : Nat) (x : Str) (k : Nat) (ps : List Str) (kw : Str) (io : List Nat) (m : Mir) : Prop where
  ex : ∃ f fd g, Meth K (C c) x f ∧ KBn K fd ps (ps.length - 1) [kw] g (fun vs zs => vs ++ zs) ∧ FnOk P w K mg base (L2.CX P w) k f fd ps (spOf ⟨K, C⟩ ps.length io m)
section
variable {X : Cx} {io0 : List Nat} {s0 : L2.St} {n : Nat} {C : Nat → Addr} {W : WX} {e o a : Expr} {es : List Expr} {fs : M (List T)} {fo fk : M T} {src : List (Option Nat)} {k c : Nat} {ps : List Str} {io : List Nat} {m : Mir} {x y kw : Str} {p pos apos kpos : Pos}
end
end DL
set_option maxHeartbeats 4000000
namespace DL
open PySem PySem.Spec PyProof.Rows L2
mutual
@[simp] def clD (al : List Nat) : D → Bool
  | .non => true
  | .bl _ => true
  | .int _ => true
  | .str _ => true
  | .ty _ => true
  | .cls _ => true
  | .tup xs => clDs al xs
  | .xd _ _ xs => clDs al xs
  | .obj c _ xs => al.contains c && clDs al xs
  | .dit _ => true
  | .wt xs => clDs al xs
  | _ => false
@[simp] def clDs (al : List Nat) : List D → Bool
  | [] => true
  | d :: ds => clD al d && clDs al ds
end
mutual
@[simp] def clT (al : List Nat) : T → Bool
  | .fz d => clD al d
  | .lst ts => clTs al ts
  | .obj _ _ ts => clTs al ts
  | _ => false
@[simp] def clTs (al : List Nat) : List T → Bool
  | [] => true
  | t :: ts => clT al t && clTs al ts
end
mutual
/-- the objects of an owned tree are of the classes ow -/
@[simp] def noT (ow : List Nat) : T → Bool
  | .fz _ => true
  | .lst ts => noTs ow ts
  | .obj c _ ts => ow.contains c && noTs ow ts
  | .dic _ ts => noTs ow ts
  | .raw _ => false
@[simp] def noTs (ow : List Nat) : List T → Bool
  | [] => true
  | t :: ts => noT ow t && noTs ow ts
end
@[simp] def noE (ow : List Nat) : Env → Bool
  | [] => true
  | none :: e => noE ow e
  | some t :: e => noT ow t && noE ow e
def Apart (C : Nat → Addr) (al ow : List Nat) : Prop := ∀ a ∈ al, ∀ c ∈ ow, C a ≠ C c
def okO (C : Nat → Addr) (al : List Nat) (o : HO) : Bool := isTup o || match o with
  | .ins c _ _ => al.any fun a => C a == c
  | _ => false
section
variable {Z : Wd} {F F' F1 H H' : Hp} {al ow : List Nat}
mutual
theorem Own.notOk (hA : Apart Z.C al ow) : ∀ {v : V} {t : T} {fp : List Addr}, noT ow t = true → Own Z F H v t fp → ∀ b ∈ fp, ∀ o, H b = some o → okO Z.C al o = false
  | _, .fz d, _, _, h, b, hb, o, e => by rw [h.2] at hb; cases hb
  | _, .lst ts, _, n, h, b, hb, o, e => by
    obtain ⟨a, vs, fp', _, q, r, rfl⟩ := h
    rcases List.mem_cons.mp hb with rfl | hb
    · rw [q] at e; cases e; rfl
    · exact Owns.notOk hA (ts := ts) n r b hb o e
  | _, .obj c ns ts, _, n, h, b, hb, o, e => by
    obtain ⟨a, dx, vs, fp', _, q, l, qd, r, rfl⟩ := h
    have n := Bool.and_eq_true_iff.mp n
    rcases List.mem_cons.mp hb with rfl | hb
    · rw [q] at e; cases e
      show (al.any fun a => Z.C a == Z.C c) = false
      rw [List.any_eq_false]
      intro x hx
      have := hA x hx c (List.contains_iff_mem.mp n.1)
      simpa using this
    rcases List.mem_cons.mp hb with rfl | hb
    · rw [qd] at e; cases e; rfl
    · exact Owns.notOk hA (ts := ts) n.2 r b hb o e
  | _, .dic ks ts, _, n, h, b, hb, o, e => by
    obtain ⟨a, kvs, fp', _, q, l, r, rfl⟩ := h
    rcases List.mem_cons.mp hb with rfl | hb
    · rw [q] at e; cases e; rfl
    · exact Owns.notOk hA (ts := ts) n r b hb o e
  | _, .raw l, _, n, h, b, hb, o, e => by cases n
theorem Owns.notOk (hA : Apart Z.C al ow) : ∀ {vs : List V} {ts : List T} {fp : List Addr}, noTs ow ts = true → Owns Z F H vs ts fp → ∀ b ∈ fp, ∀ o, H b = some o → okO Z.C al o = false
  | [], [], _, _, h, b, hb, o, e => by
    have h : _ = [] := h
    rw [h] at hb; cases hb
  | _ :: _, t :: ts, _, n, h, b, hb, o, e => by
    obtain ⟨f1, f2, h1, h2, rfl⟩ := h
    have n := Bool.and_eq_true_iff.mp n
    rcases List.mem_append.mp hb with hb | hb
    · exact Own.notOk hA (t := t) n.1 h1 b hb o e
    · exact Owns.notOk hA (ts := ts) n.2 h2 b hb o e
  | [], _ :: _, _, _, h, _, _, _, _ => h.elim
  | _ :: _, [], _, _, h, _, _, _, _ => h.elim
end
theorem OwnR.notOk (hA : Apart Z.C al ow) : ∀ {σ : L2.St} {env : Env} {fp : List Addr}, noE ow env = true → OwnR Z F H (slots σ env) fp → ∀ b ∈ fp, ∀ o, H b = some o → okO Z.C al o = false
  | [], [], _, _, h, b, hb, o, e => by
    have h : _ = [] := h
    rw [h] at hb; cases hb
  | [], _ :: _, _, _, h, b, hb, o, e => by
    have h : _ = [] := h
    rw [h] at hb; cases hb
  | _ :: _, [], fp, _, h, b, hb, o, e => by
    have h : fp = [] := by simpa [slots, OwnR] using h
    rw [h] at hb; cases hb
  | x :: σ, none :: env, fp, n, h, b, hb, o, e => by
    cases x with
    | none => exact OwnR.notOk hA (σ := σ) (env := env) n h b hb o e
    | some v => exact OwnR.notOk hA (σ := σ) (env := env) n h b hb o e
  | none :: σ, some t :: env, fp, n, h, b, hb, o, e => OwnR.notOk hA (σ := σ) (env := env) (Bool.and_eq_true_iff.mp n).2 h b hb o e
  | some v :: σ, some t :: env, fp, n, h, b, hb, o, e => by
    obtain ⟨f1, f2, h1, h2, rfl⟩ := h
    have n := Bool.and_eq_true_iff.mp n
    rcases List.mem_append.mp hb with hb | hb
    · exact Own.notOk hA (t := t) n.1 h1 b hb o e
    · exact OwnR.notOk hA (σ := σ) (env := env) n.2 h2 b hb o e
theorem okO_tup {C : Nat → Addr} {o : HO} (h : isTup o = true) : okO C al o = true := by
  unfold okO; rw [h]; rfl
mutual
theorem Rp.pureC (k : ∀ b o, F1 b = some o → okO Z.C al o = true → F' b = some o) : ∀ {v : V} {d : D}, clD al d = true → Rp Z F1 v d → Rp Z F' v d
  | _, .non, _, h => h
  | _, .bl _, _, h => h
  | _, .int _, _, h => h
  | _, .str _, _, h => h
  | _, .ty _, _, h => h
  | _, .cls _, _, h => h
  | _, .tup ds, p, h => by
    obtain ⟨a, vs, e, q, r⟩ := h
    exact ⟨a, vs, e, ⟨sqT_tup (Z := Z) (fun b o e1 e2 => k b o e1 (okO_tup e2)) q.1, fun z => k _ _ (q.2 z) rfl⟩, Rps.pureC k (ds := ds) p r⟩
  | _, .lst _, p, _ => by cases p
  | _, .obj c ns ds, p, h => by
    have p := Bool.and_eq_true_iff.mp p
    obtain ⟨a, dx, vs, e, q, l, r⟩ := h
    refine ⟨a, dx, vs, e, k _ _ q ?_, l, Rps.pureC k (ds := ds) p.2 r⟩
    show (al.any fun a => Z.C a == Z.C c) = true
    rw [List.any_eq_true]
    exact ⟨c, List.contains_iff_mem.mp p.1, by simp⟩
  | _, .dic .., p, _ => by cases p
  | _, .xd _ ns ds, p, h => by
    obtain ⟨a, vs, e, q, l, r⟩ := h
    exact ⟨a, vs, e, k _ _ q rfl, l, Rps.pureC k (ds := ds) p r⟩
  | _, .dit _, _, h => by
    obtain ⟨a, o, e, q⟩ := h
    exact ⟨a, o, e, k _ _ q rfl⟩
  | _, .wt ds, p, h => by
    obtain ⟨a, vs, e, q, r⟩ := h
    exact ⟨a, vs, e, q, Rps.pureC k (ds := ds) p r⟩
  | _, .val _, p, _ => by cases p
  | _, .know _, p, _ => by cases p
  | _, .raw _, p, _ => by cases p
theorem Rps.pureC (k : ∀ b o, F1 b = some o → okO Z.C al o = true → F' b = some o) : ∀ {vs : List V} {ds : List D}, clDs al ds = true → Rps Z F1 vs ds → Rps Z F' vs ds
  | [], [], _, _ => trivial
  | _ :: _, d :: ds, p, h => by
    have p := Bool.and_eq_true_iff.mp p
    exact ⟨Rp.pureC k (d := d) p.1 h.1, Rps.pureC k (ds := ds) p.2 h.2⟩
  | [], _ :: _, _, h => h
  | _ :: _, [], _, h => h
end
mutual
theorem Own.pureC (k : ∀ b o, F1 b = some o → okO Z.C al o = true → F' b = some o) : ∀ {v : V} {t : T} {fp : List Addr}, clT al t = true → Own Z F1 H v t fp → Own Z F' H v t fp
  | _, .fz d, _, p, h => ⟨Rp.pureC k p h.1, h.2⟩
  | _, .lst ts, _, p, h => by
    obtain ⟨a, vs, fp', e, q, r, rfl⟩ := h
    exact ⟨a, vs, fp', e, q, Owns.pureC k (ts := ts) p r, rfl⟩
  | _, .obj c ns ts, _, p, h => by
    obtain ⟨a, dx, vs, fp', e, q, l, qd, r, rfl⟩ := h
    exact ⟨a, dx, vs, fp', e, q, l, qd, Owns.pureC k (ts := ts) p r, rfl⟩
  | _, .dic .., _, p, _ => by cases p
  | _, .raw _, _, p, _ => by cases p
theorem Owns.pureC (k : ∀ b o, F1 b = some o → okO Z.C al o = true → F' b = some o) : ∀ {vs : List V} {ts : List T} {fp : List Addr}, clTs al ts = true → Owns Z F1 H vs ts fp → Owns Z F' H vs ts fp
  | [], [], _, _, h => h
  | _ :: _, t :: ts, _, p, h => by
    obtain ⟨f1, f2, h1, h2, rfl⟩ := h
    have p := Bool.and_eq_true_iff.mp p
    exact ⟨f1, f2, Own.pureC k (t := t) p.1 h1, Owns.pureC k (ts := ts) p.2 h2, rfl⟩
  | [], _ :: _, _, _, h => h
  | _ :: _, [], _, _, h => h
end
end
section
variable {X : Cx} {G : Sg} {W : WX} {e : Expr} {f : M T} {g : M Bool} {al ow : List Nat}
end
def apartB (cs : List Addr) (al ow : List Nat) : Bool := al.all fun a => ow.all fun c => !Nat.beq (cs.getD a 0) (cs.getD c 0)
theorem apartB_ok {cs : List Addr} {al ow : List Nat} (h : apartB cs al ow = true) : Apart (fun i => cs.getD i 0) al ow := fun a ha c hc e => by
  have := List.all_eq_true.mp (List.all_eq_true.mp h a ha) c hc
  have e : cs.getD a 0 = cs.getD c 0 := e
  rw [e, Nat.beq_refl] at this
  cases this
end DL
set_option maxHeartbeats 4000000
namespace L2
open PySem PySem.Spec PyProof.Rows PySem.SeqAt
section
variable {X : Cx}
end
end L2
namespace DL
open PySem PySem.Spec PyProof.Rows L2
section
variable {X : Cx} {Z : Wd}
end
section
variable {X : Cx} {io0 : List Nat} {s0 : L2.St} {n : Nat} {C : Nat → Addr} {W : WX} {k c : Nat} {ps : List Str} {m : Mir} {x : Str} {p pos : Pos}
end
end DL
set_option maxHeartbeats 4000000
namespace DL
open PySem PySem.Spec PyProof.Rows L2
structure AmKD (K : PySem.W.Frag) (C : Nat → Addr) (c : Nat) (x qual : Str) (st : Stmt) (ps : List Str) (kw : Str) (vv : V) : Prop where
  ex : ∃ f fd g ds, Meth K (C c) x f ∧ Fun K x qual st f fd ∧ KBn K fd ps (ps.length - 1) [kw] g (fun vs zs => vs ++ zs) ∧ Vals [vv] ds ∧ Binds K fd ps ds
structure AmK (K : PySem.W.Frag) (C : Nat → Addr) (c : Nat) (x qual : Str) (st : Stmt) (ps : List Str) (kw : Str) : Prop where
  ex : ∃ f fd g, Meth K (C c) x f ∧ Fun K x qual st f fd ∧ KBn K fd ps (ps.length - 1) [kw] g (fun vs zs => vs ++ zs)
structure AtK (K : PySem.W.Frag) (mg : Str → Option Value) (x : Str) (st : Stmt) (ps : List Str) (kw : Str) : Prop where
  ex : ∃ f fd g, mg x = some (.ref f) ∧ Fun K x x st f fd ∧ KBn K fd ps (ps.length - 1) [kw] g (fun vs zs => vs ++ zs)
structure DfK (P : Program) (w : World) (K : PySem.W.Frag) (mg : Str → Option Value) (base : Heap) (C : Nat → Addr) (x : Str) (k : Nat) (ps : List Str) (kw : Str) (m : Mir) : Prop where
  ex : ∃ f fd g, mg x = some (.ref f) ∧ PySem.W.keepIn K (.ref f) = true ∧ KBn K fd ps (ps.length - 1) [kw] g (fun vs zs => vs ++ zs) ∧ FnOk P w K mg base (L2.CX P w) k f fd ps (spOf ⟨K, C⟩ ps.length [] m)
section
variable {P : Program} {w : World} {K : PySem.W.Frag} {mg : Str → Option Value} {base : Heap} {C : Nat → Addr} {c : Nat} {x qual kw : Str} {vv : V} {st : Stmt} {N ps : List Str} {j k : Nat} {io : List Nat} {fb : MS} {m : Mir}
theorem DmK.mono (h : DmK P w K mg base C c x j ps kw io m) (hk : j ≤ k) : DmK P w K mg base C c x k ps kw io m := by
  obtain ⟨f, fd, g, h1, h2, h3⟩ := h.ex
  exact ⟨f, fd, g, h1, h2, h3.mono hk⟩
theorem DmD.mono (h : DmD P w K mg base C c x j ps vv io m) (hk : j ≤ k) : DmD P w K mg base C c x k ps vv io m := by
  obtain ⟨f, fd, ds, h1, h2, h3, h4⟩ := h.ex
  exact ⟨f, fd, ds, h1, h2, h3, h4.mono hk⟩
theorem DfK.mono (h : DfK P w K mg base C x j ps kw m) (hk : j ≤ k) : DfK P w K mg base C x k ps kw m := by
  obtain ⟨f, fd, g, h1, h2, h3, h4⟩ := h.ex
  exact ⟨f, fd, g, h1, h2, h3, h4.mono hk⟩
theorem kbn_mk {fd : FuncData} {n : Nat} (h : ∀ us ws : List Value, us.length = n → ws.length = 1 → bindArgs fd ⟨us, [kw].zip ws⟩ = pure (ps.zip (us ++ ws))) : KBn K fd ps n [kw] (fun us ws => us ++ ws) (fun vs zs => vs ++ zs) :=
  ⟨fun s us ws X l1 l2 => BindsTo.of_eq (h us ws l1 l2), fun r1 r2 => r1.append r2⟩
section
variable {f D : Addr} {od an : Option Addr} {sl : Array (Option Value)} {oc dc pm cd ct u : Value}
theorem amK_mk {kV : Value} (hn : n + 1 = ps.length) (a : PySem.W.findIn K (.ref (C c)) x = some (some (.ref f)))
    (l : K.lookup f = some ⟨oc, od, .func (PySem.W.fnOf x qual (defArgs st) (defBody st) (defScope st) .none kV dc pm an cd ct), sl⟩) (cI : PySem.W.codeIn K cd qual = true) (b : methB K f = true)
    (hk : ∀ (kV doc pm : Value) (an : Option Addr) (cdv ct : Value) (us ws : List Value), us.length = n → ws.length = 1 → bindArgs (PySem.W.fnOf x qual (defArgs st) (defBody st) (defScope st) .none kV doc pm an cdv ct) ⟨us, [kw].zip ws⟩ = pure (ps.zip (us ++ ws))) : AmK K C c x qual st ps kw := by
  obtain ⟨b1, b2, b3⟩ := methB_ok b
  have e : ps.length - 1 = n := by omega
  exact ⟨f, _, _, ⟨a, b1, b2⟩, fun_mk l cI b2, by rw [e]; exact kbn_mk (hk _ _ _ _ _ _)⟩
end
end
section
variable {X : Cx} {io0 : List Nat} {s0 : L2.St} {n : Nat} {hot : Bool} {C : Nat → Addr} {W : WX} {e a : Expr} {es : List Expr} {fs : M (List T)} {fk : M T} {src : List (Option Nat)} {k : Nat} {ps : List Str} {m : Mir} {x kw : Str} {p pos kpos : Pos}
end
end DL
set_option maxHeartbeats 4000000
namespace DL
open PySem PySem.Spec PyProof.Rows L2
structure FnW (P : Program) (w : World) (K : PySem.W.Frag) (mg : Str → Option Value) (base : Heap) (CX : CXT) (k : Nat) (f : Addr) (fd : FuncData) (ps : List Str) (sp : Sp) : Prop where
  len : ∀ vs H Q E, sp vs H Q E → vs.length = ps.length
  run : ∀ (A : Around) (outer : List PySem.Env) (s : Shared) (H : Hp) (args : Args) (us : List Value) (vs : List V) (Q : VK) (E : XK) (p : Addr × Obj), L2H.RoomH k A → L2H.PinOk outer H s p → Env0 P w K mg base A outer s H → BindsTo s fd args (ps.zip us) → Vals vs us → sp vs H Q E →
    codeAny (model P w) A (.call (.ref f) args) (CR CX outer P w H s Q E) s
structure DfW (P : Program) (w : World) (K : PySem.W.Frag) (mg : Str → Option Value) (base : Heap) (C : Nat → Addr) (x : Str) (k : Nat) (ps : List Str) (m : Mir) : Prop where
  ex : ∃ f fd, mg x = some (.ref f) ∧ PySem.W.keepIn K (.ref f) = true ∧ Binds K fd ps [] ∧ FnW P w K mg base (L2.CX P w) k f fd ps (spOf ⟨K, C⟩ ps.length [] m)
section
variable {P : Program} {w : World} {K : PySem.W.Frag} {mg : Str → Option Value} {base : Heap} {C : Nat → Addr}
end
end DL
namespace DL
open PySem PySem.Spec PyProof.Rows L2
section
variable {X : Cx} {CX : CXT} {k : Nat} {f : Addr} {fd : FuncData} {ps : List Str} {sp : Sp} {E : L2.St → XK}
end
section
variable {X : Cx} {io0 : List Nat} {s0 : L2.St} {n : Nat} {hot : Bool} {C : Nat → Addr} {oi : Option Nat} {k kx : Nat} {x : Str} {ps : List Str} {m : Mir} {e : Expr} {es : List Expr} {fs : M (List T)} {src : List (Option Nat)} {pos q : Pos}
end
def rdVT (G : Sg) (oi : Option Nat) (k : Nat) (a : Addr) (cls : Value) (d : Option Addr) (f : M Bool) : TT := fun σ H Q => cdS G oi k a cls σ ∧ rdT G W0 f (vwS oi d σ) H Q
def HT (X : Cx) (G : Sg) (oi : Option Nat) (k : Nat) (e : Expr) (f : M Bool) : Prop := ∀ (a : Addr) (oe : Obj) (cls : Value) (d : Option Addr) (pn : List (Addr × Obj)), G.Z.K = X.K → Zc cls d oe → (∃ vs, oe.data = .fields vs) → PT (X.suite a ((a, oe) :: pn)) e (rdVT G oi k a cls d f)
def HSu (X : Cx) (G : Sg) (oi : Option Nat) (k : Nat) (sts : List Stmt) (f : M T) : Prop := ∀ (a : Addr) (oe : Obj) (cls : Value) (d : Option Addr) (pn : List (Addr × Obj)), G.Z.K = X.K → Zc cls d oe → (∃ vs, oe.data = .fields vs) → PSs (X.suite a ((a, oe) :: pn)) sts (fun D σ H => rdV G oi k a cls d f σ H fun v H' => D.rt v H')
section
variable {X : Cx} {G : Sg} {oi : Option Nat} {k : Nat} {e c : Expr} {fa fb : M T} {fc : M Bool} {s1 s2 : List Stmt} {pos : Pos}
end
end DL
namespace DL
open PySem PySem.Spec PyProof.Rows L2
inductive HM2 (X : Cx) (G : Sg) (es : List Nat) : List ExceptHandler → List (Nat × Option Nat × M T) → Prop
  | nil : HM2 X G es [] []
  | cons {x : Str} {k : Nat} {f : M T} {b₀ : Stmt} {suite : List Stmt} {np pos' : Pos} {hds : List ExceptHandler} {l : List (Nat × Option Nat × M T)} (hx : Exm G.Z.K G.Z.C es k) (hm : X.mg x = some (.ref (G.Z.C k))) (he : HSu X G none k (b₀ :: suite) f) (r : HM2 X G es hds l) (hg : Gl X x := by rfl) (hd : (x == ("__debug__" : Str)) = false := by decide) :
      HM2 X G es (.ExceptHandler (some (.Name x np)) none (b₀ :: suite) pos' :: hds) ((k, none, f) :: l)
  | consA {x n : Str} (i : Nat) {k : Nat} {f : M T} {b₀ : Stmt} {suite : List Stmt} {np pos' : Pos} {hds : List ExceptHandler} {l : List (Nat × Option Nat × M T)} (hx : Exm G.Z.K G.Z.C es k) (hm : X.mg x = some (.ref (G.Z.C k))) (he : HSu X G (some i) k (b₀ :: suite) f) (r : HM2 X G es hds l)
      (hi : X.N[i]? = some n := by rfl) (hln : X.env.kindOf n = some .local := by rfl) (hn : Nat.blt i G.n = true := by rfl) (ni : G.io.contains i = false := by rfl) (hg : Gl X x := by rfl) (hd : (x == ("__debug__" : Str)) = false := by decide) :
      HM2 X G es (.ExceptHandler (some (.Name x np)) (some n) (b₀ :: suite) pos' :: hds) ((k, some i, f) :: l)
section
variable {X : Cx} {G : Sg} {W : WX} {es : List Nat} {pos : Pos} {body : List Stmt} {fb : MS}
end
end DL
set_option maxHeartbeats 4000000
namespace DL
open PySem PySem.Spec PyProof.Rows L2
section
variable {X : Cx} {Z : Wd}
end
section
variable {X : Cx} {G : Sg} {oi : Option Nat} {k kr : Nat} {a1 b1 : Expr} {rest : List Expr} {fa fb : M T} {pos : Pos} {C : Nat → Addr} {io0 : List Nat} {s0 : L2.St} {n : Nat} {hot : Bool}
end
end DL
set_option maxHeartbeats 4000000
namespace L2
open PySem PySem.Spec PyProof.Rows
section
variable {X : Cx} {e : Expr} {es : List Expr} {ta : TA} {p pos : Pos}
end
end L2
namespace DL
open PySem PySem.Spec PyProof.Rows L2
section
variable {X : Cx} {io0 : List Nat} {s0 : L2.St} {n : Nat} {C : Nat → Addr} {W : WX} {c : Nat} {ps : List Str} {x : Str} {p pos pos' : Pos}
end
end DL
set_option maxHeartbeats 4000000
namespace DL
open PySem PySem.Spec PyProof.Rows L2
section
variable {P : Program} {w : World} {K : PySem.W.Frag} {mg : Str → Option Value} {base : Heap} {C : Addr} {qual : Str} {st : Stmt} {fa : Addr} {fd : FuncData} {p0 p1 p2 p3 p4 q1 q2 q3 q4 q5 q6 : Pos} {a1 : Expr} {ar : Arg} {x f : Str}
end
section
variable {X : Cx} {io0 : List Nat} {s0 : L2.St} {n : Nat} {C : Nat → Addr} {W : WX} {e e2 : Expr} {fs : M (List T)} {src : List (Option Nat)} {c : Nat} {ps : List Str} {x f g : Str} {p pos pos' : Pos}
end
section
variable {X : Cx} {G : Sg} {oi : Option Nat} {k : Nat} {a1 : Expr} {fs : M (List T)} {src : List (Option Nat)} {pos p : Pos}
end
end DL
set_option maxHeartbeats 4000000
namespace DL
open PySem PySem.Spec PyProof.Rows L2
section
variable {X : Cx} {G : Sg} {W : WX} {a : Expr} {fa : M T}
section
variable {pos p p2 : Pos} {b : Expr} {fb : M T}
end
end
end DL
set_option maxHeartbeats 4000000
namespace TD
open PySem PySem.Spec PyProof.Rows L2 PySem.W PySem.SeqAt
section
variable {prog : Program} {w : World} {A : Around} {E : Value → Shared → Prop} {s : Shared}
end
end TD
set_option maxHeartbeats 4000000
namespace L2
open PySem PySem.Spec PyProof.Rows PySem.W
section
variable {X : Cx}
end
end L2
namespace DL
open PySem PySem.Spec PyProof.Rows L2 PySem.W
section
variable {X : Cx} {Z : Wd}
end
section
variable {X : Cx} {io0 : List Nat} {s0 : L2.St} {n k : Nat} {C : Nat → Addr} {W : WX} {hot : Bool} {a : Expr} {src : List (Option Nat)} {fs : M (List T)} {p pos : Pos}
end
end DL
set_option maxHeartbeats 4000000
namespace L2
open PySem PySem.Spec PyProof.Rows
section
variable {X : Cx}
end
end L2
namespace DL
open PySem PySem.Spec PyProof.Rows L2
@[simp] def sameK : D → D → Bool
  | .int i, .int j => decide (i = j)
  | .str x, .str y => decide (x = y)
  | _, _ => false
@[simp] def isKey : D → Bool
  | .int _ => true
  | .str _ => true
  | _ => false
@[simp] def allK : List D → Bool
  | [] => true
  | d :: ds => isKey d && allK ds
@[simp] def ixK (k : D) : List D → Option Nat
  | [] => none
  | d :: ds => if sameK d k = true then some 0 else (ixK k ds).map (· + 1)
def kD : Key → D
  | .inl i => .int i
  | .inr x => .str x
section
variable {Z : Wd} {F H : Hp}
theorem rp_kD (k : Key) : Rp Z H (kV k) (kD k) := by cases k <;> exact rfl
@[simp] def gDGet : D → D → Option T
  | .dic ks ds, k => if (allK ks && isKey k) = true then (ixK k ks).bind fun j => (ds[j]?).map T.fz else none
  | _, _ => none
theorem Rps.at {vs : List V} {ds : List D} (h : Rps Z H vs ds) {j : Nat} {d : D} (e : ds[j]? = some d) : ∃ v, vs[j]? = some v ∧ Rp Z H v d := by
  induction vs generalizing ds j with
  | nil => cases ds with
    | nil => simp at e
    | cons => exact h.elim
  | cons v vs ih => cases ds with
    | nil => exact h.elim
    | cons x ds =>
      cases j with
      | zero => simp at e; subst e; exact ⟨v, rfl, h.1⟩
      | succ j => exact ih h.2 (by simpa using e)
@[simp] def putT (ks : List D) (ts : List T) (k : D) (t : T) : Option T :=
  if (allK ks && (isKey k && Nat.blt ks.length 16777216)) = true then some (match ixK k ks with
    | some j => .dic ks (ts.set j t)
    | none => .dic (ks ++ [k]) (ts ++ [t])) else none
theorem Roots.dic {v : V} {ks : List D} {ts : List T} {rs : List (V × T)} (h : Roots Z H ((v, .dic ks ts) :: rs)) : ∃ p kvs, v = .ref p ∧ H p = some (.dK kvs) ∧ Rps Z H (kvs.map fun p => kV p.1) ks ∧ kvs.length = ts.length := by
  obtain ⟨F, _, s, ⟨_, f2, ⟨a, kvs, f1, e1, e2, r, o1, rfl⟩, o2, rfl⟩, n, d⟩ := h
  exact ⟨a, kvs, e1, e2, Rps.mono s r, by simpa using o1.length⟩
end
section
variable {X : Cx} {G : Sg} {W : WX} {Z : Wd} {a b c e : Expr} {fa fb fc : M T} {fp : M Pl} {pos : Pos} {k : Nat}
end
end DL
set_option maxHeartbeats 4000000
namespace DL
open PySem PySem.Spec PyProof.Rows L2
@[simp] def mergeT (ks : List D) (ts : List T) : List (D × T) → Option T
  | [] => some (.dic ks ts)
  | p :: ps => match putT ks ts p.1 p.2 with
    | some (.dic ks' ts') => mergeT ks' ts' ps
    | _ => none
section
variable {Z : Wd} {G : Sg} {W : WX}
end
section
variable {X : Cx} {G : Sg} {W : WX} {Z : Wd} {pos : Pos}
structure DPs (X : Cx) (G : Sg) (W : WX) (pos : Pos) (keys : List (Option Expr)) (values : List Expr) (fs : List (M T × M T)) : Prop where
  run : Good X G W → PPs X pos keys values (fs.map fun p => (rdE G W p.1, rdE G W p.2))
theorem Roots.keys {H : Hp} {rs : List (V × T)} (h : Roots Z H rs) : ∀ kvs : List (Key × V), Roots Z H ((kvs.map fun kv => kV kv.1).zip (kvs.map fun kv => T.fz (kD kv.1)) ++ rs)
  | [] => h
  | n :: ns => Roots.add (Roots.keys h ns) fun F => rp_kD n.1
end
section
variable {X : Cx} {io0 : List Nat} {s0 : L2.St} {n k : Nat} {C : Nat → Addr} {W : WX} {hot : Bool} {a : Expr} {src : List (Option Nat)} {fs : M (List T)} {p pos : Pos}
end
section
variable {X : Cx} {G : Sg} {W : WX} {Z : Wd} {o a z : Expr} {fo fa fz : M T} {apos pos : Pos}
end
end DL
set_option maxHeartbeats 4000000
namespace DL
open PySem PySem.Spec PyProof.Rows L2
section
variable {X : Cx} {G : Sg} {W : WX} {Z : Wd} {p p2 pos pos2 : Pos} {a b c : Expr} {fa fb fc : M T} {es : List Expr} {fs : M (List T)}
end
end DL
set_option maxHeartbeats 4000000
namespace DL
open PySem PySem.Spec PyProof.Rows L2
@[simp] def lookS (z : Str) : List (Str × Int) → Option Int
  | [] => none
  | p :: r => if p.1 = z then some p.2 else lookS z r
structure GDic (K : PySem.W.Frag) (mg : Str → Option Value) (w : World) (x : Str) (tab : List (Str × Int)) : Prop where
  ex : ∃ a es n, mg x = some (.ref a) ∧ KDict K w a es n ∧ ∀ z, ∃ o, PySem.W.nsIn K a z = some o ∧ RelO ((lookS z tab).map V.int) o
section
variable {X : Cx} {G : Sg} {W : WX} {a : Expr} {fa : M T} {x : Str} {tab : List (Str × Int)} {p pos : Pos}
end
structure GTup (K : PySem.W.Frag) (mg : Str → Option Value) (x : Str) (ns : List Int) : Prop where
  ex : ∃ a, mg x = some (.ref a) ∧ ∀ H : Hp, SqT K H a (ns.map V.int)
section
variable {X : Cx} {G : Sg} {W : WX} {x : Str} {ns : List Int} {pos : Pos}
end
end DL
set_option maxHeartbeats 4000000
namespace DL
open PySem PySem.Spec PyProof.Rows L2
section
variable {X : Cx} {io0 : List Nat} {s0 : L2.St} {n : Nat} {C : Nat → Addr} {W : WX} {e o a : Expr} {es : List Expr} {fs : M (List T)} {fo fk : M T} {src : List (Option Nat)} {k c : Nat} {ps : List Str} {m : Mir} {x kw : Str} {p pos apos kpos : Pos}
end
end DL
set_option maxHeartbeats 4000000
namespace DL
open PySem PySem.Spec PyProof.Rows L2
section
variable {X : Cx} {G : Sg} {W : WX} {o a : Expr} {fo fa : M T} {pos apos : Pos}
end
end DL
set_option maxHeartbeats 4000000
namespace L2
open PySem PySem.Spec PyProof.Rows
section
variable {X : Cx}
end
end L2
namespace DL
open PySem PySem.Spec PyProof.Rows L2
section
variable {X : Cx} {Z : Wd} {H : Hp}
@[simp] def pairsD : List D → Option (List (D × D))
  | [] => some []
  | .tup [k, v] :: r => if isKey k = true then (pairsD r).map ((k, v) :: ·) else none
  | _ => none
@[simp] def gDictP : D → Option T
  | .lst ds => (pairsD ds).bind fun ps => mergeT [] [] (ps.map fun p => (p.1, T.fz p.2))
  | _ => none
end
section
variable {X : Cx} {G : Sg} {W : WX} {a b : Expr} {fs : M (List T)} {src : List (Option Nat)} {p pos : Pos}
end
end DL
set_option maxHeartbeats 1000000
namespace DL
open PySem PySem.Spec PyProof.Rows L2
section
variable {X : Cx} {G : Sg} {W : WX} {a : Expr} {fa : M T} {pos : Pos} {sts : List Stmt} {Z : Wd}
end
end DL
set_option maxHeartbeats 4000000
namespace DL
open PySem PySem.Spec PyProof.Rows L2
@[simp] def fLate (i : Nat) (g : M (List T)) (env : Env) : R (List T) := (g env).bind fun ts e => match e[i]? with
  | some (some t) => .ok (t :: ts) (e.set i none)
  | _ => .no
@[simp] def hasT (i : Nat) (env : Env) : Bool := match env[i]? with
  | some (some _) => true
  | _ => false
@[simp] def fLateH (i : Nat) (g : M (List T)) (env : Env) : R (List T) := if hasT i env = true then fLate i g env else .no
section
variable {X : Cx} {G : Sg} {W : WX} {a e : Expr} {es : List Expr} {fs : M (List T)} {fp : M Pl} {src : List (Option Nat)}
end
section
variable {X : Cx} {io0 : List Nat} {s0 : L2.St} {n : Nat} {C : Nat → Addr} {W : WX} {e o : Expr} {es : List Expr} {fs : M (List T)} {fo : M T} {src : List (Option Nat)} {k c : Nat} {ps : List Str} {io : List Nat} {m : Mir} {x y : Str} {p pos apos : Pos}
end
end DL
set_option maxHeartbeats 4000000
namespace DL
open PySem PySem.Spec PyProof.Rows L2
theorem wt {α : Type} {M : Model} {A : Around} {s : Shared} {t : Sem α} {Q Q' : α → Shared → Prop} {E : Value → Shared → Prop} {n : Nat} (hn : n ≤ s.toks) (h : wpAny M A t Q E s) (k : ∀ a s', n ≤ s'.toks → Q a s' → Q' a s') : wpAny M A t Q' E s :=
  wpAny_mono (wpAny_toks_of hn h) (fun a s' x => k a s' x.1 x.2) fun _ _ x => x.2
section
variable {X : Cx} {elt tg iter : Expr} {ifs : List Expr} {scope : Scope} {own : List (Str × Nat)} {pos : Pos} {wi : TI} {g : TG} {tt : TT} {te : TE}
end
section
variable {X : Cx} {G : Sg} {W : WX} {a o elt tg iter : Expr} {ifs : List Expr} {scope : Scope} {fa fo : M T} {y z sep : Str} {j k : Nat} {c0 c1 apos pos : Pos}
end
end DL
set_option maxHeartbeats 4000000
namespace DL
open PySem PySem.Spec PyProof.Rows L2
section
variable {X : Cx} {G : Sg} {W : WX} {a : Expr} {fa : M T} {pos : Pos}
end
end DL
set_option maxHeartbeats 4000000
namespace TD
open PySem PySem.Spec PyProof.Rows L2
abbrev KT' := List (List Key × V)
section
variable {X : Cx} {pins : List (Addr × Obj)} {σ : L2.St} {H : Hp} {s : Shared}
end
section
variable {P : Program} {w : World} {K : PySem.W.Frag} {d : Addr} {o : Obj} {es : Array DictEntry} {ep : Nat} {kvs : KT'}
end
section
variable {X : Cx} {tg e : Expr} {td : TE} {apos cpos : Pos}
end
end TD
set_option maxHeartbeats 4000000
namespace TD
open PySem PySem.Spec PyProof.Rows L2
section
variable {X : Cx}
end
end TD
set_option maxHeartbeats 4000000
namespace TD
open PySem PySem.Spec PyProof.Rows L2
section
variable {prog : Program} {w : World} {A : Around} {E : Value → Shared → Prop} {s : Shared}
end
section
variable {X : Cx}
end
end TD
set_option maxHeartbeats 4000000
namespace TD
open PySem PySem.Spec PyProof.Rows L2
section
variable {X : Cx} {pins : List (Addr × Obj)} {σ : L2.St} {H H' : Hp} {s : Shared} {h' : Heap}
end
end TD
set_option maxHeartbeats 4000000
namespace DL
open PySem PySem.Spec PyProof.Rows L2
abbrev Trm := List Str × Int
section
variable {Z : Wd} {F H H' : Hp}
theorem Roots.dit {v : V} {kvs : List Trm} {rs : List (V × T)} (h : Roots Z H ((v, .fz (.dit kvs)) :: rs)) : ∃ a o, v = .ref a ∧ H a = some (.frz o (.dT (ditH kvs))) := h.fz
end
section
variable {X : Cx} {G : Sg} {W : WX} {a b c e : Expr} {fa fb fc : M T} {tg : Expr} {apos cpos pos p2 : Pos}
end
end DL
set_option maxHeartbeats 4000000
namespace DL
open PySem PySem.Spec PyProof.Rows L2
section
variable {Z : Wd} {H : Hp}
end
section
variable {X : Cx} {G : Sg} {W : WX} {Z : Wd} {a b c e o z : Expr} {fa fb fc fo fz : M T} {apos pos : Pos}
end
end DL
set_option maxHeartbeats 4000000
namespace TD
open PySem PySem.Spec PyProof.Rows L2
section
variable {X : Cx}
end
end TD
namespace DL
open PySem PySem.Spec PyProof.Rows L2
section
variable {X : Cx} {G : Sg} {W : WX} {Z : Wd}
end
section
variable {Z : Wd} {F H H' : Hp}
end
section
variable {X : Cx} {io0 : List Nat} {s0 : L2.St} {n k : Nat} {C : Nat → Addr} {W : WX} {a : Expr} {fa : M T} {src : List (Option Nat)} {fs : M (List T)} {p pos apos cpos : Pos}
end
end DL
set_option maxHeartbeats 4000000
namespace TD
open PySem PySem.Spec PyProof.Rows L2
section
variable {X : Cx}
end
end TD
namespace DL
open PySem PySem.Spec PyProof.Rows L2
section
variable {Z : Wd} {H : Hp}
end
section
variable {X : Cx} {G : Sg} {W : WX} {st1 st2 st3 : Stmt}
end
end DL
set_option maxHeartbeats 4000000
namespace TD
open PySem PySem.Spec PyProof.Rows L2 PySem.W
section
variable {prog : Program} {w : World} {A : Around} {E : Value → Shared → Prop} {s : Shared} {β : Type} {vs : List Value} {bs : List β} {enc : β → PyData} {R : Value → β → Prop}
end
end TD
namespace L2
open PySem PySem.Spec PyProof.Rows PySem.W
section
variable {X : Cx}
end
end L2
namespace DL
open PySem PySem.Spec PyProof.Rows L2 PySem.W
section
variable {X : Cx} {Z : Wd}
end
section
variable {X : Cx} {io0 : List Nat} {s0 : L2.St} {n k : Nat} {C : Nat → Addr} {W : WX} {hot : Bool} {a : Expr} {src : List (Option Nat)} {fs : M (List T)} {p pos : Pos}
end
end DL
set_option maxHeartbeats 4000000
namespace TD
open PySem PySem.Spec PyProof.Rows L2 PySem.W
section
variable {P : Program} {w : World} {K : Type} [DecidableEq K]
structure TabG (knd : PySem.KeyKind P w K) (S : K → Bool) (es : Array (Int × Value)) (t : SetTable) : Prop where
  el : ElemsOf knd es.toList
  ap : es.toList.Pairwise fun e f => ∀ k, knd.is k e.2 = true → knd.is k f.2 = false
  mem : ∀ k, S k = true ↔ ∃ e ∈ es.toList, knd.is k e.2 = true
  few : es.size < scanBound
  fits : t.fits es.size = true
  ris : Ris t.place.toList
  led : w.params.followText "set-order" = true ∨ t.led = true
def SetG (knd : PySem.KeyKind P w K) (h : Heap) (a : Addr) (S : K → Bool) (n : Nat) : Prop :=
  ∃ o es ep t, h.get? a = some o ∧ o.ExactSet ∧ o.data = .set es ep t ∧ es.size = n ∧ TabG knd S es t
variable {knd : PySem.KeyKind P w K} {A : Around} {E : Value → Shared → Prop} {s : Shared} {a : Addr} {S : K → Bool} {n : Nat} {k : K} {x : Value}
theorem SetG.at {h h' : Heap} (R : SetG knd h a S n) (q : ∀ o, h.get? a = some o → h'.get? a = some o) : SetG knd h' a S n :=
  let ⟨o, es, ep, t, ho, r⟩ := R
  ⟨o, es, ep, t, q o ho, r⟩
theorem TabG.perm {es es' : Array (Int × Value)} {t t' : SetTable} (T : TabG knd S es t) (pm : es'.toList.Perm es.toList) (f : t'.fits es'.size = true) (r : Ris t'.place.toList) (l : t'.led = t.led) : es'.size = es.size ∧ TabG knd S es' t' := by
  have sz : es'.size = es.size := by simpa using pm.length_eq
  refine ⟨sz, T.el.perm pm, pm.symm.pairwise T.ap fun h j hj => ?_, fun j => (T.mem j).trans ⟨fun ⟨e, he, q⟩ => ⟨e, pm.mem_iff.mpr he, q⟩, fun ⟨e, he, q⟩ => ⟨e, pm.mem_iff.mp he, q⟩⟩, by rw [sz]; exact T.few, f, r, T.led.imp id fun z => l.trans z⟩
  cases q : knd.is j _ with
  | false => rfl
  | true =>
    have := h j q
    rw [hj] at this
    cases this
end
end TD
set_option maxHeartbeats 4000000
namespace TD
open PySem PySem.Spec PyProof.Rows L2 PySem.W
section
variable {P : Program} {w : World} {A : Around} {E : Value → Shared → Prop} {s : Shared} {a : Addr} {S : Str → Bool} {n : Nat}
end
end TD
set_option maxHeartbeats 4000000
namespace TD
open PySem PySem.Spec PyProof.Rows L2 PySem.W
section
variable {elt t0 i0 t1 i1 : Expr} {scope : Scope} {pos : Pos} {it acc : Value} {env : Env}
variable {P : Program} {w : World} {A : Around} {R : Result → Shared → Prop} {s : Shared}
abbrev noE : Value → Shared → Prop := fun _ _ => False
end
end TD
set_option maxHeartbeats 4000000
namespace TDI
open PySem PySem.Spec PyProof.Rows L2 PySem.W TD
section
variable {X : Cx} {pins : List (Addr × Obj)} {σ : L2.St} {H : Hp} {s : Shared} {a D : Addr} {S : Int → Bool} {n : Nat}
end
section
variable {Y : Cx} {elt tg iter tg1 iter1 : Expr} {scope : Scope} {pos : Pos} {D it : Addr} {fp : List Addr} {tn : Nat → Heap → Prop} {J : It} {g g1 : TG} {te : TE} {wi1 : TI} {vs vs1 : List Nat} {pins : List (Addr × Obj)} {σ : L2.St} {H : Hp} {s : Shared} {R : Result → Shared → Prop}
end
section
variable {X : Cx}
end
end TDI
set_option maxHeartbeats 4000000
namespace DL
open PySem PySem.Spec PyProof.Rows L2
section
variable {X : Cx} {G : Sg} {W : WX} {P : Program} {w : World} {i j : Nat} {fi f1 : M (List D)}
end
end DL
namespace DL
open PySem PySem.Spec PyProof.Rows L2
section
variable {X : Cx} {G : Sg} {W : WX} {e : Expr} {i j : Nat} {fi f1 : M (List D)}
end
end DL
set_option maxHeartbeats 4000000
namespace DL
open PySem PySem.Spec PyProof.Rows L2
section
variable {X : Cx} {G : Sg} {W : WX} {a b c : Expr} {fs : M (List T)} {pos : Pos}
end
end DL
set_option maxHeartbeats 4000000
namespace L2
open PySem PySem.Spec PyProof.Rows PySem.SeqAt
section
variable {X : Cx}
end
end L2
namespace DL
open PySem PySem.Spec PyProof.Rows L2
section
variable {X : Cx} {Z : Wd}
end
end DL
set_option maxHeartbeats 4000000
namespace DL
open PySem PySem.Spec PyProof.Rows L2
section
variable {prog : Program} {w : World} {A : Around} {E : Value → Shared → Prop} {s : Shared}
end
section
variable {X : Cx} {G : Sg} {W : WX} {Z : Wd} {a b c e : Expr} {es : List Expr} {fa fb fc : M T} {fs : M (List T)} {src : List (Option Nat)} {pos p3 : Pos}
end
end DL
set_option maxHeartbeats 4000000
namespace DL
open PySem PySem.Spec PyProof.Rows L2
section
variable {X : Cx} {G : Sg} {W : WX} {e : Expr} {es : List Expr} {fs : M (List T)} {fp : M Pl} {src : List (Option Nat)} {k : Nat} {f : Addr} {fd : FuncData} {ps : List Str} {m : Mir} {x : Str} {p pos : Pos}
end
section
variable {X : Cx} {G : Sg} {W : WX} {a b c e : Expr} {fa fb fc : M T} {pos p tpos : Pos}
end
end DL
set_option maxHeartbeats 4000000
namespace DL
open PySem PySem.Spec PyProof.Rows L2
section
variable {X : Cx} {G : Sg} {W : WX} {a b c d e : Expr} {fa fb fc fd : M T} {pos : Pos} {bd : List Stmt} {f : MS}
end
end DL
set_option maxHeartbeats 4000000
namespace DL
open PySem PySem.Spec PyProof.Rows L2
section
variable {X : Cx} {o : Expr} {f : Str} {p' : Pos}
end
section
variable {X : Cx} {G : Sg} {W : WX} {a b c e : Expr} {es : List Expr} {fa fb fc : M T} {fs : M (List T)} {pos p p' : Pos}
end
section
variable {X : Cx} {G : Sg} {W : WX} {e : Expr} {es : List Expr} {fs : M (List T)} {fa : M T} {src : List (Option Nat)} {k : Nat} {f : Addr} {fd : FuncData} {ps : List Str} {m : Mir} {x : Str} {p pos : Pos}
end
section
variable {X : Cx} {io0 : List Nat} {s0 : L2.St} {n : Nat} {hot : Bool} {C : Nat → Addr} {W : WX} {e : Expr} {es : List Expr} {fs : M (List T)} {fa : M T} {fp : M Pl} {src : List (Option Nat)} {k : Nat} {ps : List Str} {m : Mir} {x : Str} {p pos : Pos}
end
end DL
set_option maxHeartbeats 4000000
namespace DL
open PySem PySem.Spec PyProof.Rows L2
section
variable {X : Cx} {G : Sg} {W : WX} {b : Expr} {fb : M T} {pos p : Pos}
end
end DL
set_option maxHeartbeats 4000000
namespace DL
open PySem PySem.Spec PyProof.Rows L2
section
variable {X : Cx} {G : Sg} {W : WX} {a : Expr} {fa : M T} {pos : Pos} {Z : Wd}
end
end DL
set_option maxHeartbeats 4000000
namespace DL
open PySem PySem.Spec PyProof.Rows L2
section
variable {X : Cx} {G : Sg} {W : WX} {pos : Pos} {Z : Wd}
end
end DL
set_option maxHeartbeats 4000000
namespace DL
open PySem PySem.Spec PyProof.Rows L2
section
variable {X : Cx} {G : Sg} {W : WX} {a b e : Expr} {fa fb : M T} {fp : M Pl} {pos p : Pos} {Z : Wd}
end
@[simp] def lookD (z : Str) : List (Str × D) → Option D
  | [] => none
  | p :: r => if p.1 = z then some p.2 else lookD z r
def TabAt (Z : Wd) : Option D → Option Value → Prop
  | none, none => True
  | some d, some u => ∃ v, RelV v u ∧ ∀ F, Rp Z F v d
  | _, _ => False
structure GTab (Z : Wd) (mg : Str → Option Value) (w : World) (x : Str) (tab : List (Str × D)) : Prop where
  ex : ∃ a es n, mg x = some (.ref a) ∧ KDict Z.K w a es n ∧ ∀ z, ∃ o, PySem.W.nsIn Z.K a z = some o ∧ TabAt Z (lookD z tab) o
section
variable {X : Cx} {G : Sg} {W : WX} {a : Expr} {fa : M T} {x : Str} {tab : List (Str × D)} {p pos : Pos} {Z : Wd}
end
end DL
set_option maxHeartbeats 4000000
namespace DL
open PySem PySem.Spec PyProof.Rows L2
section
variable {X : Cx} {G : Sg} {W : WX} {a b e : Expr} {fa fb : M T} {fp : M Pl} {pos p : Pos} {Z : Wd}
end
end DL
set_option maxHeartbeats 4000000
namespace DL
open PySem PySem.Spec PyProof.Rows L2
abbrev ShT := Str × Option Str × List Str
@[simp] def shpD (p : Option Str × List Str) : D := match p.1 with
  | some k => .tup [.str k, .wt (p.2.map D.str)]
  | none => .wt (p.2.map D.str)
@[simp] def shT (l : List ShT) : List (Str × D) := l.map fun p => (p.1, shpD p.2)
def strsV : List Value → List Str → Bool
  | [], [] => true
  | .str x _ :: r, z :: q => decide (x = z) && strsV r q
  | _, _ => false
theorem strsV_ok : ∀ {l : List Value} {zs : List Str}, strsV l zs = true → Vals (zs.map V.str) l
  | [], [], _ => .nil
  | .str x t :: r, z :: q, h => by
    obtain ⟨h1, h2⟩ := Bool.and_eq_true_iff.mp h
    have h1 := of_decide_eq_true h1
    subst h1
    exact .cons ⟨t, rfl⟩ (strsV_ok h2)
def wsB (K : PySem.W.Frag) (a : Addr) (zs : List Str) : Bool := match K.lookup a with
  | some ⟨.type c, _, .seq its _, _⟩ => decide (c = "tuple") && (Nat.ble its.size 63 && strsV its.toList zs)
  | _ => false
theorem wsB_ok {K : PySem.W.Frag} {a : Addr} {zs : List Str} (h : wsB K a zs = true) : SqT K (fun _ => none) a (zs.map V.str) := by
  unfold wsB at h
  split at h
  · rename_i c dd its n sl e
    obtain ⟨h1, h2⟩ := Bool.and_eq_true_iff.mp h
    obtain ⟨h2, h3⟩ := Bool.and_eq_true_iff.mp h2
    have h1 := of_decide_eq_true h1
    subst h1
    exact .inr ⟨_, its, n, e, rfl, rfl, by have := Nat.ble_eq.mp h2; rw [sizeLine_eq]; omega, strsV_ok h3⟩
  · cases h
theorem rps_strsN {Z : Wd} {F : Hp} (zs : List Str) : Rps Z F (zs.map V.str) (zs.map D.str) := by
  induction zs with
  | nil => trivial
  | cons n ns ih => exact ⟨rfl, ih⟩
theorem rp_wt {Z : Wd} {F : Hp} {a : Addr} {zs : List Str} (h : wsB Z.K a zs = true) : Rp Z F (.ref a) (.wt (zs.map D.str)) := ⟨a, zs.map V.str, rfl, wsB_ok h, rps_strsN zs⟩
def entB (K : PySem.W.Frag) (u : Value) (p : Option Str × List Str) : Bool := match p.1, u with
  | none, .ref a => wsB K a p.2
  | some k, .ref b => (match K.lookup b with
    | some ⟨.type c, _, .seq its _, _⟩ => decide (c = "tuple") && (match its.toList with
      | [.str z _, .ref a] => decide (z = k) && wsB K a p.2
      | _ => false)
    | _ => false)
  | _, _ => false
theorem entB_ok {Z : Wd} {u : Value} {p : Option Str × List Str} (h : entB Z.K u p = true) : ∃ v, RelV v u ∧ ∀ F, Rp Z F v (shpD p) := by
  obtain ⟨k, zs⟩ := p
  unfold entB at h
  split at h
  · rename_i a e
    dsimp only at e
    subst e
    exact ⟨.ref a, rfl, fun F => rp_wt h⟩
  · rename_i k' b e
    dsimp only at e
    subst e
    split at h
    · rename_i c dd its n sl e
      obtain ⟨h1, h2⟩ := Bool.and_eq_true_iff.mp h
      have h1 := of_decide_eq_true h1
      subst h1
      split at h2
      · rename_i z t a ei
        obtain ⟨h2, h3⟩ := Bool.and_eq_true_iff.mp h2
        have h2 := of_decide_eq_true h2
        subst h2
        refine ⟨.ref b, rfl, fun F => ⟨b, [.str z, .ref a], rfl, ⟨.inr ⟨_, its, n, e, rfl, rfl, ?_, ?_⟩, fun q => ?_⟩, rfl, rp_wt h3, trivial⟩⟩
        · have : its.size = 2 := by rw [← Array.length_toList, ei]; rfl
          rw [this, sizeLine_eq]; omega
        · rw [ei]
          exact .cons ⟨t, rfl⟩ (.cons rfl .nil)
        · obtain ⟨x, e⟩ := q (.ref a) (by simp)
          cases e
      · cases h2
    · cases h
  · cases h
def tabB (K : PySem.W.Frag) : List DictEntry → List ShT → Bool
  | [], [] => true
  | e :: r, p :: q => (match e.key with
    | .str x _ => decide (x = p.1) && entB K e.val p.2
    | _ => false) && tabB K r q
  | _, _ => false
theorem tabB_find {Z : Wd} {z : Str} : ∀ {l : List DictEntry} {tab : List ShT}, tabB Z.K l tab = true → (match lookD z (shT tab) with
    | some d => ∃ e, l.find? (·.key.isStr z) = some e ∧ ∃ v, RelV v e.val ∧ ∀ F, Rp Z F v d
    | none => l.find? (·.key.isStr z) = none) ∧ l.any (·.refKey) = false
  | [], [], _ => ⟨rfl, rfl⟩
  | e :: r, p :: q, h => by
    unfold tabB at h
    obtain ⟨h1, h2⟩ := Bool.and_eq_true_iff.mp h
    obtain ⟨ih, ir⟩ := tabB_find (z := z) h2
    split at h1
    · rename_i x t ek
      obtain ⟨a1, a2⟩ := Bool.and_eq_true_iff.mp h1
      have a1 := of_decide_eq_true a1
      have rk : e.refKey = false := by unfold DictEntry.refKey; rw [ek]
      refine ⟨?_, by rw [List.any_cons, rk, ir]; rfl⟩
      by_cases hz : p.1 = z
      · have : lookD z (shT (p :: q)) = some (shpD p.2) := by show (if p.1 = z then _ else _) = _; rw [if_pos hz]
        rw [this]
        refine ⟨e, ?_, entB_ok a2⟩
        rw [List.find?_cons, ek]
        have : Value.isStr (.str x t) z = true := by
          show (x == z) = true
          rw [a1, hz]; simp
        rw [this]
      · have : lookD z (shT (p :: q)) = lookD z (shT q) := by show (if p.1 = z then _ else _) = _; rw [if_neg hz]; rfl
        rw [this]
        have hf : Value.isStr e.key z = false := by
          rw [ek]
          show (x == z) = false
          rw [a1]; simpa using hz
        cases hl : lookD z (shT q) with
        | some i =>
          rw [hl] at ih
          obtain ⟨e', b1, b2⟩ := ih
          exact ⟨e', by rw [List.find?_cons, hf]; exact b1, b2⟩
        | none =>
          rw [hl] at ih
          show List.find? _ (e :: r) = none
          rw [List.find?_cons, hf]; exact ih
    · cases h1
  | [], _ :: _, h => by cases h
  | _ :: _, [], h => by cases h
theorem gtab_ok {Z : Wd} {mg : Str → Option Value} {w : World} {x : Str} {tab : List ShT} {a : Addr} {es : Array DictEntry} {n : Nat} (hm : mg x = some (.ref a)) (hl : Z.K.lookup a = some ⟨.type "dict", none, .dict es n, #[]⟩)
    (hk : PySem.W.KeysLit w.params es.toList) (hs : (a == sysModules) = false) (ht : tabB Z.K es.toList tab = true) : GTab Z mg w x (shT tab) := by
  refine ⟨a, es, n, hm, ⟨hl, hk, hs⟩, fun z => ?_⟩
  obtain ⟨h1, h2⟩ := tabB_find (Z := Z) (z := z) ht
  unfold PySem.W.nsIn
  rw [hl]
  cases e : lookD z (shT tab) with
  | some i =>
    rw [e] at h1
    obtain ⟨en, b1, b2⟩ := h1
    exact ⟨some en.val, by simp only [b1], b2⟩
  | none =>
    rw [e] at h1
    exact ⟨none, by simp only [h1, h2]; rfl, trivial⟩
end DL
set_option maxHeartbeats 4000000
namespace DL
open PySem PySem.Spec PyProof.Rows L2
section
variable {K : PySem.W.Frag}
abbrev FnH : Type := Option (Str × Str × Arguments × FuncBody × Scope × Addr × Value × Addr)
def fnH (K : PySem.W.Frag) (a : Addr) : FnH := match K.lookup a with
  | some ⟨_, _, .func fd, _⟩ => some (fd.name, fd.qualname, fd.params, fd.body, fd.scope, fd.globals, fd.defaults, fd.builtins)
  | _ => none
structure DefH where
  at_ : PySem.W.Frag → Addr
  name : Str
  qual : Str
  st : Stmt
def DefH.val (d : DefH) : FnH := some (d.name, d.qual, defArgs d.st, .stmts (defBody d.st), defScope d.st, mainGlobals, .none, builtinsNs)
def plH (K : PySem.W.Frag) (a : Addr) (q : Str) : Bool := match K.lookup a with
  | some ⟨_, _, .func fd, _⟩ => fd.closure.isEmpty && PySem.W.codeIn K fd.code q
  | _ => false
theorem plH_ok {d : DefH} {a : Addr} (e : fnH K a = d.val) (c : plH K a d.qual = true) : ∃ od an sl oc kV dc pm cd ct, K.lookup a = some ⟨oc, od, .func (PySem.W.fnOf d.name d.qual (defArgs d.st) (defBody d.st) (defScope d.st) .none kV dc pm an cd ct), sl⟩ ∧ PySem.W.codeIn K cd d.qual = true := by
  unfold plH at c
  unfold fnH at e
  cases q : K.lookup a with
  | none => rw [q] at c; cases c
  | some o =>
    obtain ⟨oc, od, dt, osl⟩ := o
    rw [q] at c e
    cases dt with
    | func fd =>
      obtain ⟨n1, n2, n3, n4, n5, n6, n7, n8, n9, n10, n11, n12, n13, n14, n15⟩ := fd
      have e2 : (some (n1, n2, n3, n4, n5, n6, n8, n15) : FnH) = some (d.name, d.qual, defArgs d.st, .stmts (defBody d.st), defScope d.st, mainGlobals, .none, builtinsNs) := e
      simp only [Option.some.injEq, Prod.mk.injEq] at e2
      obtain ⟨h1, h2, h3, h4, h5, h6, h8, h9⟩ := e2
      obtain ⟨c1, c2⟩ := Bool.and_eq_true_iff.mp c
      have c0 : n7 = [] := List.isEmpty_iff.mp c1
      subst h1 h2 h3 h4 h5 h6 h8 h9 c0
      exact ⟨od, n12, osl, oc, n9, n10, n11, n13, n14, rfl, c2⟩
    | _ => cases c
def ksH (K : PySem.W.Frag) (a C : Addr) (q file : Str) : Bool := match K.lookup a with
  | some ⟨_, _, .func fd, _⟩ => (match fd.closure, fd.code with
    | [(x, cc)], .ref da => decide (x = "__class__") && (PySem.W.codeIn K (.ref da) q && ((match K.lookup da with
      | some ⟨_, _, .fields vs, _⟩ => (match (vs[2]? : Option Value) with
        | some (.str fi _) => file == fi
        | _ => false)
      | _ => false) && (match K.lookup cc with
      | some ⟨_, _, .cell (some (.ref C')), _⟩ => decide (C' = C)
      | _ => false)))
    | _, _ => false)
  | _ => false
theorem ksH_ok {d : DefH} {a C : Addr} {file : Str} (e : fnH K a = d.val) (c : ksH K a C d.qual file = true) :
    ∃ (da cc : Addr) (fi : Str) (od an cdd cld : Option Addr) (oc kV dc pm ct ccl cl : Value) (sl ccs csl : Array (Option Value)) (vs : Array Value) (tf : Tok),
      K.lookup a = some ⟨oc, od, .func (PySem.W.ksFn d.name d.qual (defArgs d.st) (defBody d.st) (defScope d.st) .none kV dc pm an (.ref da) ct cc), sl⟩ ∧ PySem.W.codeIn K (.ref da) d.qual = true ∧
      K.lookup da = some ⟨ccl, cdd, .fields vs, ccs⟩ ∧ vs[2]? = some (.str fi tf) ∧ (file == fi) = true ∧ K.lookup cc = some ⟨cl, cld, .cell (some (.ref C)), csl⟩ := by
  unfold ksH at c
  unfold fnH at e
  cases q : K.lookup a with
  | none => rw [q] at c; cases c
  | some o =>
    obtain ⟨oc, od, dt, osl⟩ := o
    rw [q] at c e
    cases dt with
    | func fd =>
      obtain ⟨n1, n2, n3, n4, n5, n6, n7, n8, n9, n10, n11, n12, n13, n14, n15⟩ := fd
      have e2 : (some (n1, n2, n3, n4, n5, n6, n8, n15) : FnH) = some (d.name, d.qual, defArgs d.st, .stmts (defBody d.st), defScope d.st, mainGlobals, .none, builtinsNs) := e
      simp only [Option.some.injEq, Prod.mk.injEq] at e2
      obtain ⟨h1, h2, h3, h4, h5, h6, h8, h9⟩ := e2
      subst h1 h2 h3 h4 h5 h6 h8 h9
      dsimp only at c
      split at c
      · rename_i x cc da
        obtain ⟨c1, c⟩ := Bool.and_eq_true_iff.mp c
        obtain ⟨c2, c⟩ := Bool.and_eq_true_iff.mp c
        obtain ⟨c3, c4⟩ := Bool.and_eq_true_iff.mp c
        have c1' := of_decide_eq_true c1
        subst c1'
        split at c3
        · rename_i l1 l2 vs l4 e3
          split at c3
          · rename_i fi tf e4
            split at c4
            · rename_i m1 m2 C' m4 e5
              have c4' := of_decide_eq_true c4
              subst c4'
              exact ⟨da, cc, fi, od, n12, l2, m2, oc, n9, n10, n11, n14, l1, m1, osl, l4, m4, vs, tf, rfl, c2, e3, e4, c3, e5⟩
            · cases c4
          · cases c3
        · cases c3
      · cases c
    | _ => cases c
def excH (K : PySem.W.Frag) (C : Addr) : Bool := match K.lookup C with
  | some ⟨.type T, _, .cls cd, sl⟩ => decide (T = "type") && (match cd.mro, sl.toList with
    | .ref C' :: bm, [_, _, _, _, some (.builtin n), _] => decide (C' = C) && (decide (n = "ValueError.__new__") && (!cd.hasDel && (cd.hasDict && PySem.HandSPX.refsVE bm)))
    | _, _ => false)
  | _ => false
theorem excH_ok {C : Addr} (c : excH K C = true) : ∃ (N : Addr) (nm q : Str) (bs bm sub : List Value) (sn : List Str) (ab : Bool) (col : Option Bool) (dd : Option Addr) (m0 m1 m2 m3 m5 : Option Value),
    K.lookup C = some (excClassObj nm q C N bs bm true sn sub ab col dd m0 m1 m2 m3 m5 "ValueError.__new__") ∧ PySem.HandSPX.refsVE bm = true := by
  unfold excH at c
  split at c
  · rename_i T dd cd sl ho
    obtain ⟨c0, c⟩ := Bool.and_eq_true_iff.mp c
    have c0' := of_decide_eq_true c0
    split at c
    · rename_i C' bm k0 k1 k2 k3 n k5 hm hs
      simp only [Bool.and_eq_true, decide_eq_true_eq, Bool.not_eq_true'] at c
      obtain ⟨c1, c2, c3, c4, c5⟩ := c
      obtain ⟨nm, bs, mro, ns, qn, hd, sn, sub, ab, col, del⟩ := cd
      dsimp only at hm c3 c4
      subst hm c1 c2 c3 c4 c0'
      have hsl : sl = #[k0, k1, k2, k3, some (.builtin "ValueError.__new__"), k5] := by
        obtain ⟨l⟩ := sl
        simp only at hs
        rw [hs]
      subst hsl
      exact ⟨ns, nm, qn, bs, bm, sub, sn, ab, col, dd, k0, k1, k2, k3, k5, ho, c5⟩
    · cases c
  · cases c
def cmA (K : PySem.W.Frag) (C : Addr) (m : Str) : Addr := match PySem.W.findCls K (.ref C) (.type "type") m with
  | some (.get _ (.ref p) _ _) => (match PySem.W.recIn K p "classmethod" with
    | some (.ref f :: _) => f
    | _ => 0)
  | _ => 0
def cmH (K : PySem.W.Frag) (C : Addr) (m : Str) : Bool := match PySem.W.findCls K (.ref C) (.type "type") m with
  | some (.get (.builtin b) (.ref p) .none (.ref c)) => decide (b = "classmethod.__get__") && (decide (c = C) && (match PySem.W.recIn K p "classmethod" with
    | some (.ref _ :: _) => true
    | _ => false))
  | _ => false
theorem cmH_ok {C : Addr} {m : Str} (h : cmH K C m = true) : ∃ fp rs, PySem.W.findCls K (.ref C) (.type "type") m = some (.get (.builtin "classmethod.__get__") (.ref fp) .none (.ref C)) ∧ PySem.W.recIn K fp "classmethod" = some (.ref (cmA K C m) :: rs) := by
  unfold cmH at h
  split at h
  · rename_i b p c e
    obtain ⟨h1, h2⟩ := Bool.and_eq_true_iff.mp h
    obtain ⟨h3, h4⟩ := Bool.and_eq_true_iff.mp h2
    have h1' := of_decide_eq_true h1
    have h3' := of_decide_eq_true h3
    split at h4
    · rename_i f rs e2
      refine ⟨p, rs, by rw [e, h1', h3'], ?_⟩
      unfold cmA
      rw [e]
      dsimp only
      rw [e2]
    · cases h4
  · cases h
def nsH (K : PySem.W.Frag) (x : Str) : Bool := decide (PySem.W.nsIn K mainGlobals x = some (some (.ref (He.ga K x))))
theorem nsH_ok {x : Str} (h : nsH K x = true) : PySem.W.nsIn K mainGlobals x = some (some (.ref (He.ga K x))) := of_decide_eq_true h
def mtH (K : PySem.W.Frag) (C : Addr) (m : Str) : Bool := decide (PySem.W.findIn K (.ref C) m = some (some (.ref (He.ma K C m))))
theorem mtH_ok {C : Addr} {m : Str} (h : mtH K C m = true) : PySem.W.findIn K (.ref C) m = some (some (.ref (He.ma K C m))) := of_decide_eq_true h
def frH (K : PySem.W.Frag) (a : Addr) (x : Str) : Bool := decide (PySem.W.nsIn K a x = some none)
theorem frH_ok {a : Addr} {x : Str} (h : frH K a x = true) : PySem.W.nsIn K a x = some none := of_decide_eq_true h
def giH (K : PySem.W.Frag) (x : Str) (i : Int) : Bool := match PySem.W.nsIn K mainGlobals x with
  | some (some (.int j _)) => decide (j = i)
  | _ => false
theorem giH_ok {x : Str} {i : Int} (h : giH K x i = true) : ∃ t, PySem.W.nsIn K mainGlobals x = some (some (.int i t)) := by
  unfold giH at h
  split at h
  · rename_i j t e
    have h' := of_decide_eq_true h
    subst h'
    exact ⟨t, e⟩
  · cases h
def gsH (K : PySem.W.Frag) (x z : Str) : Bool := match PySem.W.nsIn K mainGlobals x with
  | some (some (.str y _)) => decide (y = z)
  | _ => false
theorem gsH_ok {x z : Str} (h : gsH K x z = true) : ∃ t, PySem.W.nsIn K mainGlobals x = some (some (.str z t)) := by
  unfold gsH at h
  split at h
  · rename_i j t e
    have h' := of_decide_eq_true h
    subst h'
    exact ⟨t, e⟩
  · cases h
def esH (K : PySem.W.Frag) (a : Addr) (p : List DictEntry → Bool) : Bool := match K.lookup a with
  | some ⟨_, _, .dict es _, _⟩ => p es.toList
  | _ => false
theorem esH_ok {P : Params} {a : Addr} {ks : List Str} {p : List DictEntry → Bool} (h : He.dicW K a = some (He.keysIn P ks)) (hp : esH K a p = true) :
    ∃ es n, K.lookup a = some ⟨.type "dict", none, .dict es n, #[]⟩ ∧ PySem.W.KeysLit P es.toList ∧ (a == sysModules) = false ∧ p es.toList = true := by
  unfold He.dicW at h
  unfold esH at hp
  cases q : K.lookup a with
  | none => rw [q] at h; cases h
  | some o =>
    obtain ⟨oc, od, dt, osl⟩ := o
    rw [q] at h hp
    cases oc with
    | type c =>
      cases od with
      | none =>
        cases dt with
        | dict es n =>
          dsimp only at h hp
          cases z : (decide (c = "dict") && (osl.isEmpty && !(a == sysModules))) with
          | false => rw [z] at h; cases h
          | true =>
            rw [z] at h
            obtain ⟨z1, z2⟩ := Bool.and_eq_true_iff.mp z
            obtain ⟨z2, z3⟩ := Bool.and_eq_true_iff.mp z2
            have z1' := of_decide_eq_true z1
            subst z1'
            have z2' : osl = #[] := Array.isEmpty_iff.mp z2
            subst z2'
            exact ⟨es, n, rfl, He.keysLit_of (Option.some.inj h), by simpa using z3, hp⟩
        | _ => cases h
      | some a => cases dt <;> cases h
    | _ => cases od <;> cases dt <;> cases h
end
abbrev AlH : Type := Bool × List FnH × List (Option (List (Option (Str × Int))))
def obsH (bs : List (PySem.W.Frag → Bool)) (fn : List DefH) (tb : List (PySem.W.Frag → Addr)) (K : PySem.W.Frag) : AlH := (bs.all fun b => b K, fn.map fun d => fnH K (d.at_ K), tb.map fun t => He.dicW K (t K))
def valH (fn : List DefH) (ks : List (List Str)) (P : Params) : AlH := (true, fn.map DefH.val, ks.map fun k => some (He.keysIn P k))
def hookH (as : List Addr) (bs : List (PySem.W.Frag → Bool)) (fn : List DefH) (tb : List (PySem.W.Frag → Addr)) (ks : List (List Str)) : PySem.W.Hook where
  α := AlH
  obs := fun s => obsH bs fn tb (He.frG s.heap.get? as)
  val := fun w => valH fn ks w.params
  says := fun w h => ∃ K : PySem.W.Frag, K.In h ∧ obsH bs fn tb K = valH fn ks w.params
  of := fun _ _ e => ⟨_, He.frG_in, e⟩
  keeps := fun _ _ _ ⟨K, hK, c⟩ k => ⟨K, PySem.W.Frag.In.keeps hK k, c⟩
def obH (as : List Addr) (bs : List (PySem.W.Frag → Bool)) (fn : List DefH) (tb : List (PySem.W.Frag → Addr)) (s : PySem.W.SharedT) : AlH := obsH bs fn tb (He.frG (HandSHeadRun.getT s) as)
theorem obH_eq {as : List Addr} {bs : List (PySem.W.Frag → Bool)} {fn : List DefH} {tb : List (PySem.W.Frag → Addr)} {ks : List (List Str)} (s : PySem.W.SharedT) : obH as bs fn tb s = (hookH as bs fn tb ks).obs s.abs := by
  have e : HandSHeadRun.getT s = s.abs.heap.get? := funext (HandSHeadRun.getT_eq s)
  unfold obH
  rw [e]
  rfl
section
variable {bs : List (PySem.W.Frag → Bool)} {fn : List DefH} {tb : List (PySem.W.Frag → Addr)} {ks : List (List Str)} {P : Params} {K : PySem.W.Frag}
theorem says_b (c : obsH bs fn tb K = valH fn ks P) (i : Nat) {b : PySem.W.Frag → Bool} (h : bs[i]? = some b) : b K = true :=
  List.all_eq_true.mp (show (bs.all fun b => b K) = true from congrArg (fun z : AlH => z.1) c) b (List.mem_of_getElem? h)
theorem says_f (c : obsH bs fn tb K = valH fn ks P) (i : Nat) {d : DefH} (h : fn[i]? = some d) : fnH K (d.at_ K) = d.val := by
  have e : fn.map (fun d => fnH K (d.at_ K)) = fn.map DefH.val := congrArg (fun z : AlH => z.2.1) c
  have e2 : (fn.map fun d => fnH K (d.at_ K))[i]? = (fn.map DefH.val)[i]? := by rw [e]
  rw [List.getElem?_map, List.getElem?_map, h] at e2
  exact Option.some.inj e2
theorem says_t (c : obsH bs fn tb K = valH fn ks P) (i : Nat) {t : PySem.W.Frag → Addr} {k : List Str} (h : tb[i]? = some t) (h2 : ks[i]? = some k) : He.dicW K (t K) = some (He.keysIn P k) := by
  have e : tb.map (fun t => He.dicW K (t K)) = ks.map fun k => some (He.keysIn P k) := congrArg (fun z : AlH => z.2.2) c
  have e2 : (tb.map fun t => He.dicW K (t K))[i]? = (ks.map fun k => some (He.keysIn P k))[i]? := by rw [e]
  rw [List.getElem?_map, List.getElem?_map, h, h2] at e2
  exact Option.some.inj e2
end
def RunPart (r : PySem.W.OpenRow) {α : Type} (ob : PySem.W.SharedT → α) (v : Params → α) (M : Nat) (w : World) : Prop :=
  ∀ os : OsState, (HandSHeadRun.endF (HandSHeadRun.stepQ (HandSHeadRun.denQ HandSHeadRun.tabQ) r.prog w) M r.prog w os).map ob = some (v w.params)
def obB (as : List Addr) (bs : List (PySem.W.Frag → Bool)) (s : PySem.W.SharedT) : Bool := bs.all fun b => b (He.frG (HandSHeadRun.getT s) as)
def obF (as : List Addr) (fn : List DefH) (s : PySem.W.SharedT) : List FnH := fn.map fun d => fnH (He.frG (HandSHeadRun.getT s) as) (d.at_ (He.frG (HandSHeadRun.getT s) as))
def obT (as : List Addr) (tb : List (PySem.W.Frag → Addr)) (s : PySem.W.SharedT) : List (Option (List (Option (Str × Int)))) := tb.map fun t => He.dicW (He.frG (HandSHeadRun.getT s) as) (t (He.frG (HandSHeadRun.getT s) as))
theorem part_app {r : PySem.W.OpenRow} {as : List Addr} {b1 b2 : List (PySem.W.Frag → Bool)} {M : Nat} {w : World} (h1 : RunPart r (obB as b1) (fun _ => true) M w) (h2 : RunPart r (obB as b2) (fun _ => true) M w) : RunPart r (obB as (b1 ++ b2)) (fun _ => true) M w := fun os => by
  obtain ⟨s, e, q1⟩ := Option.map_eq_some_iff.mp (h1 os)
  have q2 := h2 os
  rw [e] at q2 ⊢
  have q2 : obB as b2 s = true := Option.some.inj q2
  show some (obB as (b1 ++ b2) s) = some true
  unfold obB at q1 q2 ⊢
  rw [List.all_append, q1, q2]
  rfl
theorem run_join {r : PySem.W.OpenRow} {q : Program} {as : List Addr} {bs : List (PySem.W.Frag → Bool)} {fn : List DefH} {tb : List (PySem.W.Frag → Addr)} {ks : List (List Str)} {M : Nat} {loose : List Str} {w : World}
    (h0 : HandSHeadRun.RunEq r q PySem.W.Hook.none (fun _ => ()) M loose w) (hb : RunPart r (obB as bs) (fun _ => true) M w) (hf : RunPart r (obF as fn) (fun _ => fn.map DefH.val) M w) (ht : RunPart r (obT as tb) (fun P => ks.map fun k => some (He.keysIn P k)) M w) :
    HandSHeadRun.RunEq r q (hookH as bs fn tb ks) (obH as bs fn tb) M loose w := fun os => by
  obtain ⟨s, e, q0⟩ := Option.map_eq_some_iff.mp (h0 os)
  have q1 := hb os
  have q2 := hf os
  have q3 := ht os
  rw [e] at q1 q2 q3 ⊢
  have q1 : obB as bs s = true := Option.some.inj q1
  have q2 : obF as fn s = fn.map DefH.val := Option.some.inj q2
  have q3 : obT as tb s = ks.map fun k => some (He.keysIn w.params k) := Option.some.inj q3
  obtain ⟨a1, a2⟩ := Prod.mk.inj q0
  obtain ⟨a2, _⟩ := Prod.mk.inj a2
  show some (_, _, (obB as bs s, obF as fn s, obT as tb s)) = _
  rw [q1, q2, q3, a1, a2]
  rfl
theorem walk_ofH {l : PySem.W.OpenLaw} {n k : Nat} {q : Program} {loose : List Str} {XP : (Str → Option Value) → Heap → Prop} {YP : World → Heap → Prop} {d : DefRec} {CX : World → CXT} {x : Str}
    (hn : l.most = some n) (hn2 : n ≤ sizeLine) (hdf : d.params.defaults = []) (hr : Room k callerA)
    (F : ∀ (w : World) (mg : Str → Option Value) (fa : Addr) (h : Heap), YP w h → h.Ns mainGlobals mg → mg d.name = some (.ref fa) →
      ∃ (K : PySem.W.Frag) (fd : FuncData) (sp : Sp), K.In h ∧ (∀ (s : Shared) (u : Value), BindsTo s fd ⟨[u], []⟩ [(x, u)]) ∧
        (∀ (H : Hp) (a : Addr) (ns : List Int), ns.length ≤ n → (∀ z ∈ ns, Builtin.Int.intBits z ≤ 1048576) → Only H → SqL K H a (ns.map V.int) → sp [.ref a] H (fun v _ => v = .bl true) fun _ _ _ => False) ∧
        ∀ base : Heap, K.In base → base.Ns mainGlobals mg → FnOk l.prog w K mg base (CX w) k fa fd [x] sp)
    (hCX : ∀ (w : World) (H : Hp) (s : Shared) (e : Value) (s' : Shared), CX w [] H s (fun _ _ _ => False) e s' → False) :
    PySem.W.WalkO q loose XP YP l.row.toRowW d [] (fun f vs => PySem.call f vs) := by
  refine Att.attach_callB hn hdf fun w s₀ s₁ mg mb fa o pm cd doc a vs ns G Y ho hd hcd hmg hobj hints hlen hbits hg => ?_
  obtain ⟨K, fd, sp, KX, hb, hsp, hF⟩ := F w mg fa _ Y G.T.g hmg
  exact law_call KX G.T.g G.T.b G.T.builtins G.T.nolimit hg hobj hints (Nat.le_trans hlen hn2) hr hF hb (fun H hO hS => hsp H a ns hlen hbits hO hS) fun H e s' => hCX w H s₁ e s'
end DL
set_option maxHeartbeats 4000000
namespace DL
open PySem PySem.Spec PyProof.Rows L2
section
variable {K : PySem.W.Frag}
def kdV (K : PySem.W.Frag) (kV : Value) (z : Str) (v : Int) : Bool := match kV with
  | .ref D => (match PySem.W.nsIn K D z with
    | some (some (.int j _)) => decide (j = v)
    | _ => false)
  | _ => false
def kdH (K : PySem.W.Frag) (a : Addr) (z : Str) (v : Int) : Bool := match K.lookup a with
  | some ⟨_, _, .func fd, _⟩ => kdV K fd.kwdefaults z v
  | _ => false
theorem plK_ok {d : DefH} {a : Addr} {z : Str} {v : Int} (e : fnH K a = d.val) (c : plH K a d.qual = true) (k : kdH K a z v = true) : ∃ D t od an sl oc dc pm cd ct, K.lookup a = some ⟨oc, od, .func (PySem.W.fnOf d.name d.qual (defArgs d.st) (defBody d.st) (defScope d.st) .none (.ref D) dc pm an cd ct), sl⟩ ∧ PySem.W.codeIn K cd d.qual = true ∧ PySem.W.nsIn K D z = some (some (.int v t)) := by
  obtain ⟨od, an, sl, oc, kV, dc, pm, cd, ct, l, cI⟩ := plH_ok e c
  unfold kdH at k
  rw [l] at k
  replace k : kdV K kV z v = true := k
  unfold kdV at k
  split at k
  · rename_i D
    split at k
    · rename_i j t e
      have h' := of_decide_eq_true k
      subst h'
      exact ⟨D, t, od, an, sl, oc, dc, pm, cd, ct, l, cI, e⟩
    · cases k
  · cases k
end
end DL
set_option maxHeartbeats 4000000
namespace DW.K82
open PySem PySem.Spec PyProof.Rows L2 DL
section
variable {P : Program} {w : World} {K : PySem.W.Frag} {h : Heap} {mg : Str → Option Value}
theorem all_mk (X : K.In h) (G : h.Ns mainGlobals mg) {fa : Addr} (hfa : mg "law" = some (.ref fa))
    {cE0 fE0 NE0 daE0 ccE0 : Addr} {nmE0 qE0 fiE0 : Str} {bsE0 bmE0 subE0 : List Value} {snE0 : List Str} {abE0 : Bool} {colE0 : Option Bool} {ddE0 odE0 anE0 cddE0 cldE0 : Option Addr} {mE0_0 mE0_1 mE0_2 mE0_3 mE0_5 : Option Value} {ocE0 kVE0 dcE0 pmE0 ctE0 cclE0 clE0 : Value} {slE0 ccsE0 cslE0 : Array (Option Value)} {vsE0 : Array Value} {tfE0 : Tok}
    (eA0 : PySem.W.nsIn K mainGlobals "BadNumber" = some (some (.ref cE0))) (eX0 : K.lookup cE0 = some (excClassObj nmE0 qE0 cE0 NE0 bsE0 bmE0 true snE0 subE0 abE0 colE0 ddE0 mE0_0 mE0_1 mE0_2 mE0_3 mE0_5 "ValueError.__new__")) (eR0 : PySem.HandSPX.refsVE bmE0 = true)
    (eI0 : PySem.W.findIn K (.ref cE0) "__init__" = some (some (.ref fE0))) (eB0 : errB K cE0 fE0 ["n"] = true)
    (eL0 : K.lookup fE0 = some ⟨ocE0, odE0, .func (PySem.W.ksFn "__init__" "BadNumber.__init__" (defArgs si_BadNumber) (defBody si_BadNumber) (defScope si_BadNumber) .none kVE0 dcE0 pmE0 anE0 (.ref daE0) ctE0 ccE0), slE0⟩)
    (eC0 : PySem.W.codeIn K (.ref daE0) "BadNumber.__init__" = true) (eD0 : K.lookup daE0 = some ⟨cclE0, cddE0, .fields vsE0, ccsE0⟩) (eV0 : vsE0[2]? = some (.str fiE0 tfE0)) (eF0 : ((P.main.file : Str) == fiE0) = true) (eE0 : K.lookup ccE0 = some ⟨clE0, cldE0, .cell (some (.ref cE0)), cslE0⟩)
    {cE1 fE1 NE1 daE1 ccE1 : Addr} {nmE1 qE1 fiE1 : Str} {bsE1 bmE1 subE1 : List Value} {snE1 : List Str} {abE1 : Bool} {colE1 : Option Bool} {ddE1 odE1 anE1 cddE1 cldE1 : Option Addr} {mE1_0 mE1_1 mE1_2 mE1_3 mE1_5 : Option Value} {ocE1 kVE1 dcE1 pmE1 ctE1 cclE1 clE1 : Value} {slE1 ccsE1 cslE1 : Array (Option Value)} {vsE1 : Array Value} {tfE1 : Tok}
    (eA1 : PySem.W.nsIn K mainGlobals "BadCharacteristic" = some (some (.ref cE1))) (eX1 : K.lookup cE1 = some (excClassObj nmE1 qE1 cE1 NE1 bsE1 bmE1 true snE1 subE1 abE1 colE1 ddE1 mE1_0 mE1_1 mE1_2 mE1_3 mE1_5 "ValueError.__new__")) (eR1 : PySem.HandSPX.refsVE bmE1 = true)
    (eI1 : PySem.W.findIn K (.ref cE1) "__init__" = some (some (.ref fE1))) (eB1 : errB K cE1 fE1 ["p"] = true)
    (eL1 : K.lookup fE1 = some ⟨ocE1, odE1, .func (PySem.W.ksFn "__init__" "BadCharacteristic.__init__" (defArgs si_BadCharacteristic) (defBody si_BadCharacteristic) (defScope si_BadCharacteristic) .none kVE1 dcE1 pmE1 anE1 (.ref daE1) ctE1 ccE1), slE1⟩)
    (eC1 : PySem.W.codeIn K (.ref daE1) "BadCharacteristic.__init__" = true) (eD1 : K.lookup daE1 = some ⟨cclE1, cddE1, .fields vsE1, ccsE1⟩) (eV1 : vsE1[2]? = some (.str fiE1 tfE1)) (eF1 : ((P.main.file : Str) == fiE1) = true) (eE1 : K.lookup ccE1 = some ⟨clE1, cldE1, .cell (some (.ref cE1)), cslE1⟩)
    {cE2 fE2 NE2 daE2 ccE2 : Addr} {nmE2 qE2 fiE2 : Str} {bsE2 bmE2 subE2 : List Value} {snE2 : List Str} {abE2 : Bool} {colE2 : Option Bool} {ddE2 odE2 anE2 cddE2 cldE2 : Option Addr} {mE2_0 mE2_1 mE2_2 mE2_3 mE2_5 : Option Value} {ocE2 kVE2 dcE2 pmE2 ctE2 cclE2 clE2 : Value} {slE2 ccsE2 cslE2 : Array (Option Value)} {vsE2 : Array Value} {tfE2 : Tok}
    (eA2 : PySem.W.nsIn K mainGlobals "BadText" = some (some (.ref cE2))) (eX2 : K.lookup cE2 = some (excClassObj nmE2 qE2 cE2 NE2 bsE2 bmE2 true snE2 subE2 abE2 colE2 ddE2 mE2_0 mE2_1 mE2_2 mE2_3 mE2_5 "ValueError.__new__")) (eR2 : PySem.HandSPX.refsVE bmE2 = true)
    (eI2 : PySem.W.findIn K (.ref cE2) "__init__" = some (some (.ref fE2))) (eB2 : errB K cE2 fE2 ["at"] = true)
    (eL2 : K.lookup fE2 = some ⟨ocE2, odE2, .func (PySem.W.ksFn "__init__" "BadText.__init__" (defArgs si_BadText) (defBody si_BadText) (defScope si_BadText) .none kVE2 dcE2 pmE2 anE2 (.ref daE2) ctE2 ccE2), slE2⟩)
    (eC2 : PySem.W.codeIn K (.ref daE2) "BadText.__init__" = true) (eD2 : K.lookup daE2 = some ⟨cclE2, cddE2, .fields vsE2, ccsE2⟩) (eV2 : vsE2[2]? = some (.str fiE2 tfE2)) (eF2 : ((P.main.file : Str) == fiE2) = true) (eE2 : K.lookup ccE2 = some ⟨clE2, cldE2, .cell (some (.ref cE2)), cslE2⟩)
    {cE8 fE8 NE8 daE8 ccE8 : Addr} {nmE8 qE8 fiE8 : Str} {bsE8 bmE8 subE8 : List Value} {snE8 : List Str} {abE8 : Bool} {colE8 : Option Bool} {ddE8 odE8 anE8 cddE8 cldE8 : Option Addr} {mE8_0 mE8_1 mE8_2 mE8_3 mE8_5 : Option Value} {ocE8 kVE8 dcE8 pmE8 ctE8 cclE8 clE8 : Value} {slE8 ccsE8 cslE8 : Array (Option Value)} {vsE8 : Array Value} {tfE8 : Tok}
    (eA8 : PySem.W.nsIn K mainGlobals "BadStep" = some (some (.ref cE8))) (eX8 : K.lookup cE8 = some (excClassObj nmE8 qE8 cE8 NE8 bsE8 bmE8 true snE8 subE8 abE8 colE8 ddE8 mE8_0 mE8_1 mE8_2 mE8_3 mE8_5 "ValueError.__new__")) (eR8 : PySem.HandSPX.refsVE bmE8 = true)
    (eI8 : PySem.W.findIn K (.ref cE8) "__init__" = some (some (.ref fE8))) (eB8 : errB K cE8 fE8 ["at"] = true)
    (eL8 : K.lookup fE8 = some ⟨ocE8, odE8, .func (PySem.W.ksFn "__init__" "BadStep.__init__" (defArgs si_BadStep) (defBody si_BadStep) (defScope si_BadStep) .none kVE8 dcE8 pmE8 anE8 (.ref daE8) ctE8 ccE8), slE8⟩)
    (eC8 : PySem.W.codeIn K (.ref daE8) "BadStep.__init__" = true) (eD8 : K.lookup daE8 = some ⟨cclE8, cddE8, .fields vsE8, ccsE8⟩) (eV8 : vsE8[2]? = some (.str fiE8 tfE8)) (eF8 : ((P.main.file : Str) == fiE8) = true) (eE8 : K.lookup ccE8 = some ⟨clE8, cldE8, .cell (some (.ref cE8)), cslE8⟩)
    {cE9 fE9 NE9 daE9 ccE9 : Addr} {nmE9 qE9 fiE9 : Str} {bsE9 bmE9 subE9 : List Value} {snE9 : List Str} {abE9 : Bool} {colE9 : Option Bool} {ddE9 odE9 anE9 cddE9 cldE9 : Option Addr} {mE9_0 mE9_1 mE9_2 mE9_3 mE9_5 : Option Value} {ocE9 kVE9 dcE9 pmE9 ctE9 cclE9 clE9 : Value} {slE9 ccsE9 cslE9 : Array (Option Value)} {vsE9 : Array Value} {tfE9 : Tok}
    (eA9 : PySem.W.nsIn K mainGlobals "UnknownName" = some (some (.ref cE9))) (eX9 : K.lookup cE9 = some (excClassObj nmE9 qE9 cE9 NE9 bsE9 bmE9 true snE9 subE9 abE9 colE9 ddE9 mE9_0 mE9_1 mE9_2 mE9_3 mE9_5 "ValueError.__new__")) (eR9 : PySem.HandSPX.refsVE bmE9 = true)
    (eI9 : PySem.W.findIn K (.ref cE9) "__init__" = some (some (.ref fE9))) (eB9 : errB K cE9 fE9 ["name"] = true)
    (eL9 : K.lookup fE9 = some ⟨ocE9, odE9, .func (PySem.W.ksFn "__init__" "UnknownName.__init__" (defArgs si_UnknownName) (defBody si_UnknownName) (defScope si_UnknownName) .none kVE9 dcE9 pmE9 anE9 (.ref daE9) ctE9 ccE9), slE9⟩)
    (eC9 : PySem.W.codeIn K (.ref daE9) "UnknownName.__init__" = true) (eD9 : K.lookup daE9 = some ⟨cclE9, cddE9, .fields vsE9, ccsE9⟩) (eV9 : vsE9[2]? = some (.str fiE9 tfE9)) (eF9 : ((P.main.file : Str) == fiE9) = true) (eE9 : K.lookup ccE9 = some ⟨clE9, cldE9, .cell (some (.ref cE9)), cslE9⟩)
    {cC20 : Addr} (kA20 : PySem.W.nsIn K mainGlobals "Chars" = some (some (.ref cC20))) (kB20 : clsB K cC20 ["endless", "primes"] = true)
    (kR20 : crB K cC20 = true)
    {cC24 : Addr} (kA24 : PySem.W.nsIn K mainGlobals "Many" = some (some (.ref cC24))) (kB24 : clsB K cC24 ["terms"] = true)
    (kR24 : crB K cC24 = true)
    {cC27 : Addr} (kA27 : PySem.W.nsIn K mainGlobals "Drawing" = some (some (.ref cC27))) (kB27 : clsB K cC27 ["kinds", "triples", "open_names"] = true)
    (eN : PySem.W.nsIn K mainGlobals "super" = some none) (eY : PySem.W.nsIn K cStatics "thirdparty.any" = some none) (eT : (P.main.scope.names.lookup ("super" : Str)).isSome = false)
    (eQ1 : exmB K [cE0, cE1, cE2, 0, 0, 0, 0, 0, cE8, cE9, 0, 0, 0, 0, 0, 0, 0, 0, 0, 0, cC20, 0, 0, 0, cC24, 0, 0, cC27] [0, 1, 2, 8, 9] 1 = true)
    (eQ2 : exmB K [cE0, cE1, cE2, 0, 0, 0, 0, 0, cE8, cE9, 0, 0, 0, 0, 0, 0, 0, 0, 0, 0, cC20, 0, 0, 0, cC24, 0, 0, cC27] [0, 1, 2, 8, 9] 2 = true)
    (eQ9 : exmB K [cE0, cE1, cE2, 0, 0, 0, 0, 0, cE8, cE9, 0, 0, 0, 0, 0, 0, 0, 0, 0, 0, cC20, 0, 0, 0, cC24, 0, 0, cC27] [0, 1, 2, 8, 9] 9 = true)
    (qX_24_o_27 : apartB [cE0, cE1, cE2, 0, 0, 0, 0, 0, cE8, cE9, 0, 0, 0, 0, 0, 0, 0, 0, 0, 0, cC20, 0, 0, 0, cC24, 0, 0, cC27] [24] [27] = true)
    {fa0 : Addr} {od0 an0 : Option Addr} {sl0 : Array (Option Value)} {oc0 kV0 dc0 pm0 cd0 ct0 : Value}
    (a0 : PySem.W.nsIn K mainGlobals "_law_cell" = some (some (.ref fa0))) (l0 : K.lookup fa0 = some ⟨oc0, od0, .func (PySem.W.fnOf "_law_cell" "_law_cell" (defArgs s__law_cell) (defBody s__law_cell) (defScope s__law_cell) .none kV0 dc0 pm0 an0 cd0 ct0), sl0⟩) (c0 : PySem.W.codeIn K cd0 "_law_cell" = true) (k0 : PySem.W.keepIn K (.ref fa0) = true)
    {fa1 : Addr} {od1 an1 : Option Addr} {sl1 : Array (Option Value)} {oc1 kV1 dc1 pm1 cd1 ct1 : Value}
    (a1 : PySem.W.nsIn K mainGlobals "_law_pool" = some (some (.ref fa1))) (l1 : K.lookup fa1 = some ⟨oc1, od1, .func (PySem.W.fnOf "_law_pool" "_law_pool" (defArgs s__law_pool) (defBody s__law_pool) (defScope s__law_pool) .none kV1 dc1 pm1 an1 cd1 ct1), sl1⟩) (c1 : PySem.W.codeIn K cd1 "_law_pool" = true) (k1 : PySem.W.keepIn K (.ref fa1) = true)
    {fa2 : Addr} {od2 an2 : Option Addr} {sl2 : Array (Option Value)} {oc2 kV2 dc2 pm2 cd2 ct2 : Value}
    (a2 : PySem.W.nsIn K mainGlobals "_law_take" = some (some (.ref fa2))) (l2 : K.lookup fa2 = some ⟨oc2, od2, .func (PySem.W.fnOf "_law_take" "_law_take" (defArgs s__law_take) (defBody s__law_take) (defScope s__law_take) .none kV2 dc2 pm2 an2 cd2 ct2), sl2⟩) (c2 : PySem.W.codeIn K cd2 "_law_take" = true) (k2 : PySem.W.keepIn K (.ref fa2) = true)
    {fa3 : Addr} {od3 an3 : Option Addr} {sl3 : Array (Option Value)} {oc3 kV3 dc3 pm3 cd3 ct3 : Value}
    (a3 : PySem.W.nsIn K mainGlobals "_law_picked" = some (some (.ref fa3))) (l3 : K.lookup fa3 = some ⟨oc3, od3, .func (PySem.W.fnOf "_law_picked" "_law_picked" (defArgs s__law_picked_l) (defBody s__law_picked_l) (defScope s__law_picked_l) .none kV3 dc3 pm3 an3 cd3 ct3), sl3⟩) (c3 : PySem.W.codeIn K cd3 "_law_picked" = true) (k3 : PySem.W.keepIn K (.ref fa3) = true)
    {fa4 : Addr} {od4 an4 : Option Addr} {sl4 : Array (Option Value)} {oc4 kV4 dc4 pm4 cd4 ct4 : Value}
    (a4 : PySem.W.nsIn K mainGlobals "_law_gathered" = some (some (.ref fa4))) (l4 : K.lookup fa4 = some ⟨oc4, od4, .func (PySem.W.fnOf "_law_gathered" "_law_gathered" (defArgs s__law_gathered) (defBody s__law_gathered) (defScope s__law_gathered) .none kV4 dc4 pm4 an4 cd4 ct4), sl4⟩) (c4 : PySem.W.codeIn K cd4 "_law_gathered" = true) (k4 : PySem.W.keepIn K (.ref fa4) = true)
    {fa5 : Addr} {od5 an5 : Option Addr} {sl5 : Array (Option Value)} {oc5 kV5 dc5 pm5 cd5 ct5 : Value}
    (a5 : PySem.W.nsIn K mainGlobals "_law_number_triple" = some (some (.ref fa5))) (l5 : K.lookup fa5 = some ⟨oc5, od5, .func (PySem.W.fnOf "_law_number_triple" "_law_number_triple" (defArgs s__law_number_triple) (defBody s__law_number_triple) (defScope s__law_number_triple) .none kV5 dc5 pm5 an5 cd5 ct5), sl5⟩) (c5 : PySem.W.codeIn K cd5 "_law_number_triple" = true) (k5 : PySem.W.keepIn K (.ref fa5) = true)
    {fa6 : Addr} {od6 an6 : Option Addr} {sl6 : Array (Option Value)} {oc6 kV6 dc6 pm6 cd6 ct6 : Value}
    (a6 : PySem.W.nsIn K mainGlobals "_law_plain" = some (some (.ref fa6))) (l6 : K.lookup fa6 = some ⟨oc6, od6, .func (PySem.W.fnOf "_law_plain" "_law_plain" (defArgs s__law_plain) (defBody s__law_plain) (defScope s__law_plain) .none kV6 dc6 pm6 an6 cd6 ct6), sl6⟩) (c6 : PySem.W.codeIn K cd6 "_law_plain" = true) (k6 : PySem.W.keepIn K (.ref fa6) = true)
    {fa7 : Addr} {od7 an7 : Option Addr} {sl7 : Array (Option Value)} {oc7 kV7 dc7 pm7 cd7 ct7 : Value}
    (a7 : PySem.W.nsIn K mainGlobals "_law_times" = some (some (.ref fa7))) (l7 : K.lookup fa7 = some ⟨oc7, od7, .func (PySem.W.fnOf "_law_times" "_law_times" (defArgs s__law_times) (defBody s__law_times) (defScope s__law_times) .none kV7 dc7 pm7 an7 cd7 ct7), sl7⟩) (c7 : PySem.W.codeIn K cd7 "_law_times" = true) (k7 : PySem.W.keepIn K (.ref fa7) = true)
    {fa8 : Addr} {od8 an8 : Option Addr} {sl8 : Array (Option Value)} {oc8 kV8 dc8 pm8 cd8 ct8 : Value}
    (a8 : PySem.W.nsIn K mainGlobals "_law_cross" = some (some (.ref fa8))) (l8 : K.lookup fa8 = some ⟨oc8, od8, .func (PySem.W.fnOf "_law_cross" "_law_cross" (defArgs s__law_cross) (defBody s__law_cross) (defScope s__law_cross) .none kV8 dc8 pm8 an8 cd8 ct8), sl8⟩) (c8 : PySem.W.codeIn K cd8 "_law_cross" = true) (k8 : PySem.W.keepIn K (.ref fa8) = true)
    {fa9 : Addr} {od9 an9 : Option Addr} {sl9 : Array (Option Value)} {oc9 kV9 dc9 pm9 cd9 ct9 : Value}
    (a9 : PySem.W.nsIn K mainGlobals "_law_made_row" = some (some (.ref fa9))) (l9 : K.lookup fa9 = some ⟨oc9, od9, .func (PySem.W.fnOf "_law_made_row" "_law_made_row" (defArgs s__law_made_row_l) (defBody s__law_made_row_l) (defScope s__law_made_row_l) .none kV9 dc9 pm9 an9 cd9 ct9), sl9⟩) (c9 : PySem.W.codeIn K cd9 "_law_made_row" = true) (k9 : PySem.W.keepIn K (.ref fa9) = true)
    {fa10 : Addr} {od10 an10 : Option Addr} {sl10 : Array (Option Value)} {oc10 kV10 dc10 pm10 cd10 ct10 : Value}
    (a10 : PySem.W.nsIn K mainGlobals "_law_largest" = some (some (.ref fa10))) (l10 : K.lookup fa10 = some ⟨oc10, od10, .func (PySem.W.fnOf "_law_largest" "_law_largest" (defArgs s__law_largest) (defBody s__law_largest) (defScope s__law_largest) .none kV10 dc10 pm10 an10 cd10 ct10), sl10⟩) (c10 : PySem.W.codeIn K cd10 "_law_largest" = true) (k10 : PySem.W.keepIn K (.ref fa10) = true)
    {fa11 : Addr} {od11 an11 : Option Addr} {sl11 : Array (Option Value)} {oc11 kV11 dc11 pm11 cd11 ct11 : Value}
    (a11 : PySem.W.nsIn K mainGlobals "_law_put" = some (some (.ref fa11))) (l11 : K.lookup fa11 = some ⟨oc11, od11, .func (PySem.W.fnOf "_law_put" "_law_put" (defArgs s__law_put) (defBody s__law_put) (defScope s__law_put) .none kV11 dc11 pm11 an11 cd11 ct11), sl11⟩) (c11 : PySem.W.codeIn K cd11 "_law_put" = true) (k11 : PySem.W.keepIn K (.ref fa11) = true)
    {fa12 : Addr} {od12 an12 : Option Addr} {sl12 : Array (Option Value)} {oc12 kV12 dc12 pm12 cd12 ct12 : Value}
    (a12 : PySem.W.nsIn K mainGlobals "_law_added" = some (some (.ref fa12))) (l12 : K.lookup fa12 = some ⟨oc12, od12, .func (PySem.W.fnOf "_law_added" "_law_added" (defArgs s__law_added) (defBody s__law_added) (defScope s__law_added) .none kV12 dc12 pm12 an12 cd12 ct12), sl12⟩) (c12 : PySem.W.codeIn K cd12 "_law_added" = true) (k12 : PySem.W.keepIn K (.ref fa12) = true)
    {fa13 : Addr} {od13 an13 : Option Addr} {sl13 : Array (Option Value)} {oc13 kV13 dc13 pm13 cd13 ct13 : Value}
    (a13 : PySem.W.nsIn K mainGlobals "_law_world" = some (some (.ref fa13))) (l13 : K.lookup fa13 = some ⟨oc13, od13, .func (PySem.W.fnOf "_law_world" "_law_world" (defArgs s__law_world) (defBody s__law_world) (defScope s__law_world) .none kV13 dc13 pm13 an13 cd13 ct13), sl13⟩) (c13 : PySem.W.codeIn K cd13 "_law_world" = true) (k13 : PySem.W.keepIn K (.ref fa13) = true)
    {fa14 : Addr} {od14 an14 : Option Addr} {sl14 : Array (Option Value)} {oc14 kV14 dc14 pm14 cd14 ct14 : Value}
    (a14 : PySem.W.nsIn K mainGlobals "is_name" = some (some (.ref fa14))) (l14 : K.lookup fa14 = some ⟨oc14, od14, .func (PySem.W.fnOf "is_name" "is_name" (defArgs s_is_name) (defBody s_is_name) (defScope s_is_name) .none kV14 dc14 pm14 an14 cd14 ct14), sl14⟩) (c14 : PySem.W.codeIn K cd14 "is_name" = true) (k14 : PySem.W.keepIn K (.ref fa14) = true)
    {fa15 : Addr} {od15 an15 : Option Addr} {sl15 : Array (Option Value)} {oc15 kV15 dc15 pm15 cd15 ct15 : Value}
    (a15 : PySem.W.nsIn K mainGlobals "is_integer" = some (some (.ref fa15))) (l15 : K.lookup fa15 = some ⟨oc15, od15, .func (PySem.W.fnOf "is_integer" "is_integer" (defArgs s_is_integer) (defBody s_is_integer) (defScope s_is_integer) .none kV15 dc15 pm15 an15 cd15 ct15), sl15⟩) (c15 : PySem.W.codeIn K cd15 "is_integer" = true) (k15 : PySem.W.keepIn K (.ref fa15) = true)
    {fa16 : Addr} {od16 an16 : Option Addr} {sl16 : Array (Option Value)} {oc16 kV16 dc16 pm16 cd16 ct16 : Value}
    (a16 : PySem.W.nsIn K mainGlobals "is_item" = some (some (.ref fa16))) (l16 : K.lookup fa16 = some ⟨oc16, od16, .func (PySem.W.fnOf "is_item" "is_item" (defArgs s_is_item) (defBody s_is_item) (defScope s_is_item) .none kV16 dc16 pm16 an16 cd16 ct16), sl16⟩) (c16 : PySem.W.codeIn K cd16 "is_item" = true) (k16 : PySem.W.keepIn K (.ref fa16) = true)
    {fa17 : Addr} {od17 an17 : Option Addr} {sl17 : Array (Option Value)} {oc17 kV17 dc17 pm17 cd17 ct17 : Value}
    (a17 : PySem.W.findIn K (.ref cC27) "fits" = some (some (.ref fa17))) (l17 : K.lookup fa17 = some ⟨oc17, od17, .func (PySem.W.fnOf "fits" "Drawing.fits" (defArgs s_Drawing_fits) (defBody s_Drawing_fits) (defScope s_Drawing_fits) .none kV17 dc17 pm17 an17 cd17 ct17), sl17⟩) (c17 : PySem.W.codeIn K cd17 "Drawing.fits" = true) (b17 : methB K fa17 = true)
    {fa18 : Addr} {od18 an18 : Option Addr} {sl18 : Array (Option Value)} {oc18 kV18 dc18 pm18 cd18 ct18 : Value}
    (a18 : PySem.W.nsIn K mainGlobals "gathered" = some (some (.ref fa18))) (l18 : K.lookup fa18 = some ⟨oc18, od18, .func (PySem.W.fnOf "gathered" "gathered" (defArgs s_gathered) (defBody s_gathered) (defScope s_gathered) .none kV18 dc18 pm18 an18 cd18 ct18), sl18⟩) (c18 : PySem.W.codeIn K cd18 "gathered" = true) (k18 : PySem.W.keepIn K (.ref fa18) = true)
    {fa19 : Addr} {od19 an19 : Option Addr} {sl19 : Array (Option Value)} {oc19 kV19 dc19 pm19 cd19 ct19 : Value}
    (a19 : PySem.W.findIn K (.ref cC24) "__init__" = some (some (.ref fa19))) (l19 : K.lookup fa19 = some ⟨oc19, od19, .func (PySem.W.fnOf "__init__" "Many.__init__" (defArgs s_Many___init__) (defBody s_Many___init__) (defScope s_Many___init__) .none kV19 dc19 pm19 an19 cd19 ct19), sl19⟩) (c19 : PySem.W.codeIn K cd19 "Many.__init__" = true) (b19 : methB K fa19 = true)
    {fa20 : Addr} {od20 an20 : Option Addr} {sl20 : Array (Option Value)} {oc20 kV20 dc20 pm20 cd20 ct20 : Value}
    {fp20 : Addr} {rs20 : List Value} (a20 : PySem.W.findCls K (.ref cC24) (.type "type") "number" = some (.get (.builtin "classmethod.__get__") (.ref fp20) .none (.ref cC24))) (r20 : PySem.W.recIn K fp20 "classmethod" = some (.ref fa20 :: rs20)) (l20 : K.lookup fa20 = some ⟨oc20, od20, .func (PySem.W.fnOf "number" "Many.number" (defArgs s_Many_number) (defBody s_Many_number) (defScope s_Many_number) .none kV20 dc20 pm20 an20 cd20 ct20), sl20⟩) (c20 : PySem.W.codeIn K cd20 "Many.number" = true) (b20 : methB K fa20 = true)
    {fa21 : Addr} {od21 an21 : Option Addr} {sl21 : Array (Option Value)} {oc21 kV21 dc21 pm21 cd21 ct21 : Value}
    {fp21 : Addr} {rs21 : List Value} (a21 : PySem.W.findCls K (.ref cC24) (.type "type") "unknown" = some (.get (.builtin "classmethod.__get__") (.ref fp21) .none (.ref cC24))) (r21 : PySem.W.recIn K fp21 "classmethod" = some (.ref fa21 :: rs21)) (l21 : K.lookup fa21 = some ⟨oc21, od21, .func (PySem.W.fnOf "unknown" "Many.unknown" (defArgs s_Many_unknown) (defBody s_Many_unknown) (defScope s_Many_unknown) .none kV21 dc21 pm21 an21 cd21 ct21), sl21⟩) (c21 : PySem.W.codeIn K cd21 "Many.unknown" = true) (b21 : methB K fa21 = true)
    {fa22 : Addr} {od22 an22 : Option Addr} {sl22 : Array (Option Value)} {oc22 kV22 dc22 pm22 cd22 ct22 : Value}
    (a22 : PySem.W.findIn K (.ref cC27) "new_unknown" = some (some (.ref fa22))) (l22 : K.lookup fa22 = some ⟨oc22, od22, .func (PySem.W.fnOf "new_unknown" "Drawing.new_unknown" (defArgs s_Drawing_new_unknown) (defBody s_Drawing_new_unknown) (defScope s_Drawing_new_unknown) .none kV22 dc22 pm22 an22 cd22 ct22), sl22⟩) (c22 : PySem.W.codeIn K cd22 "Drawing.new_unknown" = true) (b22 : methB K fa22 = true)
    {fa23 : Addr} {od23 an23 : Option Addr} {sl23 : Array (Option Value)} {oc23 kV23 dc23 pm23 cd23 ct23 : Value}
    (a23 : PySem.W.nsIn K mainGlobals "product_terms" = some (some (.ref fa23))) (l23 : K.lookup fa23 = some ⟨oc23, od23, .func (PySem.W.fnOf "product_terms" "product_terms" (defArgs s_product_terms) (defBody s_product_terms) (defScope s_product_terms) .none kV23 dc23 pm23 an23 cd23 ct23), sl23⟩) (c23 : PySem.W.codeIn K cd23 "product_terms" = true) (k23 : PySem.W.keepIn K (.ref fa23) = true)
    {fa24 : Addr} {od24 an24 : Option Addr} {sl24 : Array (Option Value)} {oc24 kV24 dc24 pm24 cd24 ct24 : Value}
    (a24 : PySem.W.findIn K (.ref cC24) "__mul__" = some (some (.ref fa24))) (l24 : K.lookup fa24 = some ⟨oc24, od24, .func (PySem.W.fnOf "__mul__" "Many.__mul__" (defArgs s_Many___mul__) (defBody s_Many___mul__) (defScope s_Many___mul__) .none kV24 dc24 pm24 an24 cd24 ct24), sl24⟩) (c24 : PySem.W.codeIn K cd24 "Many.__mul__" = true) (b24 : methB K fa24 = true)
    {fa25 : Addr} {od25 an25 : Option Addr} {sl25 : Array (Option Value)} {oc25 kV25 dc25 pm25 cd25 ct25 : Value}
    (a25 : PySem.W.findIn K (.ref cC24) "__neg__" = some (some (.ref fa25))) (l25 : K.lookup fa25 = some ⟨oc25, od25, .func (PySem.W.fnOf "__neg__" "Many.__neg__" (defArgs s_Many___neg__) (defBody s_Many___neg__) (defScope s_Many___neg__) .none kV25 dc25 pm25 an25 cd25 ct25), sl25⟩) (c25 : PySem.W.codeIn K cd25 "Many.__neg__" = true) (b25 : methB K fa25 = true)
    {fa26 : Addr} {od26 an26 : Option Addr} {sl26 : Array (Option Value)} {oc26 kV26 dc26 pm26 cd26 ct26 : Value}
    (a26 : PySem.W.findIn K (.ref cC24) "__add__" = some (some (.ref fa26))) (l26 : K.lookup fa26 = some ⟨oc26, od26, .func (PySem.W.fnOf "__add__" "Many.__add__" (defArgs s_Many___add__) (defBody s_Many___add__) (defScope s_Many___add__) .none kV26 dc26 pm26 an26 cd26 ct26), sl26⟩) (c26 : PySem.W.codeIn K cd26 "Many.__add__" = true) (b26 : methB K fa26 = true)
    {fa27 : Addr} {od27 an27 : Option Addr} {sl27 : Array (Option Value)} {oc27 kV27 dc27 pm27 cd27 ct27 : Value}
    (a27 : PySem.W.findIn K (.ref cC24) "__sub__" = some (some (.ref fa27))) (l27 : K.lookup fa27 = some ⟨oc27, od27, .func (PySem.W.fnOf "__sub__" "Many.__sub__" (defArgs s_Many___sub__) (defBody s_Many___sub__) (defScope s_Many___sub__) .none kV27 dc27 pm27 an27 cd27 ct27), sl27⟩) (c27 : PySem.W.codeIn K cd27 "Many.__sub__" = true) (b27 : methB K fa27 = true)
    {fa28 : Addr} {od28 an28 : Option Addr} {sl28 : Array (Option Value)} {oc28 kV28 dc28 pm28 cd28 ct28 : Value}
    (a28 : PySem.W.nsIn K mainGlobals "cross" = some (some (.ref fa28))) (l28 : K.lookup fa28 = some ⟨oc28, od28, .func (PySem.W.fnOf "cross" "cross" (defArgs s_cross) (defBody s_cross) (defScope s_cross) .none kV28 dc28 pm28 an28 cd28 ct28), sl28⟩) (c28 : PySem.W.codeIn K cd28 "cross" = true) (k28 : PySem.W.keepIn K (.ref fa28) = true)
    {fa29 : Addr} {od29 an29 : Option Addr} {sl29 : Array (Option Value)} {oc29 kV29 dc29 pm29 cd29 ct29 : Value}
    (a29 : PySem.W.findIn K (.ref cC27) "triple_made" = some (some (.ref fa29))) (l29 : K.lookup fa29 = some ⟨oc29, od29, .func (PySem.W.fnOf "triple_made" "Drawing.triple_made" (defArgs s_Drawing_triple_made) (defBody s_Drawing_triple_made) (defScope s_Drawing_triple_made) .none kV29 dc29 pm29 an29 cd29 ct29), sl29⟩) (c29 : PySem.W.codeIn K cd29 "Drawing.triple_made" = true) (b29 : methB K fa29 = true)
    {fa30 : Addr} {od30 an30 : Option Addr} {sl30 : Array (Option Value)} {oc30 kV30 dc30 pm30 cd30 ct30 : Value}
    (a30 : PySem.W.findIn K (.ref cC27) "add" = some (some (.ref fa30))) (l30 : K.lookup fa30 = some ⟨oc30, od30, .func (PySem.W.fnOf "add" "Drawing.add" (defArgs s_Drawing_add) (defBody s_Drawing_add) (defScope s_Drawing_add) .none kV30 dc30 pm30 an30 cd30 ct30), sl30⟩) (c30 : PySem.W.codeIn K cd30 "Drawing.add" = true) (b30 : methB K fa30 = true)
    {fa31 : Addr} {od31 an31 : Option Addr} {sl31 : Array (Option Value)} {oc31 kV31 dc31 pm31 cd31 ct31 : Value}
    (a31 : PySem.W.findIn K (.ref cC27) "__init__" = some (some (.ref fa31))) (l31 : K.lookup fa31 = some ⟨oc31, od31, .func (PySem.W.fnOf "__init__" "Drawing.__init__" (defArgs s_Drawing___init__) (defBody s_Drawing___init__) (defScope s_Drawing___init__) .none kV31 dc31 pm31 an31 cd31 ct31), sl31⟩) (c31 : PySem.W.codeIn K cd31 "Drawing.__init__" = true) (b31 : methB K fa31 = true)
    {fa32 : Addr} {od32 an32 : Option Addr} {sl32 : Array (Option Value)} {oc32 kV32 dc32 pm32 cd32 ct32 : Value}
    (a32 : PySem.W.nsIn K mainGlobals "_law_dot" = some (some (.ref fa32))) (l32 : K.lookup fa32 = some ⟨oc32, od32, .func (PySem.W.fnOf "_law_dot" "_law_dot" (defArgs s__law_dot) (defBody s__law_dot) (defScope s__law_dot) .none kV32 dc32 pm32 an32 cd32 ct32), sl32⟩) (c32 : PySem.W.codeIn K cd32 "_law_dot" = true) (k32 : PySem.W.keepIn K (.ref fa32) = true)
    {fa33 : Addr} {od33 an33 : Option Addr} {sl33 : Array (Option Value)} {oc33 kV33 dc33 pm33 cd33 ct33 : Value}
    (a33 : PySem.W.nsIn K mainGlobals "_law_sentence" = some (some (.ref fa33))) (l33 : K.lookup fa33 = some ⟨oc33, od33, .func (PySem.W.fnOf "_law_sentence" "_law_sentence" (defArgs s__law_sentence) (defBody s__law_sentence) (defScope s__law_sentence) .none kV33 dc33 pm33 an33 cd33 ct33), sl33⟩) (c33 : PySem.W.codeIn K cd33 "_law_sentence" = true) (k33 : PySem.W.keepIn K (.ref fa33) = true)
    {fa34 : Addr} {od34 an34 : Option Addr} {sl34 : Array (Option Value)} {oc34 kV34 dc34 pm34 cd34 ct34 : Value}
    (a34 : PySem.W.nsIn K mainGlobals "_law_changed" = some (some (.ref fa34))) (l34 : K.lookup fa34 = some ⟨oc34, od34, .func (PySem.W.fnOf "_law_changed" "_law_changed" (defArgs s__law_changed) (defBody s__law_changed) (defScope s__law_changed) .none kV34 dc34 pm34 an34 cd34 ct34), sl34⟩) (c34 : PySem.W.codeIn K cd34 "_law_changed" = true) (k34 : PySem.W.keepIn K (.ref fa34) = true)
    {fa35 : Addr} {od35 an35 : Option Addr} {sl35 : Array (Option Value)} {oc35 kV35 dc35 pm35 cd35 ct35 : Value}
    (a35 : PySem.W.nsIn K mainGlobals "_law_fault" = some (some (.ref fa35))) (l35 : K.lookup fa35 = some ⟨oc35, od35, .func (PySem.W.fnOf "_law_fault" "_law_fault" (defArgs s__law_fault) (defBody s__law_fault) (defScope s__law_fault) .none kV35 dc35 pm35 an35 cd35 ct35), sl35⟩) (c35 : PySem.W.codeIn K cd35 "_law_fault" = true) (k35 : PySem.W.keepIn K (.ref fa35) = true)
    {fa36 : Addr} {od36 an36 : Option Addr} {sl36 : Array (Option Value)} {oc36 kV36 dc36 pm36 cd36 ct36 : Value}
    (a36 : PySem.W.nsIn K mainGlobals "is_prime" = some (some (.ref fa36))) (l36 : K.lookup fa36 = some ⟨oc36, od36, .func (PySem.W.fnOf "is_prime" "is_prime" (defArgs s_is_prime) (defBody s_is_prime) (defScope s_is_prime) .none kV36 dc36 pm36 an36 cd36 ct36), sl36⟩) (c36 : PySem.W.codeIn K cd36 "is_prime" = true) (k36 : PySem.W.keepIn K (.ref fa36) = true)
    {fa37 : Addr} {od37 an37 : Option Addr} {sl37 : Array (Option Value)} {oc37 kV37 dc37 pm37 cd37 ct37 : Value}
    (a37 : PySem.W.findIn K (.ref cC20) "__init__" = some (some (.ref fa37))) (l37 : K.lookup fa37 = some ⟨oc37, od37, .func (PySem.W.fnOf "__init__" "Chars.__init__" (defArgs s_Chars___init__) (defBody s_Chars___init__) (defScope s_Chars___init__) .none kV37 dc37 pm37 an37 cd37 ct37), sl37⟩) (c37 : PySem.W.codeIn K cd37 "Chars.__init__" = true) (b37 : methB K fa37 = true)
    {fa38 : Addr} {od38 an38 : Option Addr} {sl38 : Array (Option Value)} {oc38 kV38 dc38 pm38 cd38 ct38 : Value}
    {fp38 : Addr} {rs38 : List Value} (a38 : PySem.W.findCls K (.ref cC20) (.type "type") "every" = some (.get (.builtin "classmethod.__get__") (.ref fp38) .none (.ref cC20))) (r38 : PySem.W.recIn K fp38 "classmethod" = some (.ref fa38 :: rs38)) (l38 : K.lookup fa38 = some ⟨oc38, od38, .func (PySem.W.fnOf "every" "Chars.every" (defArgs s_Chars_every) (defBody s_Chars_every) (defScope s_Chars_every) .none kV38 dc38 pm38 an38 cd38 ct38), sl38⟩) (c38 : PySem.W.codeIn K cd38 "Chars.every" = true) (b38 : methB K fa38 = true)
    {fa39 : Addr} {od39 an39 : Option Addr} {sl39 : Array (Option Value)} {oc39 kV39 dc39 pm39 cd39 ct39 : Value}
    (a39 : PySem.W.nsIn K mainGlobals "common" = some (some (.ref fa39))) (l39 : K.lookup fa39 = some ⟨oc39, od39, .func (PySem.W.fnOf "common" "common" (defArgs s_common) (defBody s_common) (defScope s_common) .none kV39 dc39 pm39 an39 cd39 ct39), sl39⟩) (c39 : PySem.W.codeIn K cd39 "common" = true) (k39 : PySem.W.keepIn K (.ref fa39) = true)
    {fa40 : Addr} {od40 an40 : Option Addr} {sl40 : Array (Option Value)} {oc40 kV40 dc40 pm40 cd40 ct40 : Value}
    (a40 : PySem.W.findIn K (.ref cC24) "content" = some (some (.ref fa40))) (l40 : K.lookup fa40 = some ⟨oc40, od40, .func (PySem.W.fnOf "content" "Many.content" (defArgs s_Many_content) (defBody s_Many_content) (defScope s_Many_content) .none kV40 dc40 pm40 an40 cd40 ct40), sl40⟩) (c40 : PySem.W.codeIn K cd40 "Many.content" = true) (b40 : methB K fa40 = true)
    {fa41 : Addr} {od41 an41 : Option Addr} {sl41 : Array (Option Value)} {oc41 kV41 dc41 pm41 cd41 ct41 : Value}
    (a41 : PySem.W.nsIn K mainGlobals "content_of" = some (some (.ref fa41))) (l41 : K.lookup fa41 = some ⟨oc41, od41, .func (PySem.W.fnOf "content_of" "content_of" (defArgs s_content_of) (defBody s_content_of) (defScope s_content_of) .none kV41 dc41 pm41 an41 cd41 ct41), sl41⟩) (c41 : PySem.W.codeIn K cd41 "content_of" = true) (k41 : PySem.W.keepIn K (.ref fa41) = true)
    {fa42 : Addr} {od42 an42 : Option Addr} {sl42 : Array (Option Value)} {oc42 kV42 dc42 pm42 cd42 ct42 : Value}
    (a42 : PySem.W.nsIn K mainGlobals "prime_divisors" = some (some (.ref fa42))) (l42 : K.lookup fa42 = some ⟨oc42, od42, .func (PySem.W.fnOf "prime_divisors" "prime_divisors" (defArgs s_prime_divisors) (defBody s_prime_divisors) (defScope s_prime_divisors) .none kV42 dc42 pm42 an42 cd42 ct42), sl42⟩) (c42 : PySem.W.codeIn K cd42 "prime_divisors" = true) (k42 : PySem.W.keepIn K (.ref fa42) = true)
    {fa43 : Addr} {od43 an43 : Option Addr} {sl43 : Array (Option Value)} {oc43 kV43 dc43 pm43 cd43 ct43 : Value}
    {fp43 : Addr} {rs43 : List Value} (a43 : PySem.W.findCls K (.ref cC20) (.type "type") "zero_of" = some (.get (.builtin "classmethod.__get__") (.ref fp43) .none (.ref cC20))) (r43 : PySem.W.recIn K fp43 "classmethod" = some (.ref fa43 :: rs43)) (l43 : K.lookup fa43 = some ⟨oc43, od43, .func (PySem.W.fnOf "zero_of" "Chars.zero_of" (defArgs s_Chars_zero_of) (defBody s_Chars_zero_of) (defScope s_Chars_zero_of) .none kV43 dc43 pm43 an43 cd43 ct43), sl43⟩) (c43 : PySem.W.codeIn K cd43 "Chars.zero_of" = true) (b43 : methB K fa43 = true)
    {fa44 : Addr} {od44 an44 : Option Addr} {sl44 : Array (Option Value)} {oc44 kV44 dc44 pm44 cd44 ct44 : Value}
    (a44 : PySem.W.findIn K (.ref cC20) "__invert__" = some (some (.ref fa44))) (l44 : K.lookup fa44 = some ⟨oc44, od44, .func (PySem.W.fnOf "__invert__" "Chars.__invert__" (defArgs s_Chars___invert__) (defBody s_Chars___invert__) (defScope s_Chars___invert__) .none kV44 dc44 pm44 an44 cd44 ct44), sl44⟩) (c44 : PySem.W.codeIn K cd44 "Chars.__invert__" = true) (b44 : methB K fa44 = true)
    {fa45 : Addr} {od45 an45 : Option Addr} {sl45 : Array (Option Value)} {oc45 kV45 dc45 pm45 cd45 ct45 : Value}
    {fp45 : Addr} {rs45 : List Value} (a45 : PySem.W.findCls K (.ref cC20) (.type "type") "unit_of" = some (.get (.builtin "classmethod.__get__") (.ref fp45) .none (.ref cC20))) (r45 : PySem.W.recIn K fp45 "classmethod" = some (.ref fa45 :: rs45)) (l45 : K.lookup fa45 = some ⟨oc45, od45, .func (PySem.W.fnOf "unit_of" "Chars.unit_of" (defArgs s_Chars_unit_of) (defBody s_Chars_unit_of) (defScope s_Chars_unit_of) .none kV45 dc45 pm45 an45 cd45 ct45), sl45⟩) (c45 : PySem.W.codeIn K cd45 "Chars.unit_of" = true) (b45 : methB K fa45 = true)
    {fa46 : Addr} {od46 an46 : Option Addr} {sl46 : Array (Option Value)} {oc46 kV46 dc46 pm46 cd46 ct46 : Value}
    (a46 : PySem.W.nsIn K mainGlobals "shared" = some (some (.ref fa46))) (l46 : K.lookup fa46 = some ⟨oc46, od46, .func (PySem.W.fnOf "shared" "shared" (defArgs s_shared) (defBody s_shared) (defScope s_shared) .none kV46 dc46 pm46 an46 cd46 ct46), sl46⟩) (c46 : PySem.W.codeIn K cd46 "shared" = true) (k46 : PySem.W.keepIn K (.ref fa46) = true)
    {fa47 : Addr} {od47 an47 : Option Addr} {sl47 : Array (Option Value)} {oc47 kV47 dc47 pm47 cd47 ct47 : Value}
    (a47 : PySem.W.findIn K (.ref cC20) "__and__" = some (some (.ref fa47))) (l47 : K.lookup fa47 = some ⟨oc47, od47, .func (PySem.W.fnOf "__and__" "Chars.__and__" (defArgs s_Chars___and__) (defBody s_Chars___and__) (defScope s_Chars___and__) .none kV47 dc47 pm47 an47 cd47 ct47), sl47⟩) (c47 : PySem.W.codeIn K cd47 "Chars.__and__" = true) (b47 : methB K fa47 = true)
    {fa48 : Addr} {od48 an48 : Option Addr} {sl48 : Array (Option Value)} {oc48 kV48 dc48 pm48 cd48 ct48 : Value}
    (a48 : PySem.W.findIn K (.ref cC27) "possible" = some (some (.ref fa48))) (l48 : K.lookup fa48 = some ⟨oc48, od48, .func (PySem.W.fnOf "possible" "Drawing.possible" (defArgs s_Drawing_possible) (defBody s_Drawing_possible) (defScope s_Drawing_possible) .none kV48 dc48 pm48 an48 cd48 ct48), sl48⟩) (c48 : PySem.W.codeIn K cd48 "Drawing.possible" = true) (b48 : methB K fa48 = true)
    {fa49 : Addr} {od49 an49 : Option Addr} {sl49 : Array (Option Value)} {oc49 kV49 dc49 pm49 cd49 ct49 : Value}
    (a49 : PySem.W.findIn K (.ref cC27) "wanted" = some (some (.ref fa49))) (l49 : K.lookup fa49 = some ⟨oc49, od49, .func (PySem.W.fnOf "wanted" "Drawing.wanted" (defArgs s_Drawing_wanted) (defBody s_Drawing_wanted) (defScope s_Drawing_wanted) .none kV49 dc49 pm49 an49 cd49 ct49), sl49⟩) (c49 : PySem.W.codeIn K cd49 "Drawing.wanted" = true) (b49 : methB K fa49 = true)
    {fa50 : Addr} {od50 an50 : Option Addr} {sl50 : Array (Option Value)} {oc50 kV50 dc50 pm50 cd50 ct50 : Value}
    (a50 : PySem.W.findIn K (.ref cC27) "understood" = some (some (.ref fa50))) (l50 : K.lookup fa50 = some ⟨oc50, od50, .func (PySem.W.fnOf "understood" "Drawing.understood" (defArgs s_Drawing_understood) (defBody s_Drawing_understood) (defScope s_Drawing_understood) .none kV50 dc50 pm50 an50 cd50 ct50), sl50⟩) (c50 : PySem.W.codeIn K cd50 "Drawing.understood" = true) (b50 : methB K fa50 = true)
    {fa51 : Addr} {od51 an51 : Option Addr} {sl51 : Array (Option Value)} {oc51 kV51 dc51 pm51 cd51 ct51 : Value}
    (a51 : PySem.W.nsIn K mainGlobals "dot" = some (some (.ref fa51))) (l51 : K.lookup fa51 = some ⟨oc51, od51, .func (PySem.W.fnOf "dot" "dot" (defArgs s_dot) (defBody s_dot) (defScope s_dot) .none kV51 dc51 pm51 an51 cd51 ct51), sl51⟩) (c51 : PySem.W.codeIn K cd51 "dot" = true) (k51 : PySem.W.keepIn K (.ref fa51) = true)
    {fa52 : Addr} {od52 an52 : Option Addr} {sl52 : Array (Option Value)} {oc52 kV52 dc52 pm52 cd52 ct52 : Value}
    (a52 : PySem.W.nsIn K mainGlobals "volume" = some (some (.ref fa52))) (l52 : K.lookup fa52 = some ⟨oc52, od52, .func (PySem.W.fnOf "volume" "volume" (defArgs s_volume) (defBody s_volume) (defScope s_volume) .none kV52 dc52 pm52 an52 cd52 ct52), sl52⟩) (c52 : PySem.W.codeIn K cd52 "volume" = true) (k52 : PySem.W.keepIn K (.ref fa52) = true)
    {fa53 : Addr} {od53 an53 : Option Addr} {sl53 : Array (Option Value)} {oc53 kV53 dc53 pm53 cd53 ct53 : Value}
    (a53 : PySem.W.findIn K (.ref cC27) "conditions" = some (some (.ref fa53))) (l53 : K.lookup fa53 = some ⟨oc53, od53, .func (PySem.W.fnOf "conditions" "Drawing.conditions" (defArgs s_Drawing_conditions) (defBody s_Drawing_conditions) (defScope s_Drawing_conditions) .none kV53 dc53 pm53 an53 cd53 ct53), sl53⟩) (c53 : PySem.W.codeIn K cd53 "Drawing.conditions" = true) (b53 : methB K fa53 = true)
    {fa54 : Addr} {od54 an54 : Option Addr} {sl54 : Array (Option Value)} {oc54 kV54 dc54 pm54 cd54 ct54 : Value}
    (a54 : PySem.W.findIn K (.ref cC24) "vanishing" = some (some (.ref fa54))) (l54 : K.lookup fa54 = some ⟨oc54, od54, .func (PySem.W.fnOf "vanishing" "Many.vanishing" (defArgs s_Many_vanishing) (defBody s_Many_vanishing) (defScope s_Many_vanishing) .none kV54 dc54 pm54 an54 cd54 ct54), sl54⟩) (c54 : PySem.W.codeIn K cd54 "Many.vanishing" = true) (b54 : methB K fa54 = true)
    {fa55 : Addr} {od55 an55 : Option Addr} {sl55 : Array (Option Value)} {oc55 kV55 dc55 pm55 cd55 ct55 : Value}
    (a55 : PySem.W.findIn K (.ref cC27) "always" = some (some (.ref fa55))) (l55 : K.lookup fa55 = some ⟨oc55, od55, .func (PySem.W.fnOf "always" "Drawing.always" (defArgs s_Drawing_always) (defBody s_Drawing_always) (defScope s_Drawing_always) .none kV55 dc55 pm55 an55 cd55 ct55), sl55⟩) (c55 : PySem.W.codeIn K cd55 "Drawing.always" = true) (b55 : methB K fa55 = true)
    {fa56 : Addr} {od56 an56 : Option Addr} {sl56 : Array (Option Value)} {oc56 kV56 dc56 pm56 cd56 ct56 : Value}
    (a56 : PySem.W.nsIn K mainGlobals "checked" = some (some (.ref fa56))) (l56 : K.lookup fa56 = some ⟨oc56, od56, .func (PySem.W.fnOf "checked" "checked" (defArgs s_checked) (defBody s_checked) (defScope s_checked) .none kV56 dc56 pm56 an56 cd56 ct56), sl56⟩) (c56 : PySem.W.codeIn K cd56 "checked" = true) (k56 : PySem.W.keepIn K (.ref fa56) = true)
    {fa57 : Addr} {od57 an57 : Option Addr} {sl57 : Array (Option Value)} {oc57 kV57 dc57 pm57 cd57 ct57 : Value}
    (a57 : PySem.W.findIn K (.ref cC24) "names" = some (some (.ref fa57))) (l57 : K.lookup fa57 = some ⟨oc57, od57, .func (PySem.W.fnOf "names" "Many.names" (defArgs s_Many_names) (defBody s_Many_names) (defScope s_Many_names) .none kV57 dc57 pm57 an57 cd57 ct57), sl57⟩) (c57 : PySem.W.codeIn K cd57 "Many.names" = true) (b57 : methB K fa57 = true)
    {fa58 : Addr} {od58 an58 : Option Addr} {sl58 : Array (Option Value)} {oc58 kV58 dc58 pm58 cd58 ct58 : Value}
    (a58 : PySem.W.findIn K (.ref cC24) "put" = some (some (.ref fa58))) (l58 : K.lookup fa58 = some ⟨oc58, od58, .func (PySem.W.fnOf "put" "Many.put" (defArgs s_Many_put) (defBody s_Many_put) (defScope s_Many_put) .none kV58 dc58 pm58 an58 cd58 ct58), sl58⟩) (c58 : PySem.W.codeIn K cd58 "Many.put" = true) (b58 : methB K fa58 = true)
    {fa59 : Addr} {od59 an59 : Option Addr} {sl59 : Array (Option Value)} {oc59 dc59 pm59 cd59 ct59 : Value}
    {kV59 : Value}
    (a59 : PySem.W.findIn K (.ref cC24) "value" = some (some (.ref fa59))) (l59 : K.lookup fa59 = some ⟨oc59, od59, .func (PySem.W.fnOf "value" "Many.value" (defArgs s_Many_value) (defBody s_Many_value) (defScope s_Many_value) .none kV59 dc59 pm59 an59 cd59 ct59), sl59⟩) (c59 : PySem.W.codeIn K cd59 "Many.value" = true) (b59 : methB K fa59 = true)
    {fa60 : Addr} {od60 an60 : Option Addr} {sl60 : Array (Option Value)} {oc60 kV60 dc60 pm60 cd60 ct60 : Value}
    (a60 : PySem.W.findIn K (.ref cC27) "allowed" = some (some (.ref fa60))) (l60 : K.lookup fa60 = some ⟨oc60, od60, .func (PySem.W.fnOf "allowed" "Drawing.allowed" (defArgs s_Drawing_allowed) (defBody s_Drawing_allowed) (defScope s_Drawing_allowed) .none kV60 dc60 pm60 an60 cd60 ct60), sl60⟩) (c60 : PySem.W.codeIn K cd60 "Drawing.allowed" = true) (b60 : methB K fa60 = true)
    {fa61 : Addr} {od61 an61 : Option Addr} {sl61 : Array (Option Value)} {oc61 dc61 pm61 cd61 ct61 : Value}
    {kV61 : Value}
    (a61 : PySem.W.findIn K (.ref cC27) "holds" = some (some (.ref fa61))) (l61 : K.lookup fa61 = some ⟨oc61, od61, .func (PySem.W.fnOf "holds" "Drawing.holds" (defArgs s_Drawing_holds) (defBody s_Drawing_holds) (defScope s_Drawing_holds) .none kV61 dc61 pm61 an61 cd61 ct61), sl61⟩) (c61 : PySem.W.codeIn K cd61 "Drawing.holds" = true) (b61 : methB K fa61 = true)
    {fa62 : Addr} {od62 an62 : Option Addr} {sl62 : Array (Option Value)} {oc62 kV62 dc62 pm62 cd62 ct62 : Value}
    (a62 : PySem.W.nsIn K mainGlobals "rows_of" = some (some (.ref fa62))) (l62 : K.lookup fa62 = some ⟨oc62, od62, .func (PySem.W.fnOf "rows_of" "rows_of" (defArgs s_rows_of__0) (defBody s_rows_of__0) (defScope s_rows_of__0) .none kV62 dc62 pm62 an62 cd62 ct62), sl62⟩) (c62 : PySem.W.codeIn K cd62 "rows_of" = true) (k62 : PySem.W.keepIn K (.ref fa62) = true)
    {fa63 : Addr} {od63 an63 : Option Addr} {sl63 : Array (Option Value)} {oc63 kV63 dc63 pm63 cd63 ct63 : Value}
    (a63 : PySem.W.nsIn K mainGlobals "rows_of" = some (some (.ref fa63))) (l63 : K.lookup fa63 = some ⟨oc63, od63, .func (PySem.W.fnOf "rows_of" "rows_of" (defArgs s_rows_of__1) (defBody s_rows_of__1) (defScope s_rows_of__1) .none kV63 dc63 pm63 an63 cd63 ct63), sl63⟩) (c63 : PySem.W.codeIn K cd63 "rows_of" = true) (k63 : PySem.W.keepIn K (.ref fa63) = true)
    {fa64 : Addr} {od64 an64 : Option Addr} {sl64 : Array (Option Value)} {oc64 kV64 dc64 pm64 cd64 ct64 : Value}
    (a64 : PySem.W.nsIn K mainGlobals "rows_of" = some (some (.ref fa64))) (l64 : K.lookup fa64 = some ⟨oc64, od64, .func (PySem.W.fnOf "rows_of" "rows_of" (defArgs s_rows_of__2) (defBody s_rows_of__2) (defScope s_rows_of__2) .none kV64 dc64 pm64 an64 cd64 ct64), sl64⟩) (c64 : PySem.W.codeIn K cd64 "rows_of" = true) (k64 : PySem.W.keepIn K (.ref fa64) = true)
    {fa65 : Addr} {od65 an65 : Option Addr} {sl65 : Array (Option Value)} {oc65 kV65 dc65 pm65 cd65 ct65 : Value}
    (a65 : PySem.W.nsIn K mainGlobals "rows_of" = some (some (.ref fa65))) (l65 : K.lookup fa65 = some ⟨oc65, od65, .func (PySem.W.fnOf "rows_of" "rows_of" (defArgs s_rows_of__3) (defBody s_rows_of__3) (defScope s_rows_of__3) .none kV65 dc65 pm65 an65 cd65 ct65), sl65⟩) (c65 : PySem.W.codeIn K cd65 "rows_of" = true) (k65 : PySem.W.keepIn K (.ref fa65) = true)
    {fa66 : Addr} {od66 an66 : Option Addr} {sl66 : Array (Option Value)} {oc66 kV66 dc66 pm66 cd66 ct66 : Value}
    (a66 : PySem.W.nsIn K mainGlobals "rows_of" = some (some (.ref fa66))) (l66 : K.lookup fa66 = some ⟨oc66, od66, .func (PySem.W.fnOf "rows_of" "rows_of" (defArgs s_rows_of__4) (defBody s_rows_of__4) (defScope s_rows_of__4) .none kV66 dc66 pm66 an66 cd66 ct66), sl66⟩) (c66 : PySem.W.codeIn K cd66 "rows_of" = true) (k66 : PySem.W.keepIn K (.ref fa66) = true)
    {fa67 : Addr} {od67 an67 : Option Addr} {sl67 : Array (Option Value)} {oc67 kV67 dc67 pm67 cd67 ct67 : Value}
    (a67 : PySem.W.nsIn K mainGlobals "rows_of" = some (some (.ref fa67))) (l67 : K.lookup fa67 = some ⟨oc67, od67, .func (PySem.W.fnOf "rows_of" "rows_of" (defArgs s_rows_of__5) (defBody s_rows_of__5) (defScope s_rows_of__5) .none kV67 dc67 pm67 an67 cd67 ct67), sl67⟩) (c67 : PySem.W.codeIn K cd67 "rows_of" = true) (k67 : PySem.W.keepIn K (.ref fa67) = true)
    {fa68 : Addr} {od68 an68 : Option Addr} {sl68 : Array (Option Value)} {oc68 dc68 pm68 cd68 ct68 : Value} {kD68 : Addr} {kt68 : Tok}
    (a68 : PySem.W.findIn K (.ref cC27) "breaking" = some (some (.ref fa68))) (l68 : K.lookup fa68 = some ⟨oc68, od68, .func (PySem.W.fnOf "breaking" "Drawing.breaking" (defArgs s_Drawing_breaking) (defBody s_Drawing_breaking) (defScope s_Drawing_breaking) .none (.ref kD68) dc68 pm68 an68 cd68 ct68), sl68⟩) (c68 : PySem.W.codeIn K cd68 "Drawing.breaking" = true) (b68 : methB K fa68 = true)
    (n68 : PySem.W.nsIn K kD68 "most" = some (some (.int 3 kt68)))
    {fa69 : Addr} {od69 an69 : Option Addr} {sl69 : Array (Option Value)} {oc69 kV69 dc69 pm69 cd69 ct69 : Value}
    (a69 : PySem.W.nsIn K mainGlobals "_law_asked" = some (some (.ref fa69))) (l69 : K.lookup fa69 = some ⟨oc69, od69, .func (PySem.W.fnOf "_law_asked" "_law_asked" (defArgs s__law_asked) (defBody s__law_asked) (defScope s__law_asked) .none kV69 dc69 pm69 an69 cd69 ct69), sl69⟩) (c69 : PySem.W.codeIn K cd69 "_law_asked" = true) (k69 : PySem.W.keepIn K (.ref fa69) = true)
    {fa70 : Addr} {od70 an70 : Option Addr} {sl70 : Array (Option Value)} {oc70 kV70 dc70 pm70 cd70 ct70 : Value}
    (a70 : PySem.W.nsIn K mainGlobals "law" = some (some (.ref fa70))) (l70 : K.lookup fa70 = some ⟨oc70, od70, .func (PySem.W.fnOf "law" "law" (defArgs s_law) (defBody s_law) (defScope s_law) .none kV70 dc70 pm70 an70 cd70 ct70), sl70⟩) (c70 : PySem.W.codeIn K cd70 "law" = true) (k70 : PySem.W.keepIn K (.ref fa70) = true)
    (z0 : PySem.W.nsIn K mainGlobals "len" = some none)
    (z1 : PySem.W.nsIn K mainGlobals "int" = some none)
    (z2 : PySem.W.nsIn K mainGlobals "range" = some none)
    (z3 : PySem.W.nsIn K mainGlobals "str" = some none)
    (z4 : PySem.W.nsIn K mainGlobals "sorted" = some none)
    (z5 : PySem.W.nsIn K mainGlobals "list" = some none)
    (z6 : PySem.W.nsIn K mainGlobals "max" = some none)
    (z7 : PySem.W.nsIn K mainGlobals "abs" = some none)
    (z8 : PySem.W.nsIn K mainGlobals "all" = some none)
    (z9 : PySem.W.nsIn K mainGlobals "tuple" = some none)
    (z10 : PySem.W.nsIn K mainGlobals "zip" = some none)
    (z11 : PySem.W.nsIn K mainGlobals "enumerate" = some none)
    (z12 : PySem.W.nsIn K mainGlobals "set" = some none)
    (z13 : PySem.W.nsIn K mainGlobals "dict" = some none)
    {t_MOST_LETTERS : Tok} (gg_MOST_LETTERS : PySem.W.nsIn K mainGlobals "MOST_LETTERS" = some (some (.int 8 t_MOST_LETTERS)))
    {t_LETTERS : Tok} (gg_LETTERS : PySem.W.nsIn K mainGlobals "LETTERS" = some (some (.str "abcdefghijklmnopqrstuvwxyzABCDEFGHIJKLMNOPQRSTUVWXYZ" t_LETTERS)))
    {t_MOST_DIGITS_matrices : Tok} (gg_MOST_DIGITS_matrices : PySem.W.nsIn K mainGlobals "MOST_DIGITS_matrices" = some (some (.int 30 t_MOST_DIGITS_matrices)))
    {t_MOST_ITEM : Tok} (gg_MOST_ITEM : PySem.W.nsIn K mainGlobals "MOST_ITEM" = some (some (.int 1000 t_MOST_ITEM)))
    {t_SAME : Tok} (gg_SAME : PySem.W.nsIn K mainGlobals "SAME" = some (some (.str "same" t_SAME)))
    {t_POINT : Tok} (gg_POINT : PySem.W.nsIn K mainGlobals "POINT" = some (some (.str "point" t_POINT)))
    {gT_SHAPES : Addr} {gE_SHAPES : Array DictEntry} {gn_SHAPES : Nat} (ga_SHAPES : PySem.W.nsIn K mainGlobals "SHAPES" = some (some (.ref gT_SHAPES))) (gl_SHAPES : K.lookup gT_SHAPES = some ⟨.type "dict", none, .dict gE_SHAPES gn_SHAPES, #[]⟩) (gk_SHAPES : PySem.W.KeysLit w.params gE_SHAPES.toList) (gm_SHAPES : (gT_SHAPES == sysModules) = false) (gx_SHAPES : tabB K gE_SHAPES.toList [("point", some "point", ["number", "number", "number"]), ("free", some "point", []), ("join", some "line", ["point", "point"]), ("meet", some "point", ["line", "line"]), ("on", some "point", ["point", "point"])] = true)
    {gT_SENTENCES : Addr} {gE_SENTENCES : Array DictEntry} {gn_SENTENCES : Nat} (ga_SENTENCES : PySem.W.nsIn K mainGlobals "SENTENCES" = some (some (.ref gT_SENTENCES))) (gl_SENTENCES : K.lookup gT_SENTENCES = some ⟨.type "dict", none, .dict gE_SENTENCES gn_SENTENCES, #[]⟩) (gk_SENTENCES : PySem.W.KeysLit w.params gE_SENTENCES.toList) (gm_SENTENCES : (gT_SENTENCES == sysModules) = false) (gx_SENTENCES : tabB K gE_SENTENCES.toList [("line", none, ["point", "point", "point"]), ("through", none, ["line", "line", "line"]), ("on", none, ["point", "line"])] = true) :
    ∃ fd : FuncData, (∀ (s : Shared) (v : Value), BindsTo s fd ⟨[v], []⟩ [("_law_script", v)]) ∧ ∀ base : Heap, K.In base → base.Ns mainGlobals mg → FnOk P w K mg base (L2.CX P w) 15 fa fd ["_law_script"] (spLaw K m_law) := by
  have e := hfa.symm.trans (PySem.W.mg_of X G a70)
  cases e
  let C : Nat → Addr := fun i => ([cE0, cE1, cE2, 0, 0, 0, 0, 0, cE8, cE9, 0, 0, 0, 0, 0, 0, 0, 0, 0, 0, cC20, 0, 0, 0, cC24, 0, 0, cC27] : List Addr).getD i 0
  have G0 : mg "BadNumber" = some (.ref cE0) := PySem.W.mg_of X G eA0
  have F0 := errB_ok eB0
  have O0 : OexC K cE0 := ErrF.oex (C := C) (c := 0) F0 eX0 eR0
  have U0 : SupC P K cE0 := ErrF.sup (C := C) (c := 0) F0 O0 eN eY eT
  have B0 : Binds K (PySem.W.ksFn "__init__" "BadNumber.__init__" (defArgs si_BadNumber) (defBody si_BadNumber) (defScope si_BadNumber) .none kVE0 dcE0 pmE0 anE0 (.ref daE0) ctE0 ccE0) ["self", "n"] [] := Binds.all fun us hl => match us, hl with | [_, _], _ => rfl
  have G1 : mg "BadCharacteristic" = some (.ref cE1) := PySem.W.mg_of X G eA1
  have F1 := errB_ok eB1
  have O1 : OexC K cE1 := ErrF.oex (C := C) (c := 1) F1 eX1 eR1
  have U1 : SupC P K cE1 := ErrF.sup (C := C) (c := 1) F1 O1 eN eY eT
  have B1 : Binds K (PySem.W.ksFn "__init__" "BadCharacteristic.__init__" (defArgs si_BadCharacteristic) (defBody si_BadCharacteristic) (defScope si_BadCharacteristic) .none kVE1 dcE1 pmE1 anE1 (.ref daE1) ctE1 ccE1) ["self", "p"] [] := Binds.all fun us hl => match us, hl with | [_, _], _ => rfl
  have Q_BadCharacteristic : Caught K mg C [0, 1, 2, 8, 9] 1 "BadCharacteristic" ["p"] := ⟨exmB_ok eQ1, G1, F1.xf, F1.no⟩
  have G2 : mg "BadText" = some (.ref cE2) := PySem.W.mg_of X G eA2
  have F2 := errB_ok eB2
  have O2 : OexC K cE2 := ErrF.oex (C := C) (c := 2) F2 eX2 eR2
  have U2 : SupC P K cE2 := ErrF.sup (C := C) (c := 2) F2 O2 eN eY eT
  have B2 : Binds K (PySem.W.ksFn "__init__" "BadText.__init__" (defArgs si_BadText) (defBody si_BadText) (defScope si_BadText) .none kVE2 dcE2 pmE2 anE2 (.ref daE2) ctE2 ccE2) ["self", "at"] [] := Binds.all fun us hl => match us, hl with | [_, _], _ => rfl
  have Q_BadText : Caught K mg C [0, 1, 2, 8, 9] 2 "BadText" ["at"] := ⟨exmB_ok eQ2, G2, F2.xf, F2.no⟩
  have G8 : mg "BadStep" = some (.ref cE8) := PySem.W.mg_of X G eA8
  have F8 := errB_ok eB8
  have O8 : OexC K cE8 := ErrF.oex (C := C) (c := 8) F8 eX8 eR8
  have U8 : SupC P K cE8 := ErrF.sup (C := C) (c := 8) F8 O8 eN eY eT
  have B8 : Binds K (PySem.W.ksFn "__init__" "BadStep.__init__" (defArgs si_BadStep) (defBody si_BadStep) (defScope si_BadStep) .none kVE8 dcE8 pmE8 anE8 (.ref daE8) ctE8 ccE8) ["self", "at"] [] := Binds.all fun us hl => match us, hl with | [_, _], _ => rfl
  have G9 : mg "UnknownName" = some (.ref cE9) := PySem.W.mg_of X G eA9
  have F9 := errB_ok eB9
  have O9 : OexC K cE9 := ErrF.oex (C := C) (c := 9) F9 eX9 eR9
  have U9 : SupC P K cE9 := ErrF.sup (C := C) (c := 9) F9 O9 eN eY eT
  have B9 : Binds K (PySem.W.ksFn "__init__" "UnknownName.__init__" (defArgs si_UnknownName) (defBody si_UnknownName) (defScope si_UnknownName) .none kVE9 dcE9 pmE9 anE9 (.ref daE9) ctE9 ccE9) ["self", "name"] [] := Binds.all fun us hl => match us, hl with | [_, _], _ => rfl
  have Q_UnknownName : Caught K mg C [0, 1, 2, 8, 9] 9 "UnknownName" ["name"] := ⟨exmB_ok eQ9, G9, F9.xf, F9.no⟩
  have K_Chars : CF K mg C 20 "Chars" ["endless", "primes"] := clsB_ok (C := C) (c := 20) (PySem.W.mg_of X G kA20) kB20
  have K_Many : CF K mg C 24 "Many" ["terms"] := clsB_ok (C := C) (c := 24) (PySem.W.mg_of X G kA24) kB24
  have K_Drawing : CF K mg C 27 "Drawing" ["kinds", "triples", "open_names"] := clsB_ok (C := C) (c := 27) (PySem.W.mg_of X G kA27) kB27
  have X_24_o_27 : Apart C [24] [27] := apartB_ok qX_24_o_27
  have A0 : At K mg "_law_cell" s__law_cell ["_law_script", "_law_k"] := at_mk X G a0 l0 c0 k0 fun _ _ _ _ _ _ us hl => match us, hl with | [_, _], _ => rfl
  have A1 : At K mg "_law_pool" s__law_pool ["_law_cell_here"] := at_mk X G a1 l1 c1 k1 fun _ _ _ _ _ _ us hl => match us, hl with | [_], _ => rfl
  have A2 : At K mg "_law_take" s__law_take ["_law_pool_here", "_law_limit"] := at_mk X G a2 l2 c2 k2 fun _ _ _ _ _ _ us hl => match us, hl with | [_, _], _ => rfl
  have A3 : At K mg "_law_picked" s__law_picked_l ["_law_world_here", "_law_pool_here", "_law_fewer"] := at_mk X G a3 l3 c3 k3 fun _ _ _ _ _ _ us hl => match us, hl with | [_, _, _], _ => rfl
  have A4 : At K mg "_law_gathered" s__law_gathered ["_law_terms"] := at_mk X G a4 l4 c4 k4 fun _ _ _ _ _ _ us hl => match us, hl with | [_], _ => rfl
  have A5 : At K mg "_law_number_triple" s__law_number_triple ["_law_numbers"] := at_mk X G a5 l5 c5 k5 fun _ _ _ _ _ _ us hl => match us, hl with | [_], _ => rfl
  have A6 : At K mg "_law_plain" s__law_plain ["_law_row"] := at_mk X G a6 l6 c6 k6 fun _ _ _ _ _ _ us hl => match us, hl with | [_], _ => rfl
  have A7 : At K mg "_law_times" s__law_times ["_law_first", "_law_second", "_law_factor"] := at_mk X G a7 l7 c7 k7 fun _ _ _ _ _ _ us hl => match us, hl with | [_, _, _], _ => rfl
  have A8 : At K mg "_law_cross" s__law_cross ["_law_one", "_law_two"] := at_mk X G a8 l8 c8 k8 fun _ _ _ _ _ _ us hl => match us, hl with | [_, _], _ => rfl
  have A9 : At K mg "_law_made_row" s__law_made_row_l ["_law_world_here", "_law_words"] := at_mk X G a9 l9 c9 k9 fun _ _ _ _ _ _ us hl => match us, hl with | [_, _], _ => rfl
  have A10 : At K mg "_law_largest" s__law_largest ["_law_triple"] := at_mk X G a10 l10 c10 k10 fun _ _ _ _ _ _ us hl => match us, hl with | [_], _ => rfl
  have A11 : At K mg "_law_put" s__law_put ["_law_world_here", "_law_words"] := at_mk X G a11 l11 c11 k11 fun _ _ _ _ _ _ us hl => match us, hl with | [_, _], _ => rfl
  have A12 : At K mg "_law_added" s__law_added ["_law_world_here", "_law_pool_here", "_law_fewer"] := at_mk X G a12 l12 c12 k12 fun _ _ _ _ _ _ us hl => match us, hl with | [_, _, _], _ => rfl
  have A13 : At K mg "_law_world" s__law_world ["_law_pool_here", "_law_many", "_law_fewer"] := at_mk X G a13 l13 c13 k13 fun _ _ _ _ _ _ us hl => match us, hl with | [_, _, _], _ => rfl
  have A14 : At K mg "is_name" s_is_name ["word"] := at_mk X G a14 l14 c14 k14 fun _ _ _ _ _ _ us hl => match us, hl with | [_], _ => rfl
  have A15 : At K mg "is_integer" s_is_integer ["word"] := at_mk X G a15 l15 c15 k15 fun _ _ _ _ _ _ us hl => match us, hl with | [_], _ => rfl
  have A16 : At K mg "is_item" s_is_item ["word"] := at_mk X G a16 l16 c16 k16 fun _ _ _ _ _ _ us hl => match us, hl with | [_], _ => rfl
  have A17 : Am K C 27 "fits" "Drawing.fits" s_Drawing_fits ["self", "word", "kind"] := am_mk (C := C) (c := 27) a17 l17 c17 b17 fun _ _ _ _ _ _ us hl => match us, hl with | [_, _, _], _ => rfl
  have A18 : At K mg "gathered" s_gathered ["terms"] := at_mk X G a18 l18 c18 k18 fun _ _ _ _ _ _ us hl => match us, hl with | [_], _ => rfl
  have A19 : Am K C 24 "__init__" "Many.__init__" s_Many___init__ ["self", "terms"] := am_mk (C := C) (c := 24) a19 l19 c19 b19 fun _ _ _ _ _ _ us hl => match us, hl with | [_, _], _ => rfl
  have A20 : Ac K C 24 "number" "Many.number" s_Many_number ["cls", "n"] := ac_mk (C := C) (c := 24) kR24 a20 r20 l20 c20 b20 fun _ _ _ _ _ _ us hl => match us, hl with | [_, _], _ => rfl
  have A21 : Ac K C 24 "unknown" "Many.unknown" s_Many_unknown ["cls", "name"] := ac_mk (C := C) (c := 24) kR24 a21 r21 l21 c21 b21 fun _ _ _ _ _ _ us hl => match us, hl with | [_, _], _ => rfl
  have A22 : Am K C 27 "new_unknown" "Drawing.new_unknown" s_Drawing_new_unknown ["self", "name"] := am_mk (C := C) (c := 27) a22 l22 c22 b22 fun _ _ _ _ _ _ us hl => match us, hl with | [_, _], _ => rfl
  have A23 : At K mg "product_terms" s_product_terms ["first", "second"] := at_mk X G a23 l23 c23 k23 fun _ _ _ _ _ _ us hl => match us, hl with | [_, _], _ => rfl
  have A24 : Am K C 24 "__mul__" "Many.__mul__" s_Many___mul__ ["self", "other"] := am_mk (C := C) (c := 24) a24 l24 c24 b24 fun _ _ _ _ _ _ us hl => match us, hl with | [_, _], _ => rfl
  have A25 : Am K C 24 "__neg__" "Many.__neg__" s_Many___neg__ ["self"] := am_mk (C := C) (c := 24) a25 l25 c25 b25 fun _ _ _ _ _ _ us hl => match us, hl with | [_], _ => rfl
  have A26 : Am K C 24 "__add__" "Many.__add__" s_Many___add__ ["self", "other"] := am_mk (C := C) (c := 24) a26 l26 c26 b26 fun _ _ _ _ _ _ us hl => match us, hl with | [_, _], _ => rfl
  have A27 : Am K C 24 "__sub__" "Many.__sub__" s_Many___sub__ ["self", "other"] := am_mk (C := C) (c := 24) a27 l27 c27 b27 fun _ _ _ _ _ _ us hl => match us, hl with | [_, _], _ => rfl
  have A28 : At K mg "cross" s_cross ["first", "second"] := at_mk X G a28 l28 c28 k28 fun _ _ _ _ _ _ us hl => match us, hl with | [_, _], _ => rfl
  have A29 : Am K C 27 "triple_made" "Drawing.triple_made" s_Drawing_triple_made ["self", "deed", "name", "rest"] := am_mk (C := C) (c := 27) a29 l29 c29 b29 fun _ _ _ _ _ _ us hl => match us, hl with | [_, _, _, _], _ => rfl
  have A30 : Am K C 27 "add" "Drawing.add" s_Drawing_add ["self", "at", "words"] := am_mk (C := C) (c := 27) a30 l30 c30 b30 fun _ _ _ _ _ _ us hl => match us, hl with | [_, _, _], _ => rfl
  have A31 : Am K C 27 "__init__" "Drawing.__init__" s_Drawing___init__ ["self", "text"] := am_mk (C := C) (c := 27) a31 l31 c31 b31 fun _ _ _ _ _ _ us hl => match us, hl with | [_, _], _ => rfl
  have A32 : At K mg "_law_dot" s__law_dot ["_law_one", "_law_two"] := at_mk X G a32 l32 c32 k32 fun _ _ _ _ _ _ us hl => match us, hl with | [_, _], _ => rfl
  have A33 : At K mg "_law_sentence" s__law_sentence ["_law_world_here", "_law_pool_here"] := at_mk X G a33 l33 c33 k33 fun _ _ _ _ _ _ us hl => match us, hl with | [_, _], _ => rfl
  have A34 : At K mg "_law_changed" s__law_changed ["_law_pool_here", "_law_words", "_law_names"] := at_mk X G a34 l34 c34 k34 fun _ _ _ _ _ _ us hl => match us, hl with | [_, _, _], _ => rfl
  have A35 : At K mg "_law_fault" s__law_fault ["_law_world_here", "_law_words"] := at_mk X G a35 l35 c35 k35 fun _ _ _ _ _ _ us hl => match us, hl with | [_, _], _ => rfl
  have A36 : At K mg "is_prime" s_is_prime ["n"] := at_mk X G a36 l36 c36 k36 fun _ _ _ _ _ _ us hl => match us, hl with | [_], _ => rfl
  have A37 : Am K C 20 "__init__" "Chars.__init__" s_Chars___init__ ["self", "endless", "primes"] := am_mk (C := C) (c := 20) a37 l37 c37 b37 fun _ _ _ _ _ _ us hl => match us, hl with | [_, _, _], _ => rfl
  have A38 : Ac K C 20 "every" "Chars.every" s_Chars_every ["cls"] := ac_mk (C := C) (c := 20) kR20 a38 r38 l38 c38 b38 fun _ _ _ _ _ _ us hl => match us, hl with | [_], _ => rfl
  have A39 : At K mg "common" s_common ["a", "b"] := at_mk X G a39 l39 c39 k39 fun _ _ _ _ _ _ us hl => match us, hl with | [_, _], _ => rfl
  have A40 : Am K C 24 "content" "Many.content" s_Many_content ["self"] := am_mk (C := C) (c := 24) a40 l40 c40 b40 fun _ _ _ _ _ _ us hl => match us, hl with | [_], _ => rfl
  have A41 : At K mg "content_of" s_content_of ["triple"] := at_mk X G a41 l41 c41 k41 fun _ _ _ _ _ _ us hl => match us, hl with | [_], _ => rfl
  have A42 : At K mg "prime_divisors" s_prime_divisors ["n"] := at_mk X G a42 l42 c42 k42 fun _ _ _ _ _ _ us hl => match us, hl with | [_], _ => rfl
  have A43 : Ac K C 20 "zero_of" "Chars.zero_of" s_Chars_zero_of ["cls", "n"] := ac_mk (C := C) (c := 20) kR20 a43 r43 l43 c43 b43 fun _ _ _ _ _ _ us hl => match us, hl with | [_, _], _ => rfl
  have A44 : Am K C 20 "__invert__" "Chars.__invert__" s_Chars___invert__ ["self"] := am_mk (C := C) (c := 20) a44 l44 c44 b44 fun _ _ _ _ _ _ us hl => match us, hl with | [_], _ => rfl
  have A45 : Ac K C 20 "unit_of" "Chars.unit_of" s_Chars_unit_of ["cls", "n"] := ac_mk (C := C) (c := 20) kR20 a45 r45 l45 c45 b45 fun _ _ _ _ _ _ us hl => match us, hl with | [_, _], _ => rfl
  have A46 : At K mg "shared" s_shared ["first", "second"] := at_mk X G a46 l46 c46 k46 fun _ _ _ _ _ _ us hl => match us, hl with | [_, _], _ => rfl
  have A47 : Am K C 20 "__and__" "Chars.__and__" s_Chars___and__ ["self", "other"] := am_mk (C := C) (c := 20) a47 l47 c47 b47 fun _ _ _ _ _ _ us hl => match us, hl with | [_, _], _ => rfl
  have A48 : Am K C 27 "possible" "Drawing.possible" s_Drawing_possible ["self"] := am_mk (C := C) (c := 27) a48 l48 c48 b48 fun _ _ _ _ _ _ us hl => match us, hl with | [_], _ => rfl
  have A49 : Am K C 27 "wanted" "Drawing.wanted" s_Drawing_wanted ["self", "words"] := am_mk (C := C) (c := 27) a49 l49 c49 b49 fun _ _ _ _ _ _ us hl => match us, hl with | [_, _], _ => rfl
  have A50 : Am K C 27 "understood" "Drawing.understood" s_Drawing_understood ["self", "sentence"] := am_mk (C := C) (c := 27) a50 l50 c50 b50 fun _ _ _ _ _ _ us hl => match us, hl with | [_, _], _ => rfl
  have A51 : At K mg "dot" s_dot ["first", "second"] := at_mk X G a51 l51 c51 k51 fun _ _ _ _ _ _ us hl => match us, hl with | [_, _], _ => rfl
  have A52 : At K mg "volume" s_volume ["first", "second", "third"] := at_mk X G a52 l52 c52 k52 fun _ _ _ _ _ _ us hl => match us, hl with | [_, _, _], _ => rfl
  have A53 : Am K C 27 "conditions" "Drawing.conditions" s_Drawing_conditions ["self", "sentence"] := am_mk (C := C) (c := 27) a53 l53 c53 b53 fun _ _ _ _ _ _ us hl => match us, hl with | [_, _], _ => rfl
  have A54 : Am K C 24 "vanishing" "Many.vanishing" s_Many_vanishing ["self"] := am_mk (C := C) (c := 24) a54 l54 c54 b54 fun _ _ _ _ _ _ us hl => match us, hl with | [_], _ => rfl
  have A55 : Am K C 27 "always" "Drawing.always" s_Drawing_always ["self", "sentence"] := am_mk (C := C) (c := 27) a55 l55 c55 b55 fun _ _ _ _ _ _ us hl => match us, hl with | [_, _], _ => rfl
  have A56 : At K mg "checked" s_checked ["p"] := at_mk X G a56 l56 c56 k56 fun _ _ _ _ _ _ us hl => match us, hl with | [_], _ => rfl
  have A57 : Am K C 24 "names" "Many.names" s_Many_names ["self"] := am_mk (C := C) (c := 24) a57 l57 c57 b57 fun _ _ _ _ _ _ us hl => match us, hl with | [_], _ => rfl
  have A58 : Am K C 24 "put" "Many.put" s_Many_put ["self", "values"] := am_mk (C := C) (c := 24) a58 l58 c58 b58 fun _ _ _ _ _ _ us hl => match us, hl with | [_, _], _ => rfl
  have A59 : AmK K C 24 "value" "Many.value" s_Many_value ["self", "values", "p"] "p" := amK_mk (C := C) (c := 24) (n := 2) rfl a59 l59 c59 b59 (fun _ _ _ _ _ _ us ws l1 l2 => match us, l1, ws, l2 with | [_, _], _, [_], _ => rfl)
  have A60 : Am K C 27 "allowed" "Drawing.allowed" s_Drawing_allowed ["self", "choice", "p"] := am_mk (C := C) (c := 27) a60 l60 c60 b60 fun _ _ _ _ _ _ us hl => match us, hl with | [_, _, _], _ => rfl
  have A61 : AmK K C 27 "holds" "Drawing.holds" s_Drawing_holds ["self", "sentence", "choice", "p"] "p" := amK_mk (C := C) (c := 27) (n := 3) rfl a61 l61 c61 b61 (fun _ _ _ _ _ _ us ws l1 l2 => match us, l1, ws, l2 with | [_, _, _], _, [_], _ => rfl)
  have A62 : At K mg "rows_of" s_rows_of__0 ["most", "length"] := at_mk X G a62 l62 c62 k62 fun _ _ _ _ _ _ us hl => match us, hl with | [_, _], _ => rfl
  have A63 : At K mg "rows_of" s_rows_of__1 ["most", "length"] := at_mk X G a63 l63 c63 k63 fun _ _ _ _ _ _ us hl => match us, hl with | [_, _], _ => rfl
  have A64 : At K mg "rows_of" s_rows_of__2 ["most", "length"] := at_mk X G a64 l64 c64 k64 fun _ _ _ _ _ _ us hl => match us, hl with | [_, _], _ => rfl
  have A65 : At K mg "rows_of" s_rows_of__3 ["most", "length"] := at_mk X G a65 l65 c65 k65 fun _ _ _ _ _ _ us hl => match us, hl with | [_, _], _ => rfl
  have A66 : At K mg "rows_of" s_rows_of__4 ["most", "length"] := at_mk X G a66 l66 c66 k66 fun _ _ _ _ _ _ us hl => match us, hl with | [_, _], _ => rfl
  have A67 : At K mg "rows_of" s_rows_of__5 ["most", "length"] := at_mk X G a67 l67 c67 k67 fun _ _ _ _ _ _ us hl => match us, hl with | [_, _], _ => rfl
  have A68 : AmK2 K C 27 "breaking" "Drawing.breaking" s_Drawing_breaking ["self", "sentence", "p", "most"] "p" "most" (.int 3) := amK2_mk (C := C) (c := 27) (n := 2) rfl a68 l68 c68 b68 n68 ⟨_, rfl⟩ (fun _ _ _ _ _ _ us ws l1 l2 => match us, l1, ws, l2 with | [_, _], _, [_, _], _ => rfl) (fun _ _ _ _ _ _ us ws _ l1 l2 => match us, l1, ws, l2 with | [_, _], _, [_], _ => ⟨_, _, _, _, _, _, rfl, rfl, rfl⟩)
  have A69 : At K mg "_law_asked" s__law_asked ["_law_which", "_law_drawing", "_law_sentence_here", "_law_choice", "_law_sides"] := at_mk X G a69 l69 c69 k69 fun _ _ _ _ _ _ us hl => match us, hl with | [_, _, _, _, _], _ => rfl
  have h_len : mg "len" = none := PySem.W.mg_none_of X G z0
  have h_int : mg "int" = none := PySem.W.mg_none_of X G z1
  have h_range : mg "range" = none := PySem.W.mg_none_of X G z2
  have h_str : mg "str" = none := PySem.W.mg_none_of X G z3
  have h_sorted : mg "sorted" = none := PySem.W.mg_none_of X G z4
  have h_list : mg "list" = none := PySem.W.mg_none_of X G z5
  have h_max : mg "max" = none := PySem.W.mg_none_of X G z6
  have h_abs : mg "abs" = none := PySem.W.mg_none_of X G z7
  have h_all : mg "all" = none := PySem.W.mg_none_of X G z8
  have h_tuple : mg "tuple" = none := PySem.W.mg_none_of X G z9
  have h_zip : mg "zip" = none := PySem.W.mg_none_of X G z10
  have h_enumerate : mg "enumerate" = none := PySem.W.mg_none_of X G z11
  have h_set : mg "set" = none := PySem.W.mg_none_of X G z12
  have h_dict : mg "dict" = none := PySem.W.mg_none_of X G z13
  have g_MOST_LETTERS : mg "MOST_LETTERS" = some (.int 8 t_MOST_LETTERS) := PySem.W.mg_of X G gg_MOST_LETTERS
  have g_LETTERS : mg "LETTERS" = some (.str "abcdefghijklmnopqrstuvwxyzABCDEFGHIJKLMNOPQRSTUVWXYZ" t_LETTERS) := PySem.W.mg_of X G gg_LETTERS
  have g_MOST_DIGITS_matrices : mg "MOST_DIGITS_matrices" = some (.int 30 t_MOST_DIGITS_matrices) := PySem.W.mg_of X G gg_MOST_DIGITS_matrices
  have g_MOST_ITEM : mg "MOST_ITEM" = some (.int 1000 t_MOST_ITEM) := PySem.W.mg_of X G gg_MOST_ITEM
  have g_SAME : mg "SAME" = some (.str "same" t_SAME) := PySem.W.mg_of X G gg_SAME
  have g_POINT : mg "POINT" = some (.str "point" t_POINT) := PySem.W.mg_of X G gg_POINT
  have gs_SHAPES : GTab ⟨K, C⟩ mg w "SHAPES" (shT [("point", some "point", ["number", "number", "number"]), ("free", some "point", []), ("join", some "line", ["point", "point"]), ("meet", some "point", ["line", "line"]), ("on", some "point", ["point", "point"])]) := gtab_ok (Z := ⟨K, C⟩) (PySem.W.mg_of X G ga_SHAPES) gl_SHAPES gk_SHAPES gm_SHAPES gx_SHAPES
  have gs_SENTENCES : GTab ⟨K, C⟩ mg w "SENTENCES" (shT [("line", none, ["point", "point", "point"]), ("through", none, ["line", "line", "line"]), ("on", none, ["point", "line"])]) := gtab_ok (Z := ⟨K, C⟩) (PySem.W.mg_of X G ga_SENTENCES) gl_SENTENCES gk_SENTENCES gm_SENTENCES gx_SENTENCES
  refine ⟨PySem.W.fnOf "law" "law" (defArgs s_law) (defBody s_law) (defScope s_law) .none kV70 dc70 pm70 an70 cd70 ct70, fun s v => .of_eq rfl, fun base _ _ => ?_⟩
  have E_BadNumber : Err P w K mg base C 0 "BadNumber" ["self", "n"] (spE1 K (C 0) "n") := ⟨fE0, _, O0, eI0, F0.tI, dE_BadNumber (supF_mk eL0 eC0 eD0 eV0 eF0 eE0) U0 (F0.no _ (by simp)), B0, G0⟩
  have E_BadCharacteristic : Err P w K mg base C 1 "BadCharacteristic" ["self", "p"] (spE1 K (C 1) "p") := ⟨fE1, _, O1, eI1, F1.tI, dE_BadCharacteristic (supF_mk eL1 eC1 eD1 eV1 eF1 eE1) U1 (F1.no _ (by simp)), B1, G1⟩
  have E_BadText : Err P w K mg base C 2 "BadText" ["self", "at"] (spE1 K (C 2) "at") := ⟨fE2, _, O2, eI2, F2.tI, dE_BadText (supF_mk eL2 eC2 eD2 eV2 eF2 eE2) U2 (F2.no _ (by simp)), B2, G2⟩
  have E_BadStep : Err P w K mg base C 8 "BadStep" ["self", "at"] (spE1 K (C 8) "at") := ⟨fE8, _, O8, eI8, F8.tI, dE_BadStep (supF_mk eL8 eC8 eD8 eV8 eF8 eE8) U8 (F8.no _ (by simp)), B8, G8⟩
  have E_UnknownName : Err P w K mg base C 9 "UnknownName" ["self", "name"] (spE1 K (C 9) "name") := ⟨fE9, _, O9, eI9, F9.tI, dE_UnknownName (supF_mk eL9 eC9 eD9 eV9 eF9 eE9) U9 (F9.no _ (by simp)), B9, G9⟩
  have D__law_cell : Df P w K mg base C "_law_cell" 1 ["_law_script", "_law_k"] [] m__law_cell := d__law_cell A0 h_len
  have D__law_pool : Df P w K mg base C "_law_pool" 1 ["_law_cell_here"] [] m__law_pool := d__law_pool A1 
  have D__law_take : Df P w K mg base C "_law_take" 1 ["_law_pool_here", "_law_limit"] [0] m__law_take := d__law_take A2 h_int
  have D__law_picked_l : Df P w K mg base C "_law_picked" 2 ["_law_world_here", "_law_pool_here", "_law_fewer"] [0, 1] m__law_picked_l := d__law_picked_l A3 h_len h_range h_str h_int D__law_take
  have D__law_gathered : Df P w K mg base C "_law_gathered" 1 ["_law_terms"] [] m__law_gathered := d__law_gathered A4 h_sorted h_list
  have D__law_number_triple : Df P w K mg base C "_law_number_triple" 2 ["_law_numbers"] [] m__law_number_triple := d__law_number_triple A5 D__law_gathered
  have D__law_plain : Df P w K mg base C "_law_plain" 1 ["_law_row"] [] m__law_plain := d__law_plain A6 
  have D__law_times : Df P w K mg base C "_law_times" 2 ["_law_first", "_law_second", "_law_factor"] [] m__law_times := d__law_times A7 D__law_plain
  have D__law_cross : Df P w K mg base C "_law_cross" 3 ["_law_one", "_law_two"] [] m__law_cross := d__law_cross A8 D__law_times D__law_gathered
  have D__law_made_row_l : Df P w K mg base C "_law_made_row" 4 ["_law_world_here", "_law_words"] [0] m__law_made_row_l := d__law_made_row_l A9 h_int h_range D__law_number_triple D__law_gathered D__law_cross D__law_times
  have D__law_largest : Df P w K mg base C "_law_largest" 1 ["_law_triple"] [] m__law_largest := d__law_largest A10 h_max h_abs
  have D__law_put : Df P w K mg base C "_law_put" 5 ["_law_world_here", "_law_words"] [0] m__law_put := d__law_put A11 h_int D__law_made_row_l
  have D__law_added : Df P w K mg base C "_law_added" 6 ["_law_world_here", "_law_pool_here", "_law_fewer"] [0, 1] m__law_added := d__law_added A12 h_len h_str D__law_take D__law_picked_l D__law_made_row_l D__law_largest D__law_put
  have D__law_world : Df P w K mg base C "_law_world" 7 ["_law_pool_here", "_law_many", "_law_fewer"] [0] m__law_world := d__law_world A13 h_range D__law_added
  have D_is_name : Df P w K mg base C "is_name" 1 ["word"] [] m_is_name := d_is_name A14 h_len h_all g_MOST_LETTERS g_LETTERS
  have D_is_integer : Df P w K mg base C "is_integer" 1 ["word"] [] m_is_integer := d_is_integer A15 h_len h_all g_MOST_DIGITS_matrices
  have D_is_item : Df P w K mg base C "is_item" 2 ["word"] [] m_is_item := d_is_item A16 h_abs h_int g_MOST_ITEM D_is_integer
  have D_Drawing_fits : Dm P w K mg base C 27 "fits" 3 ["self", "word", "kind"] [] m_Drawing_fits := d_Drawing_fits A17 K_Drawing D_is_item
  have D_gathered : Df P w K mg base C "gathered" 1 ["terms"] [] m_gathered := d_gathered A18 
  have D_Many___init__ : Dm P w K mg base C 24 "__init__" 2 ["self", "terms"] [0] m_Many___init__ := d_Many___init__ A19 K_Many D_gathered
  have D_Many_number : Dc P w K mg base C 24 "number" 4 ["cls", "n"] m_Many_number := d_Many_number A20 K_Many D_Many___init__
  have D_Many_unknown : Dc P w K mg base C 24 "unknown" 4 ["cls", "name"] m_Many_unknown := d_Many_unknown A21 K_Many D_Many___init__
  have D_Drawing_new_unknown : Dm P w K mg base C 27 "new_unknown" 5 ["self", "name"] [0] m_Drawing_new_unknown := d_Drawing_new_unknown A22 K_Drawing K_Many D_Many_unknown
  have D_product_terms : Df P w K mg base C "product_terms" 1 ["first", "second"] [] m_product_terms := d_product_terms A23 h_tuple h_sorted
  have D_Many___mul__ : Dm P w K mg base C 24 "__mul__" 4 ["self", "other"] [] m_Many___mul__ := d_Many___mul__ A24 K_Many D_product_terms D_Many___init__
  have D_Many___neg__ : Dm P w K mg base C 24 "__neg__" 4 ["self"] [] m_Many___neg__ := d_Many___neg__ A25 K_Many D_Many___init__
  have D_Many___add__ : Dm P w K mg base C 24 "__add__" 4 ["self", "other"] [] m_Many___add__ := d_Many___add__ A26 h_list K_Many D_Many___init__
  have D_Many___sub__ : Dm P w K mg base C 24 "__sub__" 5 ["self", "other"] [] m_Many___sub__ := d_Many___sub__ A27 K_Many D_Many___neg__ D_Many___add__
  have D_cross : Df P w K mg base C "cross" 6 ["first", "second"] [] m_cross := d_cross A28 K_Many D_Many___mul__ D_Many___sub__
  have D_Drawing_triple_made : Dm P w K mg base C 27 "triple_made" 7 ["self", "deed", "name", "rest"] [0] m_Drawing_triple_made := d_Drawing_triple_made A29 h_tuple h_int h_zip K_Many K_Drawing X_24_o_27 D_Many_number D_Drawing_new_unknown D_cross D_Many___mul__ D_Many___add__
  have D_Drawing_add : Dm P w K mg base C 27 "add" 8 ["self", "at", "words"] [0] m_Drawing_add := d_Drawing_add A30 h_len h_all h_zip gs_SHAPES K_Drawing D_is_name D_Drawing_fits D_Drawing_triple_made E_BadStep
  have D_Drawing___init__ : Dm P w K mg base C 27 "__init__" 9 ["self", "text"] [0] m_Drawing___init__ := d_Drawing___init__ A31 h_enumerate K_Drawing D_Drawing_add
  have D__law_dot : Df P w K mg base C "_law_dot" 3 ["_law_one", "_law_two"] [] m__law_dot := d__law_dot A32 h_range D__law_times D__law_gathered
  have D__law_sentence : Df P w K mg base C "_law_sentence" 4 ["_law_world_here", "_law_pool_here"] [1] m__law_sentence := d__law_sentence A33 h_len h_range h_int D__law_take D__law_dot D__law_cross
  have D__law_changed : Df P w K mg base C "_law_changed" 2 ["_law_pool_here", "_law_words", "_law_names"] [0] m__law_changed := d__law_changed A34 h_len D__law_take
  have D__law_fault : Df P w K mg base C "_law_fault" 1 ["_law_world_here", "_law_words"] [] m__law_fault := d__law_fault A35 h_len h_range
  have D_is_prime : Df P w K mg base C "is_prime" 1 ["n"] [] m_is_prime := d_is_prime A36 
  have D_Chars___init__ : Dm P w K mg base C 20 "__init__" 3 ["self", "endless", "primes"] [0] m_Chars___init__ := d_Chars___init__ A37 h_tuple h_sorted h_set K_Chars D_is_prime E_BadCharacteristic
  have D_Chars_every : Dc P w K mg base C 20 "every" 5 ["cls"] m_Chars_every := d_Chars_every A38 K_Chars D_Chars___init__
  have D_common : Df P w K mg base C "common" 1 ["a", "b"] [] m_common := d_common A39 h_abs
  have D_Many_content : Dm P w K mg base C 24 "content" 2 ["self"] [] m_Many_content := d_Many_content A40 K_Many D_common
  have D_content_of : Df P w K mg base C "content_of" 3 ["triple"] [] m_content_of := d_content_of A41 K_Many D_Many_content D_common
  have D_prime_divisors : Df P w K mg base C "prime_divisors" 3 ["n"] [] m_prime_divisors := d_prime_divisors A42 h_abs E_BadNumber
  have D_Chars_zero_of : Dc P w K mg base C 20 "zero_of" 5 ["cls", "n"] m_Chars_zero_of := d_Chars_zero_of A43 K_Chars D_Chars___init__ D_prime_divisors
  have D_Chars___invert__ : Dm P w K mg base C 20 "__invert__" 5 ["self"] [] m_Chars___invert__ := d_Chars___invert__ A44 K_Chars D_Chars___init__
  have D_Chars_unit_of : Dc P w K mg base C 20 "unit_of" 6 ["cls", "n"] m_Chars_unit_of := d_Chars_unit_of A45 D_Chars_zero_of D_Chars___invert__
  have D_shared : Df P w K mg base C "shared" 1 ["first", "second"] [] m_shared := d_shared A46 K_Chars
  have D_Chars___and__ : Dm P w K mg base C 20 "__and__" 5 ["self", "other"] [] m_Chars___and__ := d_Chars___and__ A47 K_Chars D_shared D_Chars___init__
  have D_Drawing_possible : Dm P w K mg base C 27 "possible" 7 ["self"] [] m_Drawing_possible := d_Drawing_possible A48 K_Chars K_Drawing D_Chars_every D_content_of D_Chars_unit_of D_Chars___and__
  have D_Drawing_wanted : Dm P w K mg base C 27 "wanted" 3 ["self", "words"] [] m_Drawing_wanted := d_Drawing_wanted A49 h_len g_SAME g_POINT gs_SENTENCES K_Drawing E_BadText
  have D_Drawing_understood : Dm P w K mg base C 27 "understood" 4 ["self", "sentence"] [] m_Drawing_understood := d_Drawing_understood A50 h_enumerate h_len K_Drawing D_Drawing_wanted D_Drawing_fits E_BadText
  have D_dot : Df P w K mg base C "dot" 5 ["first", "second"] [] m_dot := d_dot A51 K_Many D_Many___mul__ D_Many___add__
  have D_volume : Df P w K mg base C "volume" 7 ["first", "second", "third"] [] m_volume := d_volume A52 D_cross D_dot
  have D_Drawing_conditions : Dm P w K mg base C 27 "conditions" 8 ["self", "sentence"] [] m_Drawing_conditions := d_Drawing_conditions A53 h_list g_SAME K_Drawing D_Drawing_understood D_cross D_dot D_volume
  have D_Many_vanishing : Dm P w K mg base C 24 "vanishing" 6 ["self"] [] m_Many_vanishing := d_Many_vanishing A54 K_Many K_Chars D_Many_content D_Chars_zero_of
  have D_Drawing_always : Dm P w K mg base C 27 "always" 9 ["self", "sentence"] [] m_Drawing_always := d_Drawing_always A55 K_Drawing K_Many K_Chars D_Drawing_possible D_Drawing_conditions D_Many_vanishing D_Chars___and__
  have D_checked : Df P w K mg base C "checked" 3 ["p"] [] m_checked := d_checked A56 D_is_prime E_BadCharacteristic
  have D_Many_names : Dm P w K mg base C 24 "names" 1 ["self"] [] m_Many_names := d_Many_names A57 h_sorted K_Many
  have D_Many_put : Dm P w K mg base C 24 "put" 4 ["self", "values"] [] m_Many_put := d_Many_put A58 h_tuple K_Many D_Many___init__
  have D_Many_value : DmK P w K mg base C 24 "value" 5 ["self", "values", "p"] "p" [] m_Many_value := d_Many_value A59 K_Many D_checked D_Many_names D_Many_put E_UnknownName
  have D_Drawing_allowed : Dm P w K mg base C 27 "allowed" 6 ["self", "choice", "p"] [] m_Drawing_allowed := d_Drawing_allowed A60 h_all K_Many K_Drawing D_Many_value
  have D_Drawing_holds : DmK P w K mg base C 27 "holds" 9 ["self", "sentence", "choice", "p"] "p" [] m_Drawing_holds := d_Drawing_holds A61 h_all K_Drawing K_Many D_checked D_Drawing_conditions D_Drawing_allowed D_Many_value E_UnknownName
  have D_rows_of__0 : Dg2 P w K mg base C "rows_of" 1 ["most", "length"] m_rows_of__0 := d_rows_of__0 A62 
  have D_rows_of__1 : Dg2 P w K mg base C "rows_of" 3 ["most", "length"] m_rows_of__1 := d_rows_of__1 A63 h_range D_rows_of__0
  have D_rows_of__2 : Dg2 P w K mg base C "rows_of" 5 ["most", "length"] m_rows_of__2 := d_rows_of__2 A64 h_range D_rows_of__1
  have D_rows_of__3 : Dg2 P w K mg base C "rows_of" 7 ["most", "length"] m_rows_of__3 := d_rows_of__3 A65 h_range D_rows_of__2
  have D_rows_of__4 : Dg2 P w K mg base C "rows_of" 9 ["most", "length"] m_rows_of__4 := d_rows_of__4 A66 h_range D_rows_of__3
  have D_rows_of__5 : Dg2 P w K mg base C "rows_of" 11 ["most", "length"] m_rows_of__5 := d_rows_of__5 A67 h_range D_rows_of__4
  have D_Drawing_breaking : DmK2 P w K mg base C 27 "breaking" 13 ["self", "sentence", "p", "most"] "p" "most" (.int 3) m_Drawing_breaking := d_Drawing_breaking A68 h_len h_dict h_zip K_Drawing D_checked D_Drawing_conditions D_rows_of__5 D_Drawing_holds
  have D__law_asked : Df P w K mg base C "_law_asked" 14 ["_law_which", "_law_drawing", "_law_sentence_here", "_law_choice", "_law_sides"] [] m__law_asked := d__law_asked A69 K_Drawing D_Drawing_always D_Drawing_holds D_Drawing_breaking Q_BadCharacteristic Q_UnknownName Q_BadText
  exact law_imp (C := C) (d_law (fun_mk (st := s_law) l70 c70 k70) h_dict h_list h_range h_int K_Drawing D__law_cell D__law_pool D__law_take D__law_world D_Drawing___init__ D__law_sentence D__law_changed D__law_fault D__law_asked)
end
def hG0_0 : List (PySem.W.Frag → Bool) := [fun K => nsH K "BadNumber",
  fun K => excH K (He.ga K "BadNumber"),
  fun K => mtH K (He.ga K "BadNumber") "__init__",
  fun K => errB K (He.ga K "BadNumber") (He.ma K (He.ga K "BadNumber") "__init__") ["n"],
  fun K => ksH K (He.ma K (He.ga K "BadNumber") "__init__") (He.ga K "BadNumber") "BadNumber.__init__" (PySem.Challenge.rw_everyfield_k82_sentences_that_are_none).prog.main.file,
  fun K => nsH K "BadCharacteristic",
  fun K => excH K (He.ga K "BadCharacteristic"),
  fun K => mtH K (He.ga K "BadCharacteristic") "__init__",
  fun K => errB K (He.ga K "BadCharacteristic") (He.ma K (He.ga K "BadCharacteristic") "__init__") ["p"],
  fun K => ksH K (He.ma K (He.ga K "BadCharacteristic") "__init__") (He.ga K "BadCharacteristic") "BadCharacteristic.__init__" (PySem.Challenge.rw_everyfield_k82_sentences_that_are_none).prog.main.file,
  fun K => nsH K "BadText",
  fun K => excH K (He.ga K "BadText"),
  fun K => mtH K (He.ga K "BadText") "__init__",
  fun K => errB K (He.ga K "BadText") (He.ma K (He.ga K "BadText") "__init__") ["at"],
  fun K => ksH K (He.ma K (He.ga K "BadText") "__init__") (He.ga K "BadText") "BadText.__init__" (PySem.Challenge.rw_everyfield_k82_sentences_that_are_none).prog.main.file,
  fun K => nsH K "BadStep",
  fun K => excH K (He.ga K "BadStep"),
  fun K => mtH K (He.ga K "BadStep") "__init__",
  fun K => errB K (He.ga K "BadStep") (He.ma K (He.ga K "BadStep") "__init__") ["at"],
  fun K => ksH K (He.ma K (He.ga K "BadStep") "__init__") (He.ga K "BadStep") "BadStep.__init__" (PySem.Challenge.rw_everyfield_k82_sentences_that_are_none).prog.main.file,
  fun K => nsH K "UnknownName",
  fun K => excH K (He.ga K "UnknownName"),
  fun K => mtH K (He.ga K "UnknownName") "__init__",
  fun K => errB K (He.ga K "UnknownName") (He.ma K (He.ga K "UnknownName") "__init__") ["name"],
  fun K => ksH K (He.ma K (He.ga K "UnknownName") "__init__") (He.ga K "UnknownName") "UnknownName.__init__" (PySem.Challenge.rw_everyfield_k82_sentences_that_are_none).prog.main.file,
  fun K => nsH K "Chars",
  fun K => clsB K (He.ga K "Chars") ["endless", "primes"],
  fun K => crB K (He.ga K "Chars"),
  fun K => nsH K "Many",
  fun K => clsB K (He.ga K "Many") ["terms"]]
def hG0_1 : List (PySem.W.Frag → Bool) := [fun K => crB K (He.ga K "Many"),
  fun K => nsH K "Drawing",
  fun K => clsB K (He.ga K "Drawing") ["kinds", "triples", "open_names"],
  fun K => frH K mainGlobals "super",
  fun K => frH K cStatics "thirdparty.any",
  fun K => exmB K [(He.ga K "BadNumber"), (He.ga K "BadCharacteristic"), (He.ga K "BadText"), 0, 0, 0, 0, 0, (He.ga K "BadStep"), (He.ga K "UnknownName"), 0, 0, 0, 0, 0, 0, 0, 0, 0, 0, (He.ga K "Chars"), 0, 0, 0, (He.ga K "Many"), 0, 0, (He.ga K "Drawing")] [0, 1, 2, 8, 9] 1,
  fun K => exmB K [(He.ga K "BadNumber"), (He.ga K "BadCharacteristic"), (He.ga K "BadText"), 0, 0, 0, 0, 0, (He.ga K "BadStep"), (He.ga K "UnknownName"), 0, 0, 0, 0, 0, 0, 0, 0, 0, 0, (He.ga K "Chars"), 0, 0, 0, (He.ga K "Many"), 0, 0, (He.ga K "Drawing")] [0, 1, 2, 8, 9] 2,
  fun K => exmB K [(He.ga K "BadNumber"), (He.ga K "BadCharacteristic"), (He.ga K "BadText"), 0, 0, 0, 0, 0, (He.ga K "BadStep"), (He.ga K "UnknownName"), 0, 0, 0, 0, 0, 0, 0, 0, 0, 0, (He.ga K "Chars"), 0, 0, 0, (He.ga K "Many"), 0, 0, (He.ga K "Drawing")] [0, 1, 2, 8, 9] 9,
  fun K => apartB [(He.ga K "BadNumber"), (He.ga K "BadCharacteristic"), (He.ga K "BadText"), 0, 0, 0, 0, 0, (He.ga K "BadStep"), (He.ga K "UnknownName"), 0, 0, 0, 0, 0, 0, 0, 0, 0, 0, (He.ga K "Chars"), 0, 0, 0, (He.ga K "Many"), 0, 0, (He.ga K "Drawing")] [24] [27],
  fun K => nsH K "_law_cell",
  fun K => plH K (He.ga K "_law_cell") "_law_cell",
  fun K => PySem.W.keepIn K (.ref (He.ga K "_law_cell")),
  fun K => nsH K "_law_pool",
  fun K => plH K (He.ga K "_law_pool") "_law_pool",
  fun K => PySem.W.keepIn K (.ref (He.ga K "_law_pool")),
  fun K => nsH K "_law_take",
  fun K => plH K (He.ga K "_law_take") "_law_take",
  fun K => PySem.W.keepIn K (.ref (He.ga K "_law_take")),
  fun K => nsH K "_law_picked",
  fun K => plH K (He.ga K "_law_picked") "_law_picked",
  fun K => PySem.W.keepIn K (.ref (He.ga K "_law_picked")),
  fun K => nsH K "_law_gathered",
  fun K => plH K (He.ga K "_law_gathered") "_law_gathered",
  fun K => PySem.W.keepIn K (.ref (He.ga K "_law_gathered")),
  fun K => nsH K "_law_number_triple",
  fun K => plH K (He.ga K "_law_number_triple") "_law_number_triple",
  fun K => PySem.W.keepIn K (.ref (He.ga K "_law_number_triple")),
  fun K => nsH K "_law_plain",
  fun K => plH K (He.ga K "_law_plain") "_law_plain",
  fun K => PySem.W.keepIn K (.ref (He.ga K "_law_plain"))]
def hG0_2 : List (PySem.W.Frag → Bool) := [fun K => nsH K "_law_times",
  fun K => plH K (He.ga K "_law_times") "_law_times",
  fun K => PySem.W.keepIn K (.ref (He.ga K "_law_times")),
  fun K => nsH K "_law_cross",
  fun K => plH K (He.ga K "_law_cross") "_law_cross",
  fun K => PySem.W.keepIn K (.ref (He.ga K "_law_cross")),
  fun K => nsH K "_law_made_row",
  fun K => plH K (He.ga K "_law_made_row") "_law_made_row",
  fun K => PySem.W.keepIn K (.ref (He.ga K "_law_made_row")),
  fun K => nsH K "_law_largest",
  fun K => plH K (He.ga K "_law_largest") "_law_largest",
  fun K => PySem.W.keepIn K (.ref (He.ga K "_law_largest")),
  fun K => nsH K "_law_put",
  fun K => plH K (He.ga K "_law_put") "_law_put",
  fun K => PySem.W.keepIn K (.ref (He.ga K "_law_put")),
  fun K => nsH K "_law_added",
  fun K => plH K (He.ga K "_law_added") "_law_added",
  fun K => PySem.W.keepIn K (.ref (He.ga K "_law_added")),
  fun K => nsH K "_law_world",
  fun K => plH K (He.ga K "_law_world") "_law_world"]
def hG0_ : List (PySem.W.Frag → Bool) := hG0_0 ++ (hG0_1 ++ (hG0_2))
def hG1_0 : List (PySem.W.Frag → Bool) := [fun K => PySem.W.keepIn K (.ref (He.ga K "_law_world")),
  fun K => nsH K "is_name",
  fun K => plH K (He.ga K "is_name") "is_name",
  fun K => PySem.W.keepIn K (.ref (He.ga K "is_name")),
  fun K => nsH K "is_integer",
  fun K => plH K (He.ga K "is_integer") "is_integer",
  fun K => PySem.W.keepIn K (.ref (He.ga K "is_integer")),
  fun K => nsH K "is_item",
  fun K => plH K (He.ga K "is_item") "is_item",
  fun K => PySem.W.keepIn K (.ref (He.ga K "is_item")),
  fun K => mtH K (He.ga K "Drawing") "fits",
  fun K => plH K (He.ma K (He.ga K "Drawing") "fits") "Drawing.fits",
  fun K => methB K (He.ma K (He.ga K "Drawing") "fits"),
  fun K => nsH K "gathered",
  fun K => plH K (He.ga K "gathered") "gathered",
  fun K => PySem.W.keepIn K (.ref (He.ga K "gathered")),
  fun K => mtH K (He.ga K "Many") "__init__",
  fun K => plH K (He.ma K (He.ga K "Many") "__init__") "Many.__init__",
  fun K => methB K (He.ma K (He.ga K "Many") "__init__"),
  fun K => cmH K (He.ga K "Many") "number",
  fun K => plH K (cmA K (He.ga K "Many") "number") "Many.number",
  fun K => methB K (cmA K (He.ga K "Many") "number"),
  fun K => cmH K (He.ga K "Many") "unknown",
  fun K => plH K (cmA K (He.ga K "Many") "unknown") "Many.unknown",
  fun K => methB K (cmA K (He.ga K "Many") "unknown"),
  fun K => mtH K (He.ga K "Drawing") "new_unknown",
  fun K => plH K (He.ma K (He.ga K "Drawing") "new_unknown") "Drawing.new_unknown",
  fun K => methB K (He.ma K (He.ga K "Drawing") "new_unknown"),
  fun K => nsH K "product_terms",
  fun K => plH K (He.ga K "product_terms") "product_terms"]
def hG1_1 : List (PySem.W.Frag → Bool) := [fun K => PySem.W.keepIn K (.ref (He.ga K "product_terms")),
  fun K => mtH K (He.ga K "Many") "__mul__",
  fun K => plH K (He.ma K (He.ga K "Many") "__mul__") "Many.__mul__",
  fun K => methB K (He.ma K (He.ga K "Many") "__mul__"),
  fun K => mtH K (He.ga K "Many") "__neg__",
  fun K => plH K (He.ma K (He.ga K "Many") "__neg__") "Many.__neg__",
  fun K => methB K (He.ma K (He.ga K "Many") "__neg__"),
  fun K => mtH K (He.ga K "Many") "__add__",
  fun K => plH K (He.ma K (He.ga K "Many") "__add__") "Many.__add__",
  fun K => methB K (He.ma K (He.ga K "Many") "__add__"),
  fun K => mtH K (He.ga K "Many") "__sub__",
  fun K => plH K (He.ma K (He.ga K "Many") "__sub__") "Many.__sub__",
  fun K => methB K (He.ma K (He.ga K "Many") "__sub__"),
  fun K => nsH K "cross",
  fun K => plH K (He.ga K "cross") "cross",
  fun K => PySem.W.keepIn K (.ref (He.ga K "cross")),
  fun K => mtH K (He.ga K "Drawing") "triple_made",
  fun K => plH K (He.ma K (He.ga K "Drawing") "triple_made") "Drawing.triple_made",
  fun K => methB K (He.ma K (He.ga K "Drawing") "triple_made"),
  fun K => mtH K (He.ga K "Drawing") "add",
  fun K => plH K (He.ma K (He.ga K "Drawing") "add") "Drawing.add",
  fun K => methB K (He.ma K (He.ga K "Drawing") "add"),
  fun K => mtH K (He.ga K "Drawing") "__init__",
  fun K => plH K (He.ma K (He.ga K "Drawing") "__init__") "Drawing.__init__",
  fun K => methB K (He.ma K (He.ga K "Drawing") "__init__"),
  fun K => nsH K "_law_dot",
  fun K => plH K (He.ga K "_law_dot") "_law_dot",
  fun K => PySem.W.keepIn K (.ref (He.ga K "_law_dot")),
  fun K => nsH K "_law_sentence",
  fun K => plH K (He.ga K "_law_sentence") "_law_sentence"]
def hG1_2 : List (PySem.W.Frag → Bool) := [fun K => PySem.W.keepIn K (.ref (He.ga K "_law_sentence")),
  fun K => nsH K "_law_changed",
  fun K => plH K (He.ga K "_law_changed") "_law_changed",
  fun K => PySem.W.keepIn K (.ref (He.ga K "_law_changed")),
  fun K => nsH K "_law_fault",
  fun K => plH K (He.ga K "_law_fault") "_law_fault",
  fun K => PySem.W.keepIn K (.ref (He.ga K "_law_fault")),
  fun K => nsH K "is_prime",
  fun K => plH K (He.ga K "is_prime") "is_prime",
  fun K => PySem.W.keepIn K (.ref (He.ga K "is_prime")),
  fun K => mtH K (He.ga K "Chars") "__init__",
  fun K => plH K (He.ma K (He.ga K "Chars") "__init__") "Chars.__init__",
  fun K => methB K (He.ma K (He.ga K "Chars") "__init__"),
  fun K => cmH K (He.ga K "Chars") "every",
  fun K => plH K (cmA K (He.ga K "Chars") "every") "Chars.every",
  fun K => methB K (cmA K (He.ga K "Chars") "every"),
  fun K => nsH K "common",
  fun K => plH K (He.ga K "common") "common",
  fun K => PySem.W.keepIn K (.ref (He.ga K "common")),
  fun K => mtH K (He.ga K "Many") "content"]
def hG1_ : List (PySem.W.Frag → Bool) := hG1_0 ++ (hG1_1 ++ (hG1_2))
def hG2_0 : List (PySem.W.Frag → Bool) := [fun K => plH K (He.ma K (He.ga K "Many") "content") "Many.content",
  fun K => methB K (He.ma K (He.ga K "Many") "content"),
  fun K => nsH K "content_of",
  fun K => plH K (He.ga K "content_of") "content_of",
  fun K => PySem.W.keepIn K (.ref (He.ga K "content_of")),
  fun K => nsH K "prime_divisors",
  fun K => plH K (He.ga K "prime_divisors") "prime_divisors",
  fun K => PySem.W.keepIn K (.ref (He.ga K "prime_divisors")),
  fun K => cmH K (He.ga K "Chars") "zero_of",
  fun K => plH K (cmA K (He.ga K "Chars") "zero_of") "Chars.zero_of",
  fun K => methB K (cmA K (He.ga K "Chars") "zero_of"),
  fun K => mtH K (He.ga K "Chars") "__invert__",
  fun K => plH K (He.ma K (He.ga K "Chars") "__invert__") "Chars.__invert__",
  fun K => methB K (He.ma K (He.ga K "Chars") "__invert__"),
  fun K => cmH K (He.ga K "Chars") "unit_of",
  fun K => plH K (cmA K (He.ga K "Chars") "unit_of") "Chars.unit_of",
  fun K => methB K (cmA K (He.ga K "Chars") "unit_of"),
  fun K => nsH K "shared",
  fun K => plH K (He.ga K "shared") "shared",
  fun K => PySem.W.keepIn K (.ref (He.ga K "shared")),
  fun K => mtH K (He.ga K "Chars") "__and__",
  fun K => plH K (He.ma K (He.ga K "Chars") "__and__") "Chars.__and__",
  fun K => methB K (He.ma K (He.ga K "Chars") "__and__"),
  fun K => mtH K (He.ga K "Drawing") "possible",
  fun K => plH K (He.ma K (He.ga K "Drawing") "possible") "Drawing.possible",
  fun K => methB K (He.ma K (He.ga K "Drawing") "possible"),
  fun K => mtH K (He.ga K "Drawing") "wanted",
  fun K => plH K (He.ma K (He.ga K "Drawing") "wanted") "Drawing.wanted",
  fun K => methB K (He.ma K (He.ga K "Drawing") "wanted"),
  fun K => mtH K (He.ga K "Drawing") "understood"]
def hG2_1 : List (PySem.W.Frag → Bool) := [fun K => plH K (He.ma K (He.ga K "Drawing") "understood") "Drawing.understood",
  fun K => methB K (He.ma K (He.ga K "Drawing") "understood"),
  fun K => nsH K "dot",
  fun K => plH K (He.ga K "dot") "dot",
  fun K => PySem.W.keepIn K (.ref (He.ga K "dot")),
  fun K => nsH K "volume",
  fun K => plH K (He.ga K "volume") "volume",
  fun K => PySem.W.keepIn K (.ref (He.ga K "volume")),
  fun K => mtH K (He.ga K "Drawing") "conditions",
  fun K => plH K (He.ma K (He.ga K "Drawing") "conditions") "Drawing.conditions",
  fun K => methB K (He.ma K (He.ga K "Drawing") "conditions"),
  fun K => mtH K (He.ga K "Many") "vanishing",
  fun K => plH K (He.ma K (He.ga K "Many") "vanishing") "Many.vanishing",
  fun K => methB K (He.ma K (He.ga K "Many") "vanishing"),
  fun K => mtH K (He.ga K "Drawing") "always",
  fun K => plH K (He.ma K (He.ga K "Drawing") "always") "Drawing.always",
  fun K => methB K (He.ma K (He.ga K "Drawing") "always"),
  fun K => nsH K "checked",
  fun K => plH K (He.ga K "checked") "checked",
  fun K => PySem.W.keepIn K (.ref (He.ga K "checked")),
  fun K => mtH K (He.ga K "Many") "names",
  fun K => plH K (He.ma K (He.ga K "Many") "names") "Many.names",
  fun K => methB K (He.ma K (He.ga K "Many") "names"),
  fun K => mtH K (He.ga K "Many") "put",
  fun K => plH K (He.ma K (He.ga K "Many") "put") "Many.put",
  fun K => methB K (He.ma K (He.ga K "Many") "put"),
  fun K => mtH K (He.ga K "Many") "value",
  fun K => plH K (He.ma K (He.ga K "Many") "value") "Many.value",
  fun K => methB K (He.ma K (He.ga K "Many") "value"),
  fun K => mtH K (He.ga K "Drawing") "allowed"]
def hG2_2 : List (PySem.W.Frag → Bool) := [fun K => plH K (He.ma K (He.ga K "Drawing") "allowed") "Drawing.allowed",
  fun K => methB K (He.ma K (He.ga K "Drawing") "allowed"),
  fun K => mtH K (He.ga K "Drawing") "holds",
  fun K => plH K (He.ma K (He.ga K "Drawing") "holds") "Drawing.holds",
  fun K => methB K (He.ma K (He.ga K "Drawing") "holds"),
  fun K => nsH K "rows_of",
  fun K => plH K (He.ga K "rows_of") "rows_of",
  fun K => PySem.W.keepIn K (.ref (He.ga K "rows_of")),
  fun K => mtH K (He.ga K "Drawing") "breaking",
  fun K => plH K (He.ma K (He.ga K "Drawing") "breaking") "Drawing.breaking",
  fun K => kdH K (He.ma K (He.ga K "Drawing") "breaking") "most" 3,
  fun K => methB K (He.ma K (He.ga K "Drawing") "breaking"),
  fun K => nsH K "_law_asked",
  fun K => plH K (He.ga K "_law_asked") "_law_asked",
  fun K => PySem.W.keepIn K (.ref (He.ga K "_law_asked")),
  fun K => nsH K "law",
  fun K => plH K (He.ga K "law") "law",
  fun K => PySem.W.keepIn K (.ref (He.ga K "law")),
  fun K => frH K mainGlobals "len",
  fun K => frH K mainGlobals "int"]
def hG2_ : List (PySem.W.Frag → Bool) := hG2_0 ++ (hG2_1 ++ (hG2_2))
def hG3_0 : List (PySem.W.Frag → Bool) := [fun K => frH K mainGlobals "range",
  fun K => frH K mainGlobals "str",
  fun K => frH K mainGlobals "sorted",
  fun K => frH K mainGlobals "list",
  fun K => frH K mainGlobals "max",
  fun K => frH K mainGlobals "abs",
  fun K => frH K mainGlobals "all",
  fun K => frH K mainGlobals "tuple",
  fun K => frH K mainGlobals "zip",
  fun K => frH K mainGlobals "enumerate",
  fun K => frH K mainGlobals "set",
  fun K => frH K mainGlobals "dict",
  fun K => giH K "MOST_LETTERS" 8,
  fun K => gsH K "LETTERS" "abcdefghijklmnopqrstuvwxyzABCDEFGHIJKLMNOPQRSTUVWXYZ",
  fun K => giH K "MOST_DIGITS_matrices" 30,
  fun K => giH K "MOST_ITEM" 1000,
  fun K => gsH K "SAME" "same",
  fun K => gsH K "POINT" "point",
  fun K => nsH K "SHAPES",
  fun K => esH K (He.ga K "SHAPES") (fun es => tabB K es [("point", some "point", ["number", "number", "number"]), ("free", some "point", []), ("join", some "line", ["point", "point"]), ("meet", some "point", ["line", "line"]), ("on", some "point", ["point", "point"])]),
  fun K => nsH K "SENTENCES",
  fun K => esH K (He.ga K "SENTENCES") (fun es => tabB K es [("line", none, ["point", "point", "point"]), ("through", none, ["line", "line", "line"]), ("on", none, ["point", "line"])])]
def hG3_ : List (PySem.W.Frag → Bool) := hG3_0
def hBs : List (PySem.W.Frag → Bool) := hG0_ ++ (hG1_ ++ (hG2_ ++ (hG3_)))
def hFn0 : List DefH := [⟨fun K => He.ma K (He.ga K "BadNumber") "__init__", "__init__", "BadNumber.__init__", si_BadNumber⟩,
  ⟨fun K => He.ma K (He.ga K "BadCharacteristic") "__init__", "__init__", "BadCharacteristic.__init__", si_BadCharacteristic⟩,
  ⟨fun K => He.ma K (He.ga K "BadText") "__init__", "__init__", "BadText.__init__", si_BadText⟩,
  ⟨fun K => He.ma K (He.ga K "BadStep") "__init__", "__init__", "BadStep.__init__", si_BadStep⟩,
  ⟨fun K => He.ma K (He.ga K "UnknownName") "__init__", "__init__", "UnknownName.__init__", si_UnknownName⟩,
  ⟨fun K => He.ga K "_law_cell", "_law_cell", "_law_cell", s__law_cell⟩,
  ⟨fun K => He.ga K "_law_pool", "_law_pool", "_law_pool", s__law_pool⟩,
  ⟨fun K => He.ga K "_law_take", "_law_take", "_law_take", s__law_take⟩,
  ⟨fun K => He.ga K "_law_picked", "_law_picked", "_law_picked", s__law_picked_l⟩,
  ⟨fun K => He.ga K "_law_gathered", "_law_gathered", "_law_gathered", s__law_gathered⟩,
  ⟨fun K => He.ga K "_law_number_triple", "_law_number_triple", "_law_number_triple", s__law_number_triple⟩,
  ⟨fun K => He.ga K "_law_plain", "_law_plain", "_law_plain", s__law_plain⟩,
  ⟨fun K => He.ga K "_law_times", "_law_times", "_law_times", s__law_times⟩,
  ⟨fun K => He.ga K "_law_cross", "_law_cross", "_law_cross", s__law_cross⟩,
  ⟨fun K => He.ga K "_law_made_row", "_law_made_row", "_law_made_row", s__law_made_row_l⟩,
  ⟨fun K => He.ga K "_law_largest", "_law_largest", "_law_largest", s__law_largest⟩,
  ⟨fun K => He.ga K "_law_put", "_law_put", "_law_put", s__law_put⟩,
  ⟨fun K => He.ga K "_law_added", "_law_added", "_law_added", s__law_added⟩,
  ⟨fun K => He.ga K "_law_world", "_law_world", "_law_world", s__law_world⟩,
  ⟨fun K => He.ga K "is_name", "is_name", "is_name", s_is_name⟩,
  ⟨fun K => He.ga K "is_integer", "is_integer", "is_integer", s_is_integer⟩,
  ⟨fun K => He.ga K "is_item", "is_item", "is_item", s_is_item⟩,
  ⟨fun K => He.ma K (He.ga K "Drawing") "fits", "fits", "Drawing.fits", s_Drawing_fits⟩,
  ⟨fun K => He.ga K "gathered", "gathered", "gathered", s_gathered⟩,
  ⟨fun K => He.ma K (He.ga K "Many") "__init__", "__init__", "Many.__init__", s_Many___init__⟩,
  ⟨fun K => cmA K (He.ga K "Many") "number", "number", "Many.number", s_Many_number⟩,
  ⟨fun K => cmA K (He.ga K "Many") "unknown", "unknown", "Many.unknown", s_Many_unknown⟩,
  ⟨fun K => He.ma K (He.ga K "Drawing") "new_unknown", "new_unknown", "Drawing.new_unknown", s_Drawing_new_unknown⟩,
  ⟨fun K => He.ga K "product_terms", "product_terms", "product_terms", s_product_terms⟩,
  ⟨fun K => He.ma K (He.ga K "Many") "__mul__", "__mul__", "Many.__mul__", s_Many___mul__⟩]
def hFn1 : List DefH := [⟨fun K => He.ma K (He.ga K "Many") "__neg__", "__neg__", "Many.__neg__", s_Many___neg__⟩,
  ⟨fun K => He.ma K (He.ga K "Many") "__add__", "__add__", "Many.__add__", s_Many___add__⟩,
  ⟨fun K => He.ma K (He.ga K "Many") "__sub__", "__sub__", "Many.__sub__", s_Many___sub__⟩,
  ⟨fun K => He.ga K "cross", "cross", "cross", s_cross⟩,
  ⟨fun K => He.ma K (He.ga K "Drawing") "triple_made", "triple_made", "Drawing.triple_made", s_Drawing_triple_made⟩,
  ⟨fun K => He.ma K (He.ga K "Drawing") "add", "add", "Drawing.add", s_Drawing_add⟩,
  ⟨fun K => He.ma K (He.ga K "Drawing") "__init__", "__init__", "Drawing.__init__", s_Drawing___init__⟩,
  ⟨fun K => He.ga K "_law_dot", "_law_dot", "_law_dot", s__law_dot⟩,
  ⟨fun K => He.ga K "_law_sentence", "_law_sentence", "_law_sentence", s__law_sentence⟩,
  ⟨fun K => He.ga K "_law_changed", "_law_changed", "_law_changed", s__law_changed⟩,
  ⟨fun K => He.ga K "_law_fault", "_law_fault", "_law_fault", s__law_fault⟩,
  ⟨fun K => He.ga K "is_prime", "is_prime", "is_prime", s_is_prime⟩,
  ⟨fun K => He.ma K (He.ga K "Chars") "__init__", "__init__", "Chars.__init__", s_Chars___init__⟩,
  ⟨fun K => cmA K (He.ga K "Chars") "every", "every", "Chars.every", s_Chars_every⟩,
  ⟨fun K => He.ga K "common", "common", "common", s_common⟩,
  ⟨fun K => He.ma K (He.ga K "Many") "content", "content", "Many.content", s_Many_content⟩,
  ⟨fun K => He.ga K "content_of", "content_of", "content_of", s_content_of⟩,
  ⟨fun K => He.ga K "prime_divisors", "prime_divisors", "prime_divisors", s_prime_divisors⟩,
  ⟨fun K => cmA K (He.ga K "Chars") "zero_of", "zero_of", "Chars.zero_of", s_Chars_zero_of⟩,
  ⟨fun K => He.ma K (He.ga K "Chars") "__invert__", "__invert__", "Chars.__invert__", s_Chars___invert__⟩,
  ⟨fun K => cmA K (He.ga K "Chars") "unit_of", "unit_of", "Chars.unit_of", s_Chars_unit_of⟩,
  ⟨fun K => He.ga K "shared", "shared", "shared", s_shared⟩,
  ⟨fun K => He.ma K (He.ga K "Chars") "__and__", "__and__", "Chars.__and__", s_Chars___and__⟩,
  ⟨fun K => He.ma K (He.ga K "Drawing") "possible", "possible", "Drawing.possible", s_Drawing_possible⟩,
  ⟨fun K => He.ma K (He.ga K "Drawing") "wanted", "wanted", "Drawing.wanted", s_Drawing_wanted⟩,
  ⟨fun K => He.ma K (He.ga K "Drawing") "understood", "understood", "Drawing.understood", s_Drawing_understood⟩,
  ⟨fun K => He.ga K "dot", "dot", "dot", s_dot⟩,
  ⟨fun K => He.ga K "volume", "volume", "volume", s_volume⟩,
  ⟨fun K => He.ma K (He.ga K "Drawing") "conditions", "conditions", "Drawing.conditions", s_Drawing_conditions⟩,
  ⟨fun K => He.ma K (He.ga K "Many") "vanishing", "vanishing", "Many.vanishing", s_Many_vanishing⟩]
def hFn2 : List DefH := [⟨fun K => He.ma K (He.ga K "Drawing") "always", "always", "Drawing.always", s_Drawing_always⟩,
  ⟨fun K => He.ga K "checked", "checked", "checked", s_checked⟩,
  ⟨fun K => He.ma K (He.ga K "Many") "names", "names", "Many.names", s_Many_names⟩,
  ⟨fun K => He.ma K (He.ga K "Many") "put", "put", "Many.put", s_Many_put⟩,
  ⟨fun K => He.ma K (He.ga K "Many") "value", "value", "Many.value", s_Many_value⟩,
  ⟨fun K => He.ma K (He.ga K "Drawing") "allowed", "allowed", "Drawing.allowed", s_Drawing_allowed⟩,
  ⟨fun K => He.ma K (He.ga K "Drawing") "holds", "holds", "Drawing.holds", s_Drawing_holds⟩,
  ⟨fun K => He.ga K "rows_of", "rows_of", "rows_of", s_rows_of__0⟩,
  ⟨fun K => He.ga K "rows_of", "rows_of", "rows_of", s_rows_of__1⟩,
  ⟨fun K => He.ga K "rows_of", "rows_of", "rows_of", s_rows_of__2⟩,
  ⟨fun K => He.ga K "rows_of", "rows_of", "rows_of", s_rows_of__3⟩,
  ⟨fun K => He.ga K "rows_of", "rows_of", "rows_of", s_rows_of__4⟩,
  ⟨fun K => He.ga K "rows_of", "rows_of", "rows_of", s_rows_of__5⟩,
  ⟨fun K => He.ma K (He.ga K "Drawing") "breaking", "breaking", "Drawing.breaking", s_Drawing_breaking⟩,
  ⟨fun K => He.ga K "_law_asked", "_law_asked", "_law_asked", s__law_asked⟩,
  ⟨fun K => He.ga K "law", "law", "law", s_law⟩]
def hFn : List DefH := hFn0 ++ (hFn1 ++ (hFn2))
def hTb : List (PySem.W.Frag → Addr) := [fun K => He.ga K "SHAPES", fun K => He.ga K "SENTENCES"]
def hKs : List (List Str) := [["point", "free", "join", "meet", "on"], ["line", "through", "on"]]
def hAd0 : List Nat := [6,
  4,
  21,
  31,
  53,
  74,
  95,
  116,
  137,
  146,
  153,
  160,
  167,
  172,
  326,
  335,
  340,
  453,
  464,
  469,
  476,
  483,
  490,
  491,
  502,
  510,
  517,
  524,
  637,
  648]
def hAd1 : List Nat := [655,
  662,
  669,
  674,
  679,
  686,
  693,
  700,
  705,
  712,
  717,
  724,
  729,
  736,
  743,
  748,
  753,
  758,
  765,
  772,
  779,
  784,
  783,
  778,
  771,
  764,
  757,
  752,
  747,
  742]
def hAd2 : List Nat := [735,
  728,
  723,
  716,
  711,
  704,
  699,
  692,
  685,
  678,
  673,
  668,
  661,
  654,
  647,
  636,
  523,
  516,
  509,
  503,
  504,
  505,
  493,
  495,
  497,
  499,
  501,
  489,
  482,
  475]
def hAd3 : List Nat := [468,
  463,
  452,
  339,
  334,
  325,
  171,
  166,
  159,
  152,
  145,
  136,
  115,
  94,
  73,
  52,
  30,
  20,
  0,
  15,
  16,
  17,
  18,
  19,
  29,
  32,
  50,
  51,
  71,
  72]
def hAd4 : List Nat := [92,
  93,
  113,
  114,
  134,
  135,
  140,
  141,
  142,
  143,
  144,
  147,
  148,
  149,
  150,
  151,
  154,
  155,
  156,
  157,
  158,
  161,
  162,
  163,
  164,
  165,
  168,
  169,
  170,
  186]
def hAd5 : List Nat := [195,
  205,
  215,
  225,
  235,
  245,
  253,
  261,
  268,
  275,
  282,
  289,
  296,
  303,
  308,
  315,
  323,
  324,
  327,
  328,
  331,
  332,
  333,
  336,
  337,
  338,
  354,
  363,
  373,
  381]
def hAd6 : List Nat := [386,
  393,
  400,
  407,
  412,
  417,
  424,
  431,
  438,
  443,
  450,
  451,
  454,
  455,
  458,
  459,
  460,
  461,
  462,
  465,
  466,
  467,
  470,
  471,
  472,
  473,
  474,
  477,
  478,
  479]
def hAd7 : List Nat := [480,
  481,
  484,
  485,
  486,
  487,
  488,
  500,
  498,
  496,
  494,
  492,
  506,
  507,
  508,
  511,
  512,
  513,
  514,
  515,
  518,
  519,
  520,
  521,
  522,
  538,
  545,
  550,
  557,
  562]
def hAd8 : List Nat := [569,
  576,
  583,
  590,
  597,
  602,
  609,
  616,
  621,
  626,
  634,
  635,
  638,
  639,
  642,
  643,
  644,
  645,
  646,
  649,
  650,
  651,
  652,
  653,
  656,
  657,
  658,
  659,
  660,
  663]
def hAd9 : List Nat := [664,
  665,
  666,
  667,
  670,
  671,
  672,
  675,
  676,
  677,
  680,
  681,
  682,
  683,
  684,
  687,
  688,
  689,
  690,
  691,
  694,
  695,
  696,
  697,
  698,
  701,
  702,
  703,
  706,
  707]
def hAd10 : List Nat := [708,
  709,
  710,
  713,
  714,
  715,
  718,
  719,
  720,
  721,
  722,
  725,
  726,
  727,
  730,
  731,
  732,
  733,
  734,
  737,
  738,
  739,
  740,
  741,
  744,
  745,
  746,
  749,
  750,
  751]
def hAd11 : List Nat := [754,
  755,
  756,
  759,
  760,
  761,
  762,
  763,
  766,
  767,
  768,
  769,
  770,
  773,
  774,
  775,
  776,
  777,
  780,
  781,
  782,
  633,
  627,
  625,
  620,
  615,
  608,
  601,
  596,
  589]
def hAd12 : List Nat := [582,
  575,
  568,
  561,
  556,
  549,
  544,
  537,
  449,
  442,
  437,
  430,
  423,
  416,
  411,
  406,
  399,
  392,
  385,
  380,
  371,
  372,
  361,
  362,
  353,
  322,
  316,
  314,
  307,
  302]
def hAd13 : List Nat := [295,
  288,
  281,
  274,
  267,
  260,
  251,
  252,
  243,
  244,
  233,
  234,
  223,
  224,
  213,
  214,
  203,
  204,
  193,
  194,
  185,
  133,
  122,
  112,
  101,
  91,
  80,
  70,
  59,
  49]
def hAd14 : List Nat := [38,
  44,
  45,
  46,
  47,
  48,
  65,
  66,
  67,
  68,
  69,
  86,
  87,
  88,
  89,
  90,
  107,
  108,
  109,
  110,
  111,
  128,
  129,
  130,
  131,
  132,
  180,
  181,
  182,
  183]
def hAd15 : List Nat := [184,
  196,
  192,
  206,
  202,
  216,
  212,
  226,
  222,
  236,
  232,
  246,
  242,
  254,
  250,
  255,
  256,
  257,
  258,
  259,
  262,
  263,
  264,
  265,
  266,
  269,
  270,
  271,
  272,
  273]
def hAd16 : List Nat := [276,
  277,
  278,
  279,
  280,
  283,
  284,
  285,
  286,
  287,
  290,
  291,
  292,
  293,
  294,
  297,
  298,
  299,
  300,
  301,
  304,
  305,
  306,
  309,
  310,
  311,
  312,
  313,
  317,
  318]
def hAd17 : List Nat := [319,
  320,
  321,
  348,
  349,
  350,
  351,
  352,
  364,
  360,
  374,
  370,
  375,
  376,
  377,
  378,
  379,
  382,
  383,
  384,
  387,
  388,
  389,
  390,
  391,
  394,
  395,
  396,
  397,
  398]
def hAd18 : List Nat := [401,
  402,
  403,
  404,
  405,
  408,
  409,
  410,
  413,
  414,
  415,
  418,
  419,
  420,
  421,
  422,
  425,
  426,
  427,
  428,
  429,
  432,
  433,
  434,
  435,
  436,
  439,
  440,
  441,
  444]
def hAd19 : List Nat := [445,
  446,
  447,
  448,
  532,
  533,
  534,
  535,
  536,
  539,
  540,
  541,
  542,
  543,
  546,
  547,
  548,
  551,
  552,
  553,
  554,
  555,
  558,
  559,
  560,
  563,
  564,
  565,
  566,
  567]
def hAd20 : List Nat := [570,
  571,
  572,
  573,
  574,
  577,
  578,
  579,
  580,
  581,
  584,
  585,
  586,
  587,
  588,
  591,
  592,
  593,
  594,
  595,
  598,
  599,
  600,
  603,
  604,
  605,
  606,
  607,
  610,
  611]
def hAd21 : List Nat := [612,
  613,
  614,
  617,
  618,
  619,
  622,
  623,
  624,
  628,
  629,
  630,
  631,
  632,
  365,
  366,
  367,
  368,
  369,
  355,
  356,
  357,
  358,
  359,
  247,
  248,
  249,
  237,
  238,
  239]
def hAd22 : List Nat := [240,
  241,
  227,
  228,
  229,
  230,
  231,
  217,
  218,
  219,
  220,
  221,
  207,
  208,
  209,
  210,
  211,
  197,
  198,
  199,
  200,
  201,
  187,
  188,
  189,
  190,
  191]
def hAd : List Nat := hAd0 ++ (hAd1 ++ (hAd2 ++ (hAd3 ++ (hAd4 ++ (hAd5 ++ (hAd6 ++ (hAd7 ++ (hAd8 ++ (hAd9 ++ (hAd10 ++ (hAd11 ++ (hAd12 ++ (hAd13 ++ (hAd14 ++ (hAd15 ++ (hAd16 ++ (hAd17 ++ (hAd18 ++ (hAd19 ++ (hAd20 ++ (hAd21 ++ (hAd22))))))))))))))))))))))
def hAs : List Addr := mainGlobals :: cStatics :: hAd
def hNm0 : List Str := ["_wall",
  "__name__",
  "FieldError",
  "BadNumber",
  "BadCharacteristic",
  "BadText",
  "BadStep",
  "UnknownName",
  "common",
  "prime_divisors",
  "is_prime",
  "checked",
  "MOST_PRIME",
  "MOST_DIGITS_chars",
  "is_number",
  "Chars",
  "shared",
  "gathered",
  "Many",
  "product_terms",
  "MOST_DIGITS_matrices",
  "is_integer",
  "cross",
  "dot",
  "volume",
  "LETTERS",
  "MOST_LETTERS",
  "MOST_ITEM",
  "DEFAULT_MOST",
  "POINT"]
def hNm1 : List Str := ["LINE",
  "SHAPES",
  "SENTENCES",
  "SAME",
  "is_name",
  "is_item",
  "content_of",
  "Drawing",
  "rows_of",
  "_law_pool",
  "_law_take",
  "_law_cell",
  "_law_gathered",
  "_law_plain",
  "_law_times",
  "_law_cross",
  "_law_dot",
  "_law_number_triple",
  "_law_largest",
  "_law_made_row",
  "_law_put",
  "_law_picked",
  "_law_added",
  "_law_world",
  "_law_sentence",
  "_law_zero",
  "_law_possible",
  "_law_fault",
  "_law_asked",
  "_law_changed"]
def hNm : List Str := hNm0 ++ (hNm1)
abbrev hHk : PySem.W.Hook := hookH hAs hBs hFn hTb hKs
def hOb (s : PySem.W.SharedT) : AlH := obH hAs hBs hFn hTb s
theorem hOb_eq (s : PySem.W.SharedT) : hOb s = hHk.obs s.abs := obH_eq s
theorem hR0_f (w : World) : HandSHeadRun.RunEq (PySem.W.OpenLaw.row PySem.Challenge.rw_everyfield_k82_sentences_that_are_none) (PySem.W.view (PySem.W.OpenLaw.row PySem.Challenge.rw_everyfield_k82_sentences_that_are_none).prog [67]) PySem.W.Hook.none (fun _ => ()) 12000 hNm (w.withFollow "special-get-raises" false) := by
  intro os
  kernel_rfl
theorem hR0_t (w : World) : HandSHeadRun.RunEq (PySem.W.OpenLaw.row PySem.Challenge.rw_everyfield_k82_sentences_that_are_none) (PySem.W.view (PySem.W.OpenLaw.row PySem.Challenge.rw_everyfield_k82_sentences_that_are_none).prog [67]) PySem.W.Hook.none (fun _ => ()) 12000 hNm (w.withFollow "special-get-raises" true) := by
  intro os
  kernel_rfl
theorem hR0 (w : World) : HandSHeadRun.RunEq (PySem.W.OpenLaw.row PySem.Challenge.rw_everyfield_k82_sentences_that_are_none) (PySem.W.view (PySem.W.OpenLaw.row PySem.Challenge.rw_everyfield_k82_sentences_that_are_none).prog [67]) PySem.W.Hook.none (fun _ => ()) 12000 hNm w := PySem.W.byRow2 "special-get-raises" hR0_f hR0_t w
theorem hRb0_f (w : World) : RunPart (PySem.W.OpenLaw.row PySem.Challenge.rw_everyfield_k82_sentences_that_are_none) (obB hAs hG0_) (fun _ => true) 12000 (w.withFollow "special-get-raises" false) := by
  intro os
  kernel_rfl
theorem hRb0_t (w : World) : RunPart (PySem.W.OpenLaw.row PySem.Challenge.rw_everyfield_k82_sentences_that_are_none) (obB hAs hG0_) (fun _ => true) 12000 (w.withFollow "special-get-raises" true) := by
  intro os
  kernel_rfl
theorem hRb0 (w : World) : RunPart (PySem.W.OpenLaw.row PySem.Challenge.rw_everyfield_k82_sentences_that_are_none) (obB hAs hG0_) (fun _ => true) 12000 w := PySem.W.byRow2 "special-get-raises" hRb0_f hRb0_t w
theorem hRb1_f (w : World) : RunPart (PySem.W.OpenLaw.row PySem.Challenge.rw_everyfield_k82_sentences_that_are_none) (obB hAs hG1_) (fun _ => true) 12000 (w.withFollow "special-get-raises" false) := by
  intro os
  kernel_rfl
theorem hRb1_t (w : World) : RunPart (PySem.W.OpenLaw.row PySem.Challenge.rw_everyfield_k82_sentences_that_are_none) (obB hAs hG1_) (fun _ => true) 12000 (w.withFollow "special-get-raises" true) := by
  intro os
  kernel_rfl
theorem hRb1 (w : World) : RunPart (PySem.W.OpenLaw.row PySem.Challenge.rw_everyfield_k82_sentences_that_are_none) (obB hAs hG1_) (fun _ => true) 12000 w := PySem.W.byRow2 "special-get-raises" hRb1_f hRb1_t w
theorem hRb2_f (w : World) : RunPart (PySem.W.OpenLaw.row PySem.Challenge.rw_everyfield_k82_sentences_that_are_none) (obB hAs hG2_) (fun _ => true) 12000 (w.withFollow "special-get-raises" false) := by
  intro os
  kernel_rfl
theorem hRb2_t (w : World) : RunPart (PySem.W.OpenLaw.row PySem.Challenge.rw_everyfield_k82_sentences_that_are_none) (obB hAs hG2_) (fun _ => true) 12000 (w.withFollow "special-get-raises" true) := by
  intro os
  kernel_rfl
theorem hRb2 (w : World) : RunPart (PySem.W.OpenLaw.row PySem.Challenge.rw_everyfield_k82_sentences_that_are_none) (obB hAs hG2_) (fun _ => true) 12000 w := PySem.W.byRow2 "special-get-raises" hRb2_f hRb2_t w
theorem hRb3_f (w : World) : RunPart (PySem.W.OpenLaw.row PySem.Challenge.rw_everyfield_k82_sentences_that_are_none) (obB hAs hG3_) (fun _ => true) 12000 (w.withFollow "special-get-raises" false) := by
  intro os
  kernel_rfl
theorem hRb3_t (w : World) : RunPart (PySem.W.OpenLaw.row PySem.Challenge.rw_everyfield_k82_sentences_that_are_none) (obB hAs hG3_) (fun _ => true) 12000 (w.withFollow "special-get-raises" true) := by
  intro os
  kernel_rfl
theorem hRb3 (w : World) : RunPart (PySem.W.OpenLaw.row PySem.Challenge.rw_everyfield_k82_sentences_that_are_none) (obB hAs hG3_) (fun _ => true) 12000 w := PySem.W.byRow2 "special-get-raises" hRb3_f hRb3_t w
theorem hRf_f (w : World) : RunPart (PySem.W.OpenLaw.row PySem.Challenge.rw_everyfield_k82_sentences_that_are_none) (obF hAs hFn) (fun _ => hFn.map DefH.val) 12000 (w.withFollow "special-get-raises" false) := by
  intro os
  kernel_rfl
theorem hRf_t (w : World) : RunPart (PySem.W.OpenLaw.row PySem.Challenge.rw_everyfield_k82_sentences_that_are_none) (obF hAs hFn) (fun _ => hFn.map DefH.val) 12000 (w.withFollow "special-get-raises" true) := by
  intro os
  kernel_rfl
theorem hRf (w : World) : RunPart (PySem.W.OpenLaw.row PySem.Challenge.rw_everyfield_k82_sentences_that_are_none) (obF hAs hFn) (fun _ => hFn.map DefH.val) 12000 w := PySem.W.byRow2 "special-get-raises" hRf_f hRf_t w
theorem hRt_f (w : World) : RunPart (PySem.W.OpenLaw.row PySem.Challenge.rw_everyfield_k82_sentences_that_are_none) (obT hAs hTb) (fun P => hKs.map fun k => some (He.keysIn P k)) 12000 (w.withFollow "special-get-raises" false) := by
  intro os
  kernel_rfl
theorem hRt_t (w : World) : RunPart (PySem.W.OpenLaw.row PySem.Challenge.rw_everyfield_k82_sentences_that_are_none) (obT hAs hTb) (fun P => hKs.map fun k => some (He.keysIn P k)) 12000 (w.withFollow "special-get-raises" true) := by
  intro os
  kernel_rfl
theorem hRt (w : World) : RunPart (PySem.W.OpenLaw.row PySem.Challenge.rw_everyfield_k82_sentences_that_are_none) (obT hAs hTb) (fun P => hKs.map fun k => some (He.keysIn P k)) 12000 w := PySem.W.byRow2 "special-get-raises" hRt_f hRt_t w
theorem hRun (w : World) : HandSHeadRun.RunEq (PySem.W.OpenLaw.row PySem.Challenge.rw_everyfield_k82_sentences_that_are_none) (PySem.W.view (PySem.W.OpenLaw.row PySem.Challenge.rw_everyfield_k82_sentences_that_are_none).prog [67]) hHk hOb 12000 hNm w := run_join (hR0 w) (part_app (hRb0 w) (part_app (hRb1 w) (part_app (hRb2 w) (hRb3 w)))) (hRf w) (hRt w)
theorem hFacts {w : World} {K : PySem.W.Frag} {h : Heap} {mg : Str → Option Value} (X : K.In h) (G : h.Ns mainGlobals mg) {fa : Addr} (hfa : mg "law" = some (.ref fa)) (c : obsH hBs hFn hTb K = valH hFn hKs w.params) :
    ∃ fd : FuncData, (∀ (s : Shared) (v : Value), BindsTo s fd ⟨[v], []⟩ [("_law_script", v)]) ∧ ∀ base : Heap, K.In base → base.Ns mainGlobals mg → FnOk (PySem.Challenge.rw_everyfield_k82_sentences_that_are_none).prog w K mg base (L2.CX (PySem.Challenge.rw_everyfield_k82_sentences_that_are_none).prog w) 15 fa fd ["_law_script"] (spLaw K DW.K82.m_law) := by
  have eA0 := nsH_ok (says_b c 0 (b := fun K => nsH K "BadNumber") rfl)
  obtain ⟨_, _, _, _, _, _, _, _, _, _, _, _, _, _, _, eX0, eR0⟩ := excH_ok (says_b c 1 (b := fun K => excH K (He.ga K "BadNumber")) rfl)
  have eI0 := mtH_ok (says_b c 2 (b := fun K => mtH K (He.ga K "BadNumber") "__init__") rfl)
  have eB0 : errB K (He.ga K "BadNumber") (He.ma K (He.ga K "BadNumber") "__init__") ["n"] = true := says_b c 3 (b := fun K => errB K (He.ga K "BadNumber") (He.ma K (He.ga K "BadNumber") "__init__") ["n"]) rfl
  obtain ⟨_, _, _, _, _, _, _, _, _, _, _, _, _, _, _, _, _, _, _, eL0, eC0, eD0, eV0, eF0, eE0⟩ := ksH_ok (says_f c 0 (d := ⟨fun K => He.ma K (He.ga K "BadNumber") "__init__", "__init__", "BadNumber.__init__", si_BadNumber⟩) rfl) (says_b c 4 (b := fun K => ksH K (He.ma K (He.ga K "BadNumber") "__init__") (He.ga K "BadNumber") "BadNumber.__init__" (PySem.Challenge.rw_everyfield_k82_sentences_that_are_none).prog.main.file) rfl)
  have eA1 := nsH_ok (says_b c 5 (b := fun K => nsH K "BadCharacteristic") rfl)
  obtain ⟨_, _, _, _, _, _, _, _, _, _, _, _, _, _, _, eX1, eR1⟩ := excH_ok (says_b c 6 (b := fun K => excH K (He.ga K "BadCharacteristic")) rfl)
  have eI1 := mtH_ok (says_b c 7 (b := fun K => mtH K (He.ga K "BadCharacteristic") "__init__") rfl)
  have eB1 : errB K (He.ga K "BadCharacteristic") (He.ma K (He.ga K "BadCharacteristic") "__init__") ["p"] = true := says_b c 8 (b := fun K => errB K (He.ga K "BadCharacteristic") (He.ma K (He.ga K "BadCharacteristic") "__init__") ["p"]) rfl
  obtain ⟨_, _, _, _, _, _, _, _, _, _, _, _, _, _, _, _, _, _, _, eL1, eC1, eD1, eV1, eF1, eE1⟩ := ksH_ok (says_f c 1 (d := ⟨fun K => He.ma K (He.ga K "BadCharacteristic") "__init__", "__init__", "BadCharacteristic.__init__", si_BadCharacteristic⟩) rfl) (says_b c 9 (b := fun K => ksH K (He.ma K (He.ga K "BadCharacteristic") "__init__") (He.ga K "BadCharacteristic") "BadCharacteristic.__init__" (PySem.Challenge.rw_everyfield_k82_sentences_that_are_none).prog.main.file) rfl)
  have eA2 := nsH_ok (says_b c 10 (b := fun K => nsH K "BadText") rfl)
  obtain ⟨_, _, _, _, _, _, _, _, _, _, _, _, _, _, _, eX2, eR2⟩ := excH_ok (says_b c 11 (b := fun K => excH K (He.ga K "BadText")) rfl)
  have eI2 := mtH_ok (says_b c 12 (b := fun K => mtH K (He.ga K "BadText") "__init__") rfl)
  have eB2 : errB K (He.ga K "BadText") (He.ma K (He.ga K "BadText") "__init__") ["at"] = true := says_b c 13 (b := fun K => errB K (He.ga K "BadText") (He.ma K (He.ga K "BadText") "__init__") ["at"]) rfl
  obtain ⟨_, _, _, _, _, _, _, _, _, _, _, _, _, _, _, _, _, _, _, eL2, eC2, eD2, eV2, eF2, eE2⟩ := ksH_ok (says_f c 2 (d := ⟨fun K => He.ma K (He.ga K "BadText") "__init__", "__init__", "BadText.__init__", si_BadText⟩) rfl) (says_b c 14 (b := fun K => ksH K (He.ma K (He.ga K "BadText") "__init__") (He.ga K "BadText") "BadText.__init__" (PySem.Challenge.rw_everyfield_k82_sentences_that_are_none).prog.main.file) rfl)
  have eA8 := nsH_ok (says_b c 15 (b := fun K => nsH K "BadStep") rfl)
  obtain ⟨_, _, _, _, _, _, _, _, _, _, _, _, _, _, _, eX8, eR8⟩ := excH_ok (says_b c 16 (b := fun K => excH K (He.ga K "BadStep")) rfl)
  have eI8 := mtH_ok (says_b c 17 (b := fun K => mtH K (He.ga K "BadStep") "__init__") rfl)
  have eB8 : errB K (He.ga K "BadStep") (He.ma K (He.ga K "BadStep") "__init__") ["at"] = true := says_b c 18 (b := fun K => errB K (He.ga K "BadStep") (He.ma K (He.ga K "BadStep") "__init__") ["at"]) rfl
  obtain ⟨_, _, _, _, _, _, _, _, _, _, _, _, _, _, _, _, _, _, _, eL8, eC8, eD8, eV8, eF8, eE8⟩ := ksH_ok (says_f c 3 (d := ⟨fun K => He.ma K (He.ga K "BadStep") "__init__", "__init__", "BadStep.__init__", si_BadStep⟩) rfl) (says_b c 19 (b := fun K => ksH K (He.ma K (He.ga K "BadStep") "__init__") (He.ga K "BadStep") "BadStep.__init__" (PySem.Challenge.rw_everyfield_k82_sentences_that_are_none).prog.main.file) rfl)
  have eA9 := nsH_ok (says_b c 20 (b := fun K => nsH K "UnknownName") rfl)
  obtain ⟨_, _, _, _, _, _, _, _, _, _, _, _, _, _, _, eX9, eR9⟩ := excH_ok (says_b c 21 (b := fun K => excH K (He.ga K "UnknownName")) rfl)
  have eI9 := mtH_ok (says_b c 22 (b := fun K => mtH K (He.ga K "UnknownName") "__init__") rfl)
  have eB9 : errB K (He.ga K "UnknownName") (He.ma K (He.ga K "UnknownName") "__init__") ["name"] = true := says_b c 23 (b := fun K => errB K (He.ga K "UnknownName") (He.ma K (He.ga K "UnknownName") "__init__") ["name"]) rfl
  obtain ⟨_, _, _, _, _, _, _, _, _, _, _, _, _, _, _, _, _, _, _, eL9, eC9, eD9, eV9, eF9, eE9⟩ := ksH_ok (says_f c 4 (d := ⟨fun K => He.ma K (He.ga K "UnknownName") "__init__", "__init__", "UnknownName.__init__", si_UnknownName⟩) rfl) (says_b c 24 (b := fun K => ksH K (He.ma K (He.ga K "UnknownName") "__init__") (He.ga K "UnknownName") "UnknownName.__init__" (PySem.Challenge.rw_everyfield_k82_sentences_that_are_none).prog.main.file) rfl)
  have kA20 := nsH_ok (says_b c 25 (b := fun K => nsH K "Chars") rfl)
  have kB20 : clsB K (He.ga K "Chars") ["endless", "primes"] = true := says_b c 26 (b := fun K => clsB K (He.ga K "Chars") ["endless", "primes"]) rfl
  have kR20 : crB K (He.ga K "Chars") = true := says_b c 27 (b := fun K => crB K (He.ga K "Chars")) rfl
  have kA24 := nsH_ok (says_b c 28 (b := fun K => nsH K "Many") rfl)
  have kB24 : clsB K (He.ga K "Many") ["terms"] = true := says_b c 29 (b := fun K => clsB K (He.ga K "Many") ["terms"]) rfl
  have kR24 : crB K (He.ga K "Many") = true := says_b c 30 (b := fun K => crB K (He.ga K "Many")) rfl
  have kA27 := nsH_ok (says_b c 31 (b := fun K => nsH K "Drawing") rfl)
  have kB27 : clsB K (He.ga K "Drawing") ["kinds", "triples", "open_names"] = true := says_b c 32 (b := fun K => clsB K (He.ga K "Drawing") ["kinds", "triples", "open_names"]) rfl
  have eN := frH_ok (says_b c 33 (b := fun K => frH K mainGlobals "super") rfl)
  have eY := frH_ok (says_b c 34 (b := fun K => frH K cStatics "thirdparty.any") rfl)
  have eT : ((PySem.Challenge.rw_everyfield_k82_sentences_that_are_none).prog.main.scope.names.lookup ("super" : Str)).isSome = false := by first | rfl | decide +kernel
  have eQ1 : exmB K [(He.ga K "BadNumber"), (He.ga K "BadCharacteristic"), (He.ga K "BadText"), 0, 0, 0, 0, 0, (He.ga K "BadStep"), (He.ga K "UnknownName"), 0, 0, 0, 0, 0, 0, 0, 0, 0, 0, (He.ga K "Chars"), 0, 0, 0, (He.ga K "Many"), 0, 0, (He.ga K "Drawing")] [0, 1, 2, 8, 9] 1 = true := says_b c 35 (b := fun K => exmB K [(He.ga K "BadNumber"), (He.ga K "BadCharacteristic"), (He.ga K "BadText"), 0, 0, 0, 0, 0, (He.ga K "BadStep"), (He.ga K "UnknownName"), 0, 0, 0, 0, 0, 0, 0, 0, 0, 0, (He.ga K "Chars"), 0, 0, 0, (He.ga K "Many"), 0, 0, (He.ga K "Drawing")] [0, 1, 2, 8, 9] 1) rfl
  have eQ2 : exmB K [(He.ga K "BadNumber"), (He.ga K "BadCharacteristic"), (He.ga K "BadText"), 0, 0, 0, 0, 0, (He.ga K "BadStep"), (He.ga K "UnknownName"), 0, 0, 0, 0, 0, 0, 0, 0, 0, 0, (He.ga K "Chars"), 0, 0, 0, (He.ga K "Many"), 0, 0, (He.ga K "Drawing")] [0, 1, 2, 8, 9] 2 = true := says_b c 36 (b := fun K => exmB K [(He.ga K "BadNumber"), (He.ga K "BadCharacteristic"), (He.ga K "BadText"), 0, 0, 0, 0, 0, (He.ga K "BadStep"), (He.ga K "UnknownName"), 0, 0, 0, 0, 0, 0, 0, 0, 0, 0, (He.ga K "Chars"), 0, 0, 0, (He.ga K "Many"), 0, 0, (He.ga K "Drawing")] [0, 1, 2, 8, 9] 2) rfl
  have eQ9 : exmB K [(He.ga K "BadNumber"), (He.ga K "BadCharacteristic"), (He.ga K "BadText"), 0, 0, 0, 0, 0, (He.ga K "BadStep"), (He.ga K "UnknownName"), 0, 0, 0, 0, 0, 0, 0, 0, 0, 0, (He.ga K "Chars"), 0, 0, 0, (He.ga K "Many"), 0, 0, (He.ga K "Drawing")] [0, 1, 2, 8, 9] 9 = true := says_b c 37 (b := fun K => exmB K [(He.ga K "BadNumber"), (He.ga K "BadCharacteristic"), (He.ga K "BadText"), 0, 0, 0, 0, 0, (He.ga K "BadStep"), (He.ga K "UnknownName"), 0, 0, 0, 0, 0, 0, 0, 0, 0, 0, (He.ga K "Chars"), 0, 0, 0, (He.ga K "Many"), 0, 0, (He.ga K "Drawing")] [0, 1, 2, 8, 9] 9) rfl
  have qX_24_o_27 : apartB [(He.ga K "BadNumber"), (He.ga K "BadCharacteristic"), (He.ga K "BadText"), 0, 0, 0, 0, 0, (He.ga K "BadStep"), (He.ga K "UnknownName"), 0, 0, 0, 0, 0, 0, 0, 0, 0, 0, (He.ga K "Chars"), 0, 0, 0, (He.ga K "Many"), 0, 0, (He.ga K "Drawing")] [24] [27] = true := says_b c 38 (b := fun K => apartB [(He.ga K "BadNumber"), (He.ga K "BadCharacteristic"), (He.ga K "BadText"), 0, 0, 0, 0, 0, (He.ga K "BadStep"), (He.ga K "UnknownName"), 0, 0, 0, 0, 0, 0, 0, 0, 0, 0, (He.ga K "Chars"), 0, 0, 0, (He.ga K "Many"), 0, 0, (He.ga K "Drawing")] [24] [27]) rfl
  have a0 := nsH_ok (says_b c 39 (b := fun K => nsH K "_law_cell") rfl)
  obtain ⟨_, _, _, _, _, _, _, _, _, l0, c0⟩ := plH_ok (says_f c 5 (d := ⟨fun K => He.ga K "_law_cell", "_law_cell", "_law_cell", s__law_cell⟩) rfl) (says_b c 40 (b := fun K => plH K (He.ga K "_law_cell") "_law_cell") rfl)
  have k0 : PySem.W.keepIn K (.ref (He.ga K "_law_cell")) = true := says_b c 41 (b := fun K => PySem.W.keepIn K (.ref (He.ga K "_law_cell"))) rfl
  have a1 := nsH_ok (says_b c 42 (b := fun K => nsH K "_law_pool") rfl)
  obtain ⟨_, _, _, _, _, _, _, _, _, l1, c1⟩ := plH_ok (says_f c 6 (d := ⟨fun K => He.ga K "_law_pool", "_law_pool", "_law_pool", s__law_pool⟩) rfl) (says_b c 43 (b := fun K => plH K (He.ga K "_law_pool") "_law_pool") rfl)
  have k1 : PySem.W.keepIn K (.ref (He.ga K "_law_pool")) = true := says_b c 44 (b := fun K => PySem.W.keepIn K (.ref (He.ga K "_law_pool"))) rfl
  have a2 := nsH_ok (says_b c 45 (b := fun K => nsH K "_law_take") rfl)
  obtain ⟨_, _, _, _, _, _, _, _, _, l2, c2⟩ := plH_ok (says_f c 7 (d := ⟨fun K => He.ga K "_law_take", "_law_take", "_law_take", s__law_take⟩) rfl) (says_b c 46 (b := fun K => plH K (He.ga K "_law_take") "_law_take") rfl)
  have k2 : PySem.W.keepIn K (.ref (He.ga K "_law_take")) = true := says_b c 47 (b := fun K => PySem.W.keepIn K (.ref (He.ga K "_law_take"))) rfl
  have a3 := nsH_ok (says_b c 48 (b := fun K => nsH K "_law_picked") rfl)
  obtain ⟨_, _, _, _, _, _, _, _, _, l3, c3⟩ := plH_ok (says_f c 8 (d := ⟨fun K => He.ga K "_law_picked", "_law_picked", "_law_picked", s__law_picked_l⟩) rfl) (says_b c 49 (b := fun K => plH K (He.ga K "_law_picked") "_law_picked") rfl)
  have k3 : PySem.W.keepIn K (.ref (He.ga K "_law_picked")) = true := says_b c 50 (b := fun K => PySem.W.keepIn K (.ref (He.ga K "_law_picked"))) rfl
  have a4 := nsH_ok (says_b c 51 (b := fun K => nsH K "_law_gathered") rfl)
  obtain ⟨_, _, _, _, _, _, _, _, _, l4, c4⟩ := plH_ok (says_f c 9 (d := ⟨fun K => He.ga K "_law_gathered", "_law_gathered", "_law_gathered", s__law_gathered⟩) rfl) (says_b c 52 (b := fun K => plH K (He.ga K "_law_gathered") "_law_gathered") rfl)
  have k4 : PySem.W.keepIn K (.ref (He.ga K "_law_gathered")) = true := says_b c 53 (b := fun K => PySem.W.keepIn K (.ref (He.ga K "_law_gathered"))) rfl
  have a5 := nsH_ok (says_b c 54 (b := fun K => nsH K "_law_number_triple") rfl)
  obtain ⟨_, _, _, _, _, _, _, _, _, l5, c5⟩ := plH_ok (says_f c 10 (d := ⟨fun K => He.ga K "_law_number_triple", "_law_number_triple", "_law_number_triple", s__law_number_triple⟩) rfl) (says_b c 55 (b := fun K => plH K (He.ga K "_law_number_triple") "_law_number_triple") rfl)
  have k5 : PySem.W.keepIn K (.ref (He.ga K "_law_number_triple")) = true := says_b c 56 (b := fun K => PySem.W.keepIn K (.ref (He.ga K "_law_number_triple"))) rfl
  have a6 := nsH_ok (says_b c 57 (b := fun K => nsH K "_law_plain") rfl)
  obtain ⟨_, _, _, _, _, _, _, _, _, l6, c6⟩ := plH_ok (says_f c 11 (d := ⟨fun K => He.ga K "_law_plain", "_law_plain", "_law_plain", s__law_plain⟩) rfl) (says_b c 58 (b := fun K => plH K (He.ga K "_law_plain") "_law_plain") rfl)
  have k6 : PySem.W.keepIn K (.ref (He.ga K "_law_plain")) = true := says_b c 59 (b := fun K => PySem.W.keepIn K (.ref (He.ga K "_law_plain"))) rfl
  have a7 := nsH_ok (says_b c 60 (b := fun K => nsH K "_law_times") rfl)
  obtain ⟨_, _, _, _, _, _, _, _, _, l7, c7⟩ := plH_ok (says_f c 12 (d := ⟨fun K => He.ga K "_law_times", "_law_times", "_law_times", s__law_times⟩) rfl) (says_b c 61 (b := fun K => plH K (He.ga K "_law_times") "_law_times") rfl)
  have k7 : PySem.W.keepIn K (.ref (He.ga K "_law_times")) = true := says_b c 62 (b := fun K => PySem.W.keepIn K (.ref (He.ga K "_law_times"))) rfl
  have a8 := nsH_ok (says_b c 63 (b := fun K => nsH K "_law_cross") rfl)
  obtain ⟨_, _, _, _, _, _, _, _, _, l8, c8⟩ := plH_ok (says_f c 13 (d := ⟨fun K => He.ga K "_law_cross", "_law_cross", "_law_cross", s__law_cross⟩) rfl) (says_b c 64 (b := fun K => plH K (He.ga K "_law_cross") "_law_cross") rfl)
  have k8 : PySem.W.keepIn K (.ref (He.ga K "_law_cross")) = true := says_b c 65 (b := fun K => PySem.W.keepIn K (.ref (He.ga K "_law_cross"))) rfl
  have a9 := nsH_ok (says_b c 66 (b := fun K => nsH K "_law_made_row") rfl)
  obtain ⟨_, _, _, _, _, _, _, _, _, l9, c9⟩ := plH_ok (says_f c 14 (d := ⟨fun K => He.ga K "_law_made_row", "_law_made_row", "_law_made_row", s__law_made_row_l⟩) rfl) (says_b c 67 (b := fun K => plH K (He.ga K "_law_made_row") "_law_made_row") rfl)
  have k9 : PySem.W.keepIn K (.ref (He.ga K "_law_made_row")) = true := says_b c 68 (b := fun K => PySem.W.keepIn K (.ref (He.ga K "_law_made_row"))) rfl
  have a10 := nsH_ok (says_b c 69 (b := fun K => nsH K "_law_largest") rfl)
  obtain ⟨_, _, _, _, _, _, _, _, _, l10, c10⟩ := plH_ok (says_f c 15 (d := ⟨fun K => He.ga K "_law_largest", "_law_largest", "_law_largest", s__law_largest⟩) rfl) (says_b c 70 (b := fun K => plH K (He.ga K "_law_largest") "_law_largest") rfl)
  have k10 : PySem.W.keepIn K (.ref (He.ga K "_law_largest")) = true := says_b c 71 (b := fun K => PySem.W.keepIn K (.ref (He.ga K "_law_largest"))) rfl
  have a11 := nsH_ok (says_b c 72 (b := fun K => nsH K "_law_put") rfl)
  obtain ⟨_, _, _, _, _, _, _, _, _, l11, c11⟩ := plH_ok (says_f c 16 (d := ⟨fun K => He.ga K "_law_put", "_law_put", "_law_put", s__law_put⟩) rfl) (says_b c 73 (b := fun K => plH K (He.ga K "_law_put") "_law_put") rfl)
  have k11 : PySem.W.keepIn K (.ref (He.ga K "_law_put")) = true := says_b c 74 (b := fun K => PySem.W.keepIn K (.ref (He.ga K "_law_put"))) rfl
  have a12 := nsH_ok (says_b c 75 (b := fun K => nsH K "_law_added") rfl)
  obtain ⟨_, _, _, _, _, _, _, _, _, l12, c12⟩ := plH_ok (says_f c 17 (d := ⟨fun K => He.ga K "_law_added", "_law_added", "_law_added", s__law_added⟩) rfl) (says_b c 76 (b := fun K => plH K (He.ga K "_law_added") "_law_added") rfl)
  have k12 : PySem.W.keepIn K (.ref (He.ga K "_law_added")) = true := says_b c 77 (b := fun K => PySem.W.keepIn K (.ref (He.ga K "_law_added"))) rfl
  have a13 := nsH_ok (says_b c 78 (b := fun K => nsH K "_law_world") rfl)
  obtain ⟨_, _, _, _, _, _, _, _, _, l13, c13⟩ := plH_ok (says_f c 18 (d := ⟨fun K => He.ga K "_law_world", "_law_world", "_law_world", s__law_world⟩) rfl) (says_b c 79 (b := fun K => plH K (He.ga K "_law_world") "_law_world") rfl)
  have k13 : PySem.W.keepIn K (.ref (He.ga K "_law_world")) = true := says_b c 80 (b := fun K => PySem.W.keepIn K (.ref (He.ga K "_law_world"))) rfl
  have a14 := nsH_ok (says_b c 81 (b := fun K => nsH K "is_name") rfl)
  obtain ⟨_, _, _, _, _, _, _, _, _, l14, c14⟩ := plH_ok (says_f c 19 (d := ⟨fun K => He.ga K "is_name", "is_name", "is_name", s_is_name⟩) rfl) (says_b c 82 (b := fun K => plH K (He.ga K "is_name") "is_name") rfl)
  have k14 : PySem.W.keepIn K (.ref (He.ga K "is_name")) = true := says_b c 83 (b := fun K => PySem.W.keepIn K (.ref (He.ga K "is_name"))) rfl
  have a15 := nsH_ok (says_b c 84 (b := fun K => nsH K "is_integer") rfl)
  obtain ⟨_, _, _, _, _, _, _, _, _, l15, c15⟩ := plH_ok (says_f c 20 (d := ⟨fun K => He.ga K "is_integer", "is_integer", "is_integer", s_is_integer⟩) rfl) (says_b c 85 (b := fun K => plH K (He.ga K "is_integer") "is_integer") rfl)
  have k15 : PySem.W.keepIn K (.ref (He.ga K "is_integer")) = true := says_b c 86 (b := fun K => PySem.W.keepIn K (.ref (He.ga K "is_integer"))) rfl
  have a16 := nsH_ok (says_b c 87 (b := fun K => nsH K "is_item") rfl)
  obtain ⟨_, _, _, _, _, _, _, _, _, l16, c16⟩ := plH_ok (says_f c 21 (d := ⟨fun K => He.ga K "is_item", "is_item", "is_item", s_is_item⟩) rfl) (says_b c 88 (b := fun K => plH K (He.ga K "is_item") "is_item") rfl)
  have k16 : PySem.W.keepIn K (.ref (He.ga K "is_item")) = true := says_b c 89 (b := fun K => PySem.W.keepIn K (.ref (He.ga K "is_item"))) rfl
  have a17 := mtH_ok (says_b c 90 (b := fun K => mtH K (He.ga K "Drawing") "fits") rfl)
  obtain ⟨_, _, _, _, _, _, _, _, _, l17, c17⟩ := plH_ok (says_f c 22 (d := ⟨fun K => He.ma K (He.ga K "Drawing") "fits", "fits", "Drawing.fits", s_Drawing_fits⟩) rfl) (says_b c 91 (b := fun K => plH K (He.ma K (He.ga K "Drawing") "fits") "Drawing.fits") rfl)
  have b17 : methB K (He.ma K (He.ga K "Drawing") "fits") = true := says_b c 92 (b := fun K => methB K (He.ma K (He.ga K "Drawing") "fits")) rfl
  have a18 := nsH_ok (says_b c 93 (b := fun K => nsH K "gathered") rfl)
  obtain ⟨_, _, _, _, _, _, _, _, _, l18, c18⟩ := plH_ok (says_f c 23 (d := ⟨fun K => He.ga K "gathered", "gathered", "gathered", s_gathered⟩) rfl) (says_b c 94 (b := fun K => plH K (He.ga K "gathered") "gathered") rfl)
  have k18 : PySem.W.keepIn K (.ref (He.ga K "gathered")) = true := says_b c 95 (b := fun K => PySem.W.keepIn K (.ref (He.ga K "gathered"))) rfl
  have a19 := mtH_ok (says_b c 96 (b := fun K => mtH K (He.ga K "Many") "__init__") rfl)
  obtain ⟨_, _, _, _, _, _, _, _, _, l19, c19⟩ := plH_ok (says_f c 24 (d := ⟨fun K => He.ma K (He.ga K "Many") "__init__", "__init__", "Many.__init__", s_Many___init__⟩) rfl) (says_b c 97 (b := fun K => plH K (He.ma K (He.ga K "Many") "__init__") "Many.__init__") rfl)
  have b19 : methB K (He.ma K (He.ga K "Many") "__init__") = true := says_b c 98 (b := fun K => methB K (He.ma K (He.ga K "Many") "__init__")) rfl
  obtain ⟨_, _, a20, r20⟩ := cmH_ok (says_b c 99 (b := fun K => cmH K (He.ga K "Many") "number") rfl)
  obtain ⟨_, _, _, _, _, _, _, _, _, l20, c20⟩ := plH_ok (says_f c 25 (d := ⟨fun K => cmA K (He.ga K "Many") "number", "number", "Many.number", s_Many_number⟩) rfl) (says_b c 100 (b := fun K => plH K (cmA K (He.ga K "Many") "number") "Many.number") rfl)
  have b20 : methB K (cmA K (He.ga K "Many") "number") = true := says_b c 101 (b := fun K => methB K (cmA K (He.ga K "Many") "number")) rfl
  obtain ⟨_, _, a21, r21⟩ := cmH_ok (says_b c 102 (b := fun K => cmH K (He.ga K "Many") "unknown") rfl)
  obtain ⟨_, _, _, _, _, _, _, _, _, l21, c21⟩ := plH_ok (says_f c 26 (d := ⟨fun K => cmA K (He.ga K "Many") "unknown", "unknown", "Many.unknown", s_Many_unknown⟩) rfl) (says_b c 103 (b := fun K => plH K (cmA K (He.ga K "Many") "unknown") "Many.unknown") rfl)
  have b21 : methB K (cmA K (He.ga K "Many") "unknown") = true := says_b c 104 (b := fun K => methB K (cmA K (He.ga K "Many") "unknown")) rfl
  have a22 := mtH_ok (says_b c 105 (b := fun K => mtH K (He.ga K "Drawing") "new_unknown") rfl)
  obtain ⟨_, _, _, _, _, _, _, _, _, l22, c22⟩ := plH_ok (says_f c 27 (d := ⟨fun K => He.ma K (He.ga K "Drawing") "new_unknown", "new_unknown", "Drawing.new_unknown", s_Drawing_new_unknown⟩) rfl) (says_b c 106 (b := fun K => plH K (He.ma K (He.ga K "Drawing") "new_unknown") "Drawing.new_unknown") rfl)
  have b22 : methB K (He.ma K (He.ga K "Drawing") "new_unknown") = true := says_b c 107 (b := fun K => methB K (He.ma K (He.ga K "Drawing") "new_unknown")) rfl
  have a23 := nsH_ok (says_b c 108 (b := fun K => nsH K "product_terms") rfl)
  obtain ⟨_, _, _, _, _, _, _, _, _, l23, c23⟩ := plH_ok (says_f c 28 (d := ⟨fun K => He.ga K "product_terms", "product_terms", "product_terms", s_product_terms⟩) rfl) (says_b c 109 (b := fun K => plH K (He.ga K "product_terms") "product_terms") rfl)
  have k23 : PySem.W.keepIn K (.ref (He.ga K "product_terms")) = true := says_b c 110 (b := fun K => PySem.W.keepIn K (.ref (He.ga K "product_terms"))) rfl
  have a24 := mtH_ok (says_b c 111 (b := fun K => mtH K (He.ga K "Many") "__mul__") rfl)
  obtain ⟨_, _, _, _, _, _, _, _, _, l24, c24⟩ := plH_ok (says_f c 29 (d := ⟨fun K => He.ma K (He.ga K "Many") "__mul__", "__mul__", "Many.__mul__", s_Many___mul__⟩) rfl) (says_b c 112 (b := fun K => plH K (He.ma K (He.ga K "Many") "__mul__") "Many.__mul__") rfl)
  have b24 : methB K (He.ma K (He.ga K "Many") "__mul__") = true := says_b c 113 (b := fun K => methB K (He.ma K (He.ga K "Many") "__mul__")) rfl
  have a25 := mtH_ok (says_b c 114 (b := fun K => mtH K (He.ga K "Many") "__neg__") rfl)
  obtain ⟨_, _, _, _, _, _, _, _, _, l25, c25⟩ := plH_ok (says_f c 30 (d := ⟨fun K => He.ma K (He.ga K "Many") "__neg__", "__neg__", "Many.__neg__", s_Many___neg__⟩) rfl) (says_b c 115 (b := fun K => plH K (He.ma K (He.ga K "Many") "__neg__") "Many.__neg__") rfl)
  have b25 : methB K (He.ma K (He.ga K "Many") "__neg__") = true := says_b c 116 (b := fun K => methB K (He.ma K (He.ga K "Many") "__neg__")) rfl
  have a26 := mtH_ok (says_b c 117 (b := fun K => mtH K (He.ga K "Many") "__add__") rfl)
  obtain ⟨_, _, _, _, _, _, _, _, _, l26, c26⟩ := plH_ok (says_f c 31 (d := ⟨fun K => He.ma K (He.ga K "Many") "__add__", "__add__", "Many.__add__", s_Many___add__⟩) rfl) (says_b c 118 (b := fun K => plH K (He.ma K (He.ga K "Many") "__add__") "Many.__add__") rfl)
  have b26 : methB K (He.ma K (He.ga K "Many") "__add__") = true := says_b c 119 (b := fun K => methB K (He.ma K (He.ga K "Many") "__add__")) rfl
  have a27 := mtH_ok (says_b c 120 (b := fun K => mtH K (He.ga K "Many") "__sub__") rfl)
  obtain ⟨_, _, _, _, _, _, _, _, _, l27, c27⟩ := plH_ok (says_f c 32 (d := ⟨fun K => He.ma K (He.ga K "Many") "__sub__", "__sub__", "Many.__sub__", s_Many___sub__⟩) rfl) (says_b c 121 (b := fun K => plH K (He.ma K (He.ga K "Many") "__sub__") "Many.__sub__") rfl)
  have b27 : methB K (He.ma K (He.ga K "Many") "__sub__") = true := says_b c 122 (b := fun K => methB K (He.ma K (He.ga K "Many") "__sub__")) rfl
  have a28 := nsH_ok (says_b c 123 (b := fun K => nsH K "cross") rfl)
  obtain ⟨_, _, _, _, _, _, _, _, _, l28, c28⟩ := plH_ok (says_f c 33 (d := ⟨fun K => He.ga K "cross", "cross", "cross", s_cross⟩) rfl) (says_b c 124 (b := fun K => plH K (He.ga K "cross") "cross") rfl)
  have k28 : PySem.W.keepIn K (.ref (He.ga K "cross")) = true := says_b c 125 (b := fun K => PySem.W.keepIn K (.ref (He.ga K "cross"))) rfl
  have a29 := mtH_ok (says_b c 126 (b := fun K => mtH K (He.ga K "Drawing") "triple_made") rfl)
  obtain ⟨_, _, _, _, _, _, _, _, _, l29, c29⟩ := plH_ok (says_f c 34 (d := ⟨fun K => He.ma K (He.ga K "Drawing") "triple_made", "triple_made", "Drawing.triple_made", s_Drawing_triple_made⟩) rfl) (says_b c 127 (b := fun K => plH K (He.ma K (He.ga K "Drawing") "triple_made") "Drawing.triple_made") rfl)
  have b29 : methB K (He.ma K (He.ga K "Drawing") "triple_made") = true := says_b c 128 (b := fun K => methB K (He.ma K (He.ga K "Drawing") "triple_made")) rfl
  have a30 := mtH_ok (says_b c 129 (b := fun K => mtH K (He.ga K "Drawing") "add") rfl)
  obtain ⟨_, _, _, _, _, _, _, _, _, l30, c30⟩ := plH_ok (says_f c 35 (d := ⟨fun K => He.ma K (He.ga K "Drawing") "add", "add", "Drawing.add", s_Drawing_add⟩) rfl) (says_b c 130 (b := fun K => plH K (He.ma K (He.ga K "Drawing") "add") "Drawing.add") rfl)
  have b30 : methB K (He.ma K (He.ga K "Drawing") "add") = true := says_b c 131 (b := fun K => methB K (He.ma K (He.ga K "Drawing") "add")) rfl
  have a31 := mtH_ok (says_b c 132 (b := fun K => mtH K (He.ga K "Drawing") "__init__") rfl)
  obtain ⟨_, _, _, _, _, _, _, _, _, l31, c31⟩ := plH_ok (says_f c 36 (d := ⟨fun K => He.ma K (He.ga K "Drawing") "__init__", "__init__", "Drawing.__init__", s_Drawing___init__⟩) rfl) (says_b c 133 (b := fun K => plH K (He.ma K (He.ga K "Drawing") "__init__") "Drawing.__init__") rfl)
  have b31 : methB K (He.ma K (He.ga K "Drawing") "__init__") = true := says_b c 134 (b := fun K => methB K (He.ma K (He.ga K "Drawing") "__init__")) rfl
  have a32 := nsH_ok (says_b c 135 (b := fun K => nsH K "_law_dot") rfl)
  obtain ⟨_, _, _, _, _, _, _, _, _, l32, c32⟩ := plH_ok (says_f c 37 (d := ⟨fun K => He.ga K "_law_dot", "_law_dot", "_law_dot", s__law_dot⟩) rfl) (says_b c 136 (b := fun K => plH K (He.ga K "_law_dot") "_law_dot") rfl)
  have k32 : PySem.W.keepIn K (.ref (He.ga K "_law_dot")) = true := says_b c 137 (b := fun K => PySem.W.keepIn K (.ref (He.ga K "_law_dot"))) rfl
  have a33 := nsH_ok (says_b c 138 (b := fun K => nsH K "_law_sentence") rfl)
  obtain ⟨_, _, _, _, _, _, _, _, _, l33, c33⟩ := plH_ok (says_f c 38 (d := ⟨fun K => He.ga K "_law_sentence", "_law_sentence", "_law_sentence", s__law_sentence⟩) rfl) (says_b c 139 (b := fun K => plH K (He.ga K "_law_sentence") "_law_sentence") rfl)
  have k33 : PySem.W.keepIn K (.ref (He.ga K "_law_sentence")) = true := says_b c 140 (b := fun K => PySem.W.keepIn K (.ref (He.ga K "_law_sentence"))) rfl
  have a34 := nsH_ok (says_b c 141 (b := fun K => nsH K "_law_changed") rfl)
  obtain ⟨_, _, _, _, _, _, _, _, _, l34, c34⟩ := plH_ok (says_f c 39 (d := ⟨fun K => He.ga K "_law_changed", "_law_changed", "_law_changed", s__law_changed⟩) rfl) (says_b c 142 (b := fun K => plH K (He.ga K "_law_changed") "_law_changed") rfl)
  have k34 : PySem.W.keepIn K (.ref (He.ga K "_law_changed")) = true := says_b c 143 (b := fun K => PySem.W.keepIn K (.ref (He.ga K "_law_changed"))) rfl
  have a35 := nsH_ok (says_b c 144 (b := fun K => nsH K "_law_fault") rfl)
  obtain ⟨_, _, _, _, _, _, _, _, _, l35, c35⟩ := plH_ok (says_f c 40 (d := ⟨fun K => He.ga K "_law_fault", "_law_fault", "_law_fault", s__law_fault⟩) rfl) (says_b c 145 (b := fun K => plH K (He.ga K "_law_fault") "_law_fault") rfl)
  have k35 : PySem.W.keepIn K (.ref (He.ga K "_law_fault")) = true := says_b c 146 (b := fun K => PySem.W.keepIn K (.ref (He.ga K "_law_fault"))) rfl
  have a36 := nsH_ok (says_b c 147 (b := fun K => nsH K "is_prime") rfl)
  obtain ⟨_, _, _, _, _, _, _, _, _, l36, c36⟩ := plH_ok (says_f c 41 (d := ⟨fun K => He.ga K "is_prime", "is_prime", "is_prime", s_is_prime⟩) rfl) (says_b c 148 (b := fun K => plH K (He.ga K "is_prime") "is_prime") rfl)
  have k36 : PySem.W.keepIn K (.ref (He.ga K "is_prime")) = true := says_b c 149 (b := fun K => PySem.W.keepIn K (.ref (He.ga K "is_prime"))) rfl
  have a37 := mtH_ok (says_b c 150 (b := fun K => mtH K (He.ga K "Chars") "__init__") rfl)
  obtain ⟨_, _, _, _, _, _, _, _, _, l37, c37⟩ := plH_ok (says_f c 42 (d := ⟨fun K => He.ma K (He.ga K "Chars") "__init__", "__init__", "Chars.__init__", s_Chars___init__⟩) rfl) (says_b c 151 (b := fun K => plH K (He.ma K (He.ga K "Chars") "__init__") "Chars.__init__") rfl)
  have b37 : methB K (He.ma K (He.ga K "Chars") "__init__") = true := says_b c 152 (b := fun K => methB K (He.ma K (He.ga K "Chars") "__init__")) rfl
  obtain ⟨_, _, a38, r38⟩ := cmH_ok (says_b c 153 (b := fun K => cmH K (He.ga K "Chars") "every") rfl)
  obtain ⟨_, _, _, _, _, _, _, _, _, l38, c38⟩ := plH_ok (says_f c 43 (d := ⟨fun K => cmA K (He.ga K "Chars") "every", "every", "Chars.every", s_Chars_every⟩) rfl) (says_b c 154 (b := fun K => plH K (cmA K (He.ga K "Chars") "every") "Chars.every") rfl)
  have b38 : methB K (cmA K (He.ga K "Chars") "every") = true := says_b c 155 (b := fun K => methB K (cmA K (He.ga K "Chars") "every")) rfl
  have a39 := nsH_ok (says_b c 156 (b := fun K => nsH K "common") rfl)
  obtain ⟨_, _, _, _, _, _, _, _, _, l39, c39⟩ := plH_ok (says_f c 44 (d := ⟨fun K => He.ga K "common", "common", "common", s_common⟩) rfl) (says_b c 157 (b := fun K => plH K (He.ga K "common") "common") rfl)
  have k39 : PySem.W.keepIn K (.ref (He.ga K "common")) = true := says_b c 158 (b := fun K => PySem.W.keepIn K (.ref (He.ga K "common"))) rfl
  have a40 := mtH_ok (says_b c 159 (b := fun K => mtH K (He.ga K "Many") "content") rfl)
  obtain ⟨_, _, _, _, _, _, _, _, _, l40, c40⟩ := plH_ok (says_f c 45 (d := ⟨fun K => He.ma K (He.ga K "Many") "content", "content", "Many.content", s_Many_content⟩) rfl) (says_b c 160 (b := fun K => plH K (He.ma K (He.ga K "Many") "content") "Many.content") rfl)
  have b40 : methB K (He.ma K (He.ga K "Many") "content") = true := says_b c 161 (b := fun K => methB K (He.ma K (He.ga K "Many") "content")) rfl
  have a41 := nsH_ok (says_b c 162 (b := fun K => nsH K "content_of") rfl)
  obtain ⟨_, _, _, _, _, _, _, _, _, l41, c41⟩ := plH_ok (says_f c 46 (d := ⟨fun K => He.ga K "content_of", "content_of", "content_of", s_content_of⟩) rfl) (says_b c 163 (b := fun K => plH K (He.ga K "content_of") "content_of") rfl)
  have k41 : PySem.W.keepIn K (.ref (He.ga K "content_of")) = true := says_b c 164 (b := fun K => PySem.W.keepIn K (.ref (He.ga K "content_of"))) rfl
  have a42 := nsH_ok (says_b c 165 (b := fun K => nsH K "prime_divisors") rfl)
  obtain ⟨_, _, _, _, _, _, _, _, _, l42, c42⟩ := plH_ok (says_f c 47 (d := ⟨fun K => He.ga K "prime_divisors", "prime_divisors", "prime_divisors", s_prime_divisors⟩) rfl) (says_b c 166 (b := fun K => plH K (He.ga K "prime_divisors") "prime_divisors") rfl)
  have k42 : PySem.W.keepIn K (.ref (He.ga K "prime_divisors")) = true := says_b c 167 (b := fun K => PySem.W.keepIn K (.ref (He.ga K "prime_divisors"))) rfl
  obtain ⟨_, _, a43, r43⟩ := cmH_ok (says_b c 168 (b := fun K => cmH K (He.ga K "Chars") "zero_of") rfl)
  obtain ⟨_, _, _, _, _, _, _, _, _, l43, c43⟩ := plH_ok (says_f c 48 (d := ⟨fun K => cmA K (He.ga K "Chars") "zero_of", "zero_of", "Chars.zero_of", s_Chars_zero_of⟩) rfl) (says_b c 169 (b := fun K => plH K (cmA K (He.ga K "Chars") "zero_of") "Chars.zero_of") rfl)
  have b43 : methB K (cmA K (He.ga K "Chars") "zero_of") = true := says_b c 170 (b := fun K => methB K (cmA K (He.ga K "Chars") "zero_of")) rfl
  have a44 := mtH_ok (says_b c 171 (b := fun K => mtH K (He.ga K "Chars") "__invert__") rfl)
  obtain ⟨_, _, _, _, _, _, _, _, _, l44, c44⟩ := plH_ok (says_f c 49 (d := ⟨fun K => He.ma K (He.ga K "Chars") "__invert__", "__invert__", "Chars.__invert__", s_Chars___invert__⟩) rfl) (says_b c 172 (b := fun K => plH K (He.ma K (He.ga K "Chars") "__invert__") "Chars.__invert__") rfl)
  have b44 : methB K (He.ma K (He.ga K "Chars") "__invert__") = true := says_b c 173 (b := fun K => methB K (He.ma K (He.ga K "Chars") "__invert__")) rfl
  obtain ⟨_, _, a45, r45⟩ := cmH_ok (says_b c 174 (b := fun K => cmH K (He.ga K "Chars") "unit_of") rfl)
  obtain ⟨_, _, _, _, _, _, _, _, _, l45, c45⟩ := plH_ok (says_f c 50 (d := ⟨fun K => cmA K (He.ga K "Chars") "unit_of", "unit_of", "Chars.unit_of", s_Chars_unit_of⟩) rfl) (says_b c 175 (b := fun K => plH K (cmA K (He.ga K "Chars") "unit_of") "Chars.unit_of") rfl)
  have b45 : methB K (cmA K (He.ga K "Chars") "unit_of") = true := says_b c 176 (b := fun K => methB K (cmA K (He.ga K "Chars") "unit_of")) rfl
  have a46 := nsH_ok (says_b c 177 (b := fun K => nsH K "shared") rfl)
  obtain ⟨_, _, _, _, _, _, _, _, _, l46, c46⟩ := plH_ok (says_f c 51 (d := ⟨fun K => He.ga K "shared", "shared", "shared", s_shared⟩) rfl) (says_b c 178 (b := fun K => plH K (He.ga K "shared") "shared") rfl)
  have k46 : PySem.W.keepIn K (.ref (He.ga K "shared")) = true := says_b c 179 (b := fun K => PySem.W.keepIn K (.ref (He.ga K "shared"))) rfl
  have a47 := mtH_ok (says_b c 180 (b := fun K => mtH K (He.ga K "Chars") "__and__") rfl)
  obtain ⟨_, _, _, _, _, _, _, _, _, l47, c47⟩ := plH_ok (says_f c 52 (d := ⟨fun K => He.ma K (He.ga K "Chars") "__and__", "__and__", "Chars.__and__", s_Chars___and__⟩) rfl) (says_b c 181 (b := fun K => plH K (He.ma K (He.ga K "Chars") "__and__") "Chars.__and__") rfl)
  have b47 : methB K (He.ma K (He.ga K "Chars") "__and__") = true := says_b c 182 (b := fun K => methB K (He.ma K (He.ga K "Chars") "__and__")) rfl
  have a48 := mtH_ok (says_b c 183 (b := fun K => mtH K (He.ga K "Drawing") "possible") rfl)
  obtain ⟨_, _, _, _, _, _, _, _, _, l48, c48⟩ := plH_ok (says_f c 53 (d := ⟨fun K => He.ma K (He.ga K "Drawing") "possible", "possible", "Drawing.possible", s_Drawing_possible⟩) rfl) (says_b c 184 (b := fun K => plH K (He.ma K (He.ga K "Drawing") "possible") "Drawing.possible") rfl)
  have b48 : methB K (He.ma K (He.ga K "Drawing") "possible") = true := says_b c 185 (b := fun K => methB K (He.ma K (He.ga K "Drawing") "possible")) rfl
  have a49 := mtH_ok (says_b c 186 (b := fun K => mtH K (He.ga K "Drawing") "wanted") rfl)
  obtain ⟨_, _, _, _, _, _, _, _, _, l49, c49⟩ := plH_ok (says_f c 54 (d := ⟨fun K => He.ma K (He.ga K "Drawing") "wanted", "wanted", "Drawing.wanted", s_Drawing_wanted⟩) rfl) (says_b c 187 (b := fun K => plH K (He.ma K (He.ga K "Drawing") "wanted") "Drawing.wanted") rfl)
  have b49 : methB K (He.ma K (He.ga K "Drawing") "wanted") = true := says_b c 188 (b := fun K => methB K (He.ma K (He.ga K "Drawing") "wanted")) rfl
  have a50 := mtH_ok (says_b c 189 (b := fun K => mtH K (He.ga K "Drawing") "understood") rfl)
  obtain ⟨_, _, _, _, _, _, _, _, _, l50, c50⟩ := plH_ok (says_f c 55 (d := ⟨fun K => He.ma K (He.ga K "Drawing") "understood", "understood", "Drawing.understood", s_Drawing_understood⟩) rfl) (says_b c 190 (b := fun K => plH K (He.ma K (He.ga K "Drawing") "understood") "Drawing.understood") rfl)
  have b50 : methB K (He.ma K (He.ga K "Drawing") "understood") = true := says_b c 191 (b := fun K => methB K (He.ma K (He.ga K "Drawing") "understood")) rfl
  have a51 := nsH_ok (says_b c 192 (b := fun K => nsH K "dot") rfl)
  obtain ⟨_, _, _, _, _, _, _, _, _, l51, c51⟩ := plH_ok (says_f c 56 (d := ⟨fun K => He.ga K "dot", "dot", "dot", s_dot⟩) rfl) (says_b c 193 (b := fun K => plH K (He.ga K "dot") "dot") rfl)
  have k51 : PySem.W.keepIn K (.ref (He.ga K "dot")) = true := says_b c 194 (b := fun K => PySem.W.keepIn K (.ref (He.ga K "dot"))) rfl
  have a52 := nsH_ok (says_b c 195 (b := fun K => nsH K "volume") rfl)
  obtain ⟨_, _, _, _, _, _, _, _, _, l52, c52⟩ := plH_ok (says_f c 57 (d := ⟨fun K => He.ga K "volume", "volume", "volume", s_volume⟩) rfl) (says_b c 196 (b := fun K => plH K (He.ga K "volume") "volume") rfl)
  have k52 : PySem.W.keepIn K (.ref (He.ga K "volume")) = true := says_b c 197 (b := fun K => PySem.W.keepIn K (.ref (He.ga K "volume"))) rfl
  have a53 := mtH_ok (says_b c 198 (b := fun K => mtH K (He.ga K "Drawing") "conditions") rfl)
  obtain ⟨_, _, _, _, _, _, _, _, _, l53, c53⟩ := plH_ok (says_f c 58 (d := ⟨fun K => He.ma K (He.ga K "Drawing") "conditions", "conditions", "Drawing.conditions", s_Drawing_conditions⟩) rfl) (says_b c 199 (b := fun K => plH K (He.ma K (He.ga K "Drawing") "conditions") "Drawing.conditions") rfl)
  have b53 : methB K (He.ma K (He.ga K "Drawing") "conditions") = true := says_b c 200 (b := fun K => methB K (He.ma K (He.ga K "Drawing") "conditions")) rfl
  have a54 := mtH_ok (says_b c 201 (b := fun K => mtH K (He.ga K "Many") "vanishing") rfl)
  obtain ⟨_, _, _, _, _, _, _, _, _, l54, c54⟩ := plH_ok (says_f c 59 (d := ⟨fun K => He.ma K (He.ga K "Many") "vanishing", "vanishing", "Many.vanishing", s_Many_vanishing⟩) rfl) (says_b c 202 (b := fun K => plH K (He.ma K (He.ga K "Many") "vanishing") "Many.vanishing") rfl)
  have b54 : methB K (He.ma K (He.ga K "Many") "vanishing") = true := says_b c 203 (b := fun K => methB K (He.ma K (He.ga K "Many") "vanishing")) rfl
  have a55 := mtH_ok (says_b c 204 (b := fun K => mtH K (He.ga K "Drawing") "always") rfl)
  obtain ⟨_, _, _, _, _, _, _, _, _, l55, c55⟩ := plH_ok (says_f c 60 (d := ⟨fun K => He.ma K (He.ga K "Drawing") "always", "always", "Drawing.always", s_Drawing_always⟩) rfl) (says_b c 205 (b := fun K => plH K (He.ma K (He.ga K "Drawing") "always") "Drawing.always") rfl)
  have b55 : methB K (He.ma K (He.ga K "Drawing") "always") = true := says_b c 206 (b := fun K => methB K (He.ma K (He.ga K "Drawing") "always")) rfl
  have a56 := nsH_ok (says_b c 207 (b := fun K => nsH K "checked") rfl)
  obtain ⟨_, _, _, _, _, _, _, _, _, l56, c56⟩ := plH_ok (says_f c 61 (d := ⟨fun K => He.ga K "checked", "checked", "checked", s_checked⟩) rfl) (says_b c 208 (b := fun K => plH K (He.ga K "checked") "checked") rfl)
  have k56 : PySem.W.keepIn K (.ref (He.ga K "checked")) = true := says_b c 209 (b := fun K => PySem.W.keepIn K (.ref (He.ga K "checked"))) rfl
  have a57 := mtH_ok (says_b c 210 (b := fun K => mtH K (He.ga K "Many") "names") rfl)
  obtain ⟨_, _, _, _, _, _, _, _, _, l57, c57⟩ := plH_ok (says_f c 62 (d := ⟨fun K => He.ma K (He.ga K "Many") "names", "names", "Many.names", s_Many_names⟩) rfl) (says_b c 211 (b := fun K => plH K (He.ma K (He.ga K "Many") "names") "Many.names") rfl)
  have b57 : methB K (He.ma K (He.ga K "Many") "names") = true := says_b c 212 (b := fun K => methB K (He.ma K (He.ga K "Many") "names")) rfl
  have a58 := mtH_ok (says_b c 213 (b := fun K => mtH K (He.ga K "Many") "put") rfl)
  obtain ⟨_, _, _, _, _, _, _, _, _, l58, c58⟩ := plH_ok (says_f c 63 (d := ⟨fun K => He.ma K (He.ga K "Many") "put", "put", "Many.put", s_Many_put⟩) rfl) (says_b c 214 (b := fun K => plH K (He.ma K (He.ga K "Many") "put") "Many.put") rfl)
  have b58 : methB K (He.ma K (He.ga K "Many") "put") = true := says_b c 215 (b := fun K => methB K (He.ma K (He.ga K "Many") "put")) rfl
  have a59 := mtH_ok (says_b c 216 (b := fun K => mtH K (He.ga K "Many") "value") rfl)
  obtain ⟨_, _, _, _, _, _, _, _, _, l59, c59⟩ := plH_ok (says_f c 64 (d := ⟨fun K => He.ma K (He.ga K "Many") "value", "value", "Many.value", s_Many_value⟩) rfl) (says_b c 217 (b := fun K => plH K (He.ma K (He.ga K "Many") "value") "Many.value") rfl)
  have b59 : methB K (He.ma K (He.ga K "Many") "value") = true := says_b c 218 (b := fun K => methB K (He.ma K (He.ga K "Many") "value")) rfl
  have a60 := mtH_ok (says_b c 219 (b := fun K => mtH K (He.ga K "Drawing") "allowed") rfl)
  obtain ⟨_, _, _, _, _, _, _, _, _, l60, c60⟩ := plH_ok (says_f c 65 (d := ⟨fun K => He.ma K (He.ga K "Drawing") "allowed", "allowed", "Drawing.allowed", s_Drawing_allowed⟩) rfl) (says_b c 220 (b := fun K => plH K (He.ma K (He.ga K "Drawing") "allowed") "Drawing.allowed") rfl)
  have b60 : methB K (He.ma K (He.ga K "Drawing") "allowed") = true := says_b c 221 (b := fun K => methB K (He.ma K (He.ga K "Drawing") "allowed")) rfl
  have a61 := mtH_ok (says_b c 222 (b := fun K => mtH K (He.ga K "Drawing") "holds") rfl)
  obtain ⟨_, _, _, _, _, _, _, _, _, l61, c61⟩ := plH_ok (says_f c 66 (d := ⟨fun K => He.ma K (He.ga K "Drawing") "holds", "holds", "Drawing.holds", s_Drawing_holds⟩) rfl) (says_b c 223 (b := fun K => plH K (He.ma K (He.ga K "Drawing") "holds") "Drawing.holds") rfl)
  have b61 : methB K (He.ma K (He.ga K "Drawing") "holds") = true := says_b c 224 (b := fun K => methB K (He.ma K (He.ga K "Drawing") "holds")) rfl
  have a62 := nsH_ok (says_b c 225 (b := fun K => nsH K "rows_of") rfl)
  obtain ⟨_, _, _, _, _, _, _, _, _, l62, c62⟩ := plH_ok (says_f c 67 (d := ⟨fun K => He.ga K "rows_of", "rows_of", "rows_of", s_rows_of__0⟩) rfl) (says_b c 226 (b := fun K => plH K (He.ga K "rows_of") "rows_of") rfl)
  have k62 : PySem.W.keepIn K (.ref (He.ga K "rows_of")) = true := says_b c 227 (b := fun K => PySem.W.keepIn K (.ref (He.ga K "rows_of"))) rfl
  have a63 := nsH_ok (says_b c 225 (b := fun K => nsH K "rows_of") rfl)
  obtain ⟨_, _, _, _, _, _, _, _, _, l63, c63⟩ := plH_ok (says_f c 68 (d := ⟨fun K => He.ga K "rows_of", "rows_of", "rows_of", s_rows_of__1⟩) rfl) (says_b c 226 (b := fun K => plH K (He.ga K "rows_of") "rows_of") rfl)
  have k63 : PySem.W.keepIn K (.ref (He.ga K "rows_of")) = true := says_b c 227 (b := fun K => PySem.W.keepIn K (.ref (He.ga K "rows_of"))) rfl
  have a64 := nsH_ok (says_b c 225 (b := fun K => nsH K "rows_of") rfl)
  obtain ⟨_, _, _, _, _, _, _, _, _, l64, c64⟩ := plH_ok (says_f c 69 (d := ⟨fun K => He.ga K "rows_of", "rows_of", "rows_of", s_rows_of__2⟩) rfl) (says_b c 226 (b := fun K => plH K (He.ga K "rows_of") "rows_of") rfl)
  have k64 : PySem.W.keepIn K (.ref (He.ga K "rows_of")) = true := says_b c 227 (b := fun K => PySem.W.keepIn K (.ref (He.ga K "rows_of"))) rfl
  have a65 := nsH_ok (says_b c 225 (b := fun K => nsH K "rows_of") rfl)
  obtain ⟨_, _, _, _, _, _, _, _, _, l65, c65⟩ := plH_ok (says_f c 70 (d := ⟨fun K => He.ga K "rows_of", "rows_of", "rows_of", s_rows_of__3⟩) rfl) (says_b c 226 (b := fun K => plH K (He.ga K "rows_of") "rows_of") rfl)
  have k65 : PySem.W.keepIn K (.ref (He.ga K "rows_of")) = true := says_b c 227 (b := fun K => PySem.W.keepIn K (.ref (He.ga K "rows_of"))) rfl
  have a66 := nsH_ok (says_b c 225 (b := fun K => nsH K "rows_of") rfl)
  obtain ⟨_, _, _, _, _, _, _, _, _, l66, c66⟩ := plH_ok (says_f c 71 (d := ⟨fun K => He.ga K "rows_of", "rows_of", "rows_of", s_rows_of__4⟩) rfl) (says_b c 226 (b := fun K => plH K (He.ga K "rows_of") "rows_of") rfl)
  have k66 : PySem.W.keepIn K (.ref (He.ga K "rows_of")) = true := says_b c 227 (b := fun K => PySem.W.keepIn K (.ref (He.ga K "rows_of"))) rfl
  have a67 := nsH_ok (says_b c 225 (b := fun K => nsH K "rows_of") rfl)
  obtain ⟨_, _, _, _, _, _, _, _, _, l67, c67⟩ := plH_ok (says_f c 72 (d := ⟨fun K => He.ga K "rows_of", "rows_of", "rows_of", s_rows_of__5⟩) rfl) (says_b c 226 (b := fun K => plH K (He.ga K "rows_of") "rows_of") rfl)
  have k67 : PySem.W.keepIn K (.ref (He.ga K "rows_of")) = true := says_b c 227 (b := fun K => PySem.W.keepIn K (.ref (He.ga K "rows_of"))) rfl
  have a68 := mtH_ok (says_b c 228 (b := fun K => mtH K (He.ga K "Drawing") "breaking") rfl)
  obtain ⟨_, _, _, _, _, _, _, _, _, _, l68, c68, n68⟩ := plK_ok (says_f c 73 (d := ⟨fun K => He.ma K (He.ga K "Drawing") "breaking", "breaking", "Drawing.breaking", s_Drawing_breaking⟩) rfl) (says_b c 229 (b := fun K => plH K (He.ma K (He.ga K "Drawing") "breaking") "Drawing.breaking") rfl) (says_b c 230 (b := fun K => kdH K (He.ma K (He.ga K "Drawing") "breaking") "most" 3) rfl)
  have b68 : methB K (He.ma K (He.ga K "Drawing") "breaking") = true := says_b c 231 (b := fun K => methB K (He.ma K (He.ga K "Drawing") "breaking")) rfl
  have a69 := nsH_ok (says_b c 232 (b := fun K => nsH K "_law_asked") rfl)
  obtain ⟨_, _, _, _, _, _, _, _, _, l69, c69⟩ := plH_ok (says_f c 74 (d := ⟨fun K => He.ga K "_law_asked", "_law_asked", "_law_asked", s__law_asked⟩) rfl) (says_b c 233 (b := fun K => plH K (He.ga K "_law_asked") "_law_asked") rfl)
  have k69 : PySem.W.keepIn K (.ref (He.ga K "_law_asked")) = true := says_b c 234 (b := fun K => PySem.W.keepIn K (.ref (He.ga K "_law_asked"))) rfl
  have a70 := nsH_ok (says_b c 235 (b := fun K => nsH K "law") rfl)
  obtain ⟨_, _, _, _, _, _, _, _, _, l70, c70⟩ := plH_ok (says_f c 75 (d := ⟨fun K => He.ga K "law", "law", "law", s_law⟩) rfl) (says_b c 236 (b := fun K => plH K (He.ga K "law") "law") rfl)
  have k70 : PySem.W.keepIn K (.ref (He.ga K "law")) = true := says_b c 237 (b := fun K => PySem.W.keepIn K (.ref (He.ga K "law"))) rfl
  have z0 := frH_ok (says_b c 238 (b := fun K => frH K mainGlobals "len") rfl)
  have z1 := frH_ok (says_b c 239 (b := fun K => frH K mainGlobals "int") rfl)
  have z2 := frH_ok (says_b c 240 (b := fun K => frH K mainGlobals "range") rfl)
  have z3 := frH_ok (says_b c 241 (b := fun K => frH K mainGlobals "str") rfl)
  have z4 := frH_ok (says_b c 242 (b := fun K => frH K mainGlobals "sorted") rfl)
  have z5 := frH_ok (says_b c 243 (b := fun K => frH K mainGlobals "list") rfl)
  have z6 := frH_ok (says_b c 244 (b := fun K => frH K mainGlobals "max") rfl)
  have z7 := frH_ok (says_b c 245 (b := fun K => frH K mainGlobals "abs") rfl)
  have z8 := frH_ok (says_b c 246 (b := fun K => frH K mainGlobals "all") rfl)
  have z9 := frH_ok (says_b c 247 (b := fun K => frH K mainGlobals "tuple") rfl)
  have z10 := frH_ok (says_b c 248 (b := fun K => frH K mainGlobals "zip") rfl)
  have z11 := frH_ok (says_b c 249 (b := fun K => frH K mainGlobals "enumerate") rfl)
  have z12 := frH_ok (says_b c 250 (b := fun K => frH K mainGlobals "set") rfl)
  have z13 := frH_ok (says_b c 251 (b := fun K => frH K mainGlobals "dict") rfl)
  obtain ⟨_, gg_MOST_LETTERS⟩ := giH_ok (says_b c 252 (b := fun K => giH K "MOST_LETTERS" 8) rfl)
  obtain ⟨_, gg_LETTERS⟩ := gsH_ok (says_b c 253 (b := fun K => gsH K "LETTERS" "abcdefghijklmnopqrstuvwxyzABCDEFGHIJKLMNOPQRSTUVWXYZ") rfl)
  obtain ⟨_, gg_MOST_DIGITS_matrices⟩ := giH_ok (says_b c 254 (b := fun K => giH K "MOST_DIGITS_matrices" 30) rfl)
  obtain ⟨_, gg_MOST_ITEM⟩ := giH_ok (says_b c 255 (b := fun K => giH K "MOST_ITEM" 1000) rfl)
  obtain ⟨_, gg_SAME⟩ := gsH_ok (says_b c 256 (b := fun K => gsH K "SAME" "same") rfl)
  obtain ⟨_, gg_POINT⟩ := gsH_ok (says_b c 257 (b := fun K => gsH K "POINT" "point") rfl)
  have ga_SHAPES := nsH_ok (says_b c 258 (b := fun K => nsH K "SHAPES") rfl)
  obtain ⟨_, _, gl_SHAPES, gk_SHAPES, gm_SHAPES, gx_SHAPES⟩ := esH_ok (p := fun es => tabB K es [("point", some "point", ["number", "number", "number"]), ("free", some "point", []), ("join", some "line", ["point", "point"]), ("meet", some "point", ["line", "line"]), ("on", some "point", ["point", "point"])]) (says_t c 0 (t := fun K => He.ga K "SHAPES") (k := ["point", "free", "join", "meet", "on"]) rfl rfl) (says_b c 259 (b := fun K => esH K (He.ga K "SHAPES") (fun es => tabB K es [("point", some "point", ["number", "number", "number"]), ("free", some "point", []), ("join", some "line", ["point", "point"]), ("meet", some "point", ["line", "line"]), ("on", some "point", ["point", "point"])])) rfl)
  have ga_SENTENCES := nsH_ok (says_b c 260 (b := fun K => nsH K "SENTENCES") rfl)
  obtain ⟨_, _, gl_SENTENCES, gk_SENTENCES, gm_SENTENCES, gx_SENTENCES⟩ := esH_ok (p := fun es => tabB K es [("line", none, ["point", "point", "point"]), ("through", none, ["line", "line", "line"]), ("on", none, ["point", "line"])]) (says_t c 1 (t := fun K => He.ga K "SENTENCES") (k := ["line", "through", "on"]) rfl rfl) (says_b c 261 (b := fun K => esH K (He.ga K "SENTENCES") (fun es => tabB K es [("line", none, ["point", "point", "point"]), ("through", none, ["line", "line", "line"]), ("on", none, ["point", "line"])])) rfl)
  exact all_mk (P := (PySem.Challenge.rw_everyfield_k82_sentences_that_are_none).prog) (w := w) X G hfa eA0 eX0 eR0 eI0 eB0 eL0 eC0 eD0 eV0 eF0 eE0 eA1 eX1 eR1 eI1 eB1 eL1 eC1 eD1 eV1 eF1 eE1 eA2 eX2 eR2 eI2 eB2 eL2 eC2 eD2 eV2 eF2 eE2 eA8 eX8 eR8 eI8 eB8 eL8 eC8 eD8 eV8 eF8 eE8 eA9 eX9 eR9 eI9 eB9 eL9 eC9 eD9 eV9 eF9 eE9 kA20 kB20 kR20 kA24 kB24 kR24 kA27 kB27 eN eY eT eQ1 eQ2 eQ9 qX_24_o_27 a0 l0 c0 k0 a1 l1 c1 k1 a2 l2 c2 k2 a3 l3 c3 k3 a4 l4 c4 k4 a5 l5 c5 k5 a6 l6 c6 k6 a7 l7 c7 k7 a8 l8 c8 k8 a9 l9 c9 k9 a10 l10 c10 k10 a11 l11 c11 k11 a12 l12 c12 k12 a13 l13 c13 k13 a14 l14 c14 k14 a15 l15 c15 k15 a16 l16 c16 k16 a17 l17 c17 b17 a18 l18 c18 k18 a19 l19 c19 b19 a20 r20 l20 c20 b20 a21 r21 l21 c21 b21 a22 l22 c22 b22 a23 l23 c23 k23 a24 l24 c24 b24 a25 l25 c25 b25 a26 l26 c26 b26 a27 l27 c27 b27 a28 l28 c28 k28 a29 l29 c29 b29 a30 l30 c30 b30 a31 l31 c31 b31 a32 l32 c32 k32 a33 l33 c33 k33 a34 l34 c34 k34 a35 l35 c35 k35 a36 l36 c36 k36 a37 l37 c37 b37 a38 r38 l38 c38 b38 a39 l39 c39 k39 a40 l40 c40 b40 a41 l41 c41 k41 a42 l42 c42 k42 a43 r43 l43 c43 b43 a44 l44 c44 b44 a45 r45 l45 c45 b45 a46 l46 c46 k46 a47 l47 c47 b47 a48 l48 c48 b48 a49 l49 c49 b49 a50 l50 c50 b50 a51 l51 c51 k51 a52 l52 c52 k52 a53 l53 c53 b53 a54 l54 c54 b54 a55 l55 c55 b55 a56 l56 c56 k56 a57 l57 c57 b57 a58 l58 c58 b58 a59 l59 c59 b59 a60 l60 c60 b60 a61 l61 c61 b61 a62 l62 c62 k62 a63 l63 c63 k63 a64 l64 c64 k64 a65 l65 c65 k65 a66 l66 c66 k66 a67 l67 c67 k67 a68 l68 c68 b68 n68 a69 l69 c69 k69 a70 l70 c70 k70 z0 z1 z2 z3 z4 z5 z6 z7 z8 z9 z10 z11 z12 z13 gg_MOST_LETTERS gg_LETTERS gg_MOST_DIGITS_matrices gg_MOST_ITEM gg_SAME gg_POINT ga_SHAPES gl_SHAPES gk_SHAPES gm_SHAPES gx_SHAPES ga_SENTENCES gl_SENTENCES gk_SENTENCES gm_SENTENCES gx_SENTENCES
end DW.K82
open PySem PySem.W PySem.Calls PyProof.Rows
set_option maxHeartbeats 0 in
theorem PySem.Challenge.cw_everyfield_k82_sentences_that_are_none_holds : PySem.Challenge.rw_everyfield_k82_sentences_that_are_none.Holds := by
  w_on; o_law
  refine HandSHeadRun.head_any (r := (PySem.W.OpenLaw.row PySem.Challenge.rw_everyfield_k82_sentences_that_are_none)) (q := PySem.W.view (PySem.W.OpenLaw.row PySem.Challenge.rw_everyfield_k82_sentences_that_are_none).prog [67]) (H := DW.K82.hHk) (ob := DW.K82.hOb) (M := 12000) (loose := DW.K82.hNm) (d := HandSHeadRun.topDef (PySem.W.OpenLaw.row PySem.Challenge.rw_everyfield_k82_sentences_that_are_none).prog 67) (kwd := []) DW.K82.hOb_eq
    (by kernel_rfl) (fun s => by kernel_rfl) DW.K82.hRun (by kernel_rfl) (by kernel_rfl) (by kernel_rfl) (by rfl) (by first | assumption | decide +kernel) (by decide +kernel) ⟨rfl, rfl, rfl, rfl, rfl, by decide +kernel⟩ ?hw ?hc
  case hw => w_witness2
  case hc =>
    refine DL.walk_ofH (l := PySem.Challenge.rw_everyfield_k82_sentences_that_are_none) (n := 63) (k := 15) (x := "_law_script") (CX := fun w => L2.CX (PySem.Challenge.rw_everyfield_k82_sentences_that_are_none).prog w) rfl (by decide) (by kernel_rfl) ⟨rfl, by decide, by decide⟩ ?F (fun _ _ _ _ _ h => DL.law_cx h)
    intro w mg fa h Y G hmg0
    obtain ⟨K, KX, c⟩ := Y
    have hmg : mg ("law" : PySem.Str) = some (.ref fa) := by
      have e : (HandSHeadRun.topDef (PySem.W.OpenLaw.row PySem.Challenge.rw_everyfield_k82_sentences_that_are_none).prog 67).name = ("law" : PySem.Str) := by kernel_rfl
      rw [← e]
      exact hmg0
    obtain ⟨fd, hb, hF⟩ := DW.K82.hFacts (w := w) KX G hmg c
    exact ⟨K, fd, DL.spLaw K DW.K82.m_law, KX, hb, fun H a ns hl hbits _ hS => DL.law_sp2 DW.K82.law_holds H a ns hl hbits hS, hF⟩
