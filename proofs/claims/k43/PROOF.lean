import PyProof.Rows.All
import KE.OsRunLaw
import KE.RegKIsAll
import HandS.Words
import PySem.Challenge.RW_treewaits_k43_values_that_are_no_nets
import Wide.All
import OpenK.AllK
import Wide.FinOn
import HandS.ForMost
import HandS.ForExc
import HandS.CallSlots
import HandS.Walk
import KE.KeyNested
import KE.KDictKeyed
import HandS.ExcCtx
import HandS.Slots
import HandS.TupAny
import HandS.TupMul
import HandS.Wide
import HandS.Deep
import HandS.Style
import HandS.Flow
import HandS.Star
import HandS.Property
import HandS.MakeKwOnly
import HandS.Defaults
import HandS.IsInst
import HandS.Conv
import HandS.WordsDict
import KE.GoesEnum
import KE.GoesEnumKw
import HandS.Zip
import HandS.Rev
import HandS.RevTup
import HandS.OwnEq
import HandS.SlotsOwn
import KE.KFmtOwn
import PyProof.InstEq
import PyProof.InstNe
import HandS.ClsMeth
import PyProof.ReprRoads
import HandS.Ends
import HandS.HeadEnd
import HandS.DictComp
import PyProof.Rows.CallKwBuiltin
import KE.SortData
import KE.KRevSl
import KE.KEqDict
import PyProof.DictUpdate
import PyProof.DictDisplay
import KE.KDictSum
import KE.KDictList
import HandS.Dict
import HandS.Records
import HandS.DictSub
import KE.KExcSuper
import HandS.ExcInit
import HandS.ExcOwn
import HandS.ExcValue
import KE.RegKSuper
import HandS.ExcField
import KE.KExcIs
import HandS.ExcIs
import HandS.HotCalls
import HandS.Comp
import HandS.SuiteRaise
import HandS.SetFor
import HandS.TupSets
import HandS.GenList
import KE.DataMinMax
import PyProof.Rows.RowBridgeK
import HandS.SetBool
import HandS.SortKw
import HandS.Text
import HandS.FStr
import KE.KUnpackStar
import HandS.MethStar
import KE.KEqNest
import HandS.HeadHook3
import PyProof.RulesMatch
import KE.KExcPX
import KE.KDictWalk
import HandS.SetKeys
import KE.KDictIter
import KE.KDictDisplayH
import HandS.CallLocal
import HandS.Nested
import HandS.EndTab
import KE.KDictCopyH
import PyProof.ReprLen
section
set_option Elab.async false
set_option linter.all false
set_option maxRecDepth 100000
set_option maxHeartbeats 0
namespace K43E
open PySem PySem.Spec L2
open PyProof.Rows (envOfC)
def topE (i : Nat) : Stmt := PySem.Challenge.pw_treewaits_k43_values_that_are_no_nets.main.body.getD i (.Pass ⟨0, 0, 0, 0⟩)
abbrev eS_mark_of : Stmt := (topE 9)
abbrev eS_Way_points : Stmt := (inClass (topE 51) 2)
abbrev eS_point_parents : Stmt := (topE 10)
abbrev eS_chain_of : Stmt := (topE 11)
abbrev eS_step_from : Stmt := (topE 12)
abbrev eS_Way_takes : Stmt := (inClass (topE 51) 3)
abbrev eS_Way_hops : Stmt := (inClass (topE 51) 4)
abbrev eS_steps_before : Stmt := (topE 13)
abbrev eS_sources : Stmt := (topE 14)
abbrev eS_steps : Stmt := (topE 15)
abbrev eS_begun : Stmt := (topE 19)
abbrev eS_is_number : Stmt := (topE 30)
abbrev eS_is_situation : Stmt := (topE 31)
abbrev eS_is_link : Stmt := (topE 32)
abbrev eS_is_net : Stmt := (topE 33)
abbrev eS_Readeru_initu : Stmt := (inClass (topE 34) 0)
abbrev eS_Reader_has : Stmt := (inClass (topE 34) 4)
abbrev eS_Reader_is_closed : Stmt := (inClass (topE 34) 7)
abbrev eS_holds : Stmt := (topE 35)
abbrev eS_law_bag : Stmt := (topE 53)
abbrev eS_law_take : Stmt := (topE 54)
abbrev eS_law_points : Stmt := (topE 55)
abbrev eS_law_way : Stmt := (topE 56)
abbrev eS_is_integer : Stmt := (topE 40)
abbrev eS_is_place : Stmt := (topE 46)
abbrev eS_checked_points : Stmt := (topE 49)
abbrev eS_is_take : Stmt := (topE 47)
abbrev eS_is_allowed : Stmt := (topE 48)
abbrev eS_checked_takes : Stmt := (topE 50)
abbrev eS_Wayu_initu : Stmt := (inClass (topE 51) 1)
abbrev eS_law_made : Stmt := (topE 57)
abbrev eS_law_situations : Stmt := (topE 58)
abbrev eS_law_odd_nets : Stmt := (topE 59)
abbrev eS_law : Stmt := (topE 60)
abbrev tagH {p : Prop} (_ : p) (H : PySem.W.Hook) : PySem.W.Hook := H
abbrev FactsE (Kf : Params → PySem.W.Frag) : Prop := ∀ (w : World) (R : Prop), (∀ {C0 C1 C2 C3 Ag_MARKS Ag_MODES Ag_QUIET_WORDS Ag_WORDS f0 f1 p1 f2 f3 f4 f5 p5 f6 p6 f7 f8 f9 f10 f11 f12 f13 f14 f15 f16 f17 f18 f19 f20 f21 f22 f23 f24 f25 f26 f27 f28 f29 D29 f30 f31 f32 f33 : Addr} {tg_ALONE tg_ANY tg_HEIGHTS tg_LESSER tg_MARKS_0 tg_MARKS_1 tg_MARKS_2 tg_MODES_0 tg_MODES_1 tg_MODES_2 tg_MOST_POINTS tg_MOST_TAKES tg_NET_PARTS tg_NONE tg_QUIET_WORDS_0 tg_QUIET_WORDS_1 tg_RISING tg_SHARED tg_WORDS_0 tg_WORDS_1 tg_WORDS_2 tk29_hops : Tok} {Dg_MARKS Dg_MODES Dg_QUIET_WORDS Dg_WORDS od0 an0 od1 an1 od2 an2 od3 an3 od4 an4 od5 an5 od6 an6 od7 an7 od8 an8 od9 an9 od10 an10 od11 an11 od12 an12 od13 an13 od14 an14 od15 an15 od16 an16 od17 an17 od18 an18 od19 an19 od20 an20 od21 an21 od22 an22 od23 an23 od24 an24 od25 an25 od26 an26 od27 an27 od28 an28 od29 an29 od30 an30 od31 an31 od32 an32 od33 an33 : Option Addr} {ng_MARKS ng_MODES ng_QUIET_WORDS ng_WORDS : Nat} {sg_MARKS sg_MODES sg_QUIET_WORDS sg_WORDS sl0 sl1 sl2 sl3 sl4 sl5 sl6 sl7 sl8 sl9 sl10 sl11 sl12 sl13 sl14 sl15 sl16 sl17 sl18 sl19 sl20 sl21 sl22 sl23 sl24 sl25 sl26 sl27 sl28 sl29 sl30 sl31 sl32 sl33 : Array (Option Value)} {oc0 dc0 pm0 cd0 ct0 kV0 oc1 dc1 pm1 cd1 ct1 kV1 oc2 dc2 pm2 cd2 ct2 kV2 oc3 dc3 pm3 cd3 ct3 kV3 oc4 dc4 pm4 cd4 ct4 kV4 oc5 dc5 pm5 cd5 ct5 kV5 oc6 dc6 pm6 cd6 ct6 kV6 oc7 dc7 pm7 cd7 ct7 kV7 oc8 dc8 pm8 cd8 ct8 kV8 oc9 dc9 pm9 cd9 ct9 kV9 oc10 dc10 pm10 cd10 ct10 kV10 oc11 dc11 pm11 cd11 ct11 kV11 oc12 dc12 pm12 cd12 ct12 kV12 oc13 dc13 pm13 cd13 ct13 kV13 oc14 dc14 pm14 cd14 ct14 kV14 oc15 dc15 pm15 cd15 ct15 kV15 oc16 dc16 pm16 cd16 ct16 kV16 oc17 dc17 pm17 cd17 ct17 kV17 oc18 dc18 pm18 cd18 ct18 kV18 oc19 dc19 pm19 cd19 ct19 kV19 oc20 dc20 pm20 cd20 ct20 kV20 oc21 dc21 pm21 cd21 ct21 kV21 oc22 dc22 pm22 cd22 ct22 kV22 oc23 dc23 pm23 cd23 ct23 kV23 oc24 dc24 pm24 cd24 ct24 kV24 oc25 dc25 pm25 cd25 ct25 kV25 oc26 dc26 pm26 cd26 ct26 kV26 oc27 dc27 pm27 cd27 ct27 kV27 oc28 dc28 pm28 cd28 ct28 kV28 oc29 dc29 pm29 cd29 ct29 oc30 dc30 pm30 cd30 ct30 kV30 oc31 dc31 pm31 cd31 ct31 kV31 oc32 dc32 pm32 cd32 ct32 kV32 oc33 dc33 pm33 cd33 ct33 kV33 : Value} {rs1 rs5 rs6 : List Value},
    (PySem.W.nsIn (Kf w.params) mainGlobals "Reader" = some (some (.ref C0))) →
    (PySem.W.nsIn (Kf w.params) mainGlobals "WaitError" = some (some (.ref C1))) →
    (PySem.W.nsIn (Kf w.params) mainGlobals "BadWay" = some (some (.ref C2))) →
    (PySem.W.nsIn (Kf w.params) mainGlobals "Way" = some (some (.ref C3))) →
    (PySem.W.plainGet (Kf w.params) C0 Str.empty = true) →
    (PySem.W.hasDictIn (Kf w.params) C0 = true) →
    (PySem.W.plainOver (Kf w.params) C0 = true) →
    (PySem.W.findIn (Kf w.params) (.ref C0) "__setattr__" = some (some (.builtin "object.__setattr__"))) →
    (PySem.W.plainGet (Kf w.params) C3 Str.empty = true) →
    (PySem.W.hasDictIn (Kf w.params) C3 = true) →
    (PySem.W.plainOver (Kf w.params) C3 = true) →
    (PySem.W.findIn (Kf w.params) (.ref C3) "__setattr__" = some (some (.builtin "object.__setattr__"))) →
    (PySem.W.nsIn (Kf w.params) mainGlobals "ALONE" = some (some (.str "alone" tg_ALONE))) →
    (PySem.W.nsIn (Kf w.params) mainGlobals "ANY" = some (some (.str "any" tg_ANY))) →
    (PySem.W.nsIn (Kf w.params) mainGlobals "HEIGHTS" = some (some (.int (5) tg_HEIGHTS))) →
    (PySem.W.nsIn (Kf w.params) mainGlobals "LESSER" = some (some (.str "lesser" tg_LESSER))) →
    (PySem.W.nsIn (Kf w.params) mainGlobals "MARKS" = some (some (.ref Ag_MARKS))) →
    ((Kf w.params).lookup Ag_MARKS = some ⟨.type "tuple", Dg_MARKS, .seq #[(.str "none" tg_MARKS_0), (.str "shared" tg_MARKS_1), (.str "alone" tg_MARKS_2)] ng_MARKS, sg_MARKS⟩) →
    (PySem.W.nsIn (Kf w.params) mainGlobals "MODES" = some (some (.ref Ag_MODES))) →
    ((Kf w.params).lookup Ag_MODES = some ⟨.type "tuple", Dg_MODES, .seq #[(.str "shared" tg_MODES_0), (.str "alone" tg_MODES_1), (.str "rising" tg_MODES_2)] ng_MODES, sg_MODES⟩) →
    (PySem.W.nsIn (Kf w.params) mainGlobals "MOST_POINTS" = some (some (.int (4) tg_MOST_POINTS))) →
    (PySem.W.nsIn (Kf w.params) mainGlobals "MOST_TAKES" = some (some (.int (5) tg_MOST_TAKES))) →
    (PySem.W.nsIn (Kf w.params) mainGlobals "NET_PARTS" = some (some (.int (3) tg_NET_PARTS))) →
    (PySem.W.nsIn (Kf w.params) mainGlobals "NONE" = some (some (.str "none" tg_NONE))) →
    (PySem.W.nsIn (Kf w.params) mainGlobals "QUIET_WORDS" = some (some (.ref Ag_QUIET_WORDS))) →
    ((Kf w.params).lookup Ag_QUIET_WORDS = some ⟨.type "tuple", Dg_QUIET_WORDS, .seq #[(.str "try" tg_QUIET_WORDS_0), (.str "leap" tg_QUIET_WORDS_1)] ng_QUIET_WORDS, sg_QUIET_WORDS⟩) →
    (PySem.W.nsIn (Kf w.params) mainGlobals "RISING" = some (some (.str "rising" tg_RISING))) →
    (PySem.W.nsIn (Kf w.params) mainGlobals "SHARED" = some (some (.str "shared" tg_SHARED))) →
    (PySem.W.nsIn (Kf w.params) mainGlobals "WORDS" = some (some (.ref Ag_WORDS))) →
    ((Kf w.params).lookup Ag_WORDS = some ⟨.type "tuple", Dg_WORDS, .seq #[(.str "take" tg_WORDS_0), (.str "try" tg_WORDS_1), (.str "leap" tg_WORDS_2)] ng_WORDS, sg_WORDS⟩) →
    (PySem.W.findIn (Kf w.params) (.ref C0) "next_ones" = some none) →
    (PySem.W.findIn (Kf w.params) (.ref C0) "places" = some none) →
    (PySem.W.findIn (Kf w.params) (.ref C0) "stops" = some none) →
    (PySem.W.findIn (Kf w.params) (.ref C3) "locks" = some none) →
    (PySem.W.findIn (Kf w.params) (.ref C3) "places" = some none) →
    (PySem.W.findIn (Kf w.params) (.ref C3) "walked" = some none) →
    (PySem.W.nsIn (Kf w.params) mainGlobals "abs" = some none) →
    (PySem.W.nsIn (Kf w.params) mainGlobals "all" = some none) →
    (PySem.W.nsIn (Kf w.params) mainGlobals "bool" = some none) →
    (PySem.W.nsIn (Kf w.params) mainGlobals "dict" = some none) →
    (PySem.W.nsIn (Kf w.params) mainGlobals "enumerate" = some none) →
    (PySem.W.nsIn (Kf w.params) mainGlobals "int" = some none) →
    (PySem.W.nsIn (Kf w.params) mainGlobals "isinstance" = some none) →
    (PySem.W.nsIn (Kf w.params) mainGlobals "len" = some none) →
    (PySem.W.nsIn (Kf w.params) mainGlobals "list" = some none) →
    (PySem.W.nsIn (Kf w.params) mainGlobals "max" = some none) →
    (PySem.W.nsIn (Kf w.params) mainGlobals "min" = some none) →
    (PySem.W.nsIn (Kf w.params) mainGlobals "range" = some none) →
    (PySem.W.nsIn (Kf w.params) mainGlobals "repr" = some none) →
    (PySem.W.nsIn (Kf w.params) mainGlobals "reversed" = some none) →
    (PySem.W.nsIn (Kf w.params) mainGlobals "sorted" = some none) →
    (PySem.W.nsIn (Kf w.params) mainGlobals "str" = some none) →
    (PySem.W.nsIn (Kf w.params) mainGlobals "tuple" = some none) →
    (PySem.W.nsIn (Kf w.params) mainGlobals "mark_of" = some (some (.ref f0))) →
    ((Kf w.params).lookup f0 = some ⟨oc0, od0, .func (PySem.W.fnOf "mark_of" "mark_of" (defArgs eS_mark_of) (defBody eS_mark_of) (defScope eS_mark_of) .none kV0 dc0 pm0 an0 cd0 ct0), sl0⟩) →
    (PySem.W.codeIn (Kf w.params) cd0 "mark_of" = true) →
    (PySem.W.keepIn (Kf w.params) (.ref f0) = true) →
    (PySem.W.findIn (Kf w.params) (.ref C3) "points" = some (some (.ref p1))) →
    (PySem.W.specialIn (Kf w.params) (.ref p1) "__get__" = some (some (.builtin "property.__get__"))) →
    (PySem.W.takesIn (Kf w.params) (.ref p1) = some true) →
    (PySem.W.recIn (Kf w.params) p1 "property" = some (.ref f1 :: rs1)) →
    ((Kf w.params).lookup f1 = some ⟨oc1, od1, .func (PySem.W.fnOf "points" "Way.points" (defArgs eS_Way_points) (defBody eS_Way_points) (defScope eS_Way_points) .none kV1 dc1 pm1 an1 cd1 ct1), sl1⟩) →
    (PySem.W.codeIn (Kf w.params) cd1 "Way.points" = true) →
    (PySem.W.keepIn (Kf w.params) (.ref f1) = true) →
    (PySem.W.nsIn (Kf w.params) mainGlobals "point_parents" = some (some (.ref f2))) →
    ((Kf w.params).lookup f2 = some ⟨oc2, od2, .func (PySem.W.fnOf "point_parents" "point_parents" (defArgs eS_point_parents) (defBody eS_point_parents) (defScope eS_point_parents) .none kV2 dc2 pm2 an2 cd2 ct2), sl2⟩) →
    (PySem.W.codeIn (Kf w.params) cd2 "point_parents" = true) →
    (PySem.W.keepIn (Kf w.params) (.ref f2) = true) →
    (PySem.W.nsIn (Kf w.params) mainGlobals "chain_of" = some (some (.ref f3))) →
    ((Kf w.params).lookup f3 = some ⟨oc3, od3, .func (PySem.W.fnOf "chain_of" "chain_of" (defArgs eS_chain_of) (defBody eS_chain_of) (defScope eS_chain_of) .none kV3 dc3 pm3 an3 cd3 ct3), sl3⟩) →
    (PySem.W.codeIn (Kf w.params) cd3 "chain_of" = true) →
    (PySem.W.keepIn (Kf w.params) (.ref f3) = true) →
    (PySem.W.nsIn (Kf w.params) mainGlobals "step_from" = some (some (.ref f4))) →
    ((Kf w.params).lookup f4 = some ⟨oc4, od4, .func (PySem.W.fnOf "step_from" "step_from" (defArgs eS_step_from) (defBody eS_step_from) (defScope eS_step_from) .none kV4 dc4 pm4 an4 cd4 ct4), sl4⟩) →
    (PySem.W.codeIn (Kf w.params) cd4 "step_from" = true) →
    (PySem.W.keepIn (Kf w.params) (.ref f4) = true) →
    (PySem.W.findIn (Kf w.params) (.ref C3) "takes" = some (some (.ref p5))) →
    (PySem.W.specialIn (Kf w.params) (.ref p5) "__get__" = some (some (.builtin "property.__get__"))) →
    (PySem.W.takesIn (Kf w.params) (.ref p5) = some true) →
    (PySem.W.recIn (Kf w.params) p5 "property" = some (.ref f5 :: rs5)) →
    ((Kf w.params).lookup f5 = some ⟨oc5, od5, .func (PySem.W.fnOf "takes" "Way.takes" (defArgs eS_Way_takes) (defBody eS_Way_takes) (defScope eS_Way_takes) .none kV5 dc5 pm5 an5 cd5 ct5), sl5⟩) →
    (PySem.W.codeIn (Kf w.params) cd5 "Way.takes" = true) →
    (PySem.W.keepIn (Kf w.params) (.ref f5) = true) →
    (PySem.W.findIn (Kf w.params) (.ref C3) "hops" = some (some (.ref p6))) →
    (PySem.W.specialIn (Kf w.params) (.ref p6) "__get__" = some (some (.builtin "property.__get__"))) →
    (PySem.W.takesIn (Kf w.params) (.ref p6) = some true) →
    (PySem.W.recIn (Kf w.params) p6 "property" = some (.ref f6 :: rs6)) →
    ((Kf w.params).lookup f6 = some ⟨oc6, od6, .func (PySem.W.fnOf "hops" "Way.hops" (defArgs eS_Way_hops) (defBody eS_Way_hops) (defScope eS_Way_hops) .none kV6 dc6 pm6 an6 cd6 ct6), sl6⟩) →
    (PySem.W.codeIn (Kf w.params) cd6 "Way.hops" = true) →
    (PySem.W.keepIn (Kf w.params) (.ref f6) = true) →
    (PySem.W.nsIn (Kf w.params) mainGlobals "steps_before" = some (some (.ref f7))) →
    ((Kf w.params).lookup f7 = some ⟨oc7, od7, .func (PySem.W.fnOf "steps_before" "steps_before" (defArgs eS_steps_before) (defBody eS_steps_before) (defScope eS_steps_before) .none kV7 dc7 pm7 an7 cd7 ct7), sl7⟩) →
    (PySem.W.codeIn (Kf w.params) cd7 "steps_before" = true) →
    (PySem.W.keepIn (Kf w.params) (.ref f7) = true) →
    (PySem.W.nsIn (Kf w.params) mainGlobals "sources" = some (some (.ref f8))) →
    ((Kf w.params).lookup f8 = some ⟨oc8, od8, .func (PySem.W.fnOf "sources" "sources" (defArgs eS_sources) (defBody eS_sources) (defScope eS_sources) .none kV8 dc8 pm8 an8 cd8 ct8), sl8⟩) →
    (PySem.W.codeIn (Kf w.params) cd8 "sources" = true) →
    (PySem.W.keepIn (Kf w.params) (.ref f8) = true) →
    (PySem.W.nsIn (Kf w.params) mainGlobals "steps" = some (some (.ref f9))) →
    ((Kf w.params).lookup f9 = some ⟨oc9, od9, .func (PySem.W.fnOf "steps" "steps" (defArgs eS_steps) (defBody eS_steps) (defScope eS_steps) .none kV9 dc9 pm9 an9 cd9 ct9), sl9⟩) →
    (PySem.W.codeIn (Kf w.params) cd9 "steps" = true) →
    (PySem.W.keepIn (Kf w.params) (.ref f9) = true) →
    (PySem.W.nsIn (Kf w.params) mainGlobals "begun" = some (some (.ref f10))) →
    ((Kf w.params).lookup f10 = some ⟨oc10, od10, .func (PySem.W.fnOf "begun" "begun" (defArgs eS_begun) (defBody eS_begun) (defScope eS_begun) .none kV10 dc10 pm10 an10 cd10 ct10), sl10⟩) →
    (PySem.W.codeIn (Kf w.params) cd10 "begun" = true) →
    (PySem.W.keepIn (Kf w.params) (.ref f10) = true) →
    (PySem.W.nsIn (Kf w.params) mainGlobals "is_number" = some (some (.ref f11))) →
    ((Kf w.params).lookup f11 = some ⟨oc11, od11, .func (PySem.W.fnOf "is_number" "is_number" (defArgs eS_is_number) (defBody eS_is_number) (defScope eS_is_number) .none kV11 dc11 pm11 an11 cd11 ct11), sl11⟩) →
    (PySem.W.codeIn (Kf w.params) cd11 "is_number" = true) →
    (PySem.W.keepIn (Kf w.params) (.ref f11) = true) →
    (PySem.W.nsIn (Kf w.params) mainGlobals "is_situation" = some (some (.ref f12))) →
    ((Kf w.params).lookup f12 = some ⟨oc12, od12, .func (PySem.W.fnOf "is_situation" "is_situation" (defArgs eS_is_situation) (defBody eS_is_situation) (defScope eS_is_situation) .none kV12 dc12 pm12 an12 cd12 ct12), sl12⟩) →
    (PySem.W.codeIn (Kf w.params) cd12 "is_situation" = true) →
    (PySem.W.keepIn (Kf w.params) (.ref f12) = true) →
    (PySem.W.nsIn (Kf w.params) mainGlobals "is_link" = some (some (.ref f13))) →
    ((Kf w.params).lookup f13 = some ⟨oc13, od13, .func (PySem.W.fnOf "is_link" "is_link" (defArgs eS_is_link) (defBody eS_is_link) (defScope eS_is_link) .none kV13 dc13 pm13 an13 cd13 ct13), sl13⟩) →
    (PySem.W.codeIn (Kf w.params) cd13 "is_link" = true) →
    (PySem.W.keepIn (Kf w.params) (.ref f13) = true) →
    (PySem.W.nsIn (Kf w.params) mainGlobals "is_net" = some (some (.ref f14))) →
    ((Kf w.params).lookup f14 = some ⟨oc14, od14, .func (PySem.W.fnOf "is_net" "is_net" (defArgs eS_is_net) (defBody eS_is_net) (defScope eS_is_net) .none kV14 dc14 pm14 an14 cd14 ct14), sl14⟩) →
    (PySem.W.codeIn (Kf w.params) cd14 "is_net" = true) →
    (PySem.W.keepIn (Kf w.params) (.ref f14) = true) →
    (PySem.W.findIn (Kf w.params) (.ref C0) "__init__" = some (some (.ref f15))) →
    (PySem.W.isFn (Kf w.params) (.ref f15) = true) →
    ((Kf w.params).lookup f15 = some ⟨oc15, od15, .func (PySem.W.fnOf "__init__" "Reader.__init__" (defArgs eS_Readeru_initu) (defBody eS_Readeru_initu) (defScope eS_Readeru_initu) .none kV15 dc15 pm15 an15 cd15 ct15), sl15⟩) →
    (PySem.W.codeIn (Kf w.params) cd15 "Reader.__init__" = true) →
    (PySem.W.keepIn (Kf w.params) (.ref f15) = true) →
    (PySem.W.makesIn (Kf w.params) C0 = true) →
    (PySem.W.keepIn (Kf w.params) (.ref C0) = true) →
    (PySem.W.findIn (Kf w.params) (.ref C0) "has" = some (some (.ref f16))) →
    (PySem.W.isFn (Kf w.params) (.ref f16) = true) →
    ((Kf w.params).lookup f16 = some ⟨oc16, od16, .func (PySem.W.fnOf "has" "Reader.has" (defArgs eS_Reader_has) (defBody eS_Reader_has) (defScope eS_Reader_has) .none kV16 dc16 pm16 an16 cd16 ct16), sl16⟩) →
    (PySem.W.codeIn (Kf w.params) cd16 "Reader.has" = true) →
    (PySem.W.keepIn (Kf w.params) (.ref f16) = true) →
    (PySem.W.findIn (Kf w.params) (.ref C0) "is_closed" = some (some (.ref f17))) →
    (PySem.W.isFn (Kf w.params) (.ref f17) = true) →
    ((Kf w.params).lookup f17 = some ⟨oc17, od17, .func (PySem.W.fnOf "is_closed" "Reader.is_closed" (defArgs eS_Reader_is_closed) (defBody eS_Reader_is_closed) (defScope eS_Reader_is_closed) .none kV17 dc17 pm17 an17 cd17 ct17), sl17⟩) →
    (PySem.W.codeIn (Kf w.params) cd17 "Reader.is_closed" = true) →
    (PySem.W.keepIn (Kf w.params) (.ref f17) = true) →
    (PySem.W.nsIn (Kf w.params) mainGlobals "holds" = some (some (.ref f18))) →
    ((Kf w.params).lookup f18 = some ⟨oc18, od18, .func (PySem.W.fnOf "holds" "holds" (defArgs eS_holds) (defBody eS_holds) (defScope eS_holds) .none kV18 dc18 pm18 an18 cd18 ct18), sl18⟩) →
    (PySem.W.codeIn (Kf w.params) cd18 "holds" = true) →
    (PySem.W.keepIn (Kf w.params) (.ref f18) = true) →
    (PySem.W.nsIn (Kf w.params) mainGlobals "_law_bag" = some (some (.ref f19))) →
    ((Kf w.params).lookup f19 = some ⟨oc19, od19, .func (PySem.W.fnOf "_law_bag" "_law_bag" (defArgs eS_law_bag) (defBody eS_law_bag) (defScope eS_law_bag) .none kV19 dc19 pm19 an19 cd19 ct19), sl19⟩) →
    (PySem.W.codeIn (Kf w.params) cd19 "_law_bag" = true) →
    (PySem.W.keepIn (Kf w.params) (.ref f19) = true) →
    (PySem.W.nsIn (Kf w.params) mainGlobals "_law_take" = some (some (.ref f20))) →
    ((Kf w.params).lookup f20 = some ⟨oc20, od20, .func (PySem.W.fnOf "_law_take" "_law_take" (defArgs eS_law_take) (defBody eS_law_take) (defScope eS_law_take) .none kV20 dc20 pm20 an20 cd20 ct20), sl20⟩) →
    (PySem.W.codeIn (Kf w.params) cd20 "_law_take" = true) →
    (PySem.W.keepIn (Kf w.params) (.ref f20) = true) →
    (PySem.W.nsIn (Kf w.params) mainGlobals "_law_points" = some (some (.ref f21))) →
    ((Kf w.params).lookup f21 = some ⟨oc21, od21, .func (PySem.W.fnOf "_law_points" "_law_points" (defArgs eS_law_points) (defBody eS_law_points) (defScope eS_law_points) .none kV21 dc21 pm21 an21 cd21 ct21), sl21⟩) →
    (PySem.W.codeIn (Kf w.params) cd21 "_law_points" = true) →
    (PySem.W.keepIn (Kf w.params) (.ref f21) = true) →
    (PySem.W.nsIn (Kf w.params) mainGlobals "_law_way" = some (some (.ref f22))) →
    ((Kf w.params).lookup f22 = some ⟨oc22, od22, .func (PySem.W.fnOf "_law_way" "_law_way" (defArgs eS_law_way) (defBody eS_law_way) (defScope eS_law_way) .none kV22 dc22 pm22 an22 cd22 ct22), sl22⟩) →
    (PySem.W.codeIn (Kf w.params) cd22 "_law_way" = true) →
    (PySem.W.keepIn (Kf w.params) (.ref f22) = true) →
    (PySem.W.nsIn (Kf w.params) mainGlobals "is_integer" = some (some (.ref f23))) →
    ((Kf w.params).lookup f23 = some ⟨oc23, od23, .func (PySem.W.fnOf "is_integer" "is_integer" (defArgs eS_is_integer) (defBody eS_is_integer) (defScope eS_is_integer) .none kV23 dc23 pm23 an23 cd23 ct23), sl23⟩) →
    (PySem.W.codeIn (Kf w.params) cd23 "is_integer" = true) →
    (PySem.W.keepIn (Kf w.params) (.ref f23) = true) →
    (PySem.W.nsIn (Kf w.params) mainGlobals "is_place" = some (some (.ref f24))) →
    ((Kf w.params).lookup f24 = some ⟨oc24, od24, .func (PySem.W.fnOf "is_place" "is_place" (defArgs eS_is_place) (defBody eS_is_place) (defScope eS_is_place) .none kV24 dc24 pm24 an24 cd24 ct24), sl24⟩) →
    (PySem.W.codeIn (Kf w.params) cd24 "is_place" = true) →
    (PySem.W.keepIn (Kf w.params) (.ref f24) = true) →
    (PySem.W.nsIn (Kf w.params) mainGlobals "checked_points" = some (some (.ref f25))) →
    ((Kf w.params).lookup f25 = some ⟨oc25, od25, .func (PySem.W.fnOf "checked_points" "checked_points" (defArgs eS_checked_points) (defBody eS_checked_points) (defScope eS_checked_points) .none kV25 dc25 pm25 an25 cd25 ct25), sl25⟩) →
    (PySem.W.codeIn (Kf w.params) cd25 "checked_points" = true) →
    (PySem.W.keepIn (Kf w.params) (.ref f25) = true) →
    (PySem.W.nsIn (Kf w.params) mainGlobals "is_take" = some (some (.ref f26))) →
    ((Kf w.params).lookup f26 = some ⟨oc26, od26, .func (PySem.W.fnOf "is_take" "is_take" (defArgs eS_is_take) (defBody eS_is_take) (defScope eS_is_take) .none kV26 dc26 pm26 an26 cd26 ct26), sl26⟩) →
    (PySem.W.codeIn (Kf w.params) cd26 "is_take" = true) →
    (PySem.W.keepIn (Kf w.params) (.ref f26) = true) →
    (PySem.W.nsIn (Kf w.params) mainGlobals "is_allowed" = some (some (.ref f27))) →
    ((Kf w.params).lookup f27 = some ⟨oc27, od27, .func (PySem.W.fnOf "is_allowed" "is_allowed" (defArgs eS_is_allowed) (defBody eS_is_allowed) (defScope eS_is_allowed) .none kV27 dc27 pm27 an27 cd27 ct27), sl27⟩) →
    (PySem.W.codeIn (Kf w.params) cd27 "is_allowed" = true) →
    (PySem.W.keepIn (Kf w.params) (.ref f27) = true) →
    (PySem.W.nsIn (Kf w.params) mainGlobals "checked_takes" = some (some (.ref f28))) →
    ((Kf w.params).lookup f28 = some ⟨oc28, od28, .func (PySem.W.fnOf "checked_takes" "checked_takes" (defArgs eS_checked_takes) (defBody eS_checked_takes) (defScope eS_checked_takes) .none kV28 dc28 pm28 an28 cd28 ct28), sl28⟩) →
    (PySem.W.codeIn (Kf w.params) cd28 "checked_takes" = true) →
    (PySem.W.keepIn (Kf w.params) (.ref f28) = true) →
    (PySem.W.findIn (Kf w.params) (.ref C3) "__init__" = some (some (.ref f29))) →
    (PySem.W.isFn (Kf w.params) (.ref f29) = true) →
    ((Kf w.params).lookup f29 = some ⟨oc29, od29, .func (PySem.W.fnOf "__init__" "Way.__init__" (defArgs eS_Wayu_initu) (defBody eS_Wayu_initu) (defScope eS_Wayu_initu) .none (.ref D29) dc29 pm29 an29 cd29 ct29), sl29⟩) →
    (PySem.W.codeIn (Kf w.params) cd29 "Way.__init__" = true) →
    (PySem.W.keepIn (Kf w.params) (.ref f29) = true) →
    (PySem.W.nsIn (Kf w.params) D29 "hops" = some (some (.int (0) tk29_hops))) →
    (PySem.W.makesIn (Kf w.params) C3 = true) →
    (PySem.W.keepIn (Kf w.params) (.ref C3) = true) →
    (PySem.W.nsIn (Kf w.params) mainGlobals "_law_made" = some (some (.ref f30))) →
    ((Kf w.params).lookup f30 = some ⟨oc30, od30, .func (PySem.W.fnOf "_law_made" "_law_made" (defArgs eS_law_made) (defBody eS_law_made) (defScope eS_law_made) .none kV30 dc30 pm30 an30 cd30 ct30), sl30⟩) →
    (PySem.W.codeIn (Kf w.params) cd30 "_law_made" = true) →
    (PySem.W.keepIn (Kf w.params) (.ref f30) = true) →
    (PySem.W.nsIn (Kf w.params) mainGlobals "_law_situations" = some (some (.ref f31))) →
    ((Kf w.params).lookup f31 = some ⟨oc31, od31, .func (PySem.W.fnOf "_law_situations" "_law_situations" (defArgs eS_law_situations) (defBody eS_law_situations) (defScope eS_law_situations) .none kV31 dc31 pm31 an31 cd31 ct31), sl31⟩) →
    (PySem.W.codeIn (Kf w.params) cd31 "_law_situations" = true) →
    (PySem.W.keepIn (Kf w.params) (.ref f31) = true) →
    (PySem.W.nsIn (Kf w.params) mainGlobals "_law_odd_nets" = some (some (.ref f32))) →
    ((Kf w.params).lookup f32 = some ⟨oc32, od32, .func (PySem.W.fnOf "_law_odd_nets" "_law_odd_nets" (defArgs eS_law_odd_nets) (defBody eS_law_odd_nets) (defScope eS_law_odd_nets) .none kV32 dc32 pm32 an32 cd32 ct32), sl32⟩) →
    (PySem.W.codeIn (Kf w.params) cd32 "_law_odd_nets" = true) →
    (PySem.W.keepIn (Kf w.params) (.ref f32) = true) →
    (PySem.W.nsIn (Kf w.params) mainGlobals "law" = some (some (.ref f33))) →
    ((Kf w.params).lookup f33 = some ⟨oc33, od33, .func (PySem.W.fnOf "law" "law" (defArgs eS_law) (defBody eS_law) (defScope eS_law) .none kV33 dc33 pm33 an33 cd33 ct33), sl33⟩) →
    (PySem.W.codeIn (Kf w.params) cd33 "law" = true) →
    (PySem.W.keepIn (Kf w.params) (.ref f33) = true) → R) → R
end K43E
section
open PySem PySem.W PyProof.Rows
local macro_rules | `(tactic| o_headL ($f:ident $a:term $b:term $c:term)) => `(tactic| o_headL (K43E.tagH $(Lean.mkIdent `hx) ($f $a $b $c)))
set_option maxRecDepth 100000 in
set_option maxHeartbeats 0 in
theorem K43E.early (hx : ∀ (q : Program) (loose : List Str) (XP : (Str → Option Value) → Heap → Prop) (Kf : Params → PySem.W.Frag) (d : DefRec), d.params.defaults = [] → d.name = "law" → K43E.FactsE Kf →
    PySem.W.WalkO q loose XP (PySem.W.InK Kf) PySem.Challenge.rw_treewaits_k43_values_that_are_no_nets.row.toRowW d [] (fun f vs => PySem.call f vs)) : PySem.Challenge.rw_treewaits_k43_values_that_are_no_nets.Holds := by
  w_on; o_law; k_headL; (case hw => w_witness2)
  k_fill
  refine hx _ _ _ _ _ rfl rfl ?_
  intro w R k
  refine' k ?aC0 ?aC1 ?aC2 ?aC3 ?pg0 ?hd0 ?po0 ?sa0 ?pg3 ?hd3 ?po3 ?sa3 ?gg_ALONE ?gg_ANY ?gg_HEIGHTS ?gg_LESSER ?gg_MARKS ?lkg_MARKS ?gg_MODES ?lkg_MODES ?gg_MOST_POINTS ?gg_MOST_TAKES ?gg_NET_PARTS ?gg_NONE ?gg_QUIET_WORDS ?lkg_QUIET_WORDS ?gg_RISING ?gg_SHARED ?gg_WORDS ?lkg_WORDS ?fn_Reader_next_ones ?fn_Reader_places ?fn_Reader_stops ?fn_Way_locks ?fn_Way_places ?fn_Way_walked ?z_abs ?z_all ?z_bool ?z_dict ?z_enumerate ?z_int ?z_isinstance ?z_len ?z_list ?z_max ?z_min ?z_range ?z_repr ?z_reversed ?z_sorted ?z_str ?z_tuple ?a0 ?l0 ?c0 ?k0 ?a1 ?gq1 ?t1 ?r1 ?l1 ?c1 ?k1 ?a2 ?l2 ?c2 ?k2 ?a3 ?l3 ?c3 ?k3 ?a4 ?l4 ?c4 ?k4 ?a5 ?gq5 ?t5 ?r5 ?l5 ?c5 ?k5 ?a6 ?gq6 ?t6 ?r6 ?l6 ?c6 ?k6 ?a7 ?l7 ?c7 ?k7 ?a8 ?l8 ?c8 ?k8 ?a9 ?l9 ?c9 ?k9 ?a10 ?l10 ?c10 ?k10 ?a11 ?l11 ?c11 ?k11 ?a12 ?l12 ?c12 ?k12 ?a13 ?l13 ?c13 ?k13 ?a14 ?l14 ?c14 ?k14 ?a15 ?i15 ?l15 ?c15 ?k15 ?mk0 ?kc0 ?a16 ?i16 ?l16 ?c16 ?k16 ?a17 ?i17 ?l17 ?c17 ?k17 ?a18 ?l18 ?c18 ?k18 ?a19 ?l19 ?c19 ?k19 ?a20 ?l20 ?c20 ?k20 ?a21 ?l21 ?c21 ?k21 ?a22 ?l22 ?c22 ?k22 ?a23 ?l23 ?c23 ?k23 ?a24 ?l24 ?c24 ?k24 ?a25 ?l25 ?c25 ?k25 ?a26 ?l26 ?c26 ?k26 ?a27 ?l27 ?c27 ?k27 ?a28 ?l28 ?c28 ?k28 ?a29 ?i29 ?l29 ?c29 ?k29 ?kw29_hops ?mk3 ?kc3 ?a30 ?l30 ?c30 ?k30 ?a31 ?l31 ?c31 ?k31 ?a32 ?l32 ?c32 ?k32 ?a33 ?l33 ?c33 ?k33
  (case aC0 => as_aux_lemma => (first | k_is | kit_is))
  (case aC1 => as_aux_lemma => (first | k_is | kit_is))
  (case aC2 => as_aux_lemma => (first | k_is | kit_is))
  (case aC3 => as_aux_lemma => (first | k_is | kit_is))
  (case pg0 => as_aux_lemma => (first | k_is | kit_is))
  (case hd0 => as_aux_lemma => (first | k_is | kit_is))
  (case po0 => as_aux_lemma => (first | k_is | kit_is))
  (case sa0 => as_aux_lemma => (first | k_is | kit_is))
  (case pg3 => as_aux_lemma => (first | k_is | kit_is))
  (case hd3 => as_aux_lemma => (first | k_is | kit_is))
  (case po3 => as_aux_lemma => (first | k_is | kit_is))
  (case sa3 => as_aux_lemma => (first | k_is | kit_is))
  (case gg_ALONE => as_aux_lemma => (first | k_is | kit_is))
  (case gg_ANY => as_aux_lemma => (first | k_is | kit_is))
  (case gg_HEIGHTS => as_aux_lemma => (first | k_is | kit_is))
  (case gg_LESSER => as_aux_lemma => (first | k_is | kit_is))
  (case gg_MARKS => as_aux_lemma => (first | k_is | kit_is))
  (case lkg_MARKS => as_aux_lemma => (first | k_is | kit_is))
  (case gg_MODES => as_aux_lemma => (first | k_is | kit_is))
  (case lkg_MODES => as_aux_lemma => (first | k_is | kit_is))
  (case gg_MOST_POINTS => as_aux_lemma => (first | k_is | kit_is))
  (case gg_MOST_TAKES => as_aux_lemma => (first | k_is | kit_is))
  (case gg_NET_PARTS => as_aux_lemma => (first | k_is | kit_is))
  (case gg_NONE => as_aux_lemma => (first | k_is | kit_is))
  (case gg_QUIET_WORDS => as_aux_lemma => (first | k_is | kit_is))
  (case lkg_QUIET_WORDS => as_aux_lemma => (first | k_is | kit_is))
  (case gg_RISING => as_aux_lemma => (first | k_is | kit_is))
  (case gg_SHARED => as_aux_lemma => (first | k_is | kit_is))
  (case gg_WORDS => as_aux_lemma => (first | k_is | kit_is))
  (case lkg_WORDS => as_aux_lemma => (first | k_is | kit_is))
  (case fn_Reader_next_ones => as_aux_lemma => (first | k_is | kit_is))
  (case fn_Reader_places => as_aux_lemma => (first | k_is | kit_is))
  (case fn_Reader_stops => as_aux_lemma => (first | k_is | kit_is))
  (case fn_Way_locks => as_aux_lemma => (first | k_is | kit_is))
  (case fn_Way_places => as_aux_lemma => (first | k_is | kit_is))
  (case fn_Way_walked => as_aux_lemma => (first | k_is | kit_is))
  (case z_abs => as_aux_lemma => (first | k_is | kit_is))
  (case z_all => as_aux_lemma => (first | k_is | kit_is))
  (case z_bool => as_aux_lemma => (first | k_is | kit_is))
  (case z_dict => as_aux_lemma => (first | k_is | kit_is))
  (case z_enumerate => as_aux_lemma => (first | k_is | kit_is))
  (case z_int => as_aux_lemma => (first | k_is | kit_is))
  (case z_isinstance => as_aux_lemma => (first | k_is | kit_is))
  (case z_len => as_aux_lemma => (first | k_is | kit_is))
  (case z_list => as_aux_lemma => (first | k_is | kit_is))
  (case z_max => as_aux_lemma => (first | k_is | kit_is))
  (case z_min => as_aux_lemma => (first | k_is | kit_is))
  (case z_range => as_aux_lemma => (first | k_is | kit_is))
  (case z_repr => as_aux_lemma => (first | k_is | kit_is))
  (case z_reversed => as_aux_lemma => (first | k_is | kit_is))
  (case z_sorted => as_aux_lemma => (first | k_is | kit_is))
  (case z_str => as_aux_lemma => (first | k_is | kit_is))
  (case z_tuple => as_aux_lemma => (first | k_is | kit_is))
  (case a0 => as_aux_lemma => (first | k_is | kit_is))
  (case l0 => as_aux_lemma => (first | k_is | kit_is))
  (case c0 => as_aux_lemma => (first | k_is | kit_is))
  (case k0 => as_aux_lemma => (first | k_is | kit_is))
  (case a1 => as_aux_lemma => (first | k_is | kit_is))
  (case gq1 => as_aux_lemma => (first | k_is | kit_is))
  (case t1 => as_aux_lemma => (first | k_is | kit_is))
  (case r1 => as_aux_lemma => (first | k_is | kit_is))
  (case l1 => as_aux_lemma => (first | k_is | kit_is))
  (case c1 => as_aux_lemma => (first | k_is | kit_is))
  (case k1 => as_aux_lemma => (first | k_is | kit_is))
  (case a2 => as_aux_lemma => (first | k_is | kit_is))
  (case l2 => as_aux_lemma => (first | k_is | kit_is))
  (case c2 => as_aux_lemma => (first | k_is | kit_is))
  (case k2 => as_aux_lemma => (first | k_is | kit_is))
  (case a3 => as_aux_lemma => (first | k_is | kit_is))
  (case l3 => as_aux_lemma => (first | k_is | kit_is))
  (case c3 => as_aux_lemma => (first | k_is | kit_is))
  (case k3 => as_aux_lemma => (first | k_is | kit_is))
  (case a4 => as_aux_lemma => (first | k_is | kit_is))
  (case l4 => as_aux_lemma => (first | k_is | kit_is))
  (case c4 => as_aux_lemma => (first | k_is | kit_is))
  (case k4 => as_aux_lemma => (first | k_is | kit_is))
  (case a5 => as_aux_lemma => (first | k_is | kit_is))
  (case gq5 => as_aux_lemma => (first | k_is | kit_is))
  (case t5 => as_aux_lemma => (first | k_is | kit_is))
  (case r5 => as_aux_lemma => (first | k_is | kit_is))
  (case l5 => as_aux_lemma => (first | k_is | kit_is))
  (case c5 => as_aux_lemma => (first | k_is | kit_is))
  (case k5 => as_aux_lemma => (first | k_is | kit_is))
  (case a6 => as_aux_lemma => (first | k_is | kit_is))
  (case gq6 => as_aux_lemma => (first | k_is | kit_is))
  (case t6 => as_aux_lemma => (first | k_is | kit_is))
  (case r6 => as_aux_lemma => (first | k_is | kit_is))
  (case l6 => as_aux_lemma => (first | k_is | kit_is))
  (case c6 => as_aux_lemma => (first | k_is | kit_is))
  (case k6 => as_aux_lemma => (first | k_is | kit_is))
  (case a7 => as_aux_lemma => (first | k_is | kit_is))
  (case l7 => as_aux_lemma => (first | k_is | kit_is))
  (case c7 => as_aux_lemma => (first | k_is | kit_is))
  (case k7 => as_aux_lemma => (first | k_is | kit_is))
  (case a8 => as_aux_lemma => (first | k_is | kit_is))
  (case l8 => as_aux_lemma => (first | k_is | kit_is))
  (case c8 => as_aux_lemma => (first | k_is | kit_is))
  (case k8 => as_aux_lemma => (first | k_is | kit_is))
  (case a9 => as_aux_lemma => (first | k_is | kit_is))
  (case l9 => as_aux_lemma => (first | k_is | kit_is))
  (case c9 => as_aux_lemma => (first | k_is | kit_is))
  (case k9 => as_aux_lemma => (first | k_is | kit_is))
  (case a10 => as_aux_lemma => (first | k_is | kit_is))
  (case l10 => as_aux_lemma => (first | k_is | kit_is))
  (case c10 => as_aux_lemma => (first | k_is | kit_is))
  (case k10 => as_aux_lemma => (first | k_is | kit_is))
  (case a11 => as_aux_lemma => (first | k_is | kit_is))
  (case l11 => as_aux_lemma => (first | k_is | kit_is))
  (case c11 => as_aux_lemma => (first | k_is | kit_is))
  (case k11 => as_aux_lemma => (first | k_is | kit_is))
  (case a12 => as_aux_lemma => (first | k_is | kit_is))
  (case l12 => as_aux_lemma => (first | k_is | kit_is))
  (case c12 => as_aux_lemma => (first | k_is | kit_is))
  (case k12 => as_aux_lemma => (first | k_is | kit_is))
  (case a13 => as_aux_lemma => (first | k_is | kit_is))
  (case l13 => as_aux_lemma => (first | k_is | kit_is))
  (case c13 => as_aux_lemma => (first | k_is | kit_is))
  (case k13 => as_aux_lemma => (first | k_is | kit_is))
  (case a14 => as_aux_lemma => (first | k_is | kit_is))
  (case l14 => as_aux_lemma => (first | k_is | kit_is))
  (case c14 => as_aux_lemma => (first | k_is | kit_is))
  (case k14 => as_aux_lemma => (first | k_is | kit_is))
  (case a15 => as_aux_lemma => (first | k_is | kit_is))
  (case i15 => as_aux_lemma => (first | k_is | kit_is))
  (case l15 => as_aux_lemma => (first | k_is | kit_is))
  (case c15 => as_aux_lemma => (first | k_is | kit_is))
  (case k15 => as_aux_lemma => (first | k_is | kit_is))
  (case mk0 => as_aux_lemma => (first | k_is | kit_is))
  (case kc0 => as_aux_lemma => (first | k_is | kit_is))
  (case a16 => as_aux_lemma => (first | k_is | kit_is))
  (case i16 => as_aux_lemma => (first | k_is | kit_is))
  (case l16 => as_aux_lemma => (first | k_is | kit_is))
  (case c16 => as_aux_lemma => (first | k_is | kit_is))
  (case k16 => as_aux_lemma => (first | k_is | kit_is))
  (case a17 => as_aux_lemma => (first | k_is | kit_is))
  (case i17 => as_aux_lemma => (first | k_is | kit_is))
  (case l17 => as_aux_lemma => (first | k_is | kit_is))
  (case c17 => as_aux_lemma => (first | k_is | kit_is))
  (case k17 => as_aux_lemma => (first | k_is | kit_is))
  (case a18 => as_aux_lemma => (first | k_is | kit_is))
  (case l18 => as_aux_lemma => (first | k_is | kit_is))
  (case c18 => as_aux_lemma => (first | k_is | kit_is))
  (case k18 => as_aux_lemma => (first | k_is | kit_is))
  (case a19 => as_aux_lemma => (first | k_is | kit_is))
  (case l19 => as_aux_lemma => (first | k_is | kit_is))
  (case c19 => as_aux_lemma => (first | k_is | kit_is))
  (case k19 => as_aux_lemma => (first | k_is | kit_is))
  (case a20 => as_aux_lemma => (first | k_is | kit_is))
  (case l20 => as_aux_lemma => (first | k_is | kit_is))
  (case c20 => as_aux_lemma => (first | k_is | kit_is))
  (case k20 => as_aux_lemma => (first | k_is | kit_is))
  (case a21 => as_aux_lemma => (first | k_is | kit_is))
  (case l21 => as_aux_lemma => (first | k_is | kit_is))
  (case c21 => as_aux_lemma => (first | k_is | kit_is))
  (case k21 => as_aux_lemma => (first | k_is | kit_is))
  (case a22 => as_aux_lemma => (first | k_is | kit_is))
  (case l22 => as_aux_lemma => (first | k_is | kit_is))
  (case c22 => as_aux_lemma => (first | k_is | kit_is))
  (case k22 => as_aux_lemma => (first | k_is | kit_is))
  (case a23 => as_aux_lemma => (first | k_is | kit_is))
  (case l23 => as_aux_lemma => (first | k_is | kit_is))
  (case c23 => as_aux_lemma => (first | k_is | kit_is))
  (case k23 => as_aux_lemma => (first | k_is | kit_is))
  (case a24 => as_aux_lemma => (first | k_is | kit_is))
  (case l24 => as_aux_lemma => (first | k_is | kit_is))
  (case c24 => as_aux_lemma => (first | k_is | kit_is))
  (case k24 => as_aux_lemma => (first | k_is | kit_is))
  (case a25 => as_aux_lemma => (first | k_is | kit_is))
  (case l25 => as_aux_lemma => (first | k_is | kit_is))
  (case c25 => as_aux_lemma => (first | k_is | kit_is))
  (case k25 => as_aux_lemma => (first | k_is | kit_is))
  (case a26 => as_aux_lemma => (first | k_is | kit_is))
  (case l26 => as_aux_lemma => (first | k_is | kit_is))
  (case c26 => as_aux_lemma => (first | k_is | kit_is))
  (case k26 => as_aux_lemma => (first | k_is | kit_is))
  (case a27 => as_aux_lemma => (first | k_is | kit_is))
  (case l27 => as_aux_lemma => (first | k_is | kit_is))
  (case c27 => as_aux_lemma => (first | k_is | kit_is))
  (case k27 => as_aux_lemma => (first | k_is | kit_is))
  (case a28 => as_aux_lemma => (first | k_is | kit_is))
  (case l28 => as_aux_lemma => (first | k_is | kit_is))
  (case c28 => as_aux_lemma => (first | k_is | kit_is))
  (case k28 => as_aux_lemma => (first | k_is | kit_is))
  (case a29 => as_aux_lemma => (first | k_is | kit_is))
  (case i29 => as_aux_lemma => (first | k_is | kit_is))
  (case l29 => as_aux_lemma => (first | k_is | kit_is))
  (case c29 => as_aux_lemma => (first | k_is | kit_is))
  (case k29 => as_aux_lemma => (first | k_is | kit_is))
  (case kw29_hops => as_aux_lemma => (first | k_is | kit_is))
  (case mk3 => as_aux_lemma => (first | k_is | kit_is))
  (case kc3 => as_aux_lemma => (first | k_is | kit_is))
  (case a30 => as_aux_lemma => (first | k_is | kit_is))
  (case l30 => as_aux_lemma => (first | k_is | kit_is))
  (case c30 => as_aux_lemma => (first | k_is | kit_is))
  (case k30 => as_aux_lemma => (first | k_is | kit_is))
  (case a31 => as_aux_lemma => (first | k_is | kit_is))
  (case l31 => as_aux_lemma => (first | k_is | kit_is))
  (case c31 => as_aux_lemma => (first | k_is | kit_is))
  (case k31 => as_aux_lemma => (first | k_is | kit_is))
  (case a32 => as_aux_lemma => (first | k_is | kit_is))
  (case l32 => as_aux_lemma => (first | k_is | kit_is))
  (case c32 => as_aux_lemma => (first | k_is | kit_is))
  (case k32 => as_aux_lemma => (first | k_is | kit_is))
  (case a33 => as_aux_lemma => (first | k_is | kit_is))
  (case l33 => as_aux_lemma => (first | k_is | kit_is))
  (case c33 => as_aux_lemma => (first | k_is | kit_is))
  (case k33 => as_aux_lemma => (first | k_is | kit_is))
end
end
section
set_option Elab.async false
set_option linter.all false
set_option maxRecDepth 100000
set_option maxHeartbeats 1000000
namespace Tw
open PySem PySem.Spec PyProof.Rows L2
/-- a value as data: tuples are values, lists, dicts and instances are places of the logical heap -/
inductive D where
  | non | bl (b : Bool) | int (i : Int) | str (x : Str) | tup (xs : List D) | ref (n : Nat) | cls (c : Nat) | ty (n : String)
  /-- a list that is only read (the script) -/
  | rol (xs : List D)
mutual
def beqD : D → D → Bool
  | .non, .non => true
  | .bl a, .bl b => a == b
  | .int a, .int b => a == b
  | .str a, .str b => decide (a = b)
  | .tup a, .tup b => beqDs a b
  | .ref a, .ref b => a == b
  | .cls a, .cls b => a == b
  | .ty a, .ty b => decide (a = b)
  | .rol a, .rol b => beqDs a b
  | _, _ => false
def beqDs : List D → List D → Bool
  | [], [] => true
  | x :: xs, y :: ys => beqD x y && beqDs xs ys
  | _, _ => false
end
mutual
theorem beqD_eq : ∀ (a b : D), beqD a b = true → a = b
  | .non, b, h => by cases b <;> simp [beqD] at h ⊢
  | .bl x, b, h => by cases b <;> simp [beqD] at h ⊢; exact h
  | .int x, b, h => by cases b <;> simp [beqD] at h ⊢; exact h
  | .str x, b, h => by cases b <;> simp [beqD] at h ⊢; exact h
  | .ref x, b, h => by cases b <;> simp [beqD] at h ⊢; exact h
  | .cls x, b, h => by cases b <;> simp [beqD] at h ⊢; exact h
  | .ty x, b, h => by cases b <;> simp [beqD] at h ⊢; exact h
  | .tup xs, b, h => by
    cases b <;> simp [beqD] at h ⊢
    exact beqDs_eq xs _ h
  | .rol xs, b, h => by
    cases b <;> simp [beqD] at h ⊢
    exact beqDs_eq xs _ h
theorem beqDs_eq : ∀ (a b : List D), beqDs a b = true → a = b
  | [], b, h => by cases b <;> simp [beqDs] at h ⊢
  | x :: xs, b, h => by
    cases b with
    | nil => simp [beqDs] at h
    | cons y ys =>
      simp [beqDs] at h
      rw [beqD_eq x y h.1, beqDs_eq xs ys h.2]
end
mutual
theorem beqD_rfl : ∀ (a : D), beqD a a = true
  | .non => rfl
  | .bl x => by simp [beqD]
  | .int x => by simp [beqD]
  | .str x => by simp [beqD]
  | .ref x => by simp [beqD]
  | .cls x => by simp [beqD]
  | .ty x => by simp [beqD]
  | .tup xs => by simp [beqD]; exact beqDs_rfl xs
  | .rol xs => by simp [beqD]; exact beqDs_rfl xs
theorem beqDs_rfl : ∀ (a : List D), beqDs a a = true
  | [] => rfl
  | x :: xs => by simp [beqDs]; exact ⟨beqD_rfl x, beqDs_rfl xs⟩
end
instance : DecidableEq D := fun a b => if h : beqD a b = true then isTrue (beqD_eq a b h) else isFalse fun e => h (e ▸ beqD_rfl a)
/-- things that never change once they are made: the dict of an exception, an exception, an instance with slots (its dict, then the slots), a dict with any keys (key, value, key, value ..) -/
inductive GTag where
  | xd (ns : List Str) | exc (c : Nat) | sl (c : Nat) | rd
  deriving DecidableEq
/-- what stands at a place of the logical heap: a list, an instance of class c, a dict (lk: walked just now) -/
inductive O where
  | lst (xs : List D) | ins (c : Nat) (fs : List (Str × D)) | dic (lk : Bool) (kvs : List (Key × D))
  /-- a dict whose keys are tuples, nested -/
  | nd (lk : Bool) (kvs : List (D × D))
  | gen (t : GTag) (ds : List D)
  deriving DecidableEq
/-- what the statement's world gives: the written part, the classes by their numbers -/
structure Gx where
  K : PySem.W.Frag
  cm : Nat → Addr
  /-- what must stand: objects that are no logical places -/
  fx : Hp
  w : World
/-- a list that is locked, or stands in the written part -/
def RoL (K : PySem.W.Frag) (H : Hp) (a : Addr) (vs : List V) : Prop := (∃ o, H a = some (.frz o (.lst vs))) ∨ SqL K (fun _ => none) a vs
/-- a tuple that is told, or stands in the written part -/
def TuT (K : PySem.W.Frag) (H : Hp) (a : Addr) (vs : List V) : Prop := H a = some (.tup vs) ∨ SqT K (fun _ => none) a vs
variable {g : Gx} {ρ ρ' : List Addr} {H H' : Hp}
theorem TuT.sq {K : PySem.W.Frag} {a : Addr} {vs : List V} (h : TuT K H a vs) : SqT K H a vs := by
  rcases h with h | h
  · exact .inl (.inl h)
  · rcases h with (h | ⟨_, h⟩) | h
    · cases h
    · cases h
    · exact .inr h
theorem RoL.seq {K : PySem.W.Frag} {a : Addr} {vs : List V} (h : RoL K H a vs) : SqL K H a vs := by
  rcases h with ⟨o, h⟩ | h
  · exact .inl (.inr ⟨o, h⟩)
  · rcases h with (h | ⟨_, h⟩) | h
    · cases h
    · cases h
    · exact .inr h
mutual
inductive VR (g : Gx) (ρ : List Addr) (H : Hp) : D → V → Prop
  | non : VR g ρ H .non .non
  | bl (b : Bool) : VR g ρ H (.bl b) (.bl b)
  | int (i : Int) : VR g ρ H (.int i) (.int i)
  | str (x : Str) : VR g ρ H (.str x) (.str x)
  | ref {n : Nat} {a : Addr} : ρ[n]? = some a → VR g ρ H (.ref n) (.ref a)
  | cls (c : Nat) : VR g ρ H (.cls c) (.ref (g.cm c))
  | ty (n : String) : VR g ρ H (.ty n) (.ty n)
  | tup {ds : List D} {a : Addr} {vs : List V} : TuT g.K H a vs → VRs g ρ H ds vs → VR g ρ H (.tup ds) (.ref a)
  | rol {ds : List D} {a : Addr} {vs : List V} : RoL g.K H a vs → VRs g ρ H ds vs → VR g ρ H (.rol ds) (.ref a)
inductive VRs (g : Gx) (ρ : List Addr) (H : Hp) : List D → List V → Prop
  | nil : VRs g ρ H [] []
  | cons {d : D} {v : V} {ds : List D} {vs : List V} : VR g ρ H d v → VRs g ρ H ds vs → VRs g ρ H (d :: ds) (v :: vs)
end
/-- tuples and what is locked stand -/
structure TP (H H' : Hp) : Prop where
  tup : ∀ a xs, H a = some (.tup xs) → H' a = some (.tup xs)
  frz : ∀ a o u, H a = some (.frz o u) → H' a = some (.frz o u)
theorem TP.refl (H : Hp) : TP H H := ⟨fun _ _ h => h, fun _ _ _ h => h⟩
theorem TP.trans {H1 H2 H3 : Hp} (a : TP H1 H2) (b : TP H2 H3) : TP H1 H3 := ⟨fun x xs h => b.tup x xs (a.tup x xs h), fun x o u h => b.frz x o u (a.frz x o u h)⟩
theorem TP.rd {K : PySem.W.Frag} (t : TP H H') {a : Addr} {xs : List V} (h : SqT K H a xs) : SqT K H' a xs := by
  rcases h with (h | ⟨o, h⟩) | h
  · exact .inl (.inl (t.tup a xs h))
  · exact .inl (.inr ⟨o, t.frz a o _ h⟩)
  · exact .inr h
theorem TP.rol {K : PySem.W.Frag} (t : TP H H') {a : Addr} {xs : List V} (h : RoL K H a xs) : RoL K H' a xs := by
  rcases h with ⟨o, h⟩ | h
  · exact .inl ⟨o, t.frz a o _ h⟩
  · exact .inr h
theorem TP.new {p : Addr} {o : HO} (h : H p = none) : TP H (upd H p o) :=
  ⟨fun a xs e => by rw [upd_ne (ne_of_none e h)]; exact e, fun a ob u e => by rw [upd_ne (ne_of_none e h)]; exact e⟩
def MutO : HO → Bool
  | .lst _ => true
  | .dK _ => true
  | .ins _ _ _ => true
  | .ext _ => true
  | _ => false
theorem TP.mut {p : Addr} {o u : HO} (h : H p = some u) (m : MutO u = true) : TP H (upd H p o) :=
  ⟨fun a xs e => by
    have : a ≠ p := by rintro rfl; rw [e] at h; cases h; cases m
    rw [upd_ne this]; exact e, fun a ob w e => by
    have : a ≠ p := by rintro rfl; rw [e] at h; cases h; cases m
    rw [upd_ne this]; exact e⟩
/-- what data lean on stands: tuples and lists that are only read -/
structure TV (K : PySem.W.Frag) (H H' : Hp) : Prop where
  tup : ∀ a xs, TuT K H a xs → TuT K H' a xs
  rol : ∀ a xs, RoL K H a xs → RoL K H' a xs
theorem TP.tu {K : PySem.W.Frag} (t : TP H H') {a : Addr} {xs : List V} (h : TuT K H a xs) : TuT K H' a xs := h.elim (fun h => .inl (t.tup a xs h)) .inr
theorem TP.tv {K : PySem.W.Frag} (t : TP H H') : TV K H H' := ⟨fun _ _ h => t.tu h, fun _ _ h => t.rol h⟩
theorem pre_get {α : Type} {l l' : List α} (h : l <+: l') {n : Nat} {a : α} (e : l[n]? = some a) : l'[n]? = some a := by
  obtain ⟨t, rfl⟩ := h
  obtain ⟨hn, _⟩ := List.getElem?_eq_some_iff.mp e
  rw [List.getElem?_append_left hn]; exact e
mutual
theorem VR.monoV (hp : ρ <+: ρ') (ht : TV g.K H H') : ∀ {d : D} {v : V}, VR g ρ H d v → VR g ρ' H' d v
  | _, _, .non => .non
  | _, _, .bl b => .bl b
  | _, _, .int i => .int i
  | _, _, .str x => .str x
  | _, _, .ref e => .ref (pre_get hp e)
  | _, _, .cls c => .cls c
  | _, _, .ty c => .ty c
  | _, _, .tup s r => .tup (ht.tup _ _ s) (VRs.monoV hp ht r)
  | _, _, .rol s r => .rol (ht.rol _ _ s) (VRs.monoV hp ht r)
theorem VRs.monoV (hp : ρ <+: ρ') (ht : TV g.K H H') : ∀ {ds : List D} {vs : List V}, VRs g ρ H ds vs → VRs g ρ' H' ds vs
  | _, _, .nil => .nil
  | _, _, .cons r t => .cons (VR.monoV hp ht r) (VRs.monoV hp ht t)
end
theorem VR.mono (hp : ρ <+: ρ') (ht : TP H H') {d : D} {v : V} (h : VR g ρ H d v) : VR g ρ' H' d v := h.monoV hp ht.tv
theorem VRs.mono (hp : ρ <+: ρ') (ht : TP H H') {ds : List D} {vs : List V} (h : VRs g ρ H ds vs) : VRs g ρ' H' ds vs := h.monoV hp ht.tv
theorem VRs.length : ∀ {ds : List D} {vs : List V}, VRs g ρ H ds vs → ds.length = vs.length
  | _, _, .nil => rfl
  | _, _, .cons _ t => by simp [VRs.length t]
theorem VRs.get : ∀ {ds : List D} {vs : List V}, VRs g ρ H ds vs → ∀ {i : Nat} {d : D}, ds[i]? = some d → ∃ v, vs[i]? = some v ∧ VR g ρ H d v
  | _, _, .nil, i, d, e => by simp at e
  | _, _, .cons r t, 0, d, e => by simp at e; subst e; exact ⟨_, rfl, r⟩
  | _, _, .cons r t, i + 1, d, e => by
    obtain ⟨v, h1, h2⟩ := VRs.get t (i := i) (d := d) (by simpa using e)
    exact ⟨v, by simpa using h1, h2⟩
theorem VRs.getV : ∀ {ds : List D} {vs : List V}, VRs g ρ H ds vs → ∀ {i : Nat} {v : V}, vs[i]? = some v → ∃ d, ds[i]? = some d ∧ VR g ρ H d v
  | _, _, .nil, i, d, e => by simp at e
  | _, _, .cons r t, 0, d, e => by simp at e; subst e; exact ⟨_, rfl, r⟩
  | _, _, .cons r t, i + 1, d, e => by
    obtain ⟨v, h1, h2⟩ := VRs.getV t (i := i) (v := d) (by simpa using e)
    exact ⟨v, by simpa using h1, h2⟩
theorem VRs.append : ∀ {ds es : List D} {vs us : List V}, VRs g ρ H ds vs → VRs g ρ H es us → VRs g ρ H (ds ++ es) (vs ++ us)
  | _, _, _, _, .nil, s => s
  | _, _, _, _, .cons r t, s => .cons r (VRs.append t s)
theorem VRs.take : ∀ {ds : List D} {vs : List V} (n : Nat), VRs g ρ H ds vs → VRs g ρ H (ds.take n) (vs.take n)
  | _, _, 0, _ => by simp; exact .nil
  | _, _, _ + 1, .nil => by simp; exact .nil
  | _, _, n + 1, .cons r t => by simp; exact .cons r (VRs.take n t)
theorem VRs.drop : ∀ {ds : List D} {vs : List V} (n : Nat), VRs g ρ H ds vs → VRs g ρ H (ds.drop n) (vs.drop n)
  | _, _, 0, r => by simpa using r
  | _, _, _ + 1, .nil => by simp; exact .nil
  | _, _, n + 1, .cons r t => by simpa using VRs.drop n t
theorem VRs.set {d : D} {v : V} (r : VR g ρ H d v) : ∀ {ds : List D} {vs : List V} (n : Nat), VRs g ρ H ds vs → VRs g ρ H (ds.set n d) (vs.set n v)
  | _, _, _, .nil => by simp; exact .nil
  | _, _, 0, .cons _ t => by simp; exact .cons r t
  | _, _, n + 1, .cons q t => by simp; exact .cons q (VRs.set r n t)
theorem VRs.reverse : ∀ {ds : List D} {vs : List V}, VRs g ρ H ds vs → VRs g ρ H ds.reverse vs.reverse
  | _, _, .nil => by simp; exact .nil
  | _, _, .cons r t => by simp only [List.reverse_cons]; exact (VRs.reverse t).append (.cons r .nil)
theorem VRs.one {d : D} {vs : List V} (r : VRs g ρ H [d] vs) : ∃ v, vs = [v] ∧ VR g ρ H d v := by
  cases r with
  | cons r t => cases t; exact ⟨_, rfl, r⟩
theorem VRs.two {d e : D} {vs : List V} (r : VRs g ρ H [d, e] vs) : ∃ v u, vs = [v, u] ∧ VR g ρ H d v ∧ VR g ρ H e u := by
  cases r with
  | cons r t => obtain ⟨u, rfl, q⟩ := t.one; exact ⟨_, _, rfl, r, q⟩
/-- attributes -/
inductive FR (g : Gx) (ρ : List Addr) (H : Hp) : List (Str × D) → List (Str × V) → Prop
  | nil : FR g ρ H [] []
  | cons {f : Str} {d : D} {v : V} {fs : List (Str × D)} {vs : List (Str × V)} : VR g ρ H d v → FR g ρ H fs vs → FR g ρ H ((f, d) :: fs) ((f, v) :: vs)
theorem FR.monoV (hp : ρ <+: ρ') (ht : TV g.K H H') : ∀ {fs : List (Str × D)} {vs : List (Str × V)}, FR g ρ H fs vs → FR g ρ' H' fs vs
  | _, _, .nil => .nil
  | _, _, .cons r t => .cons (r.monoV hp ht) (FR.monoV hp ht t)
theorem FR.mono (hp : ρ <+: ρ') (ht : TP H H') {fs : List (Str × D)} {vs : List (Str × V)} (h : FR g ρ H fs vs) : FR g ρ' H' fs vs := h.monoV hp ht.tv
theorem FR.length : ∀ {fs : List (Str × D)} {vs : List (Str × V)}, FR g ρ H fs vs → fs.length = vs.length
  | _, _, .nil => rfl
  | _, _, .cons _ t => by simp [FR.length t]
theorem FR.look (f : Str) : ∀ {fs : List (Str × D)} {vs : List (Str × V)}, FR g ρ H fs vs → (∃ d v, fs.lookup f = some d ∧ vs.lookup f = some v ∧ VR g ρ H d v) ∨ (fs.lookup f = none ∧ vs.lookup f = none)
  | _, _, .nil => .inr ⟨rfl, rfl⟩
  | _, _, .cons (f := k) (d := d) (v := v) r t => by
    rw [List.lookup_cons, List.lookup_cons]
    cases f == k with
    | true => exact .inl ⟨d, v, rfl, rfl, r⟩
    | false => exact FR.look f t
def putD (f : Str) (d : D) : List (Str × D) → List (Str × D)
  | [] => [(f, d)]
  | (k, x) :: r => if k = f then (k, d) :: r else (k, x) :: putD f d r
theorem FR.put {f : Str} {d : D} {v : V} (q : VR g ρ H d v) : ∀ {fs : List (Str × D)} {vs : List (Str × V)}, FR g ρ H fs vs → FR g ρ H (putD f d fs) (putF f v vs)
  | _, _, .nil => .cons q .nil
  | _, _, .cons (f := k) r t => by
    unfold putD putF
    split
    · exact .cons q t
    · exact .cons r (FR.put q t)
/-- a dict's pairs -/
inductive KR (g : Gx) (ρ : List Addr) (H : Hp) : List (Key × D) → List (Key × V) → Prop
  | nil : KR g ρ H [] []
  | cons {k : Key} {d : D} {v : V} {ks : List (Key × D)} {vs : List (Key × V)} : VR g ρ H d v → KR g ρ H ks vs → KR g ρ H ((k, d) :: ks) ((k, v) :: vs)
theorem KR.monoV (hp : ρ <+: ρ') (ht : TV g.K H H') : ∀ {fs : List (Key × D)} {vs : List (Key × V)}, KR g ρ H fs vs → KR g ρ' H' fs vs
  | _, _, .nil => .nil
  | _, _, .cons r t => .cons (r.monoV hp ht) (KR.monoV hp ht t)
theorem KR.mono (hp : ρ <+: ρ') (ht : TP H H') {fs : List (Key × D)} {vs : List (Key × V)} (h : KR g ρ H fs vs) : KR g ρ' H' fs vs := h.monoV hp ht.tv
theorem KR.length : ∀ {fs : List (Key × D)} {vs : List (Key × V)}, KR g ρ H fs vs → fs.length = vs.length
  | _, _, .nil => rfl
  | _, _, .cons _ t => by simp [KR.length t]
mutual
/-- a datum as a key -/
def nkD : D → Option NestedKey
  | .non => some .none
  | .bl b => some (.num (if b = true then 1 else 0))
  | .int i => some (.num i)
  | .str x => some (.text x)
  | .tup ds => (nkDs ds).map .tup
  | .rol _ => none | .ref _ => none | .cls _ => none | .ty _ => none
def nkDs : List D → Option (List NestedKey)
  | [] => some []
  | d :: ds => match nkD d, nkDs ds with
    | some k, some ks => some (k :: ks)
    | _, _ => none
end
abbrev NPair : (NestedKey × Addr × V) → (NestedKey × Addr × Value) → Prop := fun x y => x.1 = y.1 ∧ x.2.1 = y.2.1 ∧ RelV x.2.2 y.2.2
def NdO (w : World) (a : Addr) (xs : List (NestedKey × Addr × V)) : HO := .ext fun h => (a == sysModules) = false ∧ xs.length ≤ sizeLine ∧ (xs.map (·.1)).Nodup ∧ ∃ ys : List (NestedKey × Addr × Value), Paired NPair xs ys ∧
  ∃ o es ep, h.get? a = some o ∧ o.ExactDict ∧ o.data = .dict es ep ∧ es.toList = ys.map fun y => ⟨y.1.hash w, .ref y.2.1, y.2.2⟩
inductive NR (g : Gx) (ρ : List Addr) (H : Hp) : List (D × D) → List (NestedKey × Addr × V) → Prop
  | nil : NR g ρ H [] []
  | cons {d e : D} {k : NestedKey} {q : Addr} {v : V} {ks : List (D × D)} {xs : List (NestedKey × Addr × V)} : nkD d = some k → k.depth ≤ 8 → VR g ρ H d (.ref q) → VR g ρ H e v → NR g ρ H ks xs → NR g ρ H ((d, e) :: ks) ((k, q, v) :: xs)
theorem NR.monoV (hp : ρ <+: ρ') (ht : TV g.K H H') : ∀ {ks : List (D × D)} {xs : List (NestedKey × Addr × V)}, NR g ρ H ks xs → NR g ρ' H' ks xs
  | _, _, .nil => .nil
  | _, _, .cons a b r q t => .cons a b (r.monoV hp ht) (q.monoV hp ht) (NR.monoV hp ht t)
theorem NR.mono (hp : ρ <+: ρ') (ht : TP H H') {ks : List (D × D)} {xs : List (NestedKey × Addr × V)} (h : NR g ρ H ks xs) : NR g ρ' H' ks xs := h.monoV hp ht.tv
theorem NR.length : ∀ {ks : List (D × D)} {xs : List (NestedKey × Addr × V)}, NR g ρ H ks xs → ks.length = xs.length
  | _, _, .nil => rfl
  | _, _, .cons _ _ _ _ t => by simp [NR.length t]
/-- this very object -/
def PinO (a : Addr) (o : Obj) : HO := .ext fun h => h.get? a = some o
/-- a dict with any keys is frozen, so that it can be walked -/
def PinH (a : Addr) (o : Obj) : GTag → HO
  | .rd => .frz o (PinO a o)
  | _ => PinO a o
def GenR (cm : Nat → Addr) (a : Addr) (o : Obj) : GTag → List V → Prop
  | .xd ns, vs => ns.length = vs.length ∧ ∀ h : Heap, h.get? a = some o → ∃ mA, h.Ns1 a mA ∧ ∀ f, RelO ((ns.zip vs).lookup f) (mA f)
  | .exc c, vs => ∃ dd xs, vs = [.ref dd] ∧ L2N.Zn (.ref (cm c)) (some dd) o ∧ o.data = .fields xs
  | .sl c, vs => ∃ dx ws sl, vs = .ref dx :: ws ∧ o = { PySem.W.instObj (cm c) dx with slots := sl } ∧ SlX.SlR (ws.map some) sl
  | .rd, vs => (a == sysModules) = false ∧ o.ExactDict ∧ ∃ es ep, o.data = .dict es ep ∧ Vals vs (es.toList.flatMap fun e => [e.key, e.val])
/-- what stands at a logical place, in the abstract heap -/
def OR (g : Gx) (ρ : List Addr) (H : Hp) (a : Addr) : O → Prop
  | .lst ds => ∃ vs, H a = some (.lst vs) ∧ VRs g ρ H ds vs
  | .ins c fs => ∃ dx vs, H a = some (.ins (g.cm c) dx vs) ∧ FR g ρ H fs vs
  | .dic false ks => ∃ vs, H a = some (.dK vs) ∧ KR g ρ H ks vs
  | .dic true ks => ∃ vs o, H a = some (.frz o (.dK vs)) ∧ KR g ρ H ks vs
  | .nd false ks => ∃ xs, H a = some (NdO g.w a xs) ∧ NR g ρ H ks xs
  | .nd true ks => ∃ xs o, H a = some (.frz o (NdO g.w a xs)) ∧ NR g ρ H ks xs
  | .gen t ds => ∃ vs o, H a = some (PinH a o t) ∧ GenR g.cm a o t vs ∧ VRs g ρ H ds vs
/-- H' has at a what H has (a thing that is not tracked is as it was if the table has it) -/
theorem OR.monoV {a : Addr} {o : O} (hp : ρ <+: ρ') (ht : TV g.K H H') (ha : H' a = H a) (h : OR g ρ H a o) : OR g ρ' H' a o := by
  cases o with
  | lst ds => obtain ⟨vs, e, r⟩ := h; exact ⟨vs, ha.trans e, r.monoV hp ht⟩
  | ins c fs => obtain ⟨dx, vs, e, r⟩ := h; exact ⟨dx, vs, ha.trans e, r.monoV hp ht⟩
  | dic lk ks =>
    cases lk with
    | false => obtain ⟨vs, e, r⟩ := h; exact ⟨vs, ha.trans e, r.monoV hp ht⟩
    | true => obtain ⟨vs, o, e, r⟩ := h; exact ⟨vs, o, ha.trans e, r.monoV hp ht⟩
  | nd lk ks =>
    cases lk with
    | false => obtain ⟨vs, e, r⟩ := h; exact ⟨vs, ha.trans e, r.monoV hp ht⟩
    | true => obtain ⟨vs, o, e, r⟩ := h; exact ⟨vs, o, ha.trans e, r.monoV hp ht⟩
  | gen t ds => obtain ⟨vs, o, e, q, r⟩ := h; exact ⟨vs, o, ha.trans e, q, r.monoV hp ht⟩
theorem OR.mono {a : Addr} {o : O} (hp : ρ <+: ρ') (ht : TP H H') (ha : H' a = H a) (h : OR g ρ H a o) : OR g ρ' H' a o := h.monoV hp ht.tv ha
structure HR (g : Gx) (ρ : List Addr) (L : List O) (H : Hp) : Prop where
  len : ρ.length = L.length
  nd : ρ.Nodup
  ob : ∀ (n : Nat) (o : O) (a : Addr), L[n]? = some o → ρ[n]? = some a → OR g ρ H a o
  nfx : ∀ (n : Nat) (a : Addr), ρ[n]? = some a → g.fx a = none
  fxs : ∀ (a : Addr) (u : HO), g.fx a = some u → H a = some u
theorem OR.some {a : Addr} {o : O} (h : OR g ρ H a o) : ∃ u, H a = some u := by
  cases o with
  | lst ds => obtain ⟨vs, e, r⟩ := h; exact ⟨_, e⟩
  | ins c fs => obtain ⟨dx, vs, e, r⟩ := h; exact ⟨_, e⟩
  | dic lk ks =>
    cases lk with
    | false => obtain ⟨vs, e, r⟩ := h; exact ⟨_, e⟩
    | true => obtain ⟨vs, o, e, r⟩ := h; exact ⟨_, e⟩
  | nd lk ks =>
    cases lk with
    | false => obtain ⟨vs, e, r⟩ := h; exact ⟨_, e⟩
    | true => obtain ⟨vs, o, e, r⟩ := h; exact ⟨_, e⟩
  | gen t ds => obtain ⟨vs, o, e, q, r⟩ := h; exact ⟨_, e⟩
variable {L L' : List O}
theorem HR.get (h : HR g ρ L H) {n : Nat} {o : O} (e : L[n]? = some o) : ∃ a, ρ[n]? = some a ∧ OR g ρ H a o := by
  obtain ⟨hn, _⟩ := List.getElem?_eq_some_iff.mp e
  have hn' : n < ρ.length := by rw [h.len]; exact hn
  exact ⟨ρ[n], by simp [hn'], h.ob n o _ e (by simp [hn'])⟩
theorem HR.at (h : HR g ρ L H) {n : Nat} {o : O} {a : Addr} (e : L[n]? = some o) (ea : ρ[n]? = some a) : OR g ρ H a o := h.ob n o a e ea
theorem HR.there (h : HR g ρ L H) {n : Nat} {a : Addr} (ea : ρ[n]? = some a) : ∃ o, L[n]? = some o := by
  obtain ⟨hn, _⟩ := List.getElem?_eq_some_iff.mp ea
  have hn' : n < L.length := by rw [← h.len]; exact hn
  exact ⟨L[n], by simp [hn']⟩
theorem HR.ne (h : HR g ρ L H) {p : Addr} (hp : H p = none) {n : Nat} {a : Addr} (ea : ρ[n]? = some a) : a ≠ p := by
  obtain ⟨o, e⟩ := h.there ea
  obtain ⟨u, eu⟩ := (h.ob n o a e ea).some
  exact ne_of_none eu hp
/-- something is laid that is not told -/
theorem HR.keep (h : HR g ρ L H) (t : TP H H') (k : ∀ a u, H a = some u → H' a = some u) : HR g ρ L H' :=
  ⟨h.len, h.nd, fun n o a e ea => by
    have q := h.ob n o a e ea
    obtain ⟨u, hu⟩ := q.some
    exact q.mono (List.prefix_refl _) t ((k a u hu).trans hu.symm), h.nfx, fun a u e => k a u (h.fxs a u e)⟩
theorem HR.fresh (h : HR g ρ L H) {p : Addr} (hp : H p = none) (o : HO) : HR g ρ L (upd H p o) :=
  h.keep (TP.new hp) fun a u e => by rw [upd_ne (ne_of_none e hp)]; exact e
theorem pre_snoc {α : Type} (l : List α) (a : α) : l <+: l ++ [a] := ⟨[a], rfl⟩
/-- a new object is laid and told -/
theorem HR.new (h : HR g ρ L H) {p : Addr} (hp : H p = none) {u : HO} {o : O} (ho : OR g (ρ ++ [p]) (upd H p u) p o) : HR g (ρ ++ [p]) (L ++ [o]) (upd H p u) := by
  refine ⟨by simp [h.len], ?_, fun n o' a e ea => ?_, fun n a ea => ?_, fun a u e => by rw [upd_ne (ne_of_none (h.fxs a u e) hp)]; exact h.fxs a u e⟩
  · rw [List.nodup_append]
    refine ⟨h.nd, by simp, fun a ha b hb => ?_⟩
    obtain ⟨n, hn⟩ := List.getElem?_of_mem ha
    have : b = p := by simpa using hb
    rw [this]
    exact h.ne hp hn
  · by_cases hn : n < L.length
    · rw [List.getElem?_append_left hn] at e
      rw [List.getElem?_append_left (by rw [h.len]; exact hn)] at ea
      exact (h.ob n o' a e ea).mono (pre_snoc _ _) (TP.new hp) (upd_ne (h.ne hp ea))
    · have hz : n = L.length := by
        obtain ⟨hn', _⟩ := List.getElem?_eq_some_iff.mp e
        simp at hn'; omega
      subst hz
      rw [List.getElem?_append_right (Nat.le_refl _)] at e
      rw [← h.len, List.getElem?_append_right (Nat.le_refl _)] at ea
      simp at e ea
      subst e; subst ea
      exact ho
  · by_cases hn : n < ρ.length
    · rw [List.getElem?_append_left hn] at ea
      exact h.nfx n a ea
    · rw [List.getElem?_append_right (by omega)] at ea
      have e1 : a = p := by
        obtain ⟨q, e2⟩ := List.getElem?_eq_some_iff.mp ea
        simpa using e2.symm
      subst e1
      cases hf : g.fx a with
      | none => rfl
      | some u => rw [h.fxs a u hf] at hp; cases hp
theorem nodup_get {α : Type} {l : List α} (h : l.Nodup) {i j : Nat} {a : α} (e1 : l[i]? = some a) (e2 : l[j]? = some a) : i = j := by
  obtain ⟨h1, e1⟩ := List.getElem?_eq_some_iff.mp e1
  obtain ⟨h2, e2⟩ := List.getElem?_eq_some_iff.mp e2
  exact (List.getElem_inj h).mp (e1.trans e2.symm)
/-- an object is changed -/
theorem HR.set (h : HR g ρ L H) {n : Nat} {a : Addr} (ea : ρ[n]? = some a) {u w : HO} (hu : H a = some w) (m : MutO w = true) {o : O} (ho : OR g ρ (upd H a u) a o) : HR g ρ (L.set n o) (upd H a u) := by
  refine ⟨by simp [h.len], h.nd, fun n' o' b e eb => ?_, h.nfx, fun b w' e => by rw [upd_ne (fun z => by rw [z, h.nfx n a ea] at e; cases e)]; exact h.fxs b w' e⟩
  by_cases hn : n = n'
  · subst hn
    rw [ea] at eb; cases eb
    have hlt : n < L.length := by
      obtain ⟨q, _⟩ := List.getElem?_eq_some_iff.mp ea
      rw [← h.len]; exact q
    rw [List.getElem?_set_self hlt] at e
    cases e
    exact ho
  · rw [List.getElem?_set_ne hn] at e
    have hb : b ≠ a := by rintro rfl; exact hn (nodup_get h.nd ea eb)
    exact (h.ob n' o' b e eb).mono (List.prefix_refl _) (TP.mut hu m) (upd_ne hb)
inductive Rs (α : Type) where
  | ok (a : α) (L : List O) | ex (c : Nat) (fs : List (Str × D)) (L : List O) | bad
abbrev En := List (Option D)
abbrev ME := En → List O → Rs D
abbrev MB := En → List O → Rs Bool
abbrev MA := En → List O → Rs (List D)
def Rs.bind {α β : Type} (r : Rs α) (f : α → List O → Rs β) : Rs β := match r with
  | .ok a L => f a L
  | .ex c fs L => .ex c fs L
  | .bad => .bad
/-- an operation on values: it gives a value and a heap, or is not asked here -/
abbrev OD := Option (D × List O)
def ofO : OD → Rs D
  | some (d, L) => .ok d L
  | none => .bad
/-- the slots -/
def ER (g : Gx) (ρ : List Addr) (H : Hp) (σ : L2.St) (ε : En) : Prop := ε.length = σ.length ∧ ∀ (i : Nat) (d : D), ε[i]? = some (some d) → ∃ v, σ[i]? = some (some v) ∧ VR g ρ H d v
theorem ER.mono {σ : L2.St} {ε : En} (hp : ρ <+: ρ') (ht : TP H H') (e : ER g ρ H σ ε) : ER g ρ' H' σ ε :=
  ⟨e.1, fun i d q => let ⟨v, a, b⟩ := e.2 i d q; ⟨v, a, b.mono hp ht⟩⟩
theorem ER.set {σ : L2.St} {ε : En} {d : D} {v : V} (e : ER g ρ H σ ε) (i : Nat) (r : VR g ρ H d v) : ER g ρ H (σ.set i (some v)) (ε.set i (some d)) := by
  refine ⟨by simp [e.1], fun j d' q => ?_⟩
  by_cases hj : i = j
  · subst hj
    have hi : i < ε.length := by
      obtain ⟨q, _⟩ := List.getElem?_eq_some_iff.mp q
      simpa using q
    rw [List.getElem?_set_self hi] at q
    cases q
    exact ⟨v, by rw [List.getElem?_set_self (by rw [← e.1]; exact hi)], r⟩
  · rw [List.getElem?_set_ne hj] at q
    obtain ⟨u, a, b⟩ := e.2 j d' q
    exact ⟨u, by rw [List.getElem?_set_ne hj]; exact a, b⟩
theorem ER.wipe {σ : L2.St} {ε : En} (e : ER g ρ H σ ε) (i : Nat) : ER g ρ H (σ.set i none) (ε.set i none) := by
  refine ⟨by simp [e.1], fun j d' q => ?_⟩
  by_cases hj : i = j
  · subst hj
    have hi : i < ε.length := by
      obtain ⟨q, _⟩ := List.getElem?_eq_some_iff.mp q
      simpa using q
    rw [List.getElem?_set_self hi] at q
    cases q
  · rw [List.getElem?_set_ne hj] at q
    obtain ⟨u, a, b⟩ := e.2 j d' q
    exact ⟨u, by rw [List.getElem?_set_ne hj]; exact a, b⟩
/-- an exception's own dict -/
def XR (g : Gx) (ρ : List Addr) (H : Hp) (fs : List (Str × D)) (dx : Option Addr) : Prop := (fs = [] ∧ dx = none) ∨ ∃ d vs, dx = some d ∧ H d = some (.xd vs) ∧ FR g ρ H fs vs
/-- what is to be shown of a piece's end -/
def Lf {α β : Type} (g : Gx) (ρ : List Addr) (H : Hp) (σ : L2.St) (W : WX) (rel : List Addr → Hp → α → β → Prop) (r : Rs α) (Q : β → Hp → Prop) : Prop := match r with
  | .ok d L' => ∀ v ρ' H', ρ <+: ρ' → TP H H' → HR g ρ' L' H' → rel ρ' H' d v → Q v H'
  | .ex c fs L' => ∀ ρ' H' dx, ρ <+: ρ' → TP H H' → HR g ρ' L' H' → XR g ρ' H' fs dx → W (.ref (g.cm c)) dx σ H'
  | .bad => False
abbrev LfD (g : Gx) (ρ : List Addr) (H : Hp) (σ : L2.St) (W : WX) (r : Rs D) (Q : VK) : Prop := Lf g ρ H σ W (VR g) r Q
def relB : List Addr → Hp → Bool → Bool → Prop := fun _ _ a b => a = b
abbrev LfB (g : Gx) (ρ : List Addr) (H : Hp) (σ : L2.St) (W : WX) (r : Rs Bool) (Q : Bool → Hp → Prop) : Prop := Lf g ρ H σ W relB r Q
abbrev LfA (g : Gx) (ρ : List Addr) (H : Hp) (σ : L2.St) (W : WX) (r : Rs (List D)) (Q : List V → Hp → Prop) : Prop := Lf g ρ H σ W (VRs g) r Q
/-- a piece's reading: from data that stand -/
def tM (g : Gx) (W : WX) (m : ME) : TE := fun σ H Q => ∃ ε ρ L, ER g ρ H σ ε ∧ HR g ρ L H ∧ LfD g ρ H σ W (m ε L) Q
def tMB (g : Gx) (W : WX) (m : MB) : TT := fun σ H Q => ∃ ε ρ L, ER g ρ H σ ε ∧ HR g ρ L H ∧ LfB g ρ H σ W (m ε L) Q
def tMA (g : Gx) (W : WX) (m : MA) : TA := fun σ H Q => ∃ ε ρ L, ER g ρ H σ ε ∧ HR g ρ L H ∧ LfA g ρ H σ W (m ε L) Q
section
variable {α β γ δ : Type} {σ : L2.St} {W : WX} {rel : List Addr → Hp → α → β → Prop} {rel2 : List Addr → Hp → γ → δ → Prop} {r : Rs α} {f : α → List O → Rs γ} {Q : δ → Hp → Prop} {Q1 : β → Hp → Prop}
/-- the first part of two: what is wanted of the first is that the second's end holds -/
theorem Lf.bind (h : Lf g ρ H σ W rel2 (r.bind f) Q) (k : ∀ a L' v ρ' H', r = .ok a L' → ρ <+: ρ' → TP H H' → HR g ρ' L' H' → rel ρ' H' a v → Lf g ρ' H' σ W rel2 (f a L') Q → Q1 v H') : Lf g ρ H σ W rel r Q1 := by
  cases r with
  | ok a L' =>
    intro v ρ' H' hp ht hh hr
    refine k a L' v ρ' H' rfl hp ht hh hr ?_
    have h' : Lf g ρ H σ W rel2 (f a L') Q := h
    cases hf : f a L' with
    | ok b L2 =>
      rw [hf] at h'
      intro u ρ2 H2 p2 t2 h2 r2
      exact h' u ρ2 H2 (hp.trans p2) (ht.trans t2) h2 r2
    | ex c fs L2 =>
      rw [hf] at h'
      intro ρ2 H2 dx p2 t2 h2 r2
      exact h' ρ2 H2 dx (hp.trans p2) (ht.trans t2) h2 r2
    | bad => rw [hf] at h'; exact h'.elim
  | ex c fs L' => exact h
  | bad => exact h
theorem Lf.imp {Q2 : β → Hp → Prop} (h : Lf g ρ H σ W rel r Q1) (k : ∀ v H', Q1 v H' → Q2 v H') : Lf g ρ H σ W rel r Q2 := by
  cases r with
  | ok a L' => intro v ρ' H' hp ht hh hr; exact k _ _ (h v ρ' H' hp ht hh hr)
  | ex c fs L' => exact h
  | bad => exact h
end
/-- a reading may be replaced by one that asks more -/
theorem _root_.L2.PE.imp {X : Cx} {e : Expr} {t t' : TE} (h : PE X e t) (k : ∀ σ H Q, t' σ H Q → t σ H Q) : PE X e t' := ⟨fun pins s σ H Q I q => h.run pins s σ H Q I (k σ H Q q)⟩
theorem _root_.L2.PT.imp {X : Cx} {e : Expr} {t t' : TT} (h : PT X e t) (k : ∀ σ H Q, t' σ H Q → t σ H Q) : PT X e t' := ⟨fun pins s σ H Q I q => h.run pins s σ H Q I (k σ H Q q)⟩
theorem _root_.L2.PA.imp {X : Cx} {es : List Expr} {t t' : TA} (h : PA X es t) (k : ∀ σ H Q, t' σ H Q → t σ H Q) : PA X es t' := ⟨fun pos pins s σ H Q I q => h.run pos pins s σ H Q I (k σ H Q q)⟩
theorem _root_.L2.PS.imp {X : Cx} {st : Stmt} {t t' : TS} (h : PS X st t) (k : ∀ D σ H, t' D σ H → t D σ H) : PS X st t' := ⟨fun pins s σ H D I q => h.run pins s σ H D I (k D σ H q)⟩
theorem _root_.L2.PSs.imp {X : Cx} {st : List Stmt} {t t' : TS} (h : PSs X st t) (k : ∀ D σ H, t' D σ H → t D σ H) : PSs X st t' := ⟨fun pins s σ H D I q => h.run pins s σ H D I (k D σ H q)⟩
section
variable {X : Cx} {W : WX}
def mC (d : D) : ME := fun _ L => .ok d L
def mVar (i : Nat) : ME := fun ε L => match ε[i]? with
  | some (some d) => .ok d L
  | _ => .bad
theorem se_var {i : Nat} {e : Expr} (h : PE X e (tVar i)) : PE X e (tM g W (mVar i)) := h.imp fun σ H Q q => by
  obtain ⟨ε, ρ, L, he, hh, q⟩ := q
  unfold mVar at q
  split at q
  · rename_i d hd
    obtain ⟨v, hv, r⟩ := he.2 i d hd
    exact ⟨v, hv, q v ρ H (List.prefix_refl _) (TP.refl H) hh r⟩
  · exact q.elim
/-- a constant: what VR says of it holds everywhere -/
theorem se_c {e : Expr} {d : D} {v : V} (h : PE X e (tC v)) (r : ∀ ρ H, VR g ρ H d v) : PE X e (tM g W (mC d)) := h.imp fun σ H Q q => by
  obtain ⟨ε, ρ, L, he, hh, q⟩ := q
  exact q v ρ H (List.prefix_refl _) (TP.refl H) hh (r ρ H)
theorem se_int {i : Int} {j pos} : PE X (.Constant (.int i) j pos) (tM g W (mC (.int i))) := se_c pe_int fun _ _ => .int i
theorem se_bl {b : Bool} {j pos} : PE X (.Constant (.bool b) j pos) (tM g W (mC (.bl b))) := se_c pe_bl fun _ _ => .bl b
theorem se_str {x : Str} {j pos} : PE X (.Constant (.str x) j pos) (tM g W (mC (.str x))) := se_c pe_str fun _ _ => .str x
theorem se_non {j pos} : PE X (.Constant .none j pos) (tM g W (mC .non)) := se_c pe_non fun _ _ => .non
/-- what is to be shown of an operation -/
def LfO (g : Gx) (ρ : List Addr) (H : Hp) (r : OD) (Q : VK) : Prop := match r with
  | some (d, L') => ∀ v ρ' H', ρ <+: ρ' → TP H H' → HR g ρ' L' H' → VR g ρ' H' d v → Q v H'
  | none => False
abbrev O2 := D → D → List O → OD
def rM (g : Gx) (o : O2) : R2 := fun x y H Q => ∃ ρ L d e, HR g ρ L H ∧ VR g ρ H d x ∧ VR g ρ H e y ∧ LfO g ρ H (o d e L) Q
def mOp2 (o : O2) (a b : ME) : ME := fun ε L => (a ε L).bind fun x L1 => (b ε L1).bind fun y L2 => ofO (o x y L2)
theorem LfO.of {σ : L2.St} {r : OD} {Q : VK} (h : LfD g ρ H σ W (ofO r) Q) : LfO g ρ H r Q := by
  cases r with
  | none => exact h
  | some p => exact h
theorem tM_op2 {o : O2} {a b : ME} {σ : L2.St} {Q : VK} (q : tM g W (mOp2 o a b) σ H Q) : tM g W a σ H fun x H1 => tM g W b σ H1 fun y H2 => rM g o x y H2 Q := by
  obtain ⟨ε, ρ, L, he, hh, q⟩ := q
  refine ⟨ε, ρ, L, he, hh, Lf.bind q fun x L1 v ρ1 H1 _ p1 t1 h1 r1 q1 => ?_⟩
  refine ⟨ε, ρ1, L1, he.mono p1 t1, h1, Lf.bind q1 fun y L2 u ρ2 H2 _ p2 t2 h2 r2 q2 => ?_⟩
  exact ⟨ρ2, L2, x, y, h2, r1.mono p2 t2, r2, LfO.of q2⟩
theorem se_op {o : O2} {op : Operator} {ea eb : Expr} {a b : ME} {pos} (ho : OpR X (binaryOp op) (rM g o)) (ha : PE X ea (tM g W a)) (hb : PE X eb (tM g W b)) : PE X (.BinOp ea op eb pos) (tM g W (mOp2 o a b)) :=
  (pe_op ho ha hb).imp fun _ _ _ q => tM_op2 q
end
end Tw
end
section
set_option Elab.async false
set_option linter.all false
set_option maxRecDepth 100000
set_option maxHeartbeats 1000000
namespace Tw
open PySem PySem.Spec L2
variable {g : Gx} {ρ ρ' : List Addr} {H H' : Hp} {X : Cx} {W : WX} {L : List O} {cm : Nat → Addr} {fx : Hp}
def mulOk (i j : Int) : Bool := decide (-(2 ^ 64) < i ∧ i < 2 ^ 64) || decide (-(2 ^ 64) < j ∧ j < 2 ^ 64) || decide (i.natAbs.log2 + j.natAbs.log2 < 1000000)
def oAdd : O2 := fun x y L => match x, y with
  | .int i, .int j => some (.int (i + j), L)
  | .str a, .str b => if a.length + b.length ≤ sizeLine then some (.str (a ++ b), L) else none
  | .tup xs, .tup ys => if xs.length + ys.length ≤ sizeLine then some (.tup (xs ++ ys), L) else none
  | .ref n, .ref m => match L[n]?, L[m]? with
    | some (.lst xs), some (.lst ys) => if xs.length + ys.length ≤ sizeLine then some (.ref L.length, L ++ [.lst (xs ++ ys)]) else none
    | _, _ => none
  | _, _ => none
def oSub : O2 := fun x y L => match x, y with
  | .int i, .int j => some (.int (i - j), L)
  | _, _ => none
def oMul : O2 := fun x y L => match x, y with
  | .int i, .int j => if mulOk i j then some (.int (i * j), L) else none
  | .ref n, .int k => match L[n]? with
    | some (.lst xs) => if -(2 ^ 63) ≤ k ∧ k < 2 ^ 63 ∧ xs.length * k.toNat ≤ sizeLine then some (.ref L.length, L ++ [.lst (List.replicate k.toNat xs).flatten]) else none
    | _ => none
  | .tup xs, .int k => if xs ≠ [] ∧ 2 ≤ k ∧ k ≤ 1000 ∧ xs.length ≤ 1000 then some (.tup (List.replicate k.toNat xs).flatten, L) else none
  | _, _ => none
def oFdiv : O2 := fun x y L => match x, y with
  | .int i, .int j => if j ≠ 0 ∧ j.natAbs < 1073741824 then some (.int (i.fdiv j), L) else none
  | _, _ => none
def oMod : O2 := fun x y L => match x, y with
  | .int i, .int j => if j ≠ 0 then some (.int (i.fmod j), L) else none
  | _, _ => none
def oPow : O2 := fun x y L => match x, y with
  | .int i, .int j => if 0 ≤ j ∧ j ≤ 1000000 ∧ i.natAbs < 2 ^ 64 then some (.int (i ^ j.toNat), L) else none
  | _, _ => none
/-- nothing is laid -/
theorem LfO.same {d : D} {v : V} {Q : VK} (h : LfO g ρ H (some (d, L)) Q) (hh : HR g ρ L H) (r : VR g ρ H d v) : Q v H := h v ρ H (List.prefix_refl _) (TP.refl H) hh r
/-- a new list -/
theorem LfO.newL {ds : List D} {vs : List V} {Q : VK} (h : LfO g ρ H (some (.ref L.length, L ++ [.lst ds])) Q) (hh : HR g ρ L H) (r : VRs g ρ H ds vs) {p : Addr} (hp : H p = none) : Q (.ref p) (upd H p (.lst vs)) := by
  refine h _ (ρ ++ [p]) _ (pre_snoc _ _) (TP.new hp) (hh.new hp ⟨vs, upd_same, r.mono (pre_snoc _ _) (TP.new hp)⟩) (.ref ?_)
  rw [← hh.len]
  simp
/-- a new tuple -/
theorem LfO.newT {ds : List D} {vs : List V} {Q : VK} (h : LfO g ρ H (some (.tup ds, L)) Q) (hh : HR g ρ L H) (r : VRs g ρ H ds vs) {p : Addr} (hp : H p = none) : Q (.ref p) (upd H p (.tup vs)) :=
  h _ ρ _ (List.prefix_refl _) (TP.new hp) (hh.fresh hp _) (.tup (.inl upd_same) (r.mono (List.prefix_refl _) (TP.new hp)))
theorem HR.lst (hh : HR g ρ L H) {n : Nat} {xs : List D} (e : L[n]? = some (.lst xs)) {a : Addr} (ea : ρ[n]? = some a) : ∃ vs, H a = some (.lst vs) ∧ VRs g ρ H xs vs := hh.ob n _ a e ea
theorem op_oAdd : OpR X (binaryOp .Add) (rM ⟨X.K, cm, fx, X.w⟩ oAdd) := by
  have h := (op_add (X := X)).or (op_add_str.or (op_catA.or op_cat))
  intro pins s σ H x y v u Q I rx ry q
  refine h pins s σ H x y v u Q I rx ry ?_
  obtain ⟨ρ, L, d, e, hh, r1, r2, q⟩ := q
  unfold oAdd at q
  split at q
  · cases r1; cases r2
    exact .inl ⟨_, _, rfl, rfl, q.same hh (.int _)⟩
  · cases r1; cases r2
    split at q
    · rename_i hz
      exact .inr (.inl ⟨_, _, rfl, rfl, hz, q.same hh (.str _)⟩)
    · exact q.elim
  · cases r1 with
    | tup s1 t1 =>
      cases r2 with
      | tup s2 t2 =>
        split at q
        · rename_i hz
          rw [t1.length, t2.length] at hz
          refine .inr (.inr (.inl ⟨_, _, _, _, rfl, rfl, s1.sq, s2.sq, hz, fun e => ?_, fun _ e => ?_, fun _ _ p hp => ?_⟩))
          · subst e
            cases t1
            exact q.same hh (.tup s2 (by simpa using t2))
          · subst e
            cases t2
            exact q.same hh (.tup s1 (by simpa using t1))
          · exact q.newT hh (t1.append t2) hp
        · exact q.elim
  · cases r1 with
    | ref e1 =>
      cases r2 with
      | ref e2 =>
        split at q
        · rename_i xs ys h1 h2
          obtain ⟨vs, a1, b1⟩ := hh.lst h1 e1
          obtain ⟨us, a2, b2⟩ := hh.lst h2 e2
          split at q
          · rename_i hz
            rw [b1.length, b2.length] at hz
            exact .inr (.inr (.inr ⟨_, _, _, _, rfl, rfl, a1, a2, hz, fun p hp => q.newL hh (b1.append b2) hp⟩))
          · exact q.elim
        · exact q.elim
  · exact q.elim
theorem op_oSub : OpR X (binaryOp .Sub) (rM g oSub) := by
  intro pins s σ H x y v u Q I rx ry q
  refine op_sub pins s σ H x y v u Q I rx ry ?_
  obtain ⟨ρ, L, d, e, hh, r1, r2, q⟩ := q
  unfold oSub at q
  split at q
  · cases r1; cases r2
    exact ⟨_, _, rfl, rfl, q.same hh (.int _)⟩
  · exact q.elim
theorem VRs.rep {ds : List D} {vs : List V} (r : VRs g ρ H ds vs) : ∀ k : Nat, VRs g ρ H (List.replicate k ds).flatten (List.replicate k vs).flatten
  | 0 => .nil
  | k + 1 => by simp only [List.replicate_succ, List.flatten_cons]; exact r.append (VRs.rep r k)
theorem op_oMul : OpR X (binaryOp .Mult) (rM ⟨X.K, cm, fx, X.w⟩ oMul) := by
  have h := (op_mul (X := X)).or (op_mulW.or (op_rep.or op_repT))
  intro pins s σ H x y v u Q I rx ry q
  refine h pins s σ H x y v u Q I rx ry ?_
  obtain ⟨ρ, L, d, e, hh, r1, r2, q⟩ := q
  unfold oMul at q
  split at q
  · cases r1; cases r2
    split at q
    · rename_i hz
      unfold mulOk at hz
      simp only [Bool.or_eq_true, decide_eq_true_eq] at hz
      have q' := q.same hh (.int _)
      rcases hz with (hz | hz) | hz
      · exact .inl ⟨_, _, rfl, rfl, .inl hz, q'⟩
      · exact .inl ⟨_, _, rfl, rfl, .inr hz, q'⟩
      · exact .inr (.inl ⟨_, _, rfl, rfl, hz, q'⟩)
    · exact q.elim
  · cases r1 with
    | ref e1 =>
      cases r2
      split at q
      · rename_i xs h1
        obtain ⟨vs, a1, b1⟩ := hh.lst h1 e1
        split at q
        · rename_i hz
          rw [b1.length] at hz
          exact .inr (.inr (.inl ⟨_, _, _, rfl, rfl, a1, hz.1, hz.2.1, hz.2.2, fun p hp => q.newL hh (b1.rep _) hp⟩))
        · exact q.elim
      · exact q.elim
  · cases r1 with
    | tup s1 t1 =>
      cases r2
      split at q
      · rename_i hz
        have hn : _ ≠ [] := hz.1
        refine .inr (.inr (.inr ⟨_, _, _, rfl, rfl, s1.sq, ?_, hz.2.1, hz.2.2.1, by rw [← t1.length]; exact hz.2.2.2, fun p hp => q.newT hh (t1.rep _) hp⟩))
        intro e
        subst e
        cases t1
        exact hn rfl
      · exact q.elim
  · exact q.elim
theorem op_oFdiv : OpR X (binaryOp .FloorDiv) (rM g oFdiv) := by
  intro pins s σ H x y v u Q I rx ry q
  refine op_fdivN pins s σ H x y v u Q I rx ry ?_
  obtain ⟨ρ, L, d, e, hh, r1, r2, q⟩ := q
  unfold oFdiv at q
  split at q
  · cases r1; cases r2
    split at q
    · rename_i hz
      exact ⟨_, _, rfl, rfl, hz, q.same hh (.int _)⟩
    · exact q.elim
  · exact q.elim
theorem op_oMod : OpR X (binaryOp .Mod) (rM g oMod) := by
  intro pins s σ H x y v u Q I rx ry q
  refine op_modN pins s σ H x y v u Q I rx ry ?_
  obtain ⟨ρ, L, d, e, hh, r1, r2, q⟩ := q
  unfold oMod at q
  split at q
  · cases r1; cases r2
    split at q
    · rename_i hz
      exact ⟨_, _, rfl, rfl, hz, q.same hh (.int _)⟩
    · exact q.elim
  · exact q.elim
theorem op_oPow : OpR X (binaryOp .Pow) (rM g oPow) := by
  intro pins s σ H x y v u Q I rx ry q
  refine op_pow pins s σ H x y v u Q I rx ry ?_
  obtain ⟨ρ, L, d, e, hh, r1, r2, q⟩ := q
  unfold oPow at q
  split at q
  · cases r1; cases r2
    split at q
    · rename_i hz
      exact ⟨_, _, rfl, rfl, hz, q.same hh (.int _)⟩
    · exact q.elim
  · exact q.elim
def oNeg : D → List O → OD := fun x L => match x with
  | .int i => some (.int (-i), L)
  | _ => none
def mOp1 (o : D → List O → OD) (a : ME) : ME := fun ε L => (a ε L).bind fun x L1 => ofO (o x L1)
theorem tM_op1 {o : D → List O → OD} {a : ME} {σ : L2.St} {Q : VK} (q : tM g W (mOp1 o a) σ H Q) : tM g W a σ H fun x H1 => ∃ ρ L d, HR g ρ L H1 ∧ VR g ρ H1 d x ∧ LfO g ρ H1 (o d L) Q := by
  obtain ⟨ε, ρ, L, he, hh, q⟩ := q
  refine ⟨ε, ρ, L, he, hh, Lf.bind q fun x L1 v ρ1 H1 _ p1 t1 h1 r1 q1 => ?_⟩
  exact ⟨ρ1, L1, x, h1, r1, LfO.of q1⟩
theorem se_neg {ea : Expr} {a : ME} {pos} (ha : PE X ea (tM g W a)) : PE X (.UnaryOp .USub ea pos) (tM g W (mOp1 oNeg a)) :=
  (pe_un un_neg ha).imp fun σ H Q q => by
    obtain ⟨ε, ρ, L, he, hh, q⟩ := tM_op1 q
    refine ⟨ε, ρ, L, he, hh, q.imp fun v H' q => ?_⟩
    obtain ⟨ρ, L, d, hh, r, q⟩ := q
    unfold oNeg at q
    split at q
    · cases r
      exact ⟨_, rfl, q.same hh (.int _)⟩
    · exact q.elim
def optAll {α β : Type} (f : α → Option β) : List α → Option (List β)
  | [] => some []
  | x :: xs => match f x, optAll f xs with
    | some y, some ys => some (y :: ys)
    | _, _ => none
def toPy (L : List O) : Nat → D → Option PyData
  | 0, _ => none
  | n + 1, d => match d with
    | .non => some .none
    | .bl b => some (.bool b)
    | .int i => some (.int i)
    | .str x => some (.str x)
    | .tup ds => (optAll (toPy L n) ds).map .tuple
    | .rol ds => (optAll (toPy L n) ds).map .list
    | .ref k => match L[k]? with
      | some (.lst ds) => (optAll (toPy L n) ds).map .list
      | _ => none
    | .cls _ => none
    | .ty _ => none
theorem toPy_ok (hh : HR g ρ L H) : ∀ (n : Nat) (d : D) (p : PyData) (v : V), toPy L n d = some p → VR g ρ H d v → Dp g.K H v p
  | 0, _, _, _, e, _ => by cases e
  | n + 1, d, p, v, e, r => by
    have all : ∀ (ds : List D) (ps : List PyData) (vs : List V), optAll (toPy L n) ds = some ps → VRs g ρ H ds vs → DpAll g.K H vs ps := by
      intro ds
      induction ds with
      | nil => intro ps vs e r; cases r; cases e; exact .nil
      | cons d ds ih =>
        intro ps vs e r
        cases r with
        | cons r t =>
          unfold optAll at e
          split at e
          · rename_i y ys h1 h2
            cases e
            exact .cons (toPy_ok hh n d y _ h1 r) (ih ys _ h2 t)
          · cases e
    cases r with
    | non => cases e; exact .non
    | bl b => cases e; exact .bl b
    | int i => cases e; exact .int i
    | str x => cases e; exact .str x
    | cls c => cases e
    | ty c => cases e
    | @tup ds a vs s t =>
      unfold toPy at e
      simp only at e
      cases h : optAll (toPy L n) ds with
      | none => rw [h] at e; cases e
      | some ps => rw [h] at e; cases e; exact .tup s.sq (all ds ps vs h t)
    | @rol ds a vs s t =>
      unfold toPy at e
      simp only at e
      cases h : optAll (toPy L n) ds with
      | none => rw [h] at e; cases e
      | some ps => rw [h] at e; cases e; exact .lst s.seq (all ds ps vs h t)
    | @ref k a ea =>
      unfold toPy at e
      simp only at e
      split at e
      · rename_i ds h1
        obtain ⟨vs, b1, b2⟩ := hh.lst h1 ea
        cases h : optAll (toPy L n) ds with
        | none => rw [h] at e; cases e
        | some ps => rw [h] at e; cases e; exact .lst (SqL.of b1) (all ds ps vs h b2)
      · cases e
def pyDeep : Nat := 16
def eqData (L : List O) (x y : D) : Option Bool := match toPy L pyDeep x, toPy L pyDeep y with
  | some p, some q => if SeqAt.shaped p = true ∧ SeqAt.shaped q = true then some (PyData.eqv p q) else none
  | _, _ => none
def oEq : O2 := fun x y L => (eqData L x y).map fun b => (.bl b, L)
def oNe : O2 := fun x y L => (eqData L x y).map fun b => (.bl (!b), L)
theorem op_oEq (hu : X.A.units + 64 < cLine) : OpR X (compareOp .Eq) (rM ⟨X.K, cm, fx, X.w⟩ oEq) := by
  intro pins s σ H x y v u Q I rx ry q
  refine op_eqD hu pins s σ H x y v u Q I rx ry ?_
  obtain ⟨ρ, L, d, e, hh, r1, r2, q⟩ := q
  unfold oEq eqData at q
  split at q
  · rename_i p q' h1 h2
    split at q
    · rename_i hz
      exact ⟨p, q', toPy_ok hh _ _ _ _ h1 r1, toPy_ok hh _ _ _ _ h2 r2, hz.1, hz.2, LfO.same q hh (.bl _)⟩
    · exact q.elim
  · exact q.elim
theorem op_oNe (hu : X.A.units + 64 < cLine) : OpR X (compareOp .NotEq) (rM ⟨X.K, cm, fx, X.w⟩ oNe) := by
  intro pins s σ H x y v u Q I rx ry q
  refine op_neD hu pins s σ H x y v u Q I rx ry ?_
  obtain ⟨ρ, L, d, e, hh, r1, r2, q⟩ := q
  unfold oNe eqData at q
  split at q
  · rename_i p q' h1 h2
    split at q
    · rename_i hz
      exact ⟨p, q', toPy_ok hh _ _ _ _ h1 r1, toPy_ok hh _ _ _ _ h2 r2, hz.1, hz.2, LfO.same q hh (.bl _)⟩
    · exact q.elim
  · exact q.elim
def oCmp (p : Int → Int → Bool) : O2 := fun x y L => match x, y with
  | .int i, .int j => some (.bl (p i j), L)
  | _, _ => none
theorem oCmp_ok {p : Int → Int → Bool} {x y : V} {Q : VK} (q : rM g (oCmp p) x y H Q) : ∃ i j, x = .int i ∧ y = .int j ∧ Q (.bl (p i j)) H := by
  obtain ⟨ρ, L, d, e, hh, r1, r2, q⟩ := q
  unfold oCmp at q
  split at q
  · cases r1; cases r2
    exact ⟨_, _, rfl, rfl, q.same hh (.bl _)⟩
  · exact q.elim
def oLt : O2 := oCmp fun i j => decide (i < j)
def oLe : O2 := oCmp fun i j => decide (i ≤ j)
def oGt : O2 := oCmp fun i j => decide (j < i)
def oGe : O2 := oCmp fun i j => decide (j ≤ i)
theorem op_oLt : OpR X (compareOp .Lt) (rM g oLt) := fun pins s σ H x y v u Q I rx ry q => op_lt pins s σ H x y v u Q I rx ry (oCmp_ok q)
theorem op_oLe : OpR X (compareOp .LtE) (rM g oLe) := fun pins s σ H x y v u Q I rx ry q => op_le pins s σ H x y v u Q I rx ry (oCmp_ok q)
theorem op_oGt : OpR X (compareOp .Gt) (rM g oGt) := fun pins s σ H x y v u Q I rx ry q => op_gt pins s σ H x y v u Q I rx ry (oCmp_ok q)
theorem op_oGe : OpR X (compareOp .GtE) (rM g oGe) := fun pins s σ H x y v u Q I rx ry q => op_ge pins s σ H x y v u Q I rx ry (oCmp_ok q)
def oIsB : O2 := fun x y L => match x, y with
  | .bl a, .bl b => some (.bl (decide (a = b)), L)
  | _, _ => none
def oNotB : O2 := fun x y L => match x, y with
  | .bl a, .bl b => some (.bl (!decide (a = b)), L)
  | _, _ => none
theorem op_oIsB : OpR X (compareOp .Is) (rM g oIsB) := fun pins s σ H x y v u Q I rx ry q => op_isBl pins s σ H x y v u Q I rx ry (by
  obtain ⟨ρ, L, d, e, hh, r1, r2, q⟩ := q
  unfold oIsB at q
  split at q
  · cases r1; cases r2
    exact ⟨_, _, rfl, rfl, q.same hh (.bl _)⟩
  · exact q.elim)
theorem op_oNotB : OpR X (compareOp .IsNot) (rM g oNotB) := fun pins s σ H x y v u Q I rx ry q => op_notBl pins s σ H x y v u Q I rx ry (by
  obtain ⟨ρ, L, d, e, hh, r1, r2, q⟩ := q
  unfold oNotB at q
  split at q
  · cases r1; cases r2
    exact ⟨_, _, rfl, rfl, q.same hh (.bl _)⟩
  · exact q.elim)
end Tw
end
section
set_option Elab.async false
set_option linter.all false
set_option maxRecDepth 100000
set_option maxHeartbeats 1000000
namespace Tw
open PySem PySem.Spec L2
variable {g : Gx} {ρ ρ' : List Addr} {H H' : Hp} {X : Cx} {W : WX} {L : List O} {cm : Nat → Addr} {fx : Hp}
def flatD : D → Bool
  | .non => true | .bl _ => true | .int _ => true | .str _ => true | _ => false
def eqF : D → D → Bool
  | .non, .non => true
  | .bl a, .bl b => a == b
  | .bl a, .int b => (if a then 1 else 0) == b
  | .int a, .bl b => a == (if b then 1 else 0)
  | .int a, .int b => a == b
  | .str a, .str b => a == b
  | _, _ => false
theorem flatD_ok {d : D} {v : V} (r : VR g ρ H d v) : flatV v = flatD d := by cases r <;> rfl
theorem flatDs_ok : ∀ {ds : List D} {vs : List V}, VRs g ρ H ds vs → vs.all flatV = ds.all flatD
  | _, _, .nil => rfl
  | _, _, .cons r t => by rw [List.all_cons, List.all_cons, flatD_ok r, flatDs_ok t]
theorem eqF_ok {d e : D} {v u : V} (r : VR g ρ H d v) (q : VR g ρ H e u) : eqV v u = eqF d e := by
  cases r <;> cases q <;> rfl
theorem inV_ok {d : D} {v : V} (r : VR g ρ H d v) : ∀ {ds : List D} {vs : List V}, VRs g ρ H ds vs → inV v vs = ds.any fun y => eqF y d
  | _, _, .nil => rfl
  | _, _, .cons q t => by
    show (eqV _ v || inV v _) = _
    rw [List.any_cons, eqF_ok q r, inV_ok r t]
def keyD : D → Option Key
  | .int i => some (.inl i)
  | .str x => some (.inr x)
  | _ => none
theorem keyD_ok {d : D} {v : V} {k : Key} (r : VR g ρ H d v) (e : keyD d = some k) : v = kV k := by
  cases r <;> cases e <;> rfl
def lkK (ks : List (Key × D)) (k : Key) : Option D := (ks.find? fun kv => decide (kv.1 = k)).map (·.2)
theorem KR.look (k : Key) : ∀ {ks : List (Key × D)} {vs : List (Key × V)}, KR g ρ H ks vs → (∃ d v, lkK ks k = some d ∧ valV vs k = some v ∧ VR g ρ H d v) ∨ (lkK ks k = none ∧ valV vs k = none)
  | _, _, .nil => .inr ⟨rfl, rfl⟩
  | _, _, .cons (k := j) (d := d) (v := v) (ks := ks) (vs := vs) r t => by
    by_cases e : j = k
    · exact .inl ⟨d, v, by simp [lkK, e], by rw [valV_pos e], r⟩
    · have h1 : lkK ((j, d) :: ks) k = lkK ks k := by simp [lkK, e]
      rw [h1, valV_neg e]
      exact KR.look k t
theorem HR.dic (hh : HR g ρ L H) {n : Nat} {lk : Bool} {ks : List (Key × D)} (e : L[n]? = some (.dic lk ks)) {a : Addr} (ea : ρ[n]? = some a) : ∃ vs, Rd H a (.dK vs) ∧ KR g ρ H ks vs := by
  have q := hh.ob n _ a e ea
  cases lk with
  | false => obtain ⟨vs, h, r⟩ := q; exact ⟨vs, .inl h, r⟩
  | true => obtain ⟨vs, o, h, r⟩ := q; exact ⟨vs, .inr ⟨o, h⟩, r⟩
theorem HR.dget (hh : HR g ρ L H) {n : Nat} {lk : Bool} {ks : List (Key × D)} (e : L[n]? = some (.dic lk ks)) {a : Addr} (ea : ρ[n]? = some a) {d : D} {v : V} {k : Key} (r : VR g ρ H d v) (ek : keyD d = some k) :
    (∃ x z, lkK ks k = some x ∧ VR g ρ H x z ∧ DGet H a v (some z)) ∨ (lkK ks k = none ∧ DGet H a v none) := by
  obtain ⟨vs, h, kr⟩ := hh.dic e ea
  obtain rfl := keyD_ok r ek
  rcases kr.look k with ⟨x, z, h1, h2, h3⟩ | ⟨h1, h2⟩
  · exact .inl ⟨x, z, h1, h3, .inl ⟨vs, k, h, rfl, h2.symm⟩⟩
  · exact .inr ⟨h1, .inl ⟨vs, k, h, rfl, h2.symm⟩⟩
/-- x in a list (any data), a tuple (plain things), a dict (ints, texts) -/
def inD (L : List O) (x y : D) : Option Bool := match y with
  | .tup ds => if flatD x = true ∧ ds.all flatD = true then some (ds.any fun z => eqF z x) else none
  | .ref n => match L[n]? with
    | some (.lst ds) => match toPy L pyDeep x, toPy L pyDeep y with
      | some p, some (.list ps) => if SeqAt.shaped p = true ∧ SeqAt.shaped (.list ps) = true then some (ps.any fun z => PyData.eqv z p) else none
      | _, _ => none
    | some (.dic _ ks) => (keyD x).map fun k => (lkK ks k).isSome
    | _ => none
  | _ => none
def oIn : O2 := fun x y L => (inD L x y).map fun b => (.bl b, L)
def oNotIn : O2 := fun x y L => (inD L x y).map fun b => (.bl (!b), L)
theorem op_dIn (hu : X.A.units + 65 < cLine) : OpR X (compareOp .In) (fun x y H Q => ∃ a o, y = .ref a ∧ DGet H a x o ∧ Q (.bl o.isSome) H) := by
  rintro pins s σ H x y v u Q I rx ry ⟨a, o, rfl, dg, q⟩
  cases ry
  exact d_in (by omega) I dg rx fun s3 I3 => ⟨.bl o.isSome, H, I3, rfl, q⟩
theorem op_dNotIn (hu : X.A.units + 65 < cLine) : OpR X (compareOp .NotIn) (fun x y H Q => ∃ a o, y = .ref a ∧ DGet H a x o ∧ Q (.bl (!o.isSome)) H) := by
  rintro pins s σ H x y v u Q I rx ry ⟨a, o, rfl, dg, q⟩
  cases ry
  exact d_notIn (by omega) I dg rx fun s3 I3 => ⟨.bl (!o.isSome), H, I3, rfl, q⟩
theorem inD_cases {x y : D} {v u : V} (hh : HR g ρ L H) (rx : VR g ρ H x v) (ry : VR g ρ H y u) {b : Bool} (e : inD L x y = some b) :
    (∃ p xs, u = .ref p ∧ SqT g.K H p xs ∧ flatV v = true ∧ xs.all flatV = true ∧ inV v xs = b) ∨
    (∃ d ds, Dp g.K H v d ∧ Dp g.K H u (.list ds) ∧ SeqAt.shaped d = true ∧ SeqAt.shaped (.list ds) = true ∧ (ds.any fun z => PyData.eqv z d) = b) ∨
    ∃ a o, u = .ref a ∧ DGet H a v o ∧ o.isSome = b := by
  unfold inD at e
  split at e
  · cases ry with
    | tup s t =>
      split at e
      · rename_i hz
        cases e
        exact .inl ⟨_, _, rfl, s.sq, by rw [flatD_ok rx]; exact hz.1, by rw [flatDs_ok t]; exact hz.2, inV_ok rx t⟩
      · cases e
  · cases ry with
    | ref ea =>
      split at e
      · rename_i ds h1
        split at e
        · rename_i p ps h2 h3
          split at e
          · rename_i hz
            cases e
            exact .inr (.inl ⟨p, ps, toPy_ok hh _ _ _ _ h2 rx, toPy_ok hh _ _ _ _ h3 (.ref ea), hz.1, hz.2, rfl⟩)
          · cases e
        · cases e
      · rename_i lk ks h1
        cases hk : keyD x with
        | none => rw [hk] at e; cases e
        | some k =>
          rw [hk] at e
          cases e
          rcases hh.dget h1 ea rx hk with ⟨z, w, l, r, dg⟩ | ⟨l, dg⟩
          · exact .inr (.inr ⟨_, _, rfl, dg, by show _ = (lkK ks k).isSome; rw [l]; rfl⟩)
          · exact .inr (.inr ⟨_, _, rfl, dg, by show _ = (lkK ks k).isSome; rw [l]; rfl⟩)
      · cases e
  · cases e
theorem op_oIn (hu : X.A.units + 65 < cLine) : OpR X (compareOp .In) (rM ⟨X.K, cm, fx, X.w⟩ oIn) := by
  have h := (op_in_seq (X := X)).or ((op_inD hu).or (op_dIn hu))
  intro pins s σ H x y v u Q I rx ry q
  refine h pins s σ H x y v u Q I rx ry ?_
  obtain ⟨ρ, L, d, e, hh, r1, r2, q⟩ := q
  unfold oIn at q
  cases hb : inD L d e with
  | none => rw [hb] at q; exact q.elim
  | some b =>
    rw [hb] at q
    have q' := LfO.same q hh (.bl b)
    rcases inD_cases hh r1 r2 hb with ⟨p, xs, e1, s1, f1, f2, e2⟩ | ⟨p, ps, d1, d2, s1, s2, e2⟩ | ⟨a, o, e1, dg, e2⟩
    · exact .inl ⟨p, xs, e1, .inr s1, f1, f2, by rw [if_neg (by decide), e2]; exact q'⟩
    · exact .inr (.inl ⟨p, ps, d1, d2, s1, s2, by rw [e2]; exact q'⟩)
    · exact .inr (.inr ⟨a, o, e1, dg, by rw [e2]; exact q'⟩)
theorem op_oNotIn (hu : X.A.units + 65 < cLine) : OpR X (compareOp .NotIn) (rM ⟨X.K, cm, fx, X.w⟩ oNotIn) := by
  have h := (op_notIn_seq (X := X)).or ((op_notInD hu).or (op_dNotIn hu))
  intro pins s σ H x y v u Q I rx ry q
  refine h pins s σ H x y v u Q I rx ry ?_
  obtain ⟨ρ, L, d, e, hh, r1, r2, q⟩ := q
  unfold oNotIn at q
  cases hb : inD L d e with
  | none => rw [hb] at q; exact q.elim
  | some b =>
    rw [hb] at q
    have q' := LfO.same q hh (.bl (!b))
    rcases inD_cases hh r1 r2 hb with ⟨p, xs, e1, s1, f1, f2, e2⟩ | ⟨p, ps, d1, d2, s1, s2, e2⟩ | ⟨a, o, e1, dg, e2⟩
    · exact .inl ⟨p, xs, e1, .inr s1, f1, f2, by rw [if_pos rfl, e2]; exact q'⟩
    · exact .inr (.inl ⟨p, ps, d1, d2, s1, s2, by rw [e2]; exact q'⟩)
    · exact .inr (.inr ⟨a, o, e1, dg, by rw [e2]; exact q'⟩)
/-- a comparison as a value, as a test; a chain of two -/
theorem se_cmp {o : O2} {op : CmpOp} {ea eb : Expr} {a b : ME} {pos} (ho : OpR X (compareOp op) (rM g o)) (ha : PE X ea (tM g W a)) (hb : PE X eb (tM g W b)) (hm : behindInMarks op eb = false := by first | exact nomark _ | rfl) : PE X (.Compare ea [op] [eb] pos) (tM g W (mOp2 o a b)) :=
  (pe_cmpR ho ha hb hm).imp fun _ _ _ q => tM_op2 q
def mChain (o o' : O2) (a b c : ME) : ME := fun ε L => (a ε L).bind fun x L1 => (b ε L1).bind fun y L2 => (ofO (o x y L2)).bind fun z L3 => match z with
  | .bl true => (c ε L3).bind fun w L4 => ofO (o' y w L4)
  | .bl false => .ok (.bl false) L3
  | _ => .bad
theorem LfO_bind {α : Type} {σ : L2.St} {o : OD} {f : D → List O → Rs D} {Q : VK} (h : LfD g ρ H σ W ((ofO o).bind f) Q) {Q1 : VK} (k : ∀ d L' v ρ' H', o = some (d, L') → ρ <+: ρ' → TP H H' → HR g ρ' L' H' → VR g ρ' H' d v → LfD g ρ' H' σ W (f d L') Q → Q1 v H') : LfO g ρ H o Q1 := by
  cases o with
  | none => exact h.elim
  | some p =>
    obtain ⟨d, L'⟩ := p
    intro v ρ' H' hp ht hh hr
    exact (Lf.bind (r := .ok d L') h fun a L2 v ρ' H' e p t hh r q => by cases e; exact k d L' v ρ' H' rfl p t hh r q : LfD g ρ H σ W (.ok d L') Q1) v ρ' H' hp ht hh hr
theorem se_chain {o o' : O2} {op op' : CmpOp} {ea eb ec : Expr} {a b c : ME} {pos} (ho : OpR X (compareOp op) (rM g o)) (ho' : OpR X (compareOp op') (rM g o')) (ha : PE X ea (tM g W a)) (hb : PE X eb (tM g W b)) (hc : PE X ec (tM g W c))
    (hm : lastMarks [op, op'] [eb, ec] = false := by with_unfolding_all rfl) : PE X (.Compare ea [op, op'] [eb, ec] pos) (tM g W (mChain o o' a b c)) :=
  (pe_chain ho ho' ha hb hc hm).imp fun σ H Q q => by
    obtain ⟨ε, ρ, L, he, hh, q⟩ := q
    refine ⟨ε, ρ, L, he, hh, Lf.bind q fun x L1 v ρ1 H1 _ p1 t1 h1 r1 q1 => ?_⟩
    refine ⟨ε, ρ1, L1, he.mono p1 t1, h1, Lf.bind q1 fun y L2 u ρ2 H2 _ p2 t2 h2 r2 q2 => ?_⟩
    refine ⟨ρ2, L2, x, y, h2, r1.mono p2 t2, r2, LfO_bind (α := D) q2 fun z L3 zv ρ3 H3 _ p3 t3 h3 r3 q3 => ?_⟩
    cases r3 with
    | bl b =>
      refine ⟨b, rfl, ?_⟩
      cases b with
      | false =>
        rw [if_neg (by decide)]
        exact q3 (.bl false) ρ3 H3 (List.prefix_refl _) (TP.refl H3) h3 (.bl false)
      | true =>
        rw [if_pos rfl]
        refine ⟨ε, ρ3, L3, ((he.mono p1 t1).mono p2 t2).mono p3 t3, h3, Lf.bind q3 fun w' L4 wv ρ4 H4 _ p4 t4 h4 r4 q4 => ?_⟩
        exact ⟨ρ4, L4, y, w', h4, (r2.mono p3 t3).mono p4 t4, r4, LfO.of q4⟩
    | _ => exact q3.elim
theorem VRs.atI {ds : List D} {vs : List V} (r : VRs g ρ H ds vs) {i : Int} {d : D} (e : atI ds i = some d) : ∃ v, L2.atI vs i = some v ∧ VR g ρ H d v := by
  unfold L2.atI at e ⊢
  rw [← r.length]
  cases h : ixN ds.length i with
  | none => rw [h] at e; cases e
  | some j =>
    rw [h] at e
    exact r.get e
def oIdx : O2 := fun x y L => match x with
  | .tup ds => match y with
    | .int i => (atI ds i).map fun d => (d, L)
    | _ => none
  | .rol ds => match y with
    | .int i => (atI ds i).map fun d => (d, L)
    | _ => none
  | .ref n => match L[n]? with
    | some (.lst ds) => match y with
      | .int i => (atI ds i).map fun d => (d, L)
      | _ => none
    | some (.dic _ ks) => match keyD y with
      | some k => (lkK ks k).map fun d => (d, L)
      | none => none
    | _ => none
  | _ => none
theorem ix_dict (hu : X.A.units + 65 < cLine) : IxR X (fun x y H Q => ∃ a v, x = .ref a ∧ DGet H a y (some v) ∧ Q v H) := by
  rintro value slice pins s σ H x y v u Q I rx ry ⟨a, z, rfl, dg, q⟩ hs
  cases rx
  exact PyProof.Rows.tail_any (dict_typeIs I dg) PySem.F.slot_dict_getitem.lookup (d_getItem (by omega) I dg ry fun w' s3 I3 rw' => ⟨z, H, I3, rw', q⟩) hs
theorem ix_oIdx (hu : X.A.units + 65 < cLine) : IxR X (rM ⟨X.K, cm, fx, X.w⟩ oIdx) := by
  have h := (ix_list (X := X)).or (ix_tup.or (ix_dict hu))
  intro value slice pins s σ H x y v u Q I rx ry q
  refine h value slice pins s σ H x y v u Q I rx ry ?_
  obtain ⟨ρ, L, d, e, hh, r1, r2, q⟩ := q
  unfold oIdx at q
  split at q
  · cases r1 with
    | tup s1 t1 =>
      split at q
      · rename_i i
        cases r2
        rename_i ds _ _ _
        cases ha : L2.atI ds i with
        | none => rw [ha] at q; exact q.elim
        | some z =>
          rw [ha] at q
          obtain ⟨zv, e1, e2⟩ := t1.atI ha
          exact .inr (.inl ⟨_, _, _, zv, rfl, rfl, s1.sq, e1, LfO.same q hh e2⟩)
      · exact q.elim
  · cases r1 with
    | rol s1 t1 =>
      split at q
      · rename_i i
        cases r2
        rename_i ds _ _ _
        cases ha : L2.atI ds i with
        | none => rw [ha] at q; exact q.elim
        | some z =>
          rw [ha] at q
          obtain ⟨zv, e1, e2⟩ := t1.atI ha
          exact .inl ⟨_, _, _, zv, rfl, rfl, s1.seq, e1, LfO.same q hh e2⟩
      · exact q.elim
  · cases r1 with
    | ref ea =>
      split at q
      · rename_i ds h1
        split at q
        · rename_i i
          cases r2
          obtain ⟨vs, b1, b2⟩ := hh.lst h1 ea
          cases ha : L2.atI ds i with
          | none => rw [ha] at q; exact q.elim
          | some z =>
            rw [ha] at q
            obtain ⟨zv, e1, e2⟩ := b2.atI ha
            exact .inl ⟨_, _, _, zv, rfl, rfl, SqL.of b1, e1, LfO.same q hh e2⟩
        · exact q.elim
      · rename_i lk ks h1
        split at q
        · rename_i k hk
          rcases hh.dget h1 ea r2 hk with ⟨z, zv, l, r, dg⟩ | ⟨l, dg⟩
          · rw [l] at q
            exact .inr (.inr ⟨_, zv, rfl, dg, LfO.same q hh r⟩)
          · rw [l] at q
            exact q.elim
        · exact q.elim
      · exact q.elim
  · exact q.elim
theorem se_idx (hu : X.A.units + 65 < cLine) {ea eb : Expr} {a b : ME} {pos} (ha : PE X ea (tM ⟨X.K, cm, fx, X.w⟩ W a)) (hb : PE X eb (tM ⟨X.K, cm, fx, X.w⟩ W b)) (hs : PlainIx eb := by exact fun _ _ => rfl) : PE X (.Subscript ea eb pos) (tM ⟨X.K, cm, fx, X.w⟩ W (mOp2 oIdx a b)) :=
  (pe_ix (ix_oIdx hu) ha hb hs).imp fun _ _ _ q => tM_op2 q
end Tw
end
section
set_option Elab.async false
set_option linter.all false
set_option maxRecDepth 100000
set_option maxHeartbeats 1000000
namespace Tw
open PySem PySem.Spec L2
variable {g : Gx} {ρ ρ' : List Addr} {H H' : Hp} {X : Cx} {W : WX} {L : List O} {cm : Nat → Addr} {fx : Hp}
abbrev MO := En → List O → Rs (Option Int)
def relE {α : Type} : List Addr → Hp → α → α → Prop := fun _ _ a b => a = b
def tMO (g : Gx) (W : WX) (m : MO) : TO := fun σ H Q => ∃ ε ρ L, ER g ρ H σ ε ∧ HR g ρ L H ∧ Lf g ρ H σ W relE (m ε L) Q
def mNoPart : MO := fun _ L => .ok none L
def mPart (a : ME) : MO := fun ε L => (a ε L).bind fun x L1 => match x with
  | .int i => .ok (some i) L1
  | _ => .bad
theorem so_none : PO X none (tMO g W mNoPart) := ⟨fun pins s σ H Q I q => po_none.run pins s σ H Q I (by
  obtain ⟨ε, ρ, L, he, hh, q⟩ := q
  exact q none ρ H (List.prefix_refl _) (TP.refl H) hh rfl)⟩
theorem so_some {e : Expr} {a : ME} (h : PE X e (tM g W a)) : PO X (some e) (tMO g W (mPart a)) := ⟨fun pins s σ H Q I q => (po_some h).run pins s σ H Q I (by
  obtain ⟨ε, ρ, L, he, hh, q⟩ := q
  refine ⟨ε, ρ, L, he, hh, Lf.bind q fun x L1 v ρ1 H1 _ p1 t1 h1 r1 q1 => ?_⟩
  cases r1 with
  | int i => exact ⟨i, rfl, q1 (some i) ρ1 H1 (List.prefix_refl _) (TP.refl H1) h1 rfl⟩
  | _ => exact q1.elim)⟩
def cutD (xs : List D) (lo hi : Option Int) : List D := (xs.drop (HT.sIx xs.length 0 lo)).take (HT.sIx xs.length xs.length hi - HT.sIx xs.length 0 lo)
def oSl (x : D) (lo hi : Option Int) (L : List O) : OD := match x with
  | .tup ds => some (.tup (cutD ds lo hi), L)
  | .rol ds => some (.ref L.length, L ++ [.lst (cutD ds lo hi)])
  | .ref n => match L[n]? with
    | some (.lst ds) => some (.ref L.length, L ++ [.lst (cutD ds lo hi)])
    | _ => none
  | _ => none
theorem VRs.cut {ds : List D} {vs : List V} (r : VRs g ρ H ds vs) (lo hi : Option Int) : VRs g ρ H (cutD ds lo hi) (cutV vs lo hi) := by
  unfold cutD cutV
  rw [← r.length]
  exact (r.drop _).take _
theorem sl_oSl : SlR X (fun x lo hi H Q => ∃ ρ L d, HR ⟨X.K, cm, fx, X.w⟩ ρ L H ∧ VR ⟨X.K, cm, fx, X.w⟩ ρ H d x ∧ LfO ⟨X.K, cm, fx, X.w⟩ ρ H (oSl d lo hi L) Q) := by
  have h := (sl_list (X := X)).or sl_tupA
  intro pins s σ H x v vl vu lo hi sl Q I rx hs pl pu q
  refine h pins s σ H x v vl vu lo hi sl Q I rx hs pl pu ?_
  obtain ⟨ρ, L, d, hh, r1, q⟩ := q
  unfold oSl at q
  split at q
  · cases r1 with
    | tup s1 t1 =>
      rename_i ds _ _
      refine .inr ⟨_, _, rfl, s1.sq, fun e => ?_, fun _ p hp => q.newT hh (t1.cut lo hi) hp⟩
      have e' : cutD ds lo hi = ds := by
        unfold cutD
        rw [t1.length, e.1, e.2]
        simp only [List.drop_zero, Nat.sub_zero]
        rw [← t1.length]
        exact List.take_length
      rw [e'] at q
      exact q.same hh (.tup s1 t1)
  · cases r1 with
    | rol s1 t1 => exact .inl ⟨_, _, rfl, s1.seq, fun p hp => q.newL hh (t1.cut lo hi) hp⟩
  · cases r1 with
    | ref ea =>
      split at q
      · rename_i ds h1
        obtain ⟨vs, b1, b2⟩ := hh.lst h1 ea
        exact .inl ⟨_, _, rfl, SqL.of b1, fun p hp => q.newL hh (b2.cut lo hi) hp⟩
      · exact q.elim
  · exact q.elim
def mSl (a : ME) (lo hi : MO) : ME := fun ε L => (a ε L).bind fun x L1 => (lo ε L1).bind fun i L2 => (hi ε L2).bind fun j L3 => ofO (oSl x i j L3)
theorem se_slice {e : Expr} {lo hi : Option Expr} {a : ME} {ml mh : MO} {pos p2} (he : PE X e (tM ⟨X.K, cm, fx, X.w⟩ W a)) (hl : PO X lo (tMO ⟨X.K, cm, fx, X.w⟩ W ml)) (hu : PO X hi (tMO ⟨X.K, cm, fx, X.w⟩ W mh)) :
    PE X (.Subscript e (.Slice lo hi none p2) pos) (tM ⟨X.K, cm, fx, X.w⟩ W (mSl a ml mh)) :=
  (pe_slice sl_oSl he hl hu).imp fun σ H Q q => by
    obtain ⟨ε, ρ, L, he, hh, q⟩ := q
    refine ⟨ε, ρ, L, he, hh, Lf.bind q fun x L1 v ρ1 H1 _ p1 t1 h1 r1 q1 => ?_⟩
    refine ⟨ε, ρ1, L1, he.mono p1 t1, h1, Lf.bind q1 fun i L2 u ρ2 H2 _ p2 t2 h2 r2 q2 => ?_⟩
    cases r2
    refine ⟨ε, ρ2, L2, (he.mono p1 t1).mono p2 t2, h2, Lf.bind q2 fun j L3 u ρ3 H3 _ p3 t3 h3 r3 q3 => ?_⟩
    cases r3
    exact ⟨ρ3, L3, x, h3, (r1.mono p2 t2).mono p3 t3, LfO.of q3⟩
def mNil : MA := fun _ L => .ok [] L
def mCons (a : ME) (r : MA) : MA := fun ε L => (a ε L).bind fun x L1 => (r ε L1).bind fun xs L2 => .ok (x :: xs) L2
theorem sa_nil : PA X [] (tMA g W mNil) := pa_nil.imp fun σ H Q q => by
  obtain ⟨ε, ρ, L, he, hh, q⟩ := q
  exact q [] ρ H (List.prefix_refl _) (TP.refl H) hh .nil
theorem sa_cons {e : Expr} {es : List Expr} {a : ME} {r : MA} (ha : PE X e (tM g W a)) (hr : PA X es (tMA g W r)) (hs : starEach (e :: es) X.env = (false, eval e X.env) :: starEach es X.env := by rfl) : PA X (e :: es) (tMA g W (mCons a r)) :=
  (pa_cons ha hr hs).imp fun σ H Q q => by
    obtain ⟨ε, ρ, L, he, hh, q⟩ := q
    refine ⟨ε, ρ, L, he, hh, Lf.bind q fun x L1 v ρ1 H1 _ p1 t1 h1 r1 q1 => ?_⟩
    refine ⟨ε, ρ1, L1, he.mono p1 t1, h1, Lf.bind q1 fun xs L2 vs ρ2 H2 _ p2 t2 h2 r2 q2 => ?_⟩
    exact q2 _ ρ2 H2 (List.prefix_refl _) (TP.refl H2) h2 (.cons (r1.mono p2 t2) r2)
/-- a star on a list or a tuple -/
def seqD (L : List O) (x : D) : Option (List D) := match x with
  | .tup ds => some ds
  | .rol ds => some ds
  | .ref n => match L[n]? with
    | some (.lst ds) => some ds
    | _ => none
  | _ => none
theorem seqD_ok {x : D} {v : V} {ds : List D} (hh : HR g ρ L H) (r : VR g ρ H x v) (e : seqD L x = some ds) : ∃ a vs, v = .ref a ∧ VRs g ρ H ds vs ∧ (TuT g.K H a vs ∨ SqL g.K H a vs) := by
  unfold seqD at e
  split at e
  · cases e
    cases r with
    | tup s t => exact ⟨_, _, rfl, t, .inl s⟩
  · cases e
    cases r with
    | rol s t => exact ⟨_, _, rfl, t, .inr s.seq⟩
  · cases r with
    | ref ea =>
      split at e
      · rename_i h1
        cases e
        obtain ⟨vs, b1, b2⟩ := hh.lst h1 ea
        exact ⟨_, vs, rfl, b2, .inr (SqL.of b1)⟩
      · cases e
  · cases e
def mStar (a : ME) (r : MA) : MA := fun ε L => (a ε L).bind fun x L1 => match seqD L1 x with
  | some xs => (r ε L1).bind fun ys L2 => .ok (xs ++ ys) L2
  | none => .bad
theorem sa_star {e : Expr} {es : List Expr} {a : ME} {r : MA} {p : Pos} (ha : PE X e (tM ⟨X.K, cm, fx, X.w⟩ W a)) (hr : PA X es (tMA ⟨X.K, cm, fx, X.w⟩ W r)) (hs : starEach (.Starred e p :: es) X.env = (true, eval e X.env) :: starEach es X.env := by rfl) :
    PA X (.Starred e p :: es) (tMA ⟨X.K, cm, fx, X.w⟩ W (mStar a r)) :=
  (StX.pa_star ha hr hs).imp fun σ H Q q => by
    obtain ⟨ε, ρ, L, he, hh, q⟩ := q
    refine ⟨ε, ρ, L, he, hh, Lf.bind q fun x L1 v ρ1 H1 _ p1 t1 h1 r1 q1 => ?_⟩
    cases hs : seqD L1 x with
    | none => rw [hs] at q1; exact q1.elim
    | some xs =>
      rw [hs] at q1
      obtain ⟨b, us, e1, t, sq⟩ := seqD_ok h1 r1 hs
      refine ⟨b, us, e1, sq.imp_left TuT.sq, ε, ρ1, L1, he.mono p1 t1, h1, Lf.bind q1 fun ys L2 vs ρ2 H2 _ p2 t2 h2 r2 q2 => ?_⟩
      exact q2 _ ρ2 H2 (List.prefix_refl _) (TP.refl H2) h2 ((t.mono p2 t2).append r2)
def most : Nat := 16000000
theorem most_le {n : Nat} (h : n ≤ most) : n ≤ sizeLine := Nat.le_trans h (by decide)
def mTup (r : MA) : ME := fun ε L => (r ε L).bind fun xs L1 => if xs.length ≤ most then .ok (.tup xs) L1 else .bad
def mLst (r : MA) : ME := fun ε L => (r ε L).bind fun xs L1 => if xs.length ≤ most then .ok (.ref L1.length) (L1 ++ [.lst xs]) else .bad
theorem se_tup {es : List Expr} {r : MA} {k pos} (h : PA X es (tMA g W r)) : PE X (.Tuple es k pos) (tM g W (mTup r)) :=
  (pe_tup h).imp fun σ H Q q => by
    obtain ⟨ε, ρ, L, he, hh, q⟩ := q
    refine ⟨ε, ρ, L, he, hh, Lf.bind q fun xs L1 vs ρ1 H1 _ p1 t1 h1 r1 q1 => ?_⟩
    by_cases hz : xs.length ≤ most
    · rw [if_pos hz] at q1
      exact ⟨by rw [← r1.length]; exact most_le hz, fun p hp => LfO.newT q1 h1 r1 hp⟩
    · rw [if_neg hz] at q1; exact q1.elim
theorem se_lst {es : List Expr} {r : MA} {pos} (h : PA X es (tMA g W r)) : PE X (.List es pos) (tM g W (mLst r)) :=
  (pe_lst h).imp fun σ H Q q => by
    obtain ⟨ε, ρ, L, he, hh, q⟩ := q
    refine ⟨ε, ρ, L, he, hh, Lf.bind q fun xs L1 vs ρ1 H1 _ p1 t1 h1 r1 q1 => ?_⟩
    by_cases hz : xs.length ≤ most
    · rw [if_pos hz] at q1
      exact ⟨by rw [← r1.length]; exact most_le hz, fun p hp => LfO.newL q1 h1 r1 hp⟩
    · rw [if_neg hz] at q1; exact q1.elim
/-- {} -/
def mDic0 : ME := fun _ L => .ok (.ref L.length) (L ++ [.dic false []])
theorem LfD.newO {σ : L2.St} {o : O} {u : HO} {Q : VK} (h : LfD g ρ H σ W (.ok (.ref L.length) (L ++ [o])) Q) (hh : HR g ρ L H) {p : Addr} (hp : H p = none) (ho : OR g (ρ ++ [p]) (upd H p u) p o) : Q (.ref p) (upd H p u) := by
  refine h _ (ρ ++ [p]) _ (pre_snoc _ _) (TP.new hp) (hh.new hp ho) (.ref ?_)
  rw [← hh.len]
  simp
theorem se_dic0 {pos} : PE X (.Dict [] [] pos) (tM g W mDic0) := pe_dnewK.imp fun σ H Q q => by
  obtain ⟨ε, ρ, L, he, hh, q⟩ := q
  intro p hp
  exact LfD.newO q hh hp ⟨[], upd_same, .nil⟩
def truth (L : List O) (x : D) : Option Bool := match x with
  | .non => some false
  | .bl b => some b
  | .int i => some (i != 0)
  | .str y => if y.length ≤ most then some ((y.length : Int) != 0) else none
  | .tup ds => some (!ds.isEmpty)
  | .rol ds => some (!ds.isEmpty)
  | .ref n => match L[n]? with
    | some (.lst ds) => some (!ds.isEmpty)
    | some (.dic false ks) => some (!ks.isEmpty)
    | _ => none
  | .cls _ => none
  | .ty _ => none
theorem VRs.isEmpty {ds : List D} {vs : List V} (r : VRs g ρ H ds vs) : vs.isEmpty = ds.isEmpty := by cases r <;> rfl
theorem KR.isEmpty {ds : List (Key × D)} {vs : List (Key × V)} (r : KR g ρ H ds vs) : vs.isEmpty = ds.isEmpty := by cases r <;> rfl
theorem truth_ok {x : D} {v : V} {b : Bool} (hh : HR g ρ L H) (r : VR g ρ H x v) (e : truth L x = some b) : TruV g.K v H b := by
  unfold truth at e
  cases r with
  | non => cases e; rfl
  | bl b => cases e; rfl
  | int i => cases e; rfl
  | cls c => cases e
  | ty c => cases e
  | str y =>
    simp only at e
    split at e
    · rename_i hz
      cases e
      exact ⟨most_le hz, rfl⟩
    · cases e
  | tup s t =>
    cases e
    exact .inr (.inl ⟨_, s.sq, by rw [t.isEmpty]⟩)
  | rol s t =>
    cases e
    exact .inl ⟨_, s.seq, by rw [t.isEmpty]⟩
  | ref ea =>
    simp only at e
    split at e
    · rename_i h1
      cases e
      obtain ⟨vs, b1, b2⟩ := hh.lst h1 ea
      exact .inl ⟨_, SqL.of b1, by rw [b2.isEmpty]⟩
    · rename_i h1
      cases e
      obtain ⟨vs, b1, b2⟩ := hh.ob _ _ _ h1 ea
      exact .inr (.inr ⟨_, b1, by rw [b2.isEmpty]⟩)
    · cases e
def mTst (a : ME) : MB := fun ε L => (a ε L).bind fun x L1 => match x with
  | .bl b => .ok b L1
  | _ => .bad
def mTru (a : ME) : MB := fun ε L => (a ε L).bind fun x L1 => match truth L1 x with
  | some b => .ok b L1
  | none => .bad
theorem st_cmp {o : O2} {op : CmpOp} {ea eb : Expr} {a b : ME} {pos} (ho : OpR X (compareOp op) (rM g o)) (ha : PE X ea (tM g W a)) (hb : PE X eb (tM g W b)) (hm : behindInMarks op eb = false := by first | exact nomark _ | rfl) : PT X (.Compare ea [op] [eb] pos) (tMB g W (mTst (mOp2 o a b))) :=
  (pt_cmpR ho ha hb hm).imp fun σ H Q q => by
    obtain ⟨ε, ρ, L, he, hh, q⟩ := q
    have q' := tM_op2 (W := W) (g := g) (σ := σ) (H := H) (Q := fun x H' => ∃ k, x = .bl k ∧ Q k H') ⟨ε, ρ, L, he, hh, Lf.bind q fun x L1 v ρ1 H1 _ p1 t1 h1 r1 q1 => by
      cases r1 with
      | bl b => exact ⟨b, rfl, q1 b ρ1 H1 (List.prefix_refl _) (TP.refl H1) h1 rfl⟩
      | _ => exact q1.elim⟩
    exact q'
theorem st_chain {o o' : O2} {op op' : CmpOp} {ea eb ec : Expr} {a b c : ME} {pos} (ho : OpR X (compareOp op) (rM g o)) (ho' : OpR X (compareOp op') (rM g o')) (ha : PE X ea (tM g W a)) (hb : PE X eb (tM g W b)) (hc : PE X ec (tM g W c))
    (hm : lastMarks [op, op'] [eb, ec] = false := by with_unfolding_all rfl) : PT X (.Compare ea [op, op'] [eb, ec] pos) (tMB g W (mTst (mChain o o' a b c))) :=
  (pt_chain ho ho' ha hb hc hm).imp fun σ H Q q => by
    obtain ⟨ε, ρ, L, he, hh, q⟩ := q
    -- as se_chain, what is wanted behind it a truth value
    have q0 : LfD g ρ H σ W (mChain o o' a b c ε L) (fun x H' => ∃ k, x = .bl k ∧ Q k H') := Lf.bind q fun x L1 v ρ1 H1 _ p1 t1 h1 r1 q1 => by
      cases r1 with
      | bl b => exact ⟨b, rfl, q1 b ρ1 H1 (List.prefix_refl _) (TP.refl H1) h1 rfl⟩
      | _ => exact q1.elim
    show tChain _ _ _ _ _ σ H _
    refine ⟨ε, ρ, L, he, hh, Lf.bind q0 fun x L1 v ρ1 H1 _ p1 t1 h1 r1 q1 => ?_⟩
    refine ⟨ε, ρ1, L1, he.mono p1 t1, h1, Lf.bind q1 fun y L2 u ρ2 H2 _ p2 t2 h2 r2 q2 => ?_⟩
    refine ⟨ρ2, L2, x, y, h2, r1.mono p2 t2, r2, LfO_bind (α := D) q2 fun z L3 zv ρ3 H3 _ p3 t3 h3 r3 q3 => ?_⟩
    cases r3 with
    | bl b =>
      refine ⟨b, rfl, ?_⟩
      cases b with
      | false =>
        rw [if_neg (by decide)]
        exact q3 (.bl false) ρ3 H3 (List.prefix_refl _) (TP.refl H3) h3 (.bl false)
      | true =>
        rw [if_pos rfl]
        refine ⟨ε, ρ3, L3, ((he.mono p1 t1).mono p2 t2).mono p3 t3, h3, Lf.bind q3 fun w' L4 wv ρ4 H4 _ p4 t4 h4 r4 q4 => ?_⟩
        exact ⟨ρ4, L4, y, w', h4, (r2.mono p3 t3).mono p4 t4, r4, LfO.of q4⟩
    | _ => exact q3.elim
theorem st_tru {e : Expr} {a : ME} (h : PE X e (tM ⟨X.K, cm, fx, X.w⟩ W a)) (he : ∀ whole, isTrue e X.env whole = (do let v ← whole; standAt e.pos; holding [v] (truthy v)) := by exact fun _ => rfl) : PT X e (tMB ⟨X.K, cm, fx, X.w⟩ W (mTru a)) :=
  (pt_truth h he).imp fun σ H Q q => by
    obtain ⟨ε, ρ, L, he, hh, q⟩ := q
    refine ⟨ε, ρ, L, he, hh, Lf.bind q fun x L1 v ρ1 H1 _ p1 t1 h1 r1 q1 => ?_⟩
    cases ht : truth L1 x with
    | none => rw [ht] at q1; exact q1.elim
    | some b =>
      rw [ht] at q1
      exact ⟨b, truth_ok h1 r1 ht, q1 b ρ1 H1 (List.prefix_refl _) (TP.refl H1) h1 rfl⟩
def mNotB (a : MB) : MB := fun ε L => (a ε L).bind fun b L1 => .ok (!b) L1
def mAndB (a b : MB) : MB := fun ε L => (a ε L).bind fun c L1 => if c = true then b ε L1 else .ok false L1
def mOrB (a b : MB) : MB := fun ε L => (a ε L).bind fun c L1 => if c = true then .ok true L1 else b ε L1
theorem st_not {e : Expr} {a : MB} {pos} (h : PT X e (tMB g W a)) : PT X (.UnaryOp .Not e pos) (tMB g W (mNotB a)) :=
  (pt_not h).imp fun σ H Q q => by
    obtain ⟨ε, ρ, L, he, hh, q⟩ := q
    refine ⟨ε, ρ, L, he, hh, Lf.bind q fun b L1 v ρ1 H1 _ p1 t1 h1 r1 q1 => ?_⟩
    cases r1
    exact q1 _ ρ1 H1 (List.prefix_refl _) (TP.refl H1) h1 rfl
theorem _root_.L2.PW.imp {X : Cx} {e : Expr} {t t' : TT} (h : PW X e t) (k : ∀ σ H Q, t' σ H Q → t σ H Q) : PW X e t' := ⟨fun wh pins s σ H Q I q => h.run wh pins s σ H Q I (k σ H Q q)⟩
theorem sw_and {ea eb : Expr} {rest : List Expr} {a b : MB} {pos} (ha : PT X ea (tMB g W a)) (hb : PW X (.BoolOp .And (eb :: rest) pos) (tMB g W b)) : PW X (.BoolOp .And (ea :: eb :: rest) pos) (tMB g W (mAndB a b)) :=
  (pw_and ha hb).imp fun σ H Q q => by
    obtain ⟨ε, ρ, L, he, hh, q⟩ := q
    refine ⟨ε, ρ, L, he, hh, Lf.bind q fun c L1 v ρ1 H1 _ p1 t1 h1 r1 q1 => ?_⟩
    cases r1
    cases c with
    | true => exact ⟨ε, ρ1, L1, he.mono p1 t1, h1, q1⟩
    | false => exact q1 _ ρ1 H1 (List.prefix_refl _) (TP.refl H1) h1 rfl
theorem sw_or {ea eb : Expr} {rest : List Expr} {a b : MB} {pos} (ha : PT X ea (tMB g W a)) (hb : PW X (.BoolOp .Or (eb :: rest) pos) (tMB g W b)) : PW X (.BoolOp .Or (ea :: eb :: rest) pos) (tMB g W (mOrB a b)) :=
  (pw_or ha hb).imp fun σ H Q q => by
    obtain ⟨ε, ρ, L, he, hh, q⟩ := q
    refine ⟨ε, ρ, L, he, hh, Lf.bind q fun c L1 v ρ1 H1 _ p1 t1 h1 r1 q1 => ?_⟩
    cases r1
    cases c with
    | true => exact q1 _ ρ1 H1 (List.prefix_refl _) (TP.refl H1) h1 rfl
    | false => exact ⟨ε, ρ1, L1, he.mono p1 t1, h1, q1⟩
/-- and, or, not as values -/
def mAndV (a b : ME) : ME := fun ε L => (a ε L).bind fun x L1 => match truth L1 x with
  | some true => b ε L1
  | some false => .ok x L1
  | none => .bad
def mOrV (a b : ME) : ME := fun ε L => (a ε L).bind fun x L1 => match truth L1 x with
  | some true => .ok x L1
  | some false => b ε L1
  | none => .bad
def mNotV (a : ME) : ME := fun ε L => (a ε L).bind fun x L1 => match truth L1 x with
  | some b => .ok (.bl (!b)) L1
  | none => .bad
theorem se_one {op} {ea : Expr} {a : ME} {pos} (ha : PE X ea (tM g W a)) : PE X (.BoolOp op [ea] pos) (tM g W a) := pe_one ha
theorem se_andV {ea eb : Expr} {rest : List Expr} {a b : ME} {pos} (ha : PE X ea (tM ⟨X.K, cm, fx, X.w⟩ W a)) (hb : PE X (.BoolOp .And (eb :: rest) pos) (tM ⟨X.K, cm, fx, X.w⟩ W b)) : PE X (.BoolOp .And (ea :: eb :: rest) pos) (tM ⟨X.K, cm, fx, X.w⟩ W (mAndV a b)) :=
  (pe_andT ha hb).imp fun σ H Q q => by
    obtain ⟨ε, ρ, L, he, hh, q⟩ := q
    refine ⟨ε, ρ, L, he, hh, Lf.bind q fun x L1 v ρ1 H1 _ p1 t1 h1 r1 q1 => ?_⟩
    cases ht : truth L1 x with
    | none => rw [ht] at q1; exact q1.elim
    | some c =>
      rw [ht] at q1
      refine ⟨c, truth_ok h1 r1 ht, ?_⟩
      cases c with
      | true => rw [if_pos rfl]; exact ⟨ε, ρ1, L1, he.mono p1 t1, h1, q1⟩
      | false => rw [if_neg (by decide)]; exact q1 _ ρ1 H1 (List.prefix_refl _) (TP.refl H1) h1 r1
theorem se_orV {ea eb : Expr} {rest : List Expr} {a b : ME} {pos} (ha : PE X ea (tM ⟨X.K, cm, fx, X.w⟩ W a)) (hb : PE X (.BoolOp .Or (eb :: rest) pos) (tM ⟨X.K, cm, fx, X.w⟩ W b)) : PE X (.BoolOp .Or (ea :: eb :: rest) pos) (tM ⟨X.K, cm, fx, X.w⟩ W (mOrV a b)) :=
  (pe_orT ha hb).imp fun σ H Q q => by
    obtain ⟨ε, ρ, L, he, hh, q⟩ := q
    refine ⟨ε, ρ, L, he, hh, Lf.bind q fun x L1 v ρ1 H1 _ p1 t1 h1 r1 q1 => ?_⟩
    cases ht : truth L1 x with
    | none => rw [ht] at q1; exact q1.elim
    | some c =>
      rw [ht] at q1
      refine ⟨c, truth_ok h1 r1 ht, ?_⟩
      cases c with
      | true => rw [if_pos rfl]; exact q1 _ ρ1 H1 (List.prefix_refl _) (TP.refl H1) h1 r1
      | false => rw [if_neg (by decide)]; exact ⟨ε, ρ1, L1, he.mono p1 t1, h1, q1⟩
theorem se_notV {ea : Expr} {a : ME} {pos} (ha : PE X ea (tM ⟨X.K, cm, fx, X.w⟩ W a)) : PE X (.UnaryOp .Not ea pos) (tM ⟨X.K, cm, fx, X.w⟩ W (mNotV a)) :=
  (pe_notT ha).imp fun σ H Q q => by
    obtain ⟨ε, ρ, L, he, hh, q⟩ := q
    refine ⟨ε, ρ, L, he, hh, Lf.bind q fun x L1 v ρ1 H1 _ p1 t1 h1 r1 q1 => ?_⟩
    cases ht : truth L1 x with
    | none => rw [ht] at q1; exact q1.elim
    | some c =>
      rw [ht] at q1
      exact ⟨c, truth_ok h1 r1 ht, q1 _ ρ1 H1 (List.prefix_refl _) (TP.refl H1) h1 (.bl _)⟩
def mIfE (c : MB) (a b : ME) : ME := fun ε L => (c ε L).bind fun t L1 => if t = true then a ε L1 else b ε L1
theorem se_ifE {ec ea eb : Expr} {c : MB} {a b : ME} {pos} (hc : PT X ec (tMB g W c)) (ha : PE X ea (tM g W a)) (hb : PE X eb (tM g W b)) : PE X (.IfExp ec ea eb pos) (tM g W (mIfE c a b)) :=
  (pe_ifExp hc ha hb).imp fun σ H Q q => by
    obtain ⟨ε, ρ, L, he, hh, q⟩ := q
    refine ⟨ε, ρ, L, he, hh, Lf.bind q fun c L1 v ρ1 H1 _ p1 t1 h1 r1 q1 => ?_⟩
    cases r1
    cases c with
    | true => rw [if_pos rfl] at q1 ⊢; exact ⟨ε, ρ1, L1, he.mono p1 t1, h1, q1⟩
    | false => rw [if_neg (by decide)] at q1 ⊢; exact ⟨ε, ρ1, L1, he.mono p1 t1, h1, q1⟩
def mFld (c : Nat) (f : Str) (a : ME) : ME := fun ε L => (a ε L).bind fun x L1 => match x with
  | .ref n => match L1[n]? with
    | some (.ins c' fs) => if c' = c then (match fs.lookup f with | some d => .ok d L1 | none => .bad) else .bad
    | _ => .bad
  | _ => .bad
theorem HR.ins (hh : HR g ρ L H) {n c : Nat} {fs : List (Str × D)} (e : L[n]? = some (.ins c fs)) {a : Addr} (ea : ρ[n]? = some a) : ∃ dx vs, H a = some (.ins (g.cm c) dx vs) ∧ FR g ρ H fs vs := hh.ob n _ a e ea
theorem se_fld {e : Expr} {a : ME} {c : Nat} {f : Str} {pos} (he : PE X e (tM ⟨X.K, cm, fx, X.w⟩ W a)) (hc : Cls X.K (cm c)) (hn : NoAttr X.K (cm c) f) (hb : attributeBase e f X.env (eval e X.env) = eval e X.env := by rfl) : PE X (.Attribute e f pos) (tM ⟨X.K, cm, fx, X.w⟩ W (mFld c f a)) :=
  (pe_fld he hb).imp fun σ H Q q => by
    obtain ⟨ε, ρ, L, he, hh, q⟩ := q
    refine ⟨ε, ρ, L, he, hh, Lf.bind q fun x L1 v ρ1 H1 _ p1 t1 h1 r1 q1 => ?_⟩
    cases r1 with
    | ref ea =>
      simp only at q1
      split at q1
      · rename_i c' fs hi
        split at q1
        · rename_i hcc
          subst hcc
          obtain ⟨dx, vs, e1, fr⟩ := h1.ins hi ea
          rcases fr.look f with ⟨d, z, l1, l2, r⟩ | ⟨l1, _⟩
          · rw [l1] at q1
            exact ⟨_, _, _, _, z, rfl, e1, hc, hn, l2, q1 _ ρ1 H1 (List.prefix_refl _) (TP.refl H1) h1 r⟩
          · rw [l1] at q1; exact q1.elim
        · exact q1.elim
      · exact q1.elim
    | _ => exact q1.elim
end Tw
end
section
set_option Elab.async false
set_option linter.all false
set_option maxRecDepth 100000
set_option maxHeartbeats 1000000
namespace Tw
open PySem PySem.Spec L2
variable {g : Gx} {ρ ρ' : List Addr} {H H' : Hp} {X : Cx} {W : WX} {L : List O} {cm : Nat → Addr} {fx : Hp}
inductive RS where
  | nx (ε : En) (L : List O) | rt (d : D) (L : List O) | bk (ε : En) (L : List O) | ct (ε : En) (L : List O) | ex (c : Nat) (fs : List (Str × D)) (ε : En) (L : List O) | bad
abbrev MS := En → List O → RS
def Rs.bindS {α : Type} (r : Rs α) (ε : En) (f : α → List O → RS) : RS := match r with
  | .ok a L => f a L
  | .ex c fs L => .ex c fs ε L
  | .bad => .bad
def LfS (g : Gx) (ρ : List Addr) (H : Hp) (W : WX) (r : RS) (D : Ends) : Prop := match r with
  | .nx ε' L' => ∀ σ' ρ' H', ρ <+: ρ' → TP H H' → HR g ρ' L' H' → ER g ρ' H' σ' ε' → D.nx σ' H'
  | .rt d L' => ∀ v ρ' H', ρ <+: ρ' → TP H H' → HR g ρ' L' H' → VR g ρ' H' d v → D.rt v H'
  | .bk ε' L' => ∀ σ' ρ' H', ρ <+: ρ' → TP H H' → HR g ρ' L' H' → ER g ρ' H' σ' ε' → D.bk σ' H'
  | .ct ε' L' => ∀ σ' ρ' H', ρ <+: ρ' → TP H H' → HR g ρ' L' H' → ER g ρ' H' σ' ε' → D.ct σ' H'
  | .ex c fs ε' L' => ∀ σ' ρ' H' dx, ρ <+: ρ' → TP H H' → HR g ρ' L' H' → ER g ρ' H' σ' ε' → XR g ρ' H' fs dx → W (.ref (g.cm c)) dx σ' H'
  | .bad => False
def tMS (g : Gx) (W : WX) (m : MS) : TS := fun D σ H => ∃ ε ρ L, ER g ρ H σ ε ∧ HR g ρ L H ∧ LfS g ρ H W (m ε L) D
theorem LfS.mono {D : Ends} {r : RS} (hp : ρ <+: ρ') (ht : TP H H') (h : LfS g ρ H W r D) : LfS g ρ' H' W r D := by
  cases r with
  | nx ε L => exact fun σ' ρ2 H2 p t a b => h σ' ρ2 H2 (hp.trans p) (ht.trans t) a b
  | rt ε L => exact fun σ' ρ2 H2 p t a b => h σ' ρ2 H2 (hp.trans p) (ht.trans t) a b
  | bk ε L => exact fun σ' ρ2 H2 p t a b => h σ' ρ2 H2 (hp.trans p) (ht.trans t) a b
  | ct ε L => exact fun σ' ρ2 H2 p t a b => h σ' ρ2 H2 (hp.trans p) (ht.trans t) a b
  | ex c fs ε L => exact fun σ' ρ2 H2 dx p t a b => h σ' ρ2 H2 dx (hp.trans p) (ht.trans t) a b
  | bad => exact h
theorem LfS.bind {α β : Type} {σ : L2.St} {ε : En} {rel : List Addr → Hp → α → β → Prop} {r : Rs α} {f : α → List O → RS} {D : Ends} {Q1 : β → Hp → Prop} (he : ER g ρ H σ ε) (h : LfS g ρ H W (r.bindS ε f) D)
    (k : ∀ a L' v ρ' H', r = .ok a L' → ρ <+: ρ' → TP H H' → HR g ρ' L' H' → rel ρ' H' a v → LfS g ρ' H' W (f a L') D → Q1 v H') : Lf g ρ H σ W rel r Q1 := by
  cases r with
  | ok a L' => exact fun v ρ' H' hp ht hh hr => k a L' v ρ' H' rfl hp ht hh hr (LfS.mono hp ht h)
  | ex c fs L' => exact fun ρ' H' dx hp ht hh hx => h σ ρ' H' dx hp ht hh (he.mono hp ht) hx
  | bad => exact h
theorem LfS.imp {D D' : Ends} {r : RS} (h : LfS g ρ H W r D) (h1 : ∀ σ H, D.nx σ H → D'.nx σ H) (h2 : ∀ v H, D.rt v H → D'.rt v H) (h3 : ∀ σ H, D.bk σ H → D'.bk σ H) (h4 : ∀ σ H, D.ct σ H → D'.ct σ H) : LfS g ρ H W r D' := by
  cases r with
  | nx ε L => exact fun σ' ρ2 H2 p t a b => h1 _ _ (h σ' ρ2 H2 p t a b)
  | rt ε L => exact fun σ' ρ2 H2 p t a b => h2 _ _ (h σ' ρ2 H2 p t a b)
  | bk ε L => exact fun σ' ρ2 H2 p t a b => h3 _ _ (h σ' ρ2 H2 p t a b)
  | ct ε L => exact fun σ' ρ2 H2 p t a b => h4 _ _ (h σ' ρ2 H2 p t a b)
  | ex c fs ε L => exact h
  | bad => exact h
def mNext : MS := fun ε L => .nx ε L
def mSeq (a b : MS) : MS := fun ε L => match a ε L with
  | .nx ε' L' => b ε' L'
  | r => r
theorem sb_nil : PSs X [] (tMS g W mNext) := pss_nil.imp fun D σ H q => by
  obtain ⟨ε, ρ, L, he, hh, q⟩ := q
  exact q σ ρ H (List.prefix_refl _) (TP.refl H) hh he
theorem sb_cons {st : Stmt} {sts : List Stmt} {a b : MS} (h1 : PS X st (tMS g W a)) (h2 : PSs X sts (tMS g W b)) : PSs X (st :: sts) (tMS g W (mSeq a b)) :=
  (pss_cons h1 h2).imp fun D σ H q => by
    obtain ⟨ε, ρ, L, he, hh, q⟩ := q
    refine ⟨ε, ρ, L, he, hh, ?_⟩
    unfold mSeq at q
    cases ha : a ε L with
    | nx ε' L' => rw [ha] at q; exact fun σ' ρ' H' p t h e => ⟨ε', ρ', L', e, h, LfS.mono p t q⟩
    | rt d L' => rw [ha] at q; exact q
    | bk ε' L' => rw [ha] at q; exact q
    | ct ε' L' => rw [ha] at q; exact q
    | ex c fs ε' L' => rw [ha] at q; exact q
    | bad => rw [ha] at q; exact q
theorem sb_one {st : Stmt} {a : MS} (h1 : PS X st (tMS g W a)) : PSs X [st] (tMS g W a) := pss_one h1
def mBad : MS := fun _ _ => .bad
theorem ss_never {st : Stmt} : PS X st (tMS g W mBad) := ps_never.imp fun D σ H q => by
  obtain ⟨ε, ρ, L, he, hh, q⟩ := q
  exact q
def mDrop (a : ME) : MS := fun ε L => (a ε L).bindS ε fun _ L1 => .nx ε L1
theorem ss_expr {e : Expr} {a : ME} {pos : Pos} (h : PE X e (tM g W a)) (hs : swapsWith e none pos.line X.env = pure false := by rfl) : PS X (.Expr e pos) (tMS g W (mDrop a)) :=
  (ps_expr h hs).imp fun D σ H q => by
    obtain ⟨ε, ρ, L, he, hh, q⟩ := q
    exact ⟨ε, ρ, L, he, hh, LfS.bind he q fun x L1 v ρ1 H1 _ p1 t1 h1 r1 q1 => q1 σ ρ1 H1 (List.prefix_refl _) (TP.refl H1) h1 (he.mono p1 t1)⟩
def mRet (a : ME) : MS := fun ε L => (a ε L).bindS ε fun x L1 => .rt x L1
theorem ss_ret {e : Expr} {a : ME} {pos} (h : PE X e (tM g W a)) : PS X (.Return (some e) pos) (tMS g W (mRet a)) :=
  (ps_ret h).imp fun D σ H q => by
    obtain ⟨ε, ρ, L, he, hh, q⟩ := q
    exact ⟨ε, ρ, L, he, hh, LfS.bind he q fun x L1 v ρ1 H1 _ p1 t1 h1 r1 q1 => q1 v ρ1 H1 (List.prefix_refl _) (TP.refl H1) h1 r1⟩
def mRetN : MS := fun _ L => .rt .non L
def mBrk : MS := fun ε L => .bk ε L
def mCnt : MS := fun ε L => .ct ε L
def mIf (c : MB) (a b : MS) : MS := fun ε L => (c ε L).bindS ε fun t L1 => if t = true then a ε L1 else b ε L1
theorem ss_if {ec : Expr} {sa sb : List Stmt} {c : MB} {a b : MS} {pos} (hc : PT X ec (tMB g W c)) (ha : PSs X sa (tMS g W a)) (hb : PSs X sb (tMS g W b)) : PS X (.If ec sa sb pos) (tMS g W (mIf c a b)) :=
  (ps_if hc ha hb).imp fun D σ H q => by
    obtain ⟨ε, ρ, L, he, hh, q⟩ := q
    refine ⟨ε, ρ, L, he, hh, LfS.bind he q fun c L1 v ρ1 H1 _ p1 t1 h1 r1 q1 => ?_⟩
    cases r1
    cases c with
    | true => rw [if_pos rfl] at q1 ⊢; exact ⟨ε, ρ1, L1, he.mono p1 t1, h1, q1⟩
    | false => rw [if_neg (by decide)] at q1 ⊢; exact ⟨ε, ρ1, L1, he.mono p1 t1, h1, q1⟩
def Upd (is : List Nat) (σ σ' : L2.St) : Prop := σ'.length = σ.length ∧ ∀ j, j ∉ is → σ'[j]? = σ[j]?
theorem Upd.refl (is : List Nat) (σ : L2.St) : Upd is σ σ := ⟨rfl, fun _ _ => rfl⟩
theorem Upd.trans {is : List Nat} {σ σ1 σ2 : L2.St} (a : Upd is σ σ1) (b : Upd is σ1 σ2) : Upd is σ σ2 := ⟨b.1.trans a.1, fun j hj => (b.2 j hj).trans (a.2 j hj)⟩
theorem Upd.set {is : List Nat} {i : Nat} (hi : i ∈ is) (σ : L2.St) (v : Option V) : Upd is σ (σ.set i v) := ⟨by simp, fun j hj => by
  rw [List.getElem?_set_ne]
  rintro rfl
  exact hj hi⟩
theorem Upd.sub {is js : List Nat} {σ σ' : L2.St} (h : ∀ i ∈ is, i ∈ js) (u : Upd is σ σ') : Upd js σ σ' := ⟨u.1, fun j hj => u.2 j fun z => hj (h j z)⟩
structure MG where
  is : List Nat
  f : D → En → Option En
structure MGs where
  is : List Nat
  f : List D → En → Option En
def tMG (g : Gx) (m : MG) : TG := fun v σ H Q => ∃ ρ ε d ε', ER g ρ H σ ε ∧ VR g ρ H d v ∧ m.f d ε = some ε' ∧ ∀ σ', ER g ρ H σ' ε' → Upd m.is σ σ' → Q σ' H
def tMGs (g : Gx) (m : MGs) : TGs := fun vs σ H Q => ∃ ρ ε ds ε', ER g ρ H σ ε ∧ VRs g ρ H ds vs ∧ m.f ds ε = some ε' ∧ ∀ σ', ER g ρ H σ' ε' → Upd m.is σ σ' → Q σ' H
theorem _root_.L2.PG.imp {X : Cx} {e : Expr} {t t' : TG} (h : PG X e t) (k : ∀ v σ H Q, t' v σ H Q → t v σ H Q) : PG X e t' := ⟨fun pins s σ H v u Q I r q => h.run pins s σ H v u Q I r (k v σ H Q q)⟩
theorem _root_.L2.PGs.imp {X : Cx} {e : List Expr} {t t' : TGs} (h : PGs X e t) (k : ∀ v σ H Q, t' v σ H Q → t v σ H Q) : PGs X e t' := ⟨fun pins s σ H v u Q I r q => h.run pins s σ H v u Q I r (k v σ H Q q)⟩
def gNm (i : Nat) : MG := ⟨[i], fun d ε => some (ε.set i (some d))⟩
def gsNil : MGs := ⟨[], fun ds ε => match ds with | [] => some ε | _ => none⟩
def gsCons (a : MG) (r : MGs) : MGs := ⟨a.is ++ r.is, fun ds ε => match ds with
  | d :: ds => (a.f d ε).bind fun ε1 => r.f ds ε1
  | [] => none⟩
def gTupM (n : Nat) (r : MGs) : MG := ⟨r.is, fun d ε => match d with
  | .tup ds => if ds.length = n then r.f ds ε else none
  | _ => none⟩
theorem sg_name {i : Nat} {x : Str} {pos : Pos} (hN : X.N.Nodup) (hi : X.N[i]? = some x) (hx : Loc X.env.scope x := by first | exact .inl rfl | exact .inr rfl) (hf : X.fn x = true ∨ X.env.scope.names.lookup x = some .local := by first | exact .inl rfl | exact .inr rfl) : PG X (.Name x pos) (tMG g (gNm i)) :=
  (pg_name hN hi hx hf).imp fun v σ H Q q => by
    obtain ⟨ρ, ε, d, ε', he, r, e, k⟩ := q
    cases e
    exact k _ (he.set i r) (Upd.set (by simp [gNm]) σ _)
theorem sgs_nil : PGs X [] (tMGs g gsNil) := pgs_nil.imp fun vs σ H Q q => by
  obtain ⟨ρ, ε, ds, ε', he, r, e, k⟩ := q
  cases r with
  | nil => cases e; exact ⟨rfl, k σ he (Upd.refl _ _)⟩
  | cons _ _ => cases e
theorem sgs_cons {e : Expr} {es : List Expr} {a : MG} {r : MGs} (h1 : PG X e (tMG g a)) (h2 : PGs X es (tMGs g r)) (hs : (assignEach (e :: es) X.env).map (·.2) = assign e X.env :: (assignEach es X.env).map (·.2) := by rfl) : PGs X (e :: es) (tMGs g (gsCons a r)) :=
  (pgs_cons h1 h2 hs).imp fun vs σ H Q q => by
    obtain ⟨ρ, ε, ds, ε', he, rr, e, k⟩ := q
    cases rr with
    | nil => cases e
    | cons rd rt =>
      simp only [gsCons] at e
      cases h1 : a.f _ ε with
      | none => rw [h1] at e; cases e
      | some ε1 =>
        rw [h1] at e
        refine ⟨_, _, rfl, ρ, ε, _, ε1, he, rd, h1, fun σ1 he1 u1 => ?_⟩
        refine ⟨ρ, ε1, _, ε', he1, rt, e, fun σ2 he2 u2 => k σ2 he2 ?_⟩
        exact (u1.sub fun i hi => List.mem_append_left _ hi).trans (u2.sub fun i hi => List.mem_append_right _ hi)
theorem sg_tup {es : List Expr} {k : Nat} {r : MGs} {n : Nat} {pos} (hc : X.calm = true) (h : PGs X es (tMGs ⟨X.K, cm, fx, X.w⟩ r)) (hn : (assignEach es X.env).length = n := by rfl) (hst : (assignEach es X.env).findIdx? (·.1) = none := by rfl) : PG X (.Tuple es k pos) (tMG ⟨X.K, cm, fx, X.w⟩ (gTupM n r)) :=
  (pg_tup hc h hn hst).imp fun v σ H Q q => by
    obtain ⟨ρ, ε, d, ε', he, rr, e, k⟩ := q
    simp only [gTupM] at e
    cases rr with
    | tup s t =>
      simp only at e
      split at e
      · rename_i hz
        exact ⟨_, _, rfl, s.sq, by rw [← t.length]; exact hz, ρ, ε, _, ε', he, t, e, k⟩
      · cases e
    | _ => cases e
/-- target = value, the target made of names -/
def mAsg (a : ME) (t : MG) : MS := fun ε L => (a ε L).bindS ε fun x L1 => match t.f x ε with
  | some ε' => .nx ε' L1
  | none => .bad
theorem ss_asg {tg e : Expr} {a : ME} {t : MG} {pos : Pos} (he : PE X e (tM g W a)) (hg : PG X tg (tMG g t)) (hs : swapsWithSole [tg] e pos.line X.env = pure false := by rfl) (hw : swappedStores [tg] e X.env = pure none := by rfl)
    (h1 : (assignEach [tg] X.env).map (·.2) = [assign tg X.env] := by rfl) : PS X (.Assign [tg] e pos) (tMS g W (mAsg a t)) :=
  (ps_asg he hg hs hw h1).imp fun D σ H q => by
    obtain ⟨ε, ρ, L, he, hh, q⟩ := q
    refine ⟨ε, ρ, L, he, hh, LfS.bind he q fun x L1 v ρ1 H1 _ p1 t1 h1 r1 q1 => ?_⟩
    cases ht : t.f x ε with
    | none => rw [ht] at q1; exact q1.elim
    | some ε' =>
      rw [ht] at q1
      exact ⟨ρ1, ε, x, ε', he.mono p1 t1, r1, ht, fun σ' he' _ => q1 σ' ρ1 H1 (List.prefix_refl _) (TP.refl H1) h1 he'⟩
def mSet (i : Nat) (a : ME) : MS := fun ε L => (a ε L).bindS ε fun x L1 => .nx (ε.set i (some x)) L1
theorem ss_set {i : Nat} {x : Str} {e : Expr} {a : ME} {pos pos' : Pos} (hN : X.N.Nodup) (hi : X.N[i]? = some x) (he : PE X e (tM g W a)) (hx : Loc X.env.scope x := by first | exact .inl rfl | exact .inr rfl) (hs : swapsWith e (some (.Name x pos')) pos.line X.env = pure false := by rfl)
    (hf : X.fn x = true ∨ X.env.scope.names.lookup x = some .local := by first | exact .inl rfl | exact .inr rfl) : PS X (.Assign [.Name x pos'] e pos) (tMS g W (mSet i a)) :=
  (ps_set hN hi hx he hs hf).imp fun D σ H q => by
    obtain ⟨ε, ρ, L, he, hh, q⟩ := q
    exact ⟨ε, ρ, L, he, hh, LfS.bind he q fun x L1 v ρ1 H1 _ p1 t1 h1 r1 q1 => q1 _ ρ1 H1 (List.prefix_refl _) (TP.refl H1) h1 ((he.mono p1 t1).set i r1)⟩
/-- a, b = x, y with two local names: no tuple is made -/
def mPar (i j : Nat) (r : MA) : MS := fun ε L => (r ε L).bindS ε fun xs L1 => match xs with
  | [x, y] => .nx ((ε.set i (some x)).set j (some y)) L1
  | _ => .bad
theorem ss_par {i j : Nat} {x y : Str} {a b : Expr} {r : MA} {px py pt pos : Pos} {kt k2 pt2} (hc : X.calm = true) (hN : X.N.Nodup) (hi : X.N[i]? = some x) (hj : X.N[j]? = some y) (hij : i ≠ j) (ha : PA X [a, b] (tMA g W r))
    (hx : X.env.scope.names.lookup x = some .local := by rfl) (hy : X.env.scope.names.lookup y = some .local := by rfl)
    (hw : swappedStores [.Tuple [.Name x px, .Name y py] kt pt] (.Tuple [a, b] k2 pt2) X.env = pure (some [x, y]) := by rfl)
    (hs : swapsWithSole [.Tuple [.Name x px, .Name y py] kt pt] (.Tuple [a, b] k2 pt2) pos.line X.env = pure false := by rfl) :
    PS X (.Assign [.Tuple [.Name x px, .Name y py] kt pt] (.Tuple [a, b] k2 pt2) pos) (tMS g W (mPar i j r)) :=
  (ps_par hc hN hi hj hij hx hy ha hw hs).imp fun D σ H q => by
    obtain ⟨ε, ρ, L, he, hh, q⟩ := q
    refine ⟨ε, ρ, L, he, hh, LfS.bind he q fun xs L1 vs ρ1 H1 _ p1 t1 h1 r1 q1 => ?_⟩
    split at q1
    · obtain ⟨v, u, rfl, a, b⟩ := r1.two
      exact ⟨v, u, rfl, q1 _ ρ1 H1 (List.prefix_refl _) (TP.refl H1) h1 (((he.mono p1 t1).set i a).set j b)⟩
    · exact q1.elim
def mFldSet (c : Nat) (f : Str) (o v : ME) : MS := fun ε L => (v ε L).bindS ε fun y L1 => (o ε L1).bindS ε fun x L2 => match x with
  | .ref n => match L2[n]? with
    | some (.ins c' fs) => if c' = c ∧ fs.length < 100 then .nx ε (L2.set n (.ins c (putD f y fs))) else .bad
    | _ => .bad
  | _ => .bad
theorem ss_fld {o e : Expr} {mo mv : ME} {c : Nat} {f : Str} {pos pos' : Pos} (ho : PE X o (tM ⟨X.K, cm, fx, X.w⟩ W mo)) (hv : PE X e (tM ⟨X.K, cm, fx, X.w⟩ W mv)) (hc : Cls X.K (cm c)) (hn : NoAttr X.K (cm c) f)
    (hs : swapsWith e (some (.Attribute o f pos')) pos.line X.env = pure false := by rfl) : PS X (.Assign [.Attribute o f pos'] e pos) (tMS ⟨X.K, cm, fx, X.w⟩ W (mFldSet c f mo mv)) :=
  (ps_fld ho hv hs).imp fun D σ H q => by
    obtain ⟨ε, ρ, L, he, hh, q⟩ := q
    refine ⟨ε, ρ, L, he, hh, LfS.bind he q fun y L1 yv ρ1 H1 _ p1 t1 h1 r1 q1 => ?_⟩
    refine ⟨ε, ρ1, L1, he.mono p1 t1, h1, LfS.bind (he.mono p1 t1) q1 fun x L2 xv ρ2 H2 _ p2 t2 h2 r2 q2 => ?_⟩
    cases r2 with
    | ref ea =>
      simp only at q2
      split at q2
      · rename_i c' fs hi
        split at q2
        · rename_i hz
          obtain ⟨rfl, hz⟩ := hz
          obtain ⟨dx, vs, e1, fr⟩ := h2.ins hi ea
          refine ⟨_, _, dx, vs, rfl, e1, hc, hn, by rw [← fr.length]; omega, ?_⟩
          have tt : TP H2 (upd H2 _ (.ins (cm c') dx (putF f yv vs))) := TP.mut e1 rfl
          exact q2 σ ρ2 _ (List.prefix_refl _) tt (h2.set ea e1 rfl ⟨dx, _, upd_same, ((fr.put (r1.mono p2 t2)).mono (List.prefix_refl _) tt)⟩) (((he.mono p1 t1).mono p2 t2).mono (List.prefix_refl _) tt)
        · exact q2.elim
      · exact q2.elim
    | _ => exact q2.elim
/-- o[i] = v by values -/
def putKD (ks : List (Key × D)) (k : Key) (v : D) : List (Key × D) := if (ks.any fun kv => decide (kv.1 = k)) = true then ks.map (fun kv => if kv.1 = k then (kv.1, v) else kv) else ks ++ [(k, v)]
theorem KR.any {ks : List (Key × D)} {vs : List (Key × V)} (r : KR g ρ H ks vs) (k : Key) : (ks.any fun kv => decide (kv.1 = k)) = (vs.any fun kv => decide (kv.1 = k)) := by
  induction r with
  | nil => rfl
  | cons r t ih => rw [List.any_cons, List.any_cons, ih]
theorem KR.snoc {ks : List (Key × D)} {vs : List (Key × V)} (r : KR g ρ H ks vs) {k : Key} {d : D} {v : V} (q : VR g ρ H d v) : KR g ρ H (ks ++ [(k, d)]) (vs ++ [(k, v)]) := by
  induction r with
  | nil => exact .cons q .nil
  | cons r t ih => exact .cons r ih
theorem KR.repl {ks : List (Key × D)} {vs : List (Key × V)} (r : KR g ρ H ks vs) {k : Key} {d : D} {v : V} (q : VR g ρ H d v) : KR g ρ H (ks.map (fun kv => if kv.1 = k then (kv.1, d) else kv)) (vs.map (fun kv => if kv.1 = k then (kv.1, v) else kv)) := by
  induction r with
  | nil => exact .nil
  | cons r t ih =>
    rw [List.map_cons, List.map_cons]
    simp only
    split
    · exact .cons q ih
    · exact .cons r ih
theorem KR.put {ks : List (Key × D)} {vs : List (Key × V)} (r : KR g ρ H ks vs) {k : Key} {d : D} {v : V} (q : VR g ρ H d v) : KR g ρ H (putKD ks k d) (putK vs k v) := by
  unfold putKD putK
  rw [r.any]
  split
  · exact r.repl q
  · exact r.snoc q
def oPut (x y v : D) (L : List O) : Option (List O) := match x with
  | .ref n => match L[n]? with
    | some (.lst ds) => match y with
      | .int i => (ixN ds.length i).map fun j => L.set n (.lst (ds.set j v))
      | _ => none
    | some (.dic false ks) => match keyD y with
      | some k => if ks.length < most then some (L.set n (.dic false (putKD ks k v))) else none
      | none => none
    | _ => none
  | _ => none
theorem set_dict (hu : X.A.units + 65 < cLine) : PSet X (fun o i v H Q => ∃ a H', o = .ref a ∧ DPut H a i v H' ∧ Q H') := by
  rintro pins s σ H o i v ov iv u Q I ro ri rv ⟨a, H', rfl, dp, q⟩
  cases ro
  exact d_setItem (by omega) I dp ri rv fun s' I' => ⟨H', I', q⟩
theorem PSet.or {t t' : TSet} (h : PSet X t) (h' : PSet X t') : PSet X (fun o i v H Q => t o i v H Q ∨ t' o i v H Q) := fun pins s σ H o i v ov iv u Q I ro ri rv q =>
  q.elim (h pins s σ H o i v ov iv u Q I ro ri rv) (h' pins s σ H o i v ov iv u Q I ro ri rv)
theorem set_oPut (hu : X.A.units + 65 < cLine) : PSet X (fun o i v H Q => ∃ ρ L x y z L', HR ⟨X.K, cm, fx, X.w⟩ ρ L H ∧ VR ⟨X.K, cm, fx, X.w⟩ ρ H x o ∧ VR ⟨X.K, cm, fx, X.w⟩ ρ H y i ∧ VR ⟨X.K, cm, fx, X.w⟩ ρ H z v ∧ oPut x y z L = some L' ∧ ∀ H', TP H H' → HR ⟨X.K, cm, fx, X.w⟩ ρ L' H' → Q H') := by
  intro pins s σ H o i v ov iv u Q I ro ri rv q
  refine PSet.or set_list (set_dict hu) pins s σ H o i v ov iv u Q I ro ri rv ?_
  obtain ⟨ρ, L, x, y, z, L', hh, rx, ry, rz, e, k⟩ := q
  unfold oPut at e
  split at e
  · cases rx with
    | ref ea =>
      split at e
      · rename_i ds h1
        obtain ⟨vs, b1, b2⟩ := hh.lst h1 ea
        split at e
        · rename_i i
          cases ry
          cases hj : ixN ds.length i with
          | none => rw [hj] at e; cases e
          | some j =>
            rw [hj] at e
            cases e
            have tt : TP H (upd H _ (.lst (vs.set j v))) := TP.mut b1 rfl
            refine .inl ⟨_, vs, i, j, rfl, rfl, b1, by rw [← b2.length]; exact hj, k _ tt ?_⟩
            exact hh.set ea b1 rfl ⟨_, upd_same, (b2.set rz j).mono (List.prefix_refl _) tt⟩
        · cases e
      · rename_i ks h1
        obtain ⟨vs, b1, b2⟩ := hh.ob _ _ _ h1 ea
        split at e
        · rename_i kk hk
          split at e
          · rename_i hz
            cases e
            obtain rfl := keyD_ok ry hk
            have tt : TP H (upd H _ (.dK (putK vs kk v))) := TP.mut b1 rfl
            refine .inr ⟨_, _, rfl, DPut.k b1 (Nat.lt_of_lt_of_le (by rw [← b2.length]; exact hz) (most_le (Nat.le_refl _))), k _ tt ?_⟩
            exact hh.set ea b1 rfl ⟨_, upd_same, (b2.put rz).mono (List.prefix_refl _) tt⟩
          · cases e
        · cases e
      · cases e
  · cases e
def mPut (o i v : ME) : MS := fun ε L => (v ε L).bindS ε fun z L1 => (o ε L1).bindS ε fun x L2 => (i ε L2).bindS ε fun y L3 => match oPut x y z L3 with
  | some L4 => .nx ε L4
  | none => .bad
theorem ss_put (hu : X.A.units + 65 < cLine) {o i e : Expr} {mo mi mv : ME} {pos pos' : Pos} (ho : PE X o (tM ⟨X.K, cm, fx, X.w⟩ W mo)) (hi : PE X i (tM ⟨X.K, cm, fx, X.w⟩ W mi)) (hv : PE X e (tM ⟨X.K, cm, fx, X.w⟩ W mv))
    (ha : ∀ v, assign (.Subscript o i pos') X.env v = (do
      let ov ← holding [v] (eval o X.env)
      let iv ← holding [v, ov] (eval i X.env)
      standAt pos'
      holding [v, ov, iv] (setItem ov iv v)
      release [v, ov, iv] []) := by exact fun _ => rfl)
    (hs : swapsWithSole [.Subscript o i pos'] e pos.line X.env = pure false := by rfl) (hw : swappedStores [.Subscript o i pos'] e X.env = pure none := by rfl)
    (h1 : (assignEach [.Subscript o i pos'] X.env).map (·.2) = [assign (.Subscript o i pos') X.env] := by rfl) : PS X (.Assign [.Subscript o i pos'] e pos) (tMS ⟨X.K, cm, fx, X.w⟩ W (mPut mo mi mv)) :=
  (ps_asg hv (pg_sub ho hi (set_oPut hu) ha) hs hw h1).imp fun D σ H q => by
    obtain ⟨ε, ρ, L, he, hh, q⟩ := q
    refine ⟨ε, ρ, L, he, hh, LfS.bind he q fun z L1 zv ρ1 H1 _ p1 t1 h1 r1 q1 => ?_⟩
    refine ⟨ε, ρ1, L1, he.mono p1 t1, h1, LfS.bind (he.mono p1 t1) q1 fun x L2 xv ρ2 H2 _ p2 t2 h2 r2 q2 => ?_⟩
    have he2 := (he.mono p1 t1).mono p2 t2
    refine ⟨ε, ρ2, L2, he2, h2, LfS.bind he2 q2 fun y L3 yv ρ3 H3 _ p3 t3 h3 r3 q3 => ?_⟩
    cases hp : oPut x y z L3 with
    | none => rw [hp] at q3; exact q3.elim
    | some L4 =>
      rw [hp] at q3
      exact ⟨ρ3, L3, x, y, z, L4, h3, r2.mono p3 t3, r3, (r1.mono p2 t2).mono p3 t3, hp, fun H4 t4 h4 => q3 σ ρ3 H4 (List.prefix_refl _) t4 h4 ((he2.mono p3 t3).mono (List.prefix_refl _) t4)⟩
end Tw
end
section
set_option Elab.async false
set_option linter.all false
set_option maxRecDepth 100000
set_option maxHeartbeats 1000000
namespace Tw
open PySem PySem.Spec L2
variable {g : Gx} {ρ ρ' : List Addr} {H H' : Hp} {X : Cx} {W : WX} {L : List O} {cm : Nat → Addr} {fx : Hp}
structure Src where
  ds : List D
  at_ : Option (Nat × O)
def Src.ok (s : Src) (L : List O) : Bool := match s.at_ with
  | none => true
  | some (n, o) => decide (L[n]? = some o)
abbrev MI := En → List O → Rs Src
structure Wk (g : Gx) (ρ₀ : List Addr) (H₀ : Hp) (src : Src) (J : It) : Prop where
  go : ∀ (i : Nat) ρ' L' H, i < src.ds.length → ρ₀ <+: ρ' → TP H₀ H → HR g ρ' L' H → src.ok L' = true → J.go i H
  stop : ∀ ρ' L' H, ρ₀ <+: ρ' → TP H₀ H → HR g ρ' L' H → src.ok L' = true → J.stop src.ds.length H
  yld : ∀ (i : Nat) d ρ' L' H x H', src.ds[i]? = some d → ρ₀ <+: ρ' → TP H₀ H → HR g ρ' L' H → src.ok L' = true → J.yld i H x H' → TP H H' ∧ HR g ρ' L' H' ∧ VR g ρ' H' d x
def relW (g : Gx) : List Addr → Hp → Src → It → Prop := fun ρ H src J => Wk g ρ H src J
def tMI (g : Gx) (W : WX) (mi : MI) : TI := fun σ H R => ∃ ε ρ L, ER g ρ H σ ε ∧ HR g ρ L H ∧ Lf g ρ H σ W (relW g) (mi ε L) R
theorem _root_.L2.PI.imp {X : Cx} {tg e : Expr} {t t' : TI} (h : PI X tg e t) (k : ∀ σ H Q, t' σ H Q → t σ H Q) : PI X tg e t' := ⟨fun pins s σ H Q I q => h.run pins s σ H Q I (k σ H Q q)⟩
theorem PI.or {X : Cx} {tg e : Expr} {t t' : TI} (h : PI X tg e t) (h' : PI X tg e t') : PI X tg e (fun σ H R => t σ H R ∨ t' σ H R) := ⟨fun pins s σ H Q I q => q.elim (h.run pins s σ H Q I) (h'.run pins s σ H Q I)⟩
/-- the items of a list that stands, of a tuple -/
def mIter (a : ME) : MI := fun ε L => (a ε L).bind fun x L1 => match x with
  | .tup ds => .ok ⟨ds, none⟩ L1
  | .rol ds => .ok ⟨ds, none⟩ L1
  | .ref n => match L1[n]? with
    | some (.lst ds) => .ok ⟨ds, some (n, .lst ds)⟩ L1
    | _ => .bad
  | _ => .bad
theorem wk_tup {ds : List D} {a : Addr} {vs : List V} (s : SqT g.K H a vs) (t : VRs g ρ H ds vs) : Wk g ρ H ⟨ds, none⟩ (Itt g.K a) where
  go := fun i ρ' L' H' hi p tt _ _ => by
    have := t.length
    exact ⟨vs, vs[i]'(by rw [← this]; exact hi), tt.rd s, by simp⟩
  stop := fun ρ' L' H' p tt _ _ => ⟨vs, tt.rd s, by rw [← t.length]; exact Nat.le_refl _⟩
  yld := fun i d ρ' L' H' x H2 e p tt hh _ y => by
    obtain ⟨rfl, y⟩ := y
    obtain ⟨v, ev, r⟩ := t.get e
    have := y vs (tt.rd s)
    rw [ev] at this
    cases this
    exact ⟨TP.refl _, hh, r.mono p tt⟩
theorem wk_rol {ds : List D} {a : Addr} {vs : List V} (s : RoL g.K H a vs) (t : VRs g ρ H ds vs) : Wk g ρ H ⟨ds, none⟩ (Itl g.K a) where
  go := fun i ρ' L' H' hi p tt _ _ => by
    have := t.length
    exact ⟨vs, vs[i]'(by rw [← this]; exact hi), (tt.rol s).seq, by simp⟩
  stop := fun ρ' L' H' p tt _ _ => ⟨vs, (tt.rol s).seq, by rw [← t.length]; exact Nat.le_refl _⟩
  yld := fun i d ρ' L' H' x H2 e p tt hh _ y => by
    obtain ⟨rfl, y⟩ := y
    obtain ⟨v, ev, r⟩ := t.get e
    have := y vs (tt.rol s).seq
    rw [ev] at this
    cases this
    exact ⟨TP.refl _, hh, r.mono p tt⟩
theorem wk_lst {ds : List D} {n : Nat} {a : Addr} (ea : ρ[n]? = some a) : Wk g ρ H ⟨ds, some (n, .lst ds)⟩ (Itl g.K a) where
  go := fun i ρ' L' H' hi p tt hh ok => by
    obtain ⟨vs, b1, b2⟩ := hh.lst (of_decide_eq_true ok) (pre_get p ea)
    have := b2.length
    exact ⟨vs, vs[i]'(by rw [← this]; exact hi), SqL.of b1, by simp⟩
  stop := fun ρ' L' H' p tt hh ok => by
    obtain ⟨vs, b1, b2⟩ := hh.lst (of_decide_eq_true ok) (pre_get p ea)
    exact ⟨vs, SqL.of b1, by rw [← b2.length]; exact Nat.le_refl _⟩
  yld := fun i d ρ' L' H' x H2 e p tt hh ok y => by
    obtain ⟨rfl, y⟩ := y
    obtain ⟨vs, b1, b2⟩ := hh.lst (of_decide_eq_true ok) (pre_get p ea)
    obtain ⟨v, ev, r⟩ := b2.get e
    have := y vs (SqL.of b1)
    rw [ev] at this
    cases this
    exact ⟨TP.refl _, hh, r⟩
theorem si_iter {tg e : Expr} {a : ME} (h : PE X e (tM ⟨X.K, cm, fx, X.w⟩ W a)) : PI X tg e (tMI ⟨X.K, cm, fx, X.w⟩ W (mIter a)) :=
  (PI.or (pi_list h) (pi_tup h)).imp fun σ H R q => by
    obtain ⟨ε, ρ, L, he, hh, q⟩ := q
    -- which of both is known from the value
    by_cases ht : ∃ ds L1, a ε L = .ok (.tup ds) L1
    · obtain ⟨ds, L1, ht⟩ := ht
      refine .inr ⟨ε, ρ, L, he, hh, Lf.bind q fun x L1 v ρ1 H1 e1 p1 t1 h1 r1 q1 => ?_⟩
      rw [ht] at e1
      cases e1
      cases r1 with
      | tup s t => exact ⟨_, rfl, ⟨_, s.sq⟩, q1 _ ρ1 H1 (List.prefix_refl _) (TP.refl H1) h1 (wk_tup s.sq t)⟩
    · refine .inl ⟨ε, ρ, L, he, hh, Lf.bind q fun x L1 v ρ1 H1 e1 p1 t1 h1 r1 q1 => ?_⟩
      cases r1 with
      | tup s t => exact (ht ⟨_, _, e1⟩).elim
      | rol s t => exact ⟨_, rfl, ⟨_, s.seq⟩, q1 _ ρ1 H1 (List.prefix_refl _) (TP.refl H1) h1 (wk_rol s t)⟩
      | ref ea =>
        simp only at q1
        split at q1
        · rename_i ds h2
          obtain ⟨vs, b1, b2⟩ := h1.lst h2 ea
          exact ⟨_, rfl, ⟨_, SqL.of b1⟩, q1 _ ρ1 H1 (List.prefix_refl _) (TP.refl H1) h1 (wk_lst ea)⟩
        · exact q1.elim
      | _ => exact q1.elim
def rngD (lo : Int) (n : Nat) : List D := (List.range n).map fun (k : Nat) => .int (lo + k)
theorem rngD_len (lo : Int) (n : Nat) : (rngD lo n).length = n := by simp [rngD]
theorem wk_rng {lo : Int} {n : Nat} : Wk g ρ H ⟨rngD lo n, none⟩ (Itr lo n) where
  go := fun i ρ' L' H' hi p tt _ _ => by rw [rngD_len] at hi; exact hi
  stop := fun ρ' L' H' p tt _ _ => by show n ≤ _; rw [rngD_len]; exact Nat.le_refl _
  yld := fun i d ρ' L' H' x H2 e p tt hh _ y => by
    obtain ⟨rfl, rfl⟩ := y
    have hi : i < n := by
      obtain ⟨q, _⟩ := List.getElem?_eq_some_iff.mp e
      rw [rngD_len] at q; exact q
    simp only [rngD, List.getElem?_map, List.getElem?_range hi, Option.map_some, Option.some.injEq] at e
    subst e
    exact ⟨TP.refl _, hh, .int _⟩
/-- range(n), range(lo, n) -/
def mRng1 (a : ME) : MI := fun ε L => (a ε L).bind fun x L1 => match x with
  | .int n => if -1000000 ≤ n ∧ n ≤ 1000000 then .ok ⟨rngD 0 n.toNat, none⟩ L1 else .bad
  | _ => .bad
def mRng2 (a b : ME) : MI := fun ε L => (a ε L).bind fun x L1 => (b ε L1).bind fun y L2 => match x, y with
  | .int lo, .int n => if -1000000 ≤ lo ∧ lo ≤ 1000000 ∧ -1000000 ≤ n ∧ n ≤ 1000000 then .ok ⟨rngD lo (n - lo).toNat, none⟩ L2 else .bad
  | _, _ => .bad
theorem si_rng1 {tg e : Expr} {a : ME} {p pos} (hg : Gl X "range") (hm : X.mg "range" = none) (h : PA X [e] (tCons (tM g W a) tNil)) (hs : starEach [e] X.env = [(false, eval e X.env)] := by rfl) : PI X tg (.Call (.Name "range" p) [e] [] pos) (tMI g W (mRng1 a)) :=
  (pi_range1 hg hm h hs).imp fun σ H R q => by
    obtain ⟨ε, ρ, L, he, hh, q⟩ := q
    refine ⟨ε, ρ, L, he, hh, Lf.bind q fun x L1 v ρ1 H1 e1 p1 t1 h1 r1 q1 => ?_⟩
    cases r1 with
    | int n =>
      simp only at q1
      split at q1
      · rename_i hz
        refine ⟨n, rfl, by omega, by omega, q1 _ ρ1 H1 (List.prefix_refl _) (TP.refl H1) h1 wk_rng⟩
      · exact q1.elim
    | _ => exact q1.elim
theorem si_rng2 {tg e1 e2 : Expr} {a b : ME} {p pos} (hg : Gl X "range") (hm : X.mg "range" = none) (h : PA X [e1, e2] (tCons (tM g W a) (tCons (tM g W b) tNil))) (hs : starEach [e1, e2] X.env = [(false, eval e1 X.env), (false, eval e2 X.env)] := by rfl) (hs2 : starEach [e2] X.env = [(false, eval e2 X.env)] := by rfl) :
    PI X tg (.Call (.Name "range" p) [e1, e2] [] pos) (tMI g W (mRng2 a b)) :=
  (pi_range2 hg hm h hs hs2).imp fun σ H R q => by
    obtain ⟨ε, ρ, L, he, hh, q⟩ := q
    refine ⟨ε, ρ, L, he, hh, Lf.bind q fun x L1 v ρ1 H1 e1 p1 t1 h1 r1 q1 => ?_⟩
    refine ⟨ε, ρ1, L1, he.mono p1 t1, h1, Lf.bind q1 fun y L2 u ρ2 H2 e2 p2 t2 h2 r2 q2 => ?_⟩
    split at q2
    · cases r1; cases r2
      split at q2
      · rename_i hz
        exact ⟨_, _, rfl, by omega, q2 _ ρ2 H2 (List.prefix_refl _) (TP.refl H2) h2 wk_rng⟩
      · exact q2.elim
    · exact q2.elim
def loopF (src : Src) (t : MG) (body : MS) : List D → MS
  | [], ε, L => if src.ok L = true then .nx ε L else .bad
  | d :: ds, ε, L => if src.ok L = true then (match t.f d ε with
    | none => .bad
    | some ε1 => match body ε1 L with
      | .nx ε2 L2 => loopF src t body ds ε2 L2
      | .ct ε2 L2 => loopF src t body ds ε2 L2
      | .bk ε2 L2 => .nx ε2 L2
      | r => r) else .bad
def mFor (mi : MI) (t : MG) (body : MS) : MS := fun ε L => (mi ε L).bindS ε fun src L1 => loopF src t body src.ds ε L1
theorem drop_cons {α : Type} {l : List α} {i : Nat} (h : i < l.length) : ∃ d, l[i]? = some d ∧ l.drop i = d :: l.drop (i + 1) := ⟨l[i], by simp, by rw [List.drop_eq_getElem_cons h]⟩
theorem loopF_ok {src : Src} {t : MG} {body : MS} {ds : List D} {ε : En} {D : Ends} (h : LfS g ρ H W (loopF src t body ds ε L) D) : src.ok L = true := by
  cases hk : src.ok L with
  | true => rfl
  | false =>
    cases ds with
    | nil => unfold loopF at h; rw [hk] at h; exact h.elim
    | cons d ds => unfold loopF at h; rw [hk] at h; exact h.elim
theorem ss_for {tg iter : Expr} {sts : List Stmt} {mi : MI} {t : MG} {body : MS} {pos : Pos} (hp : PassesOwn (model X.prog X.w) X.A X.env X.xe) (hc : X.calm = true) (hi : PI X tg iter (tMI g W mi)) (hg : PG X tg (tMG g t)) (hb : PSs X sts (tMS g W body))
    (hs : ∀ x, foldedSetIterable iter X.env x = pure x := by intro _; rfl) : PS X (.For tg iter sts [] pos) (tMS g W (mFor mi t body)) :=
  (ps_for hp hc hi hg hb hs).imp fun D σ H q => by
    obtain ⟨ε, ρ, L, he, hh, q⟩ := q
    refine ⟨ε, ρ, L, he, hh, LfS.bind he q fun src L1 J ρ1 H1 _ p1 t1 h1 wk q1 => ?_⟩
    let Wd : Nat → Nat → L2.St → Hp → Prop := fun i m σ H => m = src.ds.length - i ∧ i ≤ src.ds.length ∧ ∃ ρ' L' ε', ρ1 <+: ρ' ∧ TP H1 H ∧ HR g ρ' L' H ∧ ER g ρ' H σ ε' ∧ LfS g ρ' H W (loopF src t body (src.ds.drop i) ε' L') D
    refine ⟨Wd,
      ⟨_, rfl, Nat.zero_le _, ρ1, L1, ε, List.prefix_refl _, TP.refl H1, h1, he.mono p1 t1, q1⟩, ?_⟩
    rintro i m σ2 H2 ⟨rfl, hi, ρ2, L2, ε2, p2, t2, h2, he2, q2⟩
    have hok := loopF_ok q2
    by_cases hlt : i < src.ds.length
    · obtain ⟨d, hd, hdr⟩ := drop_cons hlt
      rw [hdr] at q2
      unfold loopF at q2
      rw [if_pos hok] at q2
      refine .inr ⟨wk.go i ρ2 L2 H2 hlt p2 t2 h2 hok, Wd (i + 1) (src.ds.length - (i + 1)), fun σ' H' n => ⟨src.ds.length - (i + 1), by omega, n⟩, fun x H3 y => ?_⟩
      · obtain ⟨t3, h3, r3⟩ := wk.yld i d ρ2 L2 H2 x H3 hd p2 t2 h2 hok y
        cases ht : t.f d ε2 with
        | none => rw [ht] at q2; exact q2.elim
        | some ε3 =>
          rw [ht] at q2
          simp only at q2
          refine ⟨ρ2, ε2, d, ε3, he2.mono (List.prefix_refl _) t3, r3, ht, fun σ4 he4 _ => ?_⟩
          refine ⟨ε3, ρ2, L2, he4, h3, ?_⟩
          have t23 := t2.trans t3
          cases hbd : body ε3 L2 with
          | nx ε5 L5 =>
            rw [hbd] at q2
            exact fun σ' ρ' H' p t' a b => ⟨rfl, hlt, ρ', L5, ε5, p2.trans p, t23.trans t', a, b, LfS.mono p (t3.trans t') q2⟩
          | ct ε5 L5 =>
            rw [hbd] at q2
            exact fun σ' ρ' H' p t' a b => ⟨rfl, hlt, ρ', L5, ε5, p2.trans p, t23.trans t', a, b, LfS.mono p (t3.trans t') q2⟩
          | bk ε5 L5 =>
            rw [hbd] at q2
            exact fun σ' ρ' H' p t' a b => q2 σ' ρ' H' p (t3.trans t') a b
          | rt d L5 =>
            rw [hbd] at q2
            exact fun v ρ' H' p t' a b => q2 v ρ' H' p (t3.trans t') a b
          | ex c fs ε5 L5 =>
            rw [hbd] at q2
            exact fun σ' ρ' H' dx p t' a b => q2 σ' ρ' H' dx p (t3.trans t') a b
          | bad => rw [hbd] at q2; exact q2.elim
    · have e : i = src.ds.length := by omega
      subst e
      rw [List.drop_length] at q2
      unfold loopF at q2
      rw [if_pos hok] at q2
      exact .inl ⟨wk.stop ρ2 L2 H2 p2 t2 h2 hok, q2 σ2 ρ2 H2 (List.prefix_refl _) (TP.refl H2) h2 he2⟩
def loopW (c : MB) (body : MS) : Nat → MS
  | 0, _, _ => .bad
  | n + 1, ε, L => (c ε L).bindS ε fun t L1 => if t = true then (match body ε L1 with
      | .nx ε2 L2 => loopW c body n ε2 L2
      | .ct ε2 L2 => loopW c body n ε2 L2
      | .bk ε2 L2 => .nx ε2 L2
      | r => r) else .nx ε L1
theorem ss_while {ec : Expr} {sts : List Stmt} {c : MB} {body : MS} {pos : Pos} (n : Nat) (hp : PassesOwn (model X.prog X.w) X.A X.env X.xe) (hc : PT X ec (tMB g W c)) (hb : PSs X sts (tMS g W body)) : PS X (.While ec sts [] pos) (tMS g W (loopW c body n)) :=
  (ps_while hp hc hb).imp fun D σ H q => by
    obtain ⟨ε, ρ, L, he, hh, q⟩ := q
    refine ⟨fun m σ H => ∃ ρ' L' ε', HR g ρ' L' H ∧ ER g ρ' H σ ε' ∧ LfS g ρ' H W (loopW c body m ε' L') D, ⟨n, ρ, L, ε, hh, he, q⟩, ?_⟩
    rintro m σ1 H1 ⟨ρ1, L1, ε1, h1, he1, q1⟩
    cases m with
    | zero => exact q1.elim
    | succ m =>
      unfold loopW at q1
      refine ⟨ε1, ρ1, L1, he1, h1, LfS.bind he1 q1 fun b L2 v ρ2 H2 _ p2 t2 h2 r2 q2 => ?_⟩
      cases r2
      have he2 := he1.mono p2 t2
      cases b with
      | false => rw [if_neg (by decide)] at q2 ⊢; exact q2 σ1 ρ2 H2 (List.prefix_refl _) (TP.refl H2) h2 he2
      | true =>
        rw [if_pos rfl] at q2 ⊢
        refine ⟨_, fun σ' H' n => ⟨m, Nat.lt_succ_self m, n⟩, ε1, ρ2, L2, he2, h2, ?_⟩
        cases hbd : body ε1 L2 with
        | nx ε5 L5 =>
          rw [hbd] at q2
          exact fun σ' ρ' H' p t' a b => ⟨ρ', L5, ε5, a, b, LfS.mono p t' q2⟩
        | ct ε5 L5 =>
          rw [hbd] at q2
          exact fun σ' ρ' H' p t' a b => ⟨ρ', L5, ε5, a, b, LfS.mono p t' q2⟩
        | bk ε5 L5 => rw [hbd] at q2; exact q2
        | rt d L5 => rw [hbd] at q2; exact q2
        | ex c fs ε5 L5 => rw [hbd] at q2; exact q2
        | bad => rw [hbd] at q2; exact q2.elim
abbrev W0 : WX := fun _ _ _ _ => False
def wipeE (ε : En) : List Nat → En
  | [] => ε
  | v :: vs => (wipeE ε vs).set v none
theorem ER.wipes {σ : L2.St} {ε : En} (e : ER g ρ H σ ε) : ∀ vs : List Nat, ER g ρ H (L2.wipe σ vs) (wipeE ε vs)
  | [] => e
  | v :: vs => (ER.wipes e vs).wipe v
theorem wipe_get {σ : L2.St} : ∀ {vs : List Nat} {j : Nat}, j ∈ vs → j < σ.length → (wipe σ vs)[j]? = some none
  | v :: vs, j, h, hl => by
    unfold wipe
    by_cases e : v = j
    · subst e
      rw [List.getElem?_set_self (by rw [wipe_length]; exact hl)]
    · rw [List.getElem?_set_ne e]
      exact wipe_get (by rcases List.mem_cons.mp h with z | z; exact absurd z.symm e; exact z) hl
theorem wipe_upd {σ σ' : L2.St} {is vs : List Nat} (u : Upd is σ σ') (h : ∀ i ∈ is, i ∈ vs) : wipe σ' vs = wipe σ vs := by
  refine List.ext_getElem? fun j => ?_
  by_cases hj : j ∈ vs
  · by_cases hl : j < σ.length
    · rw [wipe_get hj hl, wipe_get hj (by rw [u.1]; exact hl)]
    · rw [List.getElem?_eq_none (by rw [wipe_length, u.1]; omega), List.getElem?_eq_none (by rw [wipe_length]; omega)]
  · rw [wipe_out hj, wipe_out hj]
    exact u.2 j fun z => hj (h j z)
theorem wipe_wipe (σ : L2.St) (vs : List Nat) : wipe (wipe σ vs) vs = wipe σ vs := by
  refine List.ext_getElem? fun j => ?_
  by_cases hj : j ∈ vs
  · by_cases hl : j < σ.length
    · rw [wipe_get hj (by rw [wipe_length]; exact hl), wipe_get hj hl]
    · rw [List.getElem?_eq_none (by rw [wipe_length, wipe_length]; omega), List.getElem?_eq_none (by rw [wipe_length]; omega)]
  · rw [wipe_out hj]
/-- nothing is raised in a comprehension's block -/
def Rs.nox {α : Type} (r : Rs α) : Rs α := match r with
  | .ex _ _ _ => .bad
  | r => r
def loopC (src : Src) (t : MG) (tt : MB) (te : ME) (n : Nat) (ε : En) : List D → List O → Rs D
  | [], L => if src.ok L = true then .ok (.ref n) L else .bad
  | d :: ds, L => if src.ok L = true then (match t.f d ε with
    | none => .bad
    | some ε1 => (tt ε1 L).nox.bind fun b L2 => if b = true then (te ε1 L2).nox.bind fun y L3 => (match L3[n]? with
        | some (.lst acc) => if acc.length < most then loopC src t tt te n ε ds (L3.set n (.lst (acc ++ [y]))) else .bad
        | _ => .bad) else loopC src t tt te n ε ds L2) else .bad
def mComp (vs : List Nat) (mi : MI) (t : MG) (tt : MB) (te : ME) : ME := fun ε L => (mi ε L).bind fun src L1 => loopC src t tt te L1.length (wipeE ε vs) src.ds (L1 ++ [.lst []])
def mYes : MB := fun _ L => .ok true L
structure STs (g : Gx) (X : Cx) (ifs : List Expr) (m : MB) : Prop where
  h : PTs X ifs (tMB g W0 m)
theorem sts_nil : STs g X [] mYes := ⟨⟨fun pins s σ H Q I q => (pts_nil (X := X)).run pins s σ H Q I (by
  obtain ⟨ε, ρ, L, he, hh, q⟩ := q
  exact q true ρ H (List.prefix_refl _) (TP.refl H) hh rfl)⟩⟩
theorem sts_one {c : Expr} {m : MB} (h : PT X c (tMB g W0 m)) : STs g X [c] m := ⟨pts_one h⟩
theorem loopC_ok {src : Src} {t : MG} {tt : MB} {te : ME} {n : Nat} {ε : En} {ds : List D} {σ : L2.St} {Q : VK} (h : LfD g ρ H σ W (loopC src t tt te n ε ds L) Q) : src.ok L = true := by
  cases hk : src.ok L with
  | true => rfl
  | false =>
    cases ds with
    | nil => unfold loopC at h; rw [hk] at h; exact h.elim
    | cons d ds => unfold loopC at h; rw [hk] at h; exact h.elim
theorem Lf.nox {α β : Type} {σ σ' : L2.St} {rel : List Addr → Hp → α → β → Prop} {r : Rs α} {Q : β → Hp → Prop} (h : Lf g ρ H σ W rel r.nox Q) : Lf g ρ H σ' W0 rel r Q := by
  cases r with
  | ok a L => exact h
  | ex c fs L => exact h.elim
  | bad => exact h
theorem LfD.mono {σ : L2.St} {r : Rs D} {Q : VK} (hp : ρ <+: ρ') (ht : TP H H') (h : LfD g ρ H σ W r Q) : LfD g ρ' H' σ W r Q := by
  cases r with
  | ok d L => exact fun v ρ2 H2 p t a b => h v ρ2 H2 (hp.trans p) (ht.trans t) a b
  | ex c fs L => exact fun ρ2 H2 dx p t a b => h ρ2 H2 dx (hp.trans p) (ht.trans t) a b
  | bad => exact h
theorem comp_turns {src : Src} {t : MG} {tt : MB} {te : ME} {own : List Nat} {σ : L2.St} {ε : En} {J : It} {Q : VK} (hsub : ∀ i ∈ t.is, i ∈ own) (wk : Wk g ρ H src J) (he : ER g ρ H σ ε) {Dl : Addr} (hD : H Dl = none) (hh : HR g ρ L H)
    (q : LfD g ρ H σ W (loopC src t tt te L.length (wipeE ε own) src.ds (L ++ [.lst []])) Q) :
    ∃ Wv : Nat → Nat → Hp → Prop, (∃ m, Wv 0 m (upd H Dl (.lst []))) ∧ ∀ i m H, Wv i m H →
      (J.stop i H ∧ Q (.ref Dl) H) ∨ (J.go i H ∧ ∃ Nx : Hp → Prop, (∀ H', Nx H' → ∃ m', m' < m ∧ Wv (i + 1) m' H') ∧ ∀ x H', J.yld i H x H' → tMG g t x (wipe σ own) H' fun σ2 H2 => wipe σ2 own = wipe σ own ∧ tMB g W0 tt σ2 H2 fun b H3 =>
        if b = true then tM g W0 te σ2 H3 fun y H4 => ∃ acc, H4 Dl = some (.lst acc) ∧ acc.length < sizeLine ∧ Nx (upd H4 Dl (.lst (acc ++ [y]))) else Nx H3) := by
  have tD : TP H (upd H Dl (.lst [])) := TP.new hD
  have hr := hh.new hD (u := .lst []) (o := .lst []) ⟨[], upd_same, .nil⟩
  have eD : (ρ ++ [Dl])[L.length]? = some Dl := by rw [← hh.len]; simp
  let Wd : Nat → Nat → Hp → Prop := fun i m H1 => m = src.ds.length - i ∧ i ≤ src.ds.length ∧ ∃ ρ' L', ρ ++ [Dl] <+: ρ' ∧ TP H H1 ∧ HR g ρ' L' H1 ∧ LfD g ρ' H1 σ W (loopC src t tt te L.length (wipeE ε own) (src.ds.drop i) L') Q
  refine ⟨Wd,
    ⟨_, rfl, Nat.zero_le _, ρ ++ [Dl], _, List.prefix_refl _, tD, hr, LfD.mono (pre_snoc _ _) tD q⟩, ?_⟩
  rintro i m H2 ⟨rfl, hi, ρ2, L2, p2, t2, h2, q2⟩
  have p02 : ρ <+: ρ2 := (pre_snoc _ _).trans p2
  have hok := loopC_ok q2
  have eD2 : ρ2[L.length]? = some Dl := pre_get p2 eD
  by_cases hlt : i < src.ds.length
  · obtain ⟨d, hd, hdr⟩ := drop_cons hlt
    rw [hdr] at q2
    unfold loopC at q2
    rw [if_pos hok] at q2
    refine .inr ⟨wk.go i ρ2 L2 H2 hlt p02 t2 h2 hok, Wd (i + 1) (src.ds.length - (i + 1)), fun H' n => ⟨src.ds.length - (i + 1), by omega, n⟩, fun x H3 y => ?_⟩
    · obtain ⟨t3, h3, r3⟩ := wk.yld i d ρ2 L2 H2 x H3 hd p02 t2 h2 hok y
      have he3 : ER g ρ2 H3 (wipe σ own) (wipeE ε own) := (he.mono p02 (t2.trans t3)).wipes own
      cases ht : t.f d (wipeE ε own) with
      | none => rw [ht] at q2; exact q2.elim
      | some ε3 =>
        rw [ht] at q2
        have q3 := LfD.mono (List.prefix_refl _) t3 q2
        refine ⟨ρ2, _, d, ε3, he3, r3, ht, fun σ4 he4 u4 => ⟨by rw [wipe_upd u4 hsub, wipe_wipe], ε3, ρ2, L2, he4, h3, ?_⟩⟩
        refine Lf.nox (Lf.bind q3 fun b L5 v ρ5 H5 _ p5 t5 h5 r5 q5 => ?_)
        cases r5
        have p25 := p2.trans p5
        have t05 := (t2.trans t3).trans t5
        cases b with
        | false =>
          rw [if_neg (by decide)] at q5 ⊢
          exact ⟨rfl, hlt, ρ5, L5, p25, t05, h5, q5⟩
        | true =>
          rw [if_pos rfl] at q5 ⊢
          refine ⟨ε3, ρ5, L5, he4.mono p5 t5, h5, Lf.nox (Lf.bind q5 fun y L6 yv ρ6 H6 _ p6 t6 h6 r6 q6 => ?_)⟩
          split at q6
          · rename_i acc ha
            split at q6
            · rename_i hz
              have e6 : ρ6[L.length]? = some Dl := pre_get (p5.trans p6) eD2
              obtain ⟨vs, b1, b2⟩ := h6.lst ha e6
              have t7 : TP H6 (upd H6 Dl (.lst (vs ++ [yv]))) := TP.mut b1 rfl
              refine ⟨vs, b1, Nat.lt_of_lt_of_le (by rw [← b2.length]; exact hz) (most_le (Nat.le_refl _)), rfl, hlt, ρ6, _, p25.trans p6, (t05.trans t6).trans t7, ?_, LfD.mono (List.prefix_refl _) t7 q6⟩
              exact h6.set e6 b1 rfl ⟨_, upd_same, (b2.append (.cons r6 .nil)).mono (List.prefix_refl _) t7⟩
            · exact q6.elim
          · exact q6.elim
  · have e : i = src.ds.length := by omega
    subst e
    rw [List.drop_length] at q2
    unfold loopC at q2
    rw [if_pos hok] at q2
    exact .inl ⟨wk.stop ρ2 L2 H2 p02 t2 h2 hok, q2 _ ρ2 H2 (List.prefix_refl _) (TP.refl H2) h2 (.ref eD2)⟩
end Tw
end
section
set_option Elab.async false
set_option linter.all false
set_option maxRecDepth 100000
set_option maxHeartbeats 1000000
namespace Tw
open PySem PySem.Spec L2
open PyProof.Rows (envOfC)
/-- exceptions leave with no context (raised where nothing is handled) -/
abbrev Takes (X : Cx) (W : WX) : Prop := L2N.Takes X W
variable {g : Gx} {ρ ρ' : List Addr} {H H' : Hp} {X : Cx} {W : WX} {L : List O} {cm : Nat → Addr} {fx : Hp}
/-- the parts of a comprehension's block, in whatever block it runs -/
abbrev InBlk (X : Cx) (scope : Scope) (p : Cx → Prop) : Prop := ∀ (s : Shared) (H : Hp) (C : Addr) (cl : List (Str × Addr)) (fp : List Addr), p (X.blk s H scope (compEnvC scope cl C X.env) fp)
theorem tLc_ok {own : List Nat} {mi : MI} {t : MG} {tt : MB} {te : ME} {σ : L2.St} {Q : VK} (hsub : ∀ i ∈ t.is, i ∈ own) (q : tM g W (mComp own mi t tt te) σ H Q) : tLc (tMI g W mi) (tMG g t) (tMB g W0 tt) (tM g W0 te) own σ H Q := by
  obtain ⟨ε, ρ, L, he, hh, q⟩ := q
  refine ⟨ε, ρ, L, he, hh, Lf.bind q fun src L1 J ρ1 H1 _ p1 t1 h1 wk q1 => fun Dl hD => ?_⟩
  exact comp_turns hsub wk (he.mono p1 t1) hD h1 q1
theorem se_lc {elt tg iter : Expr} {ifs : List Expr} {scope : Scope} {own : List (Str × Nat)} {pos : Pos} {mi : MI} {t : MG} {tt : MB} {te : ME} (hc : X.calm = true) (hN : X.N.Nodup) (hi : PI X tg iter (tMI g W mi)) (ok : BlkOk X.N X.env.scope scope own)
    (hg : InBlk X scope fun Y => PG Y tg (tMG g t)) (ht : InBlk X scope fun Y => STs g Y ifs tt) (he : InBlk X scope fun Y => PE Y elt (tM g W0 te)) (hsub : ∀ i ∈ t.is, i ∈ own.map (·.2) := by decide) (hs : ∀ x, foldedSetIterable iter X.env x = pure x := by intro _; rfl) :
    PE X (.ListComp elt [⟨tg, iter, ifs, 0⟩] scope pos) (tM g W (mComp (own.map (·.2)) mi t tt te)) :=
  (pe_lc hc hN hi ok hg (fun s H C cl fp => (ht s H C cl fp).h) he hs).imp fun σ H Q q => tLc_ok hsub q
theorem ss_setLc {i : Nat} {y : Str} {py : Pos} {elt tg iter : Expr} {ifs : List Expr} {scope : Scope} {own : List (Str × Nat)} {pos spos : Pos} {mi : MI} {t : MG} {tt : MB} {te : ME} (hc : X.calm = true) (hN : X.N.Nodup) (hy : X.N[i]? = some y) (hi : PI X tg iter (tMI g W mi)) (ok : BlkOk X.N X.env.scope scope own)
    (hg : InBlk X scope fun Y => PG Y tg (tMG g t)) (ht : InBlk X scope fun Y => STs g Y ifs tt) (he : InBlk X scope fun Y => PE Y elt (tM g W0 te)) (hsub : ∀ i ∈ t.is, i ∈ own.map (·.2) := by decide) (hyl : X.env.scope.names.lookup y = some .local := by rfl)
    (hsw : swapsWith (.ListComp elt [⟨tg, iter, ifs, 0⟩] scope pos) (some (.Name y py)) spos.line X.env = pure true := by exact sw_true rfl rfl rfl (by decide +kernel)) (hs : ∀ x, foldedSetIterable iter X.env x = pure x := by intro _; rfl) :
    PS X (.Assign [.Name y py] (.ListComp elt [⟨tg, iter, ifs, 0⟩] scope pos) spos) (tMS g W (mSet i (mComp (own.map (·.2)) mi t tt te))) :=
  (ps_setLc hc hN hy hyl hsw hi ok hg (fun s H C cl fp => (ht s H C cl fp).h) he hs).imp fun D σ H q => by
    obtain ⟨ε, ρ, L, he, hh, q⟩ := q
    exact tLc_ok hsub ⟨ε, ρ, L, he, hh, LfS.bind he q fun x L1 v ρ1 H1 _ p1 t1 h1 r1 q1 => q1 _ ρ1 H1 (List.prefix_refl _) (TP.refl H1) h1 ((he.mono p1 t1).set i r1)⟩
abbrev FS := List D → List O → Rs D
def LfF (g : Gx) (ρ : List Addr) (H : Hp) (r : Rs D) (Q : VK) (E : XK) : Prop := match r with
  | .ok d L' => ∀ v ρ' H', ρ <+: ρ' → TP H H' → HR g ρ' L' H' → VR g ρ' H' d v → Q v H'
  | .ex c fs L' => ∀ ρ' H' dx, ρ <+: ρ' → TP H H' → HR g ρ' L' H' → XR g ρ' H' fs dx → E (.ref (g.cm c)) dx H'
  | .bad => False
def spF (w : World) (K : PySem.W.Frag) (cm : Nat → Addr) (n : Nat) (F : FS) : Sp := fun vs H Q E => vs.length = n ∧ ∃ fx ρ L ds, HR ⟨K, cm, fx, w⟩ ρ L H ∧ VRs ⟨K, cm, fx, w⟩ ρ H ds vs ∧ LfF ⟨K, cm, fx, w⟩ ρ H (F ds L) Q E
def runF (n N : Nat) (m : MS) : FS := fun ds L => if ds.length = n then (match m (ds.map some ++ List.replicate (N - n) none) L with
  | .nx _ L' => .ok .non L'
  | .rt d L' => .ok d L'
  | .ex c fs _ L' => .ex c fs L'
  | _ => .bad) else .bad
theorem ER.begin {ds : List D} {vs : List V} (r : VRs g ρ H ds vs) (N : List Str) : ER g ρ H (L2.start N vs) (ds.map some ++ List.replicate (N.length - ds.length) none) := by
  refine ⟨by simp [L2.start, r.length], fun i d e => ?_⟩
  unfold L2.start
  by_cases hi : i < ds.length
  · rw [List.getElem?_append_left (by simpa using hi)] at e
    rw [List.getElem?_append_left (by simpa [← r.length] using hi)]
    have e' : ds[i]? = some d := by
      rw [List.getElem?_map] at e
      cases h : ds[i]? with
      | none => rw [h] at e; cases e
      | some z => rw [h] at e; cases e; rfl
    obtain ⟨v, h1, h2⟩ := r.get e'
    exact ⟨v, by rw [List.getElem?_map, h1]; rfl, h2⟩
  · rw [List.getElem?_append_right (by simpa using hi)] at e
    obtain ⟨h1, h2⟩ := List.getElem?_eq_some_iff.mp e
    simp at h2
section
variable {P : Program} {w : World} {K : PySem.W.Frag} {mg : Str → Option Value} {base : Heap} {cm : Nat → Addr} {fx : Hp}
/-- the wish about exceptions in a def's body -/
abbrev WF (E : XK) : WX := fun cls d _ H => E cls d H
abbrev cxF (P : Program) (w : World) (K : PySem.W.Frag) (mg : Str → Option Value) (base : Heap) (N : List Str) (qual : Str) (sc : Scope) (f : Addr) (cdv : Value) (A : Around) (outer : List Env) (s : Shared) (H : Hp) (E : XK) : Cx := cxOf (L2N.CX P w) P w K mg base N qual sc f cdv A outer s H E
/-- the body does what m says -/
def BodyOk (P : Program) (w : World) (K : PySem.W.Frag) (mg : Str → Option Value) (base : Heap) (cm : Nat → Addr) (N : List Str) (qual : Str) (sc : Scope) (f : Addr) (body : List Stmt) (k : Nat) (m : MS) : Prop :=
  ∀ (fx : Hp) (cdv : Value) (A : Around) (outer : List Env) (s : Shared) (H : Hp) (E : XK), Room k (A.deeper (envOfC qual sc s.heap.objs.size f cdv)) → Takes (cxF P w K mg base N qual sc f cdv A outer s H E) (WF E) →
    PassesOwn (model P w) (cxF P w K mg base N qual sc f cdv A outer s H E).A (cxF P w K mg base N qual sc f cdv A outer s H E).env (cxF P w K mg base N qual sc f cdv A outer s H E).xe →
    PSs (cxF P w K mg base N qual sc f cdv A outer s H E) body (tMS ⟨K, cm, fx, w⟩ (WF E) m)
theorem body_run {N ps : List Str} {qual : Str} {sc : Scope} {f : Addr} {body : List Stmt} {k : Nat} {m : MS} (h : BodyOk P w K mg base cm N qual sc f body k m) (hN : ps.length ≤ N.length) :
    ∀ (cdv : Value) (A : Around) (outer : List Env) (s : Shared) (H : Hp) (vs : List V) (Q : VK) (E : XK), Room k (A.deeper (envOfC qual sc s.heap.objs.size f cdv)) → spF w K cm ps.length (runF ps.length N.length m) vs H Q E →
      ∃ t, PSs (cxOf (L2N.CX P w) P w K mg base N qual sc f cdv A outer s H E) body t ∧ t { nx := fun _ H' => Q .non H', rt := Q } (start N vs) H := by
  intro cdv A outer s H vs Q E hr hsp
  obtain ⟨hl, fx, ρ, L, ds, hh, r, q⟩ := hsp
  refine ⟨_, h fx cdv A outer s H E hr (L2N.takes_of rfl rfl rfl rfl) (passes_of rfl), ?_⟩
  unfold runF at q
  have hd : ds.length = ps.length := r.length.trans hl
  rw [if_pos hd] at q
  have he := ER.begin r N
  rw [hd] at he
  refine ⟨_, ρ, L, he, hh, ?_⟩
  cases hm : m (ds.map some ++ List.replicate (N.length - ps.length) none) L with
  | nx ε' L' => rw [hm] at q; exact fun σ' ρ' H' p t a b => q .non ρ' H' p t a .non
  | rt d L' => rw [hm] at q; exact q
  | bk ε' L' => rw [hm] at q; exact q.elim
  | ct ε' L' => rw [hm] at q; exact q.elim
  | ex c fs ε' L' => rw [hm] at q; exact fun σ' ρ' H' dx p t a b x => q ρ' H' dx p t a x
  | bad => rw [hm] at q; exact q.elim
abbrev FnF (P : Program) (w : World) (K : PySem.W.Frag) (mg : Str → Option Value) (base : Heap) (cm : Nat → Addr) (k : Nat) (f : Addr) (fd : FuncData) (ps : List Str) (F : FS) : Prop := FnOk P w K mg base (L2N.CX P w) k f fd ps (spF w K cm ps.length F)
theorem fn_ok {x qual : Str} {st : Stmt} {f : Addr} {fd : FuncData} {N ps : List Str} {k : Nat} {m : MS} (F : Fun K x qual st f fd) (S : FnScope N ps (defScope st)) (h : BodyOk P w K mg base cm N qual (defScope st) f (defBody st) k m) (hN : ps.length ≤ N.length := by decide) :
    FnF P w K mg base cm (k + 1) f fd ps (runF ps.length N.length m) := by
  obtain ⟨oc, od, kV, doc, pm, an, cdv, ct, osl, rfl, lk, hcd⟩ := F.ex
  exact fn_of lk hcd S (fun vs H Q E hsp => hsp.1) fun A outer s H vs Q E hr hsp => body_run h hN cdv A outer s H vs Q E hr hsp
theorem fnD_ok {x qual : Str} {params : Arguments} {body : List Stmt} {sc : Scope} {dvs : List V} {kws : List (Str × V)} {f : Addr} {fd : FuncData} {N ps : List Str} {k : Nat} {m : MS} (F : FunD K x qual params body sc dvs kws f fd) (S : FnScope N ps sc)
    (h : BodyOk P w K mg base cm N qual sc f body k m) (hN : ps.length ≤ N.length := by decide) : FnF P w K mg base cm (k + 1) f fd ps (runF ps.length N.length m) := by
  obtain ⟨oc, od, dV, kV, doc, pm, an, cdv, ct, osl, rfl, lk, hcd, _⟩ := F.ex
  exact fn_of lk hcd S (fun vs H Q E hsp => hsp.1) fun A outer s H vs Q E hr hsp => body_run h hN cdv A outer s H vs Q E hr hsp
/-- a def by its global name -/
structure FI (P : Program) (w : World) (K : PySem.W.Frag) (mg : Str → Option Value) (base : Heap) (cm : Nat → Addr) (x : Str) (k n : Nat) (F : FS) : Prop where
  ex : ∃ (f : Addr) (fd : FuncData) (ps : List Str), mg x = some (.ref f) ∧ PySem.W.keepIn K (.ref f) = true ∧ Binds K fd ps [] ∧ ps.length = n ∧ FnF P w K mg base cm k f fd ps F
/-- a method of the class c -/
structure MtI (P : Program) (w : World) (K : PySem.W.Frag) (mg : Str → Option Value) (base : Heap) (cm : Nat → Addr) (c : Nat) (x : Str) (k n : Nat) (F : FS) : Prop where
  ex : ∃ (f : Addr) (fd : FuncData) (ps : List Str), Meth K (cm c) x f ∧ Cls K (cm c) ∧ Binds K fd ps [] ∧ ps.length = n ∧ FnF P w K mg base cm k f fd ps F
/-- the class c by its name, its __init__ -/
structure CI (P : Program) (w : World) (K : PySem.W.Frag) (mg : Str → Option Value) (base : Heap) (cm : Nat → Addr) (x : Str) (c k n : Nat) (F : FS) : Prop where
  ex : ∃ (f : Addr) (fd : FuncData) (ps : List Str), mg x = some (.ref (cm c)) ∧ Mk K (cm c) f ∧ Binds K fd ps [] ∧ ps.length = n ∧ FnF P w K mg base cm k f fd ps F
/-- a property of the class c -/
structure PrI (P : Program) (w : World) (K : PySem.W.Frag) (mg : Str → Option Value) (base : Heap) (cm : Nat → Addr) (c : Nat) (x : Str) (k : Nat) (F : FS) : Prop where
  ex : ∃ (p f : Addr) (fd : FuncData) (ps : List Str), PropOf K (cm c) x p f ∧ Cls K (cm c) ∧ Binds K fd ps [] ∧ ps.length = 1 ∧ FnF P w K mg base cm k f fd ps F
end
abbrev EW (W : WX) (σ : L2.St) : XK := fun cls d H => W cls d σ H
theorem pass_at {W : WX} (tk : Takes X W) (σ : L2.St) : PassesAt (L2N.CX X.prog X.w) X σ (EW W σ) := L2N.passAt tk σ
theorem passLN {X : Cx} : Passes (L2N.CX X.prog X.w) X E0 := fun _ _ _ _ _ _ _ h => by
  obtain ⟨_, _, _, _, _, _, _, _, _, _, _, _, z⟩ := h
  exact z.elim
theorem takes0' {X : Cx} : Takes X W0 := fun _ _ x => by
  obtain ⟨_, _, _, _, _, _, _, _, _, _, _, _, _, _, _, _, z⟩ := x
  exact z.elim
def mCall (F : FS) (args : MA) : ME := fun ε L => (args ε L).bind fun ds L1 => F ds L1
theorem LfF.of {σ : L2.St} {r : Rs D} {Q : VK} (h : LfD g ρ H σ W r Q) : LfF g ρ H r Q (EW W σ) := by
  cases r with
  | ok d L => exact h
  | ex c fs L => exact h
  | bad => exact h
theorem tMA_sp {n : Nat} {F : FS} {args : MA} {σ : L2.St} {Q : VK} (hn : ∀ ε L ds L', args ε L = .ok ds L' → ds.length = n) (q : tM g W (mCall F args) σ H Q) : tMA g W args σ H fun vs H1 => spF g.w g.K g.cm n F (vs ++ []) H1 Q (EW W σ) := by
  obtain ⟨ε, ρ, L, he, hh, q⟩ := q
  refine ⟨ε, ρ, L, he, hh, Lf.bind q fun ds L1 vs ρ1 H1 e1 p1 t1 h1 r1 q1 => ?_⟩
  rw [List.append_nil]
  exact ⟨by rw [← r1.length]; exact hn _ _ _ _ e1, g.fx, ρ1, L1, ds, h1, r1, LfF.of q1⟩
/-- how many an argument list gives -/
structure Len (m : MA) (n : Nat) : Prop where
  h : ∀ ε L ds L', m ε L = .ok ds L' → ds.length = n
theorem len_nil : Len mNil 0 := ⟨fun ε L ds L' e => by cases e; rfl⟩
theorem len_cons {a : ME} {r : MA} {n : Nat} (h : Len r n) : Len (mCons a r) (n + 1) := ⟨fun ε L ds L' e => by
  unfold mCons at e
  cases ha : a ε L with
  | ok x L1 =>
    rw [ha] at e
    simp only [Rs.bind] at e
    cases hr : r ε L1 with
    | ok xs L2 => rw [hr] at e; cases e; simp [h.h _ _ _ _ hr]
    | ex c fs L2 => rw [hr] at e; cases e
    | bad => rw [hr] at e; cases e
  | ex c fs L1 => rw [ha] at e; cases e
  | bad => rw [ha] at e; cases e⟩
theorem se_call {cm : Nat → Addr} {fx : Hp} {x : Str} {k n : Nat} {F : FS} {e : Expr} {es : List Expr} {args : MA} {p pos : Pos} (h : FI X.prog X.w X.K X.mg X.base cm x k n F) (hr : Room k X.A) (tk : Takes X W) (ha : PA X (e :: es) (tMA ⟨X.K, cm, fx, X.w⟩ W args)) (hl : Len args n)
    (hg : Gl X x := by rfl) (hdb : (x == ("__debug__" : Str)) = false := by decide) (he : starEach (e :: es) X.env = (false, eval e X.env) :: starEach es X.env := by rfl) (hpl : (backTo pos (starEach es X.env)).any (·.1) = false := by rfl) :
    PE X (.Call (.Name x p) (e :: es) [] pos) (tM ⟨X.K, cm, fx, X.w⟩ W (mCall F args)) := by
  obtain ⟨f, fd, ps, hm, hk, hb, hps, G⟩ := h.ex
  refine (pe_callSD (E := EW W) G hr hg hm hk hb .nil (fun σ => pass_at tk σ) ha hdb he hpl).imp fun σ H Q q => ?_
  subst hps
  exact tMA_sp hl.h q
/-- o.m(..) where what is raised is wished for at the caller's slots -/
def tMethSD (C : Addr) (m : Str) (sp : Sp) (dvs : List V) (E : L2.St → XK) (ta : TE) (t : TA) : TE := fun σ H Q => ta σ H fun x H1 => ∃ a dx fs, x = .ref a ∧ H1 a = some (.ins C dx fs) ∧ fs.lookup m = none ∧ t σ H1 fun vs H2 => sp (x :: (vs ++ dvs)) H2 Q (E σ)
section
variable {CX : CXT} {k : Nat} {f C : Addr} {fd : FuncData} {ps : List Str} {sp : Sp} {dvs : List V} {ds : List Value} {E : L2.St → XK} {x m : Str} {p pos apos : Pos} {e o : Expr} {es : List Expr} {ta : TE} {t : TA}
theorem pe_methSD {pl : Sem Bool} (he : PE X o ta) (c : Cls X.K C) (hm : Meth X.K C m f) (F : FnOk X.prog X.w X.K X.mg X.base CX k f fd ps sp) (hr : Room k X.A) (hb : Binds X.K fd ps ds) (hd : Vals dvs ds) (hx : ∀ σ, PassesAt CX X σ (E σ)) (ha : PA X (e :: es) t)
    (hst : starEach (e :: es) X.env = (false, eval e X.env) :: starEach es X.env := by rfl) (hpl : (backTo pos (starEach es X.env)).any (·.1) = false := by rfl)
    (ht : eval (.Call (.Attribute o m apos) (e :: es) [] pos) X.env = (do
      let ov ← eval o X.env
      standAt apos.atName
      let (f, first) ← holding [ov] (getMethod ov m pl)
      callWith pos f first (backTo pos (starEach (e :: es) X.env)) (backToKw pos (keywordEach [] X.env))) := by rfl) :
    PE X (.Call (.Attribute o m apos) (e :: es) [] pos) (tMethSD C m sp dvs E ta t) := by
  refine ⟨fun pins s σ H Q I h => ?_⟩
  refine PySem.W.methodCall_KW (pl := pl) (thn (he.run pins s σ H _ I h) fun u s1 ⟨x, H1, I1, rx, a, dx, fs, ex, ea, l, q⟩ => ?_) ht
  subst ex
  obtain rfl : u = Value.ref a := rx
  refine getmeth_ok I1 ea c hm l ?_
  refine PySem.W.callWith_K (first := [.ref a]) (h₀ := X.base) I.ok.mod.kin hm.kp (thn (ha.run pos pins s1 σ H1 _ I1 q) fun us s2 ⟨vs, H2, I2, r, q2⟩ => ⟨I2.kIn, ?_⟩) hst hpl
  exact run_fnSD (us := .ref a :: us) (vs := .ref a :: vs) F hr hb hd (hx σ) I2 (.cons rfl r) q2
end
def isIns (c : Nat) (m : Str) (L : List O) (x : D) : Bool := match x with
  | .ref n => match L[n]? with
    | some (.ins c' fs) => decide (c' = c) && (fs.lookup m).isNone
    | _ => false
  | _ => false
theorem isIns_ok {c : Nat} {m : Str} {x : D} {v : V} (hh : HR g ρ L H) (r : VR g ρ H x v) (e : isIns c m L x = true) : ∃ a dx fs, v = .ref a ∧ H a = some (.ins (g.cm c) dx fs) ∧ fs.lookup m = none := by
  unfold isIns at e
  cases r with
  | ref ea =>
    simp only at e
    split at e
    · rename_i c' fs h1
      simp only [Bool.and_eq_true, decide_eq_true_eq] at e
      obtain ⟨rfl, e2⟩ := e
      obtain ⟨dx, vs, e3, fr⟩ := hh.ins h1 ea
      refine ⟨_, dx, vs, rfl, e3, ?_⟩
      rcases fr.look m with ⟨d, z, l1, l2, _⟩ | ⟨_, l2⟩
      · rw [l1] at e2; cases e2
      · exact l2
    · cases e
  | _ => cases e
def mMeth (c : Nat) (m : Str) (F : FS) (o : ME) (args : MA) : ME := fun ε L => (o ε L).bind fun x L1 => if isIns c m L1 x = true then (args ε L1).bind fun ds L2 => F (x :: ds) L2 else .bad
theorem se_meth {cm : Nat → Addr} {fx : Hp} {c : Nat} {m : Str} {k n : Nat} {F : FS} {o e : Expr} {es : List Expr} {mo : ME} {args : MA} {pos apos : Pos} {pl : Sem Bool} (h : MtI X.prog X.w X.K X.mg X.base cm c m k (n + 1) F) (hr : Room k X.A) (tk : Takes X W) (ho : PE X o (tM ⟨X.K, cm, fx, X.w⟩ W mo)) (ha : PA X (e :: es) (tMA ⟨X.K, cm, fx, X.w⟩ W args)) (hl : Len args n)
    (hst : starEach (e :: es) X.env = (false, eval e X.env) :: starEach es X.env := by rfl) (hpl : (backTo pos (starEach es X.env)).any (·.1) = false := by rfl)
    (ht : eval (.Call (.Attribute o m apos) (e :: es) [] pos) X.env = (do
      let ov ← eval o X.env
      standAt apos.atName
      let (f, first) ← holding [ov] (getMethod ov m pl)
      callWith pos f first (backTo pos (starEach (e :: es) X.env)) (backToKw pos (keywordEach [] X.env))) := by rfl) :
    PE X (.Call (.Attribute o m apos) (e :: es) [] pos) (tM ⟨X.K, cm, fx, X.w⟩ W (mMeth c m F mo args)) := by
  obtain ⟨f, fd, ps, hm, hc, hb, hps, G⟩ := h.ex
  refine (pe_methSD (E := EW W) ho hc hm G hr hb .nil (fun σ => pass_at tk σ) ha hst hpl ht).imp fun σ H Q q => ?_
  obtain ⟨ε, ρ, L, he, hh, q⟩ := q
  refine ⟨ε, ρ, L, he, hh, Lf.bind q fun x L1 v ρ1 H1 e1 p1 t1 h1 r1 q1 => ?_⟩
  cases hi : isIns c m L1 x with
  | false => rw [hi, if_neg (by decide)] at q1; exact q1.elim
  | true =>
    rw [hi, if_pos rfl] at q1
    obtain ⟨a, dx, fs, e2, e3, e4⟩ := isIns_ok h1 r1 hi
    refine ⟨a, dx, fs, e2, e3, e4, ε, ρ1, L1, he.mono p1 t1, h1, Lf.bind q1 fun ds L2 vs ρ2 H2 e5 p2 t2 h2 r2 q2 => ?_⟩
    rw [List.append_nil]
    exact ⟨by rw [hps, List.length_cons, ← r2.length, hl.h _ _ _ _ e5], fx, ρ2, L2, x :: ds, h2, .cons (r1.mono p2 t2) r2, LfF.of q2⟩
/-- a property: nothing is raised there -/
def mProp (c : Nat) (F : FS) (o : ME) : ME := fun ε L => (o ε L).bind fun x L1 => if isIns c Str.empty L1 x = true then (F [x] L1).nox else .bad
theorem se_prop {cm : Nat → Addr} {fx : Hp} {c : Nat} {f : Str} {k : Nat} {F : FS} {e : Expr} {mo : ME} {pos : Pos} (h : PrI X.prog X.w X.K X.mg X.base cm c f k F) (hr : Room (k + 1) X.A) (ho : PE X e (tM ⟨X.K, cm, fx, X.w⟩ W mo)) (hab : attributeBase e f X.env (eval e X.env) = eval e X.env := by rfl) :
    PE X (.Attribute e f pos) (tM ⟨X.K, cm, fx, X.w⟩ W (mProp c F mo)) := by
  obtain ⟨p, fa, fd, ps, hp, hc, hb, hps, G⟩ := h.ex
  refine (pe_prop (E := E0) ho hc hp G hr hb .nil passLN hab).imp fun σ H Q q => ?_
  obtain ⟨ε, ρ, L, he, hh, q⟩ := q
  refine ⟨ε, ρ, L, he, hh, Lf.bind q fun x L1 v ρ1 H1 e1 p1 t1 h1 r1 q1 => ?_⟩
  cases hi : isIns c Str.empty L1 x with
  | false => rw [hi, if_neg (by decide)] at q1; exact q1.elim
  | true =>
    rw [hi, if_pos rfl] at q1
    obtain ⟨a, dx, fs, e2, e3, e4⟩ := isIns_ok h1 r1 hi
    refine ⟨a, dx, fs, e2, e3, by rw [hps]; rfl, fx, ρ1, L1, [x], h1, .cons (by rw [← e2]; exact r1) .nil, ?_⟩
    cases hF : F [x] L1 with
    | ok d L2 => rw [hF] at q1; exact q1
    | ex c fs L2 => rw [hF] at q1; exact q1.elim
    | bad => rw [hF] at q1; exact q1.elim
def tMakeSD (C : Addr) (sp : Sp) (dvs : List V) (E : L2.St → XK) (t : TA) : TE := fun σ H Q => t σ H fun vs H1 => ∀ x dx, H1 x = none → H1 dx = none → dx ≠ x →
  sp (.ref x :: (vs ++ dvs)) (upd (upd H1 dx (.own x)) x (.ins C dx [])) (fun v H2 => v = .non ∧ Q (.ref x) H2) (E σ)
section
variable {CX : CXT} {k : Nat} {f C : Addr} {fd : FuncData} {ps : List Str} {sp : Sp} {dvs : List V} {ds : List Value} {x m : Str} {p pos apos : Pos} {e o : Expr} {es : List Expr} {ta : TE} {t : TA}
theorem run_makeSD {E : XK} {pins : List (Addr × Obj)} {σ : L2.St} {H : Hp} {s : Shared} {Q : VK} {us : List Value} {vs : List V} (M : Mk X.K C f) (F : FnOk X.prog X.w X.K X.mg X.base CX k f fd ps sp) (hr : Room (k + 1) X.A) (hb : Binds X.K fd ps ds) (hd : Vals dvs ds)
    (hx : PassesAt CX X σ E) (I : Inv X pins σ H s) (r : Vals vs us)
    (h : ∀ x dx, H x = none → H dx = none → dx ≠ x → sp (.ref x :: (vs ++ dvs)) (upd (upd H dx (.own x)) x (.ins C dx [])) (fun v H2 => v = .non ∧ Q (.ref x) H2) E) :
    wpAny (model X.prog X.w) X.A (call (.ref C) us) (EP X pins σ Q) X.xe s := by
  have hq := h (s.heap.objs.size + 1) s.heap.objs.size (I.hok.fresh (Nat.le_succ _)) (I.hok.fresh (Nat.le_refl _)) (Nat.ne_of_lt (Nat.lt_succ_self _))
  have I2 := Inv.made (C := C) I
  have r2 : Vals (V.ref (s.heap.objs.size + 1) :: (vs ++ dvs)) (Value.ref (s.heap.objs.size + 1) :: (us ++ ds)) := .cons rfl (r.append hd)
  have hl : (Value.ref (s.heap.objs.size + 1) :: us ++ ds).length = ps.length := by
    have e := r2.length
    rw [F.len _ _ _ _ hq] at e
    exact e.symm
  refine wpAny_call (make_map (f := f) I.kIn M.makes M.init (beq_iff_eq.mp M.fn) (codeAny_mono (F.run _ X.stack _ _ ⟨Value.ref (s.heap.objs.size + 1) :: us, []⟩ (Value.ref (s.heap.objs.size + 1) :: (us ++ ds)) _ _ E (hr.make C us [])
    (I2.env0.make C us []) (hb _ (Value.ref (s.heap.objs.size + 1) :: us) I2.kIn hl) r2 hq) fun r s' hq' => ?_))
  cases r with
  | error e => exact hx pins _ _ e s' I2 hq'
  | ok fl =>
    cases fl with
    | ret u =>
      obtain ⟨v, H', I3, rv, ev, q3⟩ := I2.after hq'
      subst ev
      exact ⟨rv, ⟨V.ref (s.heap.objs.size + 1), H', I3, rfl, q3⟩⟩
    | next => exact False.elim hq'
    | brk => exact False.elim hq'
    | cont => exact False.elim hq'
theorem pe_makeSD {E : L2.St → XK} (M : Mk X.K C f) (F : FnOk X.prog X.w X.K X.mg X.base CX k f fd ps sp) (hr : Room (k + 1) X.A) (hg : Gl X x) (hm : X.mg x = some (.ref C)) (hb : Binds X.K fd ps ds) (hd : Vals dvs ds) (hx : ∀ σ, PassesAt CX X σ (E σ))
    (ha : PA X (e :: es) t) (hdb : (x == ("__debug__" : Str)) = false := by decide) (he : starEach (e :: es) X.env = (false, eval e X.env) :: starEach es X.env := by rfl) (hpl : (backTo pos (starEach es X.env)).any (·.1) = false := by rfl) :
    PE X (.Call (.Name x p) (e :: es) [] pos) (tMakeSD C sp dvs E t) := by
  refine ⟨fun pins s σ H Q I h => ?_⟩
  refine wpAny_Call_Name_kw (ld_glob I hg hm ?_ hdb)
  refine PySem.W.callWith_K (h₀ := X.base) I.ok.mod.kin M.kp (thn (ha.run pos pins s σ H _ I h) fun us s1 ⟨vs, H1, I1, r, q⟩ => ⟨I1.kIn, ?_⟩) he hpl
  exact run_makeSD M F hr hb hd (hx σ) I1 r q
end
def mMade (c : Nat) (F : FS) (ds : List D) (L : List O) : Rs D := (F (.ref L.length :: ds) (L ++ [.ins c []])).bind fun d L' => match d with
  | .non => .ok (.ref L.length) L'
  | _ => .bad
def mMake (c : Nat) (F : FS) (args : MA) : ME := fun ε L => (args ε L).bind fun ds L1 => mMade c F ds L1
theorem made_sp {n c : Nat} {F : FS} {ds : List D} {vs : List V} {σ : L2.St} {Q : VK} (hh : HR g ρ L H) (r : VRs g ρ H ds vs) (hn : vs.length + 1 = n) (q : LfD g ρ H σ W (mMade c F ds L) Q) {x dx : Addr} (nx : H x = none) (nd : H dx = none) (ne : dx ≠ x) :
    spF g.w g.K g.cm n F (.ref x :: vs) (upd (upd H dx (.own x)) x (.ins (g.cm c) dx [])) (fun v H2 => v = .non ∧ Q (.ref x) H2) (EW W σ) := by
  have nx' : upd H dx (.own x) x = none := by rw [upd_ne (Ne.symm ne)]; exact nx
  have t1 : TP H (upd H dx (.own x)) := TP.new nd
  have t2 := t1.trans (TP.new (o := .ins (g.cm c) dx []) nx')
  have h2 := (hh.fresh nd (.own x)).new nx' (u := .ins (g.cm c) dx []) (o := .ins c []) ⟨dx, [], upd_same, .nil⟩
  have ex : (ρ ++ [x])[L.length]? = some x := by rw [← hh.len]; simp
  refine ⟨by simpa using hn, g.fx, ρ ++ [x], L ++ [.ins c []], .ref L.length :: ds, h2, .cons (.ref ex) (r.mono (pre_snoc _ _) t2), ?_⟩
  unfold mMade at q
  cases hF : F (.ref L.length :: ds) (L ++ [.ins c []]) with
  | ok d L' =>
    rw [hF] at q
    intro v ρ' H' p t h rv
    cases rv with
    | non => exact ⟨rfl, q _ ρ' H' ((pre_snoc _ _).trans p) (t2.trans t) h (.ref (pre_get p ex))⟩
    | _ => exact q.elim
  | ex c' fs L' =>
    rw [hF] at q
    exact fun ρ' H' dx p t h x => q ρ' H' dx ((pre_snoc _ _).trans p) (t2.trans t) h x
  | bad => rw [hF] at q; exact q.elim
theorem se_make {cm : Nat → Addr} {fx : Hp} {x : Str} {c k n : Nat} {F : FS} {e : Expr} {es : List Expr} {args : MA} {p pos : Pos} (h : CI X.prog X.w X.K X.mg X.base cm x c k (n + 1) F) (hr : Room (k + 1) X.A) (tk : Takes X W) (ha : PA X (e :: es) (tMA ⟨X.K, cm, fx, X.w⟩ W args)) (hl : Len args n)
    (hg : Gl X x := by rfl) (hdb : (x == ("__debug__" : Str)) = false := by decide) (he : starEach (e :: es) X.env = (false, eval e X.env) :: starEach es X.env := by rfl) (hpl : (backTo pos (starEach es X.env)).any (·.1) = false := by rfl) :
    PE X (.Call (.Name x p) (e :: es) [] pos) (tM ⟨X.K, cm, fx, X.w⟩ W (mMake c F args)) := by
  obtain ⟨f, fd, ps, hm, M, hb, hps, G⟩ := h.ex
  refine (pe_makeSD (E := EW W) M G hr hg hm hb .nil (fun σ => pass_at tk σ) ha hdb he hpl).imp fun σ H Q q => ?_
  obtain ⟨ε, ρ, L, he, hh, q⟩ := q
  refine ⟨ε, ρ, L, he, hh, Lf.bind q fun ds L1 vs ρ1 H1 e1 p1 t1 h1 r1 q1 => fun x dx nx nd ne => ?_⟩
  rw [List.append_nil]
  exact made_sp h1 r1 (by rw [hps, ← r1.length, hl.h _ _ _ _ e1]) q1 nx nd ne
end Tw
end
section
set_option Elab.async false
set_option linter.all false
set_option maxRecDepth 100000
set_option maxHeartbeats 1000000
namespace Tw
open PySem PySem.Spec L2
variable {g : Gx} {ρ ρ' : List Addr} {H H' : Hp} {X : Cx} {W : WX} {L : List O} {cm : Nat → Addr} {fx : Hp}
abbrev OC := List D → List O → OD
def rC (g : Gx) (oc : OC) : List V → Hp → VK → Prop := fun vs H Q => ∃ ρ L ds, HR g ρ L H ∧ VRs g ρ H ds vs ∧ LfO g ρ H (oc ds L) Q
def mFn (oc : OC) (args : MA) : ME := fun ε L => (args ε L).bind fun ds L1 => ofO (oc ds L1)
theorem tMA_fn {oc : OC} {args : MA} {σ : L2.St} {Q : VK} (q : tM g W (mFn oc args) σ H Q) : tMA g W args σ H fun vs H1 => rC g oc vs H1 Q := by
  obtain ⟨ε, ρ, L, he, hh, q⟩ := q
  exact ⟨ε, ρ, L, he, hh, Lf.bind q fun ds L1 vs ρ1 H1 e1 p1 t1 h1 r1 q1 => ⟨ρ1, L1, ds, h1, r1, LfO.of q1⟩⟩
theorem se_fnB {oc : OC} {x : Str} {id : String} {e : Expr} {es : List Expr} {args : MA} {p pos : Pos} (hc : CallR X (.builtin id) (rC g oc)) (hm : X.mg x = none) (ha : PA X (e :: es) (tMA g W args)) (hv : bootBuiltins x = some (.builtin id) := by decide +kernel) (hg : Gl X x := by rfl) (hn : x ≠ "__name__" := by decide) (hdb : (x == ("__debug__" : Str)) = false := by decide)
    (he : starEach (e :: es) X.env = (false, eval e X.env) :: starEach es X.env := by rfl) (hpl : (backTo pos (starEach es X.env)).any (·.1) = false := by rfl) : PE X (.Call (.Name x p) (e :: es) [] pos) (tM g W (mFn oc args)) :=
  (pe_callB hc hg hm hv ha hn hdb he hpl).imp fun σ H Q q => tMA_fn q
theorem se_fnT {oc : OC} {x : Str} {T : String} {e : Expr} {es : List Expr} {args : MA} {p pos : Pos} (hc : CallR X (.type T) (rC g oc)) (hm : X.mg x = none) (ha : PA X (e :: es) (tMA g W args)) (hv : bootBuiltins x = some (.type T) := by decide +kernel) (hg : Gl X x := by rfl) (hn : x ≠ "__name__" := by decide) (hdb : (x == ("__debug__" : Str)) = false := by decide)
    (he : starEach (e :: es) X.env = (false, eval e X.env) :: starEach es X.env := by rfl) (hpl : (backTo pos (starEach es X.env)).any (·.1) = false := by rfl) : PE X (.Call (.Name x p) (e :: es) [] pos) (tM g W (mFn oc args)) :=
  (pe_callTy hc hg hm hv ha hn hdb he hpl).imp fun σ H Q q => tMA_fn q
def cLen : OC := fun ds L => match ds with
  | [x] => match x with
    | .str y => if y.length ≤ most then some (.int y.length, L) else none
    | .ref n => match L[n]? with
      | some (.dic false ks) => some (.int ks.length, L)
      | some (.lst ds) => some (.int ds.length, L)
      | _ => none
    | .tup ds => some (.int ds.length, L)
    | .rol ds => some (.int ds.length, L)
    | _ => none
  | _ => none
theorem c_len : CallR X (.builtin "len") (rC ⟨X.K, cm, fx, X.w⟩ cLen) := by
  have h := (call_len (X := X)).or call_lenD
  intro pins s σ H xs us Q I r q
  refine h pins s σ H xs us Q I r ?_
  obtain ⟨ρ, L, ds, hh, rr, q⟩ := q
  unfold cLen at q
  split at q
  · obtain ⟨v, rfl, rv⟩ := rr.one
    split at q
    · cases rv
      split at q
      · rename_i hz
        exact .inl ⟨_, _, rfl, ⟨most_le hz, rfl⟩, q.same hh (.int _)⟩
      · exact q.elim
    · cases rv with
      | ref ea =>
        split at q
        · rename_i ks h1
          obtain ⟨vs, b1, b2⟩ := hh.ob _ _ _ h1 ea
          exact .inr ⟨_, _, rfl, b1, by rw [← b2.length]; exact q.same hh (.int _)⟩
        · rename_i ds h1
          obtain ⟨vs, b1, b2⟩ := hh.lst h1 ea
          exact .inl ⟨_, _, rfl, .inl ⟨_, SqL.of b1, rfl⟩, by rw [← b2.length]; exact q.same hh (.int _)⟩
        · exact q.elim
    · cases rv with
      | tup s1 t1 => exact .inl ⟨_, _, rfl, .inr ⟨_, s1.sq, rfl⟩, by rw [← t1.length]; exact q.same hh (.int _)⟩
    · cases rv with
      | rol s1 t1 => exact .inl ⟨_, _, rfl, .inl ⟨_, s1.seq, rfl⟩, by rw [← t1.length]; exact q.same hh (.int _)⟩
    · exact q.elim
  · exact q.elim
def cAbs : OC := fun ds L => match ds with
  | [.int i] => some (.int (if i < 0 then -i else i), L)
  | _ => none
theorem c_abs : CallR X (.builtin "abs") (rC g cAbs) := fun pins s σ H xs us Q I r q => call_abs pins s σ H xs us Q I r (by
  obtain ⟨ρ, L, ds, hh, rr, q⟩ := q
  unfold cAbs at q
  split at q
  · obtain ⟨v, rfl, rv⟩ := rr.one
    cases rv
    exact ⟨_, rfl, q.same hh (.int _)⟩
  · exact q.elim)
def cInt : OC := fun ds L => match ds with
  | [.int i] => some (.int i, L)
  | [.bl b] => some (.int (if b then 1 else 0), L)
  | _ => none
theorem c_int : CallR X (.type "int") (rC g cInt) := fun pins s σ H xs us Q I r q => call_int1 pins s σ H xs us Q I r (by
  obtain ⟨ρ, L, ds, hh, rr, q⟩ := q
  unfold cInt at q
  split at q
  · obtain ⟨v, rfl, rv⟩ := rr.one
    cases rv
    exact .inl ⟨_, rfl, q.same hh (.int _)⟩
  · obtain ⟨v, rfl, rv⟩ := rr.one
    cases rv
    exact .inr ⟨_, rfl, q.same hh (.int _)⟩
  · exact q.elim)
/-- ints of a list of data -/
def intsD : List D → Option (List Int)
  | [] => some []
  | .int i :: ds => (intsD ds).map (i :: ·)
  | _ => none
theorem intsD_ok : ∀ {ds : List D} {vs : List V} {ns : List Int}, VRs g ρ H ds vs → intsD ds = some ns → vs = ns.map V.int ∧ ds = ns.map D.int
  | [], _, _, r, e => by cases r; cases e; exact ⟨rfl, rfl⟩
  | d :: ds, _, ns, r, e => by
    cases r with
    | cons r t =>
      unfold intsD at e
      cases r with
      | int i =>
        simp only at e
        cases h : intsD ds with
        | none => rw [h] at e; cases e
        | some ms =>
          rw [h] at e
          cases e
          obtain ⟨e1, e2⟩ := intsD_ok t h
          exact ⟨by rw [e1]; rfl, by rw [e2]; rfl⟩
      | _ => cases e
def maxI : List Int → Int
  | [] => 0
  | a :: l => l.foldl (fun m x => if x > m then x else m) a
def minI : List Int → Int
  | [] => 0
  | a :: l => l.foldl (fun m x => if x < m then x else m) a
theorem foldmax (l : List Int) : ∀ a, (∀ y ∈ a :: l, y ≤ l.foldl (fun m x => if x > m then x else m) a) ∧ l.foldl (fun m x => if x > m then x else m) a ∈ a :: l := by
  induction l with
  | nil => intro a; simp
  | cons b l ih =>
    intro a
    simp only [List.foldl_cons]
    obtain ⟨h1, h2⟩ := ih (if b > a then b else a)
    have hb := h1 _ List.mem_cons_self
    generalize List.foldl (fun m x => if x > m then x else m) (if b > a then b else a) l = F at h1 h2 hb ⊢
    refine ⟨fun y hy => ?_, ?_⟩
    · rcases List.mem_cons.mp hy with rfl | hy
      · split at hb <;> omega
      · rcases List.mem_cons.mp hy with rfl | hy
        · split at hb <;> omega
        · exact h1 y (List.mem_cons_of_mem _ hy)
    · rcases List.mem_cons.mp h2 with e | h2
      · rw [e]
        split <;> simp
      · exact List.mem_cons_of_mem _ (List.mem_cons_of_mem _ h2)
theorem foldmin (l : List Int) : ∀ a, (∀ y ∈ a :: l, l.foldl (fun m x => if x < m then x else m) a ≤ y) ∧ l.foldl (fun m x => if x < m then x else m) a ∈ a :: l := by
  induction l with
  | nil => intro a; simp
  | cons b l ih =>
    intro a
    simp only [List.foldl_cons]
    obtain ⟨h1, h2⟩ := ih (if b < a then b else a)
    have hb := h1 _ List.mem_cons_self
    generalize List.foldl (fun m x => if x < m then x else m) (if b < a then b else a) l = F at h1 h2 hb ⊢
    refine ⟨fun y hy => ?_, ?_⟩
    · rcases List.mem_cons.mp hy with rfl | hy
      · split at hb <;> omega
      · rcases List.mem_cons.mp hy with rfl | hy
        · split at hb <;> omega
        · exact h1 y (List.mem_cons_of_mem _ hy)
    · rcases List.mem_cons.mp h2 with e | h2
      · rw [e]
        split <;> simp
      · exact List.mem_cons_of_mem _ (List.mem_cons_of_mem _ h2)
def cMax : OC := fun ds L => match ds with
  | [.int i, .int j] => some (.int (if j > i then j else i), L)
  | [x] => match seqD L x with
    | some ds => match x with
      | .tup _ => none
      | _ => match intsD ds with
        | some (a :: l) => some (.int (maxI (a :: l)), L)
        | _ => none
    | none => none
  | _ => none
def cMin : OC := fun ds L => match ds with
  | [.int i, .int j] => some (.int (if j < i then j else i), L)
  | [x] => match seqD L x with
    | some ds => match x with
      | .tup _ => none
      | _ => match intsD ds with
        | some (a :: l) => some (.int (minI (a :: l)), L)
        | _ => none
    | none => none
  | _ => none
theorem seqL_ok {x : D} {v : V} {ds : List D} (hh : HR g ρ L H) (r : VR g ρ H x v) (e : seqD L x = some ds) (hx : ∀ l, x ≠ .tup l) : ∃ a vs, v = .ref a ∧ VRs g ρ H ds vs ∧ SqL g.K H a vs := by
  unfold seqD at e
  split at e
  · exact (hx _ rfl).elim
  · cases e
    cases r with
    | rol s t => exact ⟨_, _, rfl, t, s.seq⟩
  · cases r with
    | ref ea =>
      split at e
      · rename_i h1
        cases e
        obtain ⟨vs, b1, b2⟩ := hh.lst h1 ea
        exact ⟨_, vs, rfl, b2, SqL.of b1⟩
      · cases e
  · cases e
theorem c_max (hc : X.calm = true) : CallR X (.builtin "max") (rC ⟨X.K, cm, fx, X.w⟩ cMax) := by
  have h := (call_max2 (X := X) hc).or (cr_max hc)
  intro pins s σ H xs us Q I r q
  refine h pins s σ H xs us Q I r ?_
  obtain ⟨ρ, L, ds, hh, rr, q⟩ := q
  unfold cMax at q
  split at q
  · obtain ⟨v, u, rfl, r1, r2⟩ := rr.two
    cases r1; cases r2
    exact .inl ⟨_, _, rfl, q.same hh (.int _)⟩
  · obtain ⟨v, rfl, rv⟩ := rr.one
    split at q
    · rename_i ds hs
      split at q
      · exact q.elim
      · rename_i hx
        split at q
        · rename_i a l hi
          obtain ⟨b, vs, rfl, t, sq⟩ := seqL_ok hh rv hs (fun l e => hx l e)
          obtain ⟨e1, _⟩ := intsD_ok t hi
          subst e1
          refine .inr ⟨b, a :: l, rfl, sq, by simp, fun m hm hmax => ?_⟩
          obtain ⟨f1, f2⟩ := foldmax l a
          have : m = maxI (a :: l) := by
            have h1 := hmax _ f2
            have h2 := f1 m hm
            show m = l.foldl _ a
            omega
          rw [this]
          exact q.same hh (.int _)
        · exact q.elim
    · exact q.elim
  · exact q.elim
theorem c_min (hc : X.calm = true) : CallR X (.builtin "min") (rC ⟨X.K, cm, fx, X.w⟩ cMin) := by
  have h := (call_min2 (X := X) hc).or (cr_min hc)
  intro pins s σ H xs us Q I r q
  refine h pins s σ H xs us Q I r ?_
  obtain ⟨ρ, L, ds, hh, rr, q⟩ := q
  unfold cMin at q
  split at q
  · obtain ⟨v, u, rfl, r1, r2⟩ := rr.two
    cases r1; cases r2
    exact .inl ⟨_, _, rfl, q.same hh (.int _)⟩
  · obtain ⟨v, rfl, rv⟩ := rr.one
    split at q
    · rename_i ds hs
      split at q
      · exact q.elim
      · rename_i hx
        split at q
        · rename_i a l hi
          obtain ⟨b, vs, rfl, t, sq⟩ := seqL_ok hh rv hs (fun l e => hx l e)
          obtain ⟨e1, _⟩ := intsD_ok t hi
          subst e1
          refine .inr ⟨b, a :: l, rfl, sq, by simp, fun m hm hmin => ?_⟩
          obtain ⟨f1, f2⟩ := foldmin l a
          have : m = minI (a :: l) := by
            have h1 := hmin _ f2
            have h2 := f1 m hm
            show m = l.foldl _ a
            omega
          rw [this]
          exact q.same hh (.int _)
        · exact q.elim
    · exact q.elim
  · exact q.elim
def blsD : List D → Option (List Bool)
  | [] => some []
  | .bl i :: ds => (blsD ds).map (i :: ·)
  | _ => none
theorem blsD_ok : ∀ {ds : List D} {vs : List V} {ns : List Bool}, VRs g ρ H ds vs → blsD ds = some ns → vs = ns.map V.bl
  | [], _, _, r, e => by cases r; cases e; rfl
  | d :: ds, _, ns, r, e => by
    cases r with
    | cons r t =>
      unfold blsD at e
      cases r with
      | bl i =>
        simp only at e
        cases h : blsD ds with
        | none => rw [h] at e; cases e
        | some ms =>
          rw [h] at e
          cases e
          rw [blsD_ok t h]
          rfl
      | _ => cases e
def cAll : OC := fun ds L => match ds with
  | [.ref n] => match L[n]? with
    | some (.lst ds) => (blsD ds).map fun bs => (.bl (bs.all id), L)
    | _ => none
  | _ => none
theorem c_all (hc : X.calm = true) : CallR X (.builtin "all") (rC ⟨X.K, cm, fx, X.w⟩ cAll) := fun pins s σ H xs us Q I r q => cr_all hc pins s σ H xs us Q I r (by
  obtain ⟨ρ, L, ds, hh, rr, q⟩ := q
  unfold cAll at q
  split at q
  · obtain ⟨v, rfl, rv⟩ := rr.one
    cases rv with
    | ref ea =>
      split at q
      · rename_i ds h1
        obtain ⟨vs, b1, b2⟩ := hh.lst h1 ea
        cases hb : blsD ds with
        | none => rw [hb] at q; exact q.elim
        | some bs =>
          rw [hb] at q
          refine ⟨_, bs, rfl, ?_, LfO.same q hh (.bl _)⟩
          rw [← blsD_ok b2 hb]
          exact SqL.of b1
      · exact q.elim
  · exact q.elim)
def cTuple : OC := fun ds L => match ds with
  | [x] => (seqD L x).map fun ds => (.tup ds, L)
  | _ => none
theorem c_tuple : CallR X (.type "tuple") (rC ⟨X.K, cm, fx, X.w⟩ cTuple) := fun pins s σ H xs us Q I r q => call_tuple_of pins s σ H xs us Q I r (by
  obtain ⟨ρ, L, ds, hh, rr, q⟩ := q
  unfold cTuple at q
  split at q
  · obtain ⟨v, rfl, rv⟩ := rr.one
    cases hs : seqD L _ with
    | none => rw [hs] at q; exact q.elim
    | some ds =>
      rw [hs] at q
      obtain ⟨a, vs, rfl, t, sq⟩ := seqD_ok hh rv hs
      rcases sq with sq | sq
      · exact ⟨a, vs, rfl, .inr ⟨sq.sq, LfO.same q hh (.tup sq t)⟩⟩
      · exact ⟨a, vs, rfl, .inl ⟨sq, fun p hp => LfO.newT q hh t hp⟩⟩
  · exact q.elim)
/-- list(range(n)), list(range(a, b)) -/
def mListRg1 (a : ME) : ME := fun ε L => (a ε L).bind fun x L1 => match x with
  | .int n => if -1000000 ≤ n ∧ n ≤ 1000000 then .ok (.ref L1.length) (L1 ++ [.lst (rngD 0 n.toNat)]) else .bad
  | _ => .bad
theorem rng_vals (a b : Int) : VRs g ρ H (rngD a (b - a).toNat) (rgV a b) := by
  unfold rngD rgV
  generalize List.range (b - a).toNat = l
  induction l with
  | nil => exact .nil
  | cons k l ih => exact .cons (.int _) ih
theorem se_listRg1 {e : Expr} {a : ME} {p p2 pos pos2 : Pos} (hc : X.calm = true) (hm : X.mg "list" = none) (hmr : X.mg "range" = none) (ha : PE X e (tM g W a)) (hg : Gl X "list" := by rfl) (hgr : Gl X "range" := by rfl) (na : starEach [e] X.env = (false, eval e X.env) :: starEach [] X.env := by rfl)
    (na2 : starEach [.Call (.Name "range" p) [e] [] pos] X.env = (false, eval (.Call (.Name "range" p) [e] [] pos) X.env) :: starEach [] X.env := by rfl) : PE X (.Call (.Name "list" p2) [.Call (.Name "range" p) [e] [] pos] [] pos2) (tM g W (mListRg1 a)) :=
  (pe_listRg hc hg hm (prg_1 hgr hmr ha na) na2).imp fun σ H Q q => by
    obtain ⟨ε, ρ, L, he, hh, q⟩ := q
    refine ⟨ε, ρ, L, he, hh, Lf.bind q fun x L1 v ρ1 H1 e1 p1 t1 h1 r1 q1 => ?_⟩
    cases r1 with
    | int n =>
      simp only at q1
      split at q1
      · rename_i hz
        refine ⟨n, rfl, ⟨by omega, by omega, by omega, by omega, by omega⟩, fun p hp => LfO.newL q1 h1 ?_ hp⟩
        have := rng_vals (g := g) (ρ := ρ1) (H := H1) 0 n
        rwa [Int.sub_zero] at this
      · exact q1.elim
    | _ => exact q1.elim
inductive Tag | non | bl | int | str | tup | lst | dic | ins (c : Nat)
  deriving DecidableEq
def tagD (L : List O) : D → Option Tag
  | .non => some .non
  | .bl _ => some .bl
  | .int _ => some .int
  | .str _ => some .str
  | .tup _ => some .tup
  | .rol _ => some .lst
  | .ref n => match L[n]? with
    | some (.lst _) => some .lst
    | some (.dic false _) => some .dic
    | some (.ins c _) => some (.ins c)
    | _ => none
  | .cls _ => none
  | .ty _ => none
def tagV (cm : Nat → Addr) : Tag → Value
  | .non => .type "NoneType" | .bl => .type "bool" | .int => .type "int" | .str => .type "str" | .tup => .type "tuple" | .lst => .type "list" | .dic => .type "dict" | .ins c => .ref (cm c)
/-- what is asked of an own class whose instances are looked at -/
structure InsTy (K : PySem.W.Frag) (C : Addr) : Prop where
  cl : Cls K C
  ha : PySem.W.findIn K (.ref C) "__class__" = some (some (.builtin "object.__class__"))
  hn : PySem.W.specialIn K (.builtin "object.__class__") "__get__" = some (some (.builtin "getset_descriptor.__get__"))
  htk : PySem.W.takesIn K (.builtin "object.__class__") = some true
  hm : PySem.W.mroIn K C (.type "object") = some true
theorem tag_ok {x : D} {v : V} {t : Tag} (hh : HR g ρ L H) (r : VR g ρ H x v) (e : tagD L x = some t) (hi : ∀ c, t = .ins c → InsTy g.K (g.cm c)) : TyX g.K H v (tagV g.cm t) := by
  unfold tagD at e
  cases r with
  | non => cases e; exact .base .non
  | bl b => cases e; exact .base (.bl b)
  | int i => cases e; exact .base (.int i)
  | str y => cases e; exact .base (.str y)
  | cls c => cases e
  | ty c => cases e
  | tup s t =>
    cases e
    rcases s with s | ((s | ⟨o, s⟩) | ⟨o, its, n, h1, h2, _⟩)
    · exact .base (.tup s)
    · cases s
    · cases s
    · exact .kTuple h1 h2
  | rol s t =>
    cases e
    rcases s with ⟨o, s⟩ | s
    · exact .base (.frz s)
    · rcases s with (h | ⟨_, h⟩) | ⟨o, its, n, h1, h2, _⟩
      · cases h
      · cases h
      · exact .kList h1 h2
  | ref ea =>
    simp only at e
    split at e
    · rename_i ds h1
      cases e
      obtain ⟨vs, b1, b2⟩ := hh.lst h1 ea
      exact .base (.lst b1)
    · rename_i ks h1
      cases e
      obtain ⟨vs, b1, b2⟩ := hh.ob _ _ _ h1 ea
      exact .base (.dK b1)
    · rename_i c fs h1
      cases e
      obtain ⟨dx, vs, b1, b2⟩ := hh.ins h1 ea
      obtain ⟨cl, ha, hn, htk, hm⟩ := hi c rfl
      exact .base (.ins b1 cl ha hn htk hm)
    · cases e
end Tw
end
section
set_option Elab.async false
set_option linter.all false
set_option maxRecDepth 100000
set_option maxHeartbeats 1000000
namespace Tw
open PySem PySem.Spec L2
variable {g : Gx} {ρ ρ' : List Addr} {H H' : Hp} {X : Cx} {W : WX} {L : List O} {cm : Nat → Addr} {fx : Hp}
def tagN : Tag → String
  | .non => "NoneType" | .bl => "bool" | .int => "int" | .str => "str" | .tup => "tuple" | .lst => "list" | .dic => "dict" | .ins _ => ""
def isiT (T : Tag) (cs : List Nat) : Tag → Option Bool
  | .ins c => if c ∈ cs then some false else none
  | t => some (decide (t = T) || (decide (t = .bl) && decide (T = .int)))
theorem kit_tab (T t : Tag) (hT : ∀ c, T ≠ .ins c) (hn : T ≠ .non) (ht : ∀ c, t ≠ .ins c) : kitB (tagN t) (tagN T) = some (decide (t = T) || (decide (t = .bl) && decide (T = .int))) := by
  cases T <;> first | exact (hT _ rfl).elim | exact (hn rfl).elim | skip
  all_goals (cases t <;> first | exact (ht _ rfl).elim | decide +kernel)
def mIsi (f : Tag → Option Bool) (a : ME) : ME := fun ε L => (a ε L).bind fun x L1 => match (tagD L1 x).bind f with
  | some b => .ok (.bl b) L1
  | none => .bad
theorem se_isi {f : Tag → Option Bool} {e eT : Expr} {a : ME} {c : V} {u : Value} {p pos : Pos} (hm : X.mg "isinstance" = none) (ha : PE X e (tM ⟨X.K, cm, fx, X.w⟩ W a)) (hT : PE X eT (tC c)) (hc : ClsV c u)
    (hf : ∀ t b, f t = some b → PySem.W.kitOne X.K (tagV cm t) u = some b) (hi : ∀ c b, f (.ins c) = some b → InsTy X.K (cm c)) (hg : Gl X "isinstance" := by rfl)
    (he : starEach [e, eT] X.env = (false, eval e X.env) :: starEach [eT] X.env := by rfl) (he2 : starEach [eT] X.env = (false, eval eT X.env) :: starEach [] X.env := by rfl) (hpl : (backTo pos (starEach [eT] X.env)).any (·.1) = false := by rfl) :
    PE X (.Call (.Name "isinstance" p) [e, eT] [] pos) (tM ⟨X.K, cm, fx, X.w⟩ W (mIsi f a)) :=
  (pe_callB call_isi hg hm (by decide +kernel) (pa_cons ha (pa_cons hT pa_nil he2) he) (by decide) (by decide) he hpl).imp fun σ H Q q => by
    obtain ⟨ε, ρ, L, he, hh, q⟩ := q
    refine ⟨ε, ρ, L, he, hh, Lf.bind q fun x L1 v ρ1 H1 e1 p1 t1 h1 r1 q1 => ?_⟩
    cases ht : tagD L1 x with
    | none => rw [ht] at q1; exact q1.elim
    | some t =>
      rw [ht] at q1
      simp only [Option.bind_some] at q1
      cases hb : f t with
      | none => rw [hb] at q1; exact q1.elim
      | some b =>
        rw [hb] at q1
        refine ⟨v, c, tagV cm t, u, b, rfl, hc, tag_ok h1 r1 ht (fun c e => hi c b (by rw [← e]; exact hb)), hf t b hb, ?_⟩
        exact q1 (.bl b) ρ1 H1 (List.prefix_refl _) (TP.refl H1) h1 (.bl b)
/-- isinstance(x, T), T a built-in type -/
theorem se_isiB {cm : Nat → Addr} {fx : Hp} (T : Tag) (cs : List Nat) {e : Expr} {a : ME} {x : Str} {p p2 pos : Pos} (hm : X.mg "isinstance" = none) (hmT : X.mg x = none) (ha : PE X e (tM ⟨X.K, cm, fx, X.w⟩ W a))
    (hcs : ∀ c ∈ cs, InsTy X.K (cm c) ∧ PySem.W.kitOne X.K (.ref (cm c)) (.type (tagN T)) = some false) (hT : ∀ c, T ≠ .ins c) (hn : T ≠ .non)
    (hv : bootBuiltins x = some (.type (tagN T)) := by decide +kernel) (hgT : Gl X x := by rfl) (hnx : x ≠ "__name__" := by decide) (hdb : (x == ("__debug__" : Str)) = false := by decide) (hg : Gl X "isinstance" := by rfl)
    (he : starEach [e, .Name x p2] X.env = (false, eval e X.env) :: starEach [.Name x p2] X.env := by rfl) (he2 : starEach [.Name x p2] X.env = (false, eval (.Name x p2) X.env) :: starEach [] X.env := by rfl) (hpl : (backTo pos (starEach [.Name x p2] X.env)).any (·.1) = false := by rfl) :
    PE X (.Call (.Name "isinstance" p) [e, .Name x p2] [] pos) (tM ⟨X.K, cm, fx, X.w⟩ W (mIsi (isiT T cs) a)) :=
  se_isi (cm := cm) hm ha (pe_bltn hgT hmT hv (v := .ty (tagN T)) rfl hnx hdb) (.ty _) (fun t b hb => by
    cases t with
    | ins c =>
      simp only [isiT] at hb
      split at hb
      · rename_i hc
        cases hb
        exact (hcs c hc).2
      · cases hb
    | non => cases hb; exact kit_ty (kit_tab T .non hT hn (by intro c h; cases h))
    | bl => cases hb; exact kit_ty (kit_tab T .bl hT hn (by intro c h; cases h))
    | int => cases hb; exact kit_ty (kit_tab T .int hT hn (by intro c h; cases h))
    | str => cases hb; exact kit_ty (kit_tab T .str hT hn (by intro c h; cases h))
    | tup => cases hb; exact kit_ty (kit_tab T .tup hT hn (by intro c h; cases h))
    | lst => cases hb; exact kit_ty (kit_tab T .lst hT hn (by intro c h; cases h))
    | dic => cases hb; exact kit_ty (kit_tab T .dic hT hn (by intro c h; cases h))) (fun c b hb => by
    simp only [isiT] at hb
    split at hb
    · rename_i hc
      exact (hcs c hc).1
    · cases hb) hg he he2 hpl
abbrev OM := D → List D → List O → OD
def rMt (g : Gx) (om : OM) : V → List V → Hp → VK → Prop := fun x vs H Q => ∃ ρ L d ds, HR g ρ L H ∧ VR g ρ H d x ∧ VRs g ρ H ds vs ∧ LfO g ρ H (om d ds L) Q
def isLst (L : List O) : D → Bool
  | .ref n => match L[n]? with
    | some (.lst _) => true
    | _ => false
  | .rol _ => true
  | _ => false
theorem isLst_ok {x : D} {v : V} (hh : HR g ρ L H) (r : VR g ρ H x v) (e : isLst L x = true) : tyV g.K "list" v H := by
  cases r with
  | ref ea =>
    simp only [isLst] at e
    split at e
    · rename_i h1
      obtain ⟨vs, b1, b2⟩ := hh.lst h1 ea
      exact .inl ⟨rfl, _, SqL.of b1⟩
    · cases e
  | rol s t => exact .inl ⟨rfl, _, s.seq⟩
  | _ => cases e
def mBmL (om : OM) (o : ME) (args : MA) : ME := fun ε L => (o ε L).bind fun x L1 => if isLst L1 x = true then (args ε L1).bind fun ds L2 => ofO (om x ds L2) else .bad
theorem se_bmL {om : OM} {id : String} {name : Str} {o e : Expr} {es : List Expr} {mo : ME} {args : MA} {apos cpos : Pos} (slot : Slot "list" name id) (hty : typeOf (.builtin id) = pure (.type "method_descriptor")) (hm : MtR X id (rMt ⟨X.K, cm, fx, X.w⟩ om))
    (ho : PE X o (tM ⟨X.K, cm, fx, X.w⟩ W mo)) (ha : PA X (e :: es) (tMA ⟨X.K, cm, fx, X.w⟩ W args)) (hbase : attributeBase o name X.env (eval o X.env) = eval o X.env := by rfl)
    (hfew : ((backTo cpos (starEach (e :: es) X.env)).all (fun x => !x.1) && (backToKw cpos (keywordEach [] X.env)).all (fun x => x.1.isSome)
      && decide ((e :: es).length + ([] : List Keyword).length + (if ([] : List Keyword).isEmpty then 0 else 1) < 30)) = true := by rfl)
    (hline : (apos.endLine == cpos.line) = true := by rfl) (hs : starEach (e :: es) X.env = (false, eval e X.env) :: starEach es X.env := by rfl) (hplain : (backTo cpos (starEach es X.env)).any (·.1) = false := by rfl) :
    PE X (.Call (.Attribute o name apos) (e :: es) [] cpos) (tM ⟨X.K, cm, fx, X.w⟩ W (mBmL om mo args)) :=
  (pe_bm PySem.F.plainAttrs_list slot hty hm ho ha hbase hfew hline hs hplain).imp fun σ H Q q => by
    obtain ⟨ε, ρ, L, he, hh, q⟩ := q
    refine ⟨ε, ρ, L, he, hh, Lf.bind q fun x L1 v ρ1 H1 e1 p1 t1 h1 r1 q1 => ?_⟩
    cases hi : isLst L1 x with
    | false => rw [hi, if_neg (by decide)] at q1; exact q1.elim
    | true =>
      rw [hi, if_pos rfl] at q1
      refine ⟨isLst_ok h1 r1 hi, ε, ρ1, L1, he.mono p1 t1, h1, Lf.bind q1 fun ds L2 vs ρ2 H2 e2 p2 t2 h2 r2 q2 => ?_⟩
      exact ⟨ρ2, L2, x, ds, h2, r1.mono p2 t2, r2, LfO.of q2⟩
/-- a list is changed -/
theorem LfO.setL {d : D} {v : V} {n : Nat} {a : Addr} {ds es : List D} {us vs : List V} {Q : VK} (h : LfO g ρ H (some (d, L.set n (.lst es))) Q) (hh : HR g ρ L H) (ea : ρ[n]? = some a) (e : H a = some (.lst us)) (r : VRs g ρ H es vs) (rv : VR g ρ H d v) : Q v (upd H a (.lst vs)) := by
  have t : TP H (upd H a (.lst vs)) := TP.mut e rfl
  exact h v ρ _ (List.prefix_refl _) t (hh.set ea e rfl ⟨vs, upd_same, r.mono (List.prefix_refl _) t⟩) (rv.mono (List.prefix_refl _) t)
def oAppend : OM := fun x ds L => match x, ds with
  | .ref n, [y] => match L[n]? with
    | some (.lst xs) => if xs.length < most then some (.non, L.set n (.lst (xs ++ [y]))) else none
    | _ => none
  | _, _ => none
theorem mt_oAppend : MtR X "list.append" (rMt ⟨X.K, cm, fx, X.w⟩ oAppend) := fun pins s σ H x xs v us Q I rx r q => mt_append pins s σ H x xs v us Q I rx r (by
  obtain ⟨ρ, L, d, ds, hh, rd, rr, q⟩ := q
  unfold oAppend at q
  split at q
  · obtain ⟨yv, rfl, ry⟩ := rr.one
    cases rd with
    | ref ea =>
      split at q
      · rename_i zs h1
        obtain ⟨vs, b1, b2⟩ := hh.lst h1 ea
        split at q
        · rename_i hz
          exact ⟨_, vs, yv, rfl, rfl, b1, Nat.lt_of_lt_of_le (by rw [← b2.length]; exact hz) (most_le (Nat.le_refl _)), q.setL (ds := []) hh ea b1 (b2.append (.cons ry .nil)) .non⟩
        · exact q.elim
      · exact q.elim
  · exact q.elim)
theorem VRs.eraseIdx : ∀ {ds : List D} {vs : List V} (k : Nat), VRs g ρ H ds vs → VRs g ρ H (ds.eraseIdx k) (vs.eraseIdx k)
  | _, _, _, .nil => by simp; exact .nil
  | _, _, 0, .cons r t => by simpa using t
  | _, _, k + 1, .cons r t => by simp only [List.eraseIdx_cons_succ]; exact .cons r (VRs.eraseIdx k t)
theorem VRs.dropLast {ds : List D} {vs : List V} (r : VRs g ρ H ds vs) : VRs g ρ H ds.dropLast vs.dropLast := by
  rw [List.dropLast_eq_take, List.dropLast_eq_take, r.length]
  exact r.take _
def oPop : OM := fun x ds L => match x, ds with
  | .ref n, [] => match L[n]? with
    | some (.lst xs) => match xs[xs.length - 1]? with
      | some y => some (y, L.set n (.lst xs.dropLast))
      | none => none
    | _ => none
  | .ref n, [.int i] => match L[n]? with
    | some (.lst xs) => if -1000000 ≤ i ∧ i ≤ 1000000 then (match seqIndex? i xs.length with
      | some k => match xs[k]? with
        | some y => some (y, L.set n (.lst (xs.eraseIdx k)))
        | none => none
      | none => none) else none
    | _ => none
  | _, _ => none
theorem mt_oPop : MtR X "list.pop" (rMt ⟨X.K, cm, fx, X.w⟩ oPop) := by
  have h := MtR.or (X := X) (show MtR X "list.pop" rPop from mt_pop) (show MtR X "list.pop" rPopAt from mt_popAt)
  intro pins s σ H x xs v us Q I rx r q
  refine h pins s σ H x xs v us Q I rx r ?_
  obtain ⟨ρ, L, d, ds, hh, rd, rr, q⟩ := q
  unfold oPop at q
  split at q
  · cases rr
    cases rd with
    | ref ea =>
      split at q
      · rename_i zs h1
        obtain ⟨vs, b1, b2⟩ := hh.lst h1 ea
        split at q
        · rename_i y hy
          obtain ⟨yv, ey, ry⟩ := b2.get hy
          exact .inl ⟨_, vs, yv, rfl, rfl, b1, by rw [← b2.length]; exact ey, q.setL (ds := []) hh ea b1 b2.dropLast ry⟩
        · exact q.elim
      · exact q.elim
  · obtain ⟨yv, rfl, ry⟩ := rr.one
    cases ry
    cases rd with
    | ref ea =>
      split at q
      · rename_i zs h1
        obtain ⟨vs, b1, b2⟩ := hh.lst h1 ea
        split at q
        · rename_i hz
          split at q
          · rename_i k hk
            split at q
            · rename_i y hy
              obtain ⟨yv, ey, ry⟩ := b2.get hy
              exact .inr ⟨_, vs, _, k, yv, rfl, rfl, b1, by omega, by omega, by rw [← b2.length]; exact hk, ey, q.setL (ds := []) hh ea b1 (b2.eraseIdx k) ry⟩
            · exact q.elim
          · exact q.elim
        · exact q.elim
      · exact q.elim
  · exact q.elim
/-- xs.index(y), plain things -/
def findF (y : D) : List D → Option Nat
  | [] => none
  | z :: zs => if eqF z y = true then some 0 else (findF y zs).map (· + 1)
def oIndex : OM := fun x ds L => match ds with
  | [y] => match seqD L x with
    | some zs => match x with
      | .tup _ => none
      | _ => if flatD y = true ∧ zs.all flatD = true then (findF y zs).map fun j => (.int j, L) else none
    | none => none
  | _ => none
theorem findF_ok {y : D} : ∀ {zs : List D} {j : Nat}, findF y zs = some j → (∃ z, zs[j]? = some z ∧ eqF z y = true) ∧ ∀ m z, m < j → zs[m]? = some z → eqF z y = false
  | [], j, e => by cases e
  | z :: zs, j, e => by
    unfold findF at e
    by_cases h : eqF z y = true
    · rw [if_pos h] at e
      cases e
      exact ⟨⟨z, rfl, h⟩, fun m z hm => absurd hm (Nat.not_lt_zero _)⟩
    · rw [if_neg h] at e
      cases hf : findF y zs with
      | none => rw [hf] at e; cases e
      | some i =>
        rw [hf] at e
        cases e
        obtain ⟨h1, h2⟩ := findF_ok hf
        refine ⟨by simpa using h1, fun m w hm hw => ?_⟩
        cases m with
        | zero => simp at hw; subst hw; simpa using h
        | succ m => exact h2 m w (Nat.lt_of_succ_lt_succ hm) (by simpa using hw)
theorem mt_oIndex : MtR X "list.index" (rMt ⟨X.K, cm, fx, X.w⟩ oIndex) := fun pins s σ H x xs v us Q I rx r q => mt_index pins s σ H x xs v us Q I rx r (by
  obtain ⟨ρ, L, d, ds, hh, rd, rr, q⟩ := q
  unfold oIndex at q
  split at q
  · obtain ⟨yv, rfl, ry⟩ := rr.one
    split at q
    · rename_i zs hs
      split at q
      · exact q.elim
      · rename_i hx
        split at q
        · rename_i hz
          obtain ⟨b, vs, rfl, t, sq⟩ := seqL_ok hh rd hs (fun l e => hx l e)
          cases hf : findF _ zs with
          | none => rw [hf] at q; exact q.elim
          | some j =>
            rw [hf] at q
            obtain ⟨⟨z, h1, h2⟩, h3⟩ := findF_ok hf
            obtain ⟨zv, ez, rz⟩ := t.get h1
            refine ⟨b, vs, yv, j, zv, rfl, rfl, sq, by rw [flatD_ok ry]; exact hz.1, by rw [flatDs_ok t]; exact hz.2, ez, by rw [eqF_ok rz ry]; exact h2, fun m z' hm e' => ?_, LfO.same q hh (.int _)⟩
            obtain ⟨w', ew, rw'⟩ := t.getV e'
            rw [eqF_ok rw' ry]
            exact h3 m w' hm ew
        · exact q.elim
    · exact q.elim
  · exact q.elim)
end Tw
end
section
set_option Elab.async false
set_option linter.all false
set_option maxRecDepth 100000
set_option maxHeartbeats 1000000
namespace Tw
open PySem PySem.Spec L2
variable {g : Gx} {ρ ρ' : List Addr} {H H' : Hp} {X : Cx} {W : WX} {L : List O} {cm : Nat → Addr} {fx : Hp}
theorem u65 {k : Nat} {A : Around} (hr : Room k A) : A.units + 65 < cLine := by have := hr.un; omega
theorem u64 {k : Nat} {A : Around} (hr : Room k A) : A.units + 64 < cLine := by have := hr.un; omega
structure GC (K : PySem.W.Frag) (mg : Str → Option Value) (cm : Nat → Addr) (x : Str) (d : D) : Prop where
  ex : ∃ u v, mg x = some u ∧ RelV v u ∧ ∀ {w : World} fx ρ H, VR ⟨K, cm, fx, w⟩ ρ H d v
theorem se_g {x : Str} {d : D} {pos : Pos} (h : GC X.K X.mg cm x d) (hg : Gl X x := by rfl) (hd : (x == ("__debug__" : Str)) = false := by decide) : PE X (.Name x pos) (tM ⟨X.K, cm, fx, X.w⟩ W (mC d)) := by
  obtain ⟨u, v, hm, r, hv⟩ := h.ex
  exact se_c (pe_glob hg hm r hd) (hv fx)
end Tw
end
section
set_option Elab.async false
set_option linter.all false
set_option maxRecDepth 100000
set_option maxHeartbeats 1000000
namespace Tw
open PySem PySem.Spec L2
variable {g : Gx} {ρ ρ' : List Addr} {H H' : Hp} {X : Cx} {W : WX} {L : List O} {cm : Nat → Addr} {fx : Hp}
/-- enumerate(t, k₀) of a tuple -/
def IteT (K : PySem.W.Frag) (a : Addr) (k₀ : Int) : It :=
  ⟨fun i H => ∃ (xs : List V) (x : V), SqT K H a xs ∧ xs[i]? = some x, fun i H v H' => ∃ T x, v = .ref T ∧ H T = none ∧ H' = upd H T (.tup [.int (k₀ + (i : Nat)), x]) ∧ ∀ xs, SqT K H a xs → xs[i]? = some x, fun i H => ∃ xs : List V, SqT K H a xs ∧ xs.length = i⟩
theorem turn_enumT {P : Program} {w : World} {K : PySem.W.Frag} {elts : List Expr} {kk : Nat} {tpos : Pos} (a e it : Addr) (k₀ : Int) :
    Turn P w K (.Tuple elts kk tpos) (IteT K a k₀) [e, it] e (fun i h => (∃ old, IsEnum h e it (k₀ + ((i : Nat) : Int)) old) ∧ h.IsTupleIter it a i ∧ e ≠ it ∧ a ≠ it ∧ a ≠ e) where
  mem := by simp
  obj := fun i h st b hb => by
    obtain ⟨⟨old, he⟩, ⟨o, ho, hc, hd⟩, _⟩ := st
    have e' : b = e ∨ b = it := by simpa using hb
    rcases e' with z | z
    · rw [z]; exact ⟨_, he, fun v q => nomatch q⟩
    · rw [z]; exact ⟨o, ho, fun v q => by rw [hd] at q; cases q⟩
  keep := fun i h h' st k => let ⟨⟨old, he⟩, hi, hne⟩ := st; ⟨⟨old, k e (by simp) _ he⟩, hi.at fun o q => k it (by simp) o q, hne⟩
  item := by
    intro X hP hw hK hc i pins s σ H E I hf st hg
    subst hP hw hK
    obtain ⟨⟨old, he⟩, hit, hne, hai, hae⟩ := st
    obtain ⟨xs, x, hq, hx⟩ := hg
    obtain ⟨its, rv, p, hz⟩ := I.tuple hq
    obtain ⟨u, hu, ru⟩ := rv.get hx
    have hel : e < s.heap.objs.size := Heap.lt_size he
    have hil : it < s.heap.objs.size := by obtain ⟨_, q, _⟩ := hit; exact Heap.lt_size q
    have hlt : i < its.toArray.size := by
      obtain ⟨q, _⟩ := List.getElem?_eq_some_iff.mp hu
      simpa using q
    refine wpAny_pyNext_enum_itemC (Draws.tuple (prog := X.prog) (w := X.w) (A := X.A.in1) (I.ok.hd hc) it a hai its.toArray) he ⟨hit, p⟩ hlt hne (by simp [hne, Ne.symm hae]) fun u' h' tk hu' ho hst' hT hsz hk => ?_
    obtain rfl : u' = u := by
      have : its.toArray[i]? = some u := by simpa using hu
      rw [this] at hu'
      exact (Option.some.inj hu').symm
    obtain ⟨hit', _⟩ := hst'
    refine ⟨_, rfl, wpAny_letOwnedTupleGo_enum (s := { s with heap := h', toks := tk + 1 }) ho fun h'' he' sb => ?_⟩
    have hT2 : h''.get? s.heap.objs.size = some { cls := .type "tuple", data := .seq #[.int (k₀ + (i : Int)) tk, u'] } := (sb.2 _ (Nat.ne_of_gt hel)).trans hT
    have new : ObjOk X.prog X.w (upd H s.heap.objs.size (.tup [.int (k₀ + (i : Nat)), x])) h'' s.heap.objs.size (.tup [.int (k₀ + (i : Nat)), x]) :=
      ⟨by show 2 ≤ sizeLine; decide, [.int (k₀ + (i : Int)) tk, u'], .cons ⟨_, rfl⟩ (.cons ru .nil), ⟨_, hT2, rfl, _, rfl⟩⟩
    have I1 : Inv X pins σ (upd H s.heap.objs.size (.tup [.int (k₀ + (i : Nat)), x])) { s with heap := h'', toks := tk + 1 } :=
      I.turnedNew (ch := [e, it]) (fun b ob hb q => (sb.2 b (fun z => hb (by simp [z]))).trans (hk b ob (fun z => hb (by simp [z])) (fun z => hb (by simp [z])) q)) hf (Nat.le_refl _) new
    refine ⟨.ref s.heap.objs.size, _, I1, rfl, ⟨_, x, rfl, I.hok.fresh (Nat.le_refl _), rfl, fun ys hy => by rw [I.tuple_inj hy hq]; exact hx⟩, ⟨⟨u', ?_⟩, hit'.at fun o q => (sb.2 it (Ne.symm hne)).trans q, hne, hai, hae⟩, fun b hb => ?_⟩
    · have e1 : k₀ + ((i + 1 : Nat) : Int) = k₀ + (i : Int) + 1 := by omega
      rw [e1]; exact he'
    · have hb' : b < s.heap.objs.size := by
        have e' : b = e ∨ b = it := by simpa using hb
        rcases e' with z | z
        · rw [z]; exact hel
        · rw [z]; exact hil
      rw [upd_ne (Nat.ne_of_lt hb')]
      exact (hf b hb).1
  done := by
    intro X hP hw hK hc i pins s σ H E I hf st hg
    subst hP hw hK
    obtain ⟨⟨old, he⟩, hit, hne, hai, hae⟩ := st
    obtain ⟨xs, hq, hx⟩ := hg
    obtain ⟨its, rv, p, hz⟩ := I.tuple hq
    obtain ⟨f0, f1, f2, f3, f4, f5⟩ := hf it (by simp)
    have hl := rv.length
    have hsz : its.toArray.size = i := by simp; omega
    rw [← hsz] at hit
    exact wpAny_pyNext_enum_endD (Draws.tuple (prog := X.prog) (w := X.w) (A := X.A.in1) (I.ok.hd hc) it a hai its.toArray) he ⟨hit, p⟩ fun h' eb => ⟨rfl, I.turned (t' := s.toks) (fun b o hb q => eb b o hb q) f0 f1 f3 f4 f5⟩
  self := fun A i s Q E st h => let ⟨⟨_, he⟩, _⟩ := st; wpAny_pyIter_enum he h
/-- the cells of enumerate(t) -/
theorem meets_enumerate_newB1 {v : Value} {o : Obj} {H : Heap → Prop} (B : Begins v o H) :
    Meets (Builtin.«enumerate.__new__» ⟨[.type "enumerate", v], []⟩) (fun _ R s => H s.heap ∧
      R (.ok (.ret (.ref (s.heap.push o).objs.size))) { s with heap := (s.heap.push o).push { cls := .type "enumerate", data := .fields #[.none, .bool false, .ref s.heap.objs.size, rawInt 0, .none, .none] } }) :=
  .of_wp fun prog w A R s h => by
    obtain ⟨hp, g, d, tk, os⟩ := s; obtain ⟨h1, h⟩ := h
    have hsub := sub_enumerate
    have q1 : ∀ {A' : Around} {E : Value → Shared → Prop} {Q : Value → Shared → Prop}, Q (.ref hp.objs.size) ⟨hp.push o, g, d, tk, os⟩ → wpAny (model prog w) A' (pyIter v) Q E ⟨hp, g, d, tk, os⟩ :=
      fun q => B.iter prog w _ _ ⟨hp, g, d, tk, os⟩ _ h1 q
    wp_walk using q1
    refine wpAny_stack_any fun st => wpAny_pure ?_
    split
    · rename_i c _ _ _ _ _
      cases (c == Value.type "enumerate")
      · wp_walk using q1
        exact ⟨_, rfl, h⟩
      · wp_walk using q1
        exact ⟨_, rfl, h⟩
    · wp_walk using q1
      exact ⟨_, rfl, h⟩
theorem enum_begins1 {prog : Program} {w : World} {A : Around} {E : Value → Shared → Prop} {s : Shared} {v : Value} {o : Obj} {H : Heap → Prop} {Q : Value → Shared → Prop} (B : Begins v o H) (h1 : H s.heap)
    (h : ∀ h', IsEnum h' (s.heap.objs.size + 1) s.heap.objs.size 0 .none → h'.get? s.heap.objs.size = some o → h'.objs.size = s.heap.objs.size + 2 →
      (∀ b o, s.heap.get? b = some o → h'.get? b = some o) → Q (.ref (s.heap.objs.size + 1)) { s with heap := h' }) :
    wpAny (model prog w) A (call (.type "enumerate") [v]) Q E s := by
  refine callType_new F.called_enumerate (by decide) (F.typeCall_enumerate_1 _) (F.newCall_enumerate_1 _) (fun obj => F.args_object_init_2 obj _) F.entry_enumerate_new
    (meets_enumerate_newB1 B) ⟨h1, ?_⟩
  have hz : (s.heap.push o).objs.size = s.heap.objs.size + 1 := Heap.size_push ..
  show _ ∧ _
  rw [hz]
  have he : IsEnum ((s.heap.push o).push { cls := .type "enumerate", data := .fields #[.none, .bool false, .ref s.heap.objs.size, rawInt 0, .none, .none] }) (s.heap.objs.size + 1) s.heap.objs.size 0 .none := by
    have := Heap.get?_push_size (s.heap.push o) (o := { cls := .type "enumerate", data := .fields #[.none, .bool false, .ref s.heap.objs.size, rawInt 0, .none, .none] }) rfl
    rw [hz] at this; exact this
  refine ⟨⟨_, he, rfl⟩, h _ he (Heap.get?_push_of_some _ (Heap.get?_push_size _ B.free)) (by rw [Heap.size_push, hz]) fun b o x => Heap.get?_push_of_some _ (Heap.get?_push_of_some _ x)⟩
/-- an enumerate just made, walked -/
theorem enum_itT {tg : Expr} {elts : List Expr} {kk : Nat} {tpos : Pos} {pins : List (Addr × Obj)} {σ : L2.St} {H : Hp} {s : Shared} {R : It → Hp → Prop} {E : Value → Shared → Prop} {a : Addr} {xs : List V} {k₀ : Int} {h' : Heap} (I : Inv X pins σ H s) (hq : SqT X.K H a xs)
    (he : IsEnum h' (s.heap.objs.size + 1) s.heap.objs.size k₀ .none) (hit : h'.get? s.heap.objs.size = some { cls := .type "tuple_iterator", data := .fields #[.ref a, .int 0 0] }) (hsz : h'.objs.size = s.heap.objs.size + 2)
    (hk : ∀ b o, s.heap.get? b = some o → h'.get? b = some o) (q : R (IteT X.K a k₀) H) : wpAny (model X.prog X.w) X.A (pyIter (.ref (s.heap.objs.size + 1))) (PIE X pins σ (.Tuple elts kk tpos) R) E { s with heap := h' } := by
  refine wpAny_pyIter_enum he ?_
  obtain ⟨its, rv, p, hz⟩ := I.tuple hq
  have hla : a < s.heap.objs.size := p.lt
  have I2 : Inv X pins σ H { s with heap := h' } := I.kept (t' := s.toks) hk
  refine ⟨s.heap.objs.size + 1, [s.heap.objs.size + 1, s.heap.objs.size], _, _, H, rfl, I2, turn_enumT a (s.heap.objs.size + 1) s.heap.objs.size k₀, ⟨⟨.none, by simpa using he⟩, ⟨_, hit, rfl, rfl⟩, Nat.succ_ne_self _, Nat.ne_of_lt hla, Nat.ne_of_lt (Nat.lt_succ_of_lt hla)⟩, fun b hb => ?_, q⟩
  have e' : b = s.heap.objs.size + 1 ∨ b = s.heap.objs.size := by simpa using hb
  have hle : s.heap.objs.size ≤ b := by
    rcases e' with z | z
    · rw [z]; exact Nat.le_add_right _ _
    · rw [z]; exact Nat.le_refl _
  exact I.fpOk hle (I.hok.fresh hle)
def iEnumT (K : PySem.W.Frag) (ta : TA) : TI := fun σ H R => ta σ H fun vs H1 => ∃ a xs, vs = [.ref a] ∧ SqT K H1 a xs ∧ R (IteT K a 0) H1
theorem pi_enumT {e : Expr} {ta : TA} {p pos tpos : Pos} {elts : List Expr} {kk : Nat} (hg : Gl X "enumerate") (hm : X.mg "enumerate" = none) (ha : PA X [e] ta) (hs : starEach [e] X.env = [(false, eval e X.env)] := by rfl) :
    PI X (.Tuple elts kk tpos) (.Call (.Name "enumerate" p) [e] [] pos) (iEnumT X.K ta) := by
  refine ⟨fun pins s σ H R I h => ?_⟩
  refine PyProof.Rows.Call_ (ld_blt I hg hm PyProof.Rows.boot_enumerate (PyProof.Rows.callWith_type1 (thn (ha.run pos pins s σ H _ I h) fun us s1 ⟨vs, H1, I1, r1, q1⟩ => ?_) hs rfl))
  obtain ⟨a, xs, ex, hq, q⟩ := q1
  subst ex
  cases r1 with
  | cons r rr =>
    cases rr
    cases r
    obtain ⟨its, rv, p', hz⟩ := I1.tuple hq
    exact enum_begins1 (begins_tuple a its.toArray) p' fun h' he hit hsz hk => enum_itT (tg := e) I1 hq he hit hsz hk q
end Tw
end
section
set_option Elab.async false
set_option linter.all false
set_option maxRecDepth 100000
set_option maxHeartbeats 1000000
namespace Tw
open PySem PySem.Spec L2 RZ
variable {g : Gx} {ρ ρ' : List Addr} {H H' : Hp} {X : Cx} {W : WX} {L : List O} {cm : Nat → Addr} {fx : Hp}
def enumD (k : Int) : List D → List D
  | [] => []
  | d :: ds => .tup [.int k, d] :: enumD (k + 1) ds
theorem enumD_len : ∀ (k : Int) (ds : List D), (enumD k ds).length = ds.length
  | _, [] => rfl
  | k, d :: ds => by simp [enumD, enumD_len (k + 1) ds]
theorem enumD_get : ∀ (ds : List D) (k : Int) (i : Nat) (e : D), (enumD k ds)[i]? = some e → ∃ d, ds[i]? = some d ∧ e = .tup [.int (k + i), d]
  | [], k, i, e, h => by simp [enumD] at h
  | d :: ds, k, 0, e, h => by simp [enumD] at h; exact ⟨d, rfl, by rw [← h]; simp⟩
  | d :: ds, k, i + 1, e, h => by
    obtain ⟨x, h1, h2⟩ := enumD_get ds (k + 1) i e (by simpa [enumD] using h)
    refine ⟨x, by simpa using h1, by rw [h2]; congr 3; push_cast; omega⟩
theorem pairVR {T : Addr} {k : Int} {d : D} {x : V} (n : H T = none) (r : VR g ρ H d x) : VR g ρ (upd H T (.tup [.int k, x])) (.tup [.int k, d]) (.ref T) :=
  .tup (.inl upd_same) ((VRs.cons (.int k) (.cons r .nil)).mono (List.prefix_refl _) (TP.new n))
theorem wk_enumT {ds : List D} {a : Addr} {vs : List V} {k : Int} (s : SqT g.K H a vs) (t : VRs g ρ H ds vs) : Wk g ρ H ⟨enumD k ds, none⟩ (IteT g.K a k) where
  go := fun i ρ' L' H' hi p tt _ _ => by
    have := t.length
    rw [enumD_len] at hi
    exact ⟨vs, vs[i]'(by rw [← this]; exact hi), tt.rd s, by simp⟩
  stop := fun ρ' L' H' p tt _ _ => ⟨vs, tt.rd s, by rw [← t.length, enumD_len]⟩
  yld := fun i d ρ' L' H' x H2 e p tt hh _ y => by
    obtain ⟨T, z, rfl, hT, rfl, y⟩ := y
    obtain ⟨d', e1, rfl⟩ := enumD_get ds k i d e
    obtain ⟨v, ev, r⟩ := t.get e1
    have := y vs (tt.rd s)
    rw [ev] at this
    cases this
    exact ⟨TP.new hT, hh.fresh hT _, pairVR hT (r.mono p tt)⟩
theorem wk_enumR {ds : List D} {a : Addr} {vs : List V} (s : RoL g.K H a vs) (t : VRs g ρ H ds vs) : Wk g ρ H ⟨enumD 0 ds, none⟩ (Ite g.K a) where
  go := fun i ρ' L' H' hi p tt _ _ => by
    have := t.length
    rw [enumD_len] at hi
    exact ⟨vs, vs[i]'(by rw [← this]; exact hi), (tt.rol s).seq, by simp⟩
  stop := fun ρ' L' H' p tt _ _ => ⟨vs, (tt.rol s).seq, by rw [← t.length, enumD_len]; exact Nat.le_refl _⟩
  yld := fun i d ρ' L' H' x H2 e p tt hh _ y => by
    obtain ⟨T, z, rfl, hT, rfl, y⟩ := y
    obtain ⟨d', e1, rfl⟩ := enumD_get ds 0 i d e
    obtain ⟨v, ev, r⟩ := t.get e1
    have := y vs (tt.rol s).seq
    rw [ev] at this
    cases this
    have e2 : (0 : Int) + (i : Int) = (i : Nat) := by omega
    rw [e2]
    exact ⟨TP.new hT, hh.fresh hT _, pairVR hT (r.mono p tt)⟩
theorem wk_enumL {ds : List D} {n : Nat} {a : Addr} (ea : ρ[n]? = some a) : Wk g ρ H ⟨enumD 0 ds, some (n, .lst ds)⟩ (Ite g.K a) where
  go := fun i ρ' L' H' hi p tt hh ok => by
    obtain ⟨vs, b1, b2⟩ := hh.lst (of_decide_eq_true ok) (pre_get p ea)
    have := b2.length
    rw [enumD_len] at hi
    exact ⟨vs, vs[i]'(by rw [← this]; exact hi), SqL.of b1, by simp⟩
  stop := fun ρ' L' H' p tt hh ok => by
    obtain ⟨vs, b1, b2⟩ := hh.lst (of_decide_eq_true ok) (pre_get p ea)
    exact ⟨vs, SqL.of b1, by rw [← b2.length, enumD_len]; exact Nat.le_refl _⟩
  yld := fun i d ρ' L' H' x H2 e p tt hh ok y => by
    obtain ⟨T, z, rfl, hT, rfl, y⟩ := y
    obtain ⟨vs, b1, b2⟩ := hh.lst (of_decide_eq_true ok) (pre_get p ea)
    obtain ⟨d', e1, rfl⟩ := enumD_get ds 0 i d e
    obtain ⟨v, ev, r⟩ := b2.get e1
    have := y vs (SqL.of b1)
    rw [ev] at this
    cases this
    have e2 : (0 : Int) + (i : Int) = (i : Nat) := by omega
    rw [e2]
    exact ⟨TP.new hT, hh.fresh hT _, pairVR hT r⟩
def mEnum (a : ME) : MI := fun ε L => (a ε L).bind fun x L1 => match x with
  | .tup ds => .ok ⟨enumD 0 ds, none⟩ L1
  | .rol ds => .ok ⟨enumD 0 ds, none⟩ L1
  | .ref n => match L1[n]? with
    | some (.lst ds) => .ok ⟨enumD 0 ds, some (n, .lst ds)⟩ L1
    | _ => .bad
  | _ => .bad
theorem si_enum {elts : List Expr} {kk : Nat} {tpos p pos : Pos} {e : Expr} {a : ME} (hg : Gl X "enumerate") (hm : X.mg "enumerate" = none) (h : PA X [e] (tCons (tM ⟨X.K, cm, fx, X.w⟩ W a) tNil)) (hs : starEach [e] X.env = [(false, eval e X.env)] := by rfl) :
    PI X (.Tuple elts kk tpos) (.Call (.Name "enumerate" p) [e] [] pos) (tMI ⟨X.K, cm, fx, X.w⟩ W (mEnum a)) :=
  (PI.or (pi_enum hg hm h hs) (pi_enumT hg hm h hs)).imp fun σ H R q => by
    obtain ⟨ε, ρ, L, he, hh, q⟩ := q
    by_cases ht : ∃ ds L1, a ε L = .ok (.tup ds) L1
    · obtain ⟨ds, L1, ht⟩ := ht
      refine .inr ⟨ε, ρ, L, he, hh, Lf.bind q fun x L1 v ρ1 H1 e1 p1 t1 h1 r1 q1 => ?_⟩
      rw [ht] at e1
      cases e1
      cases r1 with
      | tup s t => exact ⟨_, _, rfl, s.sq, q1 _ ρ1 H1 (List.prefix_refl _) (TP.refl H1) h1 (wk_enumT s.sq t)⟩
    · refine .inl ⟨ε, ρ, L, he, hh, Lf.bind q fun x L1 v ρ1 H1 e1 p1 t1 h1 r1 q1 => ?_⟩
      cases r1 with
      | tup s t => exact (ht ⟨_, _, e1⟩).elim
      | rol s t => exact ⟨_, _, rfl, s.seq, q1 _ ρ1 H1 (List.prefix_refl _) (TP.refl H1) h1 (wk_enumR s t)⟩
      | ref ea =>
        simp only at q1
        split at q1
        · rename_i ds h2
          obtain ⟨vs, b1, b2⟩ := h1.lst h2 ea
          exact ⟨_, _, rfl, SqL.of b1, q1 _ ρ1 H1 (List.prefix_refl _) (TP.refl H1) h1 (wk_enumL ea)⟩
        · exact q1.elim
      | _ => exact q1.elim
def zipD : List D → List D → List D
  | d :: ds, e :: es => .tup [d, e] :: zipD ds es
  | _, _ => []
def mZip (a b : ME) : MI := fun ε L => (a ε L).bind fun x L1 => (b ε L1).bind fun y L2 => match x, y with
  | .tup ds, .tup es => .ok ⟨zipD ds es, none⟩ L2
  | _, _ => .bad
theorem wk_rev {ds : List D} {n : Nat} {a : Addr} (ea : ρ[n]? = some a) : Wk g ρ H ⟨ds.reverse, some (n, .lst ds)⟩ (Itv g.K a ds.length) where
  go := fun i ρ' L' H' hi p tt hh ok => by
    obtain ⟨vs, b1, b2⟩ := hh.lst (of_decide_eq_true ok) (pre_get p ea)
    have := b2.length
    rw [List.length_reverse] at hi
    exact ⟨hi, vs, vs[ds.length - 1 - i]'(by omega), SqL.of b1, by simp⟩
  stop := fun ρ' L' H' p tt hh ok => by show ds.length ≤ _; rw [List.length_reverse]; exact Nat.le_refl _
  yld := fun i d ρ' L' H' x H2 e p tt hh ok y => by
    obtain ⟨rfl, y⟩ := y
    obtain ⟨vs, b1, b2⟩ := hh.lst (of_decide_eq_true ok) (pre_get p ea)
    have hi : i < ds.length := by
      obtain ⟨q, _⟩ := List.getElem?_eq_some_iff.mp e
      rwa [List.length_reverse] at q
    rw [List.getElem?_reverse hi] at e
    obtain ⟨v, ev, r⟩ := b2.get e
    have := y vs (SqL.of b1)
    rw [ev] at this
    cases this
    exact ⟨TP.refl _, hh, r⟩
def mRev (a : ME) : MI := fun ε L => (a ε L).bind fun x L1 => match x with
  | .ref n => match L1[n]? with
    | some (.lst ds) => .ok ⟨ds.reverse, some (n, .lst ds)⟩ L1
    | _ => .bad
  | _ => .bad
theorem si_rev {tg e : Expr} {p pos : Pos} {a : ME} (hg : Gl X "reversed") (hm : X.mg "reversed" = none) (h : PA X [e] (tCons (tM ⟨X.K, cm, fx, X.w⟩ W a) tNil)) (hs : starEach [e] X.env = [(false, eval e X.env)] := by rfl) :
    PI X tg (.Call (.Name "reversed" p) [e] [] pos) (tMI ⟨X.K, cm, fx, X.w⟩ W (mRev a)) :=
  (pi_reversed hg hm h hs).imp fun σ H R q => by
    obtain ⟨ε, ρ, L, he, hh, q⟩ := q
    refine ⟨ε, ρ, L, he, hh, Lf.bind q fun x L1 v ρ1 H1 e1 p1 t1 h1 r1 q1 => ?_⟩
    split at q1
    · cases r1 with
      | ref ea =>
        split at q1
        · rename_i ds h2
          obtain ⟨vs, b1, b2⟩ := h1.lst h2 ea
          have e3 := q1 _ ρ1 H1 (List.prefix_refl _) (TP.refl H1) h1 (wk_rev ea)
          rw [b2.length] at e3
          exact ⟨_, _, rfl, SqL.of b1, e3⟩
        · exact q1.elim
    · exact q1.elim
end Tw
end
section
set_option Elab.async false
set_option linter.all false
set_option maxRecDepth 100000
set_option maxHeartbeats 1000000
namespace PySem.W
open PySem
end PySem.W
namespace Tw
open PySem PySem.Spec L2
end Tw
end
section
set_option Elab.async false
set_option linter.all false
set_option maxRecDepth 100000
set_option maxHeartbeats 1000000
namespace Tw
open PySem PySem.Spec L2
variable {g : Gx} {ρ ρ' : List Addr} {H H' : Hp} {X : Cx} {W : WX} {L : List O} {cm : Nat → Addr} {fx : Hp}
/-- the class c by its name, its __init__ called with n values and the keywords ks; gD puts them in their order -/
structure CkI (P : Program) (w : World) (K : PySem.W.Frag) (mg : Str → Option Value) (base : Heap) (cm : Nat → Addr) (x : Str) (c k n : Nat) (ks : List Str) (gD : List D → List D → List D) (N : Nat) (F : FS) : Prop where
  ex : ∃ (f : Addr) (fd : FuncData) (ps : List Str) (gg : List Value → List Value → List Value) (gV : List V → List V → List V), mg x = some (.ref (cm c)) ∧ Mk K (cm c) f ∧ KBn K fd ps (n + 1) ks gg gV ∧
    (∀ fx ρ H ds vs es zs, VRs ⟨K, cm, fx, w⟩ ρ H ds vs → VRs ⟨K, cm, fx, w⟩ ρ H es zs → VRs ⟨K, cm, fx, w⟩ ρ H (gD ds es) (gV vs zs)) ∧ ps.length = N ∧ FnF P w K mg base cm k f fd ps F
def mMadeG (c : Nat) (F : FS) (f : D → List D) (L : List O) : Rs D := (F (f (.ref L.length)) (L ++ [.ins c []])).bind fun d L' => match d with
  | .non => .ok (.ref L.length) L'
  | _ => .bad
theorem madeG_sp {n c : Nat} {F : FS} {f : D → List D} {fV : V → List V} {σ : L2.St} {Q : VK} (hh : HR g ρ L H) (r : ∀ ρ' H' x, ρ <+: ρ' → TP H H' → VR g ρ' H' (.ref L.length) (.ref x) → VRs g ρ' H' (f (.ref L.length)) (fV (.ref x))) (q : LfD g ρ H σ W (mMadeG c F f L) Q) {x dx : Addr} (hn : (fV (.ref x)).length = n) (nx : H x = none) (nd : H dx = none) (ne : dx ≠ x) :
    spF g.w g.K g.cm n F (fV (.ref x)) (upd (upd H dx (.own x)) x (.ins (g.cm c) dx [])) (fun v H2 => v = .non ∧ Q (.ref x) H2) (EW W σ) := by
  have nx' : upd H dx (.own x) x = none := by rw [upd_ne (Ne.symm ne)]; exact nx
  have t1 : TP H (upd H dx (.own x)) := TP.new nd
  have t2 := t1.trans (TP.new (o := .ins (g.cm c) dx []) nx')
  have h2 := (hh.fresh nd (.own x)).new nx' (u := .ins (g.cm c) dx []) (o := .ins c []) ⟨dx, [], upd_same, .nil⟩
  have ex : (ρ ++ [x])[L.length]? = some x := by rw [← hh.len]; simp
  refine ⟨hn, g.fx, ρ ++ [x], L ++ [.ins c []], f (.ref L.length), h2, r _ _ _ (pre_snoc _ _) t2 (.ref ex), ?_⟩
  unfold mMadeG at q
  cases hF : F (f (.ref L.length)) (L ++ [.ins c []]) with
  | ok d L' =>
    rw [hF] at q
    intro v ρ' H' p t h rv
    cases rv with
    | non => exact ⟨rfl, q _ ρ' H' ((pre_snoc _ _).trans p) (t2.trans t) h (.ref (pre_get p ex))⟩
    | _ => exact q.elim
  | ex c' fs L' =>
    rw [hF] at q
    exact fun ρ' H' dx p t h x => q ρ' H' dx ((pre_snoc _ _).trans p) (t2.trans t) h x
  | bad => rw [hF] at q; exact q.elim
section
variable {CX : CXT} {k n : Nat} {f C : Addr} {fd : FuncData} {ps ks : List Str} {sp : Sp} {E : L2.St → XK} {x : Str} {p pos : Pos} {e : Expr} {es : List Expr} {kws : List Keyword} {t tk : TA} {gg : List Value → List Value → List Value} {gV : List V → List V → List V}
def tMakeKSD (C : Addr) (n m : Nat) (sp : Sp) (gV : List V → List V → List V) (E : L2.St → XK) (t tk : TA) : TE := fun σ H Q => t σ H fun vs H1 => tk σ H1 fun zs H2 => vs.length = n ∧ zs.length = m ∧ ∀ x dx, H2 x = none → H2 dx = none → dx ≠ x →
  sp (gV (.ref x :: vs) zs) (upd (upd H2 dx (.own x)) x (.ins C dx [])) (fun v H3 => v = .non ∧ Q (.ref x) H3) (E σ)
theorem run_makeKSD {E : XK} {pins : List (Addr × Obj)} {σ : L2.St} {H : Hp} {s : Shared} {Q : VK} {us ws : List Value} {vs zs : List V} (M : Mk X.K C f) (F : FnOk X.prog X.w X.K X.mg X.base CX k f fd ps sp) (hr : Room (k + 1) X.A) (hb : KBn X.K fd ps (n + 1) ks gg gV) (hx : PassesAt CX X σ E)
    (I : Inv X pins σ H s) (r : Vals vs us) (rz : Vals zs ws) (l1 : vs.length = n) (l2 : zs.length = ks.length)
    (h : ∀ x dx, H x = none → H dx = none → dx ≠ x → sp (gV (.ref x :: vs) zs) (upd (upd H dx (.own x)) x (.ins C dx [])) (fun v H2 => v = .non ∧ Q (.ref x) H2) E) :
    wpAny (model X.prog X.w) X.A (call (.ref C) us (ks.zip ws)) (EP X pins σ Q) X.xe s := by
  have hq := h (s.heap.objs.size + 1) s.heap.objs.size (I.hok.fresh (Nat.le_succ _)) (I.hok.fresh (Nat.le_refl _)) (Nat.ne_of_lt (Nat.lt_succ_self _))
  have I2 := Inv.made (C := C) I
  have r1 : Vals (V.ref (s.heap.objs.size + 1) :: vs) (Value.ref (s.heap.objs.size + 1) :: us) := .cons rfl r
  have r2 := hb.rel r1 rz
  have n1 : (Value.ref (s.heap.objs.size + 1) :: us).length = n + 1 := by
    rw [List.length_cons, ← r.length, l1]
  refine wpAny_call (make_map (f := f) I.kIn M.makes M.init (beq_iff_eq.mp M.fn) (codeAny_mono (F.run _ X.stack _ _ ⟨Value.ref (s.heap.objs.size + 1) :: us, ks.zip ws⟩ (gg (Value.ref (s.heap.objs.size + 1) :: us) ws) _ _ E (hr.make C us (ks.zip ws))
    (I2.env0.make C us (ks.zip ws)) (hb.to _ (Value.ref (s.heap.objs.size + 1) :: us) ws I2.kIn n1 (rz.length.symm.trans l2)) r2 hq) fun r s' hq' => ?_))
  cases r with
  | error e => exact hx pins _ _ e s' I2 hq'
  | ok fl =>
    cases fl with
    | ret u =>
      obtain ⟨v, H', I3, rv, ev, q3⟩ := I2.after hq'
      subst ev
      exact ⟨rv, ⟨V.ref (s.heap.objs.size + 1), H', I3, rfl, q3⟩⟩
    | next => exact False.elim hq'
    | brk => exact False.elim hq'
    | cont => exact False.elim hq'
theorem pe_makeKSD (M : Mk X.K C f) (F : FnOk X.prog X.w X.K X.mg X.base CX k f fd ps sp) (hr : Room (k + 1) X.A) (hg : Gl X x) (hm : X.mg x = some (.ref C)) (hb : KBn X.K fd ps (n + 1) ks gg gV) (hx : ∀ σ, PassesAt CX X σ (E σ)) (ha : PA X (e :: es) t) (hkw : PK X kws tk)
    (hall : (backToKw pos (keywordEach kws X.env)).all (·.1.isSome) = true := by rfl) (hks : (backToKw pos (keywordEach kws X.env)).filterMap (·.1) = ks := by rfl) (hdb : (x == ("__debug__" : Str)) = false := by decide)
    (he : starEach (e :: es) X.env = (false, eval e X.env) :: starEach es X.env := by rfl) (hpl : ((backTo pos (starEach (e :: es) X.env)).any (·.1) || (backToKw pos (keywordEach kws X.env)).any (·.1.isNone)) = false := by rfl) :
    PE X (.Call (.Name x p) (e :: es) kws pos) (tMakeKSD C n ks.length sp gV E t tk) := by
  refine ⟨fun pins s σ H Q I h => ?_⟩
  refine wpAny_Call_Name_kw (ld_glob I hg hm ?_ hdb)
  refine PySem.W.callWith_KW (h₀ := X.base) I.ok.mod.kin M.kp hall (thn (ha.run pos pins s σ H _ I h) fun us s1 ⟨vs, H1, I1, r, q⟩ => ?_) hpl he
  refine thn (hkw.run pos pins s1 σ H1 _ I1 q) fun ws s2 ⟨zs, H2, I2, rz, l1, l2, q2⟩ => ⟨I2.kIn, ?_⟩
  rw [hks]
  exact run_makeKSD M F hr hb (hx σ) I2 r rz l1 l2 q2
end
/-- the values of the keywords -/
theorem sk_nil : PK X [] (tMA g W mNil) := ⟨fun pos pins s σ H Q I q => pk_nil.run pos pins s σ H Q I (by
  obtain ⟨ε, ρ, L, he, hh, q⟩ := q
  exact q [] ρ H (List.prefix_refl _) (TP.refl H) hh .nil)⟩
theorem sk_cons {e : Expr} {kws : List Keyword} {nm : Option Str} {kpos : Pos} {a : ME} {r : MA} (ha : PE X e (tM g W a)) (hr : PK X kws (tMA g W r)) : PK X (⟨nm, e, kpos⟩ :: kws) (tMA g W (mCons a r)) := ⟨fun pos pins s σ H Q I q => (pk_cons ha hr).run pos pins s σ H Q I (by
  obtain ⟨ε, ρ, L, he, hh, q⟩ := q
  refine ⟨ε, ρ, L, he, hh, Lf.bind q fun x L1 v ρ1 H1 _ p1 t1 h1 r1 q1 => ?_⟩
  refine ⟨ε, ρ1, L1, he.mono p1 t1, h1, Lf.bind q1 fun xs L2 vs ρ2 H2 _ p2 t2 h2 r2 q2 => ?_⟩
  exact q2 _ ρ2 H2 (List.prefix_refl _) (TP.refl H2) h2 (.cons (r1.mono p2 t2) r2))⟩
def mMakeK (c : Nat) (F : FS) (gD : List D → List D → List D) (args kargs : MA) : ME := fun ε L => (args ε L).bind fun ds L1 => (kargs ε L1).bind fun es L2 => mMadeG c F (fun x => gD (x :: ds) es) L2
theorem se_makeK {cm : Nat → Addr} {fx : Hp} {x : Str} {c k n N : Nat} {ks : List Str} {gD : List D → List D → List D} {F : FS} {e : Expr} {es : List Expr} {kws : List Keyword} {args kargs : MA} {p pos : Pos} (h : CkI X.prog X.w X.K X.mg X.base cm x c k n ks gD N F) (hr : Room (k + 1) X.A) (tk : Takes X W) (ha : PA X (e :: es) (tMA ⟨X.K, cm, fx, X.w⟩ W args)) (hkw : PK X kws (tMA ⟨X.K, cm, fx, X.w⟩ W kargs)) (hl : Len args n) (hlk : Len kargs ks.length) (hN : ∀ a as bs, as.length = n → bs.length = ks.length → (gD (a :: as) bs).length = N)
    (hg : Gl X x := by rfl) (hall : (backToKw pos (keywordEach kws X.env)).all (·.1.isSome) = true := by rfl) (hks : (backToKw pos (keywordEach kws X.env)).filterMap (·.1) = ks := by rfl) (hdb : (x == ("__debug__" : Str)) = false := by decide)
    (he : starEach (e :: es) X.env = (false, eval e X.env) :: starEach es X.env := by rfl) (hpl : ((backTo pos (starEach (e :: es) X.env)).any (·.1) || (backToKw pos (keywordEach kws X.env)).any (·.1.isNone)) = false := by rfl) :
    PE X (.Call (.Name x p) (e :: es) kws pos) (tM ⟨X.K, cm, fx, X.w⟩ W (mMakeK c F gD args kargs)) := by
  obtain ⟨f, fd, ps, gg, gV, hm, M, hb, hgr, hps, G⟩ := h.ex
  refine (pe_makeKSD (E := EW W) M G hr hg hm hb (fun σ => pass_at tk σ) ha hkw hall hks hdb he hpl).imp fun σ H Q q => ?_
  obtain ⟨ε, ρ, L, he, hh, q⟩ := q
  refine ⟨ε, ρ, L, he, hh, Lf.bind q fun ds L1 vs ρ1 H1 e1 p1 t1 h1 r1 q1 => ?_⟩
  refine ⟨ε, ρ1, L1, he.mono p1 t1, h1, Lf.bind q1 fun es L2 zs ρ2 H2 e2 p2 t2 h2 r2 q2 => ?_⟩
  refine ⟨by rw [← r1.length, hl.h _ _ _ _ e1], by rw [← r2.length, hlk.h _ _ _ _ e2], fun x dx nx nd ne => ?_⟩
  refine madeG_sp (fV := fun v => gV (v :: vs) zs) h2 (fun ρ' H' y p t ry => hgr _ _ _ _ _ _ _ (.cons ry ((r1.mono p2 t2).mono p t)) (r2.mono p t)) q2 ?_ nx nd ne
  rw [hps]
  have e3 := (hgr fx (ρ2 ++ [x]) (upd (upd H2 dx (.own x)) x (.ins (cm c) dx [])) (.ref L2.length :: ds) (.ref x :: vs) es zs (.cons (.ref (by rw [← h2.len]; simp)) ((r1.mono p2 t2).mono (pre_snoc _ _) ((TP.new nd).trans (TP.new (by rw [upd_ne (Ne.symm ne)]; exact nx))))) (r2.mono (pre_snoc _ _) ((TP.new nd).trans (TP.new (by rw [upd_ne (Ne.symm ne)]; exact nx))))).length
  rw [← e3]
  exact hN _ _ _ (hl.h _ _ _ _ e1) (hlk.h _ _ _ _ e2)
end Tw
end
section
set_option Elab.async false
set_option linter.all false
set_option maxRecDepth 100000
set_option maxHeartbeats 1000000
namespace Tw
open PySem PySem.Spec L2
open PyProof.Rows (envOfC)
variable {g : Gx} {ρ ρ' : List Addr} {H H' : Hp} {X : Cx} {W : WX} {L : List O} {cm : Nat → Addr} {fx : Hp}
def isSeqP : PyData → Bool
  | .list _ => true
  | .tuple _ => true
  | _ => false
section
variable {P : Program} {w : World} {K : PySem.W.Frag} {mg : Str → Option Value} {base : Heap}
def BodyOkG (P : Program) (w : World) (K : PySem.W.Frag) (mg : Str → Option Value) (base : Heap) (cm : Nat → Addr) (N : List Str) (qual : Str) (sc : Scope) (f : Addr) (body : List Stmt) (k : Nat) (m : MS) : Prop :=
  ∀ (fx : Hp) (cdv : Value) (A : Around) (outer : List Env) (s : Shared) (H : Hp) (E : XK), (A.deeper (envOfC qual sc s.heap.objs.size f cdv)).guards = some [] → Room k (A.deeper (envOfC qual sc s.heap.objs.size f cdv)) → Takes (cxF P w K mg base N qual sc f cdv A outer s H E) (WF E) →
    PassesOwn (model P w) (cxF P w K mg base N qual sc f cdv A outer s H E).A (cxF P w K mg base N qual sc f cdv A outer s H E).env (cxF P w K mg base N qual sc f cdv A outer s H E).xe →
    PSs (cxF P w K mg base N qual sc f cdv A outer s H E) body (tMS ⟨K, cm, fx, w⟩ (WF E) m)
/-- the def at f, run where no guard is up -/
structure FnG (P : Program) (w : World) (K : PySem.W.Frag) (mg : Str → Option Value) (base : Heap) (k : Nat) (f : Addr) (fd : FuncData) (ps : List Str) (sp : Sp) : Prop where
  run : ∀ (A : Around) (outer : List Env) (s : Shared) (H : Hp) (args : Args) (us : List Value) (vs : List V) (Q : VK) (E : XK), A.guards = some [] → Room k A → Env0 P w K mg base A outer s H → BindsTo s fd args (ps.zip us) → Vals vs us → sp vs H Q E →
    codeAny (model P w) A (.call (.ref f) args) (CR (L2N.CX P w) outer P w H s Q E) s
theorem fnG_of {f : Addr} {name qual : Str} {params : Arguments} {body : List Stmt} {scope : Scope} {dV kV doc pm cdv ct oc : Value} {an od : Option Addr}
    {osl : Array (Option Value)} {N ps : List Str} {k : Nat} {m : MS} (lk : K.lookup f = some ⟨oc, od, .func (PySem.W.fnOf name qual params body scope dV kV doc pm an cdv ct), osl⟩) (hcd : PySem.W.codeIn K cdv qual = true) (S : FnScope N ps scope) (hN : ps.length ≤ N.length)
    (h : BodyOkG P w K mg base cm N qual scope f body k m) :
    FnG P w K mg base (k + 1) f (PySem.W.fnOf name qual params body scope dV kV doc pm an cdv ct) ps (spF w K cm ps.length (runF ps.length N.length m)) := by
  refine ⟨fun A outer s H args us vs Q E hgd hr e0 hb r hsp => ?_⟩
  have hl : vs.length = ps.length := hsp.1
  have KX : K.In s.heap := e0.mod.kin.keeps fun b o e => (e0.bs b o e).1
  have lim : s.heap.NoLimit := e0.mod.nolimit.keeps fun b o e => (e0.bs b o e).1
  have hkind : ∀ y ∈ ps.zip us, scope.names.lookup y.1 = some .local ∨ (scope.names.lookup y.1 = some .cell ∧ ((cellsFrom (s.heap.objs.size + 1) scope.names []).lookup y.1).isSome = true) := fun ⟨n, v⟩ hy => by
    rcases S.par n (List.of_mem_zip hy).1 with q | q
    · exact .inl q
    · exact .inr ⟨q, PySem.W.cellsFrom_some _ _ _ (.inl q)⟩
  refine codeAny_call_function hr.depth (KX _ _ lk) rfl S.co S.gen rfl (PySem.W.codeRec_of KX hcd) (hb _ _ _ _ ?_)
  refine wpAny_newFunctionEnv_cells S.kind hkind fun env he s1 x => ?_
  subst he
  refine ⟨lim.keeps x.toInCall.keep, codeAny_func ?_⟩
  obtain ⟨hl', fx, ρ, L, ds, hh, r', q⟩ := id hsp
  have ht := h fx cdv A outer s H E hgd (hr.deeper _) (L2N.takes_of rfl rfl rfl rfl) (passes_of rfl)
  have hq : tMS ⟨K, cm, fx, w⟩ (WF E) m { nx := fun _ H' => Q .non H', rt := Q } (start N vs) H := by
    have r := r'
    unfold runF at q
    have hd : ds.length = ps.length := r.length.trans hl
    rw [if_pos hd] at q
    have he := ER.begin r N
    rw [hd] at he
    refine ⟨_, ρ, L, he, hh, ?_⟩
    cases hm : m (ds.map some ++ List.replicate (N.length - ps.length) none) L with
    | nx ε' L' => rw [hm] at q; exact fun σ' ρ' H' p t a b => q .non ρ' H' p t a .non
    | rt d L' => rw [hm] at q; exact q
    | bk ε' L' => rw [hm] at q; exact q.elim
    | ct ε' L' => rw [hm] at q; exact q.elim
    | ex c fs ε' L' => rw [hm] at q; exact fun σ' ρ' H' dx p t a b x => q ρ' H' dx p t a x
    | bad => rw [hm] at q; exact q.elim
  have I : Inv (cxOf (L2N.CX P w) P w K mg base N qual scope f cdv A outer s H E) [] (start N vs) H s1 := inv_start S hr.hd e0 hl r x
  refine wpAny_mono (ht.run [] s1 (start N vs) H _ I hq) (fun fl s' hs => ?_) fun e s' hs => hs
  cases fl with
  | ret u =>
    obtain ⟨v, σ', H', J, rv, q⟩ := hs
    exact ⟨v, H', J.os, J.bare, J.base, J.hok, rv, q⟩
  | next =>
    obtain ⟨σ', H', J, q⟩ := hs
    exact ⟨V.non, H', J.os, J.bare, J.base, J.hok, (rfl : RelV V.non Value.none), q⟩
  | brk =>
    obtain ⟨_, _, _, q⟩ := hs
    exact False.elim q
  | cont =>
    obtain ⟨_, _, _, q⟩ := hs
    exact False.elim q
end
end Tw
end
section
set_option Elab.async false
set_option linter.all false
set_option maxRecDepth 100000
set_option maxHeartbeats 1000000
namespace Tw
open PySem PySem.Spec PyProof.Rows L2
theorem law_callG {P : Program} {w : World} {K : PySem.W.Frag} {mg mb : Str → Option Value} {k : Nat} {fa a : Addr} {fd : FuncData} {x : Str} {sp : Sp} {s₁ : Shared} {vs : List Value} {ns : List Int}
    (KX : K.In s₁.heap) (hns : s₁.heap.Ns mainGlobals mg) (hb : s₁.heap.Ns builtinsNs mb) (hbb : ∀ x : Str, x ≠ "__name__" → mb x = bootBuiltins x) (hlim : s₁.heap.NoLimit) (hg : s₁.gens = #[])
    (ha : s₁.heap.get? a = some { cls := .type "list", data := .seq vs.toArray }) (hi : IntsAre vs ns) (hl : ns.length ≤ sizeLine) (hr : Room k callerA)
    (F : ∀ base : Heap, K.In base → base.Ns mainGlobals mg → FnG P w K mg base k fa fd [x] sp) (hbind : ∀ (s : Shared) (u : Value), BindsTo s fd ⟨[u], []⟩ [(x, u)])
    (hsp : ∀ H : Hp, Only H → SqL K H a (ns.map V.int) → sp [.ref a] H (fun v _ => v = .bl true) fun _ _ _ => False) :
    codeAny (model P w) callerA (.call (.ref fa) ⟨[.ref a], []⟩) (fun r s' => r = .ok (.ret (.bool true)) ∧ OldK s₁.heap s'.heap ∧ s'.os = s₁.os ∧ AllBare s'.gens) s₁ := by
  have rv := vals_ints hi
  have lenV := hi.length
  have core : ∀ H : Hp, Only H → SqL K H a (ns.map V.int) → HOk P w H s₁.heap → (∀ b, H b ≠ none → b = a) → (H a ≠ none → K.lookup a = none) →
      codeAny (model P w) callerA (.call (.ref fa) ⟨[.ref a], []⟩) (fun r s' => r = .ok (.ret (.bool true)) ∧ OldK s₁.heap s'.heap ∧ s'.os = s₁.os ∧ AllBare s'.gens) s₁ := by
    intro H hO hS hok hA hK
    have isA : ∀ {b : Addr}, H b ≠ none → b = a := fun {b} h => hA b h
    have base_of : ∀ {b : Addr} {o : Obj}, s₁.heap.get? b = some o → H b = none → (hidT s₁.heap H).get? b = some o := fun e n => hidT_get e n
    have noA : ∀ {b : Addr} {o : Obj} {es : Array DictEntry} {ep : Nat}, s₁.heap.get? b = some o → o.data = .dict es ep → H b = none := fun {b o es ep} e d => by
      by_cases q : H b = none
      · exact q
      · rw [isA q, ha] at e
        cases e
        cases (show Data.seq vs.toArray _ = Data.dict es ep from d)
    have nsK : ∀ {b : Addr} {m : Str → Option Value}, s₁.heap.Ns b m → (hidT s₁.heap H).Ns b m := fun {b m} ⟨o, es, ep, e, d, r⟩ => ⟨o, es, ep, base_of e (noA e d), d, r⟩
    have hKb : K.In (hidT s₁.heap H) := fun b o e => base_of (KX b o e) (by
      by_cases q : H b = none
      · exact q
      · have e' := isA q
        subst e'
        rw [hK q] at e
        cases e)
    have hM : Mod K mg (hidT s₁.heap H) := ⟨hKb, nsK hns, ⟨mb, nsK hb, hbb⟩, let ⟨mc, h1, h2⟩ := hlim; ⟨mc, nsK h1, h2⟩⟩
    have e0 : Env0 P w K mg (hidT s₁.heap H) callerA [] s₁ H := ⟨rfl, hM, fun b o e => of_hidT e, Nat.le_of_eq (hidT_size _ _), trivial, fun b hb => absurd (show b ∈ ([] : List Addr) from hb) (by simp), hok, .of_eq hg⟩
    refine codeAny_mono ((F _ hKb (nsK hns)).run callerA [] s₁ H ⟨[.ref a], []⟩ [.ref a] [.ref a] _ _ rfl hr e0 (hbind s₁ (.ref a)) (.cons rfl .nil) (hsp H hO hS)) fun r s' h => ?_
    cases r with
    | error e =>
      obtain ⟨_, _, _, _, _, _, _, _, _, _, _, _, z⟩ := h
      exact z.elim
    | ok fl =>
      cases fl with
      | next => exact False.elim h
      | brk => exact False.elim h
      | cont => exact False.elim h
      | ret u =>
        obtain ⟨v, H', os, bare, un, hok', r', q⟩ := h
        have q' : v = .bl true := q
        subst q'
        obtain rfl : u = Value.bool true := r'
        refine ⟨rfl, OldK.of_keep fun b o e => ?_, os, bare⟩
        cases q : H b with
        | none => exact un.keep b o e q (by intro z; exact absurd (show b ∈ ([] : List Addr) from z) (by simp)) (by simp)
        | some u =>
          rcases hO b with z | ⟨ob, xs, z⟩
          · rw [q] at z; cases z
          · have z2 := un.frzs b ob _ z
            obtain ⟨e1, _⟩ := hok b _ z
            obtain ⟨e2, _⟩ := hok' b _ z2
            rw [e] at e1; cases e1
            exact e2
  cases hk : K.lookup a with
  | some o =>
    have e := KX a o hk
    rw [ha] at e
    cases e
    refine core (fun _ => none) (fun _ => .inl rfl) (.inr ⟨_, vs.toArray, _, hk, rfl, rfl, rfl, by rw [List.size_toArray, lenV]; exact hl, by simpa using rv⟩) (fun b u z => by have z' : (none : Option HO) = some u := z; cases z') (fun b z => absurd rfl z) fun z => absurd rfl z
  | none =>
    refine core (fun b => if b = a then some (.frz { cls := .type "list", data := .seq vs.toArray } (.lst (ns.map V.int))) else none) (fun b => ?_) (.inl (.inr ⟨{ cls := .type "list", data := .seq vs.toArray }, if_pos rfl⟩)) (fun b u z => ?_) (fun b z => ?_) fun _ => hk
    · by_cases hb : b = a
      · exact .inr ⟨_, _, if_pos hb⟩
      · exact .inl (if_neg hb)
    · by_cases hb : b = a
      · have z' := (if_pos hb).symm.trans z
        cases z'
        subst hb
        exact ⟨ha, by rw [List.length_map]; exact hl, vs, _, rv, ha⟩
      · have z' := (if_neg hb).symm.trans z
        cases z'
    · by_cases hb : b = a
      · exact hb
      · exact absurd (if_neg hb) z
/-- the plain law: F is True at every script -/
def PlainLaw (n : Nat) (F : FS) : Prop := ∀ ns : List Int, ns.length ≤ n → ∃ L', F [.rol (ns.map .int)] [] = .ok (.bl true) L'
theorem ints_vr {g : Gx} {ρ : List Addr} {H : Hp} : ∀ ns : List Int, VRs g ρ H (ns.map .int) (ns.map V.int)
  | [] => .nil
  | n :: ns => .cons (.int n) (ints_vr ns)
theorem plain_sp {n : Nat} {F : FS} {K : PySem.W.Frag} {cm : Nat → Addr} (h : PlainLaw n F) (H : Hp) (a : Addr) (ns : List Int) (hn : ns.length ≤ n) (hO : Only H) (hS : SqL K H a (ns.map V.int)) : spF w K cm 1 F [.ref a] H (fun v _ => v = .bl true) fun _ _ _ => False := by
  obtain ⟨L', e⟩ := h ns hn
  have ro : RoL K H a (ns.map V.int) := by
    rcases hS with (h | ⟨o, h⟩) | h
    · rcases hO a with z | ⟨ob, xs, z⟩
      · rw [z] at h; cases h
      · rw [z] at h; cases h
    · exact .inl ⟨o, h⟩
    · exact .inr (.inr h)
  refine ⟨rfl, fun _ => none, [], [], [.rol (ns.map .int)], ⟨rfl, List.nodup_nil, fun n o a e => by simp at e, fun n a e => by simp at e, fun a u e => by cases e⟩, .cons (.rol ro (ints_vr ns)) .nil, ?_⟩
  rw [e]
  intro v ρ' H' _ _ _ r
  cases r
  rfl
theorem end_ok {l : PySem.W.OpenLaw} {n k : Nat} {q : Program} {loose : List Str} {XP : (Str → Option Value) → Heap → Prop} {YP : World → Heap → Prop} {d : DefRec} {x : Str} {Fl : FS}
    (hn : l.most = some n) (hn2 : n ≤ sizeLine) (hdf : d.params.defaults = []) (hr : Room k callerA)
    (F : ∀ (w : World) (mg : Str → Option Value) (fa : Addr) (h : Heap), YP w h → h.Ns mainGlobals mg → mg d.name = some (.ref fa) →
      ∃ (K : PySem.W.Frag) (cm : Nat → Addr) (fd : FuncData), K.In h ∧ (∀ (s : Shared) (u : Value), BindsTo s fd ⟨[u], []⟩ [(x, u)]) ∧
        ∀ base : Heap, K.In base → base.Ns mainGlobals mg → FnG l.prog w K mg base k fa fd [x] (spF w K cm 1 Fl))
    (plain : PlainLaw n Fl) :
    PySem.W.WalkO q loose XP YP l.row.toRowW d [] (fun f vs => PySem.call f vs) := by
  refine Att.attach_call hn hdf fun w s₀ s₁ mg mb fa o pm cd doc a vs ns G Y ho hd hcd hmg hobj hints hlen hg => ?_
  obtain ⟨K, cm, fd, KX, hb, hF⟩ := F w mg fa _ Y G.T.g hmg
  exact law_callG KX G.T.g G.T.b G.T.builtins G.T.nolimit hg hobj hints (Nat.le_trans hlen hn2) hr hF hb (fun H hO hS => plain_sp plain H a ns hlen hO hS)
end Tw
end
section
set_option Elab.async false
set_option linter.all false
set_option maxRecDepth 100000
set_option maxHeartbeats 1000000
namespace Tw
open PySem PySem.Spec L2
variable {g : Gx} {ρ : List Addr} {H : Hp}
def pick {α : Type} (is : List Nat) (l : List α) : List α := is.filterMap fun i => l[i]?
theorem Vals.tw_get : ∀ {vs : List V} {us : List Value}, Vals vs us → ∀ i : Nat, (vs[i]? = none ∧ us[i]? = none) ∨ ∃ v u, vs[i]? = some v ∧ us[i]? = some u ∧ RelV v u
  | _, _, .nil, i => .inl ⟨by simp, by simp⟩
  | _, _, .cons r t, 0 => .inr ⟨_, _, rfl, rfl, r⟩
  | _, _, .cons r t, i + 1 => by simpa using Vals.tw_get t i
theorem Vals.tw_pick {vs : List V} {us : List Value} (r : Vals vs us) : ∀ is : List Nat, Vals (pick is vs) (pick is us)
  | [] => .nil
  | i :: is => by
    unfold pick
    rcases Vals.tw_get r i with ⟨h1, h2⟩ | ⟨v, u, h1, h2, h3⟩
    · rw [List.filterMap_cons_none h1, List.filterMap_cons_none h2]; exact Vals.tw_pick r is
    · rw [List.filterMap_cons_some h1, List.filterMap_cons_some h2]; exact .cons h3 (Vals.tw_pick r is)
theorem VRs.look {ds : List D} {vs : List V} (r : VRs g ρ H ds vs) (i : Nat) : (ds[i]? = none ∧ vs[i]? = none) ∨ ∃ d v, ds[i]? = some d ∧ vs[i]? = some v ∧ VR g ρ H d v := by
  cases h : ds[i]? with
  | some d => obtain ⟨v, h1, h2⟩ := r.get h; exact .inr ⟨d, v, rfl, h1, h2⟩
  | none =>
    refine .inl ⟨rfl, ?_⟩
    rw [List.getElem?_eq_none_iff] at h ⊢
    rw [← r.length]; exact h
theorem VRs.pick {ds : List D} {vs : List V} (r : VRs g ρ H ds vs) : ∀ is : List Nat, VRs g ρ H (Tw.pick is ds) (Tw.pick is vs)
  | [] => .nil
  | i :: is => by
    unfold Tw.pick
    rcases r.look i with ⟨h1, h2⟩ | ⟨d, v, h1, h2, h3⟩
    · rw [List.filterMap_cons_none h1, List.filterMap_cons_none h2]; exact VRs.pick r is
    · rw [List.filterMap_cons_some h1, List.filterMap_cons_some h2]; exact .cons h3 (VRs.pick r is)
/-- how the keywords ks bind, the keyword-only parameters ms lacking, in the order is -/
theorem kb_mk {K : PySem.W.Frag} {x qual : Str} {params : Arguments} {body : List Stmt} {scope : Scope} {kws : List (Str × V)} {f : Addr} {fd : FuncData} {ps : List Str} (F : FunD K x qual params body scope [] kws f fd) (n : Nat) (ks : List Str) (ms : List (Str × V)) (is : List Nat) (mD : List D) (hmD : ∀ g ρ H, VRs g ρ H mD (ms.map (·.2))) (hk : kws ≠ []) (hms : ∀ q ∈ ms, q ∈ kws)
    (h : ∀ (D : Addr) (doc pm : Value) (an : Option Addr) (cdv ct : Value) (us mv ws : List Value), us.length = n → mv.length = ms.length → ws.length = ks.length →
      KwChain D ((ms.map (·.1)).zip mv) (bindArgs (PySem.W.fnOf x qual params body scope .none (.ref D) doc pm an cdv ct) ⟨us, ks.zip ws⟩) (ps.zip (pick is (us ++ (mv ++ ws))))) :
    ∃ gg gV, KBn K fd ps n ks gg gV ∧ ∀ g ρ H ds vs es zs, VRs g ρ H ds vs → VRs g ρ H es zs → VRs g ρ H (pick is (ds ++ (mD ++ es))) (gV vs zs) := by
  obtain ⟨mv, hb⟩ := FunD.kbinds0 F n ks ms (fun us mv ws => pick is (us ++ (mv ++ ws))) hk hms (fun r1 r2 r3 => Vals.tw_pick (r1.append (r2.append r3)) is) h
  exact ⟨_, _, hb, fun g ρ H ds vs es zs r1 r2 => (r1.append ((hmD g ρ H).append r2)).pick is⟩
/-- a tuple of the written part -/
theorem tup_k {K : PySem.W.Frag} {cm : Nat → Addr} {a : Addr} {dd : Option Addr} {its : Array Value} {n : Nat} {sl : Array (Option Value)} {ds : List D} {vs : List V} (l : K.lookup a = some ⟨.type "tuple", dd, .seq its n, sl⟩) (hz : its.size ≤ sizeLine) (r : Vals vs its.toList) (h : ∀ fx ρ H, VRs ⟨K, cm, fx, w⟩ ρ H ds vs) (fx : Hp) (ρ : List Addr) (H : Hp) : VR ⟨K, cm, fx, w⟩ ρ H (.tup ds) (.ref a) :=
  .tup (.inr (.inr ⟨_, its, n, l, rfl, rfl, hz, r⟩)) (h fx ρ H)
end Tw
end
section
set_option Elab.async false
set_option linter.all false
set_option maxRecDepth 100000
set_option maxHeartbeats 1000000
namespace Tw
open PySem PySem.Spec L2
variable {g g' : Gx} {ρ ρ' : List Addr} {H H' : Hp} {L L' : List O}
mutual
def mapR (φ : Nat → Option Nat) : D → Option D
  | .non => some .non
  | .bl b => some (.bl b)
  | .int i => some (.int i)
  | .str x => some (.str x)
  | .tup xs => (mapRs φ xs).map .tup
  | .ref n => (φ n).map .ref
  | .cls c => some (.cls c)
  | .ty n => some (.ty n)
  | .rol xs => (mapRs φ xs).map .rol
def mapRs (φ : Nat → Option Nat) : List D → Option (List D)
  | [] => some []
  | d :: ds => match mapR φ d, mapRs φ ds with
    | some e, some es => some (e :: es)
    | _, _ => none
end
def mapF (φ : Nat → Option Nat) : List (Str × D) → Option (List (Str × D))
  | [] => some []
  | (f, d) :: r => match mapR φ d, mapF φ r with
    | some e, some es => some ((f, e) :: es)
    | _, _ => none
def mapK (φ : Nat → Option Nat) : List (Key × D) → Option (List (Key × D))
  | [] => some []
  | (f, d) :: r => match mapR φ d, mapK φ r with
    | some e, some es => some ((f, e) :: es)
    | _, _ => none
def mapN (φ : Nat → Option Nat) : List (D × D) → Option (List (D × D))
  | [] => some []
  | (f, d) :: r => match mapR φ d, mapN φ r with
    | some e, some es => some ((f, e) :: es)
    | _, _ => none
def mapO (φ : Nat → Option Nat) : O → Option O
  | .lst xs => (mapRs φ xs).map .lst
  | .ins c fs => (mapF φ fs).map (.ins c)
  | .dic lk ks => (mapK φ ks).map (.dic lk)
  | .nd lk ks => (mapN φ ks).map (.nd lk)
  | .gen t ds => (mapRs φ ds).map (.gen t)
def Rn (φ : Nat → Option Nat) (ρ ρ' : List Addr) : Prop := ∀ n m, φ n = some m → ∀ a, ρ[n]? = some a → ρ'[m]? = some a
mutual
theorem VR.map {φ : Nat → Option Nat} (h : Rn φ ρ ρ') (hK : g'.K = g.K) (hc : g'.cm = g.cm) : ∀ {d : D} {v : V} {e : D}, VR g ρ H d v → mapR φ d = some e → VR g' ρ' H e v
  | _, _, _, .non, q => by cases q; exact .non
  | _, _, _, .bl b, q => by cases q; exact .bl b
  | _, _, _, .int i, q => by cases q; exact .int i
  | _, _, _, .str x, q => by cases q; exact .str x
  | _, _, _, .cls c, q => by cases q; rw [← hc]; exact .cls c
  | _, _, _, .ty c, q => by cases q; exact .ty c
  | _, _, _, .ref (n := n) e, q => by
    unfold mapR at q
    cases h1 : φ n with
    | none => rw [h1] at q; cases q
    | some m => rw [h1] at q; cases q; exact .ref (h n m h1 _ e)
  | _, _, _, .tup (ds := ds) s r, q => by
    unfold mapR at q
    cases h1 : mapRs φ ds with
    | none => rw [h1] at q; cases q
    | some es => rw [h1] at q; cases q; exact .tup (by rw [hK]; exact s) (VRs.map h hK hc r h1)
  | _, _, _, .rol (ds := ds) s r, q => by
    unfold mapR at q
    cases h1 : mapRs φ ds with
    | none => rw [h1] at q; cases q
    | some es => rw [h1] at q; cases q; exact .rol (by rw [hK]; exact s) (VRs.map h hK hc r h1)
theorem VRs.map {φ : Nat → Option Nat} (h : Rn φ ρ ρ') (hK : g'.K = g.K) (hc : g'.cm = g.cm) : ∀ {ds : List D} {vs : List V} {es : List D}, VRs g ρ H ds vs → mapRs φ ds = some es → VRs g' ρ' H es vs
  | _, _, _, .nil, q => by cases q; exact .nil
  | _, _, _, .cons (d := d) (ds := ds) r t, q => by
    unfold mapRs at q
    split at q
    · rename_i e es h1 h2
      cases q
      exact .cons (VR.map h hK hc r h1) (VRs.map h hK hc t h2)
    · cases q
end
theorem FR.map {φ : Nat → Option Nat} (h : Rn φ ρ ρ') (hK : g'.K = g.K) (hc : g'.cm = g.cm) : ∀ {ds : List (Str × D)} {vs : List (Str × V)} {es : List (Str × D)}, FR g ρ H ds vs → mapF φ ds = some es → FR g' ρ' H es vs
  | _, _, _, .nil, q => by cases q; exact .nil
  | _, _, _, .cons r t, q => by
    unfold mapF at q
    split at q
    · rename_i e es h1 h2
      cases q
      exact .cons (VR.map h hK hc r h1) (FR.map h hK hc t h2)
    · cases q
theorem KR.map {φ : Nat → Option Nat} (h : Rn φ ρ ρ') (hK : g'.K = g.K) (hc : g'.cm = g.cm) : ∀ {ds : List (Key × D)} {vs : List (Key × V)} {es : List (Key × D)}, KR g ρ H ds vs → mapK φ ds = some es → KR g' ρ' H es vs
  | _, _, _, .nil, q => by cases q; exact .nil
  | _, _, _, .cons r t, q => by
    unfold mapK at q
    split at q
    · rename_i e es h1 h2
      cases q
      exact .cons (VR.map h hK hc r h1) (KR.map h hK hc t h2)
    · cases q
mutual
theorem nk_map {φ : Nat → Option Nat} : ∀ (d : D) (k : NestedKey), nkD d = some k → mapR φ d = some d
  | .non, _, _ => rfl
  | .bl _, _, _ => rfl
  | .int _, _, _ => rfl
  | .str _, _, _ => rfl
  | .tup ds, k, h => by
    unfold nkD at h
    cases h1 : nkDs ds with
    | none => rw [h1] at h; cases h
    | some ks =>
      unfold mapR
      rw [nks_map ds ks h1]
      rfl
  | .rol _, _, h => by cases h
  | .ref _, _, h => by cases h
  | .cls _, _, h => by cases h
  | .ty _, _, h => by cases h
theorem nks_map {φ : Nat → Option Nat} : ∀ (ds : List D) (ks : List NestedKey), nkDs ds = some ks → mapRs φ ds = some ds
  | [], _, _ => rfl
  | d :: ds, ks, h => by
    unfold nkDs at h
    split at h
    · rename_i k ks' h1 h2
      unfold mapRs
      rw [nk_map d k h1, nks_map ds ks' h2]
    · cases h
end
theorem NR.map {φ : Nat → Option Nat} (h : Rn φ ρ ρ') (hK : g'.K = g.K) (hc : g'.cm = g.cm) : ∀ {ds : List (D × D)} {vs : List (NestedKey × Addr × V)} {es : List (D × D)}, NR g ρ H ds vs → mapN φ ds = some es → NR g' ρ' H es vs
  | _, _, _, .nil, q => by cases q; exact .nil
  | _, _, _, .cons a b r r2 t, q => by
    unfold mapN at q
    split at q
    · rename_i e es h1 h2
      cases q
      exact .cons a b (VR.map h hK hc r (nk_map _ _ a)) (VR.map h hK hc r2 h1) (NR.map h hK hc t h2)
    · cases q
theorem or_map {φ : Nat → Option Nat} (h : Rn φ ρ ρ') (hK : g'.K = g.K) (hc : g'.cm = g.cm) (hw : g'.w = g.w) {a : Addr} {o o' : O} (r : OR g ρ H a o) (q : mapO φ o = some o') : OR g' ρ' H a o' := by
  unfold mapO at q
  split at q
  · rename_i xs
    cases h1 : mapRs φ xs with
    | none => rw [h1] at q; cases q
    | some ys =>
      rw [h1] at q; cases q
      obtain ⟨vs, e, r⟩ := r
      exact ⟨vs, e, r.map h hK hc h1⟩
  · rename_i c fs
    cases h1 : mapF φ fs with
    | none => rw [h1] at q; cases q
    | some ys =>
      rw [h1] at q; cases q
      obtain ⟨dx, vs, e, r⟩ := r
      exact ⟨dx, vs, by rw [hc]; exact e, r.map h hK hc h1⟩
  · rename_i lk ks
    cases h1 : mapK φ ks with
    | none => rw [h1] at q; cases q
    | some ys =>
      rw [h1] at q; cases q
      cases lk with
      | false => obtain ⟨vs, e, r⟩ := r; exact ⟨vs, e, r.map h hK hc h1⟩
      | true => obtain ⟨vs, o, e, r⟩ := r; exact ⟨vs, o, e, r.map h hK hc h1⟩
  · rename_i lk ks
    cases h1 : mapN φ ks with
    | none => rw [h1] at q; cases q
    | some ys =>
      rw [h1] at q; cases q
      cases lk with
      | false => obtain ⟨vs, e, r⟩ := r; exact ⟨vs, by rw [hw]; exact e, r.map h hK hc h1⟩
      | true => obtain ⟨vs, o, e, r⟩ := r; exact ⟨vs, o, by rw [hw]; exact e, r.map h hK hc h1⟩
  · rename_i t ds
    cases h1 : mapRs φ ds with
    | none => rw [h1] at q; cases q
    | some ys =>
      rw [h1] at q; cases q
      obtain ⟨vs, o, e, q, r⟩ := r
      exact ⟨vs, o, e, by rw [hc]; exact q, r.map h hK hc h1⟩
mutual
def refsD : D → List Nat
  | .ref n => [n]
  | .tup xs => refsDs xs
  | .rol xs => refsDs xs
  | .non => [] | .bl _ => [] | .int _ => [] | .str _ => [] | .cls _ => [] | .ty _ => []
def refsDs : List D → List Nat
  | [] => []
  | d :: ds => refsD d ++ refsDs ds
end
def refsO : O → List Nat
  | .lst xs => refsDs xs
  | .ins _ fs => refsDs (fs.map (·.2))
  | .dic _ ks => refsDs (ks.map (·.2))
  | .nd _ ks => refsDs (ks.map (·.2))
  | .gen _ ds => refsDs ds
def reach (L : List O) : Nat → List Nat → List Nat → List Nat
  | 0, _, seen => seen
  | _ + 1, [], seen => seen
  | k + 1, n :: todo, seen => if seen.contains n = true then reach L k todo seen else match L[n]? with
    | some o => reach L k (refsO o ++ todo) (seen ++ [n])
    | none => seen
def posN : List Nat → Nat → Option Nat
  | [], _ => none
  | m :: ns, n => if m = n then some 0 else (posN ns n).map (· + 1)
theorem posN_get : ∀ {ns : List Nat} {n j : Nat}, posN ns n = some j → ns[j]? = some n
  | [], _, _, h => by cases h
  | m :: ns, n, j, h => by
    unfold posN at h
    split at h
    · rename_i e; cases h; simp [e]
    · cases h1 : posN ns n with
      | none => rw [h1] at h; cases h
      | some i => rw [h1] at h; cases h; simpa using posN_get h1
def setAll : List Nat → List O → List O → List O
  | n :: ns, o :: os, L => setAll ns os (L.set n o)
  | _, _, L => L
theorem setAll_len : ∀ (ns : List Nat) (os L : List O), (setAll ns os L).length = L.length
  | [], _, _ => rfl
  | _ :: _, [], _ => rfl
  | n :: ns, o :: os, L => by unfold setAll; rw [setAll_len ns os]; simp
theorem setAll_out : ∀ (ns : List Nat) (os L : List O) (i : Nat), i ∉ ns → (setAll ns os L)[i]? = L[i]?
  | [], _, _, _, _ => rfl
  | _ :: _, [], _, _, _ => rfl
  | n :: ns, o :: os, L, i, h => by
    unfold setAll
    rw [setAll_out ns os _ i (fun z => h (List.mem_cons_of_mem _ z)), List.getElem?_set_ne (fun z => h (by rw [← z]; exact List.mem_cons_self))]
theorem setAll_in : ∀ (ns : List Nat) (os L : List O) (j i : Nat), ns.Nodup → ns[j]? = some i → i < L.length → j < os.length → (setAll ns os L)[i]? = os[j]?
  | [], _, _, j, i, _, h, _, _ => by simp at h
  | _ :: _, [], _, j, i, _, _, _, h => by simp at h
  | n :: ns, o :: os, L, 0, i, nd, h, hl, _ => by
    simp at h
    subst h
    unfold setAll
    rw [setAll_out ns os _ n (List.nodup_cons.mp nd).1, List.getElem?_set_self hl]
    rfl
  | n :: ns, o :: os, L, j + 1, i, nd, h, hl, hj => by
    unfold setAll
    rw [setAll_in ns os _ j i (List.nodup_cons.mp nd).2 (by simpa using h) (by simpa using hl) (by simpa using hj)]
    simp
def psi (ns : List Nat) (N : Nat) (j : Nat) : Option Nat := if j < ns.length then ns[j]? else some (N + (j - ns.length))
def small (n : Nat) (ns : List Nat) : Bool := ns.all fun m => decide (m < n)
def lfuel : Nat := 100000
def lback (ns : List Nat) (L L2 : List O) (rs : List Nat) : List O := if small L.length rs = true ∧ ((L2.take ns.length).all fun o => small L.length (refsO o)) = true then setAll ns L2 L else setAll ns L2 L ++ L2.drop ns.length
def lrunAt (ns : List Nat) (F : FS) : FS := fun ds L => match mapRs (posN ns) ds, optAll (fun n => L[n]?) ns with
  | some es, some os => match optAll (mapO (posN ns)) os with
    | some os' => if ns.Nodup then (match F es os' with
      | .ok d L' => match mapR (psi ns L.length) d, optAll (mapO (psi ns L.length)) L' with
        | some d', some L2 => .ok d' (lback ns L L2 (refsD d'))
        | _, _ => .bad
      | .ex c fs L' => match mapF (psi ns L.length) fs, optAll (mapO (psi ns L.length)) L' with
        | some fs', some L2 => .ex c fs' (lback ns L L2 (refsDs (fs'.map (·.2))))
        | _, _ => .bad
      | .bad => .bad) else .bad
    | none => .bad
  | _, _ => .bad
def lrun (F : FS) : FS := fun ds L => lrunAt (reach L lfuel (refsDs ds) []) F ds L
theorem optAll_len {α β : Type} {f : α → Option β} : ∀ {l : List α} {r : List β}, optAll f l = some r → l.length = r.length
  | [], _, h => by cases h; rfl
  | x :: xs, r, h => by
    unfold optAll at h
    split at h
    · rename_i y ys h1 h2
      cases h
      simp [optAll_len h2]
    · cases h
theorem optAll_get {α β : Type} {f : α → Option β} : ∀ {l : List α} {r : List β} {i : Nat} {x : α}, optAll f l = some r → l[i]? = some x → ∃ y, r[i]? = some y ∧ f x = some y
  | [], _, i, x, h, e => by simp at e
  | z :: zs, r, i, x, h, e => by
    unfold optAll at h
    split at h
    · rename_i y ys h1 h2
      cases h
      cases i with
      | zero => simp at e; subst e; exact ⟨y, rfl, h1⟩
      | succ i =>
        obtain ⟨w, a, b⟩ := optAll_get h2 (show zs[i]? = some x by simpa using e)
        exact ⟨w, by simpa using a, b⟩
    · cases h
theorem optAll_getR {α β : Type} {f : α → Option β} {l : List α} {r : List β} {i : Nat} {y : β} (h : optAll f l = some r) (e : r[i]? = some y) : ∃ x, l[i]? = some x ∧ f x = some y := by
  obtain ⟨hi, _⟩ := List.getElem?_eq_some_iff.mp e
  rw [← optAll_len h] at hi
  obtain ⟨z, a, b⟩ := optAll_get h (show l[i]? = some l[i] by simp [hi])
  rw [a] at e
  cases e
  exact ⟨_, by simp [hi], b⟩
mutual
theorem VR.shrink {x : List Addr} : ∀ {d : D} {v : V}, VR g (ρ ++ x) H d v → (∀ n ∈ refsD d, n < ρ.length) → VR g ρ H d v
  | _, _, .non, _ => .non
  | _, _, .bl b, _ => .bl b
  | _, _, .int i, _ => .int i
  | _, _, .str x, _ => .str x
  | _, _, .cls c, _ => .cls c
  | _, _, .ty c, _ => .ty c
  | _, _, .ref e, h => by
    have hn := h _ List.mem_cons_self
    rw [List.getElem?_append_left hn] at e
    exact .ref e
  | _, _, .tup s r, h => .tup s (VRs.shrink r h)
  | _, _, .rol s r, h => .rol s (VRs.shrink r h)
theorem VRs.shrink {x : List Addr} : ∀ {ds : List D} {vs : List V}, VRs g (ρ ++ x) H ds vs → (∀ n ∈ refsDs ds, n < ρ.length) → VRs g ρ H ds vs
  | _, _, .nil, _ => .nil
  | _, _, .cons r t, h => .cons (VR.shrink r fun n hn => h n (List.mem_append_left _ hn)) (VRs.shrink t fun n hn => h n (List.mem_append_right _ hn))
end
theorem FR.shrink {x : List Addr} : ∀ {fs : List (Str × D)} {vs : List (Str × V)}, FR g (ρ ++ x) H fs vs → (∀ n ∈ refsDs (fs.map (·.2)), n < ρ.length) → FR g ρ H fs vs
  | _, _, .nil, _ => .nil
  | _, _, .cons r t, h => .cons (VR.shrink r fun n hn => h n (List.mem_append_left _ hn)) (FR.shrink t fun n hn => h n (List.mem_append_right _ hn))
theorem KR.shrink {x : List Addr} : ∀ {fs : List (Key × D)} {vs : List (Key × V)}, KR g (ρ ++ x) H fs vs → (∀ n ∈ refsDs (fs.map (·.2)), n < ρ.length) → KR g ρ H fs vs
  | _, _, .nil, _ => .nil
  | _, _, .cons r t, h => .cons (VR.shrink r fun n hn => h n (List.mem_append_left _ hn)) (KR.shrink t fun n hn => h n (List.mem_append_right _ hn))
mutual
theorem nk_refs : ∀ (d : D) (k : NestedKey), nkD d = some k → refsD d = []
  | .non, _, _ => rfl
  | .bl _, _, _ => rfl
  | .int _, _, _ => rfl
  | .str _, _, _ => rfl
  | .tup ds, k, h => by
    unfold nkD at h
    cases h1 : nkDs ds with
    | none => rw [h1] at h; cases h
    | some ks => exact nks_refs ds ks h1
  | .rol _, _, h => by cases h
  | .ref _, _, h => by cases h
  | .cls _, _, h => by cases h
  | .ty _, _, h => by cases h
theorem nks_refs : ∀ (ds : List D) (ks : List NestedKey), nkDs ds = some ks → refsDs ds = []
  | [], _, _ => rfl
  | d :: ds, ks, h => by
    unfold nkDs at h
    split at h
    · rename_i k ks' h1 h2
      show refsD d ++ refsDs ds = []
      rw [nk_refs d k h1, nks_refs ds ks' h2]
      rfl
    · cases h
end
theorem NR.shrink {x : List Addr} : ∀ {fs : List (D × D)} {vs : List (NestedKey × Addr × V)}, NR g (ρ ++ x) H fs vs → (∀ n ∈ refsDs (fs.map (·.2)), n < ρ.length) → NR g ρ H fs vs
  | _, _, .nil, _ => .nil
  | _, _, .cons a b r r2 t, h => .cons a b (VR.shrink r fun n hn => by rw [nk_refs _ _ a] at hn; cases hn) (VR.shrink r2 fun n hn => h n (List.mem_append_left _ hn)) (NR.shrink t fun n hn => h n (List.mem_append_right _ hn))
theorem or_shrink {x : List Addr} {a : Addr} {o : O} (r : OR g (ρ ++ x) H a o) (h : ∀ n ∈ refsO o, n < ρ.length) : OR g ρ H a o := by
  cases o with
  | lst ds => obtain ⟨vs, e, r⟩ := r; exact ⟨vs, e, r.shrink h⟩
  | ins c fs => obtain ⟨dx, vs, e, r⟩ := r; exact ⟨dx, vs, e, r.shrink h⟩
  | dic lk ks =>
    cases lk with
    | false => obtain ⟨vs, e, r⟩ := r; exact ⟨vs, e, r.shrink h⟩
    | true => obtain ⟨vs, o, e, r⟩ := r; exact ⟨vs, o, e, r.shrink h⟩
  | nd lk ks =>
    cases lk with
    | false => obtain ⟨vs, e, r⟩ := r; exact ⟨vs, e, r.shrink h⟩
    | true => obtain ⟨vs, o, e, r⟩ := r; exact ⟨vs, o, e, r.shrink h⟩
  | gen t ds => obtain ⟨vs, o, e, q, r⟩ := r; exact ⟨vs, o, e, q, r.shrink h⟩
theorem small_lt {n : Nat} {ns : List Nat} (h : small n ns = true) : ∀ m ∈ ns, m < n := fun m hm => of_decide_eq_true (List.all_eq_true.mp h m hm)
/-- what the small heap's places are in the large one -/
theorem lback_hr {w : World} {K : PySem.W.Frag} {cm : Nat → Addr} {fx fx' : Hp} {ns : List Nat} {ρ ρ' ρ0 : List Addr} {L L' L2 : List O} {H H' : Hp} {rs : List Nat} (nd : ns.Nodup) (hh : HR ⟨K, cm, fx, w⟩ ρ L H) (t : TP H H')
    (h0 : ∀ (j n : Nat), ns[j]? = some n → ∃ a, ρ[n]? = some a ∧ ρ0[j]? = some a) (l0 : ρ0.length = ns.length) (hfx : ∀ (n : Nat) (a : Addr) (u : HO), ρ[n]? = some a → n ∉ ns → H a = some u → fx' a = some u) (hfx2 : ∀ (a : Addr) (u : HO), fx a = some u → fx' a = some u)
    (p : ρ0 <+: ρ') (h2 : HR ⟨K, cm, fx', w⟩ ρ' L' H') (e2 : optAll (mapO (psi ns L.length)) L' = some L2) :
    ∃ ρ2, ρ <+: ρ2 ∧ HR ⟨K, cm, fx, w⟩ ρ2 (lback ns L L2 rs) H' ∧ ∀ d d' v, mapR (psi ns L.length) d = some d' → (∀ n ∈ refsD d', n ∈ rs) → VR ⟨K, cm, fx', w⟩ ρ' H' d v → VR ⟨K, cm, fx, w⟩ ρ2 H' d' v := by
  have lp : ns.length ≤ ρ'.length := by rw [← l0]; exact p.length_le
  have l2 : L2.length = ρ'.length := by rw [← optAll_len e2, h2.len]
  have inb : ∀ (j n : Nat), ns[j]? = some n → n < L.length := fun j n e => by
    obtain ⟨a, e1, _⟩ := h0 j n e
    obtain ⟨q, _⟩ := List.getElem?_eq_some_iff.mp e1
    rw [← hh.len]; exact q
  -- the new places are no old ones
  have fresh : ∀ (k : Nat) (a : Addr), ns.length ≤ k → ρ'[k]? = some a → ∀ n : Nat, ρ[n]? ≠ some a := by
    intro k a hk ek n en
    by_cases hn : n ∈ ns
    · obtain ⟨j, hj⟩ := List.getElem?_of_mem hn
      obtain ⟨b, e1, e3⟩ := h0 j n hj
      rw [en] at e1; cases e1
      have := nodup_get h2.nd (pre_get p e3) ek
      have hjl := (List.getElem?_eq_some_iff.mp hj).1
      omega
    · obtain ⟨o, eo⟩ := hh.there en
      obtain ⟨u, eu⟩ := (hh.ob n o a eo en).some
      have := hfx n a u en hn eu
      have z := h2.nfx k a ek
      rw [show (⟨K, cm, fx', w⟩ : Gx).fx a = fx' a from rfl, this] at z
      cases z
  have keepAll : ∀ ρ2 : List Addr, ρ2 = ρ ++ ρ'.drop ns.length → Rn (psi ns L.length) ρ' ρ2 := by
    rintro ρ2 rfl j m hm a ea
    unfold psi at hm
    split at hm
    · obtain ⟨b, e1, e3⟩ := h0 j m hm
      have := pre_get p e3
      rw [ea] at this; cases this
      rw [List.getElem?_append_left (List.getElem?_eq_some_iff.mp e1).1]
      exact e1
    · rename_i hj
      cases hm
      rw [List.getElem?_append_right (by rw [hh.len]; omega), List.getElem?_drop]
      rw [show ns.length + (L.length + (j - ns.length) - ρ.length) = j by rw [hh.len]; omega]
      exact ea
  -- the heap with all new places
  have full : HR ⟨K, cm, fx, w⟩ (ρ ++ ρ'.drop ns.length) (setAll ns L2 L ++ L2.drop ns.length) H' := by
    have rn := keepAll _ rfl
    refine ⟨?_, ?_, ?_, ?_, fun a u e => h2.fxs a u (hfx2 a u e)⟩
    · rw [List.length_append, List.length_append, setAll_len, List.length_drop, List.length_drop, hh.len, l2]
    · rw [List.nodup_append]
      refine ⟨hh.nd, h2.nd.sublist (List.drop_sublist _ _), fun a ha b hb e => ?_⟩
      subst e
      obtain ⟨n, hn⟩ := List.getElem?_of_mem ha
      obtain ⟨k, hk⟩ := List.getElem?_of_mem hb
      rw [List.getElem?_drop] at hk
      exact fresh _ a (Nat.le_add_right _ _) hk n hn
    · intro n o a eo ea
      by_cases hn : n < ρ.length
      · rw [List.getElem?_append_left hn] at ea
        rw [List.getElem?_append_left (by rw [setAll_len, ← hh.len]; exact hn)] at eo
        by_cases hi : n ∈ ns
        · obtain ⟨j, hj⟩ := List.getElem?_of_mem hi
          have hjl := (List.getElem?_eq_some_iff.mp hj).1
          rw [setAll_in ns L2 L j n nd hj (inb j n hj) (by rw [l2]; omega)] at eo
          obtain ⟨o1, e3, e4⟩ := optAll_getR e2 eo
          obtain ⟨b, e5, e6⟩ := h0 j n hj
          rw [ea] at e5; cases e5
          exact or_map (g := ⟨K, cm, fx', w⟩) (g' := ⟨K, cm, fx, w⟩) rn rfl rfl rfl (h2.ob j o1 a e3 (pre_get p e6)) e4
        · rw [setAll_out ns L2 L n hi] at eo
          have ob := hh.ob n o a eo ea
          obtain ⟨u, eu⟩ := ob.some
          have e7 := h2.fxs a u (hfx n a u ea hi eu)
          exact ob.mono (List.prefix_append _ _) t (e7.trans eu.symm)
      · rw [List.getElem?_append_right (by omega), List.getElem?_drop] at ea
        rw [List.getElem?_append_right (by rw [setAll_len, ← hh.len]; omega), List.getElem?_drop, setAll_len] at eo
        rw [hh.len] at ea
        obtain ⟨o1, e3, e4⟩ := optAll_getR e2 eo
        exact or_map (g := ⟨K, cm, fx', w⟩) (g' := ⟨K, cm, fx, w⟩) rn rfl rfl rfl (h2.ob _ o1 a e3 ea) e4
    · intro n a ea
      by_cases hn : n < ρ.length
      · rw [List.getElem?_append_left hn] at ea
        exact hh.nfx n a ea
      · rw [List.getElem?_append_right (by omega), List.getElem?_drop] at ea
        have z := h2.nfx _ a ea
        cases hf : fx a with
        | none => exact hf
        | some u =>
          rw [show (⟨K, cm, fx', w⟩ : Gx).fx a = fx' a from rfl, hfx2 a u hf] at z
          cases z
  by_cases hs : small L.length rs = true ∧ ((L2.take ns.length).all fun o => small L.length (refsO o)) = true
  · -- nothing new is held
    obtain ⟨hs1, hs2⟩ := hs
    have fl := full
    refine ⟨ρ, List.prefix_refl _, ?_, fun d d' v e hr r => ?_⟩
    · unfold lback
      rw [if_pos ⟨hs1, hs2⟩]
      refine ⟨by rw [setAll_len, hh.len], hh.nd, fun n o a eo ea => ?_, hh.nfx, fun a u e => h2.fxs a u (hfx2 a u e)⟩
      have hn : n < ρ.length := (List.getElem?_eq_some_iff.mp ea).1
      by_cases hi : n ∈ ns
      · refine or_shrink (fl.ob n o a (by rw [List.getElem?_append_left (by rw [setAll_len, ← hh.len]; exact hn)]; exact eo) (by rw [List.getElem?_append_left hn]; exact ea)) fun k hk => ?_
        obtain ⟨j, hj⟩ := List.getElem?_of_mem hi
        have hjl := (List.getElem?_eq_some_iff.mp hj).1
        rw [setAll_in ns L2 L j n nd hj (inb j n hj) (by rw [l2]; omega)] at eo
        have hm : o ∈ L2.take ns.length := by
          have : (L2.take ns.length)[j]? = some o := by rw [List.getElem?_take_of_lt hjl]; exact eo
          exact List.mem_of_getElem? this
        rw [hh.len]
        exact small_lt (List.all_eq_true.mp hs2 o hm) k hk
      · rw [setAll_out ns L2 L n hi] at eo
        have ob := hh.ob n o a eo ea
        obtain ⟨u, eu⟩ := ob.some
        have e7 := h2.fxs a u (hfx n a u ea hi eu)
        exact ob.mono (List.prefix_refl _) t (e7.trans eu.symm)
    · refine (VR.map (g := ⟨K, cm, fx', w⟩) (g' := ⟨K, cm, fx, w⟩) (keepAll _ rfl) rfl rfl r e : VR ⟨K, cm, fx, w⟩ (ρ ++ ρ'.drop ns.length) H' d' v).shrink fun n hn => ?_
      rw [hh.len]
      exact small_lt hs1 n (hr n hn)
  · refine ⟨ρ ++ ρ'.drop ns.length, List.prefix_append _ _, ?_, fun d d' v e _ r => ?_⟩
    · unfold lback
      rw [if_neg hs]
      exact full
    · exact VR.map (g := ⟨K, cm, fx', w⟩) (g' := ⟨K, cm, fx, w⟩) (keepAll _ rfl) rfl rfl r e
theorem nodup_map_on {α β : Type} {f : α → β} : ∀ {l : List α}, l.Nodup → (∀ a ∈ l, ∀ b ∈ l, f a = f b → a = b) → (l.map f).Nodup
  | [], _, _ => List.nodup_nil
  | x :: xs, nd, h => by
    obtain ⟨h1, h2⟩ := List.nodup_cons.mp nd
    rw [List.map_cons, List.nodup_cons]
    refine ⟨fun z => ?_, nodup_map_on h2 fun a ha b hb => h a (List.mem_cons_of_mem _ ha) b (List.mem_cons_of_mem _ hb)⟩
    obtain ⟨y, hy, e⟩ := List.mem_map.mp z
    have := h x List.mem_cons_self y (List.mem_cons_of_mem _ hy) e.symm
    subst this
    exact h1 hy
theorem lrun_sp {w : World} {K : PySem.W.Frag} {cm : Nat → Addr} {n : Nat} {F : FS} {vs : List V} {H : Hp} {Q : VK} {E : XK} (h : spF w K cm n (lrun F) vs H Q E) : spF w K cm n F vs H Q E := by
  obtain ⟨hl, fx, ρ, L, ds, hh, r, q⟩ := h
  refine ⟨hl, ?_⟩
  unfold lrun at q
  generalize reach L lfuel (refsDs ds) [] = ns at q
  unfold lrunAt at q
  split at q
  · rename_i es os e1 e2
    split at q
    · rename_i os' e3
      split at q
      · rename_i nd
        have ex : ∀ (j k : Nat), ns[j]? = some k → ∃ a, ρ[k]? = some a ∧ (ns.map fun n => (ρ[n]?).getD 0)[j]? = some a := fun j k e => by
          obtain ⟨o, a1, a2⟩ := optAll_get e2 e
          obtain ⟨a, a3, _⟩ := hh.get a2
          exact ⟨a, a3, by rw [List.getElem?_map, e]; simp [a3]⟩
        have rn : Rn (posN ns) ρ (ns.map fun n => (ρ[n]?).getD 0) := fun n m hm a ea => by
          obtain ⟨b, b1, b2⟩ := ex m n (posN_get hm)
          rw [ea] at b1; cases b1
          exact b2
        have mem : ∀ (a : Addr), a ∈ (ns.map fun n => (ρ[n]?).getD 0) → ∃ n ∈ ns, ρ[n]? = some a := fun a ha => by
          obtain ⟨n, hn, e⟩ := List.mem_map.mp ha
          obtain ⟨j, hj⟩ := List.getElem?_of_mem hn
          obtain ⟨b, b1, _⟩ := ex j n hj
          rw [b1] at e
          exact ⟨n, hn, by rw [b1]; exact congrArg some e⟩
        generalize hρ0 : (ns.map fun n => (ρ[n]?).getD 0) = ρ0 at ex rn mem
        have l0 : ρ0.length = ns.length := by rw [← hρ0]; simp
        have nd0 : ρ0.Nodup := by
          rw [← hρ0]
          refine nodup_map_on nd fun a ha b hb e => ?_
          obtain ⟨i, hi⟩ := List.getElem?_of_mem ha
          obtain ⟨j, hj⟩ := List.getElem?_of_mem hb
          obtain ⟨x, x1, _⟩ := ex i a hi
          obtain ⟨y, y1, _⟩ := ex j b hj
          rw [x1, y1] at e
          have e' : x = y := e
          subst e'
          exact nodup_get hh.nd x1 y1
        let fx' : Hp := fun a => if a ∈ ρ0 then none else H a
        have hr0 : HR ⟨K, cm, fx', w⟩ ρ0 os' H := by
          refine ⟨by rw [l0, optAll_len e2, optAll_len e3], nd0, fun j o' a eo ea => ?_, fun j a ea => if_pos (List.mem_of_getElem? ea), fun a u e => ?_⟩
          · obtain ⟨o, a1, a2⟩ := optAll_getR e3 eo
            obtain ⟨k, a3, a4⟩ := optAll_getR e2 a1
            obtain ⟨b, b1, b2⟩ := ex j k a3
            rw [ea] at b2; cases b2
            exact or_map (g := ⟨K, cm, fx, w⟩) (g' := ⟨K, cm, fx', w⟩) rn rfl rfl rfl (hh.ob k o a a4 b1) a2
          · have e : fx' a = some u := e
            by_cases ha : a ∈ ρ0
            · rw [show fx' a = none from if_pos ha] at e; cases e
            · rw [show fx' a = H a from if_neg ha] at e; exact e
        have vr0 : VRs ⟨K, cm, fx', w⟩ ρ0 H es vs := VRs.map (g := ⟨K, cm, fx, w⟩) (g' := ⟨K, cm, fx', w⟩) rn rfl rfl r e1
        have hfx : ∀ (n : Nat) (a : Addr) (u : HO), ρ[n]? = some a → n ∉ ns → H a = some u → fx' a = some u := fun n a u ea hn hu => by
          have : a ∉ ρ0 := fun ha => by
            obtain ⟨m, hm, em⟩ := mem a ha
            exact hn (nodup_get hh.nd em ea ▸ hm)
          rw [show fx' a = H a from if_neg this]
          exact hu
        have hfx2 : ∀ (a : Addr) (u : HO), fx a = some u → fx' a = some u := fun a u e => by
          have : a ∉ ρ0 := fun ha => by
            obtain ⟨m, hm, em⟩ := mem a ha
            have z := hh.nfx m a em
            rw [show (⟨K, cm, fx, w⟩ : Gx).fx a = fx a from rfl, e] at z
            cases z
          rw [show fx' a = H a from if_neg this]
          exact hh.fxs a u e
        refine ⟨fx', ρ0, os', es, hr0, vr0, ?_⟩
        cases hF : F es os' with
        | ok d L' =>
          rw [hF] at q
          simp only at q
          split at q
          · rename_i d' L2 e4 e5
            intro v ρ' H' p t h2 rv
            obtain ⟨ρ2, p2, hr2, tr⟩ := lback_hr (rs := refsD d') nd hh t ex l0 hfx hfx2 p h2 e5
            exact q v ρ2 H' p2 t hr2 (tr d d' v e4 (fun n hn => hn) rv)
          · exact q.elim
        | ex c fs L' =>
          rw [hF] at q
          simp only at q
          split at q
          · rename_i fs' L2 e4 e5
            intro ρ' H' dx p t h2 rx
            obtain ⟨ρ2, p2, hr2, tr⟩ := lback_hr (rs := refsDs (fs'.map (·.2))) nd hh t ex l0 hfx hfx2 p h2 e5
            refine q ρ2 H' dx p2 t hr2 ?_
            have frm : ∀ {fs fs' : List (Str × D)} {vs : List (Str × V)}, mapF (psi ns L.length) fs = some fs' → (∀ n ∈ refsDs (fs'.map (·.2)), n ∈ refsDs (fs'.map (·.2))) → (∀ d d' v, mapR (psi ns L.length) d = some d' → (∀ n ∈ refsD d', n ∈ refsDs (fs'.map (·.2))) → VR ⟨K, cm, fx', w⟩ ρ' H' d v → VR ⟨K, cm, fx, w⟩ ρ2 H' d' v) → FR ⟨K, cm, fx', w⟩ ρ' H' fs vs → FR ⟨K, cm, fx, w⟩ ρ2 H' fs' vs := by
              intro fs fs' vs e _ k r
              induction r generalizing fs' with
              | nil => cases e; exact .nil
              | cons r t ih =>
                unfold mapF at e
                split at e
                · rename_i x xs h1 h2
                  cases e
                  refine .cons (k _ _ _ h1 (fun n hn => List.mem_append_left _ hn) r) (ih h2 (fun _ h => h) fun d d' v e hn r => k d d' v e (fun n h => List.mem_append_right _ (hn n h)) r)
                · cases e
            rcases rx with ⟨e6, e7⟩ | ⟨d, vs', e6, e7, e8⟩
            · subst e6
              cases e4
              exact .inl ⟨rfl, e7⟩
            · exact .inr ⟨d, vs', e6, e7, frm e4 (fun _ h => h) tr e8⟩
          · exact q.elim
        | bad => rw [hF] at q; exact q.elim
      · exact q.elim
    · exact q.elim
  · exact q.elim
theorem fnF_lrun {P : Program} {w : World} {K : PySem.W.Frag} {mg : Str → Option Value} {base : Heap} {cm : Nat → Addr} {k : Nat} {f : Addr} {fd : FuncData} {ps : List Str} {F : FS} (h : FnF P w K mg base cm k f fd ps F) : FnF P w K mg base cm k f fd ps (lrun F) :=
  FnOk.imp h fun vs H Q E q => lrun_sp q
end Tw
end
section
set_option Elab.async false
set_option linter.all false
set_option maxRecDepth 100000
set_option maxHeartbeats 1000000
namespace Tw
open PySem PySem.Spec L2
mutual
theorem mapR_pure {φ : Nat → Option Nat} : ∀ (d : D), refsD d = [] → mapR φ d = some d
  | .non, _ => rfl
  | .bl _, _ => rfl
  | .int _, _ => rfl
  | .str _, _ => rfl
  | .cls _, _ => rfl
  | .ty _, _ => rfl
  | .ref n, h => by cases h
  | .tup xs, h => by unfold mapR; rw [mapRs_pure xs h]; rfl
  | .rol xs, h => by unfold mapR; rw [mapRs_pure xs h]; rfl
theorem mapRs_pure {φ : Nat → Option Nat} : ∀ (ds : List D), refsDs ds = [] → mapRs φ ds = some ds
  | [], _ => rfl
  | d :: ds, h => by
    have h' := List.append_eq_nil_iff.mp (show refsD d ++ refsDs ds = [] from h)
    unfold mapRs
    rw [mapR_pure d h'.1, mapRs_pure ds h'.2]
end
theorem mapF_pure {φ : Nat → Option Nat} : ∀ (fs : List (Str × D)), refsDs (fs.map (·.2)) = [] → mapF φ fs = some fs
  | [], _ => rfl
  | (f, d) :: ds, h => by
    have h' := List.append_eq_nil_iff.mp (show refsD d ++ refsDs (ds.map (·.2)) = [] from h)
    unfold mapF
    rw [mapR_pure d h'.1, mapF_pure ds h'.2]
theorem mapK_pure {φ : Nat → Option Nat} : ∀ (fs : List (Key × D)), refsDs (fs.map (·.2)) = [] → mapK φ fs = some fs
  | [], _ => rfl
  | (f, d) :: ds, h => by
    have h' := List.append_eq_nil_iff.mp (show refsD d ++ refsDs (ds.map (·.2)) = [] from h)
    unfold mapK
    rw [mapR_pure d h'.1, mapK_pure ds h'.2]
theorem mapN_pure {φ : Nat → Option Nat} : ∀ (fs : List (D × D)), refsDs (fs.map (·.2)) = [] → mapN φ fs = some fs
  | [], _ => rfl
  | (f, d) :: ds, h => by
    have h' := List.append_eq_nil_iff.mp (show refsD d ++ refsDs (ds.map (·.2)) = [] from h)
    unfold mapN
    rw [mapR_pure d h'.1, mapN_pure ds h'.2]
theorem mapO_pure {φ : Nat → Option Nat} (o : O) (h : refsO o = []) : mapO φ o = some o := by
  cases o with
  | lst xs => show (mapRs φ xs).map O.lst = _; rw [mapRs_pure xs h]; rfl
  | ins c fs => show (mapF φ fs).map (O.ins c) = _; rw [mapF_pure fs h]; rfl
  | dic lk ks => show (mapK φ ks).map (O.dic lk) = _; rw [mapK_pure ks h]; rfl
  | nd lk ks => show (mapN φ ks).map (O.nd lk) = _; rw [mapN_pure ks h]; rfl
  | gen t ds => show (mapRs φ ds).map (O.gen t) = _; rw [mapRs_pure ds h]; rfl
theorem psi_some (ns : List Nat) (N j : Nat) : ∃ m, psi ns N j = some m := by
  unfold psi
  split
  · rename_i h; exact ⟨ns[j], by simp [h]⟩
  · exact ⟨_, rfl⟩
mutual
theorem mapR_psi (ns : List Nat) (N : Nat) : ∀ d : D, ∃ e, mapR (psi ns N) d = some e
  | .non => ⟨_, rfl⟩
  | .bl _ => ⟨_, rfl⟩
  | .int _ => ⟨_, rfl⟩
  | .str _ => ⟨_, rfl⟩
  | .cls _ => ⟨_, rfl⟩
  | .ty _ => ⟨_, rfl⟩
  | .ref n => by obtain ⟨m, h⟩ := psi_some ns N n; exact ⟨.ref m, by unfold mapR; rw [h]; rfl⟩
  | .tup xs => by obtain ⟨m, h⟩ := mapRs_psi ns N xs; exact ⟨.tup m, by unfold mapR; rw [h]; rfl⟩
  | .rol xs => by obtain ⟨m, h⟩ := mapRs_psi ns N xs; exact ⟨.rol m, by unfold mapR; rw [h]; rfl⟩
theorem mapRs_psi (ns : List Nat) (N : Nat) : ∀ ds : List D, ∃ es, mapRs (psi ns N) ds = some es
  | [] => ⟨_, rfl⟩
  | d :: ds => by
    obtain ⟨e, h⟩ := mapR_psi ns N d
    obtain ⟨es, h2⟩ := mapRs_psi ns N ds
    exact ⟨e :: es, by unfold mapRs; rw [h, h2]⟩
end
theorem mapF_psi (ns : List Nat) (N : Nat) : ∀ ds : List (Str × D), ∃ es, mapF (psi ns N) ds = some es
  | [] => ⟨_, rfl⟩
  | (f, d) :: ds => by
    obtain ⟨e, h⟩ := mapR_psi ns N d
    obtain ⟨es, h2⟩ := mapF_psi ns N ds
    exact ⟨_, by unfold mapF; rw [h, h2]⟩
theorem mapK_psi (ns : List Nat) (N : Nat) : ∀ ds : List (Key × D), ∃ es, mapK (psi ns N) ds = some es
  | [] => ⟨_, rfl⟩
  | (f, d) :: ds => by
    obtain ⟨e, h⟩ := mapR_psi ns N d
    obtain ⟨es, h2⟩ := mapK_psi ns N ds
    exact ⟨_, by unfold mapK; rw [h, h2]⟩
theorem mapN_psi (ns : List Nat) (N : Nat) : ∀ ds : List (D × D), ∃ es, mapN (psi ns N) ds = some es
  | [] => ⟨_, rfl⟩
  | (f, d) :: ds => by
    obtain ⟨e, h⟩ := mapR_psi ns N d
    obtain ⟨es, h2⟩ := mapN_psi ns N ds
    exact ⟨_, by unfold mapN; rw [h, h2]⟩
theorem mapO_psi (ns : List Nat) (N : Nat) (o : O) : ∃ e, mapO (psi ns N) o = some e := by
  cases o with
  | lst xs => obtain ⟨m, h⟩ := mapRs_psi ns N xs; exact ⟨_, by show (mapRs _ xs).map O.lst = _; rw [h]; rfl⟩
  | ins c fs => obtain ⟨m, h⟩ := mapF_psi ns N fs; exact ⟨_, by show (mapF _ fs).map (O.ins c) = _; rw [h]; rfl⟩
  | dic lk ks => obtain ⟨m, h⟩ := mapK_psi ns N ks; exact ⟨_, by show (mapK _ ks).map (O.dic lk) = _; rw [h]; rfl⟩
  | nd lk ks => obtain ⟨m, h⟩ := mapN_psi ns N ks; exact ⟨_, by show (mapN _ ks).map (O.nd lk) = _; rw [h]; rfl⟩
  | gen t ds => obtain ⟨m, h⟩ := mapRs_psi ns N ds; exact ⟨_, by show (mapRs _ ds).map (O.gen t) = _; rw [h]; rfl⟩
theorem optAll_psi (ns : List Nat) (N : Nat) : ∀ L : List O, ∃ L2, optAll (mapO (psi ns N)) L = some L2
  | [] => ⟨_, rfl⟩
  | o :: L => by
    obtain ⟨e, h⟩ := mapO_psi ns N o
    obtain ⟨es, h2⟩ := optAll_psi ns N L
    exact ⟨e :: es, by unfold optAll; rw [h, h2]⟩
theorem optAll_cons {α β : Type} {f : α → Option β} {x : α} {xs : List α} {y : β} {ys : List β} (h : f x = some y) (h2 : optAll f xs = some ys) : optAll f (x :: xs) = some (y :: ys) := by
  unfold optAll
  rw [h, h2]
/-- places os (at ns), all without places in them: what F does there is done here -/
theorem lrunAt_flat {F : FS} {ns : List Nat} {ds es : List D} {L os os2 X : List O} {d : D} (nd : ns.Nodup) (h1 : mapRs (posN ns) ds = some es) (h2 : optAll (fun n => L[n]?) ns = some os) (h3 : ∀ o ∈ os, refsO o = []) (hF : F es os = .ok d (os2 ++ X)) (hl : os2.length = ns.length) (h4 : ∀ o ∈ os2, refsO o = []) (hd : refsD d = []) :
    lrunAt ns F ds L = .ok d (setAll ns os2 L) := by
  unfold lrunAt
  have e3 : optAll (mapO (posN ns)) os = some os := by
    clear h2 hF
    induction os with
    | nil => rfl
    | cons o os ih => exact optAll_cons (mapO_pure o (h3 o List.mem_cons_self)) (ih fun o ho => h3 o (List.mem_cons_of_mem _ ho))
  obtain ⟨L2, e5⟩ := optAll_psi ns L.length (os2 ++ X)
  have hL2 : ∀ (a b : List O) (r : List O), (∀ o ∈ a, refsO o = []) → optAll (mapO (psi ns L.length)) (a ++ b) = some r → ∃ s, r = a ++ s := by
    intro a
    induction a with
    | nil => intro b r _ _; exact ⟨r, rfl⟩
    | cons o a ih =>
      intro b r h e
      rw [List.cons_append] at e
      unfold optAll at e
      split at e
      · rename_i y ys q1 q2
        cases e
        rw [mapO_pure o (h o List.mem_cons_self)] at q1
        cases q1
        obtain ⟨s, rfl⟩ := ih b ys (fun o ho => h o (List.mem_cons_of_mem _ ho)) q2
        exact ⟨s, rfl⟩
      · cases e
  obtain ⟨s, rfl⟩ := hL2 os2 X L2 h4 e5
  rw [h1, h2]
  simp only [e3, if_pos nd, hF, mapR_pure d hd, e5]
  unfold lback
  rw [if_pos]
  · congr 1
    have : ∀ (ns : List Nat) (a b L : List O), a.length = ns.length → setAll ns (a ++ b) L = setAll ns a L := by
      intro ns
      induction ns with
      | nil => intro a b L _; cases a <;> rfl
      | cons n ns ih =>
        intro a b L h
        cases a with
        | nil => simp at h
        | cons o a => exact ih a b _ (by simpa using h)
    exact this ns os2 s L hl
  · refine ⟨by rw [hd]; rfl, ?_⟩
    rw [← hl, List.take_left]
    rw [List.all_eq_true]
    intro o ho
    rw [h4 o ho]
    rfl
theorem lrun_pure {F : FS} {ds : List D} {L X : List O} {d : D} (h : refsDs ds = []) (hF : F ds [] = .ok d X) (hd : refsD d = []) : lrun F ds L = .ok d L := by
  unfold lrun
  rw [h]
  have : reach L lfuel [] [] = [] := rfl
  rw [this]
  exact lrunAt_flat (os := []) (os2 := []) List.nodup_nil (mapRs_pure ds h) rfl (by simp) hF rfl (by simp) hd
theorem reach_one {L : List O} {n : Nat} {o : O} (h : L[n]? = some o) (ho : refsO o = []) : reach L lfuel [n] [] = [n] := by
  show reach L (99999 + 1) [n] [] = [n]
  unfold reach
  simp only [List.contains_nil, Bool.false_eq_true, if_false, h, ho]
  rfl
theorem lrun_bag {F : FS} {n : Nat} {rest : List D} {L X : List O} {o o' : O} {d : D} (hr : refsDs rest = []) (h : L[n]? = some o) (ho : refsO o = []) (hF : F (.ref 0 :: rest) [o] = .ok d (o' :: X)) (ho' : refsO o' = []) (hd : refsD d = []) : lrun F (.ref n :: rest) L = .ok d (L.set n o') := by
  unfold lrun
  have e : refsDs (.ref n :: rest) = [n] := by show [n] ++ refsDs rest = [n]; rw [hr]; rfl
  rw [e, reach_one h ho]
  refine lrunAt_flat (os := [o]) (os2 := [o']) (es := .ref 0 :: rest) (X := X) (by simp) ?_ (optAll_cons h rfl) (by simpa using ho) hF rfl (by simpa using ho') hd
  unfold mapRs
  rw [mapRs_pure rest hr]
  simp [mapR, posN]
/-- a new thing is handed back -/
theorem lrun_new {F : FS} {ds : List D} {L X : List O} {o : O} (h : refsDs ds = []) (hF : F ds [] = .ok (.ref 0) [o]) (ho : refsO o = []) : lrun F ds L = .ok (.ref L.length) (L ++ [o]) := by
  unfold lrun
  rw [h]
  have : reach L lfuel [] [] = [] := rfl
  rw [this]
  unfold lrunAt
  rw [mapRs_pure ds h]
  have e : mapR (psi [] L.length) (.ref 0) = some (.ref L.length) := rfl
  have e2 : optAll (mapO (psi [] L.length)) [o] = some [o] := optAll_cons (mapO_pure o ho) rfl
  show (match F ds [] with | .ok d L' => _ | .ex c fs L' => _ | .bad => _) = _
  rw [hF]
  simp only [e, e2]
  unfold lback
  rw [if_neg]
  · rfl
  · intro z
    have : decide (L.length < L.length) = true := by
      have := z.1
      simp [refsD, small] at this
    simp at this
theorem loop_nx {src : Src} {t : MG} {body : MS} (I : Nat → En → List O → Prop) (hok : ∀ i ε L, I i ε L → src.ok L = true) : ∀ (ds : List D) (k : Nat) (ε : En) (L : List O),
    (∀ i d ε L, ds[i]? = some d → I (k + i) ε L → ∃ ε1 ε2 L2, t.f d ε = some ε1 ∧ (body ε1 L = .nx ε2 L2 ∨ body ε1 L = .ct ε2 L2) ∧ I (k + i + 1) ε2 L2) → I k ε L → ∃ ε2 L2, loopF src t body ds ε L = .nx ε2 L2 ∧ I (k + ds.length) ε2 L2
  | [], k, ε, L, _, h0 => ⟨ε, L, by unfold loopF; rw [if_pos (hok _ _ _ h0)], h0⟩
  | d :: ds, k, ε, L, step, h0 => by
    obtain ⟨ε1, ε2, L2, h1, h2, h3⟩ := step 0 d ε L rfl h0
    obtain ⟨ε3, L3, h4, h5⟩ := loop_nx I hok ds (k + 1) ε2 L2 (fun i d ε L e hi => by
      have := step (i + 1) d ε L (by simpa using e) (by rw [← Nat.add_assoc, Nat.add_right_comm]; exact hi)
      rw [← Nat.add_assoc, Nat.add_right_comm k i 1] at this
      exact this) h3
    refine ⟨ε3, L3, ?_, by rw [List.length_cons, ← Nat.add_assoc, Nat.add_right_comm]; exact h5⟩
    unfold loopF
    rw [if_pos (hok _ _ _ h0), h1]
    rcases h2 with h2 | h2 <;> simp only [h2] <;> exact h4
/-- the same from 0 -/
theorem loop_all {src : Src} {t : MG} {body : MS} (I : Nat → En → List O → Prop) {ds : List D} {ε : En} {L : List O} (hok : ∀ i ε L, I i ε L → src.ok L = true) (h0 : I 0 ε L)
    (step : ∀ i d ε L, ds[i]? = some d → I i ε L → ∃ ε1 ε2 L2, t.f d ε = some ε1 ∧ (body ε1 L = .nx ε2 L2 ∨ body ε1 L = .ct ε2 L2) ∧ I (i + 1) ε2 L2) : ∃ ε2 L2, loopF src t body ds ε L = .nx ε2 L2 ∧ I ds.length ε2 L2 := by
  obtain ⟨ε2, L2, h1, h2⟩ := loop_nx I hok ds 0 ε L (fun i d ε L e hi => by rw [Nat.zero_add] at hi ⊢; exact step i d ε L e hi) h0
  exact ⟨ε2, L2, h1, by rwa [Nat.zero_add] at h2⟩
theorem rngD_get {lo : Int} {n i : Nat} {d : D} (h : (rngD lo n)[i]? = some d) : d = .int (lo + i) ∧ i < n := by
  have hi : i < n := by
    obtain ⟨q, _⟩ := List.getElem?_eq_some_iff.mp h
    rw [rngD_len] at q; exact q
  simp only [rngD, List.getElem?_map, List.getElem?_range hi, Option.map_some, Option.some.injEq] at h
  exact ⟨h.symm, hi⟩
theorem toPy_ints (L : List O) (n : Nat) : ∀ ns : List Int, optAll (toPy L (n + 1)) (ns.map D.int) = some (ns.map PyData.int)
  | [] => rfl
  | m :: ns => optAll_cons rfl (toPy_ints L n ns)
theorem lay_ints : ∀ ns : List Int, PyData.canLayAll0 (ns.map PyData.int) = true
  | [] => by simp [PyData.canLayAll0]
  | m :: ns => by simp [PyData.canLayAll0, PyData.canLay0, lay_ints ns]
theorem depth_ints : ∀ ns : List Int, PyData.depthAll (ns.map PyData.int) = 0
  | [] => by simp [PyData.depthAll]
  | m :: ns => by simp [PyData.depthAll, PyData.depth, depth_ints ns]
theorem shaped_ints (ns : List Int) : SeqAt.shaped (.list (ns.map PyData.int)) = true := by
  unfold SeqAt.shaped
  simp [PyData.canLay0, lay_ints, PyData.depth, depth_ints]
theorem shaped_int (i : Int) : SeqAt.shaped (.int i) = true := by
  unfold SeqAt.shaped
  simp [PyData.canLay0, PyData.depth]
theorem any_ints (i : Int) : ∀ ns : List Int, ((ns.map PyData.int).any fun z => PyData.eqv z (.int i)) = decide (i ∈ ns)
  | [] => rfl
  | m :: ns => by
    rw [List.map_cons, List.any_cons, any_ints i ns]
    simp only [PyData.eqv, List.mem_cons]
    by_cases h : m = i
    · subst h; simp
    · have : ¬ i = m := fun e => h e.symm
      simp [h, this]
/-- i in [ints] -/
theorem inD_ints {L : List O} {n : Nat} {ns : List Int} {i : Int} (h : L[n]? = some (.lst (ns.map D.int))) : inD L (.int i) (.ref n) = some (decide (i ∈ ns)) := by
  have e1 : toPy L pyDeep (.int i) = some (.int i) := rfl
  have e2 : toPy L pyDeep (.ref n) = some (.list (ns.map PyData.int)) := by
    show (match L[n]? with | some (.lst ds) => (optAll (toPy L 15) ds).map PyData.list | _ => none) = _
    rw [h]
    show (optAll (toPy L (14 + 1)) (ns.map D.int)).map PyData.list = _
    rw [toPy_ints]
    rfl
  unfold inD
  simp only [h, e1, e2, shaped_int, shaped_ints, and_self, if_true, any_ints]
/-- [e for t in src] without tests: F gives each item -/
theorem comp_map {src : Src} {t : MG} {te : ME} {ε : En} {n : Nat} (f : D → D) : ∀ (ds acc : List D) (L : List O), L[n]? = some (.lst acc) → (∀ L, src.ok L = true) → (∀ d ∈ ds, ∀ L, ∃ ε1, t.f d ε = some ε1 ∧ te ε1 L = .ok (f d) L) → acc.length + ds.length ≤ 1000000 →
    loopC src t mYes te n ε ds L = .ok (.ref n) (L.set n (.lst (acc ++ ds.map f)))
  | [], acc, L, h, hok, _, _ => by
    unfold loopC
    rw [if_pos (hok L), List.map_nil, List.append_nil]
    have : L.set n (.lst acc) = L := by
      obtain ⟨hn, e⟩ := List.getElem?_eq_some_iff.mp h
      rw [← e]
      exact List.set_getElem_self hn
    rw [this]
  | d :: ds, acc, L, h, hok, hf, hl => by
    obtain ⟨ε1, h1, h2⟩ := hf d List.mem_cons_self L
    have hn : n < L.length := (List.getElem?_eq_some_iff.mp h).1
    unfold loopC
    rw [if_pos (hok L), h1]
    simp only [mYes, Rs.nox, Rs.bind, if_true, h2, h]
    rw [if_pos (by simp at hl; unfold most; omega)]
    rw [comp_map f ds (acc ++ [f d]) _ (List.getElem?_set_self hn) hok (fun e he => hf e (List.mem_cons_of_mem _ he)) (by simp at hl ⊢; omega)]
    rw [List.set_set, List.append_assoc]
    rfl
structure NiceP (k : Nat) (d : D) (p : PyData) : Prop where
  py : ∀ (L : List O) (n : Nat), k < n → toPy L n d = some p
  lay : p.canLay0 = true
  dep : p.depth ≤ k
def Nice (k : Nat) (d : D) : Prop := ∃ p, NiceP k d p
theorem nice_int (i : Int) : NiceP 0 (.int i) (.int i) := ⟨fun L n h => by cases n with | zero => omega | succ n => rfl, by simp [PyData.canLay0], by simp [PyData.depth]⟩
theorem nice_str {x : Str} (h : (PyData.str x).canLay0 = true) : NiceP 0 (.str x) (.str x) := ⟨fun L n h => by cases n with | zero => omega | succ n => rfl, h, by simp [PyData.depth]⟩
theorem nice_all {k : Nat} : ∀ {ds : List D}, (∀ d ∈ ds, Nice k d) → ∃ ps : List PyData, (∀ L n, k < n → optAll (toPy L n) ds = some ps) ∧ PyData.canLayAll0 ps = true ∧ PyData.depthAll ps ≤ k
  | [], _ => ⟨[], fun _ _ _ => rfl, by simp [PyData.canLayAll0], by simp [PyData.depthAll]⟩
  | d :: ds, h => by
    obtain ⟨p, hp⟩ := h d List.mem_cons_self
    obtain ⟨ps, h1, h2, h3⟩ := nice_all (ds := ds) fun e he => h e (List.mem_cons_of_mem _ he)
    refine ⟨p :: ps, fun L n hn => optAll_cons (hp.py L n hn) (h1 L n hn), by simp [PyData.canLayAll0, hp.lay, h2], ?_⟩
    have := hp.dep
    simp only [PyData.depthAll]
    omega
theorem nice_tup {k : Nat} {ds : List D} (h : ∀ d ∈ ds, Nice k d) : Nice (k + 1) (.tup ds) := by
  obtain ⟨ps, h1, h2, h3⟩ := nice_all h
  refine ⟨.tuple ps, fun L n hn => ?_, by simpa [PyData.canLay0] using h2, by simp only [PyData.depth]; omega⟩
  cases n with
  | zero => omega
  | succ n =>
    show (optAll (toPy L n) ds).map PyData.tuple = _
    rw [h1 L n (by omega)]
    rfl
theorem NiceP.shaped {k : Nat} {d : D} {p : PyData} (h : NiceP k d p) (hk : k ≤ 64) : SeqAt.shaped p = true := by
  unfold SeqAt.shaped
  rw [h.lay, Bool.true_and]
  exact decide_eq_true (Nat.le_trans h.dep hk)
end Tw
end
section
set_option Elab.async false
set_option linter.all false
set_option maxRecDepth 100000
set_option maxHeartbeats 1000000
namespace Tw
open PySem PySem.Spec L2
variable {g : Gx} {ρ ρ' : List Addr} {H H' : Hp} {X : Cx} {W : WX} {L : List O} {cm : Nat → Addr} {fx : Hp} {pins : List (Addr × Obj)} {σ : L2.St} {s : Shared}
mutual
theorem nk_is (I : Inv X pins σ H s) : ∀ {d : D} {v : V} {u : Value} {k : NestedKey}, VR ⟨X.K, cm, fx, X.w⟩ ρ H d v → RelV v u → nkD d = some k → NestedIs s.heap k u
  | _, _, _, _, .non, r, e => by cases r; cases e; exact .none
  | _, _, _, _, .bl b, r, e => by cases r; cases e; exact .bool rfl
  | _, _, _, _, .int i, r, e => by obtain ⟨t, rfl⟩ := r; cases e; exact .int i t
  | _, _, _, _, .str x, r, e => by obtain ⟨t, rfl⟩ := r; cases e; exact .text x t
  | _, _, _, _, .ref _, r, e => by cases e
  | _, _, _, _, .cls _, r, e => by cases e
  | _, _, _, _, .ty _, r, e => by cases e
  | _, _, _, _, .rol _ _, r, e => by cases e
  | _, _, _, k, .tup (ds := ds) hs ha, r, e => by
    cases r
    unfold nkD at e
    cases h1 : nkDs ds with
    | none => rw [h1] at e; cases e
    | some ks =>
      rw [h1] at e
      cases e
      obtain ⟨its, rv, ⟨o, ho, hc, n, hd⟩, _⟩ := I.tuple hs.sq
      exact .tup ho hc hd (by rw [List.toList_toArray]; exact nks_is I ha rv h1)
theorem nks_is (I : Inv X pins σ H s) : ∀ {ds : List D} {vs : List V} {us : List Value} {ks : List NestedKey}, VRs ⟨X.K, cm, fx, X.w⟩ ρ H ds vs → Vals vs us → nkDs ds = some ks → NestedAll s.heap ks us
  | _, _, _, _, .nil, r, e => by cases r; cases e; exact .nil
  | _, _, _, ks, .cons (d := d) (ds := ds) h1 h2, r, e => by
    cases r with
    | cons r1 r2 =>
      unfold nkDs at e
      split at e
      · rename_i k ks' e1 e2
        cases e
        exact .cons (nk_is I h1 r1 e1) (nks_is I h2 r2 e2)
      · cases e
end
def ndLook (ks : List (D × D)) (k : NestedKey) : Option D := (ks.find? fun kv => decide (nkD kv.1 = some k)).map (·.2)
def ndPut (ks : List (D × D)) (d : D) (k : NestedKey) (e : D) : List (D × D) :=
  if (ndLook ks k).isSome = true then ks.map (fun kv => if nkD kv.1 = some k then (kv.1, e) else kv) else ks ++ [(d, e)]
def xAt (xs : List (NestedKey × Addr × V)) (k : NestedKey) : Option (Addr × V) := (xs.find? fun x => decide (x.1 = k)).map (·.2)
def xPut (xs : List (NestedKey × Addr × V)) (k : NestedKey) (a : Addr) (v : V) : List (NestedKey × Addr × V) :=
  if (xAt xs k).isSome = true then xs.map (fun x => if x.1 = k then (x.1, x.2.1, v) else x) else xs ++ [(k, a, v)]
theorem NR.look (k : NestedKey) : ∀ {ks : List (D × D)} {xs : List (NestedKey × Addr × V)}, NR g ρ H ks xs → (∃ e q v, ndLook ks k = some e ∧ xAt xs k = some (q, v) ∧ VR g ρ H e v) ∨ (ndLook ks k = none ∧ xAt xs k = none)
  | _, _, .nil => .inr ⟨rfl, rfl⟩
  | _, _, .cons (d := d) (e := e) (k := k') (q := q) (v := v) a b r r2 t => by
    by_cases h : k' = k
    · subst h
      exact .inl ⟨e, q, v, by simp [ndLook, List.find?_cons, a], by simp [xAt, List.find?_cons], r2⟩
    · have h' : ¬ nkD d = some k := fun z => h (Option.some.inj (a.symm.trans z))
      rcases NR.look k t with ⟨e2, q2, v2, h1, h2, h3⟩ | ⟨h1, h2⟩
      · exact .inl ⟨e2, q2, v2, by simpa [ndLook, List.find?_cons, h'] using h1, by simpa [xAt, List.find?_cons, h] using h2, h3⟩
      · exact .inr ⟨by simpa [ndLook, List.find?_cons, h'] using h1, by simpa [xAt, List.find?_cons, h] using h2⟩
theorem NR.repl {k : NestedKey} {e : D} {v : V} (rv : VR g ρ H e v) : ∀ {ks : List (D × D)} {xs : List (NestedKey × Addr × V)}, NR g ρ H ks xs → NR g ρ H (ks.map (fun kv => if nkD kv.1 = some k then (kv.1, e) else kv)) (xs.map (fun x => if x.1 = k then (x.1, x.2.1, v) else x))
  | _, _, .nil => .nil
  | _, _, .cons (d := d) (k := k') a b r r2 t => by
    by_cases h : k' = k
    · subst h
      simp only [List.map_cons, a, if_true]
      exact .cons a b r rv (NR.repl rv t)
    · have h' : ¬ nkD d = some k := fun z => h (Option.some.inj (a.symm.trans z))
      simp only [List.map_cons, if_neg h, if_neg h']
      exact .cons a b r r2 (NR.repl rv t)
theorem NR.append : ∀ {ks ls : List (D × D)} {xs ys : List (NestedKey × Addr × V)}, NR g ρ H ks xs → NR g ρ H ls ys → NR g ρ H (ks ++ ls) (xs ++ ys)
  | _, _, _, _, .nil, t => t
  | _, _, _, _, .cons a b r r2 u, t => .cons a b r r2 (NR.append u t)
theorem NR.put {ks : List (D × D)} {xs : List (NestedKey × Addr × V)} (h : NR g ρ H ks xs) {d e : D} {k : NestedKey} {q : Addr} {v : V} (hk : nkD d = some k) (h8 : k.depth ≤ 8) (rk : VR g ρ H d (.ref q)) (rv : VR g ρ H e v) : NR g ρ H (ndPut ks d k e) (xPut xs k q v) := by
  unfold ndPut xPut
  rcases h.look k with ⟨e2, q2, v2, h1, h2, h3⟩ | ⟨h1, h2⟩
  · rw [h1, h2]
    exact h.repl rv
  · rw [h1, h2]
    exact h.append (.cons hk h8 rk rv .nil)
theorem NR.get : ∀ {ks : List (D × D)} {xs : List (NestedKey × Addr × V)}, NR g ρ H ks xs → ∀ {i : Nat} {d e : D}, ks[i]? = some (d, e) → ∃ k q v, xs[i]? = some (k, q, v) ∧ VR g ρ H d (.ref q) ∧ VR g ρ H e v
  | _, _, .nil, i, d, e, h => by simp at h
  | _, _, .cons a b r r2 t, 0, d, e, h => by simp at h; obtain ⟨rfl, rfl⟩ := h; exact ⟨_, _, _, rfl, r, r2⟩
  | _, _, .cons a b r r2 t, i + 1, d, e, h => by obtain ⟨k, q, v, h1, h2⟩ := t.get (show _ = _ by simpa using h); exact ⟨k, q, v, by simpa using h1, h2⟩
theorem npair_at {k : NestedKey} : ∀ {xs : List (NestedKey × Addr × V)} {ys : List (NestedKey × Addr × Value)}, Paired NPair xs ys → (∃ q v u, xAt xs k = some (q, v) ∧ atKey ys k = some (q, u) ∧ RelV v u) ∨ (xAt xs k = none ∧ atKey ys k = none)
  | _, _, .nil => .inr ⟨rfl, rfl⟩
  | _, _, .cons (a := x) (b := y) h t => by
    obtain ⟨h1, h2, h3⟩ := h
    by_cases e : x.1 = k
    · exact .inl ⟨x.2.1, x.2.2, y.2.2, by simp [xAt, List.find?_cons, e], by simp [atKey, List.find?_cons, ← h1, e]; rw [← Prod.eta y.2, ← h2], h3⟩
    · rcases npair_at (k := k) t with ⟨q, v, u, a, b, c⟩ | ⟨a, b⟩
      · exact .inl ⟨q, v, u, by simpa [xAt, List.find?_cons, e] using a, by simpa [atKey, List.find?_cons, ← h1, e] using b, c⟩
      · exact .inr ⟨by simpa [xAt, List.find?_cons, e] using a, by simpa [atKey, List.find?_cons, ← h1, e] using b⟩
theorem npair_keys : ∀ {xs : List (NestedKey × Addr × V)} {ys : List (NestedKey × Addr × Value)}, Paired NPair xs ys → xs.map (·.1) = ys.map (·.1)
  | _, _, .nil => rfl
  | _, _, .cons h t => by simp only [List.map_cons, h.1, npair_keys t]
theorem npair_len : ∀ {xs : List (NestedKey × Addr × V)} {ys : List (NestedKey × Addr × Value)}, Paired NPair xs ys → xs.length = ys.length
  | _, _, .nil => rfl
  | _, _, .cons h t => by simp only [List.length_cons, npair_len t]
theorem npair_is (I : Inv X pins σ H s) : ∀ {ks : List (D × D)} {xs : List (NestedKey × Addr × V)} {ys : List (NestedKey × Addr × Value)}, NR ⟨X.K, cm, fx, X.w⟩ ρ H ks xs → Paired NPair xs ys → ∀ y ∈ ys, (nestedKind X.prog X.w).is s.heap y.1 y.2.1
  | _, _, _, .nil, .nil => fun y z => nomatch z
  | _, _, _, .cons a b r r2 t, .cons h u => fun y hy => by
    rcases List.mem_cons.mp hy with e | hy
    · subst e
      rw [← h.1, ← h.2.1]
      exact ⟨nk_is I r rfl a, b⟩
    · exact npair_is I t u y hy
theorem nd_rd (I : Inv X pins σ H s) {a : Addr} {ks : List (D × D)} {xs : List (NestedKey × Addr × V)} (e : Rd H a (NdO X.w a xs)) (r : NR ⟨X.K, cm, fx, X.w⟩ ρ H ks xs) :
    (a == sysModules) = false ∧ xs.length ≤ sizeLine ∧ ∃ ys, Paired NPair xs ys ∧ s.heap.DictOfH (nestedKind X.prog X.w) a ys := by
  obtain ⟨⟨h1, h2, h3, ys, h4, o, es, ep, h5, h6, h7, h8⟩, _⟩ := (show ObjOk X.prog X.w H s.heap a (NdO X.w a xs) from e.ok I.hok)
  exact ⟨h1, h2, ys, h4, o, es, ep, h5, h6, h7, h8, npair_is I r h4, by rw [← npair_keys h4]; exact h3⟩
theorem nd_new {a : Addr} {H' : Hp} {h' : Heap} {xs : List (NestedKey × Addr × V)} {ys : List (NestedKey × Addr × Value)} (hs : (a == sysModules) = false) (hl : xs.length ≤ sizeLine) (hp : Paired NPair xs ys) (d : h'.DictOfH (nestedKind X.prog X.w) a ys) : ObjOk X.prog X.w H' h' a (NdO X.w a xs) := by
  obtain ⟨o, es, ep, h5, h6, h7, h8, h9, h10⟩ := d
  refine ⟨⟨hs, hl, by rw [npair_keys hp]; exact h10, ys, hp, o, es, ep, h5, h6, h7, h8⟩, ⟨o, h5⟩, fun h1 h2 ⟨a1, a2, a3, zs, a4, ob, fs, fp, a5, a6, a7, a8⟩ k => ⟨a1, a2, a3, zs, a4, ob, fs, fp, k _ a5, a6, a7, a8⟩⟩
theorem npair_put {k : NestedKey} {q : Addr} {v : V} {u : Value} (rv : RelV v u) {xs : List (NestedKey × Addr × V)} {ys : List (NestedKey × Addr × Value)} (hp : Paired NPair xs ys) : Paired NPair (xPut xs k q v) (storedH ys k q u) := by
  have rep : ∀ {xs : List (NestedKey × Addr × V)} {ys : List (NestedKey × Addr × Value)}, Paired NPair xs ys → Paired NPair (xs.map (fun x => if x.1 = k then (x.1, x.2.1, v) else x)) (ys.map (putAt k u)) := by
    intro xs ys h
    induction h with
    | nil => exact .nil
    | @cons x y xs ys h t ih =>
      rw [List.map_cons, List.map_cons]
      refine .cons ?_ ih
      unfold putAt
      by_cases e : x.1 = k
      · rw [if_pos e, if_pos (h.1.symm.trans e)]
        exact ⟨h.1, h.2.1, rv⟩
      · rw [if_neg e, if_neg (fun z => e (h.1.trans z))]
        exact h
  have app : ∀ {xs : List (NestedKey × Addr × V)} {ys : List (NestedKey × Addr × Value)}, Paired NPair xs ys → Paired NPair (xs ++ [(k, q, v)]) (ys ++ [(k, q, u)]) := by
    intro xs ys h
    induction h with
    | nil => exact .cons ⟨rfl, rfl, rv⟩ .nil
    | cons h t ih => exact .cons h ih
  unfold xPut storedH
  rcases npair_at (k := k) hp with ⟨q2, v2, u2, a, b, c⟩ | ⟨a, b⟩
  · rw [a, b]
    exact rep hp
  · rw [a, b]
    exact app hp
theorem xPut_len (xs : List (NestedKey × Addr × V)) (k : NestedKey) (q : Addr) (v : V) : (xPut xs k q v).length ≤ xs.length + 1 := by
  unfold xPut
  split
  · simp
  · simp
theorem nroom {A : Around} (hu : A.units + 64 < cLine) : (nestedKind X.prog X.w).room A.in1 := by
  show A.units + 1 + 8 < cLine
  omega
theorem HR.nd_at (hh : HR ⟨X.K, cm, fx, X.w⟩ ρ L H) {n : Nat} {lk : Bool} {ks : List (D × D)} (e : L[n]? = some (.nd lk ks)) {a : Addr} (ea : ρ[n]? = some a) : ∃ xs, Rd H a (NdO X.w a xs) ∧ NR ⟨X.K, cm, fx, X.w⟩ ρ H ks xs := by
  have q := hh.ob n _ a e ea
  cases lk with
  | false => obtain ⟨vs, h, r⟩ := q; exact ⟨vs, .inl h, r⟩
  | true => obtain ⟨vs, o, h, r⟩ := q; exact ⟨vs, .inr ⟨o, h⟩, r⟩
def inN (L : List O) (x y : D) : Option Bool := match x, y with
  | .tup ds, .ref n => match L[n]? with
    | some (.nd _ ks) => match nkD (.tup ds) with
      | some k => if k.depth ≤ 8 then some (ndLook ks k).isSome else none
      | none => none
    | _ => inD L x y
  | _, _ => inD L x y
def oNotInN : O2 := fun x y L => (inN L x y).map fun b => (.bl (!b), L)
theorem inN_cases {x y : D} {b : Bool} (e : inN L x y = some b) : inD L x y = some b ∨ ∃ ds n lk ks k, x = .tup ds ∧ y = .ref n ∧ L[n]? = some (.nd lk ks) ∧ nkD (.tup ds) = some k ∧ k.depth ≤ 8 ∧ (ndLook ks k).isSome = b := by
  unfold inN at e
  split at e
  · split at e
    · rename_i h1
      split at e
      · rename_i k h2
        split at e
        · rename_i h3
          cases e
          exact .inr ⟨_, _, _, _, _, rfl, rfl, h1, h2, h3, rfl⟩
        · cases e
      · cases e
    · exact .inl e
  · exact .inl e
theorem op_oNotInN (hu : X.A.units + 65 < cLine) : OpR X (compareOp .NotIn) (rM ⟨X.K, cm, fx, X.w⟩ oNotInN) := by
  intro pins s σ H x y v u Q I rx ry q
  obtain ⟨ρ, L, d, e, hh, r1, r2, q⟩ := q
  unfold oNotInN at q
  cases hb : inN L d e with
  | none => rw [hb] at q; exact q.elim
  | some b =>
    rw [hb] at q
    rcases inN_cases hb with hd | ⟨ds, n, lk, ks, k, rfl, rfl, h1, h2, h3, rfl⟩
    · exact op_oNotIn hu pins s σ H x y v u Q I rx ry ⟨ρ, L, d, e, hh, r1, r2, by unfold oNotIn; rw [hd]; exact q⟩
    · cases r1 with
      | tup s1 a1 =>
        cases r2 with
        | ref ea =>
          cases rx
          cases ry
          obtain ⟨xs, rd, nr⟩ := hh.nd_at h1 ea
          obtain ⟨c1, c2, ys, c3, c4⟩ := nd_rd I rd nr
          have rk : VR ⟨X.K, cm, fx, X.w⟩ ρ H (.tup ds) (.ref _) := .tup s1 a1
          refine PyProof.Rows.wpAny_notIn_heap (nroom (by omega)) ⟨nk_is I rk rfl h2, h3⟩ c1 c4 ?_
          have q' := LfO.same q hh (.bl _)
          have eq : (atKey ys k).isSome = (ndLook ks k).isSome := by
            rcases nr.look k with ⟨e2, q2, v2, a, b, _⟩ | ⟨a, b⟩ <;> rcases npair_at (k := k) c3 with ⟨q3, v3, u3, c, d, _⟩ | ⟨c, d⟩
            · rw [a, d]; rfl
            · rw [b] at c; cases c
            · rw [b] at c; cases c
            · rw [a, d]; rfl
          rw [eq]
          exact ⟨.bl _, H, I.tok _, rfl, q'⟩
def mNd0 : ME := fun _ L => .ok (.ref L.length) (L ++ [.nd false []])
theorem nd_empty (h : Heap) (hb : sysModules < h.objs.size) : ObjOk X.prog X.w H (h.push { cls := .type "dict", data := .dict #[] }) h.objs.size (NdO X.w h.objs.size []) :=
  nd_new (beq_eq_false_iff_ne.mpr (Ne.symm (Nat.ne_of_lt hb))) (Nat.zero_le _) .nil (Heap.DictOfH.new h)
theorem pe_nd0 {pos : Pos} : PE X (.Dict [] [] pos) (fun _ H Q => ∀ p, H p = none → Q (.ref p) (upd H p (NdO X.w p []))) := ⟨fun pins s σ H Q I h =>
  wpAny_Dict_empty ⟨.ref s.heap.objs.size, _, I.laid (a := s.heap.objs.size) (o := NdO X.w s.heap.objs.size []) (t' := s.toks) (fun _ _ q => Heap.get?_push_of_some _ q) (Nat.le_refl _) (nd_empty s.heap I.big), rfl, h _ (I.hok.fresh (Nat.le_refl _))⟩⟩
theorem se_nd0 {pos} : PE X (.Dict [] [] pos) (tM ⟨X.K, cm, fx, X.w⟩ W mNd0) := pe_nd0.imp fun σ H Q q => by
  obtain ⟨ε, ρ, L, he, hh, q⟩ := q
  intro p hp
  exact LfD.newO q hh hp ⟨[], upd_same, .nil⟩
def oSetD (x y z : D) (L : List O) : OD := match x, y with
  | .ref n, .tup ds => match L[n]? with
    | some (.nd false ks) => match nkD (.tup ds) with
      | some k => if k.depth ≤ 8 ∧ ks.length < most then (match ndLook ks k with
        | some e => some (e, L)
        | none => some (z, L.set n (.nd false (ks ++ [(.tup ds, z)])))) else none
      | none => none
    | _ => none
  | _, _ => none
def isNd (L : List O) : D → Bool
  | .ref n => match L[n]? with
    | some (.nd false _) => true
    | _ => false
  | _ => false
def mSetD (o a b : ME) : ME := fun ε L => (o ε L).bind fun x L1 => if isNd L1 x = true then (a ε L1).bind fun y L2 => (b ε L2).bind fun z L3 => ofO (oSetD x y z L3) else .bad
theorem nd_type (I : Inv X pins σ H s) {a : Addr} {xs : List (NestedKey × Addr × V)} (e : Rd H a (NdO X.w a xs)) : s.TypeIs (.ref a) "dict" ∧ ∀ b, Value.ref a = .ref b → ∃ ob, s.heap.get? b = some ob ∧ ob.dict = none := by
  obtain ⟨⟨h1, h2, h3, ys, h4, o, es, ep, h5, h6, h7, h8⟩, _⟩ := (show ObjOk X.prog X.w H s.heap a (NdO X.w a xs) from e.ok I.hok)
  refine ⟨⟨o, h5, h6.1⟩, fun b q => ?_⟩
  cases q
  exact ⟨o, h5, h6.2.1⟩
def tNdS (X : Cx) (cm : Nat → Addr) (fx : Hp) (td ty tx : TE) : TE := fun σ H Q => td σ H fun x H1 => ∃ a, x = .ref a ∧ (∃ xs, Rd H1 a (NdO X.w a xs)) ∧ ty σ H1 fun y H2 => tx σ H2 fun z H3 =>
  ∃ (xs : List (NestedKey × Addr × V)) (ks : List (D × D)) (ρ : List Addr) (k : NestedKey) (b : Addr) (d : D), y = .ref b ∧ H3 a = some (NdO X.w a xs) ∧ NR ⟨X.K, cm, fx, X.w⟩ ρ H3 ks xs ∧ VR ⟨X.K, cm, fx, X.w⟩ ρ H3 d (.ref b) ∧ nkD d = some k ∧ k.depth ≤ 8 ∧ xs.length < sizeLine ∧
    (∀ q v, xAt xs k = some (q, v) → Q v H3) ∧ (xAt xs k = none → Q z (upd H3 a (NdO X.w a (xPut xs k b z))))
theorem pe_setD (hu : X.A.units + 65 < cLine) {o e f : Expr} {td ty tx : TE} {apos cpos : Pos} (ho : PE X o td) (ha : PE X e ty) (hb : PE X f tx) (m : M2 X o "setdefault" apos e f cpos) : PE X (.Call (.Attribute o "setdefault" apos) [e, f] [] cpos) (tNdS X cm fx td ty tx) := by
  refine ⟨fun pins s σ H Q I h => ?_⟩
  refine wpAny_Call_method m.base m.few m.line PySem.F.plainAttrs_dict PySem.F.slot_dict_setdefault PySem.F.type_dict_setdefault (thn (ho.run pins s σ H _ I h) fun u s1 ⟨x, H1, I1, rx, a, ex, ⟨xs0, rd⟩, q1⟩ => ?_)
  subst ex
  obtain rfl : u = Value.ref a := rx
  obtain ⟨t1, t2⟩ := nd_type I1 rd
  refine ⟨t1, t2, ?_⟩
  rw [m.trees]
  refine Calls.callWith_builtin rfl (Calls.evalArgs_plain (Calls.spliced_cons (thn (ha.run pins s1 σ H1 _ I1 q1) fun iv s2 ⟨y, H2, I2, ry, q2⟩ =>
    Calls.spliced_cons (thn (hb.run pins s2 σ H2 _ I2 q2) fun fv s3 ⟨z, H3, I3, rz, xs, ks, ρ, k, b, d, ey, hx, nr, vr, hk, h8, hl, q3, q4⟩ => Calls.spliced_nil ?_))))
  subst ey
  obtain rfl : iv = Value.ref b := ry
  obtain ⟨c1, c2, ys, c3, c4⟩ := nd_rd I3 (.inl hx) nr
  refine call_setdefault_heap (nroom (by omega)) ⟨nk_is I3 vr rfl hk, h8⟩ c1 c4 (fun p hp => ?_) (fun hn h' hd hs => ?_) (by rw [← npair_len c3]; exact c2)
  · rcases npair_at (k := k) c3 with ⟨q, v, u, e1, e2, r⟩ | ⟨e1, e2⟩
    · rw [hp] at e2
      cases e2
      exact ⟨v, H3, I3.tok _, r, q3 q v e1⟩
    · rw [hp] at e2; cases e2
  · rcases npair_at (k := k) c3 with ⟨q, v, u, e1, e2, r⟩ | ⟨e1, e2⟩
    · rw [hn] at e2; cases e2
    · have he : ∃ q, h'.get? a = some q := let ⟨q, _, _, hq, _⟩ := hd; ⟨q, hq⟩
      exact ⟨z, _, d_write I3 (by rw [hx]; exact True.intro) hs he (nd_new c1 (by have := xPut_len xs k b z; omega) (npair_put rz c3) hd), rz, q4 e1⟩
theorem LfD.setNd {d : D} {v : V} {n : Nat} {a : Addr} {ks : List (D × D)} {us xs : List (NestedKey × Addr × V)} {Q : VK} (h : LfO ⟨X.K, cm, fx, X.w⟩ ρ H (some (d, L.set n (.nd false ks))) Q) (hh : HR ⟨X.K, cm, fx, X.w⟩ ρ L H) (ea : ρ[n]? = some a) (e : H a = some (NdO X.w a us)) (r : NR ⟨X.K, cm, fx, X.w⟩ ρ H ks xs) (rv : VR ⟨X.K, cm, fx, X.w⟩ ρ H d v) : Q v (upd H a (NdO X.w a xs)) := by
  have t : TP H (upd H a (NdO X.w a xs)) := TP.mut e rfl
  exact h v ρ _ (List.prefix_refl _) t (hh.set ea e rfl ⟨xs, upd_same, r.mono (List.prefix_refl _) t⟩) (rv.mono (List.prefix_refl _) t)
theorem se_setD (hu : X.A.units + 65 < cLine) {o e f : Expr} {mo ma mb : ME} {apos cpos : Pos} (ho : PE X o (tM ⟨X.K, cm, fx, X.w⟩ W mo)) (ha : PE X e (tM ⟨X.K, cm, fx, X.w⟩ W ma)) (hb : PE X f (tM ⟨X.K, cm, fx, X.w⟩ W mb))
    (hbase : attributeBase o "setdefault" X.env (eval o X.env) = eval o X.env := by rfl)
    (hfew : ((backTo cpos (starEach [e, f] X.env)).all (fun x => !x.1) && (backToKw cpos (keywordEach [] X.env)).all (fun x => x.1.isSome)
      && decide (([e, f] : List Expr).length + ([] : List Keyword).length + (if ([] : List Keyword).isEmpty then 0 else 1) < 30)) = true := by rfl)
    (hline : (apos.endLine == cpos.line) = true := by rfl) (ht : backTo cpos (starEach [e, f] X.env) = [(false, eval e X.env), (false, eval f X.env)] := by rfl) :
    PE X (.Call (.Attribute o "setdefault" apos) [e, f] [] cpos) (tM ⟨X.K, cm, fx, X.w⟩ W (mSetD mo ma mb)) :=
  (pe_setD (cm := cm) (fx := fx) hu ho ha hb ⟨hbase, hfew, hline, ht⟩).imp fun σ H Q q => by
    obtain ⟨ε, ρ, L, he, hh, q⟩ := q
    refine ⟨ε, ρ, L, he, hh, Lf.bind q fun x L1 v ρ1 H1 e1 p1 t1 h1 r1 q1 => ?_⟩
    cases hi : isNd L1 x with
    | false => rw [hi, if_neg (by decide)] at q1; exact q1.elim
    | true =>
      rw [hi, if_pos rfl] at q1
      have hi' := hi
      unfold isNd at hi'
      cases r1 with
      | ref ea =>
        rename_i n a
        simp only at hi'
        split at hi'
        · rename_i ks0 hL
          obtain ⟨xs0, rd, nr0⟩ := h1.nd_at hL ea
          refine ⟨a, rfl, ⟨xs0, rd⟩, ε, ρ1, L1, he.mono p1 t1, h1, Lf.bind q1 fun y L2 yv ρ2 H2 e2 p2 t2 h2 r2 q2 => ?_⟩
          refine ⟨ε, ρ2, L2, (he.mono p1 t1).mono p2 t2, h2, Lf.bind q2 fun z L3 zv ρ3 H3 e3 p3 t3 h3 r3 q3 => ?_⟩
          have q3 := LfO.of q3
          have ea3 := pre_get p3 (pre_get p2 ea)
          unfold oSetD at q3
          split at q3
          · rename_i ds hr _
            cases hr
            have r2' := r2.mono p3 t3
            cases r2' with
            | tup s1 a1 =>
              rename_i b vs
              split at q3
              · rename_i ks hks
                obtain ⟨xs, hx, nr⟩ := h3.ob _ _ _ hks ea3
                split at q3
                · rename_i k hk
                  split at q3
                  · rename_i hz
                    refine ⟨xs, ks, ρ3, k, b, .tup ds, rfl, hx, nr, .tup s1 a1, hk, hz.1, by rw [← nr.length]; exact Nat.lt_of_lt_of_le hz.2 (most_le (Nat.le_refl _)), fun q v e => ?_, fun e => ?_⟩
                    · rcases nr.look k with ⟨e2, q2, v2, a1, a2, a3⟩ | ⟨a1, a2⟩
                      · rw [e] at a2
                        cases a2
                        rw [a1] at q3
                        exact LfO.same q3 h3 a3
                      · rw [e] at a2; cases a2
                    · rcases nr.look k with ⟨e2, q2, v2, a1', a2, a3⟩ | ⟨a1', a2⟩
                      · rw [e] at a2; cases a2
                      · rw [a1'] at q3
                        have np := nr.put hk hz.1 (.tup s1 a1) r3
                        have e0 : ndPut ks (.tup ds) k z = ks ++ [(.tup ds, z)] := by unfold ndPut; rw [a1']; rfl
                        rw [e0] at np
                        exact LfD.setNd q3 h3 ea3 hx np r3
                  · exact q3.elim
                · exact q3.elim
              · exact q3.elim
          · exact q3.elim
        · cases hi'
      | _ => cases hi'
end Tw
end
section
set_option Elab.async false
set_option linter.all false
set_option maxRecDepth 100000
set_option maxHeartbeats 1000000
namespace Tw
open PySem PySem.Spec PyProof.Rows L2
variable {g : Gx} {ρ ρ' : List Addr} {H H' : Hp} {X : Cx} {W : WX} {L : List O} {cm : Nat → Addr} {fx : Hp} {pins : List (Addr × Obj)} {σ : L2.St} {s : Shared}
def lkO : O → Option O
  | .dic false ks => some (.dic true ks)
  | .nd false ks => some (.nd true ks)
  | _ => none
def unO : O → Option O
  | .dic true ks => some (.dic false ks)
  | .nd true ks => some (.nd false ks)
  | _ => none
def lkAt (n : Nat) (L : List O) : Option (List O) := match L[n]? with
  | some o => (lkO o).map fun o' => L.set n o'
  | none => none
def unAt (n : Nat) (L : List O) : Option (List O) := match L[n]? with
  | some o => (unO o).map fun o' => L.set n o'
  | none => none
theorem lkAt_ok {n : Nat} {L1 : List O} (e : lkAt n L = some L1) : ∃ o o', L[n]? = some o ∧ lkO o = some o' ∧ L1 = L.set n o' := by
  unfold lkAt at e
  split at e
  · rename_i o h
    cases h2 : lkO o with
    | none => rw [h2] at e; cases e
    | some o' => rw [h2] at e; cases e; exact ⟨o, o', h, h2, rfl⟩
  · cases e
theorem unAt_ok {n : Nat} {L1 : List O} (e : unAt n L = some L1) : ∃ o o', L[n]? = some o ∧ unO o = some o' ∧ L1 = L.set n o' := by
  unfold unAt at e
  split at e
  · rename_i o h
    cases h2 : unO o with
    | none => rw [h2] at e; cases e
    | some o' => rw [h2] at e; cases e; exact ⟨o, o', h, h2, rfl⟩
  · cases e
/-- what is locked: a dict -/
def DicO : HO → Prop
  | .dK _ => True
  | .ext _ => True
  | _ => False
theorem lk_get {a : Addr} {o o' : O} (e : lkO o = some o') (r : OR g ρ H a o) : ∃ u, H a = some u ∧ DicO u ∧ ∀ od, OR g ρ (upd H a (.frz od u)) a o' := by
  cases o with
  | lst _ => cases e
  | ins _ _ => cases e
  | gen _ _ => cases e
  | dic b ks =>
    cases b with
    | true => cases e
    | false =>
      cases e
      obtain ⟨vs, h, r⟩ := r
      exact ⟨_, h, True.intro, fun od => ⟨vs, od, upd_same, r.mono (List.prefix_refl _) (TP.mut h rfl)⟩⟩
  | nd b ks =>
    cases b with
    | true => cases e
    | false =>
      cases e
      obtain ⟨xs, h, r⟩ := r
      exact ⟨_, h, True.intro, fun od => ⟨xs, od, upd_same, r.mono (List.prefix_refl _) (TP.mut h rfl)⟩⟩
theorem DicO.mut {u : HO} (d : DicO u) : Mut (some u) ∧ MutO u = true := by
  cases u with
  | dK _ => exact ⟨True.intro, rfl⟩
  | ext _ => exact ⟨True.intro, rfl⟩
  | _ => exact d.elim
theorem un_tv {K : PySem.W.Frag} {a : Addr} {od : Obj} {u : HO} (d : DicO u) (h : H a = some (.frz od u)) : TV K H (upd H a u) := by
  refine ⟨fun b xs z => ?_, fun b xs z => ?_⟩
  · rcases z with z | z
    · have : b ≠ a := by rintro rfl; rw [h] at z; cases z
      exact .inl (by rw [upd_ne this]; exact z)
    · exact .inr z
  · rcases z with ⟨o, z⟩ | z
    · have : b ≠ a := by
        rintro rfl
        rw [h] at z
        cases z
        exact d
      exact .inl ⟨o, by rw [upd_ne this]; exact z⟩
    · exact .inr z
theorem un_hr {n : Nat} {a : Addr} {od : Obj} {u : HO} {o o' : O} (hh : HR g ρ L H) (d : DicO u) (h : H a = some (.frz od u)) (eL : L[n]? = some o) (ea : ρ[n]? = some a) (e : unO o = some o') : HR g ρ (L.set n o') (upd H a u) := by
  have tv := un_tv (K := g.K) d h
  refine ⟨by simp [hh.len], hh.nd, fun n2 o2 b e2 eb => ?_, hh.nfx, fun b w' q => by rw [upd_ne (fun z => by rw [z, hh.nfx n a ea] at q; cases q)]; exact hh.fxs b w' q⟩
  by_cases hn : n = n2
  · subst hn
    rw [ea] at eb
    cases eb
    rw [List.getElem?_set_self (List.getElem?_eq_some_iff.mp eL).1] at e2
    cases e2
    have q := hh.ob n o a eL ea
    cases o with
    | lst _ => cases e
    | ins _ _ => cases e
    | gen _ _ => cases e
    | dic b ks =>
      cases b with
      | false => cases e
      | true =>
        cases e
        obtain ⟨vs, od2, h2, r⟩ := q
        rw [h] at h2
        cases h2
        exact ⟨vs, upd_same, r.monoV (List.prefix_refl _) tv⟩
    | nd b ks =>
      cases b with
      | false => cases e
      | true =>
        cases e
        obtain ⟨xs, od2, h2, r⟩ := q
        rw [h] at h2
        have h3 : u = NdO g.w a xs := by injection h2 with h2; injection h2
        exact ⟨xs, by rw [h3]; exact upd_same, r.monoV (List.prefix_refl _) tv⟩
  · rw [List.getElem?_set_ne hn] at e2
    have hb : b ≠ a := by rintro rfl; exact hn (nodup_get hh.nd ea eb)
    exact (hh.ob n2 o2 b e2 eb).monoV (List.prefix_refl _) tv (upd_ne hb)
theorem un_tp {a : Addr} {od : Obj} {u : HO} {H2 : Hp} (d : DicO u) (h : H a = some u) (t : TP (upd H a (.frz od u)) H2) : TP H (upd H2 a u) := by
  refine ⟨fun b xs e => ?_, fun b ob v e => ?_⟩
  · have : b ≠ a := by rintro rfl; rw [h] at e; cases e; exact d
    rw [upd_ne this]
    exact t.tup b xs (by rw [upd_ne this]; exact e)
  · have : b ≠ a := by rintro rfl; rw [h] at e; cases e; exact d
    rw [upd_ne this]
    exact t.frz b ob v (by rw [upd_ne this]; exact e)
/-- an expression while the dict at f is locked -/
def mLockE (f : En → List O → Option Nat) (m : ME) : ME := fun ε L => match f ε L with
  | some n => match lkAt n L with
    | some L1 => match m ε L1 with
      | .ok d L2 => match unAt n L2 with
        | some L3 => .ok d L3
        | none => .bad
      | _ => .bad
    | none => .bad
  | none => .bad
theorem se_lock {f : En → List O → Option Nat} {e : Expr} {m : ME} (h : PE X e (tM g W m)) : PE X e (tM g W (mLockE f m)) :=
  (pe_lock h).imp fun σ H Q q => by
    obtain ⟨ε, ρ, L, he, hh, q⟩ := q
    unfold mLockE at q
    split at q
    · rename_i n hf
      split at q
      · rename_i L1 hl
        obtain ⟨o, o', e1, e2, rfl⟩ := lkAt_ok hl
        obtain ⟨a, ea, ho⟩ := hh.get e1
        obtain ⟨u, hu, du, ro⟩ := lk_get e2 ho
        refine ⟨a, u, hu, du.mut.1, fun od => ?_⟩
        have h1 := hh.set ea hu du.mut.2 (ro od)
        refine ⟨ε, ρ, _, he.mono (List.prefix_refl _) (TP.mut hu du.mut.2), h1, ?_⟩
        split at q
        · rename_i d L2 hm
          rw [hm]
          intro v ρ2 H2 p2 t2 h2 r2
          have hf2 := t2.frz a od u upd_same
          split at q
          · rename_i L3 hL3
            obtain ⟨o2, o2', e3, e4, rfl⟩ := unAt_ok hL3
            exact ⟨hf2, q v ρ2 _ p2 (un_tp du hu t2) (un_hr h2 du hf2 e3 (pre_get p2 ea) e4) (r2.monoV (List.prefix_refl _) (un_tv du hf2))⟩
          · exact q.elim
        · exact q.elim
      · exact q.elim
    · exact q.elim
theorem Inv.frzN {d : Addr} {o : Obj} {xs : List (NestedKey × Addr × V)} (I : Inv X pins σ H s) (h : H d = some (.frz o (NdO X.w d xs))) :
    (d == sysModules) = false ∧ s.heap.get? d = some o ∧ o.ExactDict ∧ ∃ (es : Array DictEntry) (ep : Nat), o.data = .dict es ep ∧ es.size = xs.length ∧
      ∀ (i : Nat) (k : NestedKey) (q : Addr) (v : V), xs[i]? = some (k, q, v) → ∃ (en : DictEntry), es[i]? = some en ∧ en.key = .ref q := by
  obtain ⟨hd, ⟨hs, hl, hn, ys, pr, o', es, ep, ho, hx, hdt, he⟩, _⟩ := I.hok d _ h
  rw [hd] at ho
  cases ho
  have l1 : es.size = ys.length := by rw [← Array.length_toList, he, List.length_map]
  refine ⟨hs, hd, hx, es, ep, hdt, by rw [l1, npair_len pr], fun i k q v e => ?_⟩
  obtain ⟨y, hb, e1, e2, _⟩ := paired_get pr e
  refine ⟨⟨y.1.hash X.w, .ref y.2.1, y.2.2⟩, ?_, by rw [← e2]⟩
  rw [← Array.getElem?_toList, he, List.getElem?_map, hb]
  rfl
def ItkN (w : World) (d : Addr) (o : Obj) (xs : List (NestedKey × Addr × V)) : It :=
  ⟨fun i H => H d = some (.frz o (NdO w d xs)) ∧ i < xs.length, fun i H x H' => H' = H ∧ ∃ k q v, xs[i]? = some (k, q, v) ∧ x = .ref q, fun i H => H d = some (.frz o (NdO w d xs)) ∧ xs.length ≤ i⟩
theorem turn_keysN {P : Program} {w : World} {K : PySem.W.Frag} {tg : Expr} {d : Addr} {o : Obj} {es : Array DictEntry} {ep : Nat} {xs : List (NestedKey × Addr × V)} (it : Addr) (hod : o.data = .dict es ep) : Turn P w K tg (ItkN w d o xs) [it] it (fun i h => h.IsKeyIter it d i xs.length ep) where
  mem := by simp
  obj := fun i h st b hb => by
    have e : b = it := by simpa using hb
    subst e
    obtain ⟨oi, e, c, dd⟩ := st
    exact ⟨oi, e, fun v z => by rw [dd] at z; cases z⟩
  keep := fun i h h' st k => st.at fun oi e => k it (by simp) oi e
  item := by
    intro X hP hw hK hc i pins s σ H E I hf st hg
    subst hP hw hK
    obtain ⟨hd, hi⟩ := hg
    obtain ⟨f0, f1, f2, f3, f4, f5⟩ := hf it (by simp)
    obtain ⟨hs, hgd, hx, es', ep', hdt, hsz, ent⟩ := Inv.frzN I hd
    obtain ⟨rfl, rfl⟩ := dict_ep hod hdt
    obtain ⟨⟨k, q, v⟩, hkv⟩ : ∃ p, xs[i]? = some p := ⟨xs[i], List.getElem?_eq_getElem hi⟩
    obtain ⟨en, hen, hkey⟩ := ent i k q v hkv
    refine next_key_item st hgd hdt hsz hen fun h' st' sb => ?_
    have I1 : Inv X pins σ H { s with heap := h' } := I.turned (t' := s.toks) (fun b ob hb e => (sb.2 b hb).trans e) f0 f1 f3 f4 f5
    obtain ⟨oi, e, c, dd⟩ := id st'
    exact ⟨en.key, rfl, go_of (s := { s with heap := h' }) e c dd (by decide) ⟨.ref q, H, I1, hkey, ⟨rfl, k, q, v, hkv, rfl⟩, st', fun b hb => (hf b hb).1⟩⟩
  done := by
    intro X hP hw hK hc i pins s σ H E I hf st hg
    subst hP hw hK
    obtain ⟨hd, hi⟩ := hg
    obtain ⟨f0, f1, f2, f3, f4, f5⟩ := hf it (by simp)
    obtain ⟨hs, hgd, hx, es', ep', hdt, hsz, ent⟩ := Inv.frzN I hd
    obtain ⟨rfl, rfl⟩ := dict_ep hod hdt
    exact next_key_end (I.ok.hd hc) st hgd hdt hsz hi fun h' eb => ⟨rfl, I.turned (t' := s.toks) (fun b ob hb e => eb b ob hb e) f0 f1 f3 f4 f5⟩
  self := fun A i s Q E st h => by
    refine wpAny_pyIter_slot st.typeIs F.slot_dict_keyiterator_iter (wpAny_call_entry F.slot_dict_keyiterator_iter st.typeIs F.entry_dict_keyiterator_iter ?_ (F.args_dict_keyiterator_iter_1 _))
    show wpAny _ _ (ret (.ref it)) _ _ s
    exact wpAny_pure ⟨_, rfl, "dict_keyiterator", _, st.typeIs, F.slot_dict_keyiterator_next.lookup, h⟩
def iKeysN (w : World) (td : TE) : TI := fun σ H R => td σ H fun x H1 => ∃ d o xs, x = .ref d ∧ H1 d = some (.frz o (NdO w d xs)) ∧ R (ItkN w d o xs) H1
theorem pi_keysN {tg e : Expr} {td : TE} (he : PE X e td) : PI X tg e (iKeysN X.w td) := by
  refine ⟨fun pins s σ H R I h => ?_⟩
  refine thn (he.run pins s σ H _ I h) fun u s1 ⟨x, H1, I1, rx, d, o, xs, ex, hd, q⟩ => ?_
  subst ex
  obtain rfl : u = Value.ref d := rx
  obtain ⟨hs, hgd, hx, es, ep, hdt, hsz, ent⟩ := Inv.frzN I1 hd
  refine iter_keys hs hgd hx hdt (pi_one (tk := s1.toks) I1 _ (turn_keysN _ hdt) ⟨_, Heap.get?_push_size _ rfl, rfl, ?_⟩ q)
  rw [hsz] <;> rfl
def keyOf : Key → D
  | .inl i => .int i
  | .inr x => .str x
def mKeys (a : ME) : MI := fun ε L => (a ε L).bind fun x L1 => match x with
  | .ref n => match L1[n]? with
    | some (.dic true ks) => .ok ⟨ks.map fun kv => keyOf kv.1, some (n, .dic true ks)⟩ L1
    | some (.nd true ks) => .ok ⟨ks.map (·.1), some (n, .nd true ks)⟩ L1
    | _ => .bad
  | _ => .bad
theorem KR.get : ∀ {ks : List (Key × D)} {vs : List (Key × V)}, KR g ρ H ks vs → ∀ {i : Nat} {k : Key} {d : D}, ks[i]? = some (k, d) → ∃ v, vs[i]? = some (k, v) ∧ VR g ρ H d v
  | _, _, .nil, i, k, d, e => by simp at e
  | _, _, .cons r t, 0, k, d, e => by simp at e; obtain ⟨rfl, rfl⟩ := e; exact ⟨_, rfl, r⟩
  | _, _, .cons r t, i + 1, k, d, e => by obtain ⟨v, h1, h2⟩ := t.get (show _ = _ by simpa using e); exact ⟨v, by simpa using h1, h2⟩
theorem vr_key (k : Key) : VR g ρ H (keyOf k) (kV k) := by
  cases k with
  | inl i => exact .int i
  | inr x => exact .str x
theorem wk_keysK {ks : List (Key × D)} {n : Nat} {a : Addr} {o : Obj} {vs : List (Key × V)} (h : H a = some (.frz o (.dK vs))) (r : KR g ρ H ks vs) : Wk g ρ H ⟨ks.map fun kv => keyOf kv.1, some (n, .dic true ks)⟩ (Itk a o vs) where
  go := fun i ρ' L' H' hi p tt hh ok => by
    simp only [List.length_map] at hi
    exact ⟨tt.frz a o _ h, by rw [← r.length]; exact hi⟩
  stop := fun ρ' L' H' p tt hh ok => ⟨tt.frz a o _ h, by simp only [List.length_map]; rw [r.length]; exact Nat.le_refl _⟩
  yld := fun i d ρ' L' H' x H2 e p tt hh ok y => by
    obtain ⟨rfl, k, v, hk, rfl⟩ := y
    simp only [List.getElem?_map] at e
    cases hq : ks[i]? with
    | none => rw [hq] at e; cases e
    | some kv =>
      rw [hq] at e
      cases e
      obtain ⟨v2, h2, _⟩ := r.get (k := kv.1) (d := kv.2) hq
      rw [hk] at h2
      cases h2
      exact ⟨TP.refl _, hh, vr_key _⟩
theorem wk_keysN {ks : List (D × D)} {n : Nat} {a : Addr} {o : Obj} {xs : List (NestedKey × Addr × V)} (h : H a = some (.frz o (NdO g.w a xs))) (r : NR g ρ H ks xs) : Wk g ρ H ⟨ks.map (·.1), some (n, .nd true ks)⟩ (ItkN g.w a o xs) where
  go := fun i ρ' L' H' hi p tt hh ok => by
    simp only [List.length_map] at hi
    exact ⟨tt.frz a o _ h, by rw [← r.length]; exact hi⟩
  stop := fun ρ' L' H' p tt hh ok => ⟨tt.frz a o _ h, by simp only [List.length_map]; rw [r.length]; exact Nat.le_refl _⟩
  yld := fun i d ρ' L' H' x H2 e p tt hh ok y => by
    obtain ⟨rfl, k, q, v, hk, rfl⟩ := y
    simp only [List.getElem?_map] at e
    cases hq : ks[i]? with
    | none => rw [hq] at e; cases e
    | some kv =>
      rw [hq] at e
      cases e
      obtain ⟨k2, q2, v2, h2, h3, _⟩ := r.get (d := kv.1) (e := kv.2) hq
      rw [hk] at h2
      cases h2
      exact ⟨TP.refl _, hh, h3.mono p tt⟩
theorem si_keys {tg e : Expr} {a : ME} (h : PE X e (tM ⟨X.K, cm, fx, X.w⟩ W a)) : PI X tg e (tMI ⟨X.K, cm, fx, X.w⟩ W (mKeys a)) :=
  (PI.or (pi_keys h) (pi_keysN h)).imp fun σ H R q => by
    obtain ⟨ε, ρ, L, he, hh, q⟩ := q
    by_cases ht : ∃ n L1 ks, a ε L = .ok (.ref n) L1 ∧ L1[n]? = some (.nd true ks)
    · obtain ⟨n, L1, ks, ht, hn⟩ := ht
      refine .inr ⟨ε, ρ, L, he, hh, Lf.bind q fun x L1 v ρ1 H1 e1 p1 t1 h1 r1 q1 => ?_⟩
      rw [ht] at e1
      cases e1
      cases r1 with
      | ref ea =>
        simp only [hn] at q1
        obtain ⟨xs, o, b1, b2⟩ := h1.ob n _ _ hn ea
        exact ⟨_, o, xs, rfl, b1, q1 _ ρ1 H1 (List.prefix_refl _) (TP.refl H1) h1 (wk_keysN b1 b2)⟩
    · refine .inl ⟨ε, ρ, L, he, hh, Lf.bind q fun x L1 v ρ1 H1 e1 p1 t1 h1 r1 q1 => ?_⟩
      cases r1 with
      | ref ea =>
        simp only at q1
        split at q1
        · rename_i ks h2
          obtain ⟨vs, o, b1, b2⟩ := h1.ob _ _ _ h2 ea
          exact ⟨_, o, rfl, .inl ⟨vs, b1, q1 _ ρ1 H1 (List.prefix_refl _) (TP.refl H1) h1 (wk_keysK b1 b2)⟩⟩
        · rename_i ks h2
          exact (ht ⟨_, _, _, e1, h2⟩).elim
        · exact q1.elim
      | _ => exact q1.elim
end Tw
end
section
set_option Elab.async false
set_option linter.all false
set_option maxRecDepth 100000
set_option maxHeartbeats 1000000
namespace Tw
open PySem PySem.Spec L2
variable {g : Gx} {ρ ρ' : List Addr} {H H' : Hp} {X : Cx} {W : WX} {L : List O} {cm : Nat → Addr} {fx : Hp} {pins : List (Addr × Obj)} {σ : L2.St} {s : Shared}
def isDic (L : List O) : D → Bool
  | .ref n => match L[n]? with
    | some (.dic _ _) => true
    | _ => false
  | _ => false
def oGet (x y z : D) (L : List O) : OD := match x with
  | .ref n => match L[n]? with
    | some (.dic _ ks) => match keyD y with
      | some k => some ((lkK ks k).getD z, L)
      | none => none
    | _ => none
  | _ => none
def mGet2 (o a b : ME) : ME := fun ε L => (o ε L).bind fun x L1 => if isDic L1 x = true then (a ε L1).bind fun y L2 => (b ε L2).bind fun z L3 => ofO (oGet x y z L3) else .bad
theorem isDic_ok {x : D} {v : V} (hh : HR g ρ L H) (r : VR g ρ H x v) (e : isDic L x = true) : ∃ n a lk ks, x = .ref n ∧ v = .ref a ∧ ρ[n]? = some a ∧ L[n]? = some (.dic lk ks) ∧ IsD H a := by
  unfold isDic at e
  cases r with
  | ref ea =>
    simp only at e
    split at e
    · rename_i lk ks h
      obtain ⟨vs, rd, _⟩ := hh.dic h ea
      exact ⟨_, _, lk, ks, rfl, rfl, ea, h, .inl ⟨vs, rd⟩⟩
    · cases e
  | _ => cases e
theorem get_ok {y z : D} {n : Nat} {a : Addr} {yv zv : V} {Q : VK} (hh : HR g ρ L H) (ea : ρ[n]? = some a) (ry : VR g ρ H y yv) (rz : VR g ρ H z zv) (q : LfO g ρ H (oGet (.ref n) y z L) Q) : ∃ o, DGet H a yv o ∧ Q (o.getD zv) H := by
  unfold oGet at q
  simp only at q
  split at q
  · rename_i lk ks h
    split at q
    · rename_i k hk
      rcases hh.dget h ea ry hk with ⟨x, w, l, r, dg⟩ | ⟨l, dg⟩
      · rw [l] at q
        exact ⟨_, dg, LfO.same q hh r⟩
      · rw [l] at q
        exact ⟨_, dg, LfO.same q hh rz⟩
    · exact q.elim
  · exact q.elim
theorem se_get2 (hu : X.A.units + 65 < cLine) {o e f : Expr} {mo ma mb : ME} {apos cpos : Pos} (ho : PE X o (tM g W mo)) (ha : PE X e (tM g W ma)) (hb : PE X f (tM g W mb))
    (hbase : attributeBase o "get" X.env (eval o X.env) = eval o X.env := by rfl)
    (hfew : ((backTo cpos (starEach [e, f] X.env)).all (fun x => !x.1) && (backToKw cpos (keywordEach [] X.env)).all (fun x => x.1.isSome)
      && decide (([e, f] : List Expr).length + ([] : List Keyword).length + (if ([] : List Keyword).isEmpty then 0 else 1) < 30)) = true := by rfl)
    (hline : (apos.endLine == cpos.line) = true := by rfl) (ht : backTo cpos (starEach [e, f] X.env) = [(false, eval e X.env), (false, eval f X.env)] := by rfl) :
    PE X (.Call (.Attribute o "get" apos) [e, f] [] cpos) (tM g W (mGet2 mo ma mb)) :=
  (pe_dget2 (by omega) ho ha hb ⟨hbase, hfew, hline, ht⟩).imp fun σ H Q q => by
    obtain ⟨ε, ρ, L, he, hh, q⟩ := q
    refine ⟨ε, ρ, L, he, hh, Lf.bind q fun x L1 v ρ1 H1 e1 p1 t1 h1 r1 q1 => ?_⟩
    cases hi : isDic L1 x with
    | false => rw [hi, if_neg (by decide)] at q1; exact q1.elim
    | true =>
      rw [hi, if_pos rfl] at q1
      obtain ⟨n, a, lk, ks, rfl, rfl, ea, hL, isd⟩ := isDic_ok h1 r1 hi
      refine ⟨a, rfl, isd, ε, ρ1, L1, he.mono p1 t1, h1, Lf.bind q1 fun y L2 yv ρ2 H2 e2 p2 t2 h2 r2 q2 => ?_⟩
      refine ⟨ε, ρ2, L2, (he.mono p1 t1).mono p2 t2, h2, Lf.bind q2 fun z L3 zv ρ3 H3 e3 p3 t3 h3 r3 q3 => ?_⟩
      exact get_ok h3 (pre_get p3 (pre_get p2 ea)) (r2.mono p3 t3) r3 (LfO.of q3)
def loopD (src : Src) (t : MG) (tt : MB) (tk te : ME) (n : Nat) (ε : En) : List D → List O → Rs D
  | [], L => if src.ok L = true then .ok (.ref n) L else .bad
  | d :: ds, L => if src.ok L = true then (match t.f d ε with
    | none => .bad
    | some ε1 => (tt ε1 L).nox.bind fun b L2 => if b = true then (tk ε1 L2).nox.bind fun x L3 => (te ε1 L3).nox.bind fun y L4 => (match L4[n]?, keyD x with
        | some (.dic false ks), some k => if ks.length < most then loopD src t tt tk te n ε ds (L4.set n (.dic false (putKD ks k y))) else .bad
        | _, _ => .bad) else loopD src t tt tk te n ε ds L2) else .bad
def mDComp (vs : List Nat) (mi : MI) (t : MG) (tt : MB) (tk te : ME) : ME := fun ε L => (mi ε L).bind fun src L1 => loopD src t tt tk te L1.length (wipeE ε vs) src.ds (L1 ++ [.dic false []])
theorem loopD_ok {src : Src} {t : MG} {tt : MB} {tk te : ME} {n : Nat} {ε : En} {ds : List D} {σ : L2.St} {Q : VK} (h : LfD g ρ H σ W (loopD src t tt tk te n ε ds L) Q) : src.ok L = true := by
  cases hk : src.ok L with
  | true => rfl
  | false =>
    cases ds with
    | nil => unfold loopD at h; rw [hk] at h; exact h.elim
    | cons d ds => unfold loopD at h; rw [hk] at h; exact h.elim
theorem dcomp_turns {src : Src} {t : MG} {tt : MB} {tk te : ME} {own : List Nat} {σ : L2.St} {ε : En} {J : It} {Q : VK} (hsub : ∀ i ∈ t.is, i ∈ own) (wk : Wk g ρ H src J) (he : ER g ρ H σ ε) {Dl : Addr} (hD : H Dl = none) (hh : HR g ρ L H)
    (q : LfD g ρ H σ W (loopD src t tt tk te L.length (wipeE ε own) src.ds (L ++ [.dic false []])) Q) :
    ∃ Wv : Nat → Nat → Hp → Prop, (∃ m, Wv 0 m (upd H Dl (.dK []))) ∧ ∀ i m H, Wv i m H →
      (J.stop i H ∧ Q (.ref Dl) H) ∨ (J.go i H ∧ ∃ Nx : Hp → Prop, (∀ H', Nx H' → ∃ m', m' < m ∧ Wv (i + 1) m' H') ∧ ∀ x H', J.yld i H x H' → tMG g t x (wipe σ own) H' fun σ2 H2 => wipe σ2 own = wipe σ own ∧ tMB g W0 tt σ2 H2 fun b H3 =>
        if b = true then tM g W0 tk σ2 H3 fun y H4 => tM g W0 te σ2 H4 fun z H5 => ∃ kvs k, y = kV k ∧ H5 Dl = some (.dK kvs) ∧ kvs.length < sizeLine ∧ Nx (upd H5 Dl (.dK (putK kvs k z))) else Nx H3) := by
  have tD : TP H (upd H Dl (.dK [])) := TP.new hD
  have hr := hh.new hD (u := .dK []) (o := .dic false []) ⟨[], upd_same, .nil⟩
  have eD : (ρ ++ [Dl])[L.length]? = some Dl := by rw [← hh.len]; simp
  let Wd : Nat → Nat → Hp → Prop := fun i m H1 => m = src.ds.length - i ∧ i ≤ src.ds.length ∧ ∃ ρ' L', ρ ++ [Dl] <+: ρ' ∧ TP H H1 ∧ HR g ρ' L' H1 ∧ LfD g ρ' H1 σ W (loopD src t tt tk te L.length (wipeE ε own) (src.ds.drop i) L') Q
  refine ⟨Wd,
    ⟨_, rfl, Nat.zero_le _, ρ ++ [Dl], _, List.prefix_refl _, tD, hr, LfD.mono (pre_snoc _ _) tD q⟩, ?_⟩
  rintro i m H2 ⟨rfl, hi, ρ2, L2, p2, t2, h2, q2⟩
  have p02 : ρ <+: ρ2 := (pre_snoc _ _).trans p2
  have hok := loopD_ok q2
  have eD2 : ρ2[L.length]? = some Dl := pre_get p2 eD
  by_cases hlt : i < src.ds.length
  · obtain ⟨d, hd, hdr⟩ := drop_cons hlt
    rw [hdr] at q2
    unfold loopD at q2
    rw [if_pos hok] at q2
    refine .inr ⟨wk.go i ρ2 L2 H2 hlt p02 t2 h2 hok, Wd (i + 1) (src.ds.length - (i + 1)), fun H' n => ⟨src.ds.length - (i + 1), by omega, n⟩, fun x H3 y => ?_⟩
    · obtain ⟨t3, h3, r3⟩ := wk.yld i d ρ2 L2 H2 x H3 hd p02 t2 h2 hok y
      have he3 : ER g ρ2 H3 (wipe σ own) (wipeE ε own) := (he.mono p02 (t2.trans t3)).wipes own
      cases ht : t.f d (wipeE ε own) with
      | none => rw [ht] at q2; exact q2.elim
      | some ε3 =>
        rw [ht] at q2
        have q3 := LfD.mono (List.prefix_refl _) t3 q2
        refine ⟨ρ2, _, d, ε3, he3, r3, ht, fun σ4 he4 u4 => ⟨by rw [wipe_upd u4 hsub, wipe_wipe], ε3, ρ2, L2, he4, h3, ?_⟩⟩
        refine Lf.nox (Lf.bind q3 fun b L5 v ρ5 H5 _ p5 t5 h5 r5 q5 => ?_)
        cases r5
        have p25 := p2.trans p5
        have t05 := (t2.trans t3).trans t5
        cases b with
        | false =>
          rw [if_neg (by decide)] at q5 ⊢
          exact ⟨rfl, hlt, ρ5, L5, p25, t05, h5, q5⟩
        | true =>
          rw [if_pos rfl] at q5 ⊢
          refine ⟨ε3, ρ5, L5, he4.mono p5 t5, h5, Lf.nox (Lf.bind q5 fun xk L6 xv ρ6 H6 _ p6 t6 h6 r6 q6 => ?_)⟩
          refine ⟨ε3, ρ6, L6, (he4.mono p5 t5).mono p6 t6, h6, Lf.nox (Lf.bind q6 fun y L7 yv ρ7 H7 _ p7 t7 h7 r7 q7 => ?_)⟩
          split at q7
          · rename_i ks k ha hk
            split at q7
            · rename_i hz
              have e7 : ρ7[L.length]? = some Dl := pre_get ((p5.trans p6).trans p7) eD2
              obtain ⟨vs, b1, b2⟩ := h7.ob _ _ _ ha e7
              have t8 : TP H7 (upd H7 Dl (.dK (putK vs k yv))) := TP.mut b1 rfl
              refine ⟨vs, k, keyD_ok r6 hk, b1, Nat.lt_of_lt_of_le (by rw [← b2.length]; exact hz) (most_le (Nat.le_refl _)), rfl, hlt, ρ7, _, (p25.trans p6).trans p7, ((t05.trans t6).trans t7).trans t8, ?_, LfD.mono (List.prefix_refl _) t8 q7⟩
              exact h7.set e7 b1 rfl ⟨_, upd_same, (b2.put r7).mono (List.prefix_refl _) t8⟩
            · exact q7.elim
          · exact q7.elim
  · have e : i = src.ds.length := by omega
    subst e
    rw [List.drop_length] at q2
    unfold loopD at q2
    rw [if_pos hok] at q2
    exact .inl ⟨wk.stop ρ2 L2 H2 p02 t2 h2 hok, q2 _ ρ2 H2 (List.prefix_refl _) (TP.refl H2) h2 (.ref eD2)⟩
theorem se_dc {kx vx tg iter : Expr} {ifs : List Expr} {scope : Scope} {own : List (Str × Nat)} {pos : Pos} {mi : MI} {t : MG} {tt : MB} {tk te : ME} (hc : X.calm = true) (hN : X.N.Nodup) (hi : PI X tg iter (tMI g W mi)) (ok : BlkOk X.N X.env.scope scope own)
    (hg : InBlk X scope fun Y => PG Y tg (tMG g t)) (ht : InBlk X scope fun Y => STs g Y ifs tt) (hk : InBlk X scope fun Y => PE Y kx (tM g W0 tk)) (he : InBlk X scope fun Y => PE Y vx (tM g W0 te)) (hsub : ∀ i ∈ t.is, i ∈ own.map (·.2) := by decide) (hs : ∀ x, foldedSetIterable iter X.env x = pure x := by intro _; rfl) :
    PE X (.DictComp kx vx [⟨tg, iter, ifs, 0⟩] scope pos) (tM g W (mDComp (own.map (·.2)) mi t tt tk te)) :=
  (pe_dc hc hN hi ok hg (fun s H C cl fp => (ht s H C cl fp).h) hk he hs).imp fun σ H Q q => by
    obtain ⟨ε, ρ, L, he, hh, q⟩ := q
    refine ⟨ε, ρ, L, he, hh, Lf.bind q fun src L1 J ρ1 H1 _ p1 t1 h1 wk q1 => fun Dl hD => ?_⟩
    exact dcomp_turns hsub wk (he.mono p1 t1) hD h1 q1
theorem callWith_kwT {M : Model} {A : Around} {E : Value → Shared → Prop} {s : Shared} {env : Env} {pos : Pos} {T : String} {e : Expr} {rest : List Expr} {kws : List Keyword} {Q : Value → Shared → Prop}
    (h : wpAny M A (spliced (backTo pos (starEach (e :: rest) env))) (fun vs s₁ => wpAny M A (evalAll ((backToKw pos (keywordEach kws env)).map (·.2)))
      (fun kvs s₂ => wpAny M A (call (.type T) vs (((backToKw pos (keywordEach kws env)).filterMap (·.1)).zip kvs)) Q E s₂) E s₁) E s)
    (he : backTo pos (starEach (e :: rest) env) = (false, eval e env) :: backTo pos (starEach rest env) := by rfl)
    (hplain : (backTo pos (starEach (e :: rest) env)).any (·.1) = false := by rfl)
    (hall : (backToKw pos (keywordEach kws env)).all (·.1.isSome) = true := by rfl)
    (hkw : (backToKw pos (keywordEach kws env)).any (·.1.isNone) = false := by rfl) :
    wpAny M A (callWith pos (.type T) [] (backTo pos (starEach (e :: rest) env)) (backToKw pos (keywordEach kws env))) Q E s := by
  have h' : wpAny M A (evalArgs (.type T) true (backTo pos (starEach (e :: rest) env)) (backToKw pos (keywordEach kws env))) (fun a s₁ => wpAny M A (call (.type T) ([] ++ a.pos) a.kw) Q E s₁) E s := by
    rw [he] at h ⊢
    exact PyProof.Rows.evalArgs_kwB hall h
  unfold callWith
  refine wpAny_bind (wpAny_holding (wpAny_mono h' (fun a s₁ h₁ => wpAny_bind (wpAny_standAt ?_)) fun _ _ x => x))
  simp only [hplain, hkw, Bool.or_false]
  refine wpAny_bind (wpAny_pure ?_)
  exact wpAny_bind (wpAny_mono h₁ (fun r s₂ hr => wpAny_bind (wpAny_holding (wpAny_point (wpAny_pure hr)))) fun _ _ x => x)
def iEnumK (K : PySem.W.Frag) (ta tk : TA) : TI := fun σ H R => ta σ H fun vs H1 => tk σ H1 fun zs H2 => ∃ a xs k, vs = [.ref a] ∧ zs = [.int k] ∧ SqT K H2 a xs ∧ -(2 ^ 63) ≤ k ∧ k < 2 ^ 63 ∧ R (IteT K a k) H2
theorem pi_enumK {e e2 : Expr} {ta tk : TA} {p pos tpos kpos : Pos} {elts : List Expr} {kk : Nat} (hg : Gl X "enumerate") (hm : X.mg "enumerate" = none) (ha : PA X [e] ta) (hk : PK X [⟨some "start", e2, kpos⟩] tk)
    (he : backTo pos (starEach [e] X.env) = (false, eval e X.env) :: backTo pos (starEach [] X.env) := by rfl) (hpl : (backTo pos (starEach [e] X.env)).any (·.1) = false := by rfl)
    (hall : (backToKw pos (keywordEach [⟨some "start", e2, kpos⟩] X.env)).all (·.1.isSome) = true := by rfl) (hnone : (backToKw pos (keywordEach [⟨some "start", e2, kpos⟩] X.env)).any (·.1.isNone) = false := by rfl)
    (hks : (backToKw pos (keywordEach [⟨some "start", e2, kpos⟩] X.env)).filterMap (·.1) = [Str.ofString "start"] := by rfl) :
    PI X (.Tuple elts kk tpos) (.Call (.Name "enumerate" p) [e] [⟨some "start", e2, kpos⟩] pos) (iEnumK X.K ta tk) := by
  refine ⟨fun pins s σ H R I h => ?_⟩
  refine wpAny_Call_Name_kw (ld_blt I hg hm PyProof.Rows.boot_enumerate ?_)
  refine callWith_kwT (thn (ha.run pos pins s σ H _ I h) fun us s1 ⟨vs, H1, I1, r1, q1⟩ => thn (hk.run pos pins s1 σ H1 _ I1 q1) fun ws s2 ⟨zs, H2, I2, r2, a, xs, k, ev, ez, hq, k0, k1, q⟩ => ?_) he hpl hall hnone
  rw [hks]
  subst ev ez
  cases r1 with
  | cons r rr =>
    cases rr
    cases r
    cases r2 with
    | cons r rr =>
      cases rr
      obtain ⟨t, rfl⟩ := r
      obtain ⟨its, rv, p', hz⟩ := I2.tuple hq
      exact enum_begins_start (begins_tuple a its.toArray) p' k0 k1 fun h' he hit hsz hk => enum_itT (tg := e) I2 hq he hit hsz hk q
def mEnumK (a b : ME) : MI := fun ε L => (a ε L).bind fun x L1 => (b ε L1).bind fun y L2 => match x, y with
  | .tup ds, .int k => if -1000000 ≤ k ∧ k ≤ 1000000 then .ok ⟨enumD k ds, none⟩ L2 else .bad
  | _, _ => .bad
theorem si_enumK {elts : List Expr} {kk : Nat} {tpos p pos kpos : Pos} {e e2 : Expr} {a b : ME} (hg : Gl X "enumerate") (hm : X.mg "enumerate" = none) (h : PA X [e] (tCons (tM ⟨X.K, cm, fx, X.w⟩ W a) tNil)) (hb : PE X e2 (tM ⟨X.K, cm, fx, X.w⟩ W b))
    (he : backTo pos (starEach [e] X.env) = (false, eval e X.env) :: backTo pos (starEach [] X.env) := by rfl) (hpl : (backTo pos (starEach [e] X.env)).any (·.1) = false := by rfl)
    (hall : (backToKw pos (keywordEach [⟨some "start", e2, kpos⟩] X.env)).all (·.1.isSome) = true := by rfl) (hnone : (backToKw pos (keywordEach [⟨some "start", e2, kpos⟩] X.env)).any (·.1.isNone) = false := by rfl)
    (hks : (backToKw pos (keywordEach [⟨some "start", e2, kpos⟩] X.env)).filterMap (·.1) = [Str.ofString "start"] := by rfl) :
    PI X (.Tuple elts kk tpos) (.Call (.Name "enumerate" p) [e] [⟨some "start", e2, kpos⟩] pos) (tMI ⟨X.K, cm, fx, X.w⟩ W (mEnumK a b)) :=
  (pi_enumK hg hm h (pk_cons hb pk_nil) he hpl hall hnone hks).imp fun σ H R q => by
    obtain ⟨ε, ρ, L, he, hh, q⟩ := q
    refine ⟨ε, ρ, L, he, hh, Lf.bind q fun x L1 v ρ1 H1 e1 p1 t1 h1 r1 q1 => ?_⟩
    refine ⟨ε, ρ1, L1, he.mono p1 t1, h1, Lf.bind q1 fun y L2 u ρ2 H2 e2 p2 t2 h2 r2 q2 => ?_⟩
    split at q2
    · cases r1 with
      | tup s t =>
        cases r2
        split at q2
        · rename_i hz
          exact ⟨_, _, _, rfl, rfl, t2.rd s.sq, by omega, by omega, q2 _ ρ2 H2 (List.prefix_refl _) (TP.refl H2) h2 (wk_enumT (t2.rd s.sq) (t.mono p2 t2))⟩
        · exact q2.elim
    · exact q2.elim
end Tw
end
section
set_option Elab.async false
set_option linter.all false
set_option maxRecDepth 100000
set_option maxHeartbeats 1000000
namespace Tw
open PySem PySem.Spec L2
variable {g : Gx} {ρ ρ' : List Addr} {H H' : Hp} {X : Cx} {W : WX} {L : List O} {cm : Nat → Addr} {fx : Hp} {pins : List (Addr × Obj)} {σ : L2.St} {s : Shared}
section
variable {α : Type} (le : α → α → Bool)
def insS (x : α) : List α → List α
  | [] => [x]
  | y :: ys => if le x y = true then x :: y :: ys else y :: insS x ys
def sortS : List α → List α
  | [] => []
  | x :: xs => insS le x (sortS xs)
variable {le}
theorem insS_mem {x z : α} : ∀ {l : List α}, z ∈ insS le x l → z = x ∨ z ∈ l
  | [], h => by simp [insS] at h; exact .inl h
  | y :: ys, h => by
    unfold insS at h
    split at h
    · simpa using h
    · rcases List.mem_cons.mp h with h | h
      · exact .inr (by simp [h])
      · rcases insS_mem h with h | h
        · exact .inl h
        · exact .inr (List.mem_cons_of_mem _ h)
theorem insS_pw (T : PySem.W.TotalLe le) {x : α} : ∀ {l : List α}, l.Pairwise (fun a b => le a b = true) → (insS le x l).Pairwise fun a b => le a b = true
  | [], _ => by simp [insS]
  | y :: ys, h => by
    unfold insS
    split
    · rename_i hxy
      refine List.pairwise_cons.mpr ⟨fun z hz => ?_, h⟩
      rcases List.mem_cons.mp hz with e | hz
      · rw [e]; exact hxy
      · exact T.trans _ _ _ hxy ((List.pairwise_cons.mp h).1 z hz)
    · rename_i hxy
      refine List.pairwise_cons.mpr ⟨fun z hz => ?_, insS_pw T (List.pairwise_cons.mp h).2⟩
      rcases insS_mem hz with e | hz
      · rw [e]
        rcases T.total x y with h1 | h1
        · exact absurd h1 hxy
        · exact h1
      · exact (List.pairwise_cons.mp h).1 z hz
theorem insS_filter (T : PySem.W.TotalLe le) {x c : α} : ∀ {l : List α}, (insS le x l).filter (PySem.W.sameRank le c) = (x :: l).filter (PySem.W.sameRank le c)
  | [] => by simp [insS]
  | y :: ys => by
    unfold insS
    split
    · rfl
    · rename_i hxy
      rw [List.filter_cons, insS_filter T, List.filter_cons (x := x), List.filter_cons (x := x), List.filter_cons (x := y)]
      by_cases hx : PySem.W.sameRank le c x = true
      · have hy : ¬ PySem.W.sameRank le c y = true := fun hy => hxy (by
          unfold PySem.W.sameRank at hx hy
          simp only [Bool.and_eq_true] at hx hy
          exact T.trans _ _ _ hx.2 hy.1)
        simp [hx, hy]
      · simp [hx]
theorem sortS_eq (T : PySem.W.TotalLe le) (l : List α) : sortS le l = l.mergeSort le := by
  have pw : ∀ l : List α, (sortS le l).Pairwise fun a b => le a b = true := by
    intro l
    induction l with
    | nil => exact List.Pairwise.nil
    | cons x xs ih => exact insS_pw T ih
  have fl : ∀ (c : α) (l : List α), (sortS le l).filter (PySem.W.sameRank le c) = l.filter (PySem.W.sameRank le c) := by
    intro c l
    induction l with
    | nil => rfl
    | cons x xs ih =>
      rw [show sortS le (x :: xs) = insS le x (sortS le xs) from rfl, insS_filter T, List.filter_cons, List.filter_cons, ih]
  exact PySem.W.sort_unique T (pw l) fun c => fl c l
end
def encD (L : List O) (d : D) : PyData := (toPy L pyDeep d).getD .none
def allAlikeB (ps : List PyData) : Bool := ps.all fun p => ps.all fun q => PySem.W.alike p q
def sortableB (ps : List PyData) : Bool := (ps.all fun p => match p with
    | .tuple (_ :: _) => true
    | _ => false) || ps.all fun p => match p with
    | .none => false
    | .tuple _ => false
    | _ => true
theorem allAlike_ok {ps : List PyData} (h : allAlikeB ps = true) : PySem.W.AllAlike ps := fun d hd d' hd' => by
  have := List.all_eq_true.mp (List.all_eq_true.mp h d hd) d' hd'
  exact this
theorem sortable_ok {ps : List PyData} (h : sortableB ps = true) : PySem.W.Sortable ps := by
  unfold sortableB at h
  rw [Bool.or_eq_true] at h
  rcases h with h | h
  · refine .inl fun d hd => ?_
    have := List.all_eq_true.mp h d hd
    split at this
    · exact ⟨_, _, rfl⟩
    · cases this
  · refine .inr fun d hd => ?_
    have := List.all_eq_true.mp h d hd
    split at this
    · cases this
    · cases this
    · rename_i h1 h2
      exact ⟨h1, h2⟩
/-- the items sorted; none where their order is not served -/
def sortedD (L : List O) (ds : List D) : Option (List D) :=
  if (ds.all fun d => match toPy L pyDeep d with
      | some p => decide (p.depth ≤ 16)
      | none => false) = true ∧ allAlikeB (ds.map (encD L)) = true ∧ sortableB (ds.map (encD L)) = true ∧ ds.length ≤ most then some (sortS (PySem.W.dataLe false (encD L)) ds) else none
def cSorted : OC := fun ds L => match ds with
  | [.ref n] => match L[n]? with
    | some (.lst xs) => (sortedD L xs).map fun ys => (.ref L.length, L ++ [.lst ys])
    | _ => none
  | _ => none
def RD (g : Gx) (ρ : List Addr) (H : Hp) : Value → D → Prop := fun v d => ∃ x, RelV x v ∧ VR g ρ H d x
theorem each_in : ∀ {ds : List D} {vs : List V} {us : List Value}, VRs g ρ H ds vs → Vals vs us → PySem.W.EachIs (RD g ρ H) us ds
  | _, _, _, .nil, .nil => .nil
  | _, _, _, .cons r t, .cons r2 t2 => .cons ⟨_, r2, r⟩ (each_in t t2)
theorem each_out : ∀ {ds : List D} {us : List Value}, PySem.W.EachIs (RD g ρ H) us ds → ∃ vs, VRs g ρ H ds vs ∧ Vals vs us
  | _, _, .nil => ⟨[], .nil, .nil⟩
  | _, _, .cons ⟨x, r1, r2⟩ t => by
    obtain ⟨vs, h1, h2⟩ := each_out t
    exact ⟨x :: vs, .cons r2 h1, .cons r1 h2⟩
theorem each_reads (I : Inv X pins σ H s) (hh : HR ⟨X.K, cm, fx, X.w⟩ ρ L H) : ∀ {ds : List D} {us : List Value}, PySem.W.EachIs (RD ⟨X.K, cm, fx, X.w⟩ ρ H) us ds → (∀ d ∈ ds, ∃ p, toPy L pyDeep d = some p) → PySem.W.EachIs (fun v d => ∃ as, Reads s.heap v (encD L d) as) us ds
  | _, _, .nil, _ => .nil
  | _, _, .cons (b := d) ⟨x, r1, r2⟩ t, h => by
    obtain ⟨p, hp⟩ := h d List.mem_cons_self
    refine .cons ?_ (each_reads I hh t fun e he => h e (List.mem_cons_of_mem _ he))
    have : encD L d = p := by unfold encD; rw [hp]; rfl
    rw [this]
    exact Dp.reads I p x _ (toPy_ok hh _ _ _ _ hp r2) r1
theorem c_sorted (hu : X.A.units + 65 < cLine) : CallR X (.builtin "sorted") (rC ⟨X.K, cm, fx, X.w⟩ cSorted) := by
  intro pins s σ H xs us Q I r q
  obtain ⟨ρ, L, ds, hh, rr, q⟩ := q
  unfold cSorted at q
  split at q
  · rename_i n
    obtain ⟨v, rfl, rv⟩ := rr.one
    cases rv with
    | ref ea =>
      rename_i a
      obtain ⟨u, rfl, ru⟩ := r.one
      obtain rfl : u = Value.ref a := ru
      split at q
      · rename_i zs hz
        cases hs : sortedD L zs with
        | none => rw [hs] at q; exact q.elim
        | some ys =>
          rw [hs] at q
          simp only [Option.map_some] at q
          unfold sortedD at hs
          split at hs
          · rename_i hc
            obtain ⟨c1, c2, c3, c4⟩ := hc
            have hys : ys = zs.mergeSort (PySem.W.dataLe false (encD L)) := by
              have := sortS_eq (le := PySem.W.dataLe false (encD L)) (by unfold PySem.W.dataLe; exact PySem.W.sortLe_total _ _ _) zs
              exact (Option.some.inj hs).symm.trans this
            subst hys
            obtain ⟨vs, b1, b2⟩ := hh.lst hz ea
            obtain ⟨its, rel, ⟨o, k, ho, hcl, hdn, hdat⟩, hlen⟩ := I.list (SqL.of b1)
            have e1 := each_in b2 rel
            have py : ∀ d ∈ zs, ∃ p, toPy L pyDeep d = some p ∧ p.depth ≤ 16 := fun d hd => by
              have := List.all_eq_true.mp c1 d hd
              split at this
              · rename_i p hp
                exact ⟨p, hp, of_decide_eq_true this⟩
              · cases this
            have e2 := each_reads I hh e1 fun d hd => let ⟨p, hp, _⟩ := py d hd; ⟨p, hp⟩
            refine PySem.W.sorted_data (bs := zs) (enc := encD L) (R := RD ⟨X.K, cm, fx, X.w⟩ ρ H) ⟨o, ho, hcl, k, hdat⟩ e1 e2 (allAlike_ok c2) (sortable_ok c3) (Nat.le_trans c4 (most_le (Nat.le_refl _))) (fun d hd => ?_) fun out hl eo => ?_
            · obtain ⟨p, hp, h16⟩ := py d hd
              have : encD L d = p := by unfold encD; rw [hp]; rfl
              rw [this]
              omega
            · obtain ⟨ws, w1, w2⟩ := each_out eo
              obtain ⟨ee, hat⟩ := PyProof.Rows.sortedAll_at s.heap its out.toArray
              have hn : H (s.heap.objs.size + 1) = none := I.hok.fresh (Nat.le_succ _)
              have hz2 : ws.length ≤ sizeLine := by
                rw [← w1.length, List.length_mergeSort]
                exact Nat.le_trans c4 (most_le (Nat.le_refl _))
              have I2 := I.laid (a := s.heap.objs.size + 1) (o := .lst ws) (h' := PyProof.Rows.sortedAll s.heap its out.toArray) (t' := s.toks) (fun _ _ q => PyProof.Rows.sortedAll_old q) (Nat.le_succ _) ⟨hz2, out, ee, w2, hat⟩
              exact ⟨.ref (s.heap.objs.size + 1), _, I2, rfl, LfO.newL q hh w1 hn⟩
          · cases hs
      · exact q.elim
  · exact q.elim
end Tw
namespace Tw
def lkVar (i : Nat) : En → List O → Option Nat := fun ε _ => match ε[i]? with
  | some (some (.ref n)) => some n
  | _ => none
end Tw
end
section
set_option Elab.async false
set_option linter.all false
set_option maxRecDepth 100000
set_option maxHeartbeats 1000000
namespace Tw
open PySem PySem.Spec PyProof.Rows L2
variable {g : Gx} {ρ ρ' : List Addr} {H H' : Hp} {X : Cx} {W : WX} {L : List O} {cm : Nat → Addr} {fx : Hp} {pins : List (Addr × Obj)} {σ : L2.St} {s : Shared}
theorem ps_setDc {i : Nat} {y : Str} {py : Pos} {kx vx tg iter : Expr} {ifs : List Expr} {scope : Scope} {own : List (Str × Nat)} {pos spos : Pos} {wi : TI} {g : TG} {tt : TT} {tk te : TE} (hc : X.calm = true) (hN : X.N.Nodup) (hy : X.N[i]? = some y) (hyl : X.env.scope.names.lookup y = some .local)
    (hsw : swapsWith (.DictComp kx vx [⟨tg, iter, ifs, 0⟩] scope pos) (some (.Name y py)) spos.line X.env = pure true) (hi : PI X tg iter wi) (ok : BlkOk X.N X.env.scope scope own)
    (hg : ∀ (s : Shared) (H : Hp) (C : Addr) (cl : List (Str × Addr)) (fp : List Addr), PG (X.blk s H scope (compEnvC scope cl C X.env) fp) tg g) (ht : ∀ (s : Shared) (H : Hp) (C : Addr) (cl : List (Str × Addr)) (fp : List Addr), PTs (X.blk s H scope (compEnvC scope cl C X.env) fp) ifs tt)
    (hk : ∀ (s : Shared) (H : Hp) (C : Addr) (cl : List (Str × Addr)) (fp : List Addr), PE (X.blk s H scope (compEnvC scope cl C X.env) fp) kx tk)
    (he : ∀ (s : Shared) (H : Hp) (C : Addr) (cl : List (Str × Addr)) (fp : List Addr), PE (X.blk s H scope (compEnvC scope cl C X.env) fp) vx te) (hs : ∀ x, foldedSetIterable iter X.env x = pure x := by intro _; rfl) :
    PS X (.Assign [.Name y py] (.DictComp kx vx [⟨tg, iter, ifs, 0⟩] scope pos) spos) (tAsg (tDc wi g tt tk te (own.map (·.2))) (gName i)) := by
  refine ⟨fun pins s σ H D I h => ?_⟩
  rw [exec_Assign_Name_used _ _ _ _ hsw]
  refine wpAny_bind (wpAny_standAt (wpAny_bind ?_))
  show wpAny _ X.A (do let _ ← comprehension (.DictComp kx vx [⟨tg, iter, ifs, 0⟩] scope pos) scope X.env (firstIterPos [⟨tg, iter, ifs, 0⟩] pos) newDict false (eval iter X.env) (some (assign (.Name y py) X.env))) _ _ s
  have h : tDc wi g tt tk te (own.map (·.2)) σ H (fun x H1 => gName i x σ H1 D.nx) := h
  refine wpAny_bind (thn (dc_core (Qf := fun _ s' => SP X pins D .next s') hc hN I hi ok hg ht hk he hs h fun L C s' m H' I' q hn f => ?_) fun _ s' hq => wpAny_pure (wpAny_pure hq))
  show wpAny _ _ (assign (.Name y py) X.env (.ref L)) _ _ _
  refine wpAny_assign_Name (store_ok2 (v := V.ref L) I' hN hy (.inl hyl) rfl (fun s2 I2 ⟨a, sb, ha⟩ => ?_) (.inr hyl))
  obtain ⟨f0, f1, f2, f3, f4, f5⟩ := f
  have haC : C ≠ a := by
    rcases ha with z | z
    · rw [z]; exact f1
    · exact fun e => f4 y a z e.symm
  refine ⟨m, hn.sameBut sb haC, fun h3 sb3 => ?_⟩
  exact ⟨_, H', I2.turned (t' := s2.toks) (fun b o hb e => (sb3.2 b hb).trans e) f0 f1 f3 f4 f5, q⟩
theorem sw_trueD {kx vx : Expr} {gs : List Comprehension} {scope : Scope} {pos py : Pos} {y : Str} {l : Nat} {env : Env} (hk : env.scope.kind = .function) (hy : env.scope.names.lookup y = some .local) (hl : (py.line == pos.line) = true)
    (ha : (scope.names.any fun (n, k) => n == y && (k == .local || k == .cell)) = false) : swapsWith (.DictComp kx vx gs scope pos) (some (.Name y py)) l env = pure true := by
  have ky : env.kindOf y = some .local := hy
  have hb : env.blockKind = .function := by unfold Env.blockKind; rw [hk]; rfl
  unfold swapsWith
  simp only [hb, ky, ha, Expr.pos, hl]
  rfl
theorem ss_setDc {i : Nat} {y : Str} {py : Pos} {kx vx tg iter : Expr} {ifs : List Expr} {scope : Scope} {own : List (Str × Nat)} {pos spos : Pos} {mi : MI} {t : MG} {tt : MB} {tk te : ME} (hc : X.calm = true) (hN : X.N.Nodup) (hy : X.N[i]? = some y) (hi : PI X tg iter (tMI g W mi)) (ok : BlkOk X.N X.env.scope scope own)
    (hg : InBlk X scope fun Y => PG Y tg (tMG g t)) (ht : InBlk X scope fun Y => STs g Y ifs tt) (hk : InBlk X scope fun Y => PE Y kx (tM g W0 tk)) (he : InBlk X scope fun Y => PE Y vx (tM g W0 te)) (hsub : ∀ i ∈ t.is, i ∈ own.map (·.2) := by decide) (hyl : X.env.scope.names.lookup y = some .local := by rfl)
    (hsw : swapsWith (.DictComp kx vx [⟨tg, iter, ifs, 0⟩] scope pos) (some (.Name y py)) spos.line X.env = pure true := by exact sw_trueD rfl rfl rfl (by decide +kernel)) (hs : ∀ x, foldedSetIterable iter X.env x = pure x := by intro _; rfl) :
    PS X (.Assign [.Name y py] (.DictComp kx vx [⟨tg, iter, ifs, 0⟩] scope pos) spos) (tMS g W (mSet i (mDComp (own.map (·.2)) mi t tt tk te))) :=
  (ps_setDc hc hN hy hyl hsw hi ok hg (fun s H C cl fp => (ht s H C cl fp).h) hk he hs).imp fun D σ H q => by
    obtain ⟨ε, ρ, L, he, hh, q⟩ := q
    have q2 : LfD g ρ H σ W (mDComp (own.map (·.2)) mi t tt tk te ε L) (fun x H1 => gName i x σ H1 D.nx) := LfS.bind he q fun x L1 v ρ1 H1 _ p1 t1 h1 r1 q1 => q1 _ ρ1 H1 (List.prefix_refl _) (TP.refl H1) h1 ((he.mono p1 t1).set i r1)
    refine ⟨ε, ρ, L, he, hh, Lf.bind q2 fun src L1 J ρ1 H1 _ p1 t1 h1 wk q1 => fun Dl hD => ?_⟩
    exact dcomp_turns hsub wk (he.mono p1 t1) hD h1 q1
end Tw
end
section
set_option Elab.async false
set_option linter.all false
set_option maxRecDepth 100000
set_option maxHeartbeats 1000000
namespace Tw
open PySem PySem.Spec PyProof.Rows L2 HT
end Tw
end
section
set_option Elab.async false
set_option linter.all false
set_option maxRecDepth 100000
set_option maxHeartbeats 4000000
namespace Tw
open PySem PySem.Spec PyProof.Rows L2 HT
end Tw
end
section
set_option Elab.async false
set_option linter.all false
set_option maxRecDepth 100000
set_option maxHeartbeats 4000000
namespace Tw
open PySem PySem.Spec L2
end Tw
end
section
set_option Elab.async false
set_option linter.all false
set_option maxRecDepth 100000
set_option maxHeartbeats 4000000
namespace Tw
open PySem PySem.Spec L2
end Tw
end
section
set_option Elab.async false
set_option linter.all false
set_option maxRecDepth 100000
set_option maxHeartbeats 4000000
namespace Tw
open PySem PySem.Spec L2
end Tw
end
section
set_option Elab.async false
set_option linter.all false
set_option maxRecDepth 100000
set_option maxHeartbeats 4000000
namespace Tw
open PySem PySem.Spec L2
end Tw
end
section
set_option Elab.async false
set_option linter.all false
set_option maxRecDepth 100000
set_option maxHeartbeats 4000000
namespace Tw
open PySem PySem.Spec PyProof.Rows L2
end Tw
end
section
set_option Elab.async false
set_option linter.all false
set_option maxRecDepth 100000
set_option maxHeartbeats 4000000
namespace Tw
open PySem PySem.Spec L2
end Tw
end
section
set_option Elab.async false
set_option linter.all false
set_option maxRecDepth 100000
set_option maxHeartbeats 4000000
namespace Tw
open PySem PySem.Spec PyProof.Rows L2
variable {g : Gx} {ρ ρ' : List Addr} {H H' : Hp} {X : Cx} {W : WX} {L : List O} {cm : Nat → Addr} {fx : Hp}
theorem KR.valV {ks : List (Key × D)} {vs : List (Key × V)} (r : KR g ρ H ks vs) (k : Key) {d : D} (h : lkK ks k = some d) : ∃ v, L2.valV vs k = some v ∧ VR g ρ H d v := by
  induction r with
  | nil => cases h
  | cons r t ih =>
    rename_i k' d' v' ks' vs'
    unfold lkK at h
    rw [List.find?_cons] at h
    by_cases e : k' = k
    · simp only [e, decide_true, Option.map_some] at h
      cases h
      exact ⟨_, valV_pos e, r⟩
    · simp only [e, decide_false] at h
      obtain ⟨v, h1, h2⟩ := ih h
      exact ⟨v, (valV_neg e).trans h1, h2⟩
end Tw
end
section
set_option Elab.async false
set_option linter.all false
set_option maxRecDepth 100000
set_option maxHeartbeats 4000000
namespace PySem.W
open PySem PySem.Spec PyProof.Rows
end PySem.W
namespace Tw
open PySem PySem.Spec PyProof.Rows L2
end Tw
end
section
set_option Elab.async false
set_option linter.all false
set_option maxRecDepth 100000
set_option maxHeartbeats 4000000
namespace Tw
open PySem PySem.Spec PyProof.Rows L2
end Tw
end
section
set_option Elab.async false
set_option linter.all false
set_option maxRecDepth 100000
set_option maxHeartbeats 4000000
namespace TwX
open PySem PySem.W PySem.Calls PyProof.Rows PySem.HandSPX PySem.Spec
variable {prog : Program} {w : World} {A : Around} {E : Value → Shared → Prop} {s : Shared} {K : Frag}
/-- what the written part says of such a class and of its __init__ -/
structure ExiC (prog : Program) (K : Frag) (C f : Addr) (params : Arguments) (body : List Stmt) (scope : Scope) : Prop where
  oex : L2.OexC K C
  ini : findIn K (.ref C) "__init__" = some (some (.ref f))
  tyf : typeIn K (.ref f) = some (.type "function")
  fn : ∃ (qual : Str) (kV doc pm ct oc : Value) (an od : Option Addr) (osl : Array (Option Value)) (cc cda : Addr), K.lookup f = some ⟨oc, od, .func (ksFn "__init__" qual params body scope .none kV doc pm an (.ref cda) ct cc), osl⟩ ∧ codeIn K (.ref cda) qual = true ∧
    (∃ (cl : Value) (cld : Option Addr) (csl : Array (Option Value)), K.lookup cc = some ⟨cl, cld, .cell (some (.ref C)), csl⟩) ∧
    ∃ (ccl : Value) (cdd : Option Addr) (vs : Array Value) (ccs : Array (Option Value)) (file : Str) (tf : Tok), K.lookup cda = some ⟨ccl, cdd, .fields vs, ccs⟩ ∧ vs[2]? = some (.str file tf) ∧ ((prog.main.file : Str) == file) = true
  sup : ks_superIn K C C "__init__" = some (some (.builtin "ValueError.__init__"))
  subV : subIn K (.ref C) (.type "ValueError") = some true
  selfC : mroIn K C (.ref C) = some true
  opq : nsIn K cStatics "thirdparty.any" = some none
abbrev supStmt (a0 : Expr) (as : List Expr) (q0 q1 q2 q3 q4 : Pos) : Stmt := .Expr (.Call (.Attribute (.Call (.Name "super" q0) [] [] q1) "__init__" q2) (a0 :: as) [] q3) q4
abbrev setStmt (f p : Str) (q5 q6 q7 q8 : Pos) : Stmt := .Assign [.Attribute (.Name "self" q5) f q6] (.Name p q7) q8
/-- how the scope of such an __init__ stands -/
structure ExiS (scope : Scope) (ps : List Str) : Prop where
  fn : scope.kind = .function
  co : scope.isCoroutine = false
  gen : scope.isGenerator = false
  cell : ∀ x ∈ scope.names, x.2 ≠ .cell
  sup : scope.names.lookup ("super" : Str) = some .globalImplicit
  cls : scope.names.lookup ("__class__" : Str) = some .free
  loc : ∀ p ∈ ps, scope.names.lookup p = some .local
end TwX
end
section
set_option Elab.async false
set_option linter.all false
set_option maxRecDepth 100000
set_option maxHeartbeats 4000000
namespace TwX
open PySem PySem.W PySem.Calls PyProof.Rows PySem.HandSPX PySem.Spec
variable {prog : Program} {w : World} {A : Around} {E : Value → Shared → Prop} {s : Shared} {K : Frag}
/-- positions of such a def's texts -/
structure Qs where
  q0 : Pos
  q1 : Pos
  q2 : Pos
  q3 : Pos
  q4 : Pos
  q5 : Pos
  q6 : Pos
  q7 : Pos
  q8 : Pos
/-- what of the def's texts is looked at by rfl -/
structure ExiP (scope : Scope) (f : Addr) (a0 : Expr) (as : List Expr) (f1 p1 : Str) (q : Qs) : Prop where
  ev : ∀ (qual : Str) (L : Addr) (cd : Value) (cc : Addr), ∃ pl : Sem Bool, eval (.Call (.Attribute (.Call (.Name "super" q.q0) [] [] q.q1) "__init__" q.q2) (a0 :: as) [] q.q3) (ksEnv qual scope L f cd cc) = (do
      let ov ← attributeBase (.Call (.Name "super" q.q0) [] [] q.q1) "__init__" (ksEnv qual scope L f cd cc) (eval (.Call (.Name "super" q.q0) [] [] q.q1) (ksEnv qual scope L f cd cc))
      standAt q.q2.atName
      let (fv, first) ← holding [ov] (getMethod ov "__init__" pl)
      callWith q.q3 fv first (backTo q.q3 (starEach (a0 :: as) (ksEnv qual scope L f cd cc))) [])
  i : ∀ (qual : Str) (L : Addr) (cd : Value) (cc : Addr), interactive (ksEnv qual scope L f cd cc) = false
  sx : ∀ (qual : Str) (L : Addr) (cd : Value) (cc : Addr), swapsWith (.Call (.Attribute (.Call (.Name "super" q.q0) [] [] q.q1) "__init__" q.q2) (a0 :: as) [] q.q3) none q.q4.line (ksEnv qual scope L f cd cc) = pure false
  st : ∀ (qual : Str) (L : Addr) (cd : Value) (cc : Addr), starEach (a0 :: as) (ksEnv qual scope L f cd cc) = (false, eval a0 (ksEnv qual scope L f cd cc)) :: starEach as (ksEnv qual scope L f cd cc)
  pl : ∀ env, (backTo q.q3 (starEach (a0 :: as) env)).any (·.1) = false
  sw : ∀ (qual : Str) (L : Addr) (cd : Value) (cc : Addr), swapsWith (.Name p1 q.q7) (some (.Attribute (.Name "self" q.q5) f1 q.q6)) q.q8.line (ksEnv qual scope L f cd cc) = pure false
abbrev body2 (f1 p1 f2 p2 : Str) (q : Qs) (qa qb r5 r6 r7 r8 : Pos) : List Stmt := [supStmt (.Name p1 qa) [.Name p2 qb] q.q0 q.q1 q.q2 q.q3 q.q4, setStmt f1 p1 q.q5 q.q6 q.q7 q.q8, setStmt f2 p2 r5 r6 r7 r8]
end TwX
end
section
set_option Elab.async false
set_option linter.all false
set_option maxRecDepth 100000
set_option maxHeartbeats 4000000
namespace Tw
open PySem PySem.Spec PyProof.Rows L2
variable {g : Gx} {ρ ρ' : List Addr} {H H' : Hp} {X : Cx} {W : WX} {L : List O} {cm : Nat → Addr} {fx : Hp}
def mRaise (c : Nat) (fn : List Str) (args : MA) : MS := fun ε L => (args ε L).bindS ε fun ds L1 => if ds.length = fn.length then .ex c (fn.zip ds) ε L1 else .bad
end Tw
end
section
set_option Elab.async false
set_option linter.all false
set_option maxRecDepth 100000
set_option maxHeartbeats 4000000
namespace Tw
open PySem PySem.Spec PyProof.Rows L2
/-- the fields of the exception at hand, its dict in the frame -/
def XF (g : Gx) (ρ : List Addr) (H : Hp) (fs : List (Str × D)) (d : Option Addr) : Prop := (fs = [] ∧ d = none) ∨ ∃ dd vs, d = some dd ∧ g.fx dd = some (.xd vs) ∧ FR g ρ H fs vs
theorem XF.mono {g : Gx} {ρ ρ' : List Addr} {H H' : Hp} {fs : List (Str × D)} {d : Option Addr} (hp : ρ <+: ρ') (ht : TP H H') (h : XF g ρ H fs d) : XF g ρ' H' fs d := by
  rcases h with h | ⟨dd, vs, e, f, r⟩
  · exact .inl h
  · exact .inr ⟨dd, vs, e, f, r.monoV hp ht.tv⟩
structure Hold1 (g : Gx) (i : Nat) (a : Addr) (cls : Value) (d : Option Addr) (c : Nat) (fs : List (Str × D)) (ε : En) (ρ : List Addr) (L : List O) (σ : L2.St) (H : Hp) : Prop where
  cl : cls = .ref (g.cm c)
  sl : σ[i]? = some (some (.ref a))
  xf : XF g ρ H fs d
  er : ER g ρ H σ ε
  hr : HR g ρ L H
theorem Hold1.mono {g : Gx} {i : Nat} {a : Addr} {cls : Value} {d : Option Addr} {c : Nat} {fs : List (Str × D)} {ε : En} {ρ ρ' : List Addr} {L L' : List O} {σ : L2.St} {H H' : Hp} (h : Hold1 g i a cls d c fs ε ρ L σ H) (p : ρ <+: ρ') (t : TP H H') (hh : HR g ρ' L' H') : Hold1 g i a cls d c fs ε ρ' L' σ H' :=
  ⟨h.cl, h.sl, h.xf.mono p t, h.er.mono p t, hh⟩
variable {X : Cx} {cm : Nat → Addr} {i : Nat}
end Tw
end
section
set_option Elab.async false
set_option linter.all false
set_option maxRecDepth 100000
set_option maxHeartbeats 4000000
namespace Tw
open PySem PySem.Spec PyProof.Rows L2
variable {X : Cx} {cm : Nat → Addr} {i : Nat} {W : WX}
/-- the dict of an exception: none, or a tracked one -/
def XdOk (H : Hp) (d : Option Addr) : Prop := d = none ∨ ∃ dd vs, d = some dd ∧ H dd = some (.xd vs)
theorem Hold1.xd {g : Gx} {i : Nat} {a : Addr} {cls : Value} {d : Option Addr} {c : Nat} {fs : List (Str × D)} {ε : En} {ρ : List Addr} {L : List O} {σ : L2.St} {H : Hp} (h : Hold1 g i a cls d c fs ε ρ L σ H) : XdOk H d := by
  rcases h.xf with ⟨_, e⟩ | ⟨dd, vs, e, ef, _⟩
  · exact .inl e
  · exact .inr ⟨dd, vs, e, h.hr.fxs dd _ ef⟩
end Tw
end
section
set_option Elab.async false
set_option linter.all false
set_option maxRecDepth 100000
set_option maxHeartbeats 4000000
namespace Tw
open PySem PySem.Spec PyProof.Rows L2
theorem all_nil {P : Nat → Bool → Prop} : ∀ p ∈ ([] : List (Nat × Bool)), P p.1 p.2 := fun p h => by cases h
theorem all_cons {P : Nat → Bool → Prop} {c : Nat} {b : Bool} {l : List (Nat × Bool)} (h : P c b) (hl : ∀ p ∈ l, P p.1 p.2) : ∀ p ∈ (c, b) :: l, P p.1 p.2 := fun p hp => by
  rcases List.mem_cons.mp hp with e | hp
  · rw [e]; exact h
  · exact hl p hp
end Tw
end
section
set_option Elab.async false
set_option linter.all false
set_option maxRecDepth 100000
set_option maxHeartbeats 1000000
namespace Tw
open PySem PySem.Spec L2
open PyProof.Rows (envOfC)
variable {g : Gx} {ρ ρ' : List Addr} {H H' : Hp} {X : Cx} {W : WX} {L : List O} {cm : Nat → Addr} {fx : Hp}
theorem reads_emp {h : Heap} {b : Addr} {o : Obj} {ep : Nat} (ho : h.get? b = some o) (hc : o.cls = .type "dict") (hd : o.data = .dict #[] ep) : Reads h (.ref b) (.dict []) [b] :=
  Reads.dict (as := []) (bs := []) ho hc hd .nil .nil
end Tw
end
section
set_option Elab.async false
set_option linter.all false
set_option maxRecDepth 100000
set_option maxHeartbeats 4000000
namespace L2
open PySem PySem.Spec PyProof.Rows L2H
end L2
end
section
set_option Elab.async false
set_option linter.all false
set_option maxRecDepth 100000
set_option maxHeartbeats 4000000
namespace Tw
open PySem PySem.Spec PyProof.Rows L2 L2H
end Tw
end
section
set_option Elab.async false
set_option linter.all false
set_option maxRecDepth 100000
set_option maxHeartbeats 4000000
namespace Tw
open PySem PySem.Spec PyProof.Rows L2 L2H
variable {g : Gx} {ρ : List Addr} {H : Hp} {X : Cx} {W : WX} {L : List O} {cm : Nat → Addr} {fx : Hp} {c i : Nat} {p : Addr × Obj}
theorem PIH.imp {tg iter : Expr} {wi wi' : TI} (h : PIH X tg iter wi) (hi : ∀ σ H R, wi' σ H R → wi σ H R) : PIH X tg iter wi' := ⟨fun pins s σ H R I q => h.run pins s σ H R I (hi σ H R q)⟩
end Tw
end
section
set_option Elab.async false
set_option linter.all false
set_option maxRecDepth 100000
set_option maxHeartbeats 4000000
namespace Tw
open PySem PySem.Spec L2
variable {g : Gx} {ρ ρ' : List Addr} {H H' : Hp} {X : Cx} {W : WX} {L : List O} {cm : Nat → Addr} {fx : Hp}
mutual
/-- as Reads; a dict is not that of the modules -/
inductive ReadsS (h : Heap) : Value → PyData → Prop
  | none : ReadsS h .none .none
  | bool (b : Bool) : ReadsS h (.bool b) (.bool b)
  | int (i : Int) (t : Tok) : ReadsS h (.int i t) (.int i)
  | str (x : Str) (t : Tok) : ReadsS h (.str x t) (.str x)
  | list {a : Addr} {o : Obj} {vs : Array Value} {n : Nat} {xs : List PyData} : h.get? a = some o → o.cls = .type "list" → o.data = .seq vs n → ReadsSA h vs.toList xs → ReadsS h (.ref a) (.list xs)
  | tuple {a : Addr} {o : Obj} {vs : Array Value} {n : Nat} {xs : List PyData} : h.get? a = some o → o.cls = .type "tuple" → o.data = .seq vs n → ReadsSA h vs.toList xs → ReadsS h (.ref a) (.tuple xs)
  | dict {a : Addr} {o : Obj} {es : Array DictEntry} {n : Nat} {kvs : List (PyData × PyData)} : (a == sysModules) = false → h.get? a = some o → o.cls = .type "dict" → o.data = .dict es n → ReadsSA h (es.toList.map (·.key)) (kvs.map (·.1)) → ReadsSA h (es.toList.map (·.val)) (kvs.map (·.2)) → ReadsS h (.ref a) (.dict kvs)
inductive ReadsSA (h : Heap) : List Value → List PyData → Prop
  | nil : ReadsSA h [] []
  | cons {v : Value} {vs : List Value} {d : PyData} {ds : List PyData} : ReadsS h v d → ReadsSA h vs ds → ReadsSA h (v :: vs) (d :: ds)
end
section
variable {h₀ : Heap} {prog : Program} {w : World}
mutual
theorem ReadsS.reads : ∀ {v : Value} {d : PyData}, ReadsS h₀ v d → ∃ as, Reads h₀ v d as
  | _, _, .none => ⟨_, .none⟩
  | _, _, .bool b => ⟨_, .bool b⟩
  | _, _, .int i t => ⟨_, .int i t⟩
  | _, _, .str x t => ⟨_, .str x t⟩
  | _, _, .list h1 h2 h3 h4 => let ⟨_, r⟩ := ReadsSA.reads h4; ⟨_, .list h1 h2 h3 r⟩
  | _, _, .tuple h1 h2 h3 h4 => let ⟨_, r⟩ := ReadsSA.reads h4; ⟨_, .tuple h1 h2 h3 r⟩
  | _, _, .dict _ h1 h2 h3 h4 h5 => let ⟨_, r⟩ := ReadsSA.reads h4; let ⟨_, r5⟩ := ReadsSA.reads h5; ⟨_, .dict h1 h2 h3 r r5⟩
theorem ReadsSA.reads : ∀ {vs : List Value} {ds : List PyData}, ReadsSA h₀ vs ds → ∃ as, ReadsAll h₀ vs ds as
  | _, _, .nil => ⟨_, .nil⟩
  | _, _, .cons r t => let ⟨_, a⟩ := ReadsS.reads r; let ⟨_, b⟩ := ReadsSA.reads t; ⟨_, .cons a b⟩
end
mutual
theorem ReadsS.shows : ∀ {v : Value} {d : PyData}, ReadsS h₀ v d → d.showable = true → d.shown.length ≤ sizeLine → ∃ bs, ReadAtMost h₀ d.depth bs ∧ ReprK prog w bs h₀ d.depth v d.shown
  | _, _, .none, _, _ => ⟨[], (fun _ h => nomatch h), by simp only [PyData.shown]; exact .of_is ReprIs.none _ _ _⟩
  | _, _, .bool b, _, _ => ⟨[], (fun _ h => nomatch h), by simp only [PyData.shown]; exact .of_is (ReprIs.bool b) _ _ _⟩
  | _, _, .int i t, hs, _ => ⟨[], (fun _ h => nomatch h), by simp only [PyData.shown]; exact .of_is (ReprIs.int t (by simpa [PyData.showable] using hs)) _ _ _⟩
  | _, _, .str x t, _, hz => ⟨[], (fun _ h => nomatch h), by simp only [PyData.shown]; exact .of_is (ReprIs.str x t (by simpa only [PyData.shown] using hz)) _ _ _⟩
  | _, _, .list (a := a) (vs := vs) (xs := xs) h1 h2 h3 h4, hs, hz => by
    have hz' : (listText (PyData.shownAll xs)).length ≤ sizeLine := by simpa only [PyData.shown] using hz
    obtain ⟨bs, hb, hk⟩ := ReadsSA.shows h4 (by simpa [PyData.showable] using hs) (fun t ht => Nat.le_trans (listText_mem_le ht) hz')
    obtain ⟨as, r4⟩ := h4.reads
    have r : Reads h₀ (.ref a) (.list xs) _ := .list h1 h2 h3 r4
    have hna : a ∉ bs := not_mem_of_deeper r (by simp only [PyData.depth]; omega) hb
    refine ⟨a :: bs, ReadAtMost.cons r (by simp only [PyData.depth]; omega) hb, ?_⟩
    simp only [PyData.depth, PyData.shown]
    obtain ⟨l⟩ := vs
    cases l with
    | nil =>
      have h4' : ReadsSA h₀ [] xs := h4
      cases h4'
      simp only [PyData.shownAll, listText_nil]
      exact ReprK.listEmpty h1 h2 h3
    | cons x l => exact ReprK.list h1 h2 h3 hna (by simpa using hk.length_eq) (fun i y e => hk.item i y (by simpa using e))
  | _, _, .tuple (a := a) (xs := xs) h1 h2 h3 h4, hs, hz => by
    have hz' : (tupleText (PyData.shownAll xs)).length ≤ sizeLine := by simpa only [PyData.shown] using hz
    obtain ⟨bs, hb, hk⟩ := ReadsSA.shows h4 (by simpa [PyData.showable] using hs) (fun t ht => Nat.le_trans (tupleText_mem_le ht) hz')
    obtain ⟨as, r4⟩ := h4.reads
    have r : Reads h₀ (.ref a) (.tuple xs) _ := .tuple h1 h2 h3 r4
    have hna : a ∉ bs := not_mem_of_deeper r (by simp only [PyData.depth]; omega) hb
    refine ⟨a :: bs, ReadAtMost.cons r (by simp only [PyData.depth]; omega) hb, ?_⟩
    simp only [PyData.depth, PyData.shown]
    exact ReprK.tuple h1 h2 h3 hna hk
  | _, _, .dict (a := a) (es := es) (kvs := kvs) hsys h1 h2 h3 h4 h5, hs, hz => by
    have hz' : (dictText (PyData.shownKv kvs)).length ≤ sizeLine := by simpa only [PyData.shown] using hz
    obtain ⟨hs1, hs2⟩ := PyData.showableKv_split kvs (by simpa [PyData.showable] using hs)
    obtain ⟨b1, hb1, k1⟩ := ReadsSA.shows h4 hs1 (fun t ht => let ⟨p, hp, hl⟩ := PyData.shownKv_key_le kvs t ht; Nat.le_trans hl (Nat.le_trans (dictText_mem_le hp) hz'))
    obtain ⟨b2, hb2, k2⟩ := ReadsSA.shows h5 hs2 (fun t ht => let ⟨p, hp, hl⟩ := PyData.shownKv_val_le kvs t ht; Nat.le_trans hl (Nat.le_trans (dictText_mem_le hp) hz'))
    obtain ⟨as1, r4⟩ := h4.reads
    obtain ⟨as2, r5⟩ := h5.reads
    have r : Reads h₀ (.ref a) (.dict kvs) _ := .dict h1 h2 h3 r4 r5
    have hb : ReadAtMost h₀ (PyData.depthKv kvs) (b1 ++ b2) := (hb1.mono (PyData.depthAll_keys_le kvs)).append (hb2.mono (PyData.depthAll_vals_le kvs))
    have hna : a ∉ b1 ++ b2 := not_mem_of_deeper r (by simp only [PyData.depth]; omega) hb
    refine ⟨a :: (b1 ++ b2), ReadAtMost.cons r (by simp only [PyData.depth]; omega) hb, ?_⟩
    simp only [PyData.depth, PyData.shown, PyData.shownKv_eq]
    exact ReprK.dict h1 h2 h3 hsys hna (ReprEntriesK.of_two es.toList _ _
      (k1.more_le (fun b hb => List.mem_append_left _ hb) (PyData.depthAll_keys_le kvs)) (k2.more_le (fun b hb => List.mem_append_right _ hb) (PyData.depthAll_vals_le kvs)))
theorem ReadsSA.shows : ∀ {vs : List Value} {ds : List PyData}, ReadsSA h₀ vs ds → PyData.showableAll ds = true → (∀ t ∈ PyData.shownAll ds, t.length ≤ sizeLine) →
    ∃ bs, ReadAtMost h₀ (PyData.depthAll ds) bs ∧ ReprAllK prog w bs h₀ (PyData.depthAll ds) vs (PyData.shownAll ds)
  | _, _, .nil, _, _ => ⟨[], (fun _ h => nomatch h), by simp only [PyData.shownAll]; exact .nil⟩
  | _, _, .cons (d := d) (ds := ds) r rs, hs, hz => by
    have hs' : d.showable = true ∧ PyData.showableAll ds = true := by simpa [PyData.showableAll] using hs
    obtain ⟨b1, hb1, k1⟩ := ReadsS.shows r hs'.1 (hz _ (by simp only [PyData.shownAll]; exact List.mem_cons_self ..))
    obtain ⟨b2, hb2, k2⟩ := ReadsSA.shows rs hs'.2 (fun t ht => hz t (by simp only [PyData.shownAll]; exact List.mem_cons_of_mem _ ht))
    refine ⟨b1 ++ b2, ?_, ?_⟩
    · intro b hm
      simp only [PyData.depthAll]
      rcases List.mem_append.mp hm with hm | hm
      · obtain ⟨d', as', r', hd'⟩ := hb1 b hm
        exact ⟨d', as', r', Nat.le_trans hd' (Nat.le_max_left _ _)⟩
      · obtain ⟨d', as', r', hd'⟩ := hb2 b hm
        exact ⟨d', as', r', Nat.le_trans hd' (Nat.le_max_right _ _)⟩
    · simp only [PyData.depthAll, PyData.shownAll]
      exact .cons ((k1.more fun b hb => List.mem_append_left _ hb).level_le (Nat.le_max_left _ _)) (k2.more_le (fun b hb => List.mem_append_right _ hb) (Nat.le_max_right _ _))
end
/-- repr of such a list or tuple -/
theorem repr_of_readsS {A : Around} {E : Value → Shared → Prop} {s : Shared} {Q : Value → Shared → Prop} {a : Addr} {d : PyData} (rs : ReadsS h₀ (.ref a) d) (hq : isSeqP d = true) (hs : d.showable = true) (hg : A.guards = some []) (hu : A.units + (d.depth + 1) < cLine) (hk0 : ∀ b o, h₀.get? b = some o → s.heap.get? b = some o)
    (hQ : ∀ h' u tk, (∀ b o, s.heap.get? b = some o → h'.get? b = some o) → Q (.str d.shown u) { s with heap := h', toks := tk }) (hz : d.shown.length ≤ sizeLine) : wpAny (model prog w) A (call (.builtin "repr") [.ref a]) Q E s := by
  cases rs with
  | list h1 h2 h3 h4 =>
    rename_i o vs n xs
    have hz' : (listText (PyData.shownAll xs)).length ≤ sizeLine := by simpa only [PyData.shown] using hz
    obtain ⟨bs, hb, hk⟩ := ReadsSA.shows (prog := prog) (w := w) h4 (by simpa [PyData.showable] using hs) (fun t ht => Nat.le_trans (listText_mem_le ht) hz')
    obtain ⟨as, r4⟩ := h4.reads
    have hna : a ∉ bs := not_mem_of_deeper (.list h1 h2 h3 r4) (by simp only [PyData.depth]; omega) hb
    simp only [PyData.depth] at hu
    simp only [PyData.shown] at hQ
    refine call_repr_slot (by omega) ⟨o, hk0 _ _ h1, h2⟩ F.slot_list_repr.toG ?_
    obtain ⟨l⟩ := vs
    cases l with
    | nil =>
      have h4' : ReadsSA h₀ [] xs := h4
      cases h4'
      simp only [PyData.shownAll, listText_nil] at hQ
      exact call_list_repr_empty ⟨o, hk0 _ _ h1, h2⟩ (hk0 _ _ h1) h3 ⟨_, _, rfl, hQ s.heap _ _ fun _ _ e => e⟩
    | cons x l =>
      exact call_list_reprK h1 h2 h3 hna (by simpa using hk.length_eq) (fun i y e => hk.item i y (by simpa using e)) hg (fun b _ => Clear.nil b) (by show A.units + 1 + _ < cLine; omega) hk0 (fun h' u tk hk => ⟨_, _, rfl, hQ h' u tk hk⟩) hz'
  | tuple h1 h2 h3 h4 =>
    rename_i o vs n xs
    have hz' : (tupleText (PyData.shownAll xs)).length ≤ sizeLine := by simpa only [PyData.shown] using hz
    obtain ⟨bs, hb, hk⟩ := ReadsSA.shows (prog := prog) (w := w) h4 (by simpa [PyData.showable] using hs) (fun t ht => Nat.le_trans (tupleText_mem_le ht) hz')
    obtain ⟨as, r4⟩ := h4.reads
    have hna : a ∉ bs := not_mem_of_deeper (.tuple h1 h2 h3 r4) (by simp only [PyData.depth]; omega) hb
    simp only [PyData.depth] at hu
    simp only [PyData.shown] at hQ
    refine call_repr_slot (by omega) ⟨o, hk0 _ _ h1, h2⟩ F.slot_tuple_repr ?_
    exact call_tuple_reprK h1 h2 h3 hna hk hg (fun b _ => Clear.nil b) (by show A.units + 1 + _ < cLine; omega) hk0 (fun h' u tk hk => ⟨_, _, rfl, hQ h' u tk hk⟩) hz'
  | dict => cases hq
end
def keyP : Key → PyData
  | .inl i => .int i
  | .inr x => .str x
/-- data with dicts of ints and texts as keys -/
def toPyS (L : List O) : Nat → D → Option PyData
  | 0, _ => none
  | n + 1, d => match d with
    | .non => some .none
    | .bl b => some (.bool b)
    | .int i => some (.int i)
    | .str x => some (.str x)
    | .tup ds => (optAll (toPyS L n) ds).map .tuple
    | .rol ds => (optAll (toPyS L n) ds).map .list
    | .ref k => match L[k]? with
      | some (.lst ds) => (optAll (toPyS L n) ds).map .list
      | some (.dic _ ks) => (optAll (toPyS L n) (ks.map (·.2))).map fun ps => .dict ((ks.map fun kv => keyP kv.1).zip ps)
      | _ => none
    | .cls _ => none
    | .ty _ => none
theorem zip_fst {α β : Type} : ∀ {as : List α} {bs : List β}, as.length = bs.length → (as.zip bs).map (·.1) = as
  | [], [], _ => rfl
  | a :: as, b :: bs, h => by simp only [List.zip_cons_cons, List.map_cons]; rw [zip_fst (by simpa using h)]
theorem zip_snd {α β : Type} : ∀ {as : List α} {bs : List β}, as.length = bs.length → (as.zip bs).map (·.2) = bs
  | [], [], _ => rfl
  | a :: as, b :: bs, h => by simp only [List.zip_cons_cons, List.map_cons]; rw [zip_snd (by simpa using h)]
theorem readsS_of {pins : List (Addr × Obj)} {σ : L2.St} {s : Shared} (I : Inv X pins σ H s) (hh : HR ⟨X.K, cm, fx, X.w⟩ ρ L H) : ∀ (n : Nat) (d : D) (p : PyData) (v : V) (u : Value), toPyS L n d = some p → VR ⟨X.K, cm, fx, X.w⟩ ρ H d v → RelV v u → ReadsS s.heap u p
  | 0, _, _, _, _, e, _, _ => by cases e
  | n + 1, d, p, v, u, e, r, ru => by
    have all : ∀ (ds : List D) (ps : List PyData) (vs : List V) (us : List Value), optAll (toPyS L n) ds = some ps → VRs ⟨X.K, cm, fx, X.w⟩ ρ H ds vs → Vals vs us → ReadsSA s.heap us ps := by
      intro ds
      induction ds with
      | nil => intro ps vs us e r q; cases r; cases e; cases q; exact .nil
      | cons d ds ih =>
        intro ps vs us e r q
        cases r with
        | cons r t =>
          cases q with
          | cons q1 q2 =>
            unfold optAll at e
            split at e
            · rename_i y ys h1 h2
              cases e
              exact .cons (readsS_of I hh n _ _ _ _ h1 r q1) (ih _ _ _ h2 t q2)
            · cases e
    cases d with
    | non => cases r; cases e; cases ru; exact .none
    | bl b => cases r; cases e; cases ru; exact .bool b
    | int i => cases r; cases e; obtain ⟨t, rfl⟩ := ru; exact .int i t
    | str x => cases r; cases e; obtain ⟨t, rfl⟩ := ru; exact .str x t
    | tup ds =>
      cases r with
      | tup sq rs =>
        cases ru
        obtain ⟨ps, h1, rfl⟩ := Option.map_eq_some_iff.mp (show (optAll (toPyS L n) ds).map PyData.tuple = some p from e)
        obtain ⟨its, rv, ⟨o, ho, hc, k, hd⟩, _⟩ := I.tuple sq.sq
        exact .tuple ho hc hd (by simpa using all ds ps _ _ h1 rs rv)
    | rol ds =>
      cases r with
      | rol sq rs =>
        cases ru
        obtain ⟨ps, h1, rfl⟩ := Option.map_eq_some_iff.mp (show (optAll (toPyS L n) ds).map PyData.list = some p from e)
        obtain ⟨its, rv, ⟨o, k, ho, hc, _, hd⟩, _⟩ := I.list sq.seq
        exact .list ho hc hd (by simpa using all ds ps _ _ h1 rs rv)
    | cls c => cases e
    | ty c => cases e
    | ref k =>
      cases r with
      | ref ea =>
        cases ru
        have e : (match L[k]? with
          | some (.lst ds) => (optAll (toPyS L n) ds).map PyData.list
          | some (.dic _ ks) => (optAll (toPyS L n) (ks.map (·.2))).map fun ps => PyData.dict ((ks.map fun kv => keyP kv.1).zip ps)
          | _ => none) = some p := e
        split at e
        · rename_i ds hk
          obtain ⟨ps, h1, rfl⟩ := Option.map_eq_some_iff.mp e
          obtain ⟨vs, hv, rs⟩ := hh.lst hk ea
          obtain ⟨its, rv, ⟨o, j, ho, hc, _, hd⟩, _⟩ := I.list (.inl (.inl hv))
          exact .list ho hc hd (by simpa using all ds ps _ _ h1 rs rv)
        · rename_i lk ks hk
          obtain ⟨ps, h1, rfl⟩ := Option.map_eq_some_iff.mp e
          obtain ⟨ws, hr, kr⟩ := hh.dic hk ea
          obtain ⟨_, hne, rs, kv, o, es, ep, ho, ⟨hc, _, _⟩, hd, _, hps, _⟩ := dk_rd I.hok hr
          have hl : ps.length = ks.length := by rw [← optAll_len h1]; simp
          have key : ∀ (ks : List (Key × D)) (ws : List (Key × V)) (rs : List (Key × Value)) (es : List DictEntry), KR ⟨X.K, cm, fx, X.w⟩ ρ H ks ws → KV ws rs → Pairs (mixKind X.prog X.w) es rs → ReadsSA s.heap (es.map (·.key)) (ks.map fun kv => keyP kv.1) := by
            intro ks
            induction ks with
            | nil => intro ws rs es kr kv hp; cases kr; cases kv; cases hp; exact .nil
            | cons kd ks ih =>
              intro ws rs es kr kv hp
              cases kr with
              | cons r1 t1 =>
                cases kv with
                | cons q1 q2 =>
                  cases hp with
                  | cons b1 b2 b3 =>
                    refine .cons ?_ (ih _ _ _ t1 q2 b3)
                    rw [← q1.1] at b1
                    rcases keyIs_shape b1 with ⟨i, t, e1, e2⟩ | ⟨x, t, e1, e2⟩
                    · simp only [e2]
                      simp only at e1
                      rw [e1]
                      exact .int i t
                    · simp only [e2]
                      simp only at e1
                      rw [e1]
                      exact .str x t
          have val : ∀ (ks : List (Key × D)) (ws : List (Key × V)) (rs : List (Key × Value)) (es : List DictEntry), KR ⟨X.K, cm, fx, X.w⟩ ρ H ks ws → KV ws rs → Pairs (mixKind X.prog X.w) es rs → ∃ vs, VRs ⟨X.K, cm, fx, X.w⟩ ρ H (ks.map (·.2)) vs ∧ Vals vs (es.map (·.val)) := by
            intro ks
            induction ks with
            | nil => intro ws rs es kr kv hp; cases kr; cases kv; cases hp; exact ⟨[], .nil, .nil⟩
            | cons kd ks ih =>
              intro ws rs es kr kv hp
              cases kr with
              | cons r1 t1 =>
                cases kv with
                | cons q1 q2 =>
                  cases hp with
                  | cons b1 b2 b3 =>
                    obtain ⟨vs, z1, z2⟩ := ih _ _ _ t1 q2 b3
                    exact ⟨_ :: vs, .cons r1 z1, .cons (by show RelV _ (DictEntry.val _); rw [b2]; exact q1.2) z2⟩
          obtain ⟨vs, z1, z2⟩ := val ks ws rs es.toList kr kv hps
          refine .dict hne ho hc hd ?_ ?_
          · rw [zip_fst (by simp [hl])]
            exact key ks ws rs es.toList kr kv hps
          · rw [zip_snd (by simp [hl])]
            exact all _ _ _ _ h1 z1 z2
        · cases e
/-- repr of a list or a tuple, dicts in it -/
def cReprD : OC := fun ds L => match ds with
  | [x] => match toPyS L pyDeep x with
    | some p => if isSeqP p = true ∧ p.showable = true ∧ p.depth ≤ 16 ∧ p.shown.length ≤ most then some (.str p.shown, L) else none
    | none => none
  | _ => none
theorem c_reprD (hg : X.A.guards = some []) (hu : X.A.units + 65 < cLine) : CallR X (.builtin "repr") (rC ⟨X.K, cm, fx, X.w⟩ cReprD) := by
  intro pins s σ H xs us Q I r q
  obtain ⟨ρ, L, ds, hh, rr, q⟩ := q
  unfold cReprD at q
  split at q
  · rename_i x
    obtain ⟨v, rfl, rv⟩ := rr.one
    obtain ⟨u, rfl, ru⟩ := r.one
    split at q
    · rename_i p hp
      split at q
      · rename_i hz
        obtain ⟨z1, z2, z4, z5⟩ := hz
        have rd := readsS_of I hh _ _ _ _ _ hp rv ru
        have hq : Q (.str p.shown) H := q.same hh (.str _)
        have hre : ∃ a, u = .ref a := by
          cases rd with
          | list => exact ⟨_, rfl⟩
          | tuple => exact ⟨_, rfl⟩
          | _ => cases z1
        obtain ⟨a, rfl⟩ := hre
        exact repr_of_readsS rd z1 z2 hg (by omega) (fun _ _ e => e) (fun h' u tk hk => ⟨.str p.shown, H, I.kept (t' := tk) hk, ⟨_, rfl⟩, hq⟩) (most_le z5)
      · exact q.elim
    · exact q.elim
  · exact q.elim
end Tw
end
section
set_option Elab.async false
set_option linter.all false
set_option maxRecDepth 100000
set_option maxHeartbeats 4000000
namespace Tw
open PySem PySem.Spec L2
variable {g : Gx} {ρ ρ' : List Addr} {H H' : Hp} {X : Cx} {W : WX} {L : List O} {cm : Nat → Addr} {fx : Hp}
def mDic1 (k v : ME) : ME := fun ε L => (k ε (L ++ [.dic false []])).bind fun x L1 => (v ε L1).bind fun y L2 => match keyD x with
  | some kk => match L2[L.length]? with
    | some (.dic false []) => .ok (.ref L.length) (L2.set L.length (.dic false [(kk, y)]))
    | _ => .bad
  | none => .bad
theorem se_dic1 {ek ev : Expr} {k v : ME} {pos : Pos} (hk : PE X ek (tM ⟨X.K, cm, fx, X.w⟩ W k)) (hv : PE X ev (tM ⟨X.K, cm, fx, X.w⟩ W v)) : PE X (.Dict [some ek] [ev] pos) (tM ⟨X.K, cm, fx, X.w⟩ W (mDic1 k v)) :=
  (pe_disp (pps_cons hk hv pps_nil) rfl rfl (by simp) (show 1 ≤ 15 by decide)).imp fun σ H Q q => by
    obtain ⟨ε, ρ, L, he, hh, q⟩ := q
    intro p hp
    have t0 : TP H (upd H p (.dK [])) := TP.new hp
    have h0 : HR ⟨X.K, cm, fx, X.w⟩ (ρ ++ [p]) (L ++ [.dic false []]) (upd H p (.dK [])) := hh.new hp (u := .dK []) (o := .dic false []) ⟨[], upd_same, .nil⟩
    have e0 : (ρ ++ [p])[L.length]? = some p := by rw [← hh.len]; simp
    refine ⟨ε, ρ ++ [p], _, (he.mono (pre_snoc _ _) t0), h0, Lf.bind (LfD.mono (pre_snoc _ _) t0 q) fun x L1 xv ρ1 H1 _ p1 t1 h1 r1 q1 => ?_⟩
    refine ⟨ε, ρ1, L1, (he.mono (pre_snoc _ _) t0).mono p1 t1, h1, Lf.bind q1 fun y L2 yv ρ2 H2 _ p2 t2 h2 r2 q2 => ?_⟩
    split at q2
    · rename_i kk hkk
      split at q2
      · rename_i hL
        have e2 : ρ2[L.length]? = some p := pre_get (p1.trans p2) e0
        obtain ⟨ws, w1, w2⟩ := h2.ob _ _ _ hL e2
        cases w2
        have hx : xv = kV kk := keyD_ok r1 hkk
        refine ⟨w1, [(kk, yv)], by rw [hx]; rfl, (show 1 ≤ 15 by decide), ?_⟩
        have t3 : TP H2 (upd H2 p (.dK [(kk, yv)])) := TP.mut w1 rfl
        refine q2 _ ρ2 _ (List.prefix_refl _) t3 (h2.set e2 w1 rfl ⟨_, upd_same, .cons (r2.mono (List.prefix_refl _) t3) .nil⟩) (.ref e2)
      · exact q2.elim
    · exact q2.elim
/-- != of texts of any length; else o -/
def oNeTx (o : O2) : O2 := fun x y L => match x, y with
  | .str a, .str b => some (.bl (!decide (a = b)), L)
  | _, _ => o x y L
theorem op_neTx {o : O2} (h : OpR X (compareOp .NotEq) (rM ⟨X.K, cm, fx, X.w⟩ o)) : OpR X (compareOp .NotEq) (rM ⟨X.K, cm, fx, X.w⟩ (oNeTx o)) := by
  intro pins s σ H x y v u Q I rx ry q
  obtain ⟨ρ, L, d, e, hh, r1, r2, q⟩ := q
  unfold oNeTx at q
  split at q
  · rename_i a b
    cases r1
    cases r2
    refine op_ne pins s σ H _ _ v u Q I rx ry ⟨rfl, ?_⟩
    have : decide (V.str a = V.str b) = decide (a = b) := by simp
    rw [this]
    exact LfO.same q hh (.bl _)
  · exact h pins s σ H x y v u Q I rx ry ⟨ρ, L, d, e, hh, r1, r2, q⟩
end Tw
end
section
set_option Elab.async false
set_option linter.all false
set_option maxRecDepth 100000
set_option maxHeartbeats 4000000
namespace PySem.SeqAt
open PySem
end PySem.SeqAt
namespace Tw
open PySem PySem.Spec L2
end Tw
end
section
set_option Elab.async false
set_option linter.all false
set_option maxRecDepth 100000
set_option maxHeartbeats 1000000
namespace Tw
open PySem PySem.Spec L2
abbrev XQ := Nat → List (Str × D) → List O → Prop
abbrev noX : XQ := fun _ _ _ => False
abbrev noS : En → List O → Prop := fun _ _ => False
abbrev noR : D → List O → Prop := fun _ _ => False
def Wp {α : Type} (r : Rs α) (Q : α → List O → Prop) (E : XQ) : Prop := match r with
  | .ok a L => Q a L
  | .ex c fs L => E c fs L
  | .bad => False
def WpO (r : OD) (Q : D → List O → Prop) : Prop := match r with
  | some (d, L) => Q d L
  | none => False
def WpS (r : RS) (N : En → List O → Prop) (R : D → List O → Prop) (B C : En → List O → Prop) (E : XQ) : Prop := match r with
  | .nx ε L => N ε L
  | .rt d L => R d L
  | .bk ε L => B ε L
  | .ct ε L => C ε L
  | .ex c fs _ L => E c fs L
  | .bad => False
section
variable {α β : Type} {ε : En} {L : List O} {E : XQ} {N B C : En → List O → Prop} {R Q : D → List O → Prop} {QB : Bool → List O → Prop} {QA : List D → List O → Prop} {QI : Src → List O → Prop} {QO : Option Int → List O → Prop}
theorem Wp.imp {r : Rs α} {Q Q' : α → List O → Prop} {E E' : XQ} (h : Wp r Q E) (k : ∀ a L, Q a L → Q' a L) (ke : ∀ c fs L, E c fs L → E' c fs L) : Wp r Q' E' := by
  cases r with
  | ok a L => exact k _ _ h
  | ex c fs L => exact ke _ _ _ h
  | bad => exact h
theorem WpS.imp {r : RS} {N' B' C' : En → List O → Prop} {R' : D → List O → Prop} {E' : XQ} (h : WpS r N R B C E) (kn : ∀ ε L, N ε L → N' ε L) (kr : ∀ d L, R d L → R' d L) (kb : ∀ ε L, B ε L → B' ε L) (kc : ∀ ε L, C ε L → C' ε L) (ke : ∀ c fs L, E c fs L → E' c fs L) : WpS r N' R' B' C' E' := by
  cases r with
  | nx ε L => exact kn _ _ h
  | rt d L => exact kr _ _ h
  | bk ε L => exact kb _ _ h
  | ct ε L => exact kc _ _ h
  | ex c fs ε L => exact ke _ _ _ h
  | bad => exact h
theorem wp_ok {r : Rs α} {Q : α → List O → Prop} (h : Wp r Q noX) : ∃ a L, r = .ok a L ∧ Q a L := by
  cases r with
  | ok a L => exact ⟨a, L, rfl, h⟩
  | ex c fs L => exact h.elim
  | bad => exact h.elim
theorem wp_eq {r : Rs α} {Q : α → List O → Prop} {a : α} {L : List O} (h : r = .ok a L) (q : Q a L) : Wp r Q E := by rw [h]; exact q
theorem wp_bind {r : Rs α} {f : α → List O → Rs β} {Q : β → List O → Prop} (h : Wp r (fun a L => Wp (f a L) Q E) E) : Wp (r.bind f) Q E := by
  cases r with
  | ok a L => exact h
  | ex c fs L => exact h
  | bad => exact h
theorem wp_bindS {r : Rs α} {f : α → List O → RS} (h : Wp r (fun a L => WpS (f a L) N R B C E) E) : WpS (r.bindS ε f) N R B C E := by
  cases r with
  | ok a L => exact h
  | ex c fs L => exact h
  | bad => exact h
theorem wp_ofO {r : OD} (h : WpO r Q) : Wp (ofO r) Q E := by
  cases r with
  | none => exact h
  | some p => exact h
theorem wpo {r : OD} {d : D} {L : List O} (h : r = some (d, L)) (q : Q d L) : WpO r Q := by rw [h]; exact q
def qBl (x : D) (Q : Bool → Prop) : Prop := match x with
  | .bl b => Q b
  | _ => False
theorem qbl {b : Bool} {Q : Bool → Prop} (h : Q b) : qBl (.bl b) Q := h
def qTr (L : List O) (x : D) (Q : Bool → Prop) : Prop := match truth L x with
  | some b => Q b
  | none => False
theorem qtr {x : D} {b : Bool} {Q : Bool → Prop} (h : truth L x = some b) (q : Q b) : qTr L x Q := by unfold qTr; rw [h]; exact q
def qIf (b : Bool) (P1 P2 : Prop) : Prop := match b with
  | true => P1
  | false => P2
theorem qif_t {b : Bool} {P1 P2 : Prop} (h : b = true) (q : P1) : qIf b P1 P2 := by subst h; exact q
theorem qif_f {b : Bool} {P1 P2 : Prop} (h : b = false) (q : P2) : qIf b P1 P2 := by subst h; exact q
theorem wp_seq {a b : MS} (h : WpS (a ε L) (fun ε1 L1 => WpS (b ε1 L1) N R B C E) R B C E) : WpS (mSeq a b ε L) N R B C E := by
  unfold mSeq
  cases ha : a ε L <;> rw [ha] at h <;> exact h
theorem wp_next (h : N ε L) : WpS (mNext ε L) N R B C E := h
theorem wp_brk (h : B ε L) : WpS (mBrk ε L) N R B C E := h
theorem wp_cnt (h : C ε L) : WpS (mCnt ε L) N R B C E := h
theorem wp_retN (h : R .non L) : WpS (mRetN ε L) N R B C E := h
theorem wp_ret {a : ME} (h : Wp (a ε L) R E) : WpS (mRet a ε L) N R B C E := wp_bindS h
theorem wp_drop {a : ME} (h : Wp (a ε L) (fun _ L1 => N ε L1) E) : WpS (mDrop a ε L) N R B C E := wp_bindS h
theorem wp_set {i : Nat} {a : ME} (h : Wp (a ε L) (fun x L1 => N (ε.set i (some x)) L1) E) : WpS (mSet i a ε L) N R B C E := wp_bindS h
theorem wp_if {c : MB} {a b : MS} (h : Wp (c ε L) (fun t L1 => qIf t (WpS (a ε L1) N R B C E) (WpS (b ε L1) N R B C E)) E) : WpS (mIf c a b ε L) N R B C E := wp_bindS (h.imp (fun t L1 q => by cases t <;> exact q) fun _ _ _ q => q)
theorem wp_asg {a : ME} {t : MG} (h : Wp (a ε L) (fun x L1 => ∃ ε1, t.f x ε = some ε1 ∧ N ε1 L1) E) : WpS (mAsg a t ε L) N R B C E := wp_bindS (h.imp (fun x L1 ⟨ε1, e, q⟩ => by rw [e]; exact q) fun _ _ _ q => q)
theorem wp_par {i j : Nat} {r : MA} (h : Wp (r ε L) (fun xs L1 => ∃ x y, xs = [x, y] ∧ N ((ε.set i (some x)).set j (some y)) L1) E) : WpS (mPar i j r ε L) N R B C E := wp_bindS (h.imp (fun x L1 ⟨x, y, e, q⟩ => by subst e; exact q) fun _ _ _ q => q)
theorem wp_fldset {c : Nat} {f : Str} {o v : ME} (h : Wp (v ε L) (fun y L1 => Wp (o ε L1) (fun x L2 => ∃ n fs, x = .ref n ∧ L2[n]? = some (.ins c fs) ∧ fs.length < 100 ∧ N ε (L2.set n (.ins c (putD f y fs)))) E) E) : WpS (mFldSet c f o v ε L) N R B C E :=
  wp_bindS (h.imp (fun y L1 h => wp_bindS (h.imp (fun x L2 ⟨n, fs, e1, e2, e3, q⟩ => by
    subst e1
    simp only [e2]
    rw [if_pos ⟨trivial, e3⟩]
    exact q) fun _ _ _ q => q)) fun _ _ _ q => q)
theorem wp_put {o i v : ME} (h : Wp (v ε L) (fun z L1 => Wp (o ε L1) (fun x L2 => Wp (i ε L2) (fun y L3 => ∃ L4, oPut x y z L3 = some L4 ∧ N ε L4) E) E) E) : WpS (mPut o i v ε L) N R B C E :=
  wp_bindS (h.imp (fun z L1 h => wp_bindS (h.imp (fun x L2 h => wp_bindS (h.imp (fun y L3 ⟨L4, e, q⟩ => by
    rw [e]
    exact q) fun _ _ _ q => q)) fun _ _ _ q => q)) fun _ _ _ q => q)
theorem wp_raise {c : Nat} {fn : List Str} {args : MA} (h : Wp (args ε L) (fun ds L1 => ds.length = fn.length ∧ E c (fn.zip ds) L1) E) : WpS (mRaise c fn args ε L) N R B C E :=
  wp_bindS (h.imp (fun ds L1 ⟨e, q⟩ => by rw [if_pos e]; exact q) fun _ _ _ q => q)
theorem wp_loop {src : Src} {t : MG} {body : MS} (I : Nat → En → List O → Prop) {ds : List D} (hok : ∀ i ε L, I i ε L → src.ok L = true) :
    ∀ (k : Nat) (ε : En) (L : List O), I k ε L → (∀ i d ε L, ds[i]? = some d → I (k + i) ε L → ∃ ε1, t.f d ε = some ε1 ∧ WpS (body ε1 L) (I (k + i + 1)) R N (I (k + i + 1)) E) → (∀ ε L, I (k + ds.length) ε L → N ε L) → WpS (loopF src t body ds ε L) N R B C E := by
  induction ds with
  | nil =>
    intro k ε L h0 _ fin
    unfold loopF
    rw [if_pos (hok _ _ _ h0)]
    exact fin _ _ h0
  | cons d ds ih =>
    intro k ε L h0 step fin
    obtain ⟨ε1, e1, w⟩ := step 0 d ε L rfl h0
    have rest : ∀ ε2 L2, I (k + 1) ε2 L2 → WpS (loopF src t body ds ε2 L2) N R B C E := fun ε2 L2 h => ih (k + 1) ε2 L2 h (fun i d ε L e hI => by
      have := step (i + 1) d ε L (by simpa using e) (by rw [show k + (i + 1) = k + 1 + i by omega]; exact hI)
      rw [show k + (i + 1) = k + 1 + i by omega] at this
      exact this) fun ε L h => fin ε L (by rw [List.length_cons, show k + (ds.length + 1) = k + 1 + ds.length by omega]; exact h)
    unfold loopF
    rw [if_pos (hok _ _ _ h0), e1]
    simp only
    cases hb : body ε1 L with
    | nx ε2 L2 => rw [hb] at w; exact rest _ _ w
    | ct ε2 L2 => rw [hb] at w; exact rest _ _ w
    | bk ε2 L2 => rw [hb] at w; exact w
    | rt d L2 => rw [hb] at w; exact w
    | ex c fs ε2 L2 => rw [hb] at w; exact w
    | bad => rw [hb] at w; exact w
theorem wp_for {mi : MI} {t : MG} {body : MS} (h : Wp (mi ε L) (fun src L1 => WpS (loopF src t body src.ds ε L1) N R B C E) E) : WpS (mFor mi t body ε L) N R B C E := wp_bindS h
theorem wp_loop0 {src : Src} {t : MG} {body : MS} {ds : List D} (I : Nat → En → List O → Prop) (hok : ∀ i ε L, I i ε L → src.ok L = true) (h0 : I 0 ε L) (step : ∀ i d ε L, ds[i]? = some d → I i ε L → ∃ ε1, t.f d ε = some ε1 ∧ WpS (body ε1 L) (I (i + 1)) R N (I (i + 1)) E) (fin : ∀ ε L, I ds.length ε L → N ε L) : WpS (loopF src t body ds ε L) N R B C E :=
  wp_loop I hok 0 ε L h0 (fun i d ε L e hI => by
    rw [Nat.zero_add] at hI ⊢
    exact step i d ε L e hI) fun ε L h => fin ε L (by rw [Nat.zero_add] at h; exact h)
theorem wp_nil (h : QA [] L) : Wp (mNil ε L) QA E := h
theorem wp_cons {a : ME} {r : MA} (h : Wp (a ε L) (fun x L1 => Wp (r ε L1) (fun xs L2 => QA (x :: xs) L2) E) E) : Wp (mCons a r ε L) QA E := wp_bind (h.imp (fun x L1 h => wp_bind h) fun _ _ _ q => q)
theorem wp_C {d : D} (h : Q d L) : Wp (mC d ε L) Q E := h
theorem wp_var {i : Nat} {d : D} (e : ε[i]? = some (some d)) (h : Q d L) : Wp (mVar i ε L) Q E := by unfold mVar; rw [e]; exact h
theorem wp_op2 {o : O2} {a b : ME} (h : Wp (a ε L) (fun x L1 => Wp (b ε L1) (fun y L2 => WpO (o x y L2) Q) E) E) : Wp (mOp2 o a b ε L) Q E := wp_bind (h.imp (fun x L1 h => wp_bind (h.imp (fun y L2 h => wp_ofO h) fun _ _ _ q => q)) fun _ _ _ q => q)
theorem wp_op1 {o : D → List O → OD} {a : ME} (h : Wp (a ε L) (fun x L1 => WpO (o x L1) Q) E) : Wp (mOp1 o a ε L) Q E := wp_bind (h.imp (fun x L1 h => wp_ofO h) fun _ _ _ q => q)
theorem wp_fn {oc : OC} {args : MA} (h : Wp (args ε L) (fun ds L1 => WpO (oc ds L1) Q) E) : Wp (mFn oc args ε L) Q E := wp_bind (h.imp (fun x L1 h => wp_ofO h) fun _ _ _ q => q)
theorem wp_call {F : FS} {args : MA} (h : Wp (args ε L) (fun ds L1 => Wp (F ds L1) Q E) E) : Wp (mCall F args ε L) Q E := wp_bind h
theorem wp_chain {o o' : O2} {a b c : ME} (h : Wp (a ε L) (fun x L1 => Wp (b ε L1) (fun y L2 => WpO (o x y L2) (fun z L3 => qBl z fun t => qIf t (Wp (c ε L3) (fun w L4 => WpO (o' y w L4) Q) E) (Q (.bl false) L3))) E) E) : Wp (mChain o o' a b c ε L) Q E :=
  wp_bind (h.imp (fun x L1 h => wp_bind (h.imp (fun y L2 h => by
    cases ho : o x y L2 with
    | none => rw [ho] at h; exact h.elim
    | some p =>
      obtain ⟨z, L3⟩ := p
      rw [ho] at h
      cases z with
      | bl t =>
        cases t with
        | true => exact wp_bind (r := c ε L3) (f := fun w L4 => ofO (o' y w L4)) (Wp.imp (show Wp (c ε L3) (fun w L4 => WpO (o' y w L4) Q) E from h) (fun w L4 h => wp_ofO h) fun _ _ _ q => q)
        | false => exact h
      | _ => exact h.elim) fun _ _ _ q => q)) fun _ _ _ q => q)
theorem wp_nopart (h : QO none L) : Wp (mNoPart ε L) QO E := h
theorem wp_part {a : ME} (h : Wp (a ε L) (fun x L1 => ∃ i, x = .int i ∧ QO (some i) L1) E) : Wp (mPart a ε L) QO E := wp_bind (h.imp (fun x L1 ⟨i, e, q⟩ => by subst e; exact q) fun _ _ _ q => q)
theorem wp_sl {a : ME} {lo hi : MO} (h : Wp (a ε L) (fun x L1 => Wp (lo ε L1) (fun i L2 => Wp (hi ε L2) (fun j L3 => WpO (oSl x i j L3) Q) E) E) E) : Wp (mSl a lo hi ε L) Q E := wp_bind (h.imp (fun x L1 h => wp_bind (h.imp (fun i L2 h => wp_bind (h.imp (fun j L3 h => wp_ofO h) fun _ _ _ q => q)) fun _ _ _ q => q)) fun _ _ _ q => q)
theorem wp_tup {r : MA} (h : Wp (r ε L) (fun xs L1 => xs.length ≤ most ∧ Q (.tup xs) L1) E) : Wp (mTup r ε L) Q E := wp_bind (h.imp (fun xs L1 ⟨e, q⟩ => by rw [if_pos e]; exact q) fun _ _ _ q => q)
theorem wp_lst {r : MA} (h : Wp (r ε L) (fun xs L1 => xs.length ≤ most ∧ Q (.ref L1.length) (L1 ++ [.lst xs])) E) : Wp (mLst r ε L) Q E := wp_bind (h.imp (fun xs L1 ⟨e, q⟩ => by rw [if_pos e]; exact q) fun _ _ _ q => q)
theorem wp_dic0 (h : Q (.ref L.length) (L ++ [.dic false []])) : Wp (mDic0 ε L) Q E := h
theorem wp_nd0 (h : Q (.ref L.length) (L ++ [.nd false []])) : Wp (mNd0 ε L) Q E := h
theorem wp_tst {a : ME} (h : Wp (a ε L) (fun x L1 => qBl x fun b => QB b L1) E) : Wp (mTst a ε L) QB E := wp_bind (h.imp (fun x L1 q => by
  cases x with
  | bl b => exact q
  | _ => exact q.elim) fun _ _ _ q => q)
theorem wp_tru {a : ME} (h : Wp (a ε L) (fun x L1 => qTr L1 x fun b => QB b L1) E) : Wp (mTru a ε L) QB E := wp_bind (h.imp (fun x L1 q => by
  unfold qTr at q
  cases ht : truth L1 x with
  | none => rw [ht] at q; exact q.elim
  | some b => rw [ht] at q; exact q) fun _ _ _ q => q)
theorem wp_notB {a : MB} (h : Wp (a ε L) (fun b L1 => QB (!b) L1) E) : Wp (mNotB a ε L) QB E := wp_bind h
theorem wp_andB {a b : MB} (h : Wp (a ε L) (fun t L1 => qIf t (Wp (b ε L1) QB E) (QB false L1)) E) : Wp (mAndB a b ε L) QB E := wp_bind (h.imp (fun t L1 q => by cases t <;> exact q) fun _ _ _ q => q)
theorem wp_orB {a b : MB} (h : Wp (a ε L) (fun t L1 => qIf t (QB true L1) (Wp (b ε L1) QB E)) E) : Wp (mOrB a b ε L) QB E := wp_bind (h.imp (fun t L1 q => by cases t <;> exact q) fun _ _ _ q => q)
theorem wp_yes (h : QB true L) : Wp (mYes ε L) QB E := h
theorem wp_andV {a b : ME} (h : Wp (a ε L) (fun x L1 => qTr L1 x fun t => qIf t (Wp (b ε L1) Q E) (Q x L1)) E) : Wp (mAndV a b ε L) Q E := wp_bind (h.imp (fun x L1 q => by
  unfold qTr at q
  cases ht : truth L1 x with
  | none => rw [ht] at q; exact q.elim
  | some b => rw [ht] at q; cases b <;> exact q) fun _ _ _ q => q)
theorem wp_orV {a b : ME} (h : Wp (a ε L) (fun x L1 => qTr L1 x fun t => qIf t (Q x L1) (Wp (b ε L1) Q E)) E) : Wp (mOrV a b ε L) Q E := wp_bind (h.imp (fun x L1 q => by
  unfold qTr at q
  cases ht : truth L1 x with
  | none => rw [ht] at q; exact q.elim
  | some b => rw [ht] at q; cases b <;> exact q) fun _ _ _ q => q)
theorem wp_notV {a : ME} (h : Wp (a ε L) (fun x L1 => qTr L1 x fun t => Q (.bl (!t)) L1) E) : Wp (mNotV a ε L) Q E := wp_bind (h.imp (fun x L1 q => by
  unfold qTr at q
  cases ht : truth L1 x with
  | none => rw [ht] at q; exact q.elim
  | some b => rw [ht] at q; exact q) fun _ _ _ q => q)
theorem wp_ifE {c : MB} {a b : ME} (h : Wp (c ε L) (fun t L1 => qIf t (Wp (a ε L1) Q E) (Wp (b ε L1) Q E)) E) : Wp (mIfE c a b ε L) Q E := wp_bind (h.imp (fun t L1 q => by cases t <;> exact q) fun _ _ _ q => q)
theorem wp_fld {c : Nat} {f : Str} {a : ME} (h : Wp (a ε L) (fun x L1 => ∃ n fs d, x = .ref n ∧ L1[n]? = some (.ins c fs) ∧ fs.lookup f = some d ∧ Q d L1) E) : Wp (mFld c f a ε L) Q E := wp_bind (h.imp (fun x L1 ⟨n, fs, d, e1, e2, e3, q⟩ => by
  subst e1
  simp only [e2, if_true, e3]
  exact q) fun _ _ _ q => q)
theorem wp_bmL {om : OM} {o : ME} {args : MA} (h : Wp (o ε L) (fun x L1 => isLst L1 x = true ∧ Wp (args ε L1) (fun ds L2 => WpO (om x ds L2) Q) E) E) : Wp (mBmL om o args ε L) Q E := wp_bind (h.imp (fun x L1 ⟨e, h⟩ => by
  rw [if_pos e]
  exact wp_bind (h.imp (fun ds L2 h => wp_ofO h) fun _ _ _ q => q)) fun _ _ _ q => q)
theorem wp_meth {c : Nat} {m : Str} {F : FS} {o : ME} {args : MA} (h : Wp (o ε L) (fun x L1 => isIns c m L1 x = true ∧ Wp (args ε L1) (fun ds L2 => Wp (F (x :: ds) L2) Q E) E) E) : Wp (mMeth c m F o args ε L) Q E := wp_bind (h.imp (fun x L1 ⟨e, h⟩ => by
  rw [if_pos e]
  exact wp_bind h) fun _ _ _ q => q)
theorem wp_prop {c : Nat} {F : FS} {o : ME} (h : Wp (o ε L) (fun x L1 => isIns c Str.empty L1 x = true ∧ Wp (F [x] L1) Q noX) E) : Wp (mProp c F o ε L) Q E := wp_bind (h.imp (fun x L1 ⟨e, h⟩ => by
  rw [if_pos e]
  obtain ⟨d, L2, e2, q⟩ := wp_ok h
  rw [e2]
  exact q) fun _ _ _ q => q)
theorem wp_listRg1 {a : ME} (h : Wp (a ε L) (fun x L1 => ∃ n, x = .int n ∧ (-1000000 ≤ n ∧ n ≤ 1000000) ∧ Q (.ref L1.length) (L1 ++ [.lst (rngD 0 n.toNat)])) E) : Wp (mListRg1 a ε L) Q E := wp_bind (h.imp (fun x L1 ⟨n, e1, e2, q⟩ => by
  subst e1
  simp only
  rw [if_pos (show -1000000 ≤ n ∧ n ≤ 1000000 from e2)]
  exact q) fun _ _ _ q => q)
theorem wp_iterL {a : ME} (h : Wp (a ε L) (fun x L1 => ∃ n ds, x = .ref n ∧ L1[n]? = some (.lst ds) ∧ QI ⟨ds, some (n, .lst ds)⟩ L1) E) : Wp (mIter a ε L) QI E := wp_bind (h.imp (fun x L1 ⟨n, ds, e, e2, q⟩ => by subst e; simp only [e2]; exact q) fun _ _ _ q => q)
theorem wp_rng1 {a : ME} (h : Wp (a ε L) (fun x L1 => ∃ n, x = .int n ∧ (-1000000 ≤ n ∧ n ≤ 1000000) ∧ QI ⟨rngD 0 n.toNat, none⟩ L1) E) : Wp (mRng1 a ε L) QI E := wp_bind (h.imp (fun x L1 ⟨n, e1, e2, q⟩ => by
  subst e1
  simp only
  rw [if_pos e2]
  exact q) fun _ _ _ q => q)
theorem wp_rng2 {a b : ME} (h : Wp (a ε L) (fun x L1 => Wp (b ε L1) (fun y L2 => ∃ lo n, x = .int lo ∧ y = .int n ∧ (-1000000 ≤ lo ∧ lo ≤ 1000000 ∧ -1000000 ≤ n ∧ n ≤ 1000000) ∧ QI ⟨rngD lo (n - lo).toNat, none⟩ L2) E) E) : Wp (mRng2 a b ε L) QI E := wp_bind (h.imp (fun x L1 h => wp_bind (h.imp (fun y L2 ⟨lo, n, e1, e2, e3, q⟩ => by
  subst e1 e2
  simp only
  rw [if_pos e3]
  exact q) fun _ _ _ q => q)) fun _ _ _ q => q)
theorem wp_zip {a b : ME} (h : Wp (a ε L) (fun x L1 => Wp (b ε L1) (fun y L2 => ∃ ds es, x = .tup ds ∧ y = .tup es ∧ QI ⟨zipD ds es, none⟩ L2) E) E) : Wp (mZip a b ε L) QI E := wp_bind (h.imp (fun x L1 h => wp_bind (h.imp (fun y L2 ⟨ds, es, e1, e2, q⟩ => by
  subst e1 e2
  exact q) fun _ _ _ q => q)) fun _ _ _ q => q)
theorem wp_comp {vs : List Nat} {mi : MI} {t : MG} {tt : MB} {te : ME} (h : Wp (mi ε L) (fun src L1 => Wp (loopC src t tt te L1.length (wipeE ε vs) src.ds (L1 ++ [.lst []])) Q E) E) : Wp (mComp vs mi t tt te ε L) Q E := wp_bind h
theorem wp_loopC {src : Src} {t : MG} {tt : MB} {te : ME} {n : Nat} (I : Nat → List D → List O → Prop) (hok : ∀ i acc L, I i acc L → src.ok L = true ∧ L[n]? = some (.lst acc)) :
    ∀ (ds : List D) (k : Nat) (acc : List D) (L : List O), I k acc L → (∀ i d acc L, ds[i]? = some d → I (k + i) acc L → acc.length < most ∧ ∃ ε1, t.f d ε = some ε1 ∧ Wp (tt ε1 L) (fun b L2 => qIf b (Wp (te ε1 L2) (fun y L3 => L3[n]? = some (.lst acc) ∧ I (k + i + 1) (acc ++ [y]) (L3.set n (.lst (acc ++ [y])))) noX) (I (k + i + 1) acc L2)) noX) → (∀ acc L, I (k + ds.length) acc L → Q (.ref n) L) → Wp (loopC src t tt te n ε ds L) Q E
  | [], k, acc, L, h0, _, fin => by
    unfold loopC
    rw [if_pos (hok _ _ _ h0).1]
    exact fin _ _ h0
  | d :: ds, k, acc, L, h0, step, fin => by
    obtain ⟨hm, ε1, e1, w⟩ := step 0 d acc L rfl h0
    have rest : ∀ acc2 L2, I (k + 1) acc2 L2 → Wp (loopC src t tt te n ε ds L2) Q E := fun acc2 L2 h => wp_loopC I hok ds (k + 1) acc2 L2 h (fun i d acc L e hI => by
      have := step (i + 1) d acc L (by simpa using e) (by rw [show k + (i + 1) = k + 1 + i by omega]; exact hI)
      rw [show k + (i + 1) = k + 1 + i by omega] at this
      exact this) fun acc L h => fin acc L (by rw [List.length_cons, show k + (ds.length + 1) = k + 1 + ds.length by omega]; exact h)
    unfold loopC
    rw [if_pos (hok _ _ _ h0).1, e1]
    simp only
    obtain ⟨b, L2, eb, qb⟩ := wp_ok w
    rw [eb]
    cases b with
    | false => exact rest _ _ qb
    | true =>
      obtain ⟨y, L3, ey, q1, q2⟩ := wp_ok (show Wp (te ε1 L2) _ noX from qb)
      simp only [Rs.nox, Rs.bind, if_true, ey, q1]
      rw [if_pos hm]
      exact rest _ _ q2
theorem wp_runF {n N' : Nat} {m : MS} {ds : List D} (hl : ds.length = n) (h : WpS (m (ds.map some ++ List.replicate (N' - n) none) L) (fun _ L1 => Q .non L1) Q noS noS E) : Wp (runF n N' m ds L) Q E := by
  unfold runF
  rw [if_pos hl]
  cases hm : m (ds.map some ++ List.replicate (N' - n) none) L <;> rw [hm] at h <;> exact h
end
theorem intOp {a b : Int} : PyData.eqv (.int a) (.int b) = decide (a = b) := by
  by_cases h : a = b
  · subst h
    rw [decide_eq_true rfl]
    simp [PyData.eqv]
  · rw [decide_eq_false h]
    simp [PyData.eqv, h]
theorem oEq_int {a b : Int} {L : List O} : oEq (.int a) (.int b) L = some (.bl (decide (a = b)), L) := by
  unfold oEq eqData
  have h1 : toPy L pyDeep (.int a) = some (.int a) := rfl
  have h2 : toPy L pyDeep (.int b) = some (.int b) := rfl
  have s : ∀ i : Int, SeqAt.shaped (.int i) = true := fun _ => rfl
  simp only [h1, h2, s, and_self, if_true, intOp]
  rfl
theorem oNe_int {a b : Int} {L : List O} : oNe (.int a) (.int b) L = some (.bl (!decide (a = b)), L) := by
  unfold oNe eqData
  have h1 : toPy L pyDeep (.int a) = some (.int a) := rfl
  have h2 : toPy L pyDeep (.int b) = some (.int b) := rfl
  have s : ∀ i : Int, SeqAt.shaped (.int i) = true := fun _ => rfl
  simp only [h1, h2, s, and_self, if_true, intOp]
  rfl
theorem wpo_len {Q : D → List O → Prop} {n : Nat} {xs : List D} {L : List O} (h : L[n]? = some (.lst xs)) (q : Q (.int xs.length) L) : WpO (cLen [.ref n] L) Q := by
  unfold cLen
  simp only [h]
  exact q
theorem wp_chain_pure {o o' : O2} {a b c : ME} {ε : En} {L : List O} {E : XQ} {Q : D → List O → Prop} {x y w : D} {b1 b2 : Bool} (ha : a ε L = .ok x L) (hb : b ε L = .ok y L) (hc : c ε L = .ok w L) (h1 : o x y L = some (.bl b1, L)) (h2 : o' y w L = some (.bl b2, L)) (q : Q (.bl (b1 && b2)) L) : Wp (mChain o o' a b c ε L) Q E := by
  refine wp_chain (wp_eq ha (wp_eq hb ?_))
  rw [h1]
  cases b1 with
  | true => exact wp_eq hc (by rw [h2]; exact q)
  | false => exact q
end Tw
end
section
set_option Elab.async false
set_option linter.all false
set_option maxRecDepth 100000
set_option maxHeartbeats 4000000
namespace Tw
open PySem PySem.Spec PyProof.Rows L2
end Tw
end
section
set_option Elab.async false
set_option linter.all false
set_option maxRecDepth 100000
set_option maxHeartbeats 4000000
namespace Tw
open PySem PySem.Spec L2
variable {g : Gx} {ρ ρ' : List Addr} {H H' : Hp} {X : Cx} {W : WX} {L : List O} {cm : Nat → Addr} {fx : Hp}
abbrev MK := En → List O → Rs (List (Key × D))
def mKN : MK := fun _ L => .ok [] L
def mKC (k v : ME) (r : MK) : MK := fun ε L => (k ε L).bind fun x L1 => (v ε L1).bind fun y L2 => match keyD x with
  | some kk => (r ε L2).bind fun kvs L3 => .ok ((kk, y) :: kvs) L3
  | none => .bad
def relK (g : Gx) : List Addr → Hp → List (Key × D) → List (V × V) → Prop := fun ρ H kvs ps => ∃ vs : List (Key × V), ps = vs.map (fun kv => (kV kv.1, kv.2)) ∧ KR g ρ H kvs vs
structure PKs (X : Cx) (W : WX) (cm : Nat → Addr) (fx : Hp) (pos : Pos) (ks : List (Option Expr)) (vs : List Expr) (m : MK) : Prop where
  ex : ∃ trs, PPs X pos ks vs trs ∧ ∀ σ H Q, (∃ ε ρ L, ER ⟨X.K, cm, fx, X.w⟩ ρ H σ ε ∧ HR ⟨X.K, cm, fx, X.w⟩ ρ L H ∧ Lf ⟨X.K, cm, fx, X.w⟩ ρ H σ W (relK ⟨X.K, cm, fx, X.w⟩) (m ε L) Q) → tPairs trs σ H Q
theorem pk_nil {pos : Pos} : PKs X W cm fx pos [] [] mKN := ⟨[], pps_nil, fun σ H Q ⟨ε, ρ, L, he, hh, q⟩ => q [] ρ H (List.prefix_refl _) (TP.refl H) hh ⟨[], rfl, .nil⟩⟩
theorem pk_cons {pos : Pos} {ek ev : Expr} {ks : List (Option Expr)} {vs : List Expr} {k v : ME} {r : MK} (hk : PE X ek (tM ⟨X.K, cm, fx, X.w⟩ W k)) (hv : PE X ev (tM ⟨X.K, cm, fx, X.w⟩ W v)) (hr : PKs X W cm fx pos ks vs r) : PKs X W cm fx pos (some ek :: ks) (ev :: vs) (mKC k v r) := by
  obtain ⟨trs, h1, h2⟩ := hr.ex
  refine ⟨_, pps_cons hk hv h1, fun σ H Q ⟨ε, ρ, L, he, hh, q⟩ => ?_⟩
  refine ⟨ε, ρ, L, he, hh, Lf.bind q fun x L1 xv ρ1 H1 _ p1 t1 g1 r1 q1 => ?_⟩
  refine ⟨ε, ρ1, L1, he.mono p1 t1, g1, Lf.bind q1 fun y L2 yv ρ2 H2 _ p2 t2 g2 r2 q2 => ?_⟩
  split at q2
  · rename_i kk hkk
    refine h2 _ _ _ ⟨ε, ρ2, L2, (he.mono p1 t1).mono p2 t2, g2, Lf.bind q2 fun kvs L3 ps ρ3 H3 _ p3 t3 g3 r3 q3 => ?_⟩
    obtain ⟨us, rfl, kr⟩ := r3
    have hx : xv = kV kk := keyD_ok r1 hkk
    exact q3 _ ρ3 H3 (List.prefix_refl _) (TP.refl H3) g3 ⟨(kk, yv) :: us, by rw [hx]; rfl, .cons (r2.mono p3 t3) kr⟩
  · exact q2.elim
end Tw
end
section
set_option Elab.async false
set_option linter.all false
set_option maxRecDepth 100000
set_option maxHeartbeats 4000000
namespace Tw
open PySem PySem.Spec L2
end Tw
end
section
set_option Elab.async false
set_option linter.all false
set_option maxRecDepth 100000
set_option maxHeartbeats 4000000
namespace Tw
open PySem PySem.Spec L2
end Tw
end
section
set_option Elab.async false
set_option linter.all false
set_option maxRecDepth 100000
set_option maxHeartbeats 4000000
namespace Tw
open PySem PySem.Spec L2 GenW PyProof.Rows
section
variable {prog : Program} {w : World} {A : Around} {R : GenEnd} {Y : Protocol} {n : Nat} {s₀ : Shared} {fs : List Frame} {s : Shared} {env : Env}
/-- what follows the body -/
abbrev turned (c : Code) : Flow → Sem PySem.Fin := fun f => match f with
  | .next | .cont => .pure (.again c)
  | .brk => .pure (.done .next)
  | .ret v => .pure (.done (.ret v))
end
end Tw
end
section
set_option Elab.async false
set_option linter.all false
set_option maxRecDepth 100000
set_option maxHeartbeats 4000000
namespace Tw
open PySem PySem.Spec L2 GenW PyProof.Rows
variable {g : Gx} {ρ ρ' : List Addr} {H H' : Hp} {X : Cx} {L : List O} {cm : Nat → Addr} {fx : Hp}
inductive RG where
  | nx (ε : En) (ys : List D) (L : List O) | rt (d : D) (ys : List D) (L : List O) | bk (ε : En) (ys : List D) (L : List O) | ct (ε : En) (ys : List D) (L : List O) | bad
def LfG (g : Gx) (ρ : List Addr) (H : Hp) (r : RG) (D : GEnds) : Prop := match r with
  | .nx ε' ys L' => ∀ σ' vs ρ' H', ρ <+: ρ' → TP H H' → HR g ρ' L' H' → ER g ρ' H' σ' ε' → VRs g ρ' H' ys vs → D.nx vs σ' H'
  | .rt d ys L' => ∀ v vs ρ' H', ρ <+: ρ' → TP H H' → HR g ρ' L' H' → VR g ρ' H' d v → VRs g ρ' H' ys vs → D.rt vs v H'
  | .bk ε' ys L' => ∀ σ' vs ρ' H', ρ <+: ρ' → TP H H' → HR g ρ' L' H' → ER g ρ' H' σ' ε' → VRs g ρ' H' ys vs → D.bk vs σ' H'
  | .ct ε' ys L' => ∀ σ' vs ρ' H', ρ <+: ρ' → TP H H' → HR g ρ' L' H' → ER g ρ' H' σ' ε' → VRs g ρ' H' ys vs → D.ct vs σ' H'
  | .bad => False
theorem LfG.mono {D : GEnds} {r : RG} (hp : ρ <+: ρ') (ht : TP H H') (h : LfG g ρ H r D) : LfG g ρ' H' r D := by
  cases r with
  | nx ε ys L => exact fun σ' vs ρ2 H2 p t a b c => h σ' vs ρ2 H2 (hp.trans p) (ht.trans t) a b c
  | rt d ys L => exact fun σ' vs ρ2 H2 p t a b c => h σ' vs ρ2 H2 (hp.trans p) (ht.trans t) a b c
  | bk ε ys L => exact fun σ' vs ρ2 H2 p t a b c => h σ' vs ρ2 H2 (hp.trans p) (ht.trans t) a b c
  | ct ε ys L => exact fun σ' vs ρ2 H2 p t a b c => h σ' vs ρ2 H2 (hp.trans p) (ht.trans t) a b c
  | bad => exact h
theorem _root_.L2.GS.imp {X : Cx} {st : Stmt} {t t' : TGn} (h : GS X st t) (k : ∀ D ys σ H, t' D ys σ H → t D ys σ H) : GS X st t' :=
  ⟨fun A S ip R n ys s₀ c fs K J gd lv s σ H D gc hn kk hI ht => h.run A S ip R n ys s₀ c fs K J gd lv s σ H D gc hn kk hI (k D ys σ H ht)⟩
theorem _root_.L2.GSs.imp {X : Cx} {st : List Stmt} {t t' : TGn} (h : GSs X st t) (k : ∀ D ys σ H, t' D ys σ H → t D ys σ H) : GSs X st t' :=
  ⟨fun A S ip R n ys s₀ c fs K J gd lv s σ H D gc hn kk hI ht => h.run A S ip R n ys s₀ c fs K J gd lv s σ H D gc hn kk hI (k D ys σ H ht)⟩
theorem VRs.snoc {d : D} {v : V} (q : VR g ρ H d v) : ∀ {ds : List D} {vs : List V}, VRs g ρ H ds vs → VRs g ρ H (ds ++ [d]) (vs ++ [v])
  | _, _, .nil => .cons q .nil
  | _, _, .cons a b => .cons a (VRs.snoc q b)
end Tw
end
section
set_option Elab.async false
set_option linter.all false
set_option maxRecDepth 100000
set_option maxHeartbeats 4000000
namespace Tw
open PySem PySem.Spec L2 PyProof.Rows
end Tw
end
section
set_option Elab.async false
set_option linter.all false
set_option maxRecDepth 100000
set_option maxHeartbeats 4000000
namespace Tw
open PySem PySem.Spec L2
variable {g : Gx} {ρ ρ' : List Addr} {H H' : Hp} {X : Cx} {W : WX} {L : List O} {cm : Nat → Addr} {fx : Hp}
/-- an empty dict -/
def empD (L : List O) : D → Bool
  | .ref n => match L[n]? with
    | some (.dic _ []) => true
    | _ => false
  | _ => false
theorem empD_of {x : D} (h : empD L x = true) : ∃ n lk, x = .ref n ∧ L[n]? = some (.dic lk []) := by
  unfold empD at h
  split at h
  · split at h
    · rename_i n _ lk h1
      exact ⟨_, _, rfl, h1⟩
    · cases h
  · cases h
def dictT : Str := (PyData.dict []).shown
theorem dictT_len : dictT.length = 2 := by decide +kernel
def cReprZ : OC := fun ds L => match ds with
  | [x] => if empD L x = true then some (.str dictT, L) else cReprD [x] L
  | _ => none
theorem c_reprZ (hg : X.A.guards = some []) (hu : X.A.units + 65 < cLine) : CallR X (.builtin "repr") (rC ⟨X.K, cm, fx, X.w⟩ cReprZ) := by
  intro pins s σ H xs us Q I r q
  obtain ⟨ρ, L, ds, hh, rr, q⟩ := q
  unfold cReprZ at q
  split at q
  · rename_i x
    split at q
    · rename_i hz
      obtain ⟨n, lk, rfl, e2⟩ := empD_of hz
      obtain ⟨v, rfl, rv⟩ := rr.one
      obtain ⟨u, rfl, ru⟩ := r.one
      cases rv with
      | ref eb =>
      rename_i b
      obtain ⟨ws, hr, kr⟩ := hh.dic e2 eb
      cases kr
      obtain ⟨_, hne, ks, kv, dd⟩ := dk_rd I.hok hr
      cases kv
      cases ru
      obtain ⟨o2, es, ep, ho2, ⟨hc2, _, _⟩, hd2, _, hps, _⟩ := dd
      have hes : es = #[] := by
        have : es.toList = [] := by
          generalize es.toList = l at hps
          cases hps
          rfl
        exact Array.toList_eq_nil_iff.mp this
      subst hes
      have rd := reads_emp ho2 hc2 hd2
      have hbn : b ≠ sysModules := fun z => by rw [z] at hne; cases hne
      have hz4 : (PyData.dict []).shown.length ≤ sizeLine := by
        show dictT.length ≤ sizeLine
        rw [dictT_len]
        decide
      have hq : Q (.str dictT) H := q.same hh (.str _)
      have hdp : (PyData.dict []).depth ≤ 3 := by decide +kernel
      exact repr_of_reads' rd (by decide +kernel) (fun _ hm => hbn (List.mem_singleton.mp hm).symm) hg (by omega) (fun _ _ e => e) (fun h' u tk hk => ⟨.str dictT, H, I.kept (t' := tk) hk, ⟨_, rfl⟩, hq⟩) hz4
    · exact c_reprD hg hu pins s σ H _ us Q I r ⟨ρ, L, _, hh, rr, q⟩
  · exact q.elim
def cReprS : OC := fun ds L => match ds with
  | [.bl b] => some (.str (if b then "True" else "False"), L)
  | [.non] => some (.str "None", L)
  | [.int i] => if i.natAbs.log2 < 1920 then some (.str (Str.ofString (toString i)), L) else none
  | [.str x] => if (reprText x).length ≤ sizeLine then some (.str (reprText x), L) else none
  | _ => cReprZ ds L
theorem c_reprS (hg : X.A.guards = some []) (hu : X.A.units + 65 < cLine) : CallR X (.builtin "repr") (rC ⟨X.K, cm, fx, X.w⟩ cReprS) := by
  intro pins s σ H xs us Q I r q
  obtain ⟨ρ, L, ds, hh, rr, q⟩ := q
  unfold cReprS at q
  split at q
  · rename_i b
    obtain ⟨v, rfl, rv⟩ := rr.one
    cases rv
    obtain ⟨u, rfl, ru⟩ := r.one
    obtain rfl : u = Value.bool b := ru
    refine PySem.P.repr_of_bool ⟨.str _, H, I.tok _, ⟨s.toks, by cases b <;> rfl⟩, q.same hh (.str _)⟩
  · obtain ⟨v, rfl, rv⟩ := rr.one
    cases rv
    obtain ⟨u, rfl, ru⟩ := r.one
    obtain rfl : u = Value.none := ru
    refine PySem.P.repr_of_none ⟨.str _, H, I.tok _, ⟨s.toks, rfl⟩, q.same hh (.str _)⟩
  · rename_i i
    obtain ⟨v, rfl, rv⟩ := rr.one
    cases rv
    obtain ⟨u, rfl, ru⟩ := r.one
    obtain ⟨t, rfl⟩ := ru
    split at q
    · rename_i hz
      exact PySem.P.repr_of_int hz ⟨.str _, H, I.tok _, ⟨s.toks, rfl⟩, q.same hh (.str _)⟩
    · exact q.elim
  · rename_i x
    obtain ⟨v, rfl, rv⟩ := rr.one
    cases rv
    obtain ⟨u, rfl, ru⟩ := r.one
    obtain ⟨t, rfl⟩ := ru
    split at q
    · rename_i hz
      exact PySem.P.repr_of_str ⟨.str _, H, I.tok _, ⟨s.toks, rfl⟩, q.same hh (.str _)⟩ hz
    · exact q.elim
  · exact c_reprZ hg hu pins s σ H xs us Q I r ⟨ρ, L, ds, hh, rr, q⟩
end Tw
end
section
set_option Elab.async false
set_option linter.all false
set_option maxRecDepth 100000
set_option maxHeartbeats 4000000
namespace Tw
open PySem PySem.Spec L2
end Tw
end
section
set_option Elab.async false
set_option linter.all false
set_option maxRecDepth 100000
set_option maxHeartbeats 1000000
namespace Tw
open PySem PySem.Spec L2
end Tw
end
section
set_option Elab.async false
set_option linter.all false
set_option maxRecDepth 100000
set_option maxHeartbeats 4000000
namespace Tw
open PySem PySem.Spec PyProof.Rows L2
abbrev NRow := Addr × NestedKey
def NRow.hs (w : World) (p : NRow) : Int := p.2.hash w
def NRow.entry (w : World) (p : NRow) : Int × Value := (p.hs w, .ref p.1)
def NAt (h : Heap) (p : NRow) : Prop := NestedIs h p.2 (.ref p.1) ∧ p.2.depth ≤ 8
theorem NAt.tup {h : Heap} {p : NRow} (x : NAt h p) : ∃ o vs n ks, h.get? p.1 = some o ∧ o.cls = .type "tuple" ∧ o.data = .seq vs n ∧ p.2 = .tup ks ∧ NestedAll h ks vs.toList := by
  obtain ⟨a, k⟩ := p
  obtain ⟨x, _⟩ := x
  cases x with
  | tup ho hc hd hk => exact ⟨_, _, _, _, ho, hc, hd, rfl, hk⟩
theorem NAt.move {h h' : Heap} {p : NRow} (x : NAt h p) (k : ∀ a o vs n, h.get? a = some o → o.data = .seq vs n → h'.get? a = some o) : NAt h' p := ⟨NestedIs.at k _ _ x.1, x.2⟩
theorem NAt.keep {h h' : Heap} {p : NRow} (x : NAt h p) (k : ∀ a o, h.get? a = some o → h'.get? a = some o) : NAt h' p := x.move fun a o _ _ e _ => k a o e
section
variable {P : Program} {w : World} {A : Around} {E : Value → Shared → Prop} {s : Shared}
structure NSet (w : World) (h : Heap) (a : Addr) (L : List NRow) (es : Array (Int × Value)) (ep : Nat) (t : SetTable) : Prop where
  ob : ∃ o, h.get? a = some o ∧ o.ExactSet ∧ o.data = .set es ep t
  rows : es.toList = L.map (NRow.entry w)
  tab : TabOk t (L.map (NRow.hs w))
  nd : (L.map (·.2)).Nodup
  tup : ∀ p ∈ L, NAt h p
  led : w.params.followText "set-order" = true ∨ t.led = true
  room : L.length * 5 < t.mask * 3
  few : L.length < 77
variable {a : Addr} {L : List NRow} {es : Array (Int × Value)} {ep : Nat} {t : SetTable}
theorem NSet.at (R : NSet w s.heap a L es ep t) {i : Nat} {p : NRow} (h : L[i]? = some p) : es[i]? = some (p.hs w, .ref p.1) := by
  rw [← Array.getElem?_toList, R.rows, List.getElem?_map, h]
  rfl
end
end Tw
end
section
set_option Elab.async false
set_option linter.all false
set_option maxRecDepth 100000
set_option maxHeartbeats 4000000
namespace Tw
open PySem PySem.Spec PyProof.Rows L2
/-- what a set has of the first i rows -/
structure NGot (ks : List NRow) (i : Nat) (L : List NRow) : Prop where
  sub : ∀ p ∈ L, p ∈ ks.take i
  all : ∀ p ∈ ks.take i, p.2 ∈ L.map (·.2)
  len : L.length ≤ i
theorem NGot.none (ks : List NRow) : NGot ks 0 [] := ⟨nofun, fun p h => by simp at h, Nat.le_refl _⟩
theorem take_one {α : Type} {l : List α} {i : Nat} {x : α} (h : l[i]? = some x) : l.take (i + 1) = l.take i ++ [x] := by
  rw [List.take_add_one, h]
  rfl
theorem NGot.new {ks L L' : List NRow} {i : Nat} {x : NRow} (g : NGot ks i L) (h : ks[i]? = some x) (pm : L'.Perm (x :: L)) : NGot ks (i + 1) L' := by
  have e := take_one h
  refine ⟨fun p hp => ?_, fun p hp => ?_, by rw [pm.length_eq]; exact Nat.succ_le_succ g.len⟩
  · rw [e]
    rcases List.mem_cons.mp (pm.mem_iff.mp hp) with rfl | hp
    · exact List.mem_append_right _ (List.mem_singleton.mpr rfl)
    · exact List.mem_append_left _ (g.sub p hp)
  · rw [e] at hp
    rw [(pm.map (·.2)).mem_iff, List.map_cons]
    rcases List.mem_append.mp hp with hp | hp
    · exact List.mem_cons_of_mem _ (g.all p hp)
    · cases List.mem_singleton.mp hp
      exact List.mem_cons_self
section
variable {P : Program} {w : World} {A : Around} {E : Value → Shared → Prop} {s : Shared}
theorem NSet.keep {h h' : Heap} {a : Addr} {L : List NRow} {es : Array (Int × Value)} {ep : Nat} {t : SetTable} (R : NSet w h a L es ep t) (ha : ∀ o, h.get? a = some o → h'.get? a = some o) (ht : ∀ p ∈ L, NAt h' p) : NSet w h' a L es ep t :=
  let ⟨o, ho, r⟩ := R.ob
  ⟨⟨o, ha o ho, r⟩, R.rows, R.tab, R.nd, ht, R.led, R.room, R.few⟩
abbrev freshSet (w : World) : Obj := { cls := .type "set", dict := none, data := .set #[] 0 (.fresh 0 0 (!w.params.followText "set-order")) }
theorem NSet.fresh {h : Heap} {a : Addr} (ho : h.get? a = some (freshSet w)) : NSet w h a [] #[] 0 (.fresh 0 0 (!w.params.followText "set-order")) :=
  ⟨⟨_, ho, ⟨rfl, rfl, rfl⟩, rfl⟩, rfl, ⟨List.Pairwise.nil, rfl, rfl, .inl rfl, nofun, fun i h j hi => by simp at hi⟩, List.nodup_nil, nofun, by
    show _ ∨ (!w.params.followText "set-order") = true
    cases w.params.followText "set-order" with
    | true => exact .inl rfl
    | false => exact .inr rfl, by show 0 * 5 < 7 * 3; decide, by show 0 < 77; decide⟩
end
end Tw
end
section
set_option Elab.async false
set_option linter.all false
set_option maxRecDepth 100000
set_option maxHeartbeats 4000000
namespace Tw
open PySem PySem.Spec PyProof.Rows L2
end Tw
end
section
set_option Elab.async false
set_option linter.all false
set_option maxRecDepth 100000
set_option maxHeartbeats 4000000
namespace Tw
open PySem PySem.Spec PyProof.Rows L2
variable {g : Gx} {ρ ρ' : List Addr} {H H' : Hp} {X : Cx} {W : WX} {L : List O} {cm : Nat → Addr} {fx : Hp} {pins : List (Addr × Obj)} {σ : L2.St} {s : Shared}
mutual
def pureD : D → Bool
  | .non => true
  | .int _ => true
  | .str _ => true
  | .tup ds => pureDs ds
  | .bl _ => false | .ref _ => false | .cls _ => false | .ty _ => false | .rol _ => false
def pureDs : List D → Bool
  | [] => true
  | d :: ds => pureD d && pureDs ds
end
mutual
def unD : NestedKey → D
  | .none => .non
  | .num i => .int i
  | .text x => .str x
  | .tup ks => .tup (unDs ks)
def unDs : List NestedKey → List D
  | [] => []
  | k :: ks => unD k :: unDs ks
end
mutual
def kyP : D → NestedKey
  | .int i => .num i
  | .str x => .text x
  | .tup ds => .tup (kyPs ds)
  | .non => .none | .bl _ => .none | .ref _ => .none | .cls _ => .none | .ty _ => .none | .rol _ => .none
def kyPs : List D → List NestedKey
  | [] => []
  | d :: ds => kyP d :: kyPs ds
end
mutual
theorem pure_key : ∀ {d : D}, pureD d = true → nkD d = some (kyP d) ∧ unD (kyP d) = d
  | .non, _ => ⟨rfl, rfl⟩
  | .int i, _ => ⟨rfl, rfl⟩
  | .str x, _ => ⟨rfl, rfl⟩
  | .tup ds, h => by
    obtain ⟨a, b⟩ := pure_keys (ds := ds) (by simpa [pureD] using h)
    unfold nkD kyP
    rw [a]
    refine ⟨rfl, ?_⟩
    unfold unD
    rw [b]
  | .bl _, h => by simp [pureD] at h
  | .ref _, h => by simp [pureD] at h
  | .cls _, h => by simp [pureD] at h
  | .ty _, h => by simp [pureD] at h
  | .rol _, h => by simp [pureD] at h
theorem pure_keys : ∀ {ds : List D}, pureDs ds = true → nkDs ds = some (kyPs ds) ∧ unDs (kyPs ds) = ds
  | [], _ => ⟨rfl, rfl⟩
  | d :: ds, h => by
    have h' : pureD d = true ∧ pureDs ds = true := by simpa [pureDs] using h
    obtain ⟨a1, a2⟩ := pure_key h'.1
    obtain ⟨b1, b2⟩ := pure_keys h'.2
    unfold nkDs kyPs unDs
    rw [a1, b1, a2, b2]
    exact ⟨rfl, rfl⟩
end
def okD (d : D) : Bool := pureD d && decide ((kyP d).depth ≤ 8) && match d with
  | .tup (_ :: _) => true
  | _ => false
theorem okD_iff {d : D} (h : okD d = true) : pureD d = true ∧ (kyP d).depth ≤ 8 ∧ ∃ x xs, d = .tup (x :: xs) := by
  unfold okD at h
  rw [Bool.and_eq_true, Bool.and_eq_true, decide_eq_true_eq] at h
  refine ⟨h.1.1, h.1.2, ?_⟩
  have := h.2
  split at this
  · exact ⟨_, _, rfl⟩
  · cases this
def dstD : List D → List D
  | [] => []
  | d :: ds => if kyP d ∈ ds.map kyP then dstD ds else d :: dstD ds
theorem dstD_keys : ∀ (ds : List D), ((dstD ds).map kyP).Nodup ∧ (∀ k, k ∈ (dstD ds).map kyP ↔ k ∈ ds.map kyP) ∧ ∀ d ∈ dstD ds, d ∈ ds
  | [] => ⟨List.nodup_nil, fun _ => Iff.rfl, nofun⟩
  | d :: ds => by
    obtain ⟨a, b, c⟩ := dstD_keys ds
    unfold dstD
    by_cases h : kyP d ∈ ds.map kyP
    · rw [if_pos h]
      refine ⟨a, fun k => ?_, fun e he => List.mem_cons_of_mem _ (c e he)⟩
      rw [b, List.map_cons, List.mem_cons]
      constructor
      · exact .inr
      · rintro (rfl | z)
        · exact h
        · exact z
    · rw [if_neg h]
      refine ⟨?_, fun k => ?_, fun e he => ?_⟩
      · rw [List.map_cons]
        exact List.nodup_cons.mpr ⟨fun z => h ((b _).mp z), a⟩
      · rw [List.map_cons, List.map_cons, List.mem_cons, List.mem_cons, b]
      · rcases List.mem_cons.mp he with rfl | he
        · exact List.mem_cons_self
        · exact List.mem_cons_of_mem _ (c e he)
theorem len_sub {α : Type} [DecidableEq α] : ∀ {l m : List α}, l.Nodup → (∀ x ∈ l, x ∈ m) → l.length ≤ m.length
  | [], _, _, _ => Nat.zero_le _
  | a :: l, m, nd, h => by
    obtain ⟨n1, n2⟩ := List.nodup_cons.mp nd
    have ha := h a List.mem_cons_self
    have := len_sub (l := l) (m := m.erase a) n2 fun x hx => (List.mem_erase_of_ne (show x ≠ a from fun e => n1 (by rw [← e]; exact hx))).mpr (h x (List.mem_cons_of_mem _ hx))
    rw [List.length_erase_of_mem ha] at this
    have := List.length_pos_of_mem ha
    rw [List.length_cons]
    omega
end Tw
end
section
set_option Elab.async false
set_option linter.all false
set_option maxRecDepth 100000
set_option maxHeartbeats 4000000
namespace Tw
open PySem PySem.Spec PyProof.Rows L2
variable {g : Gx} {ρ ρ' : List Addr} {H H' : Hp} {X : Cx} {W : WX} {L : List O} {cm : Nat → Addr} {fx : Hp} {pins : List (Addr × Obj)} {σ : L2.St} {s : Shared}
theorem few_of {xs : List D} {ks : List NRow} (e : ks.map (·.2) = xs.map kyP) (h : (dstD xs).length < 77) (L : List NRow) (nd : (L.map (·.2)).Nodup) (sub : ∀ p ∈ L, p ∈ ks) : L.length < 77 := by
  obtain ⟨_, b, _⟩ := dstD_keys xs
  have := len_sub nd (m := (dstD xs).map kyP) fun k hk => by
    obtain ⟨p, hp, rfl⟩ := List.mem_map.mp hk
    rw [b, ← e]
    exact List.mem_map.mpr ⟨p, sub p hp, rfl⟩
  rw [List.length_map, List.length_map] at this
  omega
end Tw
end
section
set_option Elab.async false
set_option linter.all false
set_option maxRecDepth 100000
set_option maxHeartbeats 4000000
namespace Tw
open PySem PySem.Spec PyProof.Rows L2
/-- what a set has of some rows -/
structure NGotA (ks L : List NRow) : Prop where
  sub : ∀ p ∈ L, p ∈ ks
  all : ∀ p ∈ ks, p.2 ∈ L.map (·.2)
theorem NGotA.nil : NGotA [] [] := ⟨nofun, nofun⟩
theorem NGotA.new {ks L L' : List NRow} {x : NRow} (g : NGotA ks L) (pm : L'.Perm (x :: L)) : NGotA (ks ++ [x]) L' :=
  ⟨fun p hp => by
    rcases List.mem_cons.mp (pm.mem_iff.mp hp) with rfl | hp
    · exact List.mem_append_right _ (List.mem_singleton.mpr rfl)
    · exact List.mem_append_left _ (g.sub p hp), fun p hp => by
    rw [(pm.map (·.2)).mem_iff, List.map_cons]
    rcases List.mem_append.mp hp with hp | hp
    · exact List.mem_cons_of_mem _ (g.all p hp)
    · cases List.mem_singleton.mp hp
      exact List.mem_cons_self⟩
/-- the set's object, its tuples left out -/
structure NObj (w : World) (h : Heap) (a : Addr) (L : List NRow) (es : Array (Int × Value)) (ep : Nat) (t : SetTable) : Prop where
  ob : ∃ o, h.get? a = some o ∧ o.ExactSet ∧ o.data = .set es ep t
  rows : es.toList = L.map (NRow.entry w)
  tab : TabOk t (L.map (NRow.hs w))
  nd : (L.map (·.2)).Nodup
  led : w.params.followText "set-order" = true ∨ t.led = true
  room : L.length * 5 < t.mask * 3
  few : L.length < 77
section
variable {w : World} {h : Heap} {a : Addr} {L : List NRow} {es : Array (Int × Value)} {ep : Nat} {t : SetTable}
theorem NObj.set (N : NObj w h a L es ep t) (tup : ∀ p ∈ L, NAt h p) : NSet w h a L es ep t := ⟨N.ob, N.rows, N.tab, N.nd, tup, N.led, N.room, N.few⟩
end
section
variable {X : Cx} {pins : List (Addr × Obj)} {σ : L2.St} {H : Hp} {s : Shared}
/-- no more than 76 -/
def Room (ks : List NRow) : Prop := ∀ L : List NRow, (L.map (·.2)).Nodup → (∀ p ∈ L, p ∈ ks) → L.length < 77
end
section
variable {X : Cx}
/-- the rows as data -/
def RowsAt (gx : Gx) (H : Hp) (ks : List NRow) : Prop := ∀ p ∈ ks, ∃ (fx : Hp) (ρ : List Addr) (d : D), VR ⟨gx.K, gx.cm, fx, gx.w⟩ ρ H d (.ref p.1) ∧ nkD d = some p.2 ∧ p.2.depth ≤ 8
theorem RowsAt.at {cm : Nat → Addr} {fx : Hp} {pins : List (Addr × Obj)} {σ : L2.St} {H : Hp} {s : Shared} {ks : List NRow} (r : RowsAt ⟨X.K, cm, fx, X.w⟩ H ks) (I : Inv X pins σ H s) : ∀ p ∈ ks, NAt s.heap p := fun p hp => by
  obtain ⟨fx, ρ, d, a, b, c⟩ := r p hp
  exact ⟨nk_is (cm := cm) (fx := fx) I a rfl b, c⟩
end
end Tw
end
section
set_option Elab.async false
set_option linter.all false
set_option maxRecDepth 100000
set_option maxHeartbeats 4000000
namespace Tw
open PySem PySem.Spec PyProof.Rows L2
variable {g : Gx} {ρ ρ' : List Addr} {H H' : Hp} {X : Cx} {W : WX} {L : List O} {cm : Nat → Addr} {fx : Hp} {pins : List (Addr × Obj)} {σ : L2.St} {s : Shared}
abbrev Gx.fr (g : Gx) (f : Hp) : Gx := ⟨g.K, g.cm, f, g.w⟩
mutual
theorem VR.fr (f : Hp) : ∀ {d : D} {v : V}, VR g ρ H d v → VR (g.fr f) ρ H d v
  | _, _, .non => .non
  | _, _, .bl b => .bl b
  | _, _, .int i => .int i
  | _, _, .str x => .str x
  | _, _, .ref e => .ref e
  | _, _, .cls c => .cls c
  | _, _, .ty c => .ty c
  | _, _, .tup s r => .tup s (VRs.fr f r)
  | _, _, .rol s r => .rol s (VRs.fr f r)
theorem VRs.fr (f : Hp) : ∀ {ds : List D} {vs : List V}, VRs g ρ H ds vs → VRs (g.fr f) ρ H ds vs
  | _, _, .nil => .nil
  | _, _, .cons r t => .cons (VR.fr f r) (VRs.fr f t)
end
theorem FR.fr (f : Hp) : ∀ {fs : List (Str × D)} {vs : List (Str × V)}, FR g ρ H fs vs → FR (g.fr f) ρ H fs vs
  | _, _, .nil => .nil
  | _, _, .cons r t => .cons (r.fr f) (FR.fr f t)
theorem KR.fr (f : Hp) : ∀ {fs : List (Key × D)} {vs : List (Key × V)}, KR g ρ H fs vs → KR (g.fr f) ρ H fs vs
  | _, _, .nil => .nil
  | _, _, .cons r t => .cons (r.fr f) (KR.fr f t)
theorem NR.fr (f : Hp) : ∀ {ks : List (D × D)} {xs : List (NestedKey × Addr × V)}, NR g ρ H ks xs → NR (g.fr f) ρ H ks xs
  | _, _, .nil => .nil
  | _, _, .cons a b r q t => .cons a b (r.fr f) (q.fr f) (NR.fr f t)
theorem OR.fr (f : Hp) {a : Addr} {o : O} (h : OR g ρ H a o) : OR (g.fr f) ρ H a o := by
  cases o with
  | lst ds => obtain ⟨vs, e, r⟩ := h; exact ⟨vs, e, r.fr f⟩
  | ins c fs => obtain ⟨dx, vs, e, r⟩ := h; exact ⟨dx, vs, e, r.fr f⟩
  | dic lk ks =>
    cases lk with
    | false => obtain ⟨vs, e, r⟩ := h; exact ⟨vs, e, r.fr f⟩
    | true => obtain ⟨vs, o, e, r⟩ := h; exact ⟨vs, o, e, r.fr f⟩
  | nd lk ks =>
    cases lk with
    | false => obtain ⟨xs, e, r⟩ := h; exact ⟨xs, e, r.fr f⟩
    | true => obtain ⟨xs, o, e, r⟩ := h; exact ⟨xs, o, e, r.fr f⟩
  | gen t ds => obtain ⟨vs, o, e, q, r⟩ := h; exact ⟨vs, o, e, q, r.fr f⟩
theorem ER.fr (f : Hp) {ε : En} (e : ER g ρ H σ ε) : ER (g.fr f) ρ H σ ε := ⟨e.1, fun i d q => let ⟨v, a, b⟩ := e.2 i d q; ⟨v, a, b.fr f⟩⟩
/-- the frame with one more thing in it -/
abbrev Gx.add (g : Gx) (D : Addr) (u : HO) : Gx := g.fr (upd g.fx D u)
theorem HR.free (h : HR g ρ L H) {D : Addr} (hD : H D = none) : g.fx D = none := by
  cases e : g.fx D with
  | none => rfl
  | some u => rw [h.fxs D u e] at hD; cases hD
theorem HR.add (h : HR g ρ L H) {D : Addr} (hD : H D = none) (u : HO) : HR (g.add D u) ρ L (upd H D u) := by
  refine ⟨h.len, h.nd, fun n o a e ea => ?_, fun n a ea => ?_, fun a w e => ?_⟩
  · have q := h.ob n o a e ea
    exact (q.fr _).mono (List.prefix_refl _) (TP.new hD) (upd_ne (h.ne hD ea))
  · show upd g.fx D u a = none
    rw [upd_ne (h.ne hD ea)]
    exact h.nfx n a ea
  · have e : upd g.fx D u a = some w := e
    by_cases z : a = D
    · subst z
      rw [upd_same] at e ⊢
      exact e
    · rw [upd_ne z] at e ⊢
      exact h.fxs a w e
theorem HR.at_ {D : Addr} {u : HO} (h : HR (g.add D u) ρ L H) : H D = some u := h.fxs D u upd_same
theorem HR.drop {D : Addr} {u : HO} (h : HR (g.add D u) ρ L H) (gn : g.fx D = none) : HR g ρ L H := by
  refine ⟨h.len, h.nd, fun n o a e ea => (h.ob n o a e ea).fr g.fx, fun n a ea => ?_, fun a w e => ?_⟩
  · have q : upd g.fx D u a = none := h.nfx n a ea
    by_cases z : a = D
    · subst z; exact gn
    · rw [upd_ne z] at q
      exact q
  · refine h.fxs a w ?_
    show upd g.fx D u a = some w
    rw [upd_ne (fun z => by rw [z, gn] at e; cases e)]
    exact e
theorem HR.put {D : Addr} {u : HO} (h : HR (g.add D u) ρ L H) (m : MutO u = true) (u' : HO) : HR (g.add D u') ρ L (upd H D u') := by
  have ne : ∀ {n : Nat} {a : Addr}, ρ[n]? = some a → a ≠ D := fun {n a} ea z => by
    have q : upd g.fx D u a = none := h.nfx n a ea
    rw [z, upd_same] at q
    cases q
  refine ⟨h.len, h.nd, fun n o a e ea => ?_, fun n a ea => ?_, fun a w e => ?_⟩
  · exact ((h.ob n o a e ea).fr _).mono (List.prefix_refl _) (TP.mut h.at_ m) (upd_ne (ne ea))
  · show upd g.fx D u' a = none
    have q : upd g.fx D u a = none := h.nfx n a ea
    rw [upd_ne (ne ea)] at q ⊢
    exact q
  · have e : upd g.fx D u' a = some w := e
    by_cases z : a = D
    · subst z
      rw [upd_same] at e ⊢
      exact e
    · rw [upd_ne z] at e ⊢
      exact h.fxs a w (by show upd g.fx D u a = some w; rw [upd_ne z]; exact e)
structure RowsD (g : Gx) (ρ : List Addr) (H : Hp) (ks : List NRow) (acc : List D) : Prop where
  keys : ks.map (·.2) = acc.map kyP
  okd : ∀ d ∈ acc, okD d = true
  each : ∀ p ∈ ks, VR g ρ H (unD p.2) (.ref p.1) ∧ unD p.2 ∈ acc
theorem RowsD.nil : RowsD g ρ H [] [] := ⟨rfl, nofun, nofun⟩
theorem RowsD.mono (hp : ρ <+: ρ') (ht : TP H H') {ks : List NRow} {acc : List D} (r : RowsD g ρ H ks acc) : RowsD g ρ' H' ks acc :=
  ⟨r.keys, r.okd, fun p h => ⟨(r.each p h).1.mono hp ht, (r.each p h).2⟩⟩
theorem RowsD.snoc {ks : List NRow} {acc : List D} (r : RowsD g ρ H ks acc) {y : D} {v : V} (hv : VR g ρ H y v) (ok : okD y = true) : ∃ q, v = .ref q ∧ RowsD g ρ H (ks ++ [(q, kyP y)]) (acc ++ [y]) := by
  obtain ⟨p1, p2, x, ys, rfl⟩ := okD_iff ok
  cases hv with
  | tup s t =>
    rename_i a vs
    refine ⟨a, rfl, by rw [List.map_append, List.map_append, r.keys]; rfl, fun d hd => ?_, fun p hp => ?_⟩
    · rcases List.mem_append.mp hd with hd | hd
      · exact r.okd d hd
      · rw [List.mem_singleton.mp hd]
        exact ok
    · rcases List.mem_append.mp hp with hp | hp
      · exact ⟨(r.each p hp).1, List.mem_append_left _ (r.each p hp).2⟩
      · rw [List.mem_singleton.mp hp]
        show VR g ρ H (unD (kyP (.tup (x :: ys)))) (.ref a) ∧ unD (kyP (.tup (x :: ys))) ∈ _
        rw [(pure_key p1).2]
        exact ⟨.tup s t, List.mem_append_right _ (List.mem_singleton.mpr rfl)⟩
theorem RowsD.rows {ks : List NRow} {acc : List D} (r : RowsD g ρ H ks acc) : RowsAt g H ks := fun p hp => by
  obtain ⟨a, b⟩ := r.each p hp
  have ok := okD_iff (r.okd _ b)
  have hk : p.2 ∈ acc.map kyP := by
    rw [← r.keys]
    exact List.mem_map.mpr ⟨p, hp, rfl⟩
  obtain ⟨d, hd, e⟩ := List.mem_map.mp hk
  have okd := okD_iff (r.okd d hd)
  have e2 : kyP (unD p.2) = p.2 := by
    rw [← e, (pure_key okd.1).2]
  refine ⟨g.fx, ρ, unD p.2, a, ?_, ?_⟩
  · rw [(pure_key ok.1).1, e2]
  · rw [← e2]
    exact ok.2.1
theorem RowsD.room {ks : List NRow} {acc : List D} (r : RowsD g ρ H ks acc) (h : (dstD acc).length < 77) : Room ks := few_of r.keys h
theorem Lf.moved {α β : Type} {rel : List Addr → Hp → α → β → Prop} {r : Rs α} {Q : β → Hp → Prop} (hp : ρ <+: ρ') (ht : TP H H') (h : Lf g ρ H σ W rel r Q) : Lf g ρ' H' σ W rel r Q := by
  cases r with
  | ok d L => exact fun v ρ2 H2 p t a b => h v ρ2 H2 (hp.trans p) (ht.trans t) a b
  | ex c fs L => exact fun ρ2 H2 dx p t a b => h ρ2 H2 dx (hp.trans p) (ht.trans t) a b
  | bad => exact h
end Tw
end
section
set_option Elab.async false
set_option linter.all false
set_option maxRecDepth 100000
set_option maxHeartbeats 4000000
namespace Tw
open PySem PySem.Spec PyProof.Rows L2
end Tw
end
section
set_option Elab.async false
set_option linter.all false
set_option maxRecDepth 100000
set_option maxHeartbeats 4000000
namespace Tw
open PySem PySem.Spec L2
end Tw
end
section
set_option Elab.async false
set_option linter.all false
set_option maxRecDepth 100000
set_option maxHeartbeats 4000000
namespace Tw
open PySem PySem.Spec L2
end Tw
end
section
set_option Elab.async false
set_option linter.all false
set_option maxRecDepth 100000
set_option maxHeartbeats 4000000
namespace Tw
open PySem PySem.Spec L2
end Tw
end
section
set_option Elab.async false
set_option linter.all false
set_option maxRecDepth 100000
set_option maxHeartbeats 4000000
namespace Tw
open PySem PySem.Spec L2
end Tw
end
section
set_option Elab.async false
set_option linter.all false
set_option maxRecDepth 100000
set_option maxHeartbeats 4000000
namespace Tw
open PySem PySem.Spec L2
end Tw
end
section
set_option Elab.async false
set_option linter.all false
set_option maxRecDepth 100000
set_option maxHeartbeats 4000000
namespace GenZ
open PySem
open Sem (wp)
variable {M : Model}
/-- it cannot be woken any more -/
def dead : GenState → GenState
  | .suspended _ l c p fs cl => .suspended (fun _ => .unsupported "asleep") l c p fs cl
  | x => x
def asleep : GenState → Bool
  | .suspended .. => true
  | _ => false
/-- asleep, with no generator's frame within its saved stack -/
def nap : GenState → Bool
  | .suspended _ _ _ _ fs _ => (splitAtGen fs).isNone
  | _ => false
theorem nap_asleep {x : GenState} (h : nap x = true) : asleep x = true := by cases x <;> first | rfl | cases h
theorem nap_of {k l c p fs cl} (h : splitAtGen fs = none) : nap (.suspended k l c p fs cl) = true := by simp [nap, h]
/-- sp is s, but the generators at P, all asleep, are dead -/
structure Pz (P : Nat → Prop) (s sp : Shared) : Prop where
  heap : sp.heap = s.heap
  drawn : sp.drawn = s.drawn
  toks : sp.toks = s.toks
  os : sp.os = s.os
  size : sp.gens.size = s.gens.size
  hit : ∀ i, P i → ∃ x, s.gens[i]? = some x ∧ asleep x = true ∧ sp.gens[i]? = some (dead x)
  ne : ∀ i, ¬ P i → sp.gens[i]? = s.gens[i]?
/-- no generator's frame within a saved stack -/
def Clean (P : Nat → Prop) (s : Shared) : Prop := ∀ i, ¬ P i → ∀ k l c p fs cl, s.gens[i]? = some (.suspended k l c p fs cl) → splitAtGen fs = none
def Kept (P : Nat → Prop) (s s' : Shared) : Prop := ∀ i, P i → s'.gens[i]? = s.gens[i]?
theorem Kept.trans {P : Nat → Prop} {a b c : Shared} (x : Kept P a b) (y : Kept P b c) : Kept P a c := fun i h => (y i h).trans (x i h)
theorem Kept.of {P : Nat → Prop} {a b c : Shared} (h : b.gens = a.gens) (y : Kept P b c) : Kept P a c := fun i q => (y i q).trans (by rw [h])
section
variable {P : Nat → Prop} {s sp : Shared}
theorem Pz.same (z : Pz P s sp) {i : Nat} {x : GenState} (h : sp.gens[i]? = some x) (hx : asleep x = false) : ¬ P i ∧ s.gens[i]? = some x := by
  have hn : ¬ P i := fun hp => by
    obtain ⟨y, _, h2, h3⟩ := z.hit i hp
    rw [h] at h3
    cases h3
    cases y <;> simp [asleep, dead] at hx h2
  exact ⟨hn, by rw [← z.ne i hn]; exact h⟩
theorem Pz.susp (z : Pz P s sp) {i : Nat} {k l c p fs cl} (h : sp.gens[i]? = some (.suspended k l c p fs cl)) : (¬ P i ∧ s.gens[i]? = some (.suspended k l c p fs cl)) ∨ k = fun _ => .unsupported "asleep" := by
  by_cases hp : P i
  · obtain ⟨y, h1, h2, h3⟩ := z.hit i hp
    rw [h] at h3
    cases y with
    | suspended k1 l1 c1 p1 fs1 cl1 => cases h3; exact .inr rfl
    | _ => cases h3
  · exact .inl ⟨hp, (z.ne i hp).symm.trans h⟩
theorem get_setGen_ne {s : Shared} {g i : Nat} {x : GenState} (h : i ≠ g) : (s.setGen g x).gens[i]? = s.gens[i]? := by
  show (s.gens.setIfInBounds g x)[i]? = _
  rw [Array.getElem?_setIfInBounds_ne (Ne.symm h)]
theorem Pz.setGen (z : Pz P s sp) {g : Nat} (hg : ¬ P g) (x : GenState) : Pz P (s.setGen g x) (sp.setGen g x) where
  heap := z.heap
  drawn := z.drawn
  toks := z.toks
  os := z.os
  size := by show (sp.gens.setIfInBounds g x).size = (s.gens.setIfInBounds g x).size; simp [z.size]
  hit := fun i hi => by
    have hne : i ≠ g := fun e => hg (e ▸ hi)
    obtain ⟨y, h1, h2, h3⟩ := z.hit i hi
    exact ⟨y, by rw [get_setGen_ne hne]; exact h1, h2, by rw [get_setGen_ne hne]; exact h3⟩
  ne := fun i hi => by
    by_cases e : i = g
    · subst e
      show (sp.gens.setIfInBounds i x)[i]? = (s.gens.setIfInBounds i x)[i]?
      simp [Array.getElem?_setIfInBounds, z.size]
    · rw [get_setGen_ne e, get_setGen_ne e]; exact z.ne i hi
theorem Clean.setGen (c : Clean P s) {g : Nat} {x : GenState} (hx : ∀ k l c p fs cl, x = .suspended k l c p fs cl → splitAtGen fs = none) : Clean P (s.setGen g x) := fun i hi k l cc p fs cl e => by
  by_cases h : i = g
  · subst h
    have q : (s.gens.setIfInBounds i x)[i]? = some (.suspended k l cc p fs cl) := e
    rw [Array.getElem?_setIfInBounds] at q
    simp only [if_true] at q
    split at q
    · exact hx _ _ _ _ _ _ (Option.some.inj q)
    · cases q
  · rw [get_setGen_ne h] at e
    exact c i hi _ _ _ _ _ _ e
theorem Pz.push (z : Pz P s sp) (x : GenState) : Pz P { s with gens := s.gens.push x } { sp with gens := sp.gens.push x } where
  heap := z.heap
  drawn := z.drawn
  toks := z.toks
  os := z.os
  size := by simp [z.size]
  hit := fun i hi => by
    obtain ⟨y, h1, h2, h3⟩ := z.hit i hi
    have l1 := (Array.getElem?_eq_some_iff.mp h1).1
    have l2 := (Array.getElem?_eq_some_iff.mp h3).1
    exact ⟨y, by show (s.gens.push x)[i]? = _; rw [Array.getElem?_push, if_neg (Nat.ne_of_lt l1)]; exact h1, h2, by show (sp.gens.push x)[i]? = _; rw [Array.getElem?_push, if_neg (Nat.ne_of_lt l2)]; exact h3⟩
  ne := fun i hi => by
    show (sp.gens.push x)[i]? = (s.gens.push x)[i]?
    rw [Array.getElem?_push, Array.getElem?_push, z.size, z.ne i hi]
end
end GenZ
namespace GenZ
open PySem
open Sem (wp)
/-- all that sleep -/
def slp (s : Shared) (i : Nat) : Prop := ∃ x, s.gens[i]? = some x ∧ asleep x = true
end GenZ
end
section
set_option Elab.async false
set_option linter.all false
set_option maxRecDepth 100000
set_option maxHeartbeats 4000000
namespace GenZ
open PySem PySem.Spec L2 GenW PyProof.Rows
/-- the code runs to its end or its next item, and there Φ holds -/
def Sg (M : Model) (A : Around) (Φ : End → Shared → Prop) (c : Code) (t : Sem PySem.Fin) (fs : List Frame) (s : Shared) : Prop :=
  ∀ Γ p, Γ.code = c → Γ.Woken A → ∃ e s', Runs M Γ p t fs s e s' ∧ Φ e s'
section
variable {M : Model} {A : Around} {Φ : End → Shared → Prop} {c : Code} {fs : List Frame} {s : Shared} {env : Env} {K : Flow → Sem PySem.Fin} {H : Value → Sem PySem.Fin} {gd : Bool → Bool} {lv : List Value → List Value}
theorem Sg.mono {Φ' : End → Shared → Prop} {t : Sem PySem.Fin} (k : ∀ e s, Φ e s → Φ' e s) (h : Sg M A Φ c t fs s) : Sg M A Φ' c t fs s := fun Γ p a b => by
  obtain ⟨e, s', r, q⟩ := h Γ p a b
  exact ⟨e, s', r, k e s' q⟩
end
end GenZ
end
section
set_option Elab.async false
set_option linter.all false
set_option maxRecDepth 100000
set_option maxHeartbeats 4000000
namespace Tw
open PySem PySem.Spec L2 GenW GenZ PyProof.Rows
open PyProof.Rows (envOfC)
/-- where a generator has come to -/
inductive Cg where
  | bad | done (L : List O) | yld (d : D) (L : List O) (k : List O → Cg)
def cut (n : Nat) (h : Heap) : Heap := { h with objs := h.objs.extract 0 n }
def cutS (n : Nat) (s : Shared) : Shared := { s with heap := cut n s.heap }
theorem cut_lt {n : Nat} {h : Heap} {b : Addr} (hb : b < n) : (cut n h).get? b = h.get? b := by
  have e : (h.objs.extract 0 n)[b]? = h.objs[b]? := by
    rw [Array.getElem?_extract]
    by_cases hz : b < h.objs.size
    · rw [if_pos (show b < min n h.objs.size - 0 from Nat.lt_min.mpr ⟨hb, hz⟩), Nat.zero_add]
    · rw [if_neg (show ¬ b < min n h.objs.size - 0 from fun q => hz (Nat.lt_min.mp q).2)]
      exact (Array.getElem?_eq_none (Nat.le_of_not_lt hz)).symm
  unfold Heap.get?
  show (match (h.objs.extract 0 n)[b]? with | some ⟨_, _, .freed, _⟩ => none | o => o) = _
  rw [e]
  rfl
theorem cut_size {n : Nat} {h : Heap} : (cut n h).objs.size ≤ n := by
  show (h.objs.extract 0 n).size ≤ n
  rw [Array.size_extract]
  omega
theorem cut_size_eq {n : Nat} {h : Heap} (hn : n ≤ h.objs.size) : (cut n h).objs.size = n := by
  show (h.objs.extract 0 n).size = n
  rw [Array.size_extract]
  omega
theorem cut_get {n : Nat} {h : Heap} {b : Addr} {o : Obj} (e : (cut n h).get? b = some o) : b < n ∧ h.get? b = some o := by
  have hb : b < n := Nat.lt_of_lt_of_le (Heap.lt_size e) cut_size
  exact ⟨hb, by rw [← cut_lt hb]; exact e⟩
theorem cut_frames {n : Nat} {h base : Heap} {l : List Env} (hl : h.FunFrames base l) (hb : ∀ b ∈ frs l, b < n) : (cut n h).FunFrames base l := by
  induction l with
  | nil => trivial
  | cons env r ih =>
    obtain ⟨hk, ⟨L, o, hf, hn, ho, hd⟩, hr⟩ := hl
    have e : frs (env :: r) = L :: frs r := by unfold frs; rw [List.filterMap_cons, hf]
    exact ⟨hk, ⟨L, o, hf, hn, by rw [cut_lt (hb L (by rw [e]; exact List.mem_cons_self))]; exact ho, hd⟩, ih hr fun b z => hb b (by rw [e]; exact List.mem_cons_of_mem _ z)⟩
structure KeptS (s s' : Shared) : Prop where
  size : s.gens.size ≤ s'.gens.size
  at_ : ∀ (i : Nat) (x : GenState), s.gens[i]? = some x → nap x = true → s'.gens[i]? = some x
theorem KeptS.trans {a b c : Shared} (x : KeptS a b) (y : KeptS b c) : KeptS a c := ⟨Nat.le_trans x.size y.size, fun i z h q => y.at_ i z (x.at_ i z h q) q⟩
/-- those at P sleep on, the table grows -/
def Kq (P : Nat → Prop) (s s' : Shared) : Prop := Kept P s s' ∧ s.gens.size ≤ s'.gens.size
theorem Kq.trans {P : Nat → Prop} {a b c : Shared} (x : Kq P a b) (y : Kq P b c) : Kq P a c := ⟨x.1.trans y.1, Nat.le_trans x.2 y.2⟩
theorem KeptS.of {s s' : Shared} (k : Kq (slp s) s s') : KeptS s s' := ⟨k.2, fun i x h q => (k.1 i (⟨x, h, nap_asleep q⟩ : slp s i)).trans h⟩
theorem KeptS.eq {s s' : Shared} (h : s'.gens = s.gens) : KeptS s s' := ⟨by rw [h]; exact Nat.le_refl _, fun i x e _ => by rw [h]; exact e⟩
/-- all younger ones that sleep sleep on -/
structure KeptX (gi : Nat) (s s' : Shared) : Prop where
  size : s.gens.size ≤ s'.gens.size
  at_ : ∀ (i : Nat) (x : GenState), gi < i → s.gens[i]? = some x → nap x = true → s'.gens[i]? = some x
theorem KeptS.x {gi : Nat} {s s' : Shared} (k : KeptS s s') : KeptX gi s s' := ⟨k.size, fun i x _ e a => k.at_ i x e a⟩
theorem inv_gens {X : Cx} {pins : List (Addr × Obj)} {σ : L2.St} {H : Hp} {s : Shared} {gs : Array GenState} (I : Inv X pins σ H s) (b : AllBare gs) : Inv X pins σ H { s with gens := gs } :=
  ⟨I.ok, I.os, b, I.base, I.loc, I.cell, I.free, I.freeC, I.pin, I.hok, I.len⟩
/-- what is to stand on, whatever runs beside -/
structure Sta where
  n : Nat
  ok : Shared → List Addr → Hp → Prop
/-- those that sleep between two numbers sleep on -/
def KeptR (gi n : Nat) (s s' : Shared) : Prop := ∀ (i : Nat) (x : GenState), gi < i → i < n → s.gens[i]? = some x → nap x = true → s'.gens[i]? = some x
theorem KeptX.r {gi n : Nat} {s s' : Shared} (k : KeptX gi s s') : KeptR gi n s s' := fun i x h _ => k.at_ i x h
def Stable (gi : Nat) (St : Sta) : Prop := ∀ s s' ρ ρ' H H', St.ok s ρ H → KeptR gi St.n s s' → ρ <+: ρ' → TP H H' → St.ok s' ρ' H'
structure GP where
  P : Program
  w : World
  K : PySem.W.Frag
  mg : Str → Option Value
  base : Heap
  N : List Str
  qual : Str
  sc : Scope
  f : Addr
  cd : Value
  A : Around
  outer : List Env
  pn : List (Addr × Obj)
  at_ : Addr
  gi : Nat
abbrev GP.env (p : GP) : Env := envOfC p.qual p.sc p.at_ p.f p.cd
abbrev GP.cx (p : GP) (s : Shared) (H : Hp) : Cx where
  prog := p.P
  w := p.w
  K := p.K
  mg := p.mg
  base := p.base
  A := p.A.deeper (envOfC p.qual p.sc p.at_ p.f p.cd)
  N := p.N
  s_0 := s
  H_0 := H
  env := envOfC p.qual p.sc p.at_ p.f p.cd
  outer := p.outer
  stack := envOfC p.qual p.sc p.at_ p.f p.cd :: p.outer
  ex := []
  calm := true
  fn := fun _ => true
  pn := p.pn
  xe := fun _ _ => False
/-- no cells -/
def NoCells (sc : Scope) : Prop := ∀ n, cellsFrom n sc.names [] = []
structure GIz (p : GP) (g : Gx) (St : Sta) (ip : List (Addr × Obj)) (ρ₀ : List Addr) (H₀ : Hp) (r : Shared) (ρ : List Addr) (H : Hp) (σ : L2.St) (ε : En) (L : List O) (s : Shared) : Prop where
  inv : Inv (p.cx (cutS p.at_ r) H₀) ip σ H s
  le : p.at_ ≤ r.heap.objs.size
  pre : ρ₀ <+: ρ
  tp : TP H₀ H
  er : ER g ρ H σ ε
  hr : HR g ρ L H
  st : St.ok s ρ H
  own : p.gi < St.n
  top : St.n ≤ s.gens.size
/-- the records that sleep with it -/
structure PinsAt (p : GP) (pl : List (Addr × Obj)) (s : Shared) (H : Hp) : Prop where
  own : ∃ o, (p.at_, o) ∈ pl
  pn : ∀ q ∈ p.pn, q ∈ pl
  all : ∀ q ∈ pl, p.at_ ≤ q.1 ∧ s.heap.get? q.1 = some q.2 ∧ H q.1 = none ∧ ∀ v, q.2.data ≠ .cell v
structure Wake (p : GP) (pl : List (Addr × Obj)) (s s' : Shared) (H' : Hp) : Prop where
  env0 : Env0 p.P p.w p.K p.mg p.base p.A p.outer s' H'
  pins : ∀ q ∈ pl, s'.heap.get? q.1 = some q.2 ∧ H' q.1 = none
  kept : KeptX p.gi s s'
  own : p.gi < s'.gens.size
/-- from where it was woken -/
structure Stp (p : GP) (H₀ : Hp) (r : Shared) (H : Hp) (s : Shared) : Prop where
  os : s.os = r.os
  bare : AllBare s.gens
  un : Un (frs p.outer) [] H₀ H (cut p.at_ r.heap) s.heap
  hok : HOk p.P p.w H s.heap
def PhiF (p : GP) : Cg → Gx → List Addr → Hp → Shared → End → Shared → Prop
  | .bad, _, _, _, _, _, _ => False
  | .done L, g, ρ₀, H₀, r, e, s => (e = .ret (.ok (.ret .none)) ∨ e = .ret (.ok .next)) ∧ ∃ ρ H, Stp p H₀ r H s ∧ ρ₀ <+: ρ ∧ TP H₀ H ∧ HR g ρ L H
  | .yld d L k, g, ρ₀, H₀, r, e, s => ∃ v l kk c ps fs ρ H x pl, e = .susp v false l kk c ps fs ∧ e.quiet = true ∧ splitAtGen fs = none ∧ Stp p H₀ r H s ∧ ρ₀ <+: ρ ∧ TP H₀ H ∧ HR g ρ L H ∧ VR g ρ H d x ∧ RelV x v ∧ PinsAt p pl s H ∧
      ∀ f L' ρ' H' s', ρ <+: ρ' → TP H H' → HR (g.fr f) ρ' L' H' → Wake p pl s s' H' → k L' ≠ .bad → Sg (model p.P p.w) p.A (PhiF p (k L') (g.fr f) ρ' H' s') c (kk (.send .none)) fs s'
/-- beside any frame: the frame may be another one at each wake -/
abbrev PhiG (p : GP) (g : Gx) (γ : Cg) : List Addr → Hp → Shared → End → Shared → Prop := PhiF p γ g
/-- it wakes -/
theorem GIz.wake {p : GP} {g : Gx} {St : Sta} {ip : List (Addr × Obj)} {ρ₀ : List Addr} {H₀ : Hp} {r : Shared} {ρ : List Addr} {H : Hp} {σ : L2.St} {ε : En} {L : List O} {s : Shared} (I : GIz p g St ip ρ₀ H₀ r ρ H σ ε L s) (hnc : NoCells p.sc) (hst : Stable p.gi St)
    {o : Obj} (ho : s.heap.get? p.at_ = some o) {s' : Shared} {ρ' : List Addr} {H' : Hp} {L' : List O} (wk : Wake p ((p.at_, o) :: (p.pn ++ ip)) s s' H') (hp : ρ <+: ρ') (ht : TP H H') {f : Hp} (hr : HR (g.fr f) ρ' L' H') :
    GIz p (g.fr f) St ip ρ' H' s' ρ' H' σ ε L' s' := by
  have J := I.inv
  have nocell : ∀ x c, (envOfC p.qual p.sc p.at_ p.f p.cd).cells.lookup x = some c → False := fun x c e => by
    have e' : (cellsFrom (p.at_ + 1) p.sc.names []).lookup x = some c := e
    rw [hnc] at e'
    cases e'
  obtain ⟨wo, wh⟩ := wk.pins _ List.mem_cons_self
  have hle : p.at_ ≤ s'.heap.objs.size := Nat.le_of_lt (Heap.lt_size wo)
  have ab : (cutS p.at_ r).heap.objs.size ≤ p.at_ := cut_size
  have below : ∀ b ∈ frs p.outer, b < p.at_ := fun b hb => by
    obtain ⟨_, o, ho, _⟩ := J.ok.funs.mem hb
    exact Nat.lt_of_lt_of_le (Heap.lt_size ho) ab
  have bsl : p.base.objs.size ≤ p.at_ := Nat.le_trans J.ok.bsz ab
  refine ⟨⟨⟨J.ok.mod, J.ok.kind, J.ok.glob, J.ok.blt, cut_size, fun x y c e => (nocell x c e).elim, J.ok.has, fun x c _ e => (nocell x c e).elim, J.ok.hd, J.ok.frames, J.ok.stk, fun b hb => (by cases hb), fun b ob e => ?_, ?_, fun b ob _ hb => (by cases hb), fun b hb => (by cases hb), cut_frames wk.env0.funs below, wk.env0.frf⟩,
    rfl, wk.env0.bare, ⟨fun b ob e _ _ _ => (cut_get e).2, fun b ob e _ _ _ => ⟨ob.slots, (cut_get e).2⟩, fun b ob _ n _ => n, fun b ob e _ => ⟨ob, (cut_get e).2⟩, fun b xs e => e, fun b o u e => e, fun b ps e => ⟨#[], by rw [show H' b = _ from e, Array.append_empty]⟩⟩, ?_, fun x c e => (nocell x c e).elim, wh, fun x c e => (nocell x c e).elim, fun q hq => ?_, wk.env0.hok, J.len⟩,
    hle, List.prefix_refl _, TP.refl _, (I.er.mono hp ht).fr f, hr, hst s s' _ _ _ _ I.st wk.kept.r hp ht, I.own, Nat.le_trans I.top wk.kept.size⟩
  · obtain ⟨e1, e2⟩ := wk.env0.bs b ob e
    exact ⟨by rw [show (cutS p.at_ s').heap = cut p.at_ s'.heap from rfl, cut_lt (Nat.lt_of_lt_of_le (Heap.lt_size e) bsl)]; exact e1, e2⟩
  · show p.base.objs.size ≤ (cut p.at_ s'.heap).objs.size
    rw [cut_size_eq hle]; exact bsl
  · obtain ⟨m, ⟨o', es, ep, ho', rest⟩, hl⟩ := J.loc
    have ho'' : s.heap.get? p.at_ = some o' := ho'
    rw [ho] at ho''
    cases ho''
    refine ⟨m, ⟨o, es, ep, wo, rest⟩, fun i x v e1 e2 e3 => ?_⟩
    obtain ⟨u, rv, lk⟩ := hl i x v e1 e2 e3
    refine ⟨u, rv, ?_⟩
    rcases lk with lk | ⟨_, c, e, _⟩
    · exact .inl lk
    · exact (nocell x c e).elim
  · obtain ⟨a, b⟩ := wk.pins q (List.mem_cons_of_mem _ hq)
    obtain ⟨_, _, c, d, e⟩ := J.pin q hq
    exact ⟨a, b, c, d, e⟩
end Tw
end
section
set_option Elab.async false
set_option linter.all false
set_option maxRecDepth 100000
set_option maxHeartbeats 4000000
namespace Tw
open PySem PySem.Spec L2 GenW GenZ PyProof.Rows
end Tw
end
section
set_option Elab.async false
set_option linter.all false
set_option maxRecDepth 100000
set_option maxHeartbeats 4000000
namespace Tw
open PySem PySem.Spec L2 GenW GenZ PyProof.Rows
open PyProof.Rows (envOfC)
def GoesZ (M : Model) (A : Around) (Φ : End → Shared → Prop) (gs : GenState) (s : Shared) : Prop := match gs with
  | .fresh c => Sg M A Φ c (M.den c) [] s
  | .suspended k _ c _ fs _ => Sg M A Φ c (k (.send .none)) fs s
  | _ => False
/-- its end, or an item -/
def Calm (e : End) : Prop := (e = .ret (.ok (.ret .none)) ∨ e = .ret (.ok .next)) ∨ ∃ v l kk c ps fs, e = .susp v false l kk c ps fs ∧ e.quiet = true
theorem Calm.quiet {e : End} (h : Calm e) : e.quiet = true := by
  rcases h with (h | h) | ⟨_, _, _, _, _, _, _, h⟩
  · rw [h]; rfl
  · rw [h]; rfl
  · exact h
theorem resumeZ {α : Type} {M : Model} {A : Around} {Φ : End → Shared → Prop} {E : Value → Shared → Prop} {s : Shared} {gi : Nat} {gs : GenState} {l : List Value} {k : GenResult → Sem α} {Q : α → Shared → Prop} (hg : s.gens[gi]? = some gs)
    (hgo : GoesZ M A Φ gs (s.setGen gi .running)) (hΦ : ∀ e s1, Φ e s1 → Calm e) (h : ∀ e s1, Φ e s1 → s.gens.size ≤ s1.gens.size → wpAny M A (k e.result) Q E (s1.setGen gi e.genState)) :
    wpAny M A (.resume gi (.send .none) l k) Q E s := by
  intro Γ p hΓ
  rw [Sem.wp_resume]
  cases gs with
  | fresh c =>
    obtain ⟨e₁, s₁, hr, he⟩ := hgo (Γ.wake c p) p rfl (hΓ.wake c p)
    refine ⟨_, _, by unfold Wakes; rw [hg]; exact ⟨e₁, s₁, hr, (hΦ _ _ he).quiet, rfl, rfl⟩, h e₁ s₁ he ?_ Γ p hΓ⟩
    have := runs_gsz hr
    rw [setGen_size] at this
    exact this
  | suspended k₀ l₀ c₀ p₀ fs₀ cl =>
    obtain ⟨e₁, s₁, hr, he⟩ := hgo (Γ.wake c₀ p) p₀ rfl (hΓ.wake c₀ p)
    refine ⟨_, _, by unfold Wakes; rw [hg]; exact ⟨e₁, s₁, hr, (hΦ _ _ he).quiet, rfl, rfl⟩, h e₁ s₁ he ?_ Γ p hΓ⟩
    have := runs_gsz hr
    rw [setGen_size] at this
    exact this
  | running => exact hgo.elim
  | finished => exact hgo.elim
section
variable {P : Program} {w : World} {A : Around} {E : Value → Shared → Prop} {s : Shared}
theorem next_genZ {a : Addr} {gi : Nat} {gs : GenState} {Φ : End → Shared → Prop} {Q : Option Value → Shared → Prop} (hh : A.handled = none)
    (hl : s.heap.NoLimit) (hroom : A.depth < recursionLimit) (hg : s.heap.IsGen a gi) (hgs : s.gens[gi]? = some gs)
    (hgo : GoesZ (model P w) A.in1 Φ gs (s.setGen gi .running)) (hΦ : ∀ e s1, Φ e s1 → Calm e)
    (hY : ∀ v l kk c ps fs s1, Φ (.susp v false l kk c ps fs) s1 → (End.susp v false l kk c ps fs).quiet = true → s.gens.size ≤ s1.gens.size → Q (some v) (s1.setGen gi (End.susp v false l kk c ps fs).genState))
    (hD : ∀ e s1, (e = .ret (.ok (.ret .none)) ∨ e = .ret (.ok .next)) → Φ e s1 → s.gens.size ≤ s1.gens.size → ∀ h', (∀ b o, s1.heap.get? b = some o → h'.get? b = some o) → Q none { s1.setGen gi .finished with heap := h' }) :
    wpAny (model P w) A (pyNext (.ref a)) Q E s := by
  unfold pyNext
  refine wpAny_bind (wpAny_attempt (wpAny_callSpecial?_slot (name := Str.ofString "__next__") hg.typeIs slot_gen_next
    (wpAny_call_entry slot_gen_next hg.typeIs entry_gen_next ?_ (args_gen_next _))))
  show wpAny _ A.in1 (Builtin.Generator.genWake (.ref a) (.send .none)) _ _ s
  unfold Builtin.Generator.genWake
  refine wpAny_bind (wpAny_holding (wpAny_genNumber hg (wpAny_bind (wpAny_genState hgs ?_))))
  cases gs with
  | running => exact hgo.elim
  | finished => exact hgo.elim
  | _ =>
    refine wpAny_bind (wpAny_roomToWake hl hroom ?_)
    show wpAny _ A.in1 (.resume gi (.send .none) [] _) _ _ s
    refine resumeZ hgs hgo hΦ fun e s₁ he hsz => ?_
    rcases hΦ e s₁ he with hr | ⟨v, l, kk, c, ps, fs, rfl, hq⟩
    · have hres : e.result = .returned .none := by
        rcases hr with hr | hr <;> rw [hr] <;> rfl
      have hst : e.genState = .finished := by
        rcases hr with hr | hr <;> rw [hr] <;> rfl
      first | rw [hres, hst] | simp only [hres, hst]
      show wpAny _ A.in1 (newExc (.type "StopIteration") [] >>= _) _ _ _
      refine wpAny_bind ?_
      simp only [newExc, newTuple]
      refine wpAny_bind (wpAny_newObj_type ?_ (by size_fits))
      refine wpAny_bind (m := firstArgMember _ _) (wpAny_of_eq (a := Value.none) (by first | rfl | (simp only [firstArgMember]; rfl)) ?_)
      refine wpAny_newObj_type ?_ (by size_fits)
      simp only [raiseNew]
      refine wpAny_bind (wpAny_bind (wpAny_handled ?_))
      first | rw [show A.in1.handled = none from hh] | rw [hh]
      refine wpAny_throw ?_
      refine wpAny_bind (wpAny_isInstance (T := "StopIteration") (b := true) ⟨_, Heap.get?_push_size _ rfl, rfl⟩ isSubtype_stop ?_)
      exact wpAny_pure (hD e s₁ hr he hsz _ fun b o hb => Heap.get?_push_of_some _ (Heap.get?_push_of_some _ hb))
    · exact wpAny_pure ⟨v, rfl, wpAny_pure (hY v l kk c ps fs s₁ he hq hsz)⟩
end
/-- it sleeps, and this is how it goes on -/
structure Aw (p : GP) (g : Gx) (pl : List (Addr × Obj)) (gs : GenState) (kt : List O → Cg) (ρ : List Addr) (H : Hp) (sy : Shared) : Prop where
  go : ∀ f L' ρ' H' s', ρ <+: ρ' → TP H H' → HR (g.fr f) ρ' L' H' → Wake p pl sy s' H' → kt L' ≠ .bad → GoesZ (model p.P p.w) p.A (PhiG p (g.fr f) (kt L') ρ' H' s') gs s'
theorem phiG_calm {p : GP} {g : Gx} {γ : Cg} {ρ : List Addr} {H : Hp} {r s : Shared} {e : End} (h : PhiG p g γ ρ H r e s) : Calm e := by
  cases γ with
  | bad => exact h.elim
  | done L => exact .inl h.1
  | yld d L k =>
    obtain ⟨v, l, kk, c, ps, fs, _, _, _, _, rfl, hq, _, _⟩ := h
    exact .inr ⟨v, l, kk, c, ps, fs, rfl, hq⟩
/-- who walks it, and the records that sleep with it -/
structure PlOk (X : Cx) (p : GP) (pins pl : List (Addr × Obj)) (a : Addr) : Prop where
  eP : X.prog = p.P
  ew : X.w = p.w
  eK : X.K = p.K
  em : X.mg = p.mg
  eb : X.base = p.base
  es : X.stack = p.outer
  own : ∃ o, (p.at_, o) ∈ pl
  ge : ∀ q ∈ pl, p.at_ ≤ q.1
  pn : ∀ q ∈ p.pn, q ∈ pl
  go : ∃ go nm qn, (a, go) ∈ p.pn ∧ go.cls = .type "generator" ∧ go.data = .fields #[.int p.gi 0, nm, qn] ∧ go.slots = #[]
  lt : ∀ q ∈ X.pn ++ pins, q.1 < p.at_
  s0 : X.s_0.heap.objs.size ≤ p.at_
  loc : X.env.locals < p.at_
  cel : ∀ x c, X.env.cells.lookup x = some c → c < p.at_
structure Slp (X : Cx) (p : GP) (g : Gx) (pins pl : List (Addr × Obj)) (a : Addr) (gs : GenState) (kt : List O → Cg) (σ : L2.St) (H : Hp) (ρ : List Addr) (L : List O) (s : Shared) : Prop where
  inv : Inv X (pins ++ pl) σ H s
  hr : HR g ρ L H
  gens : s.gens[p.gi]? = some gs
  clean : ∀ k l c ps fs cl, gs = .suspended k l c ps fs cl → splitAtGen fs = none
  aw : ∃ ρy Hy sy, Aw p g pl gs kt ρy Hy sy ∧ ρy <+: ρ ∧ TP Hy H ∧ KeptX p.gi sy s
  okp : PlOk X p pins pl a
section
variable {X : Cx} {p : GP} {g : Gx} {pins pl : List (Addr × Obj)} {a : Addr} {gs : GenState} {kt : List O → Cg} {σ : L2.St} {H : Hp} {ρ : List Addr} {L : List O} {s : Shared}
/-- behind its run -/
theorem Slp.ran (S : Slp X p g pins pl a gs kt σ H ρ L s) {H' : Hp} {s1 : Shared} (t : Stp p H (s.setGen p.gi .running) H' s1) : Inv X pins σ H' s1 := by
  have I : Inv X pins σ H s := S.inv.unpinned
  have O := S.okp
  have un := t.un
  rw [← O.es] at un
  let ch := (List.range s.heap.objs.size).filter fun b => decide (p.at_ ≤ b)
  have hlt : ∀ b o, b ∉ ch → s.heap.get? b = some o → b < p.at_ := fun b o hb e => by
    by_cases q : p.at_ ≤ b
    · exact (hb (List.mem_filter.mpr ⟨List.mem_range.mpr (Heap.lt_size e), decide_eq_true q⟩)).elim
    · exact Nat.lt_of_not_le q
  have hcut : ∀ b o, b ∉ ch → s.heap.get? b = some o → (cut p.at_ (s.setGen p.gi .running).heap).get? b = some o := fun b o hb e => (cut_lt (hlt b o hb e)).trans e
  refine I.call' (ch := ch) t.os ⟨fun b o e n hf hc => ?_, fun b o e n hf hc => ?_, fun b o e n hc => ?_, fun b o e hc => ?_, un.tups, un.frzs, un.tbls⟩ (by rw [O.eP, O.ew]; exact t.hok) t.bare fun b hb => ?_
  · exact un.keep b o (hcut b o hc e) n hf (by simp)
  · exact un.slot b o (hcut b o hc e) n hf (by simp)
  · exact un.free b o (hcut b o hc e) n (by simp)
  · exact un.there b o (hcut b o hc e) (by simp)
  · have hge : p.at_ ≤ b := of_decide_eq_true (List.mem_filter.mp hb).2
    refine ⟨.inr (Nat.le_trans O.s0 hge), Nat.ne_of_gt (Nat.lt_of_lt_of_le O.loc hge), fun x c e => Nat.ne_of_lt (Nat.lt_of_lt_of_le (O.cel x c e) hge), fun q hq => Nat.ne_of_lt (Nat.lt_of_lt_of_le (O.lt q hq) hge)⟩
/-- its records stand again -/
theorem pin_again {pl' : List (Addr × Obj)} (I : Inv X pins σ H s) (O : PlOk X p pins pl a) (h : PinsAt p pl' s H) : Inv X (pins ++ pl') σ H s :=
  I.pins_of fun q hq => by
    rcases List.mem_append.mp hq with hq | hq
    · exact I.pin q (List.mem_append_right _ hq)
    · obtain ⟨h1, h2, h3, h4⟩ := h.all q hq
      refine ⟨h2, h3, Nat.ne_of_gt (Nat.lt_of_lt_of_le O.loc h1), fun hf => ?_, h4⟩
      obtain ⟨_, o, ho, _⟩ := I.ok.funs.mem hf
      exact absurd (Nat.lt_of_lt_of_le (Heap.lt_size ho) (Nat.le_trans O.s0 h1)) (Nat.lt_irrefl _)
theorem PlOk.at_pl {pl' : List (Addr × Obj)} (O : PlOk X p pins pl a) {s : Shared} {H : Hp} (h : PinsAt p pl' s H) : PlOk X p pins pl' a :=
  ⟨O.eP, O.ew, O.eK, O.em, O.eb, O.es, h.own, fun q hq => (h.all q hq).1, h.pn, O.go, O.lt, O.s0, O.loc, O.cel⟩
theorem Slp.isGen (S : Slp X p g pins pl a gs kt σ H ρ L s) : s.heap.IsGen a p.gi := by
  obtain ⟨go, nm, qn, hm, hc, hd, hs⟩ := S.okp.go
  exact ⟨go, nm, qn, (S.inv.pin (a, go) (List.mem_append_right _ (List.mem_append_right _ (S.okp.pn _ hm)))).1, hc, hd, hs⟩
/-- THE NEXT ITEM -/
theorem Slp.next (S : Slp X p g pins pl a gs kt σ H ρ L s) (hA : p.A = X.A.in1) (hh : X.A.handled = none) (hroom : X.A.depth < recursionLimit) (hfr : X.A.frames = some X.stack) (hne : kt L ≠ .bad) {E : Value → Shared → Prop} :
    wpAny (model X.prog X.w) X.A (pyNext (.ref a)) (fun r s' => s.gens.size ≤ s'.gens.size ∧ match kt L with
      | .bad => False
      | .done L' => r = none ∧ ∃ ρ' H', Inv X pins σ H' s' ∧ ρ <+: ρ' ∧ TP H H' ∧ HR g ρ' L' H'
      | .yld d L' k' => ∃ v x pl' gs' ρ' H', r = some v ∧ RelV x v ∧ VR g ρ' H' d x ∧ ρ <+: ρ' ∧ TP H H' ∧ nap gs' = true ∧ Slp X p g pins pl' a gs' k' σ H' ρ' L' s') E s := by
  obtain ⟨ρy, Hy, sy, aw, hp, ht, hk⟩ := S.aw
  have O := S.okp
  have hgl : p.gi < s.gens.size := (Array.getElem?_eq_some_iff.mp S.gens).1
  have wk : Wake p pl sy (s.setGen p.gi .running) H := by
    refine ⟨⟨?_, ?_, ?_, ?_, ?_, ?_, ?_, ?_⟩, fun q hq => ?_, ⟨?_, fun i x hi e q => ?_⟩, by rw [setGen_size]; exact hgl⟩
    · rw [hA]; show X.A.frames = _; rw [hfr, O.es]
    · rw [← O.eK, ← O.em, ← O.eb]; exact S.inv.env0.mod
    · rw [← O.eb]; exact S.inv.env0.bs
    · rw [← O.eb]; exact S.inv.env0.bsz
    · rw [← O.eb, ← O.es]; exact S.inv.env0.funs
    · rw [← O.es]; exact S.inv.env0.frf
    · rw [← O.eP, ← O.ew]; exact S.inv.env0.hok
    · exact allBare_setGen S.inv.bare rfl
    · obtain ⟨h1, h2, _⟩ := S.inv.pin q (List.mem_append_right _ (List.mem_append_right _ hq))
      exact ⟨h1, h2⟩
    · rw [setGen_size]; exact hk.size
    · rw [get_setGen_ne (Nat.ne_of_gt hi)]; exact hk.at_ i x hi e q
  have goes := aw.go g.fx L ρ H (s.setGen p.gi .running) hp ht S.hr wk hne
  rw [← O.eP, ← O.ew, hA] at goes
  refine next_genZ hh S.inv.nolimit hroom S.isGen S.gens goes (fun e s1 h => phiG_calm h) (fun v l kk c ps fs s1 h hq hsz => ?_) fun e s1 he h hsz h' hkp => ?_
  · refine ⟨by rw [setGen_size]; exact hsz, ?_⟩
    cases e : kt L with
    | bad => exact (hne e).elim
    | done L' => rw [e] at h; rcases h.1 with z | z <;> cases z
    | yld d L' k' =>
      rw [e] at h
      obtain ⟨v', l', kk', c', ps', fs', ρ', H', x, pl', e1, hq', hcl, st, hp', ht', hr', vr, rv, pa, go⟩ := h
      cases e1
      have I1 : Inv X pins σ H' s1 := S.ran st
      have hgl1 : p.gi < s1.gens.size := Nat.lt_of_lt_of_le hgl hsz
      have I2 : Inv X pins σ H' (s1.setGen p.gi (End.susp v false l kk c ps fs).genState) := inv_gens I1 (allBare_setGen I1.bare (End.bare_of_quiet hq))
      have pa2 : PinsAt p pl' (s1.setGen p.gi (End.susp v false l kk c ps fs).genState) H' := ⟨pa.own, pa.pn, pa.all⟩
      refine ⟨v, x, pl', _, ρ', H', rfl, rv, vr, hp', ht', nap_of hcl, pin_again I2 O pa2, hr', setGen_at hgl1, fun _ _ _ _ _ _ z => (by cases z; exact hcl), ⟨ρ', H', s1, ⟨fun f L'' ρ'' H'' s'' q1 q2 q3 q4 q5 => go f L'' ρ'' H'' s'' q1 q2 q3 q4 q5⟩, List.prefix_refl _, TP.refl _, ⟨by rw [setGen_size]; exact Nat.le_refl _, fun i x hi e q => by rw [get_setGen_ne (Nat.ne_of_gt hi)]; exact e⟩⟩, O.at_pl pa2⟩
  · refine ⟨?_, ?_⟩
    · show _ ≤ (s1.setGen p.gi .finished).gens.size
      rw [setGen_size]; exact hsz
    cases e : kt L with
    | bad => exact (hne e).elim
    | yld d L' k' => rw [e] at h; obtain ⟨_, _, _, _, _, _, _, _, _, _, z, _⟩ := h; rcases he with he | he <;> (rw [he] at z; cases z)
    | done L' =>
      rw [e] at h
      obtain ⟨_, ρ', H', st, hp', ht', hr'⟩ := h
      refine ⟨rfl, ρ', H', ?_, hp', ht', hr'⟩
      have I1 : Inv X pins σ H' s1 := S.ran st
      exact (inv_gens I1 (allBare_setGen (s := s1) (x := .finished) (g := p.gi) I1.bare rfl)).kept hkp
end
end Tw
end
section
set_option Elab.async false
set_option linter.all false
set_option maxRecDepth 100000
set_option maxHeartbeats 4000000
namespace Tw
open PySem PySem.Spec L2 GenW GenZ PyProof.Rows
open PyProof.Rows (envOfC)
variable {g : Gx} {ρ ρ' : List Addr} {H H' : Hp} {X : Cx} {W : WX} {L : List O} {cm : Nat → Addr} {fx : Hp}
theorem PlOk.gen {p : GP} {pins pl : List (Addr × Obj)} {a : Addr} {gs : GenState} {kt : List O → Cg} {σ : L2.St} {s : Shared} (S : Slp X p g pins pl a gs kt σ H ρ L s) : ∃ o n vs, s.heap.get? a = some o ∧ o.cls = .type n ∧ o.data = .fields vs ∧ ["enumerate", "zip", "dict_itemiterator", "dict_reverseitemiterator", "odict_iterator", "itertools.zip_longest", "itertools.pairwise"].contains n = false := by
  obtain ⟨go, nm, qn, hm, hc, hd, hs⟩ := S.okp.go
  exact ⟨go, _, _, (S.inv.pin (a, go) (List.mem_append_right _ (List.mem_append_right _ (S.okp.pn _ hm)))).1, hc, hd, by decide⟩
theorem _root_.L2.Inv.frz {pins : List (Addr × Obj)} {σ : L2.St} {s : Shared} (I : Inv X pins σ H s) : X.A.frames = some X.stack := I.ok.frames
end Tw
end
section
set_option Elab.async false
set_option linter.all false
set_option maxRecDepth 100000
set_option maxHeartbeats 4000000
namespace Tw
open PySem PySem.Spec L2 GenW GenZ PyProof.Rows
open PyProof.Rows (envOfC)
end Tw
end
section
set_option Elab.async false
set_option linter.all false
set_option maxRecDepth 100000
set_option maxHeartbeats 4000000
namespace Tw
open PySem PySem.Spec L2 GenW GenZ PyProof.Rows
open PyProof.Rows (envOfC)
end Tw
end
section
set_option Elab.async false
set_option linter.all false
set_option maxRecDepth 100000
set_option maxHeartbeats 4000000
namespace Tw
open PySem PySem.Spec L2 GenW GenZ PyProof.Rows
open PyProof.Rows (envOfC)
end Tw
end
section
set_option Elab.async false
set_option linter.all false
set_option maxRecDepth 100000
set_option maxHeartbeats 4000000
namespace Tw
open PySem PySem.Spec L2 GenW GenZ PyProof.Rows
open PyProof.Rows (envOfC)
end Tw
end
section
set_option Elab.async false
set_option linter.all false
set_option maxRecDepth 100000
set_option maxHeartbeats 4000000
namespace Tw
open PySem PySem.Spec PyProof.Rows L2
end Tw
end
section
set_option Elab.async false
set_option linter.all false
set_option maxRecDepth 100000
set_option maxHeartbeats 4000000
namespace Tw
open PySem PySem.Spec L2 GenW GenZ PyProof.Rows
open PyProof.Rows (envOfC)
def cutH (C : Addr) (H : Hp) : Hp := fun b => if b = C then none else H b
theorem cutH_same {C : Addr} {H : Hp} : cutH C H C = none := if_pos rfl
theorem cutH_ne {C b : Addr} {H : Hp} (h : b ≠ C) : cutH C H b = H b := if_neg h
theorem objOk_cut {P : Program} {w : World} {H H' : Hp} {h : Heap} {a : Addr} (k : ∀ b u, H b = some u → (∀ φ, u ≠ .ext φ) → H' b = some u) : ∀ (o : HO), ObjOk P w H h a o → ObjOk P w H' h a o
  | .lst xs, x => x
  | .tup xs, x => x
  | .dK _, x => x
  | .dT kvs, x => by
    obtain ⟨a1, a2, xs, p, r⟩ := x
    exact ⟨a1, a2, xs, Paired.mapP p (fun p q z => ⟨z.1, k _ _ z.2.1 nofun, z.2.2⟩), r⟩
  | .set _ _, x => x
  | .ins C dx fs, x => ⟨k _ _ x.1 nofun, x.2⟩
  | .own _, x => x
  | .xd _, x => x
  | .met _ _, x => x
  | .rng _ _, x => x
  | .frz o u, x => ⟨x.1, objOk_cut k u x.2⟩
  | .tbl _, x => x
  | .ext _, x => x
section
variable {P : Program} {w : World} {H : Hp} {h : Heap} {C : Addr} {φ : Heap → Prop}
theorem cut_keeps (hC : H C = some (.ext φ)) {b : Addr} {u : HO} (q : H b = some u) (n : ∀ φ, u ≠ .ext φ) : cutH C H b = some u := by
  rw [cutH_ne (fun z => by subst z; rw [hC] at q; cases q; exact n _ rfl)]
  exact q
theorem hok_cut (hk : HOk P w H h) (hC : H C = some (.ext φ)) : HOk P w (cutH C H) h := fun a o e => by
  by_cases z : a = C
  · subst z; rw [cutH_same] at e; cases e
  · rw [cutH_ne z] at e
    exact objOk_cut (fun b u q n => cut_keeps hC q n) o (hk a o e)
theorem tp_cut (hC : H C = some (.ext φ)) : TP H (cutH C H) := ⟨fun a xs e => cut_keeps hC e nofun, fun a o u e => cut_keeps hC e nofun⟩
theorem hr_cut {g : Gx} {f : Hp} {ρ : List Addr} {L : List O} {u : HO} (h : HR (g.fr (upd f C u)) ρ L H) (hC : H C = some (.ext φ)) (hf : f C = none) : HR (g.fr f) ρ L (cutH C H) := by
  have ne : ∀ {n : Nat} {a : Addr}, ρ[n]? = some a → a ≠ C := fun {n a} ea z => by
    have q : upd f C u a = none := h.nfx n a ea
    rw [z, upd_same] at q
    cases q
  refine ⟨h.len, h.nd, fun n o a e ea => ?_, fun n a ea => ?_, fun a v e => ?_⟩
  · exact ((h.ob n o a e ea).fr f).mono (List.prefix_refl _) (tp_cut hC) (cutH_ne (ne ea))
  · have q : upd f C u a = none := h.nfx n a ea
    rw [upd_ne (ne ea)] at q
    exact q
  · have z : a ≠ C := fun z => by
      subst z
      have e : f a = some v := e
      rw [hf] at e; cases e
    rw [cutH_ne z]
    exact h.fxs a v (by show upd f C u a = some v; rw [upd_ne z]; exact e)
end
structure Zst (X : Cx) (p : GP) (g : Gx) (pins : List (Addr × Obj)) (s3 : Shared) (H3 : Hp) (scope : Scope) (ce : Env) (fp : List Addr) (D a : Addr) : Prop where
  eL : ce.locals = s3.heap.objs.size
  nc : ∀ x c, ce.cells.lookup x = some c → False
  fp : ∀ b, p.at_ ≤ b → b < s3.heap.objs.size → b ≠ D → b ∈ fp
  lt : p.at_ < s3.heap.objs.size
  go : ∃ go nm qn, (a, go) ∈ p.pn ∧ go.cls = .type "generator" ∧ go.data = .fields #[.int p.gi 0, nm, qn] ∧ go.slots = #[]
  eP : X.prog = p.P
  ew : X.w = p.w
  eK : X.K = p.K
  em : X.mg = p.mg
  eb : X.base = p.base
  es : X.stack = p.outer
  frl : ∀ b ∈ frs X.stack, b < p.at_
  Dl : D < s3.heap.objs.size
structure Zin (X : Cx) (p : GP) (g : Gx) (s3 : Shared) (H3 : Hp) (scope : Scope) (ce : Env) (fp : List Addr) (pl : List (Addr × Obj)) (gs : GenState) (kt : List O → Cg) (f : Hp) (σ : L2.St) (H : Hp) (ρ : List Addr) (L : List O) (s : Shared) : Prop where
  inv : Inv (X.blk s3 H3 scope ce fp) [] σ H s
  pin : ∀ q ∈ pl, p.at_ ≤ q.1 ∧ s.heap.get? q.1 = some q.2 ∧ H q.1 = none ∧ q.1 ≠ ce.locals ∧ ∀ v, q.2.data ≠ .cell v
  own : ∃ o, (p.at_, o) ∈ pl
  pn : ∀ q ∈ p.pn, q ∈ pl
  hr : HR (g.fr f) ρ L H
  gens : s.gens[p.gi]? = some gs
  clean : ∀ k l c ps fs cl, gs = .suspended k l c ps fs cl → splitAtGen fs = none
  aw : ∃ ρy Hy sy, Aw p g pl gs kt ρy Hy sy ∧ ρy <+: ρ ∧ TP Hy H ∧ KeptX p.gi sy s
section
variable {X : Cx} {p : GP} {g : Gx} {pins : List (Addr × Obj)} {s3 : Shared} {H3 : Hp} {scope : Scope} {ce : Env} {fp : List Addr} {D a : Addr} {pl : List (Addr × Obj)} {gs : GenState} {kt : List O → Cg} {f : Hp} {σ : L2.St} {H : Hp} {ρ : List Addr} {L : List O} {s : Shared}
theorem Zin.next (Z : Zst X p g pins s3 H3 scope ce fp D a) (S : Zin X p g s3 H3 scope ce fp pl gs kt f σ H ρ L s) {φD : Heap → Prop} (hfD : f D = some (.ext φD)) (hA : p.A = X.A.in1) (hh : X.A.handled = none) (hroom : X.A.depth < recursionLimit) (hne : kt L ≠ .bad) {E : Value → Shared → Prop} :
    wpAny (model X.prog X.w) X.A (pyNext (.ref a)) (fun r s' => s.gens.size ≤ s'.gens.size ∧ match kt L with
      | .bad => False
      | .done L' => r = none ∧ ∃ ρ' H', Inv (X.blk s3 H3 scope ce fp) [] σ H' s' ∧ ρ <+: ρ' ∧ TP H H' ∧ HR (g.fr f) ρ' L' H'
      | .yld d L' k' => ∃ v x pl' gs' ρ' H', r = some v ∧ RelV x v ∧ VR (g.fr f) ρ' H' d x ∧ ρ <+: ρ' ∧ TP H H' ∧ nap gs' = true ∧ Zin X p g s3 H3 scope ce fp pl' gs' k' f σ H' ρ' L' s') E s := by
  obtain ⟨ρy, Hy, sy, aw, hp, ht, hk⟩ := S.aw
  have hgl : p.gi < s.gens.size := (Array.getElem?_eq_some_iff.mp S.gens).1
  have I := S.inv
  -- the block's own record
  have hCn : H ce.locals = none := I.free
  obtain ⟨mC, hns, _⟩ := id I.loc
  obtain ⟨oC, es, ep, hoC, hdC, _⟩ := id hns
  have hoC : s.heap.get? ce.locals = some oC := hoC
  let C := ce.locals
  have eC : ce.locals = C := rfl
  let uC : HO := .ext fun h => h.get? C = some oC
  have hHC : upd H C uC C = some uC := upd_same
  have okC : HOk X.prog X.w (upd H C uC) s.heap := I.hok.laidN (fun b u q => q) hCn ⟨hoC, ⟨oC, hoC⟩, fun h1 h2 q k => k _ q⟩
  have tC : TP H (upd H C uC) := TP.new hCn
  have hrC : HR (g.fr (upd f C uC)) ρ L (upd H C uC) := S.hr.add hCn uC
  have fC : f C = none := S.hr.free hCn
  have frC : ∀ b ∈ frs X.stack, b ≠ C := fun b hb z => by
    have h1 := Z.frl b hb
    have h2 := Z.lt
    rw [← Z.eL] at h2
    subst z
    exact absurd (Nat.lt_trans h1 h2) (Nat.lt_irrefl _)
  have e0 := I.env0
  have wk : Wake p pl sy (s.setGen p.gi .running) (upd H C uC) := by
    refine ⟨⟨?_, ?_, ?_, ?_, ?_, ?_, ?_, ?_⟩, fun q hq => ?_, ⟨?_, fun i x hi e q => ?_⟩, by rw [setGen_size]; exact hgl⟩
    · rw [hA]; show X.A.frames = _; rw [← Z.es]; exact I.ok.frames
    · rw [← Z.eK, ← Z.em, ← Z.eb]; exact e0.mod
    · rw [← Z.eb]
      intro b ob e
      obtain ⟨q1, q2⟩ := e0.bs b ob e
      refine ⟨q1, ?_⟩
      have hb : b ≠ C := fun z => by
        have h1 := Heap.lt_size (show X.base.get? b = some ob from e)
        have h2 : X.base.objs.size ≤ s3.heap.objs.size := I.ok.bsz
        rw [← Z.eL] at h2
        subst z
        exact absurd (Nat.lt_of_lt_of_le h1 h2) (Nat.lt_irrefl _)
      rw [upd_ne hb]; exact q2
    · rw [← Z.eb]; exact e0.bsz
    · rw [← Z.eb, ← Z.es]; exact e0.funs
    · rw [← Z.es]
      intro b hb
      rw [upd_ne (frC b hb)]
      exact e0.frf b hb
    · rw [← Z.eP, ← Z.ew]; exact okC
    · exact allBare_setGen I.bare rfl
    · obtain ⟨_, h1, h2, h3, _⟩ := S.pin q hq
      exact ⟨h1, by rw [upd_ne h3]; exact h2⟩
    · rw [setGen_size]; exact hk.size
    · rw [get_setGen_ne (Nat.ne_of_gt hi)]; exact hk.at_ i x hi e q
  have goes := aw.go (upd f C uC) L ρ (upd H C uC) (s.setGen p.gi .running) hp (ht.trans tC) hrC wk hne
  rw [← Z.eP, ← Z.ew, hA] at goes
  have isGen : s.heap.IsGen a p.gi := by
    obtain ⟨go, nm, qn, hm, hc, hd, hs⟩ := Z.go
    exact ⟨go, nm, qn, (S.pin (a, go) (S.pn _ hm)).2.1, hc, hd, hs⟩
  -- behind the run
  have ran : ∀ {H2 : Hp} {s1 : Shared} {ρ' : List Addr} {L' : List O}, Stp p (upd H C uC) (s.setGen p.gi .running) H2 s1 → HR (g.fr (upd f C uC)) ρ' L' H2 → Inv (X.blk s3 H3 scope ce fp) [] σ (cutH C H2) s1 ∧ H2 C = some uC := fun {H2 s1 ρ' L'} t hr2 => by
    have h2C : H2 C = some uC := hr2.fxs C uC (by show upd f C uC C = some uC; exact upd_same)
    have hok2 : HOk X.prog X.w H2 s1.heap := by rw [Z.eP, Z.ew]; exact t.hok
    have s1C : s1.heap.get? C = some oC := (hok2 C uC h2C).1
    have hDC : D ≠ C := fun z => by
      have h2 := Z.Dl
      rw [← Z.eL] at h2
      rw [z] at h2
      exact absurd h2 (Nat.lt_irrefl _)
    have h2D : H2 D = some (.ext φD) := hr2.fxs D (.ext φD) (by show upd f C uC D = some (.ext φD); rw [upd_ne hDC]; exact hfD)
    have hHD : H D = some (.ext φD) := S.hr.fxs D (.ext φD) hfD
    have un := t.un
    rw [← Z.es] at un
    let ch := (List.range s.heap.objs.size).filter fun b => decide (p.at_ ≤ b) && (decide (b ≠ C) && decide (b ≠ D))
    have out : ∀ b o, b ∉ ch → s.heap.get? b = some o → b < p.at_ ∨ b = C ∨ b = D := fun b o hb e => by
      by_cases q : p.at_ ≤ b
      · by_cases q1 : b = C
        · exact .inr (.inl q1)
        · by_cases q2 : b = D
          · exact .inr (.inr q2)
          · exact (hb (List.mem_filter.mpr ⟨List.mem_range.mpr (Heap.lt_size e), by simp [q, q1, q2]⟩)).elim
      · exact .inl (Nat.lt_of_not_le q)
    have hcut : ∀ b o, b < p.at_ → s.heap.get? b = some o → (cut p.at_ (s.setGen p.gi .running).heap).get? b = some o := fun b o hb e => (cut_lt hb).trans e
    have upC : ∀ {b : Addr}, b < p.at_ → b ≠ C := fun {b} hb z => by
      have h2 := Z.lt
      rw [← Z.eL] at h2
      subst z
      exact absurd (Nat.lt_trans hb h2) (Nat.lt_irrefl _)
    refine ⟨I.call' (ch := ch) t.os ⟨fun b o e n hf hc => ?_, fun b o e n hf hc => ?_, fun b o e n hc => ?_, fun b o e hc => ?_, fun b xs e => ?_, fun b o u e => ?_, fun b ps e => ?_⟩ (hok_cut hok2 h2C) t.bare fun b hb => ?_, h2C⟩
    · rcases out b o hc e with q | rfl | rfl
      · exact un.keep b o (hcut b o q e) (by rw [upd_ne (upC q)]; exact n) hf (by simp)
      · rw [hoC] at e; cases e; exact s1C
      · rw [hHD] at n; cases n
    · rcases out b o hc e with q | rfl | rfl
      · exact un.slot b o (hcut b o q e) (by rw [upd_ne (upC q)]; exact n) hf (by simp)
      · exact (frC _ hf rfl).elim
      · rw [hHD] at n; cases n
    · rcases out b o hc e with q | rfl | rfl
      · rw [cutH_ne (upC q)]
        exact un.free b o (hcut b o q e) (by rw [upd_ne (upC q)]; exact n) (by simp)
      · exact cutH_same
      · rw [hHD] at n; cases n
    · rcases out b o hc e with q | rfl | rfl
      · exact un.there b o (hcut b o q e) (by simp)
      · exact ⟨oC, s1C⟩
      · exact (show ObjOk X.prog X.w H2 s1.heap _ (.ext φD) from hok2 _ _ h2D).2.1
    · have hb : b ≠ C := fun z => by rw [z, hCn] at e; cases e
      exact cut_keeps h2C (un.tups b xs (by rw [upd_ne hb]; exact e)) nofun
    · have hb : b ≠ C := fun z => by rw [z, hCn] at e; cases e
      exact cut_keeps h2C (un.frzs b o u (by rw [upd_ne hb]; exact e)) nofun
    · have hb : b ≠ C := fun z => by rw [z, hCn] at e; cases e
      obtain ⟨more, q⟩ := un.tbls b ps (by rw [upd_ne hb]; exact e)
      exact ⟨more, cut_keeps h2C q nofun⟩
    · obtain ⟨_, hb⟩ := List.mem_filter.mp hb
      simp only [Bool.and_eq_true, decide_eq_true_eq] at hb
      obtain ⟨h1, h2, h3⟩ := hb
      refine ⟨?_, h2, fun x c e => (Z.nc x c e).elim, fun q hq => absurd (show q ∈ ([] : List (Addr × Obj)) ++ [] from hq) (by simp)⟩
      by_cases q : b < s3.heap.objs.size
      · exact .inl (Z.fp b h1 q h3)
      · exact .inr (Nat.le_of_not_lt q)
  refine next_genZ hh I.nolimit hroom isGen S.gens goes (fun e s1 h => phiG_calm h) (fun v l kk c ps fs s1 h hq hsz => ?_) fun e s1 he h hsz h' hkp => ?_
  · refine ⟨by rw [setGen_size]; exact hsz, ?_⟩
    cases e : kt L with
    | bad => exact (hne e).elim
    | done L' => rw [e] at h; rcases h.1 with z | z <;> cases z
    | yld d L' k' =>
      rw [e] at h
      obtain ⟨v', l', kk', c', ps', fs', ρ', H2, x, pl', e1, hq', hcl, st, hp', ht', hr', vr, rv, pa, go⟩ := h
      cases e1
      obtain ⟨I1, h2C⟩ := ran st hr'
      have hgl1 : p.gi < s1.gens.size := Nat.lt_of_lt_of_le hgl hsz
      have I2 : Inv (X.blk s3 H3 scope ce fp) [] σ (cutH C H2) (s1.setGen p.gi (End.susp v false l kk c ps fs).genState) := inv_gens I1 (allBare_setGen I1.bare (End.bare_of_quiet hq))
      have t2 := tp_cut h2C
      refine ⟨v, x, pl', _, ρ', cutH C H2, rfl, rv, (VR.fr f vr).mono (List.prefix_refl _) t2, hp', (tC.trans ht').trans t2, nap_of hcl, I2, fun q hq => ?_, pa.own, pa.pn, hr_cut hr' h2C fC, setGen_at hgl1, fun _ _ _ _ _ _ z => (by cases z; exact hcl),
        ⟨ρ', H2, s1, ⟨fun f L'' ρ'' H'' s'' q1 q2 q3 q4 q5 => go f L'' ρ'' H'' s'' q1 q2 q3 q4 q5⟩, List.prefix_refl _, t2, ⟨by rw [setGen_size]; exact Nat.le_refl _, fun i x hi e q => by rw [get_setGen_ne (Nat.ne_of_gt hi)]; exact e⟩⟩⟩
      obtain ⟨k1, k2, k3, k4⟩ := pa.all q hq
      have hqC : q.1 ≠ C := fun z => by rw [z, h2C] at k3; cases k3
      exact ⟨k1, k2, by rw [cutH_ne hqC]; exact k3, hqC, k4⟩
  · refine ⟨?_, ?_⟩
    · show _ ≤ (s1.setGen p.gi .finished).gens.size
      rw [setGen_size]; exact hsz
    cases e : kt L with
    | bad => exact (hne e).elim
    | yld d L' k' => rw [e] at h; obtain ⟨_, _, _, _, _, _, _, _, _, _, z, _⟩ := h; rcases he with he | he <;> (rw [he] at z; cases z)
    | done L' =>
      rw [e] at h
      obtain ⟨_, ρ', H2, st, hp', ht', hr'⟩ := h
      obtain ⟨I1, h2C⟩ := ran st hr'
      refine ⟨rfl, ρ', cutH C H2, ?_, hp', (tC.trans ht').trans (tp_cut h2C), hr_cut hr' h2C fC⟩
      exact (inv_gens I1 (allBare_setGen (s := s1) (x := .finished) (g := p.gi) I1.bare rfl)).kept hkp
end
end Tw
end
section
set_option Elab.async false
set_option linter.all false
set_option maxRecDepth 100000
set_option maxHeartbeats 4000000
namespace Tw
open PySem PySem.Spec L2 GenW GenZ PyProof.Rows
open PyProof.Rows (envOfC)
theorem _root_.L2.Inv.frl {X : Cx} {pins : List (Addr × Obj)} {σ : L2.St} {H : Hp} {s : Shared} (I : Inv X pins σ H s) {n : Nat} (h1 : X.env.locals < n) (h2 : X.s_0.heap.objs.size ≤ n) : ∀ b ∈ frs X.stack, b < n := fun b hb => by
  rcases List.mem_cons.mp (I.stkSub b hb) with z | z
  · rw [z]; exact h1
  · obtain ⟨_, o, ho, _⟩ := I.ok.funs.mem z
    exact Nat.lt_of_lt_of_le (Heap.lt_size ho) h2
end Tw
end
section
set_option Elab.async false
set_option linter.all false
set_option maxRecDepth 100000
set_option maxHeartbeats 4000000
namespace Tw
open PySem PySem.Spec PyProof.Rows L2
end Tw
end
section
set_option Elab.async false
set_option linter.all false
set_option maxRecDepth 100000
set_option maxHeartbeats 4000000
namespace Tw
open PySem PySem.Spec PySem.Calls PySem.W PyProof.Rows L2
end Tw
end
section
set_option Elab.async false
set_option linter.all false
set_option maxRecDepth 100000
set_option maxHeartbeats 4000000
namespace PySem.SeqAt
open PySem.Spec
open AutoSeq1 (wpAny_loadPart')
open MeetsSeq MeetsSeq2 MeetsSeq3 SeqRoads2
end PySem.SeqAt
namespace Tw
open PySem PySem.Spec PyProof.Rows L2
end Tw
end
section
set_option Elab.async false
set_option linter.all false
set_option maxRecDepth 100000
set_option maxHeartbeats 4000000
namespace Tw
open PySem PySem.Spec L2
end Tw
end
section
set_option Elab.async false
set_option linter.all false
set_option maxRecDepth 100000
set_option maxHeartbeats 4000000
namespace Tw
open PySem PySem.Spec L2 RZ
variable {g : Gx} {ρ ρ' : List Addr} {H H' : Hp} {X : Cx} {W : WX} {L : List O} {cm : Nat → Addr} {fx : Hp}
structure Src2 where
  ds : List D
  a1 : Nat × O
  a2 : Nat × O
def Src2.ok (s : Src2) (L : List O) : Bool := decide (L[s.a1.1]? = some s.a1.2) && decide (L[s.a2.1]? = some s.a2.2)
end Tw
end
section
set_option Elab.async false
set_option linter.all false
set_option maxRecDepth 100000
set_option maxHeartbeats 4000000
namespace Tw
open PySem PySem.Spec L2
end Tw
end
section
set_option Elab.async false
set_option linter.all false
set_option maxRecDepth 100000
set_option maxHeartbeats 4000000
namespace PySem
end PySem
end
section
set_option Elab.async false
set_option linter.all false
set_option maxRecDepth 100000
set_option maxHeartbeats 4000000
namespace Tw
open PySem PySem.Spec L2
end Tw
end
section
set_option Elab.async false
set_option linter.all false
set_option maxRecDepth 100000
set_option maxHeartbeats 4000000
namespace Tw
open PySem PySem.Spec L2
variable {g : Gx} {ρ ρ' : List Addr} {H H' : Hp} {X : Cx} {W : WX} {L : List O} {cm : Nat → Addr} {fx : Hp}
/-- C with two fields, called with keywords: C(k2 = .., k1 = ..), C(.., k2 = ..) -/
structure Exc2K (prog : Program) (K : PySem.W.Frag) (C : Addr) (f1 f2 k1 k2 : Str) : Prop where
  ex : ∃ (f : Addr) (params : Arguments) (scope : Scope) (p1 p2 : Str) (q : TwX.Qs) (qa qb r5 r6 r7 r8 : Pos) (ar : Arg), TwX.ExiC prog K C f params (TwX.body2 f1 p1 f2 p2 q qa qb r5 r6 r7 r8) scope ∧ TwX.ExiS scope ["self", p1, p2] ∧ TwX.ExiP scope f (.Name p1 qa) [.Name p2 qb] f1 p1 q ∧
    (∀ (s : Shared) (e : Addr) (u v : Value) qual kV doc pm an cdv ct cc, BindsTo s (PySem.W.ksFn "__init__" qual params (TwX.body2 f1 p1 f2 p2 q qa qb r5 r6 r7 r8) scope .none kV doc pm an cdv ct cc) ⟨[.ref e], [(k2, v), (k1, u)]⟩ [("self", .ref e), (p1, u), (p2, v)]) ∧
    (∀ (s : Shared) (e : Addr) (u v : Value) qual kV doc pm an cdv ct cc, BindsTo s (PySem.W.ksFn "__init__" qual params (TwX.body2 f1 p1 f2 p2 q qa qb r5 r6 r7 r8) scope .none kV doc pm an cdv ct cc) ⟨[.ref e, u], [(k2, v)]⟩ [("self", .ref e), (p1, u), (p2, v)]) ∧
    (params.posonlyargs ++ params.args).head? = some ar ∧ ar.arg = ("self" : Str) ∧ (p1 == ("self" : Str)) = false ∧ (p2 == ("self" : Str)) = false ∧ (p1 == p2) = false ∧ (p1 == ("__debug__" : Str)) = false ∧ (p2 == ("__debug__" : Str)) = false ∧
    (∀ (qual : Str) (L : Addr) (cd : Value) (cc : Addr), starEach [.Name p2 qb] (PySem.W.ksEnv qual scope L f cd cc) = [(false, eval (.Name p2 qb) (PySem.W.ksEnv qual scope L f cd cc))]) ∧
    (∀ (qual : Str) (L : Addr) (cd : Value) (cc : Addr), swapsWith (.Name p2 r7) (some (.Attribute (.Name "self" r5) f2 r6)) r8.line (PySem.W.ksEnv qual scope L f cd cc) = pure false)
  top : (prog.main.scope.names.lookup ("super" : Str)).isSome = false
  no : PySem.W.findIn K (.ref C) f1 = some none
  no2 : PySem.W.findIn K (.ref C) f2 = some none
theorem Exc2K.keep {prog : Program} {K : PySem.W.Frag} {C : Addr} {f1 f2 k1 k2 : Str} (T : Exc2K prog K C f1 f2 k1 k2) : PySem.W.keepIn K (.ref C) = true := by
  obtain ⟨f, params, scope, p1, p2, q, qa, qb, r5, r6, r7, r8, ar, TC, _⟩ := T.ex
  exact TC.oex.kC
end Tw
end
section
set_option Elab.async false
set_option linter.all false
set_option maxRecDepth 100000
set_option maxHeartbeats 4000000
namespace Tw
open PySem PySem.Spec L2
variable {g : Gx} {ρ ρ' : List Addr} {H H' : Hp} {X : Cx} {W : WX} {L : List O} {cm : Nat → Addr} {fx : Hp}
/-- both roads, by what stands there -/
def isNdK (L : List O) (x y : D) : Option (Nat × Bool × List (D × D) × NestedKey) := match x, y with
  | .ref n, .tup ds => match L[n]? with
    | some (.nd lk ks) => match nkD (.tup ds) with
      | some k => if k.depth ≤ 8 then some (n, lk, ks, k) else none
      | none => none
    | _ => none
  | _, _ => none
theorem isNdK_some {x y : D} {n : Nat} {lk : Bool} {ks : List (D × D)} {k : NestedKey} (h : isNdK L x y = some (n, lk, ks, k)) : ∃ ds, x = .ref n ∧ y = .tup ds ∧ L[n]? = some (.nd lk ks) ∧ nkD (.tup ds) = some k ∧ k.depth ≤ 8 := by
  unfold isNdK at h
  split at h
  · split at h
    · rename_i lk' ks' h1
      split at h
      · rename_i k' h2
        split at h
        · rename_i h3
          cases h
          exact ⟨_, rfl, rfl, h1, h2, h3⟩
        · cases h
      · cases h
    · cases h
  · cases h
def oPutN (x y v : D) (L : List O) : Option (List O) := match isNdK L x y with
  | some (n, lk, ks, k) => if lk = false ∧ ks.length < most then some (L.set n (.nd false (ndPut ks y k v))) else none
  | none => oPut x y v L
theorem set_oPutN (hu : X.A.units + 65 < cLine) : PSet X (fun o i v H Q => ∃ ρ L x y z L', HR ⟨X.K, cm, fx, X.w⟩ ρ L H ∧ VR ⟨X.K, cm, fx, X.w⟩ ρ H x o ∧ VR ⟨X.K, cm, fx, X.w⟩ ρ H y i ∧ VR ⟨X.K, cm, fx, X.w⟩ ρ H z v ∧ oPutN x y z L = some L' ∧ ∀ H', TP H H' → HR ⟨X.K, cm, fx, X.w⟩ ρ L' H' → Q H') := by
  intro pins s σ H o i v ov iv u Q I ro ri rv q
  obtain ⟨ρ, L, x, y, z, L', hh, rx, ry, rz, e, k⟩ := q
  unfold oPutN at e
  cases hk : isNdK L x y with
  | none =>
    rw [hk] at e
    exact set_oPut (cm := cm) (fx := fx) hu pins s σ H o i v ov iv u Q I ro ri rv ⟨ρ, L, x, y, z, L', hh, rx, ry, rz, e, k⟩
  | some w =>
    obtain ⟨n, lk, ks, kk⟩ := w
    rw [hk] at e
    simp only at e
    obtain ⟨ds, rfl, rfl, h1, h2, h3⟩ := isNdK_some hk
    split at e
    · rename_i hz
      obtain ⟨rfl, hz⟩ := hz
      cases e
      cases rx with
      | @ref _ A ea =>
        cases ry with
        | @tup _ B _ s1 a1 =>
          cases ro
          cases ri
          obtain ⟨xs, hx, nr⟩ := hh.ob _ _ _ h1 ea
          have rd : Rd H _ (NdO X.w _ xs) := .inl hx
          obtain ⟨c1, c2, ys, c3, c4⟩ := nd_rd I rd nr
          have rk : VR ⟨X.K, cm, fx, X.w⟩ ρ H (.tup ds) (.ref _) := .tup s1 a1
          have hl : xs.length < sizeLine := by rw [← nr.length]; exact Nat.lt_of_lt_of_le hz (most_le (Nat.le_refl _))
          have np := nr.put h2 h3 rk rz
          refine PySem.wpAny_setItem_heap (hsz := by rw [← npair_len c3]; exact c2) (nroom (by omega)) ⟨nk_is I rk rfl h2, h3⟩ c4 fun h' hd hs => ?_
          have he : ∃ q, h'.get? _ = some q := let ⟨q, _, _, hq, _⟩ := hd; ⟨q, hq⟩
          have tt := TP.mut (o := NdO X.w A (xPut xs kk B v)) hx rfl
          exact ⟨_, d_write I (by rw [hx]; exact True.intro) hs he (nd_new c1 (by have := xPut_len xs kk B v; omega) (npair_put rv c3) hd), k _ tt (hh.set ea hx rfl ⟨_, upd_same, np.mono (List.prefix_refl _) tt⟩)⟩
    · cases e
def mPutN (o i v : ME) : MS := fun ε L => (v ε L).bindS ε fun z L1 => (o ε L1).bindS ε fun x L2 => (i ε L2).bindS ε fun y L3 => match oPutN x y z L3 with
  | some L4 => .nx ε L4
  | none => .bad
theorem ss_putN (hu : X.A.units + 65 < cLine) {o i e : Expr} {mo mi mv : ME} {pos pos' : Pos} (ho : PE X o (tM ⟨X.K, cm, fx, X.w⟩ W mo)) (hi : PE X i (tM ⟨X.K, cm, fx, X.w⟩ W mi)) (hv : PE X e (tM ⟨X.K, cm, fx, X.w⟩ W mv))
    (ha : ∀ v, assign (.Subscript o i pos') X.env v = (do
      let ov ← holding [v] (eval o X.env)
      let iv ← holding [v, ov] (eval i X.env)
      standAt pos'
      holding [v, ov, iv] (setItem ov iv v)
      release [v, ov, iv] []) := by exact fun _ => rfl)
    (hs : swapsWithSole [.Subscript o i pos'] e pos.line X.env = pure false := by rfl) (hw : swappedStores [.Subscript o i pos'] e X.env = pure none := by rfl)
    (h1 : (assignEach [.Subscript o i pos'] X.env).map (·.2) = [assign (.Subscript o i pos') X.env] := by rfl) : PS X (.Assign [.Subscript o i pos'] e pos) (tMS ⟨X.K, cm, fx, X.w⟩ W (mPutN mo mi mv)) :=
  (ps_asg hv (pg_sub ho hi (set_oPutN (cm := cm) (fx := fx) hu) ha) hs hw h1).imp fun D σ H q => by
    obtain ⟨ε, ρ, L, he, hh, q⟩ := q
    refine ⟨ε, ρ, L, he, hh, LfS.bind he q fun z L1 zv ρ1 H1 _ p1 t1 h1 r1 q1 => ?_⟩
    refine ⟨ε, ρ1, L1, he.mono p1 t1, h1, LfS.bind (he.mono p1 t1) q1 fun x L2 xv ρ2 H2 _ p2 t2 h2 r2 q2 => ?_⟩
    have he2 := (he.mono p1 t1).mono p2 t2
    refine ⟨ε, ρ2, L2, he2, h2, LfS.bind he2 q2 fun y L3 yv ρ3 H3 _ p3 t3 h3 r3 q3 => ?_⟩
    cases hp : oPutN x y z L3 with
    | none => rw [hp] at q3; exact q3.elim
    | some L4 =>
      rw [hp] at q3
      exact ⟨ρ3, L3, x, y, z, L4, h3, r2.mono p3 t3, r3, (r1.mono p2 t2).mono p3 t3, hp, fun H4 t4 h4 => q3 σ ρ3 H4 (List.prefix_refl _) t4 h4 ((he2.mono p3 t3).mono (List.prefix_refl _) t4)⟩
end Tw
end
section
set_option Elab.async false
set_option linter.all false
set_option maxRecDepth 100000
set_option maxHeartbeats 4000000
namespace Tw
open PySem PySem.Spec PyProof.Rows L2
variable {g : Gx} {ρ ρ' : List Addr} {H H' : Hp} {X : Cx} {W : WX} {L : List O} {cm : Nat → Addr} {fx : Hp} {pins : List (Addr × Obj)} {σ : L2.St} {s : Shared}
/-- keys and values as they stand -/
def EntsR (ps : List (V × V)) (es : Array DictEntry) : Prop := es.size = ps.length ∧ ∀ (i : Nat) (p : V × V), ps[i]? = some p → ∃ en, es[i]? = some en ∧ RelV p.1 en.key ∧ RelV p.2 en.val
def pairsN (xs : List (NestedKey × Addr × V)) : List (V × V) := xs.map fun x => (.ref x.2.1, x.2.2)
theorem frzN_ents {d : Addr} {o : Obj} {xs : List (NestedKey × Addr × V)} (I : Inv X pins σ H s) (h : H d = some (.frz o (NdO X.w d xs))) :
    (d == sysModules) = false ∧ s.heap.get? d = some o ∧ o.ExactDict ∧ ∃ (es : Array DictEntry) (ep : Nat), o.data = .dict es ep ∧ EntsR (pairsN xs) es := by
  obtain ⟨hd, ⟨hs, hl, hn, ys, pr, o', es, ep, ho, hx, hdt, he⟩, _⟩ := I.hok d _ h
  rw [hd] at ho
  cases ho
  have l1 : es.size = ys.length := by rw [← Array.length_toList, he, List.length_map]
  refine ⟨hs, hd, hx, es, ep, hdt, by rw [l1, ← npair_len pr]; simp [pairsN], fun i p e => ?_⟩
  unfold pairsN at e
  rw [List.getElem?_map] at e
  cases hq : xs[i]? with
  | none => rw [hq] at e; cases e
  | some x =>
    rw [hq] at e
    cases e
    obtain ⟨y, hb, e1, e2, e3⟩ := paired_get pr hq
    refine ⟨⟨y.1.hash X.w, .ref y.2.1, y.2.2⟩, ?_, by show Value.ref y.2.1 = Value.ref x.2.1; rw [← e2], e3⟩
    rw [← Array.getElem?_toList, he, List.getElem?_map, hb]
    rfl
/-- items of a dict that is locked (any keys), or of one that is made for the walk alone (keys: tuples) -/
def itemsN (ks : List (D × D)) : List D := ks.map fun kv => .tup [kv.1, kv.2]
end Tw
end
section
set_option Elab.async false
set_option linter.all false
set_option maxRecDepth 100000
set_option maxHeartbeats 4000000
namespace Tw
open PySem PySem.Spec PyProof.Rows L2
end Tw
end
section
set_option Elab.async false
set_option linter.all false
set_option maxRecDepth 100000
set_option maxHeartbeats 4000000
namespace Tw
open PySem PySem.Spec PyProof.Rows L2
variable {g : Gx} {ρ ρ' : List Addr} {H H' : Hp} {X : Cx} {W : WX} {L : List O} {cm : Nat → Addr} {fx : Hp} {pins : List (Addr × Obj)} {σ : L2.St} {s : Shared}
/-- where the items go -/
abbrev MT := List D → En → List O → Option (En × List O)
def tMT (g : Gx) (m : MT) : TGs := fun vs σ H Q => ∃ ε ρ L ds ε' L', ER g ρ H σ ε ∧ HR g ρ L H ∧ VRs g ρ H ds vs ∧ m ds ε L = some (ε', L') ∧ ∀ σ' ρ' H', ρ <+: ρ' → TP H H' → HR g ρ' L' H' → ER g ρ' H' σ' ε' → Q σ' H'
def tNil : MT := fun ds ε L => match ds with
  | [] => some (ε, L)
  | _ => none
def tNm (i : Nat) (r : MT) : MT := fun ds ε L => match ds with
  | d :: ds => if i < ε.length then r ds (ε.set i (some d)) L else none
  | [] => none
/-- self.f, self in the slot i -/
def tFd (i c : Nat) (f : Str) (r : MT) : MT := fun ds ε L => match ds with
  | d :: ds => match ε[i]? with
    | some (some (.ref n)) => match L[n]? with
      | some (.ins c' fs) => if c' = c ∧ fs.length < 100 then r ds ε (L.set n (.ins c' (putD f d fs))) else none
      | _ => none
    | _ => none
  | [] => none
theorem st_nil : PGs X [] (tMT g tNil) := by
  refine ⟨fun pins s σ H vs us Q I r h => ?_⟩
  obtain ⟨ε, ρ, L, ds, ε', L', he, hh, rr, e, k⟩ := h
  unfold tNil at e
  split at e
  · cases e
    cases rr
    exact (pgs_nil (X := X)).run pins s σ H [] us Q I r ⟨rfl, k σ ρ H (List.prefix_refl _) (TP.refl _) hh he⟩
  · cases e
theorem st_nm {i : Nat} {x : Str} {es : List Expr} {r : MT} {p : Pos} (hN : X.N.Nodup) (hi : X.N[i]? = some x) (h2 : PGs X es (tMT g r)) (hx : Loc X.env.scope x := by first | exact .inl rfl | exact .inr rfl | assumption) (hf : X.fn x = true ∨ X.env.scope.names.lookup x = some .local := by first | exact .inl rfl | exact .inr rfl | assumption)
    (hs : (assignEach (.Name x p :: es) X.env).map (·.2) = assign (.Name x p) X.env :: (assignEach es X.env).map (·.2) := by rfl) : PGs X (.Name x p :: es) (tMT g (tNm i r)) := by
  refine ⟨fun pins s σ H vs us Q I rv h => ?_⟩
  obtain ⟨ε, ρ, L, ds, ε', L', he, hh, rr, e, k⟩ := h
  unfold tNm at e
  split at e
  · rename_i d ds
    split at e
    · rename_i hl
      cases rr with
      | @cons _ v _ vs r1 r2 =>
        refine (pgs_cons (pg_name hN hi hx hf) h2 hs).run pins s σ H _ us Q I rv ⟨v, vs, rfl, ?_⟩
        exact ⟨_, ρ, L, ds, ε', L', he.set i r1, hh, r2, e, k⟩
    · cases e
  · cases e
theorem st_fd {i c : Nat} {x f : Str} {es : List Expr} {r : MT} {p p2 : Pos} (hc : Cls X.K (cm c)) (hn : NoAttr X.K (cm c) f) (ho : PE X (.Name x p) (tVar i)) (h2 : PGs X es (tMT ⟨X.K, cm, fx, X.w⟩ r))
    (hs : (assignEach (.Attribute (.Name x p) f p2 :: es) X.env).map (·.2) = assign (.Attribute (.Name x p) f p2) X.env :: (assignEach es X.env).map (·.2) := by rfl)
    (ha : ∀ v, assign (.Attribute (.Name x p) f p2) X.env v = (do
      let ov ← holding [v] (eval (.Name x p) X.env)
      standAt p2.atName
      holding [v, ov] (setAttr ov f v)
      release [v, ov] []) := by exact fun _ => rfl) : PGs X (.Attribute (.Name x p) f p2 :: es) (tMT ⟨X.K, cm, fx, X.w⟩ (tFd i c f r)) := by
  refine ⟨fun pins s σ H vs us Q I rv h => ?_⟩
  obtain ⟨ε, ρ, L, ds, ε', L', he, hh, rr, e, k⟩ := h
  unfold tFd at e
  split at e
  · rename_i d ds
    split at e
    · rename_i n hn'
      split at e
      · rename_i c' fs hL
        split at e
        · rename_i hz
          obtain ⟨rfl, hz⟩ := hz
          cases rr with
          | @cons _ v _ vs r1 r2 =>
            cases rv with
            | @cons _ u _ us ru rus =>
              obtain ⟨xv, hxv, rx⟩ := he.2 _ _ hn'
              cases rx with
              | @ref _ A ea =>
                rw [hs]
                refine assignInOrder_cons ?_
                rw [ha]
                refine wpAny_bind (wpAny_holding (thn (ho.run pins s σ H (fun y H1 => y = .ref A ∧ H1 = H) I ⟨_, hxv, rfl, rfl⟩) fun ov s1 ⟨y, H1, I1, ry, e1, e2⟩ => ?_))
                subst e1 e2
                obtain rfl : ov = Value.ref A := ry
                obtain ⟨dx, ws, b1, fr⟩ := hh.ins hL ea
                refine wpAny_bind (wpAny_standAt (wpAny_bind (wpAny_holding (setattr_ok I1 b1 hc hn (by rw [← fr.length]; omega) ru fun s3 I3 => ?_))))
                have tt : TP H1 (upd H1 A (.ins (cm c') dx (putF f v ws))) := TP.mut b1 rfl
                refine wpAny_release ?_
                exact h2.run pins s3 σ _ vs us Q I3 rus ⟨ε, ρ, _, ds, ε', L', he.mono (List.prefix_refl _) tt, (show HR ⟨X.K, cm, fx, X.w⟩ ρ (L.set n (.ins c' (putD f d fs))) _ from hh.set ea b1 rfl ⟨dx, _, upd_same, (fr.put r1).mono (List.prefix_refl _) tt⟩), r2.mono (List.prefix_refl _) tt, e, fun σ' ρ' H' q1 q2 q3 q4 => k σ' ρ' H' q1 (tt.trans q2) q3 q4⟩
        · cases e
      · cases e
    · cases e
  · cases e
/-- a, self.f, .. = e -/
def mAsgT (n : Nat) (a : ME) (m : MT) : MS := fun ε L => (a ε L).bindS ε fun x L1 => match x with
  | .tup ds => if ds.length = n then (match m ds ε L1 with
    | some (ε', L') => .nx ε' L'
    | none => .bad) else .bad
  | _ => .bad
theorem ss_asgT {es : List Expr} {k n : Nat} {e : Expr} {a : ME} {m : MT} {p pos : Pos} (hc : X.calm = true) (ha : PE X e (tM ⟨X.K, cm, fx, X.w⟩ W a)) (h : PGs X es (tMT ⟨X.K, cm, fx, X.w⟩ m)) (hn : (assignEach es X.env).length = n := by rfl) (hst : (assignEach es X.env).findIdx? (·.1) = none := by rfl)
    (hs : swapsWithSole [.Tuple es k p] e pos.line X.env = pure false := by rfl) (hw : swappedStores [.Tuple es k p] e X.env = pure none := by rfl) (h1 : (assignEach [.Tuple es k p] X.env).map (·.2) = [assign (.Tuple es k p) X.env] := by rfl) : PS X (.Assign [.Tuple es k p] e pos) (tMS ⟨X.K, cm, fx, X.w⟩ W (mAsgT n a m)) :=
  (ps_asg ha (pg_tup hc h hn hst) hs hw h1).imp fun D σ H q => by
    obtain ⟨ε, ρ, L, he, hh, q⟩ := q
    refine ⟨ε, ρ, L, he, hh, LfS.bind he q fun x L1 v ρ1 H1 _ p1 t1 h1 r1 q1 => ?_⟩
    cases r1 with
    | @tup ds A vs s1 a1 =>
      simp only at q1
      split at q1
      · rename_i hl
        split at q1
        · rename_i ε' L' hm
          exact ⟨A, vs, rfl, s1.sq, by rw [← a1.length]; exact hl, ε, ρ1, L1, ds, ε', L', he.mono p1 t1, h1, a1, hm, fun σ' ρ' H' c1 c2 c3 c4 => q1 σ' ρ' H' c1 c2 c3 c4⟩
        · exact q1.elim
      · exact q1.elim
    | _ => exact q1.elim
end Tw
end
section
set_option Elab.async false
set_option linter.all false
set_option maxRecDepth 100000
set_option maxHeartbeats 4000000
namespace Tw
open PySem PySem.Spec PyProof.Rows L2
open PyProof.Rows (envOfC)
end Tw
end
section
set_option Elab.async false
set_option linter.all false
set_option maxRecDepth 100000
set_option maxHeartbeats 4000000
namespace Tw
open PySem PySem.Spec PyProof.Rows L2
open PyProof.Rows (envOfC)
end Tw
end
section
set_option Elab.async false
set_option linter.all false
set_option maxRecDepth 100000
set_option maxHeartbeats 4000000
namespace Tw
open PySem PySem.Spec PyProof.Rows L2
variable {g : Gx} {ρ ρ' : List Addr} {H H' : Hp} {X : Cx} {W : WX} {L : List O} {cm : Nat → Addr} {fx : Hp} {pins : List (Addr × Obj)} {σ : L2.St} {s : Shared}
theorem dict_walkH {prog : Program} {w : World} {K : Type} [DecidableEq K] {knd : HeapKind prog w K} {A : Around} {E : Value → Shared → Prop} {env : Env} {keys : List (Option Expr)} {values : List Expr} {pos : Pos} {Q : Value → Shared → Prop} (hu : knd.room A)
    (hall : keys.all (·.isSome) = true) (hl : keys.length = values.length) (h0 : keys ≠ []) (hlen : keys.length ≤ 15)
    (h : wpAny (model prog w) A (evalPairs (pairTrees keys values env pos)) (fun vs s₁ => ∃ ps, CarriesH knd s₁.heap vs ps ∧ s₁.heap.DictOfH knd s.heap.objs.size [] ∧
      ∀ h' tk, h'.DictOfH knd s.heap.objs.size (storedAllH [] ps) → Heap.SameBut s.heap.objs.size s₁.heap h' → Q (.ref s.heap.objs.size) { s₁ with heap := h', toks := tk }) E
      { s with heap := s.heap.push { cls := .type "dict", data := .dict #[] } }) :
    wpAny (model prog w) A (eval (.Dict keys values pos) env) Q E s := by
  have hn := pairTrees_length keys values env pos hall hl
  have hp0 : pairTrees keys values env pos ≠ [] := fun he => by rw [he] at hn; exact h0 (List.length_eq_zero_iff.mp hn.symm)
  rw [arm_eval_Dict, zip_pairTrees keys values env pos hall hl, dictDisplay_pairs _ hp0 (by rw [hn]; omega)]
  exact wpAny_bind (wpAny_standAt (wpAny_bind (wpAny_subDictH (knd := knd) (Q := fun d s' => wpAny (model prog w) A (pure (Value.ref d)) Q E s') hu (by rw [hn]; exact hlen)
    (wpAny_mono h (fun vs s₁ h₁ => by obtain ⟨ps, hc, hm, hq⟩ := h₁; exact ⟨ps, hc, hm, fun h' tk a b => wpAny_pure (hq h' tk a b)⟩) fun _ _ e => e))))
theorem pe_nd1 (hu : X.A.units + 65 < cLine) {ek ev : Expr} {tk tv : TE} {pos : Pos} (hk : PE X ek tk) (hv : PE X ev tv) : PE X (.Dict [some ek] [ev] pos) (fun σ H Q => ∀ p, H p = none → tk σ (upd H p (NdO X.w p [])) fun x H1 => tv σ H1 fun y H2 =>
    ∃ (ρ : List Addr) (d : D) (b : Addr) (k : NestedKey), x = .ref b ∧ VR ⟨X.K, cm, fx, X.w⟩ ρ H2 d (.ref b) ∧ nkD d = some k ∧ k.depth ≤ 8 ∧ H2 p = some (NdO X.w p []) ∧ Q (.ref p) (upd H2 p (NdO X.w p [(k, b, y)]))) := by
  refine ⟨fun pins s σ H Q I q => ?_⟩
  have hn := I.hok.fresh (Nat.le_refl s.heap.objs.size)
  have I1 := I.laid (a := s.heap.objs.size) (o := NdO X.w s.heap.objs.size []) (h' := s.heap.push { cls := .type "dict", data := .dict #[] }) (t' := s.toks) (fun _ _ q => Heap.get?_push_of_some _ q) (Nat.le_refl _) (nd_empty s.heap I.big)
  refine dict_walkH (knd := nestedKind X.prog X.w) (show X.A.units + 8 < cLine by omega) rfl rfl (by simp) (show 1 ≤ 15 by decide) (pairTrees_cons_walk (thn (hk.run pins _ σ _ _ I1 (q _ hn)) fun u s1 ⟨x, H1, I2, rx, q1⟩ => thn (hv.run pins s1 σ H1 _ I2 q1) fun v s2 ⟨y, H2, I3, ry, ρ, d, b, k, ex, vr, hkd, h8, hp, q2⟩ => pairTrees_nil_walk ?_))
  subst ex
  obtain rfl : u = Value.ref b := rx
  obtain ⟨c1, c2, ys, c3, c4⟩ := nd_rd (ks := []) (cm := cm) (fx := fx) (ρ := ρ) I3 (.inl hp) .nil
  cases c3
  refine ⟨[(k, b, v)], ⟨rfl, rfl, ⟨nk_is I3 vr rfl hkd, h8⟩, trivial⟩, c4, fun h' tk' hd hs => ?_⟩
  have he : ∃ q, h'.get? s.heap.objs.size = some q := let ⟨q, _, _, hq, _⟩ := hd; ⟨q, hq⟩
  exact ⟨.ref s.heap.objs.size, _, d_write I3 (by rw [hp]; exact True.intro) hs he (nd_new (xs := [(k, b, y)]) (ys := [(k, b, v)]) c1 (by rw [sizeLine_eq]; show 1 ≤ 16777216; decide) (.cons ⟨rfl, rfl, ry⟩ .nil) hd), rfl, q2⟩
def mNd1 (k v : ME) : ME := fun ε L => (k ε (L ++ [.nd false []])).bind fun x L1 => (v ε L1).bind fun y L2 => match x with
  | .tup ds => match nkD (.tup ds) with
    | some kk => if kk.depth ≤ 8 then (match L2[L.length]? with
      | some (.nd false []) => .ok (.ref L.length) (L2.set L.length (.nd false [(.tup ds, y)]))
      | _ => .bad) else .bad
    | none => .bad
  | _ => .bad
theorem se_nd1 (hu : X.A.units + 65 < cLine) {ek ev : Expr} {k v : ME} {pos : Pos} (hk : PE X ek (tM ⟨X.K, cm, fx, X.w⟩ W k)) (hv : PE X ev (tM ⟨X.K, cm, fx, X.w⟩ W v)) : PE X (.Dict [some ek] [ev] pos) (tM ⟨X.K, cm, fx, X.w⟩ W (mNd1 k v)) :=
  (pe_nd1 (cm := cm) (fx := fx) hu hk hv).imp fun σ H Q q => by
    obtain ⟨ε, ρ, L, he, hh, q⟩ := q
    intro p hp
    have t0 : TP H (upd H p (NdO X.w p [])) := TP.new hp
    have h0 : HR ⟨X.K, cm, fx, X.w⟩ (ρ ++ [p]) (L ++ [.nd false []]) (upd H p (NdO X.w p [])) := hh.new hp (u := NdO X.w p []) (o := .nd false []) ⟨[], upd_same, .nil⟩
    have e0 : (ρ ++ [p])[L.length]? = some p := by rw [← hh.len]; simp
    refine ⟨ε, ρ ++ [p], _, (he.mono (pre_snoc _ _) t0), h0, Lf.bind (LfD.mono (pre_snoc _ _) t0 q) fun x L1 xv ρ1 H1 _ p1 t1 h1 r1 q1 => ?_⟩
    refine ⟨ε, ρ1, L1, (he.mono (pre_snoc _ _) t0).mono p1 t1, h1, Lf.bind q1 fun y L2 yv ρ2 H2 _ p2 t2 h2 r2 q2 => ?_⟩
    split at q2
    · rename_i ds _
      split at q2
      · rename_i kk hkk
        split at q2
        · rename_i h8
          split at q2
          · rename_i hL
            have e2 : ρ2[L.length]? = some p := pre_get (p1.trans p2) e0
            obtain ⟨xs, w1, w2⟩ := h2.ob _ _ _ hL e2
            cases w2
            have r1' := r1.mono p2 t2
            cases r1' with
            | @tup _ B _ s1 a1 =>
              have t3 : TP H2 (upd H2 p (NdO X.w p [(kk, B, yv)])) := TP.mut w1 rfl
              have rk : VR ⟨X.K, cm, fx, X.w⟩ ρ2 H2 (.tup ds) (.ref B) := .tup s1 a1
              refine ⟨ρ2, .tup ds, B, kk, rfl, rk, hkk, h8, w1, ?_⟩
              exact q2 _ ρ2 _ (List.prefix_refl _) t3 (h2.set e2 w1 rfl ⟨_, upd_same, .cons hkk h8 (rk.mono (List.prefix_refl _) t3) (r2.mono (List.prefix_refl _) t3) .nil⟩) (.ref e2)
          · exact q2.elim
        · exact q2.elim
      · exact q2.elim
    · exact q2.elim
end Tw
end
section
set_option Elab.async false
set_option linter.all false
set_option maxRecDepth 100000
set_option maxHeartbeats 4000000
namespace Tw
open PySem PySem.Spec PyProof.Rows L2
end Tw
end
section
set_option Elab.async false
set_option linter.all false
set_option maxRecDepth 100000
set_option maxHeartbeats 4000000
namespace Tw
open PySem PySem.Spec L2
end Tw
end
section
set_option Elab.async false
set_option linter.all false
set_option maxRecDepth 100000
set_option maxHeartbeats 4000000
namespace Tw
open PySem PySem.Spec L2 GenW GenZ PyProof.Rows
open PyProof.Rows (envOfC)
variable {g : Gx} {ρ ρ' : List Addr} {H H' : Hp} {X : Cx} {W : WX} {L : List O} {cm : Nat → Addr} {fx : Hp} {pins : List (Addr × Obj)} {σ : L2.St} {s : Shared}
mutual
def pureB : D → Bool
  | .non => true
  | .int _ => true
  | .str _ => true
  | .bl _ => true
  | .tup ds => pureBs ds
  | .ref _ => false | .cls _ => false | .ty _ => false | .rol _ => false
def pureBs : List D → Bool
  | [] => true
  | d :: ds => pureB d && pureBs ds
end
mutual
def kyB : D → NestedKey
  | .int i => .num i
  | .bl b => .num (if b = true then 1 else 0)
  | .str x => .text x
  | .tup ds => .tup (kyBs ds)
  | .non => .none | .ref _ => .none | .cls _ => .none | .ty _ => .none | .rol _ => .none
def kyBs : List D → List NestedKey
  | [] => []
  | d :: ds => kyB d :: kyBs ds
end
mutual
theorem pureB_key : ∀ {d : D}, pureB d = true → nkD d = some (kyB d)
  | .non, _ => rfl
  | .int i, _ => rfl
  | .bl i, _ => rfl
  | .str x, _ => rfl
  | .tup ds, h => by
    have a := pureB_keys (ds := ds) (by simpa [pureB] using h)
    unfold nkD kyB
    rw [a]
    rfl
  | .ref _, h => by simp [pureB] at h
  | .cls _, h => by simp [pureB] at h
  | .ty _, h => by simp [pureB] at h
  | .rol _, h => by simp [pureB] at h
theorem pureB_keys : ∀ {ds : List D}, pureBs ds = true → nkDs ds = some (kyBs ds)
  | [], _ => rfl
  | d :: ds, h => by
    have h' : pureB d = true ∧ pureBs ds = true := by simpa [pureBs] using h
    unfold nkDs kyBs
    rw [pureB_key h'.1, pureB_keys h'.2]
end
def okB (d : D) : Bool := pureB d && decide ((kyB d).depth ≤ 8) && match d with
  | .tup (_ :: _) => true
  | _ => false
theorem okB_iff {d : D} (h : okB d = true) : pureB d = true ∧ (kyB d).depth ≤ 8 ∧ ∃ x xs, d = .tup (x :: xs) := by
  unfold okB at h
  rw [Bool.and_eq_true, Bool.and_eq_true, decide_eq_true_eq] at h
  refine ⟨h.1.1, h.1.2, ?_⟩
  have := h.2
  split at this
  · exact ⟨_, _, rfl⟩
  · cases this
def dstB : List D → List D
  | [] => []
  | d :: ds => if kyB d ∈ ds.map kyB then dstB ds else d :: dstB ds
theorem dstB_keys : ∀ (ds : List D), ((dstB ds).map kyB).Nodup ∧ (∀ k, k ∈ (dstB ds).map kyB ↔ k ∈ ds.map kyB) ∧ ∀ d ∈ dstB ds, d ∈ ds
  | [] => ⟨List.nodup_nil, fun _ => Iff.rfl, nofun⟩
  | d :: ds => by
    obtain ⟨a, b, c⟩ := dstB_keys ds
    unfold dstB
    by_cases h : kyB d ∈ ds.map kyB
    · rw [if_pos h]
      refine ⟨a, fun k => ?_, fun e he => List.mem_cons_of_mem _ (c e he)⟩
      rw [b, List.map_cons, List.mem_cons]
      constructor
      · exact .inr
      · rintro (rfl | z)
        · exact h
        · exact z
    · rw [if_neg h]
      refine ⟨?_, fun k => ?_, fun e he => ?_⟩
      · rw [List.map_cons]
        exact List.nodup_cons.mpr ⟨fun z => h ((b _).mp z), a⟩
      · rw [List.map_cons, List.map_cons, List.mem_cons, List.mem_cons, b]
      · rcases List.mem_cons.mp he with rfl | he
        · exact List.mem_cons_self
        · exact List.mem_cons_of_mem _ (c e he)
/-- the one that a key stands for -/
def dK (xs : List D) (k : NestedKey) : D := (xs.find? fun d => decide (kyB d = k)).getD .non
theorem few_ofB {xs : List D} {ks : List NRow} (e : ks.map (·.2) = xs.map kyB) (h : (dstB xs).length < 77) (L : List NRow) (nd : (L.map (·.2)).Nodup) (sub : ∀ p ∈ L, p ∈ ks) : L.length < 77 := by
  obtain ⟨_, b, _⟩ := dstB_keys xs
  have := len_sub nd (m := (dstB xs).map kyB) fun k hk => by
    obtain ⟨p, hp, rfl⟩ := List.mem_map.mp hk
    rw [b, ← e]
    exact List.mem_map.mpr ⟨p, sub p hp, rfl⟩
  rw [List.length_map, List.length_map] at this
  omega
structure RowsB (g : Gx) (ρ : List Addr) (H : Hp) (ks : List NRow) (acc : List D) : Prop where
  keys : ks.map (·.2) = acc.map kyB
  okd : ∀ d ∈ acc, okB d = true
  each : ∀ p ∈ ks, ∃ d ∈ acc, kyB d = p.2 ∧ VR g ρ H d (.ref p.1)
theorem RowsB.nil : RowsB g ρ H [] [] := ⟨rfl, nofun, nofun⟩
theorem RowsB.mono (hp : ρ <+: ρ') (ht : TP H H') {ks : List NRow} {acc : List D} (r : RowsB g ρ H ks acc) : RowsB g ρ' H' ks acc :=
  ⟨r.keys, r.okd, fun p h => let ⟨d, a, b, c⟩ := r.each p h; ⟨d, a, b, c.mono hp ht⟩⟩
theorem RowsB.snoc {ks : List NRow} {acc : List D} (r : RowsB g ρ H ks acc) {y : D} {v : V} (hv : VR g ρ H y v) (ok : okB y = true) : ∃ q, v = .ref q ∧ RowsB g ρ H (ks ++ [(q, kyB y)]) (acc ++ [y]) := by
  obtain ⟨p1, p2, x, ys, rfl⟩ := okB_iff ok
  cases hv with
  | tup s t =>
    rename_i a vs
    refine ⟨a, rfl, by rw [List.map_append, List.map_append, r.keys]; rfl, fun d hd => ?_, fun p hp => ?_⟩
    · rcases List.mem_append.mp hd with hd | hd
      · exact r.okd d hd
      · rw [List.mem_singleton.mp hd]
        exact ok
    · rcases List.mem_append.mp hp with hp | hp
      · obtain ⟨d, a, b, c⟩ := r.each p hp
        exact ⟨d, List.mem_append_left _ a, b, c⟩
      · rw [List.mem_singleton.mp hp]
        exact ⟨_, List.mem_append_right _ (List.mem_singleton.mpr rfl), rfl, .tup s t⟩
theorem RowsB.rows {ks : List NRow} {acc : List D} (r : RowsB g ρ H ks acc) : RowsAt g H ks := fun p hp => by
  obtain ⟨d, a, b, c⟩ := r.each p hp
  have ok := okB_iff (r.okd _ a)
  refine ⟨g.fx, ρ, d, c, ?_, ?_⟩
  · rw [pureB_key ok.1, b]
  · rw [← b]
    exact ok.2.1
theorem RowsB.room {ks : List NRow} {acc : List D} (r : RowsB g ρ H ks acc) (h : (dstB acc).length < 77) : Room ks := few_ofB r.keys h
end Tw
end
section
set_option Elab.async false
set_option linter.all false
set_option maxRecDepth 100000
set_option maxHeartbeats 4000000
namespace Tw
open PySem PySem.Spec L2
end Tw
end
section
set_option Elab.async false
set_option linter.all false
set_option maxRecDepth 100000
set_option maxHeartbeats 4000000
namespace Tw
open PySem PySem.Spec L2
end Tw
end
section
set_option Elab.async false
set_option linter.all false
set_option maxRecDepth 100000
set_option maxHeartbeats 4000000
namespace Tw
open PySem PySem.Spec PyProof.Rows L2 NdefX LamX
variable {g : Gx} {ρ ρ' : List Addr} {H H' : Hp} {X : Cx} {W : WX} {L : List O} {cm : Nat → Addr} {fx : Hp}
theorem se_call0 {x : Str} {k : Nat} {F : FS} {p pos : Pos} (h : FI X.prog X.w X.K X.mg X.base cm x k 0 F) (hr : _root_.L2.Room k X.A) (tk : Takes X W) (hg : Gl X x := by rfl) (hdb : (x == ("__debug__" : Str)) = false := by decide) :
    PE X (.Call (.Name x p) [] [] pos) (tM ⟨X.K, cm, fx, X.w⟩ W (mCall F mNil)) := by
  obtain ⟨f, fd, ps, hm, hk, hb, hps, G⟩ := h.ex
  refine ⟨fun pins s σ H Q I q => ?_⟩
  refine wpAny_Call_Name_kw (ld_glob I hg hm ?_ hdb)
  refine PySem.W.callWith_K0 I.kIn hk ?_
  obtain ⟨ε, ρ, L, he, hh, q⟩ := q
  have q1 : spF X.w X.K cm ps.length F ([] ++ []) H Q (EW W σ) := ⟨hps.symm, fx, ρ, L, [], hh, .nil, LfF.of q⟩
  exact run_fnSD (us := []) (vs := []) G hr hb .nil (pass_at tk σ) I .nil q1
abbrev fx0 : Hp := fun _ => none
theorem hr0 {g : Gx} (h : g.fx = fx0) : HR g [] [] H := ⟨rfl, List.nodup_nil, fun n o a e => by simp at e, fun n a e => by simp at e, fun a u e => by rw [h] at e; cases e⟩
end Tw
end
section
set_option Elab.async false
set_option linter.all false
set_option maxRecDepth 100000
set_option maxHeartbeats 4000000
namespace Tw
open PySem PySem.Spec PyProof.Rows L2
variable {g : Gx} {ρ ρ' : List Addr} {H H' : Hp} {X : Cx} {W : WX} {L : List O} {cm : Nat → Addr} {fx : Hp} {pins : List (Addr × Obj)} {σ : L2.St} {s : Shared}
/-- the second clause's loop: what it finds goes to the list at n -/
def loopI (src : Src) (t : MG) (tt : MB) (te : ME) (n : Nat) (ε : En) : List D → List O → Rs Unit
  | [], L => if src.ok L = true then .ok () L else .bad
  | d :: ds, L => if src.ok L = true then (match t.f d ε with
    | none => .bad
    | some ε1 => (tt ε1 L).nox.bind fun b L2 => if b = true then (te ε1 L2).nox.bind fun y L3 => (match L3[n]? with
        | some (.lst acc) => if acc.length < most then loopI src t tt te n ε ds (L3.set n (.lst (acc ++ [y]))) else .bad
        | _ => .bad) else loopI src t tt te n ε ds L2) else .bad
def loopO (src : Src) (t : MG) (tt : MB) (mi1 : MI) (t1 : MG) (tt1 : MB) (te : ME) (own1 : List Nat) (n : Nat) (ε : En) : List D → List O → Rs D
  | [], L => if src.ok L = true then .ok (.ref n) L else .bad
  | d :: ds, L => if src.ok L = true then (match t.f d ε with
    | none => .bad
    | some ε1 => (tt ε1 L).nox.bind fun b L2 => if b = true then (mi1 ε1 L2).nox.bind fun src1 L3 => (loopI src1 t1 tt1 te n (wipeE ε1 own1) src1.ds L3).bind fun _ L4 => loopO src t tt mi1 t1 tt1 te own1 n ε ds L4 else loopO src t tt mi1 t1 tt1 te own1 n ε ds L2) else .bad
/-- [te for t in mi if tt for t1 in mi1 if tt1] -/
def mComp2 (own own1 : List Nat) (mi : MI) (t : MG) (tt : MB) (mi1 : MI) (t1 : MG) (tt1 : MB) (te : ME) : ME := fun ε L => (mi ε L).bind fun src L1 => loopO src t tt mi1 t1 tt1 te own1 L1.length (wipeE ε own) src.ds (L1 ++ [.lst []])
section
variable {src : Src} {t t1 : MG} {mi1 : MI} {tt tt1 : MB} {te : ME} {own own1 : List Nat} {ε : En} {J : It} {Q : VK}
theorem comp2_in {src1 : Src} {J1 : It} {ρ5 : List Addr} {H5 : Hp} {σ4 : L2.St} {ε3 : En} {Dl : Addr} {n : Nat} {L5 : List O} {k : Unit → List O → Rs D} {Nx : Hp → Prop} (hsub1 : ∀ i ∈ t1.is, i ∈ own1) (wk1 : Wk g ρ5 H5 src1 J1) (he : ER g ρ5 H5 σ4 ε3) (h5 : HR g ρ5 L5 H5) (eD : ρ5[n]? = some Dl)
    (q5 : LfD g ρ5 H5 σ W ((loopI src1 t1 tt1 te n (wipeE ε3 own1) src1.ds L5).bind k) Q)
    (hNx : ∀ ρ' L' H', ρ5 <+: ρ' → TP H5 H' → HR g ρ' L' H' → LfD g ρ' H' σ W (k () L') Q → Nx H') :
    ∃ W1 : Nat → Nat → Hp → Prop, (∃ m, W1 0 m H5) ∧ ∀ j m H, W1 j m H →
      (J1.stop j H ∧ Nx H) ∨ (J1.go j H ∧ ∃ Nx1 : Hp → Prop, (∀ H', Nx1 H' → ∃ m', m' < m ∧ W1 (j + 1) m' H') ∧ ∀ x H', J1.yld j H x H' → tMG g t1 x (wipe σ4 own1) H' fun σ3 H5 => wipe σ3 own1 = wipe σ4 own1 ∧ tMB g W0 tt1 σ3 H5 fun b H6 =>
        if b = true then tM g W0 te σ3 H6 fun y H7 => ∃ acc, H7 Dl = some (.lst acc) ∧ acc.length < sizeLine ∧ Nx1 (upd H7 Dl (.lst (acc ++ [y]))) else Nx1 H6) := by
  let W1 : Nat → Nat → Hp → Prop := fun j m H' => m = src1.ds.length - j ∧ j ≤ src1.ds.length ∧ ∃ ρ' L', ρ5 <+: ρ' ∧ TP H5 H' ∧ HR g ρ' L' H' ∧ LfD g ρ' H' σ W ((loopI src1 t1 tt1 te n (wipeE ε3 own1) (src1.ds.drop j) L').bind k) Q
  refine ⟨W1, ⟨_, rfl, Nat.zero_le _, ρ5, L5, List.prefix_refl _, TP.refl _, h5, q5⟩, ?_⟩
  rintro j m H2 ⟨rfl, hj, ρ2, L2, p2, t2, h2, q2⟩
  by_cases hok : src1.ok L2 = true
  case neg =>
    cases hc : src1.ds.drop j with
    | nil => rw [hc] at q2; unfold loopI at q2; rw [if_neg hok] at q2; exact q2.elim
    | cons d ds => rw [hc] at q2; unfold loopI at q2; rw [if_neg hok] at q2; exact q2.elim
  by_cases hlt : j < src1.ds.length
  · obtain ⟨d, hd, hdr⟩ := drop_cons hlt
    rw [hdr] at q2
    unfold loopI at q2
    rw [if_pos hok] at q2
    refine .inr ⟨wk1.go j ρ2 L2 H2 hlt p2 t2 h2 hok, W1 (j + 1) (src1.ds.length - (j + 1)), fun H' n => ⟨src1.ds.length - (j + 1), by omega, n⟩, fun x H3 y => ?_⟩
    obtain ⟨t3, h3, r3⟩ := wk1.yld j d ρ2 L2 H2 x H3 hd p2 t2 h2 hok y
    have he3 : ER g ρ2 H3 (wipe σ4 own1) (wipeE ε3 own1) := (he.mono p2 (t2.trans t3)).wipes own1
    cases ht : t1.f d (wipeE ε3 own1) with
    | none => rw [ht] at q2; exact q2.elim
    | some ε6 =>
      rw [ht] at q2
      refine ⟨ρ2, _, d, ε6, he3, r3, ht, fun σ6 he6 u6 => ⟨by rw [wipe_upd u6 hsub1, wipe_wipe], ε6, ρ2, L2, he6, h3, ?_⟩⟩
      have q3 := Lf.moved (List.prefix_refl _) t3 q2
      simp only [] at q3
      cases hb : tt1 ε6 L2 with
      | bad => simp only [hb, Rs.nox, Rs.bind] at q3; exact q3.elim
      | ex c fs L7 => simp only [hb, Rs.nox, Rs.bind] at q3; exact q3.elim
      | ok b L7 =>
        simp only [hb, Rs.nox] at q3
        intro v ρ7 H7 p7 t7 h7 r7
        cases r7
        have q7 := Lf.moved p7 t7 q3
        cases b with
        | false => exact ⟨rfl, hlt, ρ7, L7, p2.trans p7, (t2.trans t3).trans t7, h7, q7⟩
        | true =>
          refine ⟨ε6, ρ7, L7, he6.mono p7 t7, h7, ?_⟩
          have q7 : LfD g ρ7 H7 σ W (((te ε6 L7).nox.bind fun y L3 => (match L3[n]? with
            | some (.lst acc) => if acc.length < most then loopI src1 t1 tt1 te n (wipeE ε3 own1) (src1.ds.drop (j + 1)) (L3.set n (.lst (acc ++ [y]))) else .bad
            | _ => .bad)).bind k) Q := q7
          cases hy : te ε6 L7 with
          | bad => simp only [hy, Rs.nox, Rs.bind] at q7; exact q7.elim
          | ex c fs L8 => simp only [hy, Rs.nox, Rs.bind] at q7; exact q7.elim
          | ok y L8 =>
            intro yv ρ8 H8 p8 t8 h8 r8
            have q8 : LfD g ρ8 H8 σ W ((match L8[n]? with
              | some (.lst acc) => if acc.length < most then loopI src1 t1 tt1 te n (wipeE ε3 own1) (src1.ds.drop (j + 1)) (L8.set n (.lst (acc ++ [y]))) else .bad
              | _ => .bad).bind k) Q := by
              have q8 := Lf.moved p8 t8 q7
              rw [hy] at q8
              exact q8
            cases ha : L8[n]? with
            | none => rw [ha] at q8; exact q8.elim
            | some o =>
              rw [ha] at q8
              cases o with
              | lst acc =>
                by_cases hz : acc.length < most
                · have q9 : LfD g ρ8 H8 σ W ((loopI src1 t1 tt1 te n (wipeE ε3 own1) (src1.ds.drop (j + 1)) (L8.set n (.lst (acc ++ [y])))).bind k) Q := by
                    have q9 : LfD g ρ8 H8 σ W ((if acc.length < most then loopI src1 t1 tt1 te n (wipeE ε3 own1) (src1.ds.drop (j + 1)) (L8.set n (.lst (acc ++ [y]))) else .bad).bind k) Q := q8
                    rw [if_pos hz] at q9
                    exact q9
                  have e8 : ρ8[n]? = some Dl := pre_get ((p2.trans p7).trans p8) eD
                  obtain ⟨vs, b1, b2⟩ := h8.lst ha e8
                  have t9 : TP H8 (upd H8 Dl (.lst (vs ++ [yv]))) := TP.mut b1 rfl
                  refine ⟨vs, b1, Nat.lt_of_lt_of_le (by rw [← b2.length]; exact hz) (most_le (Nat.le_refl _)), rfl, hlt, ρ8, _, (p2.trans p7).trans p8, (((t2.trans t3).trans t7).trans t8).trans t9, ?_, Lf.moved (List.prefix_refl _) t9 q9⟩
                  exact h8.set e8 b1 rfl ⟨_, upd_same, (b2.append (.cons r8 .nil)).mono (List.prefix_refl _) t9⟩
                · have q9 : LfD g ρ8 H8 σ W ((if acc.length < most then loopI src1 t1 tt1 te n (wipeE ε3 own1) (src1.ds.drop (j + 1)) (L8.set n (.lst (acc ++ [y]))) else .bad).bind k) Q := q8
                  rw [if_neg hz] at q9
                  exact q9.elim
              | _ => exact q8.elim
  · have e : j = src1.ds.length := by omega
    subst e
    rw [List.drop_length] at q2
    unfold loopI at q2
    rw [if_pos hok] at q2
    exact .inl ⟨wk1.stop ρ2 L2 H2 p2 t2 h2 hok, hNx ρ2 L2 H2 p2 t2 h2 q2⟩
theorem comp2_turns (hsub : ∀ i ∈ t.is, i ∈ own) (hsub1 : ∀ i ∈ t1.is, i ∈ own1) (wk : Wk g ρ H src J) (he : ER g ρ H σ ε) {Dl : Addr} (hD : H Dl = none) (hh : HR g ρ L H)
    (q : LfD g ρ H σ W (loopO src t tt mi1 t1 tt1 te own1 L.length (wipeE ε own) src.ds (L ++ [.lst []])) Q) :
    ∃ Wv : Nat → Nat → Hp → Prop, (∃ m, Wv 0 m (upd H Dl (.lst []))) ∧ ∀ i m H, Wv i m H →
      (J.stop i H ∧ Q (.ref Dl) H) ∨ (J.go i H ∧ ∃ Nx : Hp → Prop, (∀ H', Nx H' → ∃ m', m' < m ∧ Wv (i + 1) m' H') ∧ ∀ x H', J.yld i H x H' → tMG g t x (wipe σ own) H' fun σ2 H2 => wipe σ2 own = wipe σ own ∧ tMB g W0 tt σ2 H2 fun b H3 =>
        if b = true then tMI g W0 mi1 σ2 H3 fun J1 H4 => ∃ W1 : Nat → Nat → Hp → Prop, (∃ m, W1 0 m H4) ∧ ∀ j k H, W1 j k H →
          (J1.stop j H ∧ Nx H) ∨ (J1.go j H ∧ ∃ Nx1 : Hp → Prop, (∀ H', Nx1 H' → ∃ k', k' < k ∧ W1 (j + 1) k' H') ∧ ∀ x H', J1.yld j H x H' → tMG g t1 x (wipe σ2 own1) H' fun σ3 H5 => wipe σ3 own1 = wipe σ2 own1 ∧ tMB g W0 tt1 σ3 H5 fun b H6 =>
            if b = true then tM g W0 te σ3 H6 fun y H7 => ∃ acc, H7 Dl = some (.lst acc) ∧ acc.length < sizeLine ∧ Nx1 (upd H7 Dl (.lst (acc ++ [y]))) else Nx1 H6)
        else Nx H3) := by
  have tD : TP H (upd H Dl (.lst [])) := TP.new hD
  have hr := hh.new hD (u := .lst []) (o := .lst []) ⟨[], upd_same, .nil⟩
  have eD : (ρ ++ [Dl])[L.length]? = some Dl := by rw [← hh.len]; simp
  let Wd : Nat → Nat → Hp → Prop := fun i m H1 => m = src.ds.length - i ∧ i ≤ src.ds.length ∧ ∃ ρ' L', ρ ++ [Dl] <+: ρ' ∧ TP H H1 ∧ HR g ρ' L' H1 ∧ LfD g ρ' H1 σ W (loopO src t tt mi1 t1 tt1 te own1 L.length (wipeE ε own) (src.ds.drop i) L') Q
  refine ⟨Wd, ⟨_, rfl, Nat.zero_le _, ρ ++ [Dl], _, List.prefix_refl _, tD, hr, LfD.mono (pre_snoc _ _) tD q⟩, ?_⟩
  rintro i m H2 ⟨rfl, hi, ρ2, L2, p2, t2, h2, q2⟩
  have p02 : ρ <+: ρ2 := (pre_snoc _ _).trans p2
  by_cases hok : src.ok L2 = true
  case neg =>
    cases hc : src.ds.drop i with
    | nil => rw [hc] at q2; unfold loopO at q2; rw [if_neg hok] at q2; exact q2.elim
    | cons d ds => rw [hc] at q2; unfold loopO at q2; rw [if_neg hok] at q2; exact q2.elim
  by_cases hlt : i < src.ds.length
  · obtain ⟨d, hd, hdr⟩ := drop_cons hlt
    rw [hdr] at q2
    unfold loopO at q2
    rw [if_pos hok] at q2
    refine .inr ⟨wk.go i ρ2 L2 H2 hlt p02 t2 h2 hok, Wd (i + 1) (src.ds.length - (i + 1)), fun H' n => ⟨src.ds.length - (i + 1), by omega, n⟩, fun x H3 y => ?_⟩
    obtain ⟨t3, h3, r3⟩ := wk.yld i d ρ2 L2 H2 x H3 hd p02 t2 h2 hok y
    have he3 : ER g ρ2 H3 (wipe σ own) (wipeE ε own) := (he.mono p02 (t2.trans t3)).wipes own
    cases ht : t.f d (wipeE ε own) with
    | none => rw [ht] at q2; exact q2.elim
    | some ε3 =>
      rw [ht] at q2
      have q3 := LfD.mono (List.prefix_refl _) t3 q2
      refine ⟨ρ2, _, d, ε3, he3, r3, ht, fun σ4 he4 u4 => ⟨by rw [wipe_upd u4 hsub, wipe_wipe], ε3, ρ2, L2, he4, h3, ?_⟩⟩
      refine Lf.nox (Lf.bind q3 fun b L5 v ρ5 H5 _ p5 t5 h5 r5 q5 => ?_)
      cases r5
      have p25 := p2.trans p5
      have t05 := (t2.trans t3).trans t5
      cases b with
      | false =>
        rw [if_neg (by decide)] at q5 ⊢
        exact ⟨rfl, hlt, ρ5, L5, p25, t05, h5, q5⟩
      | true =>
        rw [if_pos rfl] at q5 ⊢
        refine ⟨ε3, ρ5, L5, he4.mono p5 t5, h5, Lf.nox (Lf.bind q5 fun src1 L6 J1 ρ6 H6 _ p6 t6 h6 wk1 q6 => ?_)⟩
        refine comp2_in hsub1 wk1 (he4.mono (p5.trans p6) (t5.trans t6)) h6 (pre_get (p25.trans p6) eD) q6 fun ρ' L' H' p' t' h' q' => ?_
        exact ⟨rfl, hlt, ρ', L', (p25.trans p6).trans p', (t05.trans t6).trans t', h', q'⟩
  · have e : i = src.ds.length := by omega
    subst e
    rw [List.drop_length] at q2
    unfold loopO at q2
    rw [if_pos hok] at q2
    exact .inl ⟨wk.stop ρ2 L2 H2 p02 t2 h2 hok, q2 (.ref Dl) ρ2 H2 (List.prefix_refl _) (TP.refl _) h2 (.ref (pre_get p2 eD))⟩
end
theorem se_lc2 {elt tg iter tg1 iter1 : Expr} {ifs ifs1 : List Expr} {scope : Scope} {own : List (Str × Nat)} {own1 : List Nat} {pos : Pos} {mi mi1 : MI} {t t1 : MG} {tt tt1 : MB} {te : ME} (hc : X.calm = true) (hN : X.N.Nodup) (hi : PI X tg iter (tMI g W mi)) (ok : BlkOk X.N X.env.scope scope own)
    (hg : InBlk X scope fun Y => PG Y tg (tMG g t)) (ht : InBlk X scope fun Y => STs g Y ifs tt) (hi1 : InBlk X scope fun Y => PI Y tg1 iter1 (tMI g W0 mi1)) (hg1 : InBlk X scope fun Y => PG Y tg1 (tMG g t1)) (ht1 : InBlk X scope fun Y => STs g Y ifs1 tt1) (he : InBlk X scope fun Y => PE Y elt (tM g W0 te))
    (hsub : ∀ i ∈ t.is, i ∈ own.map (·.2) := by decide) (hsub1 : ∀ i ∈ t1.is, i ∈ own1 := by decide) (hv : ∀ i ∈ own1, i ∈ own.map (·.2) := by decide) (hs : ∀ x, foldedSetIterable iter X.env x = pure x := by intro _; rfl) (hs1 : ∀ env x, foldedSetIterable iter1 env x = pure x := by intro _ _; rfl) :
    PE X (.ListComp elt [⟨tg, iter, ifs, 0⟩, ⟨tg1, iter1, ifs1, 0⟩] scope pos) (tM g W (mComp2 (own.map (·.2)) own1 mi t tt mi1 t1 tt1 te)) :=
  (pe_lc2 hc hN hi ok hv hg (fun s H C cl fp => (ht s H C cl fp).h) hi1 hg1 (fun s H C cl fp => (ht1 s H C cl fp).h) he hs hs1).imp fun σ H Q q => by
    obtain ⟨ε, ρ, L, he, hh, q⟩ := q
    refine ⟨ε, ρ, L, he, hh, Lf.bind q fun src L1 J ρ1 H1 _ p1 t1 h1 wk q1 => fun Dl hD => ?_⟩
    exact comp2_turns hsub hsub1 wk (he.mono p1 t1) hD h1 q1
def iKeysF (w : World) (td : TE) : TI := fun σ H R => td σ H fun x H1 => ∃ d, x = .ref d ∧
  ((∃ xs, (∃ o, H1 d = some (.frz o (NdO w d xs)) ∧ R (ItkN w d o xs) H1) ∨ (H1 d = some (NdO w d xs) ∧ ∀ o, R (ItkN w d o xs) (upd H1 d (.frz o (NdO w d xs))))) ∨
   (∃ xs, (∃ o, H1 d = some (.frz o (.dK xs)) ∧ R (Itk d o xs) H1) ∨ (H1 d = some (.dK xs) ∧ ∀ o, R (Itk d o xs) (upd H1 d (.frz o (.dK xs))))))
theorem pi_keysF {tg e : Expr} {td : TE} (he : PE X e td) : PI X tg e (iKeysF X.w td) := by
  refine ⟨fun pins s σ H R I h => ?_⟩
  refine thn (he.run pins s σ H _ I h) fun u s1 ⟨x, H1, I1, rx, d, ex, q⟩ => ?_
  subst ex
  obtain rfl : u = Value.ref d := rx
  rcases q with ⟨xs, q⟩ | ⟨xs, q⟩
  · obtain ⟨o, H2, J, hd, q⟩ : ∃ o H2, Inv X pins σ H2 s1 ∧ H2 d = some (.frz o (NdO X.w d xs)) ∧ R (ItkN X.w d o xs) H2 := by
      rcases q with ⟨o, hd, q⟩ | ⟨hd, q⟩
      · exact ⟨o, H1, I1, hd, q⟩
      · obtain ⟨od, J⟩ := I1.lock hd (show Mut (some (NdO X.w d xs)) from True.intro)
        exact ⟨od, _, J, upd_same, q od⟩
    obtain ⟨hs, hgd, hx, es, ep, hdt, hsz, ent⟩ := Inv.frzN J hd
    refine iter_keys hs hgd hx hdt (pi_one (tk := s1.toks) J _ (turn_keysN _ hdt) ⟨_, Heap.get?_push_size _ rfl, rfl, ?_⟩ q)
    rw [hsz] <;> rfl
  · obtain ⟨o, H2, J, hd, q⟩ : ∃ o H2, Inv X pins σ H2 s1 ∧ H2 d = some (.frz o (.dK xs)) ∧ R (Itk d o xs) H2 := by
      rcases q with ⟨o, hd, q⟩ | ⟨hd, q⟩
      · exact ⟨o, H1, I1, hd, q⟩
      · obtain ⟨od, J⟩ := I1.lock hd (show Mut (some (.dK xs)) from True.intro)
        exact ⟨od, _, J, upd_same, q od⟩
    obtain ⟨hs, hgd, hx, es, ep, vs, hdt, hsz, kv, hm⟩ := J.frzK hd
    refine iter_keys hs hgd hx hdt (pi_one (tk := s1.toks) J _ (turn_keys _ hdt) ⟨_, Heap.get?_push_size _ rfl, rfl, ?_⟩ q)
    rw [hsz] <;> rfl
def mKeysF (a : ME) : MI := fun ε L => (a ε L).bind fun x L1 => match x with
  | .ref n => match L1[n]? with
    | some (.dic true ks) => .ok ⟨ks.map fun kv => keyOf kv.1, some (n, .dic true ks)⟩ L1
    | some (.dic false ks) => .ok ⟨ks.map fun kv => keyOf kv.1, some (n, .dic true ks)⟩ (L1.set n (.dic true ks))
    | some (.nd true ks) => .ok ⟨ks.map (·.1), some (n, .nd true ks)⟩ L1
    | some (.nd false ks) => .ok ⟨ks.map (·.1), some (n, .nd true ks)⟩ (L1.set n (.nd true ks))
    | _ => .bad
  | .tup ds => .ok ⟨ds, none⟩ L1
  | _ => .bad
theorem si_keysF {tg e : Expr} {a : ME} (h : PE X e (tM ⟨X.K, cm, fx, X.w⟩ W a)) : PI X tg e (tMI ⟨X.K, cm, fx, X.w⟩ W (mKeysF a)) :=
  (PI.or (pi_keysF h) (pi_tup h)).imp fun σ H R q => by
    obtain ⟨ε, ρ, L, he, hh, q⟩ := q
    by_cases ht : ∃ ds L1, a ε L = .ok (.tup ds) L1
    · obtain ⟨ds, L1, ht⟩ := ht
      refine .inr ⟨ε, ρ, L, he, hh, Lf.bind q fun x L1 v ρ1 H1 e1 p1 t1 h1 r1 q1 => ?_⟩
      rw [ht] at e1
      cases e1
      cases r1 with
      | tup s t => exact ⟨_, rfl, ⟨_, s.sq⟩, q1 _ ρ1 H1 (List.prefix_refl _) (TP.refl H1) h1 (wk_tup s.sq t)⟩
    · refine .inl ⟨ε, ρ, L, he, hh, Lf.bind q fun x L1 v ρ1 H1 e1 p1 t1 h1 r1 q1 => ?_⟩
      cases r1 with
      | tup s t => exact (ht ⟨_, _, e1⟩).elim
      | @ref n A ea =>
        refine ⟨A, rfl, ?_⟩
        simp only at q1
        split at q1
        · rename_i ks h2
          obtain ⟨vs, o, b1, b2⟩ := h1.ob _ _ _ h2 ea
          exact .inr ⟨vs, .inl ⟨o, b1, q1 _ ρ1 H1 (List.prefix_refl _) (TP.refl H1) h1 (wk_keysK b1 b2)⟩⟩
        · rename_i ks h2
          obtain ⟨vs, b1, b2⟩ := h1.ob _ _ _ h2 ea
          refine .inr ⟨vs, .inr ⟨b1, fun o => ?_⟩⟩
          have tt : TP H1 (upd H1 A (.frz o (.dK vs))) := TP.mut b1 rfl
          have nr := b2.mono (List.prefix_refl _) tt
          exact q1 _ ρ1 _ (List.prefix_refl _) tt (h1.set ea b1 rfl ⟨vs, o, upd_same, nr⟩) (wk_keysK upd_same nr)
        · rename_i ks h2
          obtain ⟨xs, o, b1, b2⟩ := h1.ob _ _ _ h2 ea
          exact .inl ⟨xs, .inl ⟨o, b1, q1 _ ρ1 H1 (List.prefix_refl _) (TP.refl H1) h1 (wk_keysN b1 b2)⟩⟩
        · rename_i ks h2
          obtain ⟨xs, b1, b2⟩ := h1.ob _ _ _ h2 ea
          refine .inl ⟨xs, .inr ⟨b1, fun o => ?_⟩⟩
          have tt : TP H1 (upd H1 A (.frz o (NdO X.w A xs))) := TP.mut b1 rfl
          have nr := b2.mono (List.prefix_refl _) tt
          exact q1 _ ρ1 _ (List.prefix_refl _) tt (h1.set ea b1 rfl ⟨xs, o, upd_same, nr⟩) (wk_keysN upd_same nr)
        · exact q1.elim
      | _ => exact q1.elim
end Tw
end
section
set_option Elab.async false
set_option linter.all false
set_option maxRecDepth 100000
set_option maxHeartbeats 4000000
namespace Tw
open PySem PySem.Spec PyProof.Rows L2
variable {g : Gx} {ρ ρ' : List Addr} {H H' : Hp} {X : Cx} {W : WX} {L : List O} {cm : Nat → Addr} {fx : Hp} {pins : List (Addr × Obj)} {σ : L2.St} {s : Shared}
theorem peOr {e : Expr} {t t' : TE} (h : PE X e t) (h' : PE X e t') : PE X e (fun σ H R => t σ H R ∨ t' σ H R) := ⟨fun pins s σ H Q I q => q.elim (h.run pins s σ H Q I) (h'.run pins s σ H Q I)⟩
def tagA (L : List O) (x : D) : Option Tag := match x with
  | .ref n => match L[n]? with
    | some (.dic _ _) => some .dic
    | some (.nd _ _) => some .dic
    | some (.gen .rd _) => some .dic
    | _ => tagD L x
  | _ => tagD L x
/-- what is a dict, as the heap has it -/
def DctO (w : World) (a : Addr) (u : HO) : Prop := ∀ (P : Program) (H : Hp) (h : Heap), ObjOk P w H h a u → ∃ o, h.get? a = some o ∧ o.cls = .type "dict"
theorem dct_dK {w : World} {a : Addr} {ks : List (Key × V)} : DctO w a (.dK ks) := fun P H h ⟨_, _, vs, _, o, es, ep, h1, h2, _⟩ => ⟨o, h1, h2.1⟩
theorem dct_nd {w : World} {a : Addr} {xs : List (NestedKey × Addr × V)} : DctO w a (NdO w a xs) := fun P H h ⟨⟨_, _, _, ys, _, o, es, ep, h5, h6, _⟩, _⟩ => ⟨o, h5, h6.1⟩
theorem dct_frz {w : World} {a : Addr} {o : Obj} {u : HO} (d : DctO w a u) : DctO w a (.frz o u) := fun P H h ⟨_, q⟩ => d P H h q
theorem dct_pin {w : World} {a : Addr} {o : Obj} (x : o.ExactDict) : DctO w a (PinO a o) := fun P H h ⟨q, _⟩ => ⟨o, q, x.1⟩
theorem tagA_ok {x : D} {v : V} {t : Tag} (hh : HR g ρ L H) (r : VR g ρ H x v) (e : tagA L x = some t) (hi : ∀ c, t = .ins c → InsTy g.K (g.cm c)) : TyX g.K H v (tagV g.cm t) ∨ (t = .dic ∧ ∃ a u, v = .ref a ∧ H a = some u ∧ DctO g.w a u) := by
  unfold tagA at e
  split at e
  · rename_i n
    cases r with
    | @ref _ A ea =>
      split at e
      · rename_i lk ks h1
        cases e
        refine .inr ⟨rfl, A, ?_⟩
        cases lk with
        | false => obtain ⟨vs, b1, _⟩ := hh.ob _ _ _ h1 ea; exact ⟨_, rfl, b1, dct_dK⟩
        | true => obtain ⟨vs, o, b1, _⟩ := hh.ob _ _ _ h1 ea; exact ⟨_, rfl, b1, dct_frz dct_dK⟩
      · rename_i lk ks h1
        cases e
        refine .inr ⟨rfl, A, ?_⟩
        cases lk with
        | false => obtain ⟨xs, b1, _⟩ := hh.ob _ _ _ h1 ea; exact ⟨_, rfl, b1, dct_nd⟩
        | true => obtain ⟨xs, o, b1, _⟩ := hh.ob _ _ _ h1 ea; exact ⟨_, rfl, b1, dct_frz dct_nd⟩
      · rename_i ds h1
        cases e
        obtain ⟨vs, o, b1, b2, _⟩ := hh.ob _ _ _ h1 ea
        exact .inr ⟨rfl, A, _, rfl, b1, dct_frz (dct_pin b2.2.1)⟩
      · exact .inl (tag_ok hh (.ref ea) e hi)
  · exact .inl (tag_ok hh r e hi)
def rIsiA (K : PySem.W.Frag) (w : World) : List V → Hp → VK → Prop := fun xs H Q => ∃ (x c : V) (t u : Value) (b : Bool), xs = [x, c] ∧ ClsV c u ∧ (TyX K H x t ∨ (t = .type "dict" ∧ ∃ a z, x = .ref a ∧ H a = some z ∧ DctO w a z)) ∧ PySem.W.kitOne K t u = some b ∧ Q (.bl b) H
theorem call_isiA : CallR X (.builtin "isinstance") (rIsiA X.K X.w) := by
  intro pins s σ H xs us Q I r h
  obtain ⟨x, c, t, u, b, rfl, k, ty, e, q⟩ := h
  rcases ty with ty | ⟨rfl, a, z, rfl, hz, d⟩
  · exact call_isi pins s σ H _ us Q I r ⟨x, c, t, u, b, rfl, k, ty, e, q⟩
  · obtain ⟨u1, u2, rfl, r1, r2⟩ := vals2 r
    have e2 := k.eq r2
    subst e2
    cases (show u1 = Value.ref a from r1)
    obtain ⟨o, h1, h2⟩ := d _ _ _ (I.hok a _ hz)
    exact PySem.W.kia_one PySem.W.kitx_dict I.kIn ⟨o, h1, h2⟩ e (fun z => nomatch z) fun tk => ⟨.bl b, H, I.tok tk, rfl, q⟩
def mIsiA (f : Tag → Option Bool) (a : ME) : ME := fun ε L => (a ε L).bind fun x L1 => match (tagA L1 x).bind f with
  | some b => .ok (.bl b) L1
  | none => .bad
theorem se_isiA {f : Tag → Option Bool} {e eT : Expr} {a : ME} {c : V} {u : Value} {p pos : Pos} (hm : X.mg "isinstance" = none) (ha : PE X e (tM ⟨X.K, cm, fx, X.w⟩ W a)) (hT : PE X eT (tC c)) (hc : ClsV c u)
    (hf : ∀ t b, f t = some b → PySem.W.kitOne X.K (tagV cm t) u = some b) (hi : ∀ c b, f (.ins c) = some b → InsTy X.K (cm c)) (hg : Gl X "isinstance" := by rfl)
    (he : starEach [e, eT] X.env = (false, eval e X.env) :: starEach [eT] X.env := by rfl) (he2 : starEach [eT] X.env = (false, eval eT X.env) :: starEach [] X.env := by rfl) (hpl : (backTo pos (starEach [eT] X.env)).any (·.1) = false := by rfl) :
    PE X (.Call (.Name "isinstance" p) [e, eT] [] pos) (tM ⟨X.K, cm, fx, X.w⟩ W (mIsiA f a)) :=
  (pe_callB call_isiA hg hm (by decide +kernel) (pa_cons ha (pa_cons hT pa_nil he2) he) (by decide) (by decide) he hpl).imp fun σ H Q q => by
    obtain ⟨ε, ρ, L, he, hh, q⟩ := q
    refine ⟨ε, ρ, L, he, hh, Lf.bind q fun x L1 v ρ1 H1 e1 p1 t1 h1 r1 q1 => ?_⟩
    cases ht : tagA L1 x with
    | none => rw [ht] at q1; exact q1.elim
    | some t =>
      rw [ht] at q1
      simp only [Option.bind_some] at q1
      cases hb : f t with
      | none => rw [hb] at q1; exact q1.elim
      | some b =>
        rw [hb] at q1
        have ty := tagA_ok h1 r1 ht (fun c e => hi c b (by rw [← e]; exact hb))
        refine ⟨v, c, tagV cm t, u, b, rfl, hc, ty.imp id (fun ⟨e, q⟩ => ⟨by rw [e]; rfl, q⟩), hf t b hb, ?_⟩
        exact q1 (.bl b) ρ1 H1 (List.prefix_refl _) (TP.refl H1) h1 (.bl b)
theorem isiT_kit {K : PySem.W.Frag} {T : Tag} {cs : List Nat} (hcs : ∀ c ∈ cs, InsTy K (cm c) ∧ PySem.W.kitOne K (.ref (cm c)) (.type (tagN T)) = some false) (hT : ∀ c, T ≠ .ins c) (hn : T ≠ .non) (t : Tag) (b : Bool) (hb : isiT T cs t = some b) : PySem.W.kitOne K (tagV cm t) (.type (tagN T)) = some b := by
  cases t with
  | ins c =>
    simp only [isiT] at hb
    split at hb
    · rename_i hc
      cases hb
      exact (hcs c hc).2
    · cases hb
  | non => cases hb; exact kit_ty (kit_tab T .non hT hn (by intro c h; cases h))
  | bl => cases hb; exact kit_ty (kit_tab T .bl hT hn (by intro c h; cases h))
  | int => cases hb; exact kit_ty (kit_tab T .int hT hn (by intro c h; cases h))
  | str => cases hb; exact kit_ty (kit_tab T .str hT hn (by intro c h; cases h))
  | tup => cases hb; exact kit_ty (kit_tab T .tup hT hn (by intro c h; cases h))
  | lst => cases hb; exact kit_ty (kit_tab T .lst hT hn (by intro c h; cases h))
  | dic => cases hb; exact kit_ty (kit_tab T .dic hT hn (by intro c h; cases h))
/-- isinstance(x, T), T a built-in type -/
theorem se_isiBA {cm : Nat → Addr} {fx : Hp} (T : Tag) (cs : List Nat) {e : Expr} {a : ME} {x : Str} {p p2 pos : Pos} (hm : X.mg "isinstance" = none) (hmT : X.mg x = none) (ha : PE X e (tM ⟨X.K, cm, fx, X.w⟩ W a))
    (hcs : ∀ c ∈ cs, InsTy X.K (cm c) ∧ PySem.W.kitOne X.K (.ref (cm c)) (.type (tagN T)) = some false) (hT : ∀ c, T ≠ .ins c) (hn : T ≠ .non)
    (hv : bootBuiltins x = some (.type (tagN T)) := by decide +kernel) (hgT : Gl X x := by rfl) (hnx : x ≠ "__name__" := by decide) (hdb : (x == ("__debug__" : Str)) = false := by decide) (hg : Gl X "isinstance" := by rfl)
    (he : starEach [e, .Name x p2] X.env = (false, eval e X.env) :: starEach [.Name x p2] X.env := by rfl) (he2 : starEach [.Name x p2] X.env = (false, eval (.Name x p2) X.env) :: starEach [] X.env := by rfl) (hpl : (backTo pos (starEach [.Name x p2] X.env)).any (·.1) = false := by rfl) :
    PE X (.Call (.Name "isinstance" p) [e, .Name x p2] [] pos) (tM ⟨X.K, cm, fx, X.w⟩ W (mIsiA (isiT T cs) a)) :=
  se_isiA (cm := cm) hm ha (pe_bltn hgT hmT hv (v := .ty (tagN T)) rfl hnx hdb) (.ty _) (isiT_kit hcs hT hn) (fun c b hb => by
    simp only [isiT] at hb
    split at hb
    · rename_i hc
      exact (hcs c hc).1
    · cases hb) hg he he2 hpl
theorem vals_pair {es : List DictEntry} {v : Value} (h : Pairs (leafKind X.prog X.w) es [(Leaf.none, v)]) : ∃ e, es = [e] ∧ e.key = .none ∧ e.val = v := by
  cases h with
  | cons a b c =>
    cases c
    rename_i e
    refine ⟨e, rfl, ?_, b⟩
    have a : Leaf.isOf .none e.key = true := a
    cases hk : e.key <;> rw [hk] at a <;> first | rfl | (exact absurd a (by decide)) | (unfold Leaf.isOf at a; cases a)
theorem pe_dicR {ek ev : Expr} {tk tv : TE} {pos : Pos} (hk : PE X ek tk) (hv : PE X ev tv) : PE X (.Dict [some ek] [ev] pos) (fun σ H Q => ∀ p, H p = none → tk σ (upd H p (.dK [])) fun x H1 => tv σ H1 fun y H2 => x = .non ∧ H2 p = some (.dK []) ∧ ∀ o, GenR cm p o .rd [.non, y] → Q (.ref p) (upd H2 p (.frz o (PinO p o)))) := by
  refine ⟨fun pins s σ H Q I q => ?_⟩
  have hn := I.hok.fresh (Nat.le_refl s.heap.objs.size)
  have I1 := I.laid (a := s.heap.objs.size) (o := .dK []) (h' := s.heap.push { cls := .type "dict", data := .dict #[] }) (t' := s.toks) (fun _ _ q => Heap.get?_push_of_some _ q) (Nat.le_refl _) (dk_empty s.heap I.big)
  refine wpAny_Dict_walk (knd := leafKind X.prog X.w) rfl rfl (by simp) (show 1 ≤ 15 by decide) (pairTrees_cons_walk (thn (hk.run pins _ σ _ _ I1 (q _ hn)) fun u s1 ⟨x, H1, I2, rx, q1⟩ => thn (hv.run pins s1 σ H1 _ I2 q1) fun v s2 ⟨y, H2, I3, ry, ex, hp, q2⟩ => pairTrees_nil_walk ?_))
  subst ex
  obtain rfl : u = Value.none := rx
  obtain ⟨z, hd, vs0, r0, o, es, ep, h1, h2, h3, h4, h5, h6⟩ := dk_of I3.hok hp
  cases r0
  have hes : es = #[] := by
    have : es.toList = [] := by
      generalize es.toList = l at h5
      cases h5
      rfl
    exact Array.toList_eq_nil_iff.mp this
  subst hes
  refine ⟨[(Leaf.none, v)], ⟨rfl, rfl, trivial⟩, ⟨o, #[], ep, h1, h2, h3, fun e h => absurd h (by simp), .nil, List.nodup_nil⟩, fun h' hd' hs => ?_⟩
  obtain ⟨o', es', ep', g1, g2, g3, g4, g5, g6⟩ := hd'
  have g5 : Pairs (leafKind X.prog X.w) es'.toList [(Leaf.none, v)] := g5
  obtain ⟨en, e1, e2, e3⟩ := vals_pair g5
  refine ⟨.ref s.heap.objs.size, _, d_write I3 (by rw [hp]; exact True.intro) hs ⟨o', g1⟩ (ob := .frz o' (PinO s.heap.objs.size o')) ⟨g1, g1, ⟨o', g1⟩, fun _ _ q k => k _ q⟩, rfl, q2 o' ⟨hd, g2, es', ep', g3, ?_⟩⟩
  rw [e1]
  exact .cons (by show RelV .non en.key; rw [e2]; rfl) (.cons (by rw [e3]; exact ry) .nil)
def mDicR (k v : ME) : ME := fun ε L => (k ε (L ++ [.dic false []])).bind fun x L1 => (v ε L1).bind fun y L2 => match x with
  | .non => match L2[L.length]? with
    | some (.dic false []) => .ok (.ref L.length) (L2.set L.length (.gen .rd [.non, y]))
    | _ => .bad
  | _ => .bad
theorem se_dicR {ek ev : Expr} {k v : ME} {pos : Pos} (hk : PE X ek (tM ⟨X.K, cm, fx, X.w⟩ W k)) (hv : PE X ev (tM ⟨X.K, cm, fx, X.w⟩ W v)) : PE X (.Dict [some ek] [ev] pos) (tM ⟨X.K, cm, fx, X.w⟩ W (mDicR k v)) :=
  (pe_dicR (cm := cm) hk hv).imp fun σ H Q q => by
    obtain ⟨ε, ρ, L, he, hh, q⟩ := q
    intro p hp
    have t0 : TP H (upd H p (.dK [])) := TP.new hp
    have h0 : HR ⟨X.K, cm, fx, X.w⟩ (ρ ++ [p]) (L ++ [.dic false []]) (upd H p (.dK [])) := hh.new hp (u := .dK []) (o := .dic false []) ⟨[], upd_same, .nil⟩
    have e0 : (ρ ++ [p])[L.length]? = some p := by rw [← hh.len]; simp
    refine ⟨ε, ρ ++ [p], _, (he.mono (pre_snoc _ _) t0), h0, Lf.bind (LfD.mono (pre_snoc _ _) t0 q) fun x L1 xv ρ1 H1 _ p1 t1 h1 r1 q1 => ?_⟩
    refine ⟨ε, ρ1, L1, (he.mono (pre_snoc _ _) t0).mono p1 t1, h1, Lf.bind q1 fun y L2 yv ρ2 H2 _ p2 t2 h2 r2 q2 => ?_⟩
    split at q2
    · split at q2
      · rename_i hL
        cases r1
        have e2 : ρ2[L.length]? = some p := pre_get (p1.trans p2) e0
        obtain ⟨ws, w1, w2⟩ := h2.ob _ _ _ hL e2
        cases w2
        refine ⟨rfl, w1, fun o go => ?_⟩
        have t3 : TP H2 (upd H2 p (.frz o (PinO p o))) := TP.mut w1 rfl
        exact q2 _ ρ2 _ (List.prefix_refl _) t3 (h2.set e2 w1 rfl ⟨[.non, yv], o, upd_same, go, .cons .non (.cons (r2.mono (List.prefix_refl _) t3) .nil)⟩) (.ref e2)
      · exact q2.elim
    · exact q2.elim
/-- {k: v}, k a nested tuple, a number, a text, None -/
def mDicA (k v : ME) : ME := fun ε L => match k ε (L ++ [.dic false []]) with
  | .ok .non _ => mDicR k v ε L
  | .ok (.tup _) _ => mNd1 k v ε L
  | _ => mDic1 k v ε L
theorem se_dicA (hu : X.A.units + 65 < cLine) {ek ev : Expr} {k v : ME} {pos : Pos} (hk : PE X ek (tM ⟨X.K, cm, fx, X.w⟩ W k)) (hv : PE X ev (tM ⟨X.K, cm, fx, X.w⟩ W v)) : PE X (.Dict [some ek] [ev] pos) (tM ⟨X.K, cm, fx, X.w⟩ W (mDicA k v)) :=
  (peOr (se_dicR hk hv) (peOr (se_nd1 hu hk hv) (se_dic1 hk hv))).imp fun σ H Q q => by
    obtain ⟨ε, ρ, L, he, hh, q⟩ := q
    unfold mDicA at q
    split at q
    · exact .inl ⟨ε, ρ, L, he, hh, q⟩
    · exact .inr (.inl ⟨ε, ρ, L, he, hh, q⟩)
    · exact .inr (.inr ⟨ε, ρ, L, he, hh, q⟩)
def EntF (X : Cx) (d : Addr) (o : Obj) (u : HO) (ps : List (V × V)) : Prop := ∀ (pins : List (Addr × Obj)) (σ : L2.St) (H : Hp) (s : Shared), Inv X pins σ H s → H d = some (.frz o u) →
  (d == sysModules) = false ∧ s.heap.get? d = some o ∧ o.ExactDict ∧ ∃ (es : Array DictEntry) (ep : Nat), o.data = .dict es ep ∧ EntsR ps es
def ItF (d : Addr) (o : Obj) (ps : List (V × V)) : It :=
  ⟨fun i H => (∃ u, H d = some (.frz o u)) ∧ i < ps.length, fun i H x H' => ∃ T p, ps[i]? = some p ∧ x = .ref T ∧ H T = none ∧ H' = upd H T (.tup [p.1, p.2]), fun i H => (∃ u, H d = some (.frz o u)) ∧ ps.length ≤ i⟩
theorem turn_itF {P : Program} {w : World} {K : PySem.W.Frag} {elts : List Expr} {kk : Nat} {tpos : Pos} {d : Addr} {o : Obj} {es : Array DictEntry} {ep : Nat} {ps : List (V × V)} (it : Addr) (hx : o.ExactDict) (hdt : o.data = .dict es ep) (en : EntsR ps es) :
    Turn P w K (.Tuple elts kk tpos) (ItF d o ps) [it] it (fun i h => ∃ ok ov, IsItemIter h it d i ps.length ep ok ov) where
  mem := by simp
  obj := fun i h ⟨ok, ov, e⟩ b hb => by
    obtain rfl : b = it := by simpa using hb
    exact ⟨_, e, fun v z => nomatch z⟩
  keep := fun i h h' ⟨ok, ov, e⟩ k => ⟨ok, ov, k it (by simp) _ e⟩
  item := by
    intro X hP hw hK hc i pins s σ H E I hf st hg
    subst hP hw hK
    obtain ⟨⟨u0, hd⟩, hi⟩ := hg
    have hgd : s.heap.get? d = some o := (I.hok d _ hd).1
    obtain ⟨hsz, ent⟩ := en
    obtain ⟨p, hp⟩ : ∃ p, ps[i]? = some p := ⟨ps[i], List.getElem?_eq_getElem hi⟩
    obtain ⟨en, hen, r1, r2⟩ := ent i p hp
    obtain ⟨hlt, een⟩ := Array.getElem?_eq_some_iff.mp hen
    obtain ⟨ok, ov, he⟩ := st
    rw [← hsz] at he
    have hitl : it < s.heap.objs.size := Heap.lt_size he
    refine wpAny_pyNext_items_item_raw he ⟨o, hgd, hx, hdt⟩ hlt fun h' ho hT hz hk => ?_
    rw [een] at ho hT
    refine ⟨_, rfl, wpAny_letOwnedTupleGo_items (s := { s with heap := h' }) ho fun h'' he' sb => ?_⟩
    have hT2 : h''.get? s.heap.objs.size = some { cls := .type "tuple", data := .seq #[en.key, en.val] } := (sb.2 _ (Nat.ne_of_gt hitl)).trans hT
    have I1 : Inv X pins σ (upd H s.heap.objs.size (.tup [p.1, p.2])) { s with heap := h'' } :=
      I.turnedNew (t' := s.toks) (ch := [it]) (fun b ob hb e => (sb.2 b (by simpa using hb)).trans (hk b ob (by simpa using hb) e)) hf (Nat.le_refl _) ⟨by show 2 ≤ sizeLine; decide, [en.key, en.val], .cons r1 (.cons r2 .nil), ⟨_, hT2, rfl, _, rfl⟩⟩
    refine ⟨.ref s.heap.objs.size, _, I1, rfl, ⟨_, p, hp, rfl, I.hok.fresh (Nat.le_refl _), rfl⟩, ⟨en.key, en.val, by rw [← hsz]; exact he'⟩, fun b hb => ?_⟩
    obtain rfl : b = it := by simpa using hb
    rw [upd_ne (Nat.ne_of_lt hitl)]
    exact (hf b (by simp)).1
  done := by
    intro X hP hw hK hc i pins s σ H E I hf st hg
    subst hP hw hK
    obtain ⟨⟨u0, hd⟩, hi⟩ := hg
    have hgd : s.heap.get? d = some o := (I.hok d _ hd).1
    obtain ⟨hsz, ent⟩ := en
    obtain ⟨f0, f1, f2, f3, f4, f5⟩ := hf it (by simp)
    obtain ⟨ok, ov, he⟩ := st
    rw [← hsz] at he hi
    exact wpAny_pyNext_items_end_raw (I.ok.hd hc) he ⟨o, hgd, hx, hdt⟩ hi fun h' eb => ⟨rfl, I.turned (t' := s.toks) (fun b ob hb e => eb b ob hb e) f0 f1 f3 f4 f5⟩
  self := fun A i s Q E ⟨_, _, e⟩ h => PySem.W.kcp_self e h
def iItF (X : Cx) (td : TE) : TI := fun σ H R => td σ H fun x H1 => ∃ d ps, x = .ref d ∧ ((∃ o u, H1 d = some (.frz o u) ∧ EntF X d o u ps ∧ R (ItF d o ps) H1) ∨ (∃ u, H1 d = some u ∧ Mut (some u) ∧ ∀ o, EntF X d o u ps ∧ R (ItF d o ps) (upd H1 d (.frz o u))))
theorem pi_itF {elts : List Expr} {kk : Nat} {tpos apos cpos : Pos} {e : Expr} {td : TE} (he : PE X e td) (hbase : attributeBase e "items" X.env (eval e X.env) = eval e X.env := by rfl) (hline : (apos.endLine == cpos.line) = true := by rfl) :
    PI X (.Tuple elts kk tpos) (.Call (.Attribute e "items" apos) [] [] cpos) (iItF X td) := by
  refine ⟨fun pins s σ H R I h => ?_⟩
  refine wpAny_Call_method (T := "dict") (id := "dict.items") hbase rfl hline F.plainAttrs_dict F.slot_dict_items F.type_dict_items (thn (he.run pins s σ H _ I h) fun u s1 ⟨x, H1, I1, rx, d, ps, ex, q⟩ => ?_)
  subst ex
  obtain rfl : u = Value.ref d := rx
  obtain ⟨o, u, H2, J, hd, ef, q⟩ : ∃ o u H2, Inv X pins σ H2 s1 ∧ H2 d = some (.frz o u) ∧ EntF X d o u ps ∧ R (ItF d o ps) H2 := by
    rcases q with ⟨o, u, hd, ef, q⟩ | ⟨u, hd, mu, q⟩
    · exact ⟨o, u, H1, I1, hd, ef, q⟩
    · obtain ⟨od, J⟩ := I1.lock hd mu
      exact ⟨od, u, _, J, upd_same, (q od).1, (q od).2⟩
  obtain ⟨hs, hgd, hx, es, ep, hdt, ent⟩ := ef pins σ H2 s1 J hd
  refine ⟨⟨o, hgd, hx.1⟩, fun b z => by cases z; exact ⟨o, hgd, hx.2.1⟩, ?_⟩
  have J2 : Inv X pins σ H2 { s1 with heap := s1.heap.push { cls := .type "dict_items", data := .fields #[.ref d] } } := J.kept (t' := s1.toks) fun b ob q => Heap.get?_push_of_some _ q
  have raw : Heap.DictRaw (s1.heap.push { cls := .type "dict_items", data := .fields #[.ref d] }) d es ep := ⟨o, Heap.get?_push_of_some _ hgd, hx, hdt⟩
  have fin : wpAny (model X.prog X.w) X.A (pyIter (.ref s1.heap.objs.size)) (PIE X pins σ (.Tuple elts kk tpos) R) X.xe { s1 with heap := s1.heap.push { cls := .type "dict_items", data := .fields #[.ref d] } } := by
    refine wpAny_pyIter_items_raw (d := d) ⟨_, Heap.get?_push_size _ rfl, rfl, rfl⟩ raw (pi_one (tk := s1.toks) J2 _ (turn_itF _ hx hdt ent) ⟨.none, .none, ?_⟩ q)
    rw [← ent.1]
    exact Heap.get?_push_size _ rfl
  show wpAny _ _ (callWith cpos (.builtin "dict.items") [.ref d] [] []) _ X.xe s1
  exact method_meetsIn F.slot_dict_items F.entry_dict_items rfl (PySem.evalArgs_none ⟨rfl, ⟨o, hgd, hx.1⟩, F.args_dict_items_1 _, _, meets_dict_items_raw d hs, ⟨⟨es, ep, o, hgd, hx, hdt⟩, fin⟩⟩)
theorem entF_nd {d : Addr} {o : Obj} {xs : List (NestedKey × Addr × V)} : EntF X d o (NdO X.w d xs) (pairsN xs) := fun pins σ H s I h => frzN_ents I h
def pairsK (ks : List (Key × V)) : List (V × V) := ks.map fun kv => (kV kv.1, kv.2)
theorem entF_dK {d : Addr} {o : Obj} {ks : List (Key × V)} : EntF X d o (.dK ks) (pairsK ks) := fun pins σ H s I h => by
  obtain ⟨hg, _, hs, vs, kv, o', es, ep, h1, h2, h3, h4, h5, h6⟩ := I.hok d _ h
  rw [hg] at h1
  cases h1
  refine ⟨hs, hg, h2, es, ep, h3, ?_, fun i p hp => ?_⟩
  · rw [← Array.length_toList, h5.length, ← kv.length]; unfold pairsK; rw [List.length_map]
  · rw [← Array.getElem?_toList]
    have key : ∀ {ks : List (Key × V)} {vs : List (Key × Value)} {es : List DictEntry}, KV ks vs → Pairs (mixKind X.prog X.w) es vs → ∀ (i : Nat) (p : V × V), (pairsK ks)[i]? = some p → ∃ en, es[i]? = some en ∧ RelV p.1 en.key ∧ RelV p.2 en.val := by
      intro ks
      induction ks with
      | nil => intro vs es _ _ i p hp; cases i <;> cases hp
      | cons k ks ih =>
        intro vs es kv hp i p e
        cases kv with
        | cons q1 q2 =>
          cases hp with
          | cons b1 b2 b3 =>
            cases i with
            | zero =>
              cases e
              refine ⟨_, rfl, ?_, by rw [b2]; exact q1.2⟩
              rw [← q1.1] at b1
              rcases keyIs_shape b1 with ⟨j, t, e1, e2⟩ | ⟨x, t, e1, e2⟩
              · rw [e2]; show RelV (kV k.1) _; rw [e1]; exact ⟨t, rfl⟩
              · rw [e2]; show RelV (kV k.1) _; rw [e1]; exact ⟨t, rfl⟩
            | succ i => exact ih q2 b3 i p e
    exact key kv h5 i p hp
theorem entF_rd {d : Addr} {o : Obj} {x y : V} (gr : GenR cm d o .rd [x, y]) : EntF X d o (PinO d o) [(x, y)] := fun pins σ H s I h => by
  obtain ⟨hs, hx, es, ep, hdt, vv⟩ := gr
  refine ⟨hs, (I.hok d _ h).1, hx, es, ep, hdt, ?_⟩
  have key : ∀ {l : List DictEntry}, Vals [x, y] (l.flatMap fun e => [e.key, e.val]) → ∃ en, l = [en] ∧ RelV x en.key ∧ RelV y en.val := fun {l} h => by
    cases l with
    | nil => cases h
    | cons a l =>
      cases l with
      | nil => cases h with | cons r1 t => cases t with | cons r2 _ => exact ⟨a, rfl, r1, r2⟩
      | cons b l => cases h with | cons _ t => cases t with | cons _ t => cases t
  obtain ⟨en, e1, e2, e3⟩ := key vv
  refine ⟨by rw [← Array.length_toList, e1]; rfl, fun i p hp => ?_⟩
  rw [← Array.getElem?_toList, e1]
  cases i with
  | zero => cases hp; exact ⟨en, rfl, e2, e3⟩
  | succ i => cases i <;> cases hp
def itemsK (ks : List (Key × D)) : List D := ks.map fun kv => .tup [keyOf kv.1, kv.2]
/-- items, the dict is locked from now on -/
def mItemsA (a : ME) : MI := fun ε L => (a ε L).bind fun x L1 => match x with
  | .ref n => match L1[n]? with
    | some (.dic true ks) => .ok ⟨itemsK ks, some (n, .dic true ks)⟩ L1
    | some (.dic false ks) => .ok ⟨itemsK ks, some (n, .dic true ks)⟩ (L1.set n (.dic true ks))
    | some (.nd true ks) => .ok ⟨itemsN ks, some (n, .nd true ks)⟩ L1
    | some (.nd false ks) => .ok ⟨itemsN ks, some (n, .nd true ks)⟩ (L1.set n (.nd true ks))
    | some (.gen .rd [k, v]) => .ok ⟨[.tup [k, v]], some (n, .gen .rd [k, v])⟩ L1
    | _ => .bad
  | _ => .bad
theorem wk_itF {ds : List D} {ps : List (V × V)} {n : Nat} {ob : O} {a : Addr} {o : Obj} {u : HO} (h : H a = some (.frz o u)) (r : Paired (fun (d : D) (p : V × V) => ∃ k v, d = .tup [k, v] ∧ VR g ρ H k p.1 ∧ VR g ρ H v p.2) ds ps) : Wk g ρ H ⟨ds, some (n, ob)⟩ (ItF a o ps) where
  go := fun i ρ' L' H' hi p tt hh ok => ⟨⟨u, tt.frz a o _ h⟩, by rw [← Paired.length r]; exact hi⟩
  stop := fun ρ' L' H' p tt hh ok => ⟨⟨u, tt.frz a o _ h⟩, by rw [← Paired.length r]; exact Nat.le_refl _⟩
  yld := fun i d ρ' L' H' x H2 e p tt hh ok y => by
    obtain ⟨T, pr, hk, rfl, hT, rfl⟩ := y
    obtain ⟨pr', h1, k, v, rfl, r1, r2⟩ := paired_get r e
    rw [hk] at h1
    cases h1
    exact ⟨TP.new hT, hh.fresh hT _, .tup (.inl upd_same) (.cons (r1.mono p (tt.trans (TP.new hT))) (.cons (r2.mono p (tt.trans (TP.new hT))) .nil))⟩
theorem pr_K : ∀ {ks : List (Key × D)} {vs : List (Key × V)}, KR g ρ H ks vs → Paired (fun (d : D) (p : V × V) => ∃ k v, d = .tup [k, v] ∧ VR g ρ H k p.1 ∧ VR g ρ H v p.2) (itemsK ks) (pairsK vs)
  | _, _, .nil => .nil
  | _, _, .cons r t => .cons ⟨_, _, rfl, vr_key _, r⟩ (pr_K t)
theorem pr_N : ∀ {ks : List (D × D)} {xs : List (NestedKey × Addr × V)}, NR g ρ H ks xs → Paired (fun (d : D) (p : V × V) => ∃ k v, d = .tup [k, v] ∧ VR g ρ H k p.1 ∧ VR g ρ H v p.2) (itemsN ks) (pairsN xs)
  | _, _, .nil => .nil
  | _, _, .cons a b r q t => .cons ⟨_, _, rfl, r, q⟩ (pr_N t)
theorem si_itA {elts : List Expr} {kk : Nat} {tpos apos cpos : Pos} {e : Expr} {a : ME} (h : PE X e (tM ⟨X.K, cm, fx, X.w⟩ W a)) (hbase : attributeBase e "items" X.env (eval e X.env) = eval e X.env := by rfl) (hline : (apos.endLine == cpos.line) = true := by rfl) : PI X (.Tuple elts kk tpos) (.Call (.Attribute e "items" apos) [] [] cpos) (tMI ⟨X.K, cm, fx, X.w⟩ W (mItemsA a)) :=
  (pi_itF h hbase hline).imp fun σ H R q => by
    obtain ⟨ε, ρ, L, he, hh, q⟩ := q
    refine ⟨ε, ρ, L, he, hh, Lf.bind q fun x L1 v ρ1 H1 e1 p1 t1 h1 r1 q1 => ?_⟩
    cases r1 with
    | @ref n A ea =>
      simp only at q1
      split at q1
      · rename_i ks h2
        obtain ⟨vs, o, b1, b2⟩ := h1.ob _ _ _ h2 ea
        exact ⟨A, _, rfl, .inl ⟨o, _, b1, entF_dK, q1 _ ρ1 H1 (List.prefix_refl _) (TP.refl H1) h1 (wk_itF b1 (pr_K b2))⟩⟩
      · rename_i ks h2
        obtain ⟨vs, b1, b2⟩ := h1.ob _ _ _ h2 ea
        refine ⟨A, _, rfl, .inr ⟨_, b1, True.intro, fun o => ⟨entF_dK, ?_⟩⟩⟩
        have tt : TP H1 (upd H1 A (.frz o (.dK vs))) := TP.mut b1 rfl
        have nr := b2.mono (List.prefix_refl _) tt
        exact q1 _ ρ1 _ (List.prefix_refl _) tt (h1.set ea b1 rfl ⟨vs, o, upd_same, nr⟩) (wk_itF upd_same (pr_K nr))
      · rename_i ks h2
        obtain ⟨xs, o, b1, b2⟩ := h1.ob _ _ _ h2 ea
        exact ⟨A, _, rfl, .inl ⟨o, _, b1, entF_nd, q1 _ ρ1 H1 (List.prefix_refl _) (TP.refl H1) h1 (wk_itF b1 (pr_N b2))⟩⟩
      · rename_i ks h2
        obtain ⟨xs, b1, b2⟩ := h1.ob _ _ _ h2 ea
        refine ⟨A, _, rfl, .inr ⟨_, b1, True.intro, fun o => ⟨entF_nd, ?_⟩⟩⟩
        have tt : TP H1 (upd H1 A (.frz o (NdO X.w A xs))) := TP.mut b1 rfl
        have nr := b2.mono (List.prefix_refl _) tt
        exact q1 _ ρ1 _ (List.prefix_refl _) tt (h1.set ea b1 rfl ⟨xs, o, upd_same, nr⟩) (wk_itF upd_same (pr_N nr))
      · rename_i k0 v0 h2
        obtain ⟨vs, o, b1, b2, b3⟩ := h1.ob _ _ _ h2 ea
        cases b3 with
        | cons r1 t =>
          cases t with
          | cons r2 t =>
            cases t
            exact ⟨A, _, rfl, .inl ⟨o, _, b1, entF_rd b2, q1 _ ρ1 H1 (List.prefix_refl _) (TP.refl H1) h1 (wk_itF b1 (.cons ⟨_, _, rfl, r1, r2⟩ .nil))⟩⟩
      · exact q1.elim
    | _ => exact q1.elim
/-- data with dicts of any keys -/
def toPyA (L : List O) : Nat → D → Option PyData
  | 0, _ => none
  | n + 1, d => match d with
    | .non => some .none
    | .bl b => some (.bool b)
    | .int i => some (.int i)
    | .str x => some (.str x)
    | .tup ds => (optAll (toPyA L n) ds).map .tuple
    | .rol ds => (optAll (toPyA L n) ds).map .list
    | .ref k => match L[k]? with
      | some (.lst ds) => (optAll (toPyA L n) ds).map .list
      | some (.dic _ ks) => (optAll (toPyA L n) (ks.map (·.2))).map fun ps => .dict ((ks.map fun kv => keyP kv.1).zip ps)
      | some (.nd _ ks) => (optAll (toPyA L n) (ks.map (·.1))).bind fun qs => (optAll (toPyA L n) (ks.map (·.2))).map fun ps => .dict (qs.zip ps)
      | some (.gen .rd [x, y]) => (toPyA L n x).bind fun p => (toPyA L n y).map fun q => .dict [(p, q)]
      | _ => none
    | .cls _ => none
    | .ty _ => none
theorem readsA_of {pins : List (Addr × Obj)} {σ : L2.St} {s : Shared} (I : Inv X pins σ H s) (hh : HR ⟨X.K, cm, fx, X.w⟩ ρ L H) : ∀ (n : Nat) (d : D) (p : PyData) (v : V) (u : Value), toPyA L n d = some p → VR ⟨X.K, cm, fx, X.w⟩ ρ H d v → RelV v u → ReadsS s.heap u p
  | 0, _, _, _, _, e, _, _ => by cases e
  | n + 1, d, p, v, u, e, r, ru => by
    have all : ∀ (ds : List D) (ps : List PyData) (vs : List V) (us : List Value), optAll (toPyA L n) ds = some ps → VRs ⟨X.K, cm, fx, X.w⟩ ρ H ds vs → Vals vs us → ReadsSA s.heap us ps := by
      intro ds
      induction ds with
      | nil => intro ps vs us e r q; cases r; cases e; cases q; exact .nil
      | cons d ds ih =>
        intro ps vs us e r q
        cases r with
        | cons r t =>
          cases q with
          | cons q1 q2 =>
            unfold optAll at e
            split at e
            · rename_i y ys h1 h2
              cases e
              exact .cons (readsA_of I hh n _ _ _ _ h1 r q1) (ih _ _ _ h2 t q2)
            · cases e
    cases d with
    | non => cases r; cases e; cases ru; exact .none
    | bl b => cases r; cases e; cases ru; exact .bool b
    | int i => cases r; cases e; obtain ⟨t, rfl⟩ := ru; exact .int i t
    | str x => cases r; cases e; obtain ⟨t, rfl⟩ := ru; exact .str x t
    | tup ds =>
      cases r with
      | tup sq rs =>
        cases ru
        obtain ⟨ps, h1, rfl⟩ := Option.map_eq_some_iff.mp (show (optAll (toPyA L n) ds).map PyData.tuple = some p from e)
        obtain ⟨its, rv, ⟨o, ho, hc, k, hd⟩, _⟩ := I.tuple sq.sq
        exact .tuple ho hc hd (by simpa using all ds ps _ _ h1 rs rv)
    | rol ds =>
      cases r with
      | rol sq rs =>
        cases ru
        obtain ⟨ps, h1, rfl⟩ := Option.map_eq_some_iff.mp (show (optAll (toPyA L n) ds).map PyData.list = some p from e)
        obtain ⟨its, rv, ⟨o, k, ho, hc, _, hd⟩, _⟩ := I.list sq.seq
        exact .list ho hc hd (by simpa using all ds ps _ _ h1 rs rv)
    | cls c => cases e
    | ty c => cases e
    | ref k =>
      cases r with
      | @ref _ A ea =>
        cases ru
        have e : (match L[k]? with
          | some (.lst ds) => (optAll (toPyA L n) ds).map PyData.list
          | some (.dic _ ks) => (optAll (toPyA L n) (ks.map (·.2))).map fun ps => PyData.dict ((ks.map fun kv => keyP kv.1).zip ps)
          | some (.nd _ ks) => (optAll (toPyA L n) (ks.map (·.1))).bind fun qs => (optAll (toPyA L n) (ks.map (·.2))).map fun ps => PyData.dict (qs.zip ps)
          | some (.gen .rd [x, y]) => (toPyA L n x).bind fun p => (toPyA L n y).map fun q => PyData.dict [(p, q)]
          | _ => none) = some p := e
        split at e
        · rename_i ds hk
          obtain ⟨ps, h1, rfl⟩ := Option.map_eq_some_iff.mp e
          obtain ⟨vs, hv, rs⟩ := hh.lst hk ea
          obtain ⟨its, rv, ⟨o, j, ho, hc, _, hd⟩, _⟩ := I.list (.inl (.inl hv))
          exact .list ho hc hd (by simpa using all ds ps _ _ h1 rs rv)
        · rename_i lk ks hk
          obtain ⟨ps, h1, rfl⟩ := Option.map_eq_some_iff.mp e
          obtain ⟨ws, hr, kr⟩ := hh.dic hk ea
          obtain ⟨_, hne, rs, kv, o, es, ep, ho, ⟨hc, _, _⟩, hd, _, hps, _⟩ := dk_rd I.hok hr
          have hl : ps.length = ks.length := by rw [← optAll_len h1]; simp
          have both : ∀ (ks : List (Key × D)) (ws : List (Key × V)) (rs : List (Key × Value)) (es : List DictEntry), KR ⟨X.K, cm, fx, X.w⟩ ρ H ks ws → KV ws rs → Pairs (mixKind X.prog X.w) es rs → ReadsSA s.heap (es.map (·.key)) (ks.map fun kv => keyP kv.1) ∧ ∃ vs, VRs ⟨X.K, cm, fx, X.w⟩ ρ H (ks.map (·.2)) vs ∧ Vals vs (es.map (·.val)) := by
            intro ks
            induction ks with
            | nil => intro ws rs es kr kv hp; cases kr; cases kv; cases hp; exact ⟨.nil, [], .nil, .nil⟩
            | cons kd ks ih =>
              intro ws rs es kr kv hp
              cases kr with
              | cons r1 t1 =>
                cases kv with
                | cons q1 q2 =>
                  cases hp with
                  | cons b1 b2 b3 =>
                    obtain ⟨z0, vs, z1, z2⟩ := ih _ _ _ t1 q2 b3
                    refine ⟨.cons ?_ z0, _ :: vs, .cons r1 z1, .cons (by show RelV _ (DictEntry.val _); rw [b2]; exact q1.2) z2⟩
                    rw [← q1.1] at b1
                    rcases keyIs_shape b1 with ⟨i, t, e1, e2⟩ | ⟨x, t, e1, e2⟩
                    · simp only [e2]
                      simp only at e1
                      rw [e1]
                      exact .int i t
                    · simp only [e2]
                      simp only at e1
                      rw [e1]
                      exact .str x t
          obtain ⟨z0, vs, z1, z2⟩ := both ks ws rs es.toList kr kv hps
          refine .dict hne ho hc hd ?_ ?_
          · rw [zip_fst (by simp [hl])]
            exact z0
          · rw [zip_snd (by simp [hl])]
            exact all _ _ _ _ h1 z1 z2
        · rename_i lk ks hk
          obtain ⟨qs, h0, e⟩ := Option.bind_eq_some_iff.mp e
          obtain ⟨ps, h1, rfl⟩ := Option.map_eq_some_iff.mp e
          have l0 : qs.length = ks.length := by rw [← optAll_len h0]; simp
          have l1 : ps.length = ks.length := by rw [← optAll_len h1]; simp
          obtain ⟨xs, rd, nr⟩ := hh.nd_at hk ea
          obtain ⟨c1, c2, ys, c3, o, es, ep, h5, h6, h7, h8, _⟩ := nd_rd I rd nr
          have both : ∀ (ks : List (D × D)) (xs : List (NestedKey × Addr × V)) (ys : List (NestedKey × Addr × Value)), NR ⟨X.K, cm, fx, X.w⟩ ρ H ks xs → Paired NPair xs ys → ∃ us vs, VRs ⟨X.K, cm, fx, X.w⟩ ρ H (ks.map (·.1)) us ∧ Vals us (ys.map fun y => Value.ref y.2.1) ∧ VRs ⟨X.K, cm, fx, X.w⟩ ρ H (ks.map (·.2)) vs ∧ Vals vs (ys.map fun y => y.2.2) := by
            intro ks
            induction ks with
            | nil => intro xs ys nr c; cases nr; cases c; exact ⟨[], [], .nil, .nil, .nil, .nil⟩
            | cons kd ks ih =>
              intro xs ys nr c
              cases nr with
              | cons a b r1 r2 t =>
                cases c with
                | cons c0 c1 =>
                  obtain ⟨us, vs, z1, z2, z3, z4⟩ := ih _ _ t c1
                  obtain ⟨e1, e2, e3⟩ := c0
                  exact ⟨_ :: us, _ :: vs, .cons r1 z1, .cons (by show Value.ref _ = Value.ref _; rw [← e2]) z2, .cons r2 z3, .cons e3 z4⟩
          obtain ⟨us, vs, z1, z2, z3, z4⟩ := both ks xs ys nr c3
          have k1 : es.toList.map (·.key) = ys.map fun y => Value.ref y.2.1 := by rw [h8, List.map_map]; rfl
          have k2 : es.toList.map (·.val) = ys.map fun y => y.2.2 := by rw [h8, List.map_map]; rfl
          refine .dict c1 h5 h6.1 h7 ?_ ?_
          · rw [zip_fst (by rw [l0, l1]), k1]
            exact all _ _ _ _ h0 z1 z2
          · rw [zip_snd (by rw [l0, l1]), k2]
            exact all _ _ _ _ h1 z3 z4
        · rename_i x y hk
          obtain ⟨p1, h0, e⟩ := Option.bind_eq_some_iff.mp e
          obtain ⟨p2, h1, rfl⟩ := Option.map_eq_some_iff.mp e
          obtain ⟨vs, o, b1, b2, b3⟩ := hh.ob _ _ _ hk ea
          cases b3 with
          | cons r1 t =>
            cases t with
            | cons r2 t =>
              cases t
              obtain ⟨hs, hg, hx, es, ep, hdt, hsz, ent⟩ := entF_rd (X := X) b2 pins σ H s I b1
              obtain ⟨en, g1, g2, g3⟩ := ent 0 _ rfl
              have el : es.toList = [en] := by
                rw [← Array.getElem?_toList] at g1
                rw [← Array.length_toList] at hsz
                generalize es.toList = l at g1 hsz
                cases l with
                | nil => cases g1
                | cons a l => cases l with
                  | nil => cases g1; rfl
                  | cons b l => cases hsz
              refine .dict hs hg hx.1 hdt ?_ ?_
              · rw [el]
                exact .cons (readsA_of I hh n _ _ _ _ h0 r1 g2) .nil
              · rw [el]
                exact .cons (readsA_of I hh n _ _ _ _ h1 r2 g3) .nil
        · cases e
def cReprT : OC := fun ds L => match ds with
  | [x] => match toPyA L pyDeep x with
    | some p => if isSeqP p = true ∧ p.showable = true ∧ p.depth ≤ 16 ∧ p.shown.length ≤ most then some (.str p.shown, L) else none
    | none => none
  | _ => none
theorem c_reprT (hg : X.A.guards = some []) (hu : X.A.units + 65 < cLine) : CallR X (.builtin "repr") (rC ⟨X.K, cm, fx, X.w⟩ cReprT) := by
  intro pins s σ H xs us Q I r q
  obtain ⟨ρ, L, ds, hh, rr, q⟩ := q
  unfold cReprT at q
  split at q
  · rename_i x
    obtain ⟨v, rfl, rv⟩ := rr.one
    obtain ⟨u, rfl, ru⟩ := r.one
    split at q
    · rename_i p hp
      split at q
      · rename_i hz
        obtain ⟨z1, z2, z4, z5⟩ := hz
        have rd := readsA_of I hh _ _ _ _ _ hp rv ru
        have hq : Q (.str p.shown) H := q.same hh (.str _)
        have hre : ∃ a, u = .ref a := by
          cases rd with
          | list => exact ⟨_, rfl⟩
          | tuple => exact ⟨_, rfl⟩
          | _ => cases z1
        obtain ⟨a, rfl⟩ := hre
        exact repr_of_readsS rd z1 z2 hg (by omega) (fun _ _ e => e) (fun h' u tk hk => ⟨.str p.shown, H, I.kept (t' := tk) hk, ⟨_, rfl⟩, hq⟩) (most_le z5)
      · exact q.elim
    · exact q.elim
  · exact q.elim
def isTxt : D → Bool
  | .str _ => true
  | _ => false
def isSeqL (L : List O) : D → Bool
  | .tup _ => true
  | .ref n => match L[n]? with
    | some (.lst _) => true
    | _ => false
  | _ => false
def oInM : O2 := fun x y L => match y with
  | .tup ds => if ds.all isTxt = true ∧ isSeqL L x = true then some (.bl false, L) else oIn x y L
  | _ => oIn x y L
theorem txt_vals : ∀ {ds : List D} {vs : List V} {us : List Value}, ds.all isTxt = true → VRs g ρ H ds vs → Vals vs us → ∀ u ∈ us, ∃ x t, u = Value.str x t
  | _, _, _, _, .nil, .nil => fun _ h => by cases h
  | d :: ds, _, _, h, .cons r t, .cons q q2 => fun u hu => by
    rw [List.all_cons, Bool.and_eq_true] at h
    rcases List.mem_cons.mp hu with rfl | hu
    · cases d with
      | str x => cases r; obtain ⟨t, rfl⟩ := q; exact ⟨x, t, rfl⟩
      | _ => cases h.1
    · exact txt_vals h.2 t q2 u hu
theorem op_oInM (hu : X.A.units + 65 < cLine) : OpR X (compareOp .In) (rM ⟨X.K, cm, fx, X.w⟩ oInM) := by
  intro pins s σ H x y v u Q I rx ry q
  obtain ⟨ρ, L, d, e, hh, r1, r2, q⟩ := q
  unfold oInM at q
  split at q
  · rename_i ds
    split at q
    · rename_i hz
      obtain ⟨z1, z2⟩ := hz
      cases r2 with
      | tup s2 a2 =>
        cases ry
        obtain ⟨its, rv, pl, _⟩ := I.tuple s2.sq
        have tx := txt_vals z1 a2 rv
        have q' : Q (.bl false) H := q.same hh (.bl false)
        have fin : (∀ z ∈ its, SeqAt.EqAt X.A.in1 s z v false) → wpAny (model X.prog X.w) X.A (compareOp .In v (.ref _)) (EP X pins σ Q) X.xe s := fun h => by
          refine SeqAt.in_tupleAt (fun _ => false) pl (fun w hw => h w (by simpa using hw)) ⟨.bl false, H, I, ?_, q'⟩
          show Value.bool _ = Value.bool false
          congr 1
          exact Bool.eq_false_iff.mpr fun z => by simp at z
        cases d with
        | tup xs =>
          cases r1 with
          | tup s1 a1 =>
            cases rx
            obtain ⟨its1, _, pl1, _⟩ := I.tuple s1.sq
            refine fin fun z hz => ?_
            obtain ⟨x, t, rfl⟩ := tx z hz
            exact SeqAt.EqAt.str_tuple x t pl1 (by show X.A.units + 1 < cLine; omega)
        | ref n =>
          unfold isSeqL at z2
          simp only [] at z2
          cases hL : L[n]? with
          | none => rw [hL] at z2; cases z2
          | some o =>
            rw [hL] at z2
            cases o with
            | lst xs =>
              cases r1 with
              | ref ea =>
                cases rx
                obtain ⟨vs, b1, b2⟩ := hh.lst hL ea
                obtain ⟨its1, _, pl1, _⟩ := I.list (.inl (.inl b1))
                refine fin fun z hz => ?_
                obtain ⟨x, t, rfl⟩ := tx z hz
                exact SeqAt.EqAt.str_list x t pl1.isList (by show X.A.units + 1 < cLine; omega)
            | _ => cases z2
        | _ => cases z2
    · exact op_oIn hu pins s σ H x y v u Q I rx ry ⟨ρ, L, d, _, hh, r1, r2, q⟩
  · exact op_oIn hu pins s σ H x y v u Q I rx ry ⟨ρ, L, d, e, hh, r1, r2, q⟩
end Tw
end
section
set_option Elab.async false
set_option linter.all false
set_option maxRecDepth 100000
set_option maxHeartbeats 4000000
namespace Tw
open PySem PySem.Spec L2
mutual
/-- the same thing, its places told otherwise -/
def mD (φ : Nat → Nat) : D → D
  | .tup xs => .tup (mDs φ xs)
  | .rol xs => .rol (mDs φ xs)
  | .ref n => .ref (φ n)
  | .non => .non | .bl b => .bl b | .int i => .int i | .str x => .str x | .cls c => .cls c | .ty n => .ty n
def mDs (φ : Nat → Nat) : List D → List D
  | [] => []
  | d :: ds => mD φ d :: mDs φ ds
end
def mOb (φ : Nat → Nat) : O → O
  | .lst xs => .lst (mDs φ xs)
  | .ins c fs => .ins c (fs.map fun p => (p.1, mD φ p.2))
  | .dic lk ks => .dic lk (ks.map fun p => (p.1, mD φ p.2))
  | .nd lk ks => .nd lk (ks.map fun p => (p.1, mD φ p.2))
  | .gen t ds => .gen t (mDs φ ds)
theorem mDs_map (φ : Nat → Nat) : ∀ ds : List D, mDs φ ds = ds.map (mD φ)
  | [] => rfl
  | d :: ds => by unfold mDs; rw [mDs_map φ ds]; rfl
mutual
theorem refs_mD (φ : Nat → Nat) : ∀ d : D, refsD (mD φ d) = (refsD d).map φ
  | .tup xs => refs_mDs φ xs
  | .rol xs => refs_mDs φ xs
  | .ref n => rfl
  | .non => rfl | .bl _ => rfl | .int _ => rfl | .str _ => rfl | .cls _ => rfl | .ty _ => rfl
theorem refs_mDs (φ : Nat → Nat) : ∀ ds : List D, refsDs (mDs φ ds) = (refsDs ds).map φ
  | [] => rfl
  | d :: ds => by
    show refsD (mD φ d) ++ refsDs (mDs φ ds) = _
    rw [refs_mD φ d, refs_mDs φ ds, ← List.map_append]
    rfl
end
theorem refs_mOb (φ : Nat → Nat) (o : O) : refsO (mOb φ o) = (refsO o).map φ := by
  have e : ∀ {α : Type} (f : α → D) (l : List α), refsDs (l.map fun p => mD φ (f p)) = (refsDs (l.map f)).map φ := fun f l => by
    have : (l.map fun p => mD φ (f p)) = mDs φ (l.map f) := by rw [mDs_map, List.map_map]; rfl
    rw [this, refs_mDs]
  cases o with
  | lst xs => exact refs_mDs φ xs
  | ins c fs =>
    show refsDs ((fs.map fun p => (p.1, mD φ p.2)).map (·.2)) = _
    rw [List.map_map]
    exact e (fun p : Str × D => p.2) fs
  | dic lk ks =>
    show refsDs ((ks.map fun p => (p.1, mD φ p.2)).map (·.2)) = _
    rw [List.map_map]
    exact e (fun p : Key × D => p.2) ks
  | nd lk ks =>
    show refsDs ((ks.map fun p => (p.1, mD φ p.2)).map (·.2)) = _
    rw [List.map_map]
    exact e (fun p : D × D => p.2) ks
  | gen t ds => exact refs_mDs φ ds
mutual
theorem mapR_tot {ψ : Nat → Option Nat} {φ : Nat → Nat} : ∀ d : D, (∀ n ∈ refsD d, ψ n = some (φ n)) → mapR ψ d = some (mD φ d)
  | .tup xs, h => by unfold mapR; rw [mapRs_tot xs h]; rfl
  | .rol xs, h => by unfold mapR; rw [mapRs_tot xs h]; rfl
  | .ref n, h => by unfold mapR; rw [h n (by simp [refsD])]; rfl
  | .non, _ => rfl | .bl _, _ => rfl | .int _, _ => rfl | .str _, _ => rfl | .cls _, _ => rfl | .ty _, _ => rfl
theorem mapRs_tot {ψ : Nat → Option Nat} {φ : Nat → Nat} : ∀ ds : List D, (∀ n ∈ refsDs ds, ψ n = some (φ n)) → mapRs ψ ds = some (mDs φ ds)
  | [], _ => rfl
  | d :: ds, h => by
    unfold mapRs
    rw [mapR_tot d fun n hn => h n (List.mem_append_left _ hn), mapRs_tot ds fun n hn => h n (List.mem_append_right _ hn)]
    rfl
end
theorem mapOb_tot {ψ : Nat → Option Nat} {φ : Nat → Nat} (o : O) (h : ∀ n ∈ refsO o, ψ n = some (φ n)) : mapO ψ o = some (mOb φ o) := by
  cases o with
  | lst xs => show (mapRs ψ xs).map O.lst = _; rw [mapRs_tot xs h]; rfl
  | ins c fs =>
    have : ∀ fs : List (Str × D), (∀ n ∈ refsDs (fs.map (·.2)), ψ n = some (φ n)) → mapF ψ fs = some (fs.map fun p => (p.1, mD φ p.2)) := by
      intro fs
      induction fs with
      | nil => intro _; rfl
      | cons p fs ih =>
        intro h
        obtain ⟨f, d⟩ := p
        unfold mapF
        rw [mapR_tot d fun n hn => h n (List.mem_append_left _ hn), ih fun n hn => h n (List.mem_append_right _ hn)]
        rfl
    show (mapF ψ fs).map (O.ins c) = _
    rw [this fs h]
    rfl
  | dic lk fs =>
    have : ∀ fs : List (Key × D), (∀ n ∈ refsDs (fs.map (·.2)), ψ n = some (φ n)) → mapK ψ fs = some (fs.map fun p => (p.1, mD φ p.2)) := by
      intro fs
      induction fs with
      | nil => intro _; rfl
      | cons p fs ih =>
        intro h
        obtain ⟨f, d⟩ := p
        unfold mapK
        rw [mapR_tot d fun n hn => h n (List.mem_append_left _ hn), ih fun n hn => h n (List.mem_append_right _ hn)]
        rfl
    show (mapK ψ fs).map (O.dic lk) = _
    rw [this fs h]
    rfl
  | nd lk fs =>
    have : ∀ fs : List (D × D), (∀ n ∈ refsDs (fs.map (·.2)), ψ n = some (φ n)) → mapN ψ fs = some (fs.map fun p => (p.1, mD φ p.2)) := by
      intro fs
      induction fs with
      | nil => intro _; rfl
      | cons p fs ih =>
        intro h
        obtain ⟨f, d⟩ := p
        unfold mapN
        rw [mapR_tot d fun n hn => h n (List.mem_append_left _ hn), ih fun n hn => h n (List.mem_append_right _ hn)]
        rfl
    show (mapN ψ fs).map (O.nd lk) = _
    rw [this fs h]
    rfl
  | gen t ds => show (mapRs ψ ds).map (O.gen t) = _; rw [mapRs_tot ds h]; rfl
mutual
theorem mD_congr {f h : Nat → Nat} : ∀ d : D, (∀ n ∈ refsD d, f n = h n) → mD f d = mD h d
  | .tup xs, e => by show D.tup _ = D.tup _; rw [mDs_congr xs e]
  | .rol xs, e => by show D.rol _ = D.rol _; rw [mDs_congr xs e]
  | .ref n, e => by show D.ref _ = D.ref _; rw [e n (by simp [refsD])]
  | .non, _ => rfl | .bl _, _ => rfl | .int _, _ => rfl | .str _, _ => rfl | .cls _, _ => rfl | .ty _, _ => rfl
theorem mDs_congr {f h : Nat → Nat} : ∀ ds : List D, (∀ n ∈ refsDs ds, f n = h n) → mDs f ds = mDs h ds
  | [], _ => rfl
  | d :: ds, e => by
    unfold mDs
    rw [mD_congr d fun n hn => e n (List.mem_append_left _ hn), mDs_congr ds fun n hn => e n (List.mem_append_right _ hn)]
end
mutual
theorem mD_comp {f h : Nat → Nat} : ∀ d : D, mD f (mD h d) = mD (fun n => f (h n)) d
  | .tup xs => by show D.tup _ = D.tup _; rw [mDs_comp xs]
  | .rol xs => by show D.rol _ = D.rol _; rw [mDs_comp xs]
  | .ref n => rfl
  | .non => rfl | .bl _ => rfl | .int _ => rfl | .str _ => rfl | .cls _ => rfl | .ty _ => rfl
theorem mDs_comp {f h : Nat → Nat} : ∀ ds : List D, mDs f (mDs h ds) = mDs (fun n => f (h n)) ds
  | [] => rfl
  | d :: ds => by
    show mD f (mD h d) :: mDs f (mDs h ds) = _
    rw [mD_comp d, mDs_comp ds]
    rfl
end
theorem mOb_comp {f h : Nat → Nat} (o : O) : mOb f (mOb h o) = mOb (fun n => f (h n)) o := by
  cases o with
  | lst xs => show O.lst _ = O.lst _; rw [mDs_comp]
  | ins c fs => show O.ins c _ = O.ins c _; rw [List.map_map]; congr 1; exact List.map_congr_left fun p _ => by show (p.1, mD f (mD h p.2)) = _; rw [mD_comp]
  | dic lk fs => show O.dic lk _ = O.dic lk _; rw [List.map_map]; congr 1; exact List.map_congr_left fun p _ => by show (p.1, mD f (mD h p.2)) = _; rw [mD_comp]
  | nd lk fs => show O.nd lk _ = O.nd lk _; rw [List.map_map]; congr 1; exact List.map_congr_left fun p _ => by show (p.1, mD f (mD h p.2)) = _; rw [mD_comp]
  | gen t ds => show O.gen t _ = O.gen t _; rw [mDs_comp]
theorem mem_refs {α : Type} {f : α → D} {l : List α} {p : α} (hp : p ∈ l) {n : Nat} (hn : n ∈ refsD (f p)) : n ∈ refsDs (l.map f) := by
  induction l with
  | nil => cases hp
  | cons x l ih =>
    show n ∈ refsD (f x) ++ refsDs (l.map f)
    rcases List.mem_cons.mp hp with rfl | hp
    · exact List.mem_append_left _ hn
    · exact List.mem_append_right _ (ih hp)
theorem mOb_congr {f h : Nat → Nat} (o : O) (e : ∀ n ∈ refsO o, f n = h n) : mOb f o = mOb h o := by
  cases o with
  | lst xs => show O.lst _ = O.lst _; rw [mDs_congr xs e]
  | ins c fs => show O.ins c _ = O.ins c _; congr 1; exact List.map_congr_left fun p hp => by rw [mD_congr p.2 fun n hn => e n (mem_refs (f := fun p : Str × D => p.2) hp hn)]
  | dic lk fs => show O.dic lk _ = O.dic lk _; congr 1; exact List.map_congr_left fun p hp => by rw [mD_congr p.2 fun n hn => e n (mem_refs (f := fun p : Key × D => p.2) hp hn)]
  | nd lk fs => show O.nd lk _ = O.nd lk _; congr 1; exact List.map_congr_left fun p hp => by rw [mD_congr p.2 fun n hn => e n (mem_refs (f := fun p : D × D => p.2) hp hn)]
  | gen t ds => show O.gen t _ = O.gen t _; rw [mDs_congr ds e]
def idx (ns : List Nat) (n : Nat) : Nat := (posN ns n).getD 0
theorem posN_mem : ∀ {ns : List Nat} {n : Nat}, n ∈ ns → ∃ j, posN ns n = some j
  | m :: ns, n, h => by
    unfold posN
    by_cases e : m = n
    · exact ⟨0, if_pos e⟩
    · rw [if_neg e]
      rcases List.mem_cons.mp h with h | h
      · exact (e h.symm).elim
      · obtain ⟨j, q⟩ := posN_mem h
        exact ⟨j + 1, by rw [q]; rfl⟩
theorem posN_map {φ : Nat → Nat} (inj : ∀ a b, φ a = φ b → a = b) : ∀ (ns : List Nat) (n : Nat), posN (ns.map φ) (φ n) = posN ns n
  | [], _ => rfl
  | m :: ns, n => by
    show (if φ m = φ n then some 0 else (posN (ns.map φ) (φ n)).map (· + 1)) = (if m = n then some 0 else (posN ns n).map (· + 1))
    rw [posN_map inj ns n]
    by_cases e : m = n
    · rw [if_pos e, if_pos (by rw [e])]
    · rw [if_neg e, if_neg fun z => e (inj _ _ z)]
theorem optAll_tot {α β : Type} {f : α → Option β} {h : α → β} : ∀ l : List α, (∀ x ∈ l, f x = some (h x)) → optAll f l = some (l.map h)
  | [], _ => rfl
  | x :: l, e => optAll_cons (e x List.mem_cons_self) (optAll_tot l fun y hy => e y (List.mem_cons_of_mem _ hy))
/-- C has at ns things whose places are all in ns -/
def closedB (C : List O) (ns : List Nat) (ds : List D) : Bool := ((refsDs ds).all fun m => ns.contains m) && ns.all fun n => match C[n]? with
  | some o => (refsO o).all fun m => ns.contains m
  | none => false
theorem reach_map {φ : Nat → Nat} (inj : ∀ a b, φ a = φ b → a = b) {C L : List O} {ns : List Nat} (hc : ∀ n ∈ ns, ∃ o, C[n]? = some o ∧ L[φ n]? = some (mOb φ o) ∧ ∀ m ∈ refsO o, m ∈ ns) : ∀ (k : Nat) (todo seen : List Nat), (∀ n ∈ todo, n ∈ ns) → reach L k (todo.map φ) (seen.map φ) = (reach C k todo seen).map φ
  | 0, _, _, _ => rfl
  | _ + 1, [], _, _ => rfl
  | k + 1, n :: todo, seen, h => by
    have ct : (seen.map φ).contains (φ n) = seen.contains n := by
      rw [Bool.eq_iff_iff, List.contains_iff_mem, List.contains_iff_mem, List.mem_map]
      exact ⟨fun ⟨m, hm, e⟩ => by rw [← inj _ _ e]; exact hm, fun q => ⟨n, q, rfl⟩⟩
    obtain ⟨o, h1, h2, h3⟩ := hc n (h n List.mem_cons_self)
    have ht : ∀ m ∈ todo, m ∈ ns := fun m hm => h m (List.mem_cons_of_mem _ hm)
    rw [List.map_cons]
    unfold reach
    rw [ct]
    split
    · exact reach_map inj hc k todo seen ht
    · rw [h1, h2]
      show reach L k (refsO (mOb φ o) ++ todo.map φ) (seen.map φ ++ [φ n]) = _
      rw [refs_mOb, ← List.map_append, show seen.map φ ++ [φ n] = (seen ++ [n]).map φ by simp]
      exact reach_map inj hc k _ _ fun m hm => by
        rcases List.mem_append.mp hm with hm | hm
        · exact h3 m hm
        · exact ht m hm
/-- the run in the small heap that a part of C makes -/
def runC (F : FS) (ds : List D) (C : List O) (ns : List Nat) : Option (D × List O) :=
  if closedB C ns ds = true ∧ ns.Nodup then match F (mDs (idx ns) ds) (ns.map fun n => mOb (idx ns) (C.getD n (.lst []))) with
    | .ok d L' => if refsD d = [] ∧ ns.length ≤ L'.length ∧ ((L'.take ns.length).all fun o => (refsO o).all fun m => decide (m < ns.length)) = true then some (d, (L'.take ns.length).map (mOb fun j => ns.getD j 0)) else none
    | _ => none
  else none
theorem setAll_more : ∀ (ns : List Nat) (a b L : List O), a.length = ns.length → setAll ns (a ++ b) L = setAll ns a L
  | [], a, b, L, _ => by cases a <;> rfl
  | n :: ns, [], b, L, h => by simp at h
  | n :: ns, o :: a, b, L, h => setAll_more ns a b _ (by simpa using h)
theorem run_pre {φ : Nat → Nat} (inj : ∀ a b, φ a = φ b → a = b) {ds : List D} {C L : List O} {ns : List Nat} (hn : reach C lfuel (refsDs ds) [] = ns) (nd : ns.Nodup) (hds : ∀ m ∈ refsDs ds, m ∈ ns) (hos : ∀ n ∈ ns, ∃ o, C[n]? = some o ∧ L[φ n]? = some (mOb φ o) ∧ ∀ m ∈ refsO o, m ∈ ns) :
    mapRs (posN (ns.map φ)) (mDs φ ds) = some (mDs (idx ns) ds) ∧ optAll (fun n => L[n]?) (ns.map φ) = some (ns.map fun n => mOb φ (C.getD n (.lst []))) ∧ optAll (mapO (posN (ns.map φ))) (ns.map fun n => mOb φ (C.getD n (.lst []))) = some (ns.map fun n => mOb (idx ns) (C.getD n (.lst []))) ∧ (ns.map φ).Nodup ∧ reach L lfuel ((refsDs ds).map φ) [] = ns.map φ := by
  have rc := reach_map inj hos lfuel (refsDs ds) [] hds
  rw [List.map_nil, hn] at rc
  have pos : ∀ m ∈ ns, posN (ns.map φ) (φ m) = some (idx ns m) := fun m hm => by
    obtain ⟨j, e⟩ := posN_mem hm
    rw [posN_map inj]
    unfold idx
    rw [e]
    rfl
  have e1 : mapRs (posN (ns.map φ)) (mDs φ ds) = some (mDs (idx ns) ds) := by
    rw [mapRs_tot (φ := idx (ns.map φ)) _ fun n hn => ?_, mDs_comp, mDs_congr ds fun n hn => ?_]
    · unfold idx
      rw [posN_map inj]
    · rw [refs_mDs] at hn
      obtain ⟨m, hm, rfl⟩ := List.mem_map.mp hn
      unfold idx
      rw [pos m (hds m hm)]
      rfl
  have e2 : optAll (fun n => L[n]?) (ns.map φ) = some (ns.map fun n => mOb φ (C.getD n (.lst []))) := by
    rw [optAll_tot (h := fun n => (L[n]?).getD (.lst [])) _ fun n hn => ?_, List.map_map]
    · congr 1
      refine List.map_congr_left fun n hn => ?_
      obtain ⟨o, h1, h2, _⟩ := hos n hn
      show (L[φ n]?).getD _ = _
      rw [h2, List.getD_eq_getElem?_getD, h1]
      rfl
    · obtain ⟨m, hm, rfl⟩ := List.mem_map.mp hn
      obtain ⟨o, h1, h2, _⟩ := hos m hm
      rw [h2]
      rfl
  have e3 : optAll (mapO (posN (ns.map φ))) (ns.map fun n => mOb φ (C.getD n (.lst []))) = some (ns.map fun n => mOb (idx ns) (C.getD n (.lst []))) := by
    rw [optAll_tot (h := mOb (idx (ns.map φ))) _ fun o ho => ?_, List.map_map]
    · congr 1
      refine List.map_congr_left fun n hn => ?_
      show mOb _ (mOb φ _) = _
      rw [mOb_comp]
      refine mOb_congr _ fun m hm => ?_
      unfold idx
      rw [posN_map inj]
    · obtain ⟨n, hn, rfl⟩ := List.mem_map.mp ho
      refine mapOb_tot _ fun m hm => ?_
      rw [refs_mOb] at hm
      obtain ⟨m0, hm0, rfl⟩ := List.mem_map.mp hm
      obtain ⟨o, h1, h2, h3⟩ := hos n hn
      rw [List.getD_eq_getElem?_getD, h1] at hm0
      unfold idx
      rw [pos m0 (h3 m0 hm0)]
      rfl
  have nd2 : (ns.map φ).Nodup := by
    rw [List.nodup_iff_pairwise_ne, List.pairwise_map]
    exact List.Pairwise.imp (fun hne z => hne (inj _ _ z)) nd
  exact ⟨e1, e2, e3, nd2, rc⟩
theorem runC_ok {F : FS} {φ : Nat → Nat} (inj : ∀ a b, φ a = φ b → a = b) {ds : List D} {C L : List O} {ns : List Nat} {d : D} {os : List O} (hn : reach C lfuel (refsDs ds) [] = ns) (h : runC F ds C ns = some (d, os)) (ag : ∀ n ∈ ns, ∃ o, C[n]? = some o ∧ L[φ n]? = some (mOb φ o)) :
    lrun F (mDs φ ds) L = .ok d (setAll (ns.map φ) (os.map (mOb φ)) L) := by
  unfold runC at h
  by_cases hc : closedB C ns ds = true ∧ ns.Nodup
  case neg => rw [if_neg hc] at h; cases h
  rw [if_pos hc] at h
  obtain ⟨cl, nd⟩ := hc
  obtain ⟨c1, c2⟩ := Bool.and_eq_true_iff.mp cl
  have hds : ∀ m ∈ refsDs ds, m ∈ ns := fun m hm => List.contains_iff_mem.mp (List.all_eq_true.mp c1 m hm)
  have hos : ∀ n ∈ ns, ∃ o, C[n]? = some o ∧ L[φ n]? = some (mOb φ o) ∧ ∀ m ∈ refsO o, m ∈ ns := fun n hn => by
    obtain ⟨o, h1, h2⟩ := ag n hn
    have q := List.all_eq_true.mp c2 n hn
    rw [h1] at q
    exact ⟨o, h1, h2, fun m hm => List.contains_iff_mem.mp (List.all_eq_true.mp q m hm)⟩
  obtain ⟨e1, e2, e3, nd2, rc⟩ := run_pre inj hn nd hds hos
  unfold lrun
  rw [refs_mDs, rc]
  unfold lrunAt
  rw [e1, e2]
  simp only []
  rw [e3]
  simp only []
  rw [if_pos nd2]
  cases hF : F (mDs (idx ns) ds) (ns.map fun n => mOb (idx ns) (C.getD n (.lst []))) with
  | bad => rw [hF] at h; cases h
  | ex c fs L' => rw [hF] at h; cases h
  | ok d0 L' =>
    rw [hF] at h
    simp only [] at h
    split at h
    case isFalse => cases h
    rename_i hz
    obtain ⟨z1, z2, z3⟩ := hz
    cases h
    simp only []
    rw [mapR_pure d z1]
    have tot := optAll_tot (f := mapO (psi (ns.map φ) L.length)) (h := fun o => (mapO (psi (ns.map φ) L.length) o).getD (.lst [])) L' fun o _ => by
      obtain ⟨e, q⟩ := mapO_psi (ns.map φ) L.length o
      rw [q]
      rfl
    rw [tot]
    simp only []
    have hk : ∀ o ∈ L'.take ns.length, (mapO (psi (ns.map φ) L.length) o).getD (.lst []) = mOb φ (mOb (fun j => ns.getD j 0) o) := fun o ho => by
      rw [mOb_comp]
      have q : mapO (psi (ns.map φ) L.length) o = some (mOb (fun j => φ (ns.getD j 0)) o) := mapOb_tot o fun m hm => by
        have lt := of_decide_eq_true (List.all_eq_true.mp (List.all_eq_true.mp z3 o ho) m hm)
        unfold psi
        rw [if_pos (by rw [List.length_map]; exact lt), List.getElem?_map, List.getD_eq_getElem?_getD, List.getElem?_eq_getElem lt]
        rfl
      rw [q]
      rfl
    have tk : (L'.map fun o => (mapO (psi (ns.map φ) L.length) o).getD (.lst [])).take ns.length = ((L'.take ns.length).map (mOb fun j => ns.getD j 0)).map (mOb φ) := by
      rw [← List.map_take, List.map_map]
      exact List.map_congr_left hk
    have len : ((L'.take ns.length).map (mOb fun j => ns.getD j 0)).length = ns.length := by rw [List.length_map, List.length_take]; omega
    congr 1
    unfold lback
    rw [if_pos]
    · rw [← List.take_append_drop ns.length (L'.map _), tk]
      exact setAll_more _ _ _ _ (by rw [List.length_map, List.length_map, List.length_map, List.length_take]; omega)
    · refine ⟨by rw [z1]; rfl, ?_⟩
      rw [List.length_map, tk]
      refine List.all_eq_true.mpr fun o ho => ?_
      obtain ⟨o1, h1, rfl⟩ := List.mem_map.mp ho
      obtain ⟨o2, h2, rfl⟩ := List.mem_map.mp h1
      unfold small
      refine List.all_eq_true.mpr fun m hm => decide_eq_true ?_
      rw [refs_mOb, refs_mOb] at hm
      obtain ⟨m1, hm1, rfl⟩ := List.mem_map.mp hm
      obtain ⟨j, hj, rfl⟩ := List.mem_map.mp hm1
      have lt := of_decide_eq_true (List.all_eq_true.mp (List.all_eq_true.mp z3 o2 h2) j hj)
      rw [List.getD_eq_getElem?_getD, List.getElem?_eq_getElem lt]
      obtain ⟨o, _, q⟩ := ag ns[j] (List.getElem_mem lt)
      exact (List.getElem?_eq_some_iff.mp q).1
/-- the same, where new things are handed back -/
def chi (φ : Nat → Nat) (ns : List Nat) (N : Nat) (j : Nat) : Nat := if j < ns.length then φ (ns.getD j 0) else N + (j - ns.length)
theorem runX_ok {F : FS} {φ : Nat → Nat} (inj : ∀ a b, φ a = φ b → a = b) {ds : List D} {C L : List O} {ns : List Nat} {d : D} {os X : List O} (hn : reach C lfuel (refsDs ds) [] = ns) (cl : closedB C ns ds = true) (nd : ns.Nodup)
    (hF : F (mDs (idx ns) ds) (ns.map fun n => mOb (idx ns) (C.getD n (.lst []))) = .ok d (os ++ X)) (hl : os.length = ns.length) (hb : ((refsD d ++ os.flatMap refsO).any fun j => decide (ns.length ≤ j)) = true) (ag : ∀ n ∈ ns, ∃ o, C[n]? = some o ∧ L[φ n]? = some (mOb φ o)) :
    lrun F (mDs φ ds) L = .ok (mD (chi φ ns L.length) d) (setAll (ns.map φ) (os.map (mOb (chi φ ns L.length))) L ++ X.map (mOb (chi φ ns L.length))) := by
  obtain ⟨c1, c2⟩ := Bool.and_eq_true_iff.mp cl
  have hds : ∀ m ∈ refsDs ds, m ∈ ns := fun m hm => List.contains_iff_mem.mp (List.all_eq_true.mp c1 m hm)
  have hos : ∀ n ∈ ns, ∃ o, C[n]? = some o ∧ L[φ n]? = some (mOb φ o) ∧ ∀ m ∈ refsO o, m ∈ ns := fun n hn => by
    obtain ⟨o, h1, h2⟩ := ag n hn
    have q := List.all_eq_true.mp c2 n hn
    rw [h1] at q
    exact ⟨o, h1, h2, fun m hm => List.contains_iff_mem.mp (List.all_eq_true.mp q m hm)⟩
  obtain ⟨e1, e2, e3, nd2, rc⟩ := run_pre inj hn nd hds hos
  unfold lrun
  rw [refs_mDs, rc]
  unfold lrunAt
  rw [e1, e2]
  simp only []
  rw [e3]
  simp only []
  rw [if_pos nd2, hF]
  simp only []
  have ps : ∀ j, psi (ns.map φ) L.length j = some (chi φ ns L.length j) := fun j => by
    unfold psi chi
    rw [List.length_map]
    by_cases lt : j < ns.length
    · rw [if_pos lt, if_pos lt, List.getElem?_map, List.getD_eq_getElem?_getD, List.getElem?_eq_getElem lt]
      rfl
    · rw [if_neg lt, if_neg lt]
  rw [mapR_tot d fun n _ => ps n, optAll_tot (h := mOb (chi φ ns L.length)) (os ++ X) fun o _ => mapOb_tot o fun n _ => ps n]
  simp only []
  congr 1
  have tk : ((os ++ X).map (mOb (chi φ ns L.length))).take (ns.map φ).length = os.map (mOb (chi φ ns L.length)) := by
    rw [List.length_map, List.map_append]
    exact List.take_left' (by rw [List.length_map, hl])
  have dr : ((os ++ X).map (mOb (chi φ ns L.length))).drop (ns.map φ).length = X.map (mOb (chi φ ns L.length)) := by
    rw [List.length_map, List.map_append]
    exact List.drop_left' (by rw [List.length_map, hl])
  unfold lback
  rw [if_neg, dr]
  · congr 1
    rw [List.map_append]
    exact setAll_more _ _ _ _ (by rw [List.length_map, List.length_map, hl])
  · rintro ⟨s1, s2⟩
    rw [tk] at s2
    obtain ⟨j, hj, hk⟩ := List.any_eq_true.mp hb
    have hk := of_decide_eq_true hk
    have big : ¬ chi φ ns L.length j < L.length := by
      unfold chi
      rw [if_neg (by omega)]
      omega
    rcases List.mem_append.mp hj with hj | hj
    · have := List.all_eq_true.mp s1 (chi φ ns L.length j) (by rw [refs_mD]; exact List.mem_map.mpr ⟨j, hj, rfl⟩)
      exact big (of_decide_eq_true this)
    · obtain ⟨o, ho, hj⟩ := List.mem_flatMap.mp hj
      have := List.all_eq_true.mp s2 (mOb (chi φ ns L.length) o) (List.mem_map.mpr ⟨o, ho, rfl⟩)
      have := List.all_eq_true.mp this (chi φ ns L.length j) (by rw [refs_mOb]; exact List.mem_map.mpr ⟨j, hj, rfl⟩)
      exact big (of_decide_eq_true this)
variable {g : Gx} {ρ ρ' : List Addr} {H H' : Hp} {X : Cx} {W : WX} {L : List O} {cm : Nat → Addr} {fx : Hp}
def cReprU : OC := fun ds L => match ds with
  | [.tup xs] => cReprT [.tup xs] L
  | [.ref n] => match L[n]? with
    | some (.lst _) => cReprT [.ref n] L
    | _ => if empD L (.ref n) = true then some (.str dictT, L) else none
  | ds => cReprS ds L
theorem c_reprU (hg : X.A.guards = some []) (hu : X.A.units + 65 < cLine) : CallR X (.builtin "repr") (rC ⟨X.K, cm, fx, X.w⟩ cReprU) := by
  intro pins s σ H xs us Q I r q
  obtain ⟨ρ, L, ds, hh, rr, q⟩ := q
  unfold cReprU at q
  split at q
  · exact c_reprT hg hu pins s σ H xs us Q I r ⟨ρ, L, _, hh, rr, q⟩
  · split at q
    · exact c_reprT hg hu pins s σ H xs us Q I r ⟨ρ, L, _, hh, rr, q⟩
    · split at q
      · rename_i hz
        refine c_reprS hg hu pins s σ H xs us Q I r ⟨ρ, L, _, hh, rr, ?_⟩
        show LfO _ _ _ (cReprZ [.ref _] L) Q
        unfold cReprZ
        simp only []
        rw [if_pos hz]
        exact q
      · exact q.elim
  · exact c_reprS hg hu pins s σ H xs us Q I r ⟨ρ, L, _, hh, rr, q⟩
/-- the keys hold no places -/
def keyB : O → Bool
  | .nd _ ks => ks.all fun p => decide (refsD p.1 = [])
  | _ => true
theorem mD_pure {φ : Nat → Nat} (d : D) (h : refsD d = []) : mD φ d = d := by
  have := mapR_tot (ψ := fun n => some (φ n)) d fun n hn => rfl
  rw [mapR_pure d h] at this
  exact (Option.some.inj this).symm
section
variable {φ : Nat → Nat} {C : List O} {ns : List Nat}
theorem optAll_mDs {f h : D → Option PyData} : ∀ ds : List D, (∀ d ∈ ds, f (mD φ d) = h d) → optAll f (mDs φ ds) = optAll h ds
  | [], _ => rfl
  | d :: ds, e => by
    show optAll f (mD φ d :: mDs φ ds) = _
    unfold optAll
    rw [e d List.mem_cons_self, optAll_mDs ds fun x hx => e x (List.mem_cons_of_mem _ hx)]
theorem refsDs_mem {ds : List D} {d : D} (hd : d ∈ ds) {m : Nat} (hm : m ∈ refsD d) : m ∈ refsDs ds := by
  have := mem_refs (f := id) (l := ds) hd hm
  rwa [List.map_id] at this
theorem toPyA_map (hc : ∀ n ∈ ns, ∃ o, C[n]? = some o ∧ L[φ n]? = some (mOb φ o) ∧ keyB o = true ∧ ∀ m ∈ refsO o, m ∈ ns) : ∀ (n : Nat) (d : D), (∀ m ∈ refsD d, m ∈ ns) → toPyA L n (mD φ d) = toPyA C n d
  | 0, _, _ => rfl
  | n + 1, d, h => by
    have all : ∀ ds : List D, (∀ m ∈ refsDs ds, m ∈ ns) → optAll (toPyA L n) (mDs φ ds) = optAll (toPyA C n) ds := fun ds hd => optAll_mDs ds fun d hm => toPyA_map hc n d fun m q => hd m (refsDs_mem hm q)
    cases d with
    | non => rfl | bl _ => rfl | int _ => rfl | str _ => rfl | cls _ => rfl | ty _ => rfl
    | tup ds => show (optAll (toPyA L n) (mDs φ ds)).map PyData.tuple = (optAll (toPyA C n) ds).map PyData.tuple; rw [all ds h]
    | rol ds => show (optAll (toPyA L n) (mDs φ ds)).map PyData.list = (optAll (toPyA C n) ds).map PyData.list; rw [all ds h]
    | ref k =>
      obtain ⟨o, h1, h2, h3, h4⟩ := hc k (h k (by simp [refsD]))
      show (match L[φ k]? with
        | some (.lst ds) => (optAll (toPyA L n) ds).map PyData.list
        | some (.dic _ ks) => (optAll (toPyA L n) (ks.map fun p : Key × D => p.2)).map fun ps => PyData.dict ((ks.map fun kv : Key × D => keyP kv.1).zip ps)
        | some (.nd _ ks) => (optAll (toPyA L n) (ks.map fun p : D × D => p.1)).bind fun qs => (optAll (toPyA L n) (ks.map fun p : D × D => p.2)).map fun ps => PyData.dict (qs.zip ps)
        | some (.gen .rd [x, y]) => (toPyA L n x).bind fun p => (toPyA L n y).map fun q => PyData.dict [(p, q)]
        | _ => none) = (match C[k]? with
        | some (.lst ds) => (optAll (toPyA C n) ds).map PyData.list
        | some (.dic _ ks) => (optAll (toPyA C n) (ks.map fun p : Key × D => p.2)).map fun ps => PyData.dict ((ks.map fun kv : Key × D => keyP kv.1).zip ps)
        | some (.nd _ ks) => (optAll (toPyA C n) (ks.map fun p : D × D => p.1)).bind fun qs => (optAll (toPyA C n) (ks.map fun p : D × D => p.2)).map fun ps => PyData.dict (qs.zip ps)
        | some (.gen .rd [x, y]) => (toPyA C n x).bind fun p => (toPyA C n y).map fun q => PyData.dict [(p, q)]
        | _ => none)
      rw [h1, h2]
      cases o with
      | lst ds => show (optAll (toPyA L n) (mDs φ ds)).map PyData.list = (optAll (toPyA C n) ds).map PyData.list; rw [all ds h4]
      | ins c fs => rfl
      | dic lk ks =>
        show (optAll (toPyA L n) ((ks.map fun p : Key × D => (p.1, mD φ p.2)).map (·.2))).map (fun ps => PyData.dict (((ks.map fun p : Key × D => (p.1, mD φ p.2)).map fun kv => keyP kv.1).zip ps)) = (optAll (toPyA C n) (ks.map (·.2))).map fun ps => PyData.dict ((ks.map fun kv => keyP kv.1).zip ps)
        have e1 : (ks.map fun p : Key × D => (p.1, mD φ p.2)).map (·.2) = mDs φ (ks.map (·.2)) := by rw [mDs_map, List.map_map, List.map_map]; rfl
        have e2 : (ks.map fun p : Key × D => (p.1, mD φ p.2)).map (fun kv => keyP kv.1) = ks.map fun kv => keyP kv.1 := by rw [List.map_map]; rfl
        rw [e1, e2, all _ h4]
      | nd lk ks =>
        show (optAll (toPyA L n) ((ks.map fun p : D × D => (p.1, mD φ p.2)).map (·.1))).bind (fun qs => (optAll (toPyA L n) ((ks.map fun p : D × D => (p.1, mD φ p.2)).map (·.2))).map fun ps => PyData.dict (qs.zip ps)) = (optAll (toPyA C n) (ks.map (·.1))).bind fun qs => (optAll (toPyA C n) (ks.map (·.2))).map fun ps => PyData.dict (qs.zip ps)
        have kp : ∀ d ∈ ks.map (·.1), refsD d = [] := fun d hd => by
          obtain ⟨p, hp, rfl⟩ := List.mem_map.mp hd
          exact of_decide_eq_true (List.all_eq_true.mp h3 p hp)
        have e0 : (ks.map fun p : D × D => (p.1, mD φ p.2)).map (·.1) = mDs φ (ks.map (·.1)) := by
          rw [mDs_map, List.map_map, List.map_map]
          refine List.map_congr_left fun p hp => ?_
          exact (mD_pure p.1 (kp p.1 (List.mem_map.mpr ⟨p, hp, rfl⟩))).symm
        have e1 : (ks.map fun p : D × D => (p.1, mD φ p.2)).map (·.2) = mDs φ (ks.map (·.2)) := by rw [mDs_map, List.map_map, List.map_map]; rfl
        rw [e0, e1, all _ h4, optAll_mDs (h := toPyA C n) (ks.map (·.1)) fun d hd => toPyA_map hc n d fun m q => by rw [kp d hd] at q; cases q]
      | gen t ds =>
        cases t with
        | rd =>
          match ds, h4 with
          | [], _ => rfl
          | [_], _ => rfl
          | _ :: _ :: _ :: _, _ => rfl
          | [x, y], h4 =>
            show (toPyA L n (mD φ x)).bind (fun p => (toPyA L n (mD φ y)).map fun q => PyData.dict [(p, q)]) = (toPyA C n x).bind fun p => (toPyA C n y).map fun q => PyData.dict [(p, q)]
            rw [toPyA_map hc n x fun m q => h4 m (List.mem_append_left _ q), toPyA_map hc n y fun m q => h4 m (List.mem_append_right _ (List.mem_append_left _ q))]
        | xd _ => rfl
        | exc _ => rfl
        | sl _ => rfl
/-- the text of a thing -/
def reprC (d : D) (C : List O) : Option Str := match cReprU [d] C with
  | some (.str t, _) => some t
  | _ => none
theorem reprU_map (hc : ∀ n ∈ ns, ∃ o, C[n]? = some o ∧ L[φ n]? = some (mOb φ o) ∧ keyB o = true ∧ ∀ m ∈ refsO o, m ∈ ns) {d : D} (hd : ∀ m ∈ refsD d, m ∈ ns) (hr : ∀ xs, d ≠ .rol xs) {t : Str} (h : reprC d C = some t) : cReprU [mD φ d] L = some (.str t, L) := by
  have T : ∀ t : Str, cReprT [d] C = some (.str t, C) → cReprT [mD φ d] L = some (.str t, L) := fun t h => by
    unfold cReprT at h ⊢
    simp only [] at h ⊢
    rw [toPyA_map hc pyDeep d hd]
    split at h
    · split at h
      · rename_i hz
        rw [if_pos hz]
        cases h
        rfl
      · cases h
    · cases h
  have T2 : ∀ z, cReprT [d] C = some z → ∃ t, z = (.str t, C) := fun z h => by
    unfold cReprT at h
    simp only [] at h
    split at h
    · split at h
      · cases h; exact ⟨_, rfl⟩
      · cases h
    · cases h
  unfold reprC at h
  cases d with
  | tup xs =>
    have e : cReprU [D.tup xs] C = cReprT [D.tup xs] C := rfl
    rw [e] at h
    cases hq : cReprT [D.tup xs] C with
    | none => rw [hq] at h; cases h
    | some z =>
      obtain ⟨t', rfl⟩ := T2 z hq
      rw [hq] at h
      cases h
      exact T _ hq
  | ref n =>
    obtain ⟨o, h1, h2, h3, h4⟩ := hc n (hd n (by simp [refsD]))
    have e : cReprU [D.ref n] C = (match C[n]? with
      | some (.lst _) => cReprT [.ref n] C
      | _ => if empD C (.ref n) = true then some (.str dictT, C) else none) := rfl
    have e2 : cReprU [mD φ (D.ref n)] L = (match L[φ n]? with
      | some (.lst _) => cReprT [.ref (φ n)] L
      | _ => if empD L (.ref (φ n)) = true then some (.str dictT, L) else none) := rfl
    rw [e, h1] at h
    rw [e2, h2]
    have em : empD L (.ref (φ n)) = empD C (.ref n) := by
      unfold empD
      simp only []
      rw [h1, h2]
      cases o with
      | dic lk ks => cases ks <;> rfl
      | _ => rfl
    cases o with
    | lst xs =>
      simp only [] at h
      cases hq : cReprT [D.ref n] C with
      | none => rw [hq] at h; cases h
      | some z =>
        obtain ⟨t', rfl⟩ := T2 z hq
        rw [hq] at h
        cases h
        exact T _ hq
    | _ =>
      simp only [] at h
      show (if empD L (.ref (φ n)) = true then some (D.str dictT, L) else none) = _
      rw [em]
      split at h
      · rename_i t' _ hz
        split at hz
        · rename_i hq
          rw [if_pos hq]
          cases hz
          cases h
          rfl
        · cases hz
      · cases h
  | non => cases h; rfl
  | bl b => cases h; rfl
  | int i =>
    have e : ∀ L, cReprU [D.int i] L = if i.natAbs.log2 < 1920 then some (.str (Str.ofString (toString i)), L) else none := fun _ => rfl
    show cReprU [D.int i] L = _
    rw [e] at h ⊢
    split at h
    · rename_i hz
      split at hz
      · rename_i hq
        rw [if_pos hq]
        cases hz
        cases h
        rfl
      · cases hz
    · cases h
  | str x =>
    have e : ∀ L, cReprU [D.str x] L = if (reprText x).length ≤ sizeLine then some (.str (reprText x), L) else none := fun _ => rfl
    show cReprU [D.str x] L = _
    rw [e] at h ⊢
    split at h
    · rename_i hz
      split at hz
      · rename_i hq
        rw [if_pos hq]
        cases hz
        cases h
        rfl
      · cases hz
    · cases h
  | rol xs => exact (hr xs rfl).elim
  | cls c => cases h
  | ty c => cases h
end
def phi (nb N : Nat) (j : Nat) : Nat := if j = 0 then nb else N + (j - 1)
theorem phi_inj {nb N : Nat} (h : nb < N) : ∀ a b, phi nb N a = phi nb N b → a = b := fun a b e => by
  unfold phi at e
  split at e <;> split at e <;> omega
theorem lrun_blk {F : FS} {nb k : Nat} {bo bo' : O} {X : List O} (h : L[nb]? = some bo) (hp : refsO bo = []) (hF : F [.ref 0] [bo] = .ok (.ref (k + 1)) (bo' :: X)) (hp' : refsO bo' = []) :
    lrun F [.ref nb] L = .ok (.ref (L.length + k)) (L.set nb bo' ++ X.map (mOb (phi nb L.length))) := by
  have lt := (List.getElem?_eq_some_iff.mp h).1
  unfold lrun
  rw [show refsDs [D.ref nb] = [nb] from rfl, reach_one h hp]
  unfold lrunAt
  rw [show mapRs (posN [nb]) [D.ref nb] = some [.ref 0] by simp [mapRs, mapR, posN], show optAll (fun n => L[n]?) [nb] = some [bo] from optAll_cons h rfl]
  simp only []
  rw [show optAll (mapO (posN [nb])) [bo] = some [bo] from optAll_cons (mapO_pure bo hp) rfl]
  simp only []
  rw [if_pos (by simp), hF]
  simp only []
  have ps : ∀ j, psi [nb] L.length j = some (phi nb L.length j) := fun j => by
    unfold psi phi
    cases j with
    | zero => rfl
    | succ j => simp
  rw [show mapR (psi [nb] L.length) (.ref (k + 1)) = some (.ref (L.length + k)) by unfold mapR; rw [ps]; rfl]
  rw [optAll_tot (h := mOb (phi nb L.length)) (bo' :: X) fun o _ => mapOb_tot o fun n _ => ps n]
  simp only []
  congr 1
  unfold lback
  have : small L.length (refsD (.ref (L.length + k))) = false := by simp [small, refsD]
  rw [this]
  have hb : mOb (phi nb L.length) bo' = bo' := by
    have := mapOb_tot (ψ := psi [nb] L.length) bo' fun n _ => ps n
    rw [mapO_pure bo' hp'] at this
    exact (Option.some.inj this).symm
  simp [setAll, hb]
end Tw
end
section
set_option Elab.async false
set_option linter.all false
set_option maxRecDepth 100000
set_option maxHeartbeats 4000000
namespace K43
open PySem PySem.Spec L2 Tw
open PyProof.Rows (envOfC)
def top (i : Nat) : Stmt := PySem.Challenge.pw_treewaits_k43_values_that_are_no_nets.main.body.getD i (.Pass ⟨0, 0, 0, 0⟩)
abbrev d_NONE : D := (.str "none")
abbrev d_SHARED : D := (.str "shared")
abbrev d_ALONE : D := (.str "alone")
abbrev d_RISING : D := (.str "rising")
abbrev d_ANY : D := (.str "any")
abbrev d_LESSER : D := (.str "lesser")
abbrev d_QUIET_WORDS : D := (.tup [(.str "try"), (.str "leap")])
abbrev d_HEIGHTS : D := (.int 5)
abbrev d_MARKS : D := (.tup [(.str "none"), (.str "shared"), (.str "alone")])
abbrev d_NET_PARTS : D := (.int 3)
abbrev d_WORDS : D := (.tup [(.str "take"), (.str "try"), (.str "leap")])
abbrev d_MODES : D := (.tup [(.str "shared"), (.str "alone"), (.str "rising")])
abbrev d_MOST_POINTS : D := (.int 4)
abbrev d_MOST_TAKES : D := (.int 5)
def gi_Way_K2_hops : List Nat := [0, 1, 2, 3]
def gd_Way_K2_hops : List D → List D → List D := fun us ws => pick gi_Way_K2_hops (us ++ ([] ++ ws))
def m_mark_of : MS := (mRet (mIfE (mTst (mOp2 oEq (mVar 0) (mC d_SHARED))) (mC d_SHARED) (mC d_ALONE)))
def F_mark_of : FS := runF 1 1 m_mark_of
def G_mark_of : FS := lrun F_mark_of
def m_Way_points : MS := (mRet (mFld 3 "places" (mVar 0)))
def F_Way_points : FS := runF 1 1 m_Way_points
def G_Way_points : FS := lrun F_Way_points
def m_point_parents : MS := (mSeq (mPar 1 2 (mCons mDic0 (mCons (mC (.int 0)) mNil)))
  (mSeq (mFor (mEnumK (mProp 3 G_Way_points (mVar 0)) (mC (.int 1))) (gTupM 2 (gsCons (gNm 3) (gsCons (gNm 4) gsNil))) (mIf (mTst (mOp2 oEq (mOp2 oIdx (mVar 4) (mC (.int 0))) (mC (.str "child")))) (mPut (mVar 1) (mVar 3) (mOp2 oIdx (mVar 4) (mC (.int 1)))) (mSeq (mPut (mVar 1) (mVar 2) (mVar 3))
  (mSet 2 (mVar 3)))))
  (mRet (mVar 1))))
def F_point_parents : FS := runF 1 5 m_point_parents
def G_point_parents : FS := lrun F_point_parents
def m_chain_of : MS := (mSeq (mSet 2 (mLst (mCons (mVar 1) mNil)))
  (mSeq (loopW (mTst (mOp2 oIn (mOp2 oIdx (mVar 2) (mOp1 oNeg (mC (.int 1)))) (mVar 0))) (mDrop (mBmL oAppend (mVar 2) (mCons (mOp2 oIdx (mVar 0) (mOp2 oIdx (mVar 2) (mOp1 oNeg (mC (.int 1))))) mNil))) 1000)
  (mRet (mVar 2))))
def F_chain_of : FS := runF 2 3 m_chain_of
def G_chain_of : FS := lrun F_chain_of
def m_step_from : MS := (mSeq (mAsg (mTup (mCons (mCall G_chain_of (mCons (mVar 0) (mCons (mVar 2) mNil))) (mCons (mCall G_chain_of (mCons (mVar 0) (mCons (mVar 3) mNil))) mNil))) (gTupM 2 (gsCons (gNm 6) (gsCons (gNm 7) gsNil))))
  (mSeq (mSet 8 (mFn cMin (mCons (mComp [13, 14] (mEnum (mVar 6)) (gTupM 2 (gsCons (gNm 13) (gsCons (gNm 14) gsNil))) (mTst (mOp2 oIn (mVar 14) (mVar 7))) (mVar 13)) mNil)))
  (mSeq (mSet 9 (mFn cMax (mCons (mLst (mCons (mVar 8) (mStar (mComp [13, 14] (mEnum (mVar 6)) (gTupM 2 (gsCons (gNm 13) (gsCons (gNm 14) gsNil))) (mTst (mOp2 oIn (mVar 14) (mVar 1))) (mVar 13)) mNil))) mNil)))
  (mSeq (mSet 10 (mFn cTuple (mCons (mComp [14] (mIter (mSl (mVar 6) mNoPart (mPart (mOp2 oAdd (mVar 9) (mC (.int 1)))))) (gNm 14) mYes (mGet2 (mVar 1) (mVar 14) (mC d_NONE))) mNil)))
  (mSeq (mSet 11 (mSl (mVar 7) mNoPart (mPart (mBmL oIndex (mVar 7) (mCons (mOp2 oIdx (mVar 6) (mVar 8)) mNil)))))
  (mSeq (mSet 12 (mFn cTuple (mCons (mComp [14] (mRev (mVar 11)) (gNm 14) mYes (mGet2 (mVar 1) (mVar 14) (mC d_NONE))) mNil)))
  (mRet (mTup (mCons (mVar 10) (mCons (mVar 8) (mCons (mVar 12) (mCons (mCall G_mark_of (mCons (mVar 4) mNil)) (mCons (mVar 5) mNil)))))))))))))
def F_step_from : FS := runF 6 15 m_step_from
def G_step_from : FS := lrun F_step_from
def m_Way_takes : MS := (mRet (mFld 3 "locks" (mVar 0)))
def F_Way_takes : FS := runF 1 1 m_Way_takes
def G_Way_takes : FS := lrun F_Way_takes
def m_Way_hops : MS := (mRet (mFld 3 "walked" (mVar 0)))
def F_Way_hops : FS := runF 1 1 m_Way_hops
def G_Way_hops : FS := lrun F_Way_hops
def m_steps_before : MS := (mSeq (mAsg (mOp2 oIdx (mProp 3 G_Way_takes (mVar 0)) (mVar 1)) (gTupM 3 (gsCons (gNm 2) (gsCons (gNm 3) (gsCons (gNm 4) gsNil)))))
  (mSeq (mIf (mOrB (mTst (mOp2 oEq (mVar 1) (mC (.int 0)))) (mTst (mOp2 oIn (mVar 2) (mC d_QUIET_WORDS)))) (mRet (mLst mNil)) mNext)
  (mSeq (mSet 5 (mIfE (mTst (mOp2 oLe (mVar 1) (mProp 3 G_Way_hops (mVar 0)))) (mOp2 oSub (mVar 1) (mC (.int 1))) (mProp 3 G_Way_hops (mVar 0))))
  (mSeq (mSet 6 (mDComp [13, 14, 15] (mIter (mSl (mProp 3 G_Way_takes (mVar 0)) (mPart (mVar 5)) (mPart (mVar 1)))) (gTupM 3 (gsCons (gNm 13) (gsCons (gNm 14) (gsCons (gNm 15) gsNil)))) mYes (mVar 14) (mCall G_mark_of (mCons (mVar 15) mNil))))
  (mSeq (mPar 7 8 (mCons (mCall G_point_parents (mCons (mVar 0) mNil)) (mCons (mLst mNil) mNil)))
  (mSeq (mFor (mRng2 (mVar 5) (mVar 1)) (gNm 9) (mSeq (mSet 10 (mComp [13, 14, 15] (mIter (mSl (mProp 3 G_Way_takes (mVar 0)) (mPart (mOp2 oAdd (mVar 9) (mC (.int 1)))) (mPart (mOp2 oAdd (mVar 1) (mC (.int 1)))))) (gTupM 3 (gsCons (gNm 13) (gsCons (gNm 14) (gsCons (gNm 15) gsNil)))) mYes (mVar 15)))
  (mSeq (mSet 11 (mIfE (mTru (mFn cAll (mCons (mComp [15] (mIter (mVar 10)) (gNm 15) mYes (mOp2 oEq (mVar 15) (mC d_RISING))) mNil))) (mC d_LESSER) (mC d_ANY)))
  (mSeq (mSet 12 (mOp2 oIdx (mOp2 oIdx (mProp 3 G_Way_takes (mVar 0)) (mVar 9)) (mC (.int 1))))
  (mDrop (mBmL oAppend (mVar 8) (mCons (mTup (mCons (mVar 12) (mCons (mCall G_step_from (mCons (mVar 7) (mCons (mVar 6) (mCons (mVar 12) (mCons (mVar 3) (mCons (mVar 4) (mCons (mVar 11) mNil))))))) mNil))) mNil)))))))
  (mRet (mVar 8))))))))
def F_steps_before : FS := runF 2 16 m_steps_before
def G_steps_before : FS := lrun F_steps_before
def m_sources : MS := (mSeq (mSet 1 mNd0)
  (mSeq (mFor (mEnum (mVar 0)) (gTupM 2 (gsCons (gNm 2) (gsCons (gNm 3) gsNil))) (mFor (mRng1 (mFn cLen (mCons (mProp 3 G_Way_takes (mVar 3)) mNil))) (gNm 4) (mFor (mIter (mCall G_steps_before (mCons (mVar 3) (mCons (mVar 4) mNil)))) (gTupM 2 (gsCons (gNm 5) (gsCons (gNm 6) gsNil))) (mDrop (mBmL oAppend (mSetD (mVar 1) (mVar 6) (mLst mNil)) (mCons (mTup (mCons (mVar 2) (mCons (mVar 4) (mCons (mVar 5) mNil)))) mNil))))))
  (mRet (mVar 1))))
def F_sources : FS := runF 1 7 m_sources
def G_sources : FS := F_sources
def m_steps : MS := (mSeq (mSet 1 (mCall G_sources (mCons (mVar 0) mNil)))
  (mRet (mFn cSorted (mCons (mLockE (lkVar 1) (mComp [2] (mKeys (mVar 1)) (gNm 2) (mOrB (mTst (mOp2 oEq (mOp2 oIdx (mVar 2) (mOp1 oNeg (mC (.int 1)))) (mC d_ANY))) (mTst (mOp2 oNotInN (mOp2 oAdd (mSl (mVar 2) mNoPart (mPart (mOp1 oNeg (mC (.int 1))))) (mTup (mCons (mC d_ANY) mNil))) (mVar 1)))) (mVar 2))) mNil))))
def F_steps : FS := runF 1 3 m_steps
def G_steps : FS := lrun F_steps
def m_begun : MS := (mSeq mBad
  (mSeq mBad
  mBad))
def F_begun : FS := runF 1 7 m_begun
def G_begun : FS := lrun F_begun
def m_is_number : MS := (mRet (mAndV (mIsi (isiT .int []) (mVar 0)) (mNotV (mIsi (isiT .bl []) (mVar 0)))))
def F_is_number : FS := runF 1 1 m_is_number
def G_is_number : FS := lrun F_is_number
def m_is_situation : MS := (mSeq (mIf (mOrB (mNotB (mTru (mIsi (isiT .tup []) (mVar 0)))) (mTst (mOp2 oNe (mFn cLen (mCons (mVar 0) mNil)) (mC (.int 4))))) (mRet (mC (.bl false))) mNext)
  (mSeq (mAsg (mVar 0) (gTupM 4 (gsCons (gNm 1) (gsCons (gNm 2) (gsCons (gNm 3) (gsCons (gNm 4) gsNil))))))
  (mSeq (mIf (mOrB (mNotB (mTru (mIsi (isiT .tup []) (mVar 1)))) (mOrB (mTst (mOp2 oNe (mFn cLen (mCons (mVar 1) mNil)) (mC d_HEIGHTS))) (mNotB (mTru (mFn cAll (mCons (mComp [5] (mIter (mVar 1)) (gNm 5) mYes (mOp2 oIn (mVar 5) (mC d_MARKS))) mNil)))))) (mRet (mC (.bl false))) mNext)
  (mRet (mAndV (mCall G_is_number (mCons (mVar 2) mNil)) (mAndV (mChain oLe oLt (mC (.int 0)) (mVar 2) (mC d_HEIGHTS)) (mAndV (mOp2 oIn (mVar 3) (mTup (mCons (mC d_SHARED) (mCons (mC d_ALONE) mNil)))) (mIsi (isiT .bl []) (mVar 4)))))))))
def F_is_situation : FS := runF 1 6 m_is_situation
def G_is_situation : FS := lrun F_is_situation
def m_is_link : MS := (mSeq (mIf (mOrB (mNotB (mTru (mIsi (isiT .tup []) (mVar 0)))) (mTst (mOp2 oNe (mFn cLen (mCons (mVar 0) mNil)) (mC (.int 3))))) (mRet (mC (.bl false))) mNext)
  (mRet (mAndV (mCall G_is_number (mCons (mOp2 oIdx (mVar 0) (mC (.int 0))) mNil)) (mAndV (mOp2 oInM (mOp2 oIdx (mVar 0) (mC (.int 1))) (mC d_MARKS)) (mCall G_is_number (mCons (mOp2 oIdx (mVar 0) (mC (.int 2))) mNil))))))
def F_is_link : FS := runF 1 1 m_is_link
def G_is_link : FS := lrun F_is_link
def m_is_net : MS := (mSeq (mIf (mOrB (mNotB (mTru (mIsiA (isiT .tup []) (mVar 0)))) (mTst (mOp2 oNe (mFn cLen (mCons (mVar 0) mNil)) (mC d_NET_PARTS)))) (mRet (mC (.bl false))) mNext)
  (mSeq (mAsg (mVar 0) (gTupM 3 (gsCons (gNm 1) (gsCons (gNm 2) (gsCons (gNm 3) gsNil)))))
  (mSeq (mIf (mOrB (mNotB (mTru (mIsiA (isiT .dic []) (mVar 1)))) (mOrB (mNotB (mTru (mIsiA (isiT .lst []) (mVar 2)))) (mNotB (mTru (mIsiA (isiT .lst []) (mVar 3)))))) (mRet (mC (.bl false))) mNext)
  (mSeq (mIf (mNotB (mTru (mFn cAll (mCons (mComp [4, 5] (mItemsA (mVar 1)) (gTupM 2 (gsCons (gNm 4) (gsCons (gNm 5) gsNil))) mYes (mAndV (mCall G_is_situation (mCons (mVar 4) mNil)) (mCall G_is_number (mCons (mVar 5) mNil)))) mNil)))) (mRet (mC (.bl false))) mNext)
  (mRet (mAndV (mFn cAll (mCons (mComp [6] (mIter (mVar 2)) (gNm 6) mYes (mCall G_is_link (mCons (mVar 6) mNil))) mNil)) (mFn cAll (mCons (mComp [7] (mIter (mVar 3)) (gNm 7) mYes (mCall G_is_number (mCons (mVar 7) mNil))) mNil))))))))
def F_is_net : FS := runF 1 8 m_is_net
def G_is_net : FS := lrun F_is_net
def m_Readeru_initu : MS := (mSeq (mAsgT 3 (mVar 1) (tFd 0 0 "places" (tNm 2 (tNm 3 tNil))))
  (mSeq (mFldSet 0 "stops" (mVar 0) (mDComp [8] (mIter (mVar 3)) (gNm 8) mYes (mVar 8) (mC (.bl true))))
  (mSeq (mFldSet 0 "next_ones" (mVar 0) mNd0)
  (mFor (mIter (mVar 2)) (gTupM 3 (gsCons (gNm 4) (gsCons (gNm 5) (gsCons (gNm 6) gsNil)))) (mSeq (mSet 7 (mSetD (mFld 0 "next_ones" (mVar 0)) (mTup (mCons (mVar 4) (mCons (mVar 5) mNil))) mDic0))
  (mPutN (mVar 7) (mVar 6) (mC (.bl true))))))))
def F_Readeru_initu : FS := runF 2 9 m_Readeru_initu
def G_Readeru_initu : FS := lrun F_Readeru_initu
def m_Reader_has : MS := mBad
def F_Reader_has : FS := runF 2 2 m_Reader_has
def G_Reader_has : FS := lrun F_Reader_has
def m_Reader_is_closed : MS := (mSeq mBad
  (mSeq mBad
  mBad))
def F_Reader_is_closed : FS := runF 3 8 m_Reader_is_closed
def G_Reader_is_closed : FS := lrun F_Reader_is_closed
def m_holds : MS := (mSeq (mIf (mNotB (mTru (mCall G_is_net (mCons (mVar 1) mNil)))) (mRet (mC (.bl false))) mNext)
  (mSeq (mAsg (mTup (mCons (mMake 0 G_Readeru_initu (mCons (mVar 1) mNil)) (mCons (mCall G_steps (mCons (mVar 0) mNil)) mNil))) (gTupM 2 (gsCons (gNm 2) (gsCons (gNm 3) gsNil))))
  (mSeq (mIf (mNotB (mTru (mFn cAll (mCons (mComp [4] (mIter (mVar 3)) (gNm 4) mYes (mMeth 0 "has" G_Reader_has (mVar 2) (mCons (mCall G_begun (mCons (mVar 4) mNil)) mNil))) mNil)))) (mRet (mC (.bl false))) mNext)
  (mRet (mFn cAll (mCons (mComp2 [5, 4] [4] (mKeysF (mFld 0 "places" (mVar 2))) (gNm 5) mYes (mIter (mVar 3)) (gNm 4) mYes (mMeth 0 "is_closed" G_Reader_is_closed (mVar 2) (mCons (mVar 5) (mCons (mVar 4) mNil)))) mNil))))))
def F_holds : FS := runF 2 6 m_holds
def G_holds : FS := F_holds
def m_law_bag : MS := (mSeq (mSet 2 (mIfE (mTst (mOp2 oLt (mVar 1) (mFn cLen (mCons (mVar 0) mNil)))) (mOp2 oIdx (mVar 0) (mVar 1)) (mC (.int 0))))
  (mSeq (mSet 3 (mIfE (mTst (mOp2 oGe (mFn cAbs (mCons (mVar 2) mNil)) (mOp2 oPow (mC (.int 10)) (mC (.int 18))))) (mFn cAbs (mCons (mVar 2) mNil)) (mC (.int 0))))
  (mSeq (mSet 4 (mOp2 oAdd (mOp2 oAdd (mOp2 oMod (mFn cInt (mCons (mVar 2) mNil)) (mC (.int 1000000000000000003))) (mOp2 oMul (mC (.int 7717)) (mVar 1))) (mC (.int 29))))
  (mRet (mLst (mCons (mVar 3) (mCons (mOp2 oAdd (mOp2 oMod (mFn cInt (mCons (mOp2 oAdd (mOp2 oAdd (mOp2 oMul (mVar 4) (mVar 4)) (mOp2 oMul (mC (.int 65537)) (mVar 1))) (mC (.int 11))) mNil)) (mC (.int 2147483549))) (mC (.int 3))) (mCons (mC (.int 0)) mNil))))))))
def Fulaw_bag : FS := runF 2 5 m_law_bag
def Gulaw_bag : FS := lrun Fulaw_bag
def m_law_take : MS := (mSeq (mIf (mTst (mOp2 oGt (mOp2 oIdx (mVar 0) (mC (.int 0))) (mC (.int 0)))) (mSeq (mSet 2 (mOp2 oMod (mFn cInt (mCons (mOp2 oIdx (mVar 0) (mC (.int 0))) mNil)) (mVar 1)))
  (mSeq (mPut (mVar 0) (mC (.int 0)) (mOp2 oFdiv (mOp2 oIdx (mVar 0) (mC (.int 0))) (mVar 1)))
  (mRet (mVar 2)))) mNext)
  (mSeq (mPut (mVar 0) (mC (.int 2)) (mOp2 oAdd (mOp2 oIdx (mVar 0) (mC (.int 2))) (mC (.int 1))))
  (mSeq (mPut (mVar 0) (mC (.int 1)) (mOp2 oMod (mFn cInt (mCons (mOp2 oAdd (mOp2 oAdd (mOp2 oMul (mOp2 oIdx (mVar 0) (mC (.int 1))) (mC (.int 52711))) (mOp2 oMul (mC (.int 90001)) (mOp2 oIdx (mVar 0) (mC (.int 2))))) (mC (.int 7))) mNil)) (mC (.int 2147483579))))
  (mRet (mOp2 oMod (mFn cInt (mCons (mOp2 oFdiv (mOp2 oMul (mFn cInt (mCons (mOp2 oFdiv (mOp2 oIdx (mVar 0) (mC (.int 1))) (mC (.int 32))) mNil)) (mFn cInt (mCons (mOp2 oAdd (mOp2 oFdiv (mOp2 oIdx (mVar 0) (mC (.int 1))) (mC (.int 8191))) (mC (.int 3))) mNil))) (mC (.int 16))) mNil)) (mVar 1))))))
def Fulaw_take : FS := runF 2 3 m_law_take
def Gulaw_take : FS := lrun Fulaw_take
def m_law_points : MS := (mSeq (mSet 2 (mLst mNil))
  (mSeq (mFor (mRng1 (mCall Gulaw_take (mCons (mVar 0) (mCons (mOp2 oAdd (mVar 1) (mC (.int 1))) mNil)))) (gNm 3) (mDrop (mBmL oAppend (mVar 2) (mCons (mIfE (mTst (mOp2 oEq (mCall Gulaw_take (mCons (mVar 0) (mCons (mC (.int 2)) mNil))) (mC (.int 0)))) (mTup (mCons (mC (.str "parent")) mNil)) (mTup (mCons (mC (.str "child")) (mCons (mCall Gulaw_take (mCons (mVar 0) (mCons (mOp2 oAdd (mVar 3) (mC (.int 1))) mNil))) mNil)))) mNil))))
  (mRet (mFn cTuple (mCons (mVar 2) mNil)))))
def Fulaw_points : FS := runF 2 4 m_law_points
def Gulaw_points : FS := lrun Fulaw_points
def m_law_way : MS := (mSeq (mSet 3 (mCall Gulaw_points (mCons (mVar 0) (mCons (mVar 1) mNil))))
  (mSeq (mPar 4 5 (mCons (mListRg1 (mOp2 oAdd (mFn cLen (mCons (mVar 3) mNil)) (mC (.int 1)))) (mCons (mLst mNil) mNil)))
  (mSeq (mSet 6 (mOp2 oAdd (mC (.int 1)) (mCall Gulaw_take (mCons (mVar 0) (mCons (mFn cLen (mCons (mVar 4) mNil)) mNil)))))
  (mSeq (mSet 7 (mFn cMin (mCons (mOp2 oIdx (mLst (mCons (mC (.int 0)) (mCons (mC (.int 0)) (mCons (mC (.int 0)) (mCons (mC (.int 1)) (mCons (mC (.int 2)) (mCons (mC (.int 4)) mNil))))))) (mCall Gulaw_take (mCons (mVar 0) (mCons (mC (.int 6)) mNil)))) (mCons (mOp2 oSub (mVar 6) (mC (.int 1))) mNil))))
  (mSeq (mFor (mRng1 (mVar 6)) (gNm 8) (mSeq (mSet 9 (mChain oLe oLe (mC (.int 1)) (mVar 8) (mVar 7)))
  (mSeq (mSet 10 (mLst (mCons (mC (.str "alone")) (mCons (mC (.str "alone")) (mCons (mC (.str "shared")) mNil)))))
  (mSeq (mIf (mAndB (mTst (mOp2 oGt (mVar 8) (mVar 7))) (mAndB (mTst (mOp2 oNe (mVar 5) (mLst mNil))) (mTst (mOp2 oNe (mOp2 oIdx (mOp2 oIdx (mVar 5) (mOp1 oNeg (mC (.int 1)))) (mC (.int 2))) (mC (.str "shared")))))) (mDrop (mBmL oAppend (mVar 10) (mCons (mC (.str "rising")) mNil))) mNext)
  (mSeq (mSet 11 (mC (.str "take")))
  (mSeq (mIf (mTst (mOp2 oEq (mCall Gulaw_take (mCons (mVar 0) (mCons (mVar 2) mNil))) (mC (.int 0)))) (mSet 11 (mIfE (mTru (mVar 9)) (mC (.str "leap")) (mC (.str "try")))) mNext)
  (mDrop (mBmL oAppend (mVar 5) (mCons (mTup (mCons (mVar 11) (mCons (mBmL oPop (mVar 4) (mCons (mCall Gulaw_take (mCons (mVar 0) (mCons (mFn cLen (mCons (mVar 4) mNil)) mNil))) mNil)) (mCons (mOp2 oIdx (mVar 10) (mCall Gulaw_take (mCons (mVar 0) (mCons (mFn cLen (mCons (mVar 10) mNil)) mNil)))) mNil)))) mNil)))))))))
  (mRet (mTup (mCons (mVar 3) (mCons (mFn cTuple (mCons (mVar 5) mNil)) (mCons (mVar 7) mNil))))))))))
def Fulaw_way : FS := runF 3 12 m_law_way
def Gulaw_way : FS := lrun Fulaw_way
def m_is_integer : MS := (mRet (mAndV (mIsi (isiT .int []) (mVar 0)) (mNotV (mIsi (isiT .bl []) (mVar 0)))))
def F_is_integer : FS := runF 1 1 m_is_integer
def G_is_integer : FS := lrun F_is_integer
def m_is_place : MS := (mSeq (mIf (mOrB (mNotB (mTru (mIsi (isiT .tup []) (mVar 0)))) (mOrB (mTst (mOp2 oNotIn (mFn cLen (mCons (mVar 0) mNil)) (mTup (mCons (mC (.int 1)) (mCons (mC (.int 2)) mNil))))) (mNotB (mTru (mIsi (isiT .str []) (mOp2 oIdx (mVar 0) (mC (.int 0)))))))) (mRet (mC (.bl false))) mNext)
  (mSeq (mIf (mTst (mOp2 oEq (mFn cLen (mCons (mVar 0) mNil)) (mC (.int 1)))) (mRet (mOp2 oEq (mOp2 oIdx (mVar 0) (mC (.int 0))) (mC (.str "parent")))) mNext)
  (mRet (mAndV (mOp2 oEq (mOp2 oIdx (mVar 0) (mC (.int 0))) (mC (.str "child"))) (mAndV (mCall G_is_integer (mCons (mOp2 oIdx (mVar 0) (mC (.int 1))) mNil)) (mChain oLe oLe (mC (.int 0)) (mOp2 oIdx (mVar 0) (mC (.int 1))) (mVar 1)))))))
def F_is_place : FS := runF 2 2 m_is_place
def G_is_place : FS := lrun F_is_place
def m_checked_points : MS := (mSeq (mIf (mOrB (mNotB (mTru (mIsi (isiT .tup []) (mVar 0)))) (mTst (mOp2 oGt (mFn cLen (mCons (mVar 0) mNil)) (mC d_MOST_POINTS)))) mBad mNext)
  (mFor (mEnum (mVar 0)) (gTupM 2 (gsCons (gNm 1) (gsCons (gNm 2) gsNil))) (mIf (mNotB (mTru (mCall G_is_place (mCons (mVar 2) (mCons (mVar 1) mNil))))) mBad mNext)))
def F_checked_points : FS := runF 1 3 m_checked_points
def G_checked_points : FS := lrun F_checked_points
def m_is_take : MS := (mSeq (mIf (mOrB (mNotB (mTru (mIsi (isiT .tup []) (mVar 0)))) (mTst (mOp2 oNe (mFn cLen (mCons (mVar 0) mNil)) (mC (.int 3))))) (mRet (mC (.bl false))) mNext)
  (mSeq (mAsg (mVar 0) (gTupM 3 (gsCons (gNm 2) (gsCons (gNm 3) (gsCons (gNm 4) gsNil)))))
  (mSeq (mIf (mOrB (mNotB (mTru (mIsi (isiT .str []) (mVar 2)))) (mOrB (mNotB (mTru (mIsi (isiT .str []) (mVar 4)))) (mNotB (mTru (mCall G_is_integer (mCons (mVar 3) mNil)))))) (mRet (mC (.bl false))) mNext)
  (mRet (mAndV (mOp2 oIn (mVar 2) (mC d_WORDS)) (mAndV (mOp2 oIn (mVar 4) (mC d_MODES)) (mChain oLe oLt (mC (.int 0)) (mVar 3) (mVar 1))))))))
def F_is_take : FS := runF 2 5 m_is_take
def G_is_take : FS := lrun F_is_take
def m_is_allowed : MS := (mSeq (mAsg (mOp2 oIdx (mVar 0) (mVar 1)) (gTupM 3 (gsCons (gNm 3) (gsCons (gNm 4) (gsCons (gNm 5) gsNil)))))
  (mSeq (mIf (mTst (mOp2 oIn (mVar 4) (mComp [7] (mIter (mSl (mVar 0) mNoPart (mPart (mVar 1)))) (gNm 7) mYes (mOp2 oIdx (mVar 7) (mC (.int 1)))))) (mRet (mC (.bl false))) mNext)
  (mSeq (mSet 6 (mChain oLe oLe (mC (.int 1)) (mVar 1) (mVar 2)))
  (mSeq (mIf (mTst (mOp2 oEq (mVar 3) (mIfE (mTru (mVar 6)) (mC (.str "try")) (mC (.str "leap"))))) (mRet (mC (.bl false))) mNext)
  (mRet (mOrV (mOp2 oNe (mVar 5) (mC (.str "rising"))) (mAndV (mNotV (mVar 6)) (mAndV (mOp2 oGt (mVar 1) (mC (.int 0))) (mOp2 oNe (mOp2 oIdx (mOp2 oIdx (mVar 0) (mOp2 oSub (mVar 1) (mC (.int 1)))) (mC (.int 2))) (mC (.str "shared")))))))))))
def F_is_allowed : FS := runF 3 8 m_is_allowed
def G_is_allowed : FS := lrun F_is_allowed
def m_checked_takes : MS := (mSeq (mIf (mOrB (mNotB (mTru (mCall G_is_integer (mCons (mVar 2) mNil)))) (mTst (mOp2 oLt (mVar 2) (mC (.int 0))))) mBad mNext)
  (mSeq (mIf (mOrB (mNotB (mTru (mIsi (isiT .tup []) (mVar 1)))) (mNotB (mTst (mChain oLe oLe (mC (.int 1)) (mFn cLen (mCons (mVar 1) mNil)) (mC d_MOST_TAKES))))) mBad mNext)
  (mSeq (mIf (mTst (mOp2 oGe (mVar 2) (mFn cLen (mCons (mVar 1) mNil)))) mBad mNext)
  (mFor (mEnum (mVar 1)) (gTupM 2 (gsCons (gNm 3) (gsCons (gNm 4) gsNil))) (mIf (mOrB (mNotB (mTru (mCall G_is_take (mCons (mVar 4) (mCons (mOp2 oAdd (mFn cLen (mCons (mVar 0) mNil)) (mC (.int 1))) mNil))))) (mNotB (mTru (mCall G_is_allowed (mCons (mVar 1) (mCons (mVar 3) (mCons (mVar 2) mNil))))))) mBad mNext)))))
def F_checked_takes : FS := runF 3 5 m_checked_takes
def G_checked_takes : FS := lrun F_checked_takes
def m_Wayu_initu : MS := (mSeq (mDrop (mCall G_checked_points (mCons (mVar 1) mNil)))
  (mSeq (mDrop (mCall G_checked_takes (mCons (mVar 1) (mCons (mVar 2) (mCons (mVar 3) mNil)))))
  (mSeq (mFldSet 3 "places" (mVar 0) (mVar 1))
  (mSeq (mFldSet 3 "locks" (mVar 0) (mVar 2))
  (mFldSet 3 "walked" (mVar 0) (mVar 3))))))
def F_Wayu_initu : FS := runF 4 4 m_Wayu_initu
def G_Wayu_initu : FS := lrun F_Wayu_initu
def m_law_made : MS := (mRet (mMakeK 3 G_Wayu_initu gd_Way_K2_hops (mCons (mOp2 oIdx (mVar 0) (mC (.int 0))) (mCons (mOp2 oIdx (mVar 0) (mC (.int 1))) mNil)) (mCons (mOp2 oIdx (mVar 0) (mC (.int 2))) mNil)))
def Fulaw_made : FS := runF 1 1 m_law_made
def Gulaw_made : FS := lrun Fulaw_made
def m_law_situations : MS := (mSeq (mSet 0 (mTup (mCons (mC (.str "alone")) (mCons (mC (.str "none")) (mCons (mC (.str "none")) (mCons (mC (.str "none")) (mCons (mC (.str "none")) mNil)))))))
  (mSeq (mSet 1 (mLst (mCons (mTup (mCons (mVar 0) (mCons (mC (.int 0)) (mCons (mC (.str "alone")) mNil)))) (mCons (mTup (mCons (mSl (mVar 0) mNoPart (mPart (mC (.int 4)))) (mCons (mC (.int 0)) (mCons (mC (.str "alone")) (mCons (mC (.bl true)) mNil))))) (mCons (mTup (mCons (mVar 0) (mCons (mC (.int 5)) (mCons (mC (.str "alone")) (mCons (mC (.bl true)) mNil))))) (mCons (mTup (mCons (mVar 0) (mCons (mOp1 oNeg (mC (.int 1))) (mCons (mC (.str "alone")) (mCons (mC (.bl true)) mNil))))) mNil))))))
  (mSeq (mSet 1 (mOp2 oAdd (mVar 1) (mLst (mCons (mTup (mCons (mVar 0) (mCons (mC (.bl true)) (mCons (mC (.str "alone")) (mCons (mC (.bl true)) mNil))))) (mCons (mTup (mCons (mVar 0) (mCons (mC (.int 0)) (mCons (mC (.str "none")) (mCons (mC (.bl true)) mNil))))) (mCons (mTup (mCons (mVar 0) (mCons (mC (.int 0)) (mCons (mC (.str "alone")) (mCons (mC (.int 1)) mNil))))) mNil))))))
  (mSeq (mSet 1 (mOp2 oAdd (mVar 1) (mLst (mCons (mTup (mCons (mVar 0) (mCons (mC (.str "0")) (mCons (mC (.str "alone")) (mCons (mC (.bl true)) mNil))))) (mCons (mTup (mCons (mOp2 oAdd (mSl (mVar 0) mNoPart (mPart (mC (.int 4)))) (mTup (mCons (mC (.str "free")) mNil))) (mCons (mC (.int 0)) (mCons (mC (.str "alone")) (mCons (mC (.bl true)) mNil))))) mNil)))))
  (mSeq (mSet 1 (mOp2 oAdd (mVar 1) (mLst (mCons (mTup (mCons (mOp2 oAdd (mVar 0) (mTup (mCons (mC (.str "none")) mNil))) (mCons (mC (.int 0)) (mCons (mC (.str "alone")) (mCons (mC (.bl true)) mNil))))) (mCons (mC .non) (mCons (mC (.int 3)) (mCons (mC (.str "line")) (mCons (mTup mNil) mNil))))))))
  (mRet (mOp2 oAdd (mVar 1) (mLst (mCons (mTup (mCons (mVar 0) (mCons (mC (.int 0)) (mCons (mC (.str "rising")) (mCons (mC (.bl true)) mNil))))) (mCons (mTup (mCons (mOp2 oAdd (mSl (mVar 0) mNoPart (mPart (mC (.int 4)))) (mTup (mCons (mC .non) mNil))) (mCons (mC (.int 0)) (mCons (mC (.str "alone")) (mCons (mC (.bl false)) mNil))))) (mCons (mTup (mCons (mVar 0) (mCons (mC (.int 0)) (mCons (mC (.str "alone")) (mCons (mC .non) mNil))))) mNil)))))))))))
def Fulaw_situations : FS := runF 0 2 m_law_situations
def Gulaw_situations : FS := lrun Fulaw_situations
def m_law_odd_nets : MS := (mSeq (mSet 1 (mTup (mCons (mTup (mCons (mC (.str "alone")) (mCons (mC (.str "none")) (mCons (mC (.str "none")) (mCons (mC (.str "none")) (mCons (mC (.str "none")) mNil)))))) (mCons (mC (.int 0)) (mCons (mC (.str "alone")) (mCons (mC (.bl true)) mNil))))))
  (mSeq (mSet 2 (mLst (mCons (mC .non) (mCons (mC (.int 0)) (mCons (mC (.bl true)) (mCons (mC (.str "")) (mCons (mC (.str "net")) (mCons (mLst mNil) (mCons (mTup mNil) (mCons mDic0 (mCons (mTup (mCons mDic0 (mCons (mLst mNil) mNil))) (mCons (mTup (mCons mDic0 (mCons (mLst mNil) (mCons (mLst mNil) (mCons (mLst mNil) mNil))))) (mCons (mLst (mCons mDic0 (mCons (mLst mNil) (mCons (mLst mNil) mNil)))) (mCons (mTup (mCons (mLst mNil) (mCons (mLst mNil) (mCons (mLst mNil) mNil)))) mNil))))))))))))))
  (mSeq (mSet 2 (mOp2 oAdd (mVar 2) (mLst (mCons (mTup (mCons mDic0 (mCons (mTup mNil) (mCons (mLst mNil) mNil)))) (mCons (mTup (mCons mDic0 (mCons (mLst mNil) (mCons (mTup mNil) mNil)))) (mCons (mTup (mCons mDic0 (mCons mDic0 (mCons (mLst mNil) mNil)))) (mCons (mTup (mCons (mDicA (mVar 1) (mC (.bl true))) (mCons (mLst mNil) (mCons (mLst mNil) mNil)))) (mCons (mTup (mCons (mDicA (mVar 1) (mC (.str "1"))) (mCons (mLst mNil) (mCons (mLst mNil) mNil)))) mNil))))))))
  (mSeq (mDrop (mBmL oAppend (mVar 2) (mCons (mTup (mCons (mDicA (mVar 1) (mC .non)) (mCons (mLst mNil) (mCons (mLst mNil) mNil)))) mNil)))
  (mSeq (mSet 3 (mLst (mCons (mTup (mCons (mC (.int 1)) (mCons (mC (.str "none")) mNil))) (mCons (mTup (mCons (mC (.int 1)) (mCons (mC (.str "none")) (mCons (mC (.int 2)) (mCons (mC (.int 3)) mNil))))) (mCons (mLst (mCons (mC (.int 1)) (mCons (mC (.str "none")) (mCons (mC (.int 2)) mNil)))) (mCons (mTup (mCons (mC (.bl true)) (mCons (mC (.str "none")) (mCons (mC (.int 2)) mNil)))) (mCons (mTup (mCons (mC (.int 1)) (mCons (mC (.str "none")) (mCons (mC (.str "2")) mNil)))) (mCons (mC .non) (mCons (mTup (mCons (mC (.int 1)) (mCons (mC (.int 0)) (mCons (mC (.int 2)) mNil)))) mNil)))))))))
  (mSeq (mFor (mIter (mVar 3)) (gNm 4) (mDrop (mBmL oAppend (mVar 2) (mCons (mTup (mCons (mDicA (mVar 1) (mC (.int 1))) (mCons (mLst (mCons (mTup (mCons (mC (.int 1)) (mCons (mC (.str "none")) (mCons (mC (.int 1)) mNil)))) (mCons (mVar 4) mNil))) (mCons (mLst (mCons (mC (.int 1)) mNil)) mNil)))) mNil))))
  (mSeq (mFor (mIter (mLst (mCons (mTup (mCons (mC (.int 1)) (mCons (mC (.str "rising")) (mCons (mC (.int 2)) mNil)))) (mCons (mTup (mCons (mC (.int 1)) (mCons (mC .non) (mCons (mC (.int 2)) mNil)))) (mCons (mTup (mCons (mC (.int 1)) (mCons (mLst (mCons (mC (.str "none")) mNil)) (mCons (mC (.int 2)) mNil)))) (mCons (mTup (mCons (mC (.int 1)) (mCons (mTup (mCons (mC (.str "none")) mNil)) (mCons (mC (.int 2)) mNil)))) (mCons (mC (.str "1n2")) (mCons (mTup (mCons (mC .non) (mCons (mC (.str "none")) (mCons (mC (.int 2)) mNil)))) mNil)))))))) (gNm 4) (mDrop (mBmL oAppend (mVar 2) (mCons (mTup (mCons (mDicA (mVar 1) (mC (.int 1))) (mCons (mLst (mCons (mVar 4) mNil)) (mCons (mLst (mCons (mC (.int 1)) mNil)) mNil)))) mNil))))
  (mSeq (mFor (mIter (mLst (mCons (mC .non) (mCons (mC (.bl true)) (mCons (mC (.bl false)) (mCons (mC (.str "1")) (mCons (mTup (mCons (mC (.int 1)) mNil)) (mCons (mLst (mCons (mC (.int 1)) mNil)) mNil)))))))) (gNm 5) (mDrop (mBmL oAppend (mVar 2) (mCons (mTup (mCons (mDicA (mVar 1) (mC (.int 1))) (mCons (mLst mNil) (mCons (mLst (mCons (mC (.int 1)) (mCons (mVar 5) mNil))) mNil)))) mNil))))
  (mSeq (mSet 2 (mOp2 oAdd (mVar 2) (mComp [7] (mIter (mCall Gulaw_situations mNil)) (gNm 7) mYes (mTup (mCons (mDicA (mVar 7) (mC (.int 1))) (mCons (mLst mNil) (mCons (mLst (mCons (mC (.int 1)) mNil)) mNil)))))))
  (mSeq (mSet 6 (mCall Gulaw_take (mCons (mVar 0) (mCons (mFn cLen (mCons (mVar 2) mNil)) mNil))))
  (mRet (mOp2 oAdd (mSl (mVar 2) (mPart (mVar 6)) mNoPart) (mSl (mVar 2) mNoPart (mPart (mVar 6)))))))))))))))
def Fulaw_odd_nets : FS := runF 1 8 m_law_odd_nets
def Gulaw_odd_nets : FS := lrun Fulaw_odd_nets
def m_law : MS := (mSeq (mFor (mRng1 (mFn cMax (mCons (mC (.int 1)) (mCons (mFn cMin (mCons (mC (.int 3)) (mCons (mFn cLen (mCons (mVar 0) mNil)) mNil))) mNil)))) (gNm 1) (mSeq (mSet 2 (mCall Gulaw_bag (mCons (mVar 0) (mCons (mVar 1) mNil))))
  (mSeq (mSet 3 (mComp [6] (mRng1 (mCall Gulaw_take (mCons (mVar 2) (mCons (mC (.int 3)) mNil)))) (gNm 6) mYes (mCall Gulaw_made (mCons (mCall Gulaw_way (mCons (mVar 2) (mCons (mC (.int 3)) (mCons (mC (.int 4)) mNil)))) mNil))))
  (mFor (mIter (mCall Gulaw_odd_nets (mCons (mVar 2) mNil))) (gNm 4) (mSeq (mSet 5 (mFn cReprU (mCons (mVar 4) mNil)))
  (mIf (mOrB (mTst (mOp2 oNotB (mCall G_holds (mCons (mVar 3) (mCons (mVar 4) mNil))) (mC (.bl false)))) (mOrB (mTst (mOp2 (oNeTx oNe) (mFn cReprU (mCons (mVar 4) mNil)) (mVar 5))) (mTst (mOp2 oNotB (mCall G_holds (mCons (mLst mNil) (mCons (mVar 4) mNil))) (mC (.bl false)))))) (mRet (mC (.bl false))) mNext))))))
  (mRet (mOp2 oIsB (mCall G_holds (mCons (mLst mNil) (mCons (mTup (mCons mDic0 (mCons (mLst (mCons (mTup (mCons (mC (.int 1)) (mCons (mC (.str "none")) (mCons (mC (.int 2)) mNil)))) (mCons (mTup (mCons (mC (.int 1)) (mCons (mC (.str "none")) (mCons (mC (.int 2)) mNil)))) mNil))) (mCons (mLst (mCons (mC (.int 5)) (mCons (mC (.int 5)) mNil))) mNil)))) mNil))) (mC (.bl true)))))
def F_law : FS := runF 1 7 m_law
def BagI (k : Int) (o : O) : Prop := ∃ a b c : Int, o = .lst [.int a, .int b, .int c] ∧ 0 ≤ a ∧ 0 ≤ b ∧ b < 2147483600 ∧ 0 ≤ c ∧ 0 ≤ k ∧ c + k ≤ 1000000000000
theorem BagI.pure {k : Int} {o : O} (h : BagI k o) : refsO o = [] := by
  obtain ⟨a, b, c, rfl, _⟩ := h
  rfl
theorem BagI.mono {k j : Int} {o : O} (h : BagI k o) (h0 : 0 ≤ j) (hj : j ≤ k) : BagI j o := by
  obtain ⟨a, b, c, rfl, h1, h2, h3, h4, h5, h6⟩ := h
  exact ⟨a, b, c, rfl, h1, h2, h3, h4, h0, by omega⟩
theorem take_spec {k m : Int} {o : O} (h : BagI (k + 1) o) (hk : 0 ≤ k) (hm : 0 < m) (hm2 : m < 1000000) : ∃ (r : Int) (o' : O), Fulaw_take [.ref 0, .int m] [o] = .ok (.int r) [o'] ∧ 0 ≤ r ∧ r < m ∧ BagI k o' := by
  obtain ⟨a, b, c, rfl, h1, h2, h3, h4, h5, h6⟩ := h
  have m0 : m ≠ 0 := by omega
  have m1 : m.natAbs < 1073741824 := by omega
  by_cases ha : 0 < a
  · refine ⟨a.fmod m, .lst [.int (a.fdiv m), .int b, .int c], ?_, Int.fmod_nonneg_of_pos _ hm, Int.fmod_lt_of_pos _ hm, a.fdiv m, b, c, rfl, Int.fdiv_nonneg h1 (by omega), h2, h3, h4, hk, by omega⟩
    simp [Fulaw_take, runF, m_law_take, mSeq, mIf, mTst, mOp2, mVar, mC, Rs.bind, Rs.bindS, oIdx, ofO, oGt, oCmp, atI, ixN, ha, mSet, mFn, mCons, mNil, cInt, oMod, m0, mPut, oFdiv, m1, oPut, mRet]
  · have hy0 : 0 ≤ (b * 52711 + 90001 * (c + 1) + 7).fmod 2147483579 := Int.fmod_nonneg_of_pos _ (by decide)
    have hy1 : (b * 52711 + 90001 * (c + 1) + 7).fmod 2147483579 < 2147483579 := Int.fmod_lt_of_pos _ (by decide)
    generalize hY : (b * 52711 + 90001 * (c + 1) + 7).fmod 2147483579 = Y at hy0 hy1
    have z0 : 0 ≤ Y.fdiv 32 := Int.fdiv_nonneg hy0 (by decide)
    have z1 : Y.fdiv 32 < 2 ^ 64 := by
      rw [Int.fdiv_eq_ediv_of_nonneg _ (by decide)]
      omega
    generalize hZ : Y.fdiv 32 = Z at z0 z1
    have ok : ∀ T : Int, mulOk Z T = true := fun T => by
      unfold mulOk
      simp only [Bool.or_eq_true, decide_eq_true_eq]
      exact .inl (.inl ⟨by omega, z1⟩)
    have ok2 : ∀ T : Int, mulOk T 52711 = true := fun T => by
      unfold mulOk
      simp only [Bool.or_eq_true, decide_eq_true_eq]
      exact .inl (.inr ⟨by decide, by decide⟩)
    have ok3 : ∀ T : Int, mulOk 90001 T = true := fun T => by
      unfold mulOk
      simp only [Bool.or_eq_true, decide_eq_true_eq]
      exact .inl (.inl ⟨by decide, by decide⟩)
    refine ⟨((Z * (Y.fdiv 8191 + 3)).fdiv 16).fmod m, .lst [.int a, .int Y, .int (c + 1)], ?_, Int.fmod_nonneg_of_pos _ hm, Int.fmod_lt_of_pos _ hm, a, Y, c + 1, rfl, h1, hy0, by omega, by omega, hk, by omega⟩
    simp [Fulaw_take, runF, m_law_take, mSeq, mIf, mTst, mOp2, mVar, mC, Rs.bind, Rs.bindS, oIdx, ofO, oGt, oCmp, atI, ixN, ha, mSet, mFn, mCons, mNil, cInt, oMod, m0, mPut, oFdiv, m1, oPut, mRet, mNext, oAdd, oMul, ok, ok2, ok3, hY, hZ]
theorem Gtake {k m : Int} {o : O} {L : List O} {n : Nat} (hL : L[n]? = some o) (h : BagI (k + 1) o) (hk : 0 ≤ k) (hm : 0 < m) (hm2 : m < 1000000) : ∃ (r : Int) (o' : O), Gulaw_take [.ref n, .int m] L = .ok (.int r) (L.set n o') ∧ 0 ≤ r ∧ r < m ∧ BagI k o' := by
  obtain ⟨r, o', e, h1, h2, h3⟩ := take_spec h hk hm hm2
  exact ⟨r, o', lrun_bag (X := []) rfl hL h.pure e h3.pure rfl, h1, h2, h3⟩
theorem atI_get {α : Type} {xs : List α} {i : Nat} {x : α} (h : xs[i]? = some x) : atI xs (i : Int) = some x := by
  obtain ⟨hi, _⟩ := List.getElem?_eq_some_iff.mp h
  have : ixN xs.length (i : Int) = some i := by
    unfold ixN
    rw [if_pos (by omega), if_pos (by omega)]
    rfl
  unfold atI
  rw [this]
  exact h
theorem refs_all {ds : List D} (h : ∀ d ∈ ds, refsD d = []) : refsDs ds = [] := by
  induction ds with
  | nil => rfl
  | cons d ds ih =>
    show refsD d ++ refsDs ds = []
    rw [h d List.mem_cons_self, ih fun e he => h e (List.mem_cons_of_mem _ he)]
    rfl
theorem bag_spec (ns : List Int) (i : Nat) (hi : i ≤ 100) : ∃ o, Fulaw_bag [.rol (ns.map .int), .int (i : Int)] [] = .ok (.ref 0) [o] ∧ BagI 900000000000 o := by
  have num : ∃ N : Int, ∀ x2 x3 x4 : Option D, mSet 2 (mIfE (mTst (mOp2 oLt (mVar 1) (mFn cLen (mCons (mVar 0) mNil)))) (mOp2 oIdx (mVar 0) (mVar 1)) (mC (.int 0))) [some (.rol (ns.map .int)), some (.int (i : Int)), x2, x3, x4] [] = .nx [some (.rol (ns.map .int)), some (.int (i : Int)), some (.int N), x3, x4] [] := by
    by_cases h : i < ns.length
    · refine ⟨ns[i], fun x2 x3 x4 => ?_⟩
      have e : (ns.map D.int)[i]? = some (.int ns[i]) := by simp [h]
      have hat := atI_get e
      have h' : (i : Int) < (ns.length : Nat) := by omega
      generalize hT : ns.map D.int = T at hat
      have hl : T.length = ns.length := by rw [← hT]; simp
      simp [mSet, mIfE, mTst, mOp2, mVar, mFn, mCons, mNil, cLen, Rs.bind, Rs.bindS, ofO, oLt, oCmp, hl, h, oIdx, hat]
    · refine ⟨0, fun x2 x3 x4 => ?_⟩
      simp [mSet, mIfE, mTst, mOp2, mVar, mFn, mCons, mNil, cLen, Rs.bind, Rs.bindS, ofO, oLt, oCmp, h, mC]
  obtain ⟨N, hN⟩ := num
  have y0 : 0 ≤ N.fmod 1000000000000000003 := Int.fmod_nonneg_of_pos _ (by decide)
  have y1 : N.fmod 1000000000000000003 < 1000000000000000003 := Int.fmod_lt_of_pos _ (by decide)
  have ok2 : ∀ T : Int, mulOk 7717 T = true := fun T => by
    unfold mulOk
    simp only [Bool.or_eq_true, decide_eq_true_eq]
    exact .inl (.inl ⟨by decide, by decide⟩)
  have ok3 : ∀ T : Int, mulOk 65537 T = true := fun T => by
    unfold mulOk
    simp only [Bool.or_eq_true, decide_eq_true_eq]
    exact .inl (.inl ⟨by decide, by decide⟩)
  have ok4 : mulOk (N.fmod 1000000000000000003 + 7717 * (i : Int) + 29) (N.fmod 1000000000000000003 + 7717 * (i : Int) + 29) = true := by
    unfold mulOk
    simp only [Bool.or_eq_true, decide_eq_true_eq]
    exact .inl (.inl ⟨by omega, by omega⟩)
  generalize hM : N.fmod 1000000000000000003 + 7717 * (i : Int) + 29 = M at ok4
  have w0 : 0 ≤ (M * M + 65537 * (i : Int) + 11).fmod 2147483549 := Int.fmod_nonneg_of_pos _ (by decide)
  have w1 : (M * M + 65537 * (i : Int) + 11).fmod 2147483549 < 2147483549 := Int.fmod_lt_of_pos _ (by decide)
  generalize hT : ns.map D.int = T at hN ⊢
  by_cases hb : (1000000000000000000 : Int) ≤ (if N < 0 then -N else N)
  · refine ⟨.lst [.int (if N < 0 then -N else N), .int ((M * M + 65537 * (i : Int) + 11).fmod 2147483549 + 3), .int 0], ?_, _, _, _, rfl, by omega, by omega, by omega, by omega, by omega, by omega⟩
    simp [Fulaw_bag, runF, m_law_bag, mSeq, hN]
    simp [mSet, mIfE, mTst, mOp2, mVar, mFn, mCons, mNil, mC, cAbs, cInt, Rs.bind, Rs.bindS, ofO, oGe, oCmp, oPow, oMod, oAdd, oMul, ok2, ok3, hM, ok4, hb, mRet, mLst, most]
  · refine ⟨.lst [.int 0, .int ((M * M + 65537 * (i : Int) + 11).fmod 2147483549 + 3), .int 0], ?_, _, _, _, rfl, by omega, by omega, by omega, by omega, by omega, by omega⟩
    simp [Fulaw_bag, runF, m_law_bag, mSeq, hN]
    simp [mSet, mIfE, mTst, mOp2, mVar, mFn, mCons, mNil, mC, cAbs, cInt, Rs.bind, Rs.bindS, ofO, oGe, oCmp, oPow, oMod, oAdd, oMul, ok2, ok3, hM, ok4, hb, mRet, mLst, most]
theorem Gbag (ns : List Int) (i : Nat) (hi : i ≤ 100) (L : List O) : ∃ o, Gulaw_bag [.rol (ns.map .int), .int (i : Int)] L = .ok (.ref L.length) (L ++ [o]) ∧ BagI 900000000000 o := by
  obtain ⟨o, e, b⟩ := bag_spec ns i hi
  refine ⟨o, lrun_new (X := []) ?_ e b.pure, b⟩
  have : refsDs (ns.map D.int) = [] := refs_all fun d hd => by
    obtain ⟨n, _, rfl⟩ := List.mem_map.mp hd
    rfl
  show refsDs (ns.map D.int) ++ [] = []
  rw [this]
  rfl
theorem seq_nx {a b : MS} {ε ε1 : En} {L L1 : List O} (h : a ε L = .nx ε1 L1) : mSeq a b ε L = b ε1 L1 := by
  unfold mSeq
  rw [h]
def PlaceOk (i : Int) (p : D) : Prop := p = .tup [.str "parent"] ∨ ∃ j : Int, 0 ≤ j ∧ j ≤ i ∧ p = .tup [.str "child", .int j]
def PlacesOk (ps : List D) : Prop := ps.length ≤ 4 ∧ ∀ (i : Nat) p, ps[i]? = some p → PlaceOk i p
theorem PlaceOk.pure {i : Int} {p : D} (h : PlaceOk i p) : refsD p = [] := by
  rcases h with rfl | ⟨j, _, _, rfl⟩ <;> rfl
theorem PlacesOk.pure {ps : List D} (h : PlacesOk ps) : refsDs ps = [] := refs_all fun d hd => by
  obtain ⟨i, hi⟩ := List.getElem?_of_mem hd
  exact (h.2 i d hi).pure
abbrev Tk := Str × Int × Str
def tkD (t : Tk) : D := .tup [.str t.1, .int t.2.1, .str t.2.2]
def hopAt (h : Int) (i : Nat) : Bool := decide ((1 : Int) ≤ (i : Nat)) && decide (((i : Nat) : Int) ≤ h)
theorem tk_pure (tl : List Tk) : refsDs (tl.map tkD) = [] := refs_all fun d hd => by
  obtain ⟨t, _, rfl⟩ := List.mem_map.mp hd
  rfl
theorem atI_last {xs : List D} {x : D} : atI (xs ++ [x]) (-1) = some x := by
  have : ixN (xs ++ [x]).length (-1) = some xs.length := by
    unfold ixN
    rw [if_neg (by decide), if_pos (by simp; omega)]
    congr 1
    simp
    omega
  unfold atI
  rw [this]
  simp
theorem seqIx {r : Int} {n : Nat} (h0 : 0 ≤ r) (h1 : r < n) : seqIndex? r n = some r.toNat := by
  have : ixN n r = some r.toNat := by
    unfold ixN
    rw [if_pos h0, if_pos h1]
  exact (ixN_seq this).1
theorem str_eq (L : List O) (a b : Str) : eqData L (.str a) (.str b) = if SeqAt.shaped (.str a) = true ∧ SeqAt.shaped (.str b) = true then some (a == b) else none := rfl
theorem oNe_of {L : List O} {a b : Str} {c : Bool} (h : (if SeqAt.shaped (.str a) = true ∧ SeqAt.shaped (.str b) = true then some (a == b) else none) = some c) : oNe (.str a) (.str b) L = some (.bl (!c), L) := by
  unfold oNe
  rw [str_eq, h]
  rfl
theorem integer_ok (i : Int) (L : List O) : G_is_integer [.int i] L = .ok (.bl true) L := lrun_pure (X := []) rfl rfl rfl
theorem oEq_of {L : List O} {a b : Str} {c : Bool} (h : (if SeqAt.shaped (.str a) = true ∧ SeqAt.shaped (.str b) = true then some (a == b) else none) = some c) : oEq (.str a) (.str b) L = some (.bl c, L) := by
  unfold oEq
  rw [str_eq, h]
  rfl
theorem eq_pp (L : List O) : oEq (.str "parent") (.str "parent") L = some (.bl true, L) := oEq_of (by decide +kernel)
theorem eq_cc (L : List O) : oEq (.str "child") (.str "child") L = some (.bl true, L) := oEq_of (by decide +kernel)
theorem eqI_of {L : List O} {a b : Int} : oEq (.int a) (.int b) L = some (.bl (a == b), L) := by
  unfold oEq eqData
  have h1 : toPy L pyDeep (.int a) = some (.int a) := rfl
  have h2 : toPy L pyDeep (.int b) = some (.int b) := rfl
  simp only [h1, h2, shaped_int, and_self, if_true]
  rfl
theorem place_ok {i : Int} {p : D} (h : PlaceOk i p) (L : List O) : G_is_place [p, .int i] L = .ok (.bl true) L := by
  rcases h with rfl | ⟨j, j0, j1, rfl⟩
  · refine lrun_pure (X := []) rfl ?_ rfl
    simp [F_is_place, runF, m_is_place, mSeq, mIf, mOrB, mNotB, mTru, mIsi, mVar, tagD, isiT, Rs.bind, Rs.bindS, truth, mTst, mOp2, mFn, mCons, mNil, cLen, ofO, mTup, mC, most, oNotIn, inD, flatD, eqF, oIdx, atI, ixN, mRet, mNext, eqI_of, eq_pp]
  · refine lrun_pure (X := []) rfl ?_ rfl
    simp [F_is_place, runF, m_is_place, mSeq, mIf, mOrB, mNotB, mTru, mIsi, mVar, tagD, isiT, Rs.bind, Rs.bindS, truth, mTst, mOp2, mFn, mCons, mNil, cLen, ofO, mTup, mC, most, oNotIn, inD, flatD, eqF, oIdx, atI, ixN, mRet, mNext, eqI_of, eq_cc, mAndV, mCall, integer_ok, mChain, oLe, oCmp, j0, j1]
theorem points_ok {ps : List D} (h : PlacesOk ps) (L : List O) : G_checked_points [.tup ps] L = .ok .non L := by
  obtain ⟨ε2, L2, hlp, x, y, rfl, rfl⟩ := loop_all (src := ⟨enumD 0 ps, none⟩) (t := gTupM 2 (gsCons (gNm 1) (gsCons (gNm 2) gsNil))) (body := mIf (mNotB (mTru (mCall G_is_place (mCons (mVar 2) (mCons (mVar 1) mNil))))) mBad mNext)
    (fun i ε L => ∃ x y, ε = [some (.tup ps), x, y] ∧ L = []) (ds := enumD 0 ps) (ε := [some (.tup ps), none, none]) (L := []) (fun _ _ _ _ => rfl) ⟨none, none, rfl, rfl⟩ (by
      rintro i d ε L hd ⟨x, y, rfl, rfl⟩
      obtain ⟨p, hp, rfl⟩ := enumD_get ps 0 i d hd
      have hpl := place_ok (h.2 i p hp) []
      refine ⟨[some (.tup ps), some (.int (0 + i)), some p], [some (.tup ps), some (.int (0 + i)), some p], [], rfl, .inl ?_, _, _, rfl, rfl⟩
      have hpl' : G_is_place [p, .int (0 + (i : Int))] [] = .ok (.bl true) [] := by rw [Int.zero_add]; exact hpl
      simp [mIf, mNotB, mTru, mCall, mCons, mNil, mVar, Rs.bind, Rs.bindS, hpl, hpl', truth, mNext])
  refine lrun_pure (X := []) (by show refsDs ps ++ [] = []; rw [h.pure]; rfl) ?_ rfl
  have h4 : ¬ ((4 : Int) < (ps.length : Nat)) := by have := h.1; omega
  have h4' : ¬ (4 < ps.length) := by have := h.1; omega
  simp [F_checked_points, runF, m_checked_points, mSeq, mIf, mOrB, mNotB, mTru, mIsi, mVar, tagD, isiT, Rs.bind, Rs.bindS, truth, mTst, mOp2, mFn, mCons, mNil, cLen, ofO, mC, oGt, oCmp, h4, h4', mNext, mFor, mEnum, hlp]
def WordOk (w : Str) : Prop := w = "take" ∨ w = "leap" ∨ w = "try"
def ModeOk (m : Str) : Prop := m = "shared" ∨ m = "alone" ∨ m = "rising"
theorem in_words {w : Str} (h : WordOk w) (L : List O) : oIn (.str w) d_WORDS L = some (.bl true, L) := by
  have : inD L (.str w) d_WORDS = some true := by
    have e : inD L (.str w) d_WORDS = inD [] (.str w) d_WORDS := rfl
    rw [e]
    rcases h with rfl | rfl | rfl <;> decide +kernel
  unfold oIn
  rw [this]
  rfl
theorem in_modes {w : Str} (h : ModeOk w) (L : List O) : oIn (.str w) d_MODES L = some (.bl true, L) := by
  have : inD L (.str w) d_MODES = some true := by
    have e : inD L (.str w) d_MODES = inD [] (.str w) d_MODES := rfl
    rw [e]
    rcases h with rfl | rfl | rfl <;> decide +kernel
  unfold oIn
  rw [this]
  rfl
theorem neI_of {L : List O} {a b : Int} : oNe (.int a) (.int b) L = some (.bl (!(a == b)), L) := by
  unfold oNe eqData
  have h1 : toPy L pyDeep (.int a) = some (.int a) := rfl
  have h2 : toPy L pyDeep (.int b) = some (.int b) := rfl
  simp only [h1, h2, shaped_int, and_self, if_true]
  rfl
def AllowAt (h : Int) (tl : List Tk) (i : Nat) (t : Tk) : Prop := t.1 ≠ (if hopAt h i = true then ("try" : Str) else ("leap" : Str)) ∧ t.2.1 ∉ (tl.take i).map (·.2.1) ∧ (t.2.2 ≠ "rising" ∨ (hopAt h i = false ∧ 0 < i ∧ ∃ u, tl[i - 1]? = some u ∧ ModeOk u.2.2 ∧ u.2.2 ≠ "shared"))
structure Tko (many h : Int) (tl : List Tk) (i : Nat) (t : Tk) : Prop where
  word : WordOk t.1
  mode : ModeOk t.2.2
  p0 : 0 ≤ t.2.1
  p1 : t.2.1 < many
  allow : AllowAt h tl i t
structure V (many h : Int) (tl : List Tk) : Prop where
  l1 : 1 ≤ tl.length
  l5 : tl.length ≤ 5
  h0 : 0 ≤ h
  h1 : h < tl.length
  all : ∀ (i : Nat) t, tl[i]? = some t → Tko many h tl i t
theorem cut_to {xs : List D} {i : Nat} (h : i ≤ xs.length) : cutD xs none (some (i : Int)) = xs.take i := by
  unfold cutD
  have h1 : HT.sIx xs.length 0 none = 0 := rfl
  have h2 : HT.sIx xs.length xs.length (some (i : Int)) = i := by
    rw [HT.sIx_nat]
    omega
  rw [h1, h2]
  simp
theorem eq_word {w c : Str} (hw : WordOk w) (hc : c = "try" ∨ c = "leap") (n : w ≠ c) (L : List O) : oEq (.str w) (.str c) L = some (.bl false, L) := by
  refine oEq_of ?_
  rcases hw with rfl | rfl | rfl <;> rcases hc with rfl | rfl
  · decide +kernel
  · decide +kernel
  · decide +kernel
  · exact absurd rfl n
  · exact absurd rfl n
  · decide +kernel
theorem ne_mode {m c : Str} (hm : ModeOk m) (hc : ModeOk c) (L : List O) : oNe (.str m) (.str c) L = some (.bl (decide (m ≠ c)), L) := by
  have : oNe (.str m) (.str c) L = some (.bl (!(decide (m = c))), L) := by
    refine oNe_of ?_
    rcases hm with rfl | rfl | rfl <;> rcases hc with rfl | rfl | rfl <;> decide +kernel
  rw [this]
  by_cases e : m = c <;> simp [e]
theorem asg3 (a b c : Nat) (x y z : D) (ε : En) : (gTupM 3 (gsCons (gNm a) (gsCons (gNm b) (gsCons (gNm c) gsNil)))).f (.tup [x, y, z]) ε = some (((ε.set a (some x)).set b (some y)).set c (some z)) := rfl
def pt1 : D → D
  | .tup [_, p, _] => p
  | _ => .non
theorem istake_ok {n : Int} {t : Tk} (hw : WordOk t.1) (hm : ModeOk t.2.2) (h0 : 0 ≤ t.2.1) (h1 : t.2.1 < n) (L : List O) : G_is_take [tkD t, .int n] L = .ok (.bl true) L := by
  refine lrun_pure (X := []) rfl ?_ rfl
  have w1 := in_words hw []
  have m1 := in_modes hm []
  simp [F_is_take, tkD, runF, m_is_take, mSeq, mIf, mOrB, mNotB, mTru, mIsi, mVar, tagD, isiT, Rs.bind, Rs.bindS, truth, mTst, mOp2, mFn, mCons, mNil, cLen, ofO, mC, mNext, neI_of, mAsg, gTupM, gsCons, gsNil, gNm, mCall, integer_ok, mRet, mAndV, w1, m1, mChain, oLe, oLt, oCmp, h0, h1]
theorem allowed_ok {many h : Int} {tl : List Tk} {i : Nat} {t : Tk} (v : V many h tl) (e : tl[i]? = some t) (L : List O) : G_is_allowed [.tup (tl.map tkD), .int (i : Int), .int h] L = .ok (.bl true) L := by
  have o := v.all i t e
  obtain ⟨a1, a2, a3⟩ := o.allow
  have hi : i < tl.length := (List.getElem?_eq_some_iff.mp e).1
  have e1 : (tl.map tkD)[i]? = some (tkD t) := by rw [List.getElem?_map, e]; rfl
  have hat := atI_get e1
  have hcut : cutD (tl.map tkD) none (some (i : Int)) = (tl.take i).map tkD := by rw [cut_to (by simp; omega), List.map_take]
  -- the points ahead
  have hcomp : ∀ x3 x4 x5 x6 x7 : Option D, mComp [7] (mIter (mSl (mVar 0) mNoPart (mPart (mVar 1)))) (gNm 7) mYes (mOp2 oIdx (mVar 7) (mC (.int 1))) [some (.tup (tl.map tkD)), some (.int (i : Int)), some (.int h), x3, x4, x5, x6, x7] [] = .ok (.ref 0) [.lst (((tl.take i).map (·.2.1)).map D.int)] := by
    intro x3 x4 x5 x6 x7
    have hmi : mIter (mSl (mVar 0) mNoPart (mPart (mVar 1))) [some (.tup (tl.map tkD)), some (.int (i : Int)), some (.int h), x3, x4, x5, x6, x7] [] = .ok ⟨(tl.take i).map tkD, none⟩ [] := by
      simp [mIter, mSl, mVar, mNoPart, mPart, Rs.bind, oSl, ofO, hcut]
    unfold mComp
    rw [hmi]
    show loopC _ _ _ _ _ _ _ _ = _
    rw [comp_map pt1 ((tl.take i).map tkD) [] _ rfl (fun _ => rfl) (fun d hd L => ?_) (by simp; have := v.l5; omega)]
    · simp [pt1, tkD, Function.comp_def]
    · obtain ⟨u, _, rfl⟩ := List.mem_map.mp hd
      exact ⟨_, rfl, rfl⟩
  refine lrun_pure (X := [.lst (((tl.take i).map (·.2.1)).map D.int)]) (by show refsDs (tl.map tkD) ++ _ = []; rw [tk_pure]; rfl) ?_ rfl
  have hin : inD [.lst (((tl.take i).map (·.2.1)).map D.int)] (.int t.2.1) (.ref 0) = some false := by
    rw [inD_ints (ns := (tl.take i).map (·.2.1)) rfl]
    simp only [decide_eq_false a2]
  have hopE : ∀ (ε : En) (L : List O), ε[1]? = some (some (.int (i : Int))) → ε[2]? = some (some (.int h)) → mChain oLe oLe (mC (.int 1)) (mVar 1) (mVar 2) ε L = .ok (.bl (hopAt h i)) L := by
    intro ε L h1 h2
    unfold hopAt
    by_cases q : (1 : Int) ≤ (i : Nat)
    · simp [mChain, Rs.bind, mVar, mC, ofO, oLe, oCmp, q, h1, h2]
    · simp [mChain, Rs.bind, mVar, mC, ofO, oLe, oCmp, q, h1, h2]
  have hne := ne_mode o.mode (c := "rising") (.inr (.inr rfl)) [.lst (((tl.take i).map (·.2.1)).map D.int)]
  have heq := eq_word o.word (c := if hopAt h i = true then ("try" : Str) else ("leap" : Str)) (by split <;> simp) a1 [.lst (((tl.take i).map (·.2.1)).map D.int)]
  generalize hG : [O.lst (((tl.take i).map (·.2.1)).map D.int)] = G at hcomp hin hne heq ⊢
  cases hb : hopAt h i with
  | true =>
    rw [hb] at heq
    have heq' : oEq (.str t.1) (.str "try") G = some (.bl false, G) := heq
    have hr : t.2.2 ≠ "rising" := by
      rcases a3 with a3 | ⟨q, _⟩
      · exact a3
      · rw [hb] at q; cases q
    rw [decide_eq_true hr] at hne
    simp [F_is_allowed, runF, m_is_allowed, mSeq, mAsg, mOp2, mVar, Rs.bind, Rs.bindS, ofO, oIdx, hat, asg3, tkD, mIf, mTst, hcomp, oIn, hin, mNext, mSet, hopE, hb, mIfE, mTru, truth, mC, heq', mRet, mOrV, hne]
  | false =>
    rw [hb] at heq
    have heq' : oEq (.str t.1) (.str "leap") G = some (.bl false, G) := heq
    by_cases hr : t.2.2 = "rising"
    · rw [show decide (t.2.2 ≠ "rising") = false from by rw [hr]; rfl] at hne
      obtain ⟨_, g0, u, g1, g2, g3⟩ : hopAt h i = false ∧ 0 < i ∧ ∃ u, tl[i - 1]? = some u ∧ ModeOk u.2.2 ∧ u.2.2 ≠ "shared" := by
        rcases a3 with a3 | a3
        · exact absurd hr a3
        · exact a3
      have u1 : (tl.map tkD)[i - 1]? = some (tkD u) := by rw [List.getElem?_map, g1]; rfl
      have uat := atI_get u1
      have ei : ((i - 1 : Nat) : Int) = (i : Int) - 1 := by omega
      rw [ei] at uat
      have hne2 := ne_mode g2 (c := "shared") (.inl rfl) G
      rw [decide_eq_true g3] at hne2
      have hat2 : atI [D.str u.1, .int u.2.1, .str u.2.2] 2 = some (.str u.2.2) := rfl
      simp [F_is_allowed, runF, m_is_allowed, mSeq, mAsg, mOp2, mVar, Rs.bind, Rs.bindS, ofO, oIdx, hat, asg3, tkD, mIf, mTst, hcomp, oIn, hin, mNext, mSet, hopE, hb, mIfE, mTru, truth, mC, heq', mRet, mOrV, hne, mAndV, mNotV, oGt, oCmp, g0, oSub, uat, hat2, hne2]
    · rw [decide_eq_true hr] at hne
      simp [F_is_allowed, runF, m_is_allowed, mSeq, mAsg, mOp2, mVar, Rs.bind, Rs.bindS, ofO, oIdx, hat, asg3, tkD, mIf, mTst, hcomp, oIn, hin, mNext, mSet, hopE, hb, mIfE, mTru, truth, mC, heq', mRet, mOrV, hne]
theorem ctakes_ok {ps : List D} {h : Int} {tl : List Tk} (hp : PlacesOk ps) (v : V (ps.length + 1) h tl) (L : List O) : G_checked_takes [.tup ps, .tup (tl.map tkD), .int h] L = .ok .non L := by
  obtain ⟨ε2, L2, hlp, x, y, rfl, rfl⟩ := loop_all (src := ⟨enumD 0 (tl.map tkD), none⟩) (t := gTupM 2 (gsCons (gNm 3) (gsCons (gNm 4) gsNil))) (body := mIf (mOrB (mNotB (mTru (mCall G_is_take (mCons (mVar 4) (mCons (mOp2 oAdd (mFn cLen (mCons (mVar 0) mNil)) (mC (.int 1))) mNil))))) (mNotB (mTru (mCall G_is_allowed (mCons (mVar 1) (mCons (mVar 3) (mCons (mVar 2) mNil))))))) mBad mNext)
    (fun i ε L => ∃ x y, ε = [some (.tup ps), some (.tup (tl.map tkD)), some (.int h), x, y] ∧ L = []) (ds := enumD 0 (tl.map tkD)) (ε := [some (.tup ps), some (.tup (tl.map tkD)), some (.int h), none, none]) (L := []) (fun _ _ _ _ => rfl) ⟨none, none, rfl, rfl⟩ (by
      rintro i d ε L hd ⟨x, y, rfl, rfl⟩
      obtain ⟨p, hq, rfl⟩ := enumD_get _ 0 i d hd
      rw [List.getElem?_map] at hq
      cases ht : tl[i]? with
      | none => rw [ht] at hq; cases hq
      | some t =>
        rw [ht] at hq
        cases hq
        have o := v.all i t ht
        have e1 := istake_ok o.word o.mode o.p0 o.p1 []
        have e2 := allowed_ok v ht []
        refine ⟨[some (.tup ps), some (.tup (tl.map tkD)), some (.int h), some (.int (0 + i)), some (tkD t)], [some (.tup ps), some (.tup (tl.map tkD)), some (.int h), some (.int (0 + i)), some (tkD t)], [], rfl, .inl ?_, _, _, rfl, rfl⟩
        simp [mIf, mOrB, mNotB, mTru, mCall, mCons, mNil, mVar, mOp2, mFn, cLen, mC, ofO, oAdd, Rs.bind, Rs.bindS, e1, e2, truth, mNext])
  refine lrun_pure (X := []) (by show refsDs ps ++ (refsDs (tl.map tkD) ++ []) = []; rw [hp.pure, tk_pure]; rfl) ?_ rfl
  have h0 : ¬ (h < 0) := by have := v.h0; omega
  have h1 : (1 : Int) ≤ (tl.length : Nat) := by have := v.l1; omega
  have h2 : ((tl.length : Nat) : Int) ≤ 5 := by have := v.l5; omega
  have h3 : ¬ (((tl.length : Nat) : Int) ≤ h) := by have := v.h1; omega
  have h1' : 1 ≤ tl.length := v.l1
  have h2' : tl.length ≤ 5 := v.l5
  simp [F_checked_takes, runF, m_checked_takes, mSeq, mIf, mOrB, mNotB, mTru, mIsi, mVar, tagD, isiT, Rs.bind, Rs.bindS, truth, mTst, mOp2, mFn, mCons, mNil, cLen, ofO, mC, oGe, oLt, oLe, oCmp, mCall, integer_ok, h0, h1, h2, h3, h1', h2', mChain, mNext, mFor, mEnum, hlp]
def wayO (ps : List D) (tl : List Tk) (h : Int) : O := .ins 3 [("places", .tup ps), ("locks", .tup (tl.map tkD)), ("walked", .int h)]
theorem wayO_pure {ps : List D} {tl : List Tk} {h : Int} (hp : PlacesOk ps) : refsO (wayO ps tl h) = [] := by
  show refsDs ps ++ (refsDs (tl.map tkD) ++ ([] ++ [])) = []
  rw [hp.pure, tk_pure]
  rfl
theorem init_ok {ps : List D} {h : Int} {tl : List Tk} (hp : PlacesOk ps) (v : V (ps.length + 1) h tl) {L : List O} {n : Nat} (hn : L[n]? = some (.ins 3 [])) : G_Wayu_initu [.ref n, .tup ps, .tup (tl.map tkD), .int h] L = .ok .non (L.set n (wayO ps tl h)) := by
  refine lrun_bag (X := []) (by show refsDs ps ++ (refsDs (tl.map tkD) ++ ([] ++ [])) = []; rw [hp.pure, tk_pure]; rfl) hn rfl ?_ (wayO_pure hp) rfl
  have e1 := points_ok hp [O.ins 3 []]
  have e2 := ctakes_ok hp v [O.ins 3 []]
  have k1 : ¬ (("places" : Str) = "locks") := by decide +kernel
  have k2 : ¬ (("places" : Str) = "walked") := by decide +kernel
  have k3 : ¬ (("locks" : Str) = "walked") := by decide +kernel
  simp [F_Wayu_initu, runF, m_Wayu_initu, mSeq, mDrop, mCall, mCons, mNil, mVar, Rs.bind, Rs.bindS, e1, e2, mFldSet, putD, k1, k2, k3, wayO]
theorem nice_word {w : Str} (h : WordOk w) : Nice 0 (.str w) := ⟨_, nice_str (by rcases h with rfl | rfl | rfl <;> decide +kernel)⟩
theorem nice_mode {w : Str} (h : ModeOk w) : Nice 0 (.str w) := ⟨_, nice_str (by rcases h with rfl | rfl | rfl <;> decide +kernel)⟩
structure Pt where
  ps : List D
  tl : List Tk
  h : Int
def Pt.d (P : Pt) : D := .tup [.tup P.ps, .tup (P.tl.map tkD), .int P.h]
def Pt.o (P : Pt) : O := wayO P.ps P.tl P.h
structure Pt.Ok (P : Pt) : Prop where
  pl : PlacesOk P.ps
  v : V (P.ps.length + 1) P.h P.tl
theorem Pt.Ok.opure {P : Pt} (o : P.Ok) : refsO P.o = [] := wayO_pure o.pl
theorem ap {L X : List O} {n : Nat} {o : O} (h : L[n]? = some o) : (L ++ X)[n]? = some o := by
  rw [List.getElem?_append_left (List.getElem?_eq_some_iff.mp h).1]; exact h
theorem lt_of {L : List O} {n : Nat} {o : O} (h : L[n]? = some o) : n < L.length := (List.getElem?_eq_some_iff.mp h).1
theorem made {P : Pt} (p : P.Ok) (L : List O) : mMadeG 3 G_Wayu_initu (fun x => gd_Way_K2_hops [x, .tup P.ps, .tup (P.tl.map tkD)] [.int P.h]) L = .ok (.ref L.length) (L ++ [P.o]) := by
  have e := init_ok p.pl p.v (L := L ++ [.ins 3 []]) (n := L.length) (by simp)
  have g : gd_Way_K2_hops [.ref L.length, .tup P.ps, .tup (P.tl.map tkD)] [.int P.h] = [.ref L.length, .tup P.ps, .tup (P.tl.map tkD), .int P.h] := rfl
  unfold mMadeG
  simp only [g, e, Rs.bind]
  simp [Pt.o]
theorem erase_map (f : Int → D) : ∀ (l : List Int) (k : Nat), (l.map f).eraseIdx k = (l.eraseIdx k).map f
  | [], _ => by simp
  | _ :: _, 0 => by simp
  | x :: l, k + 1 => by simp [erase_map f l k]
def TkOk (many h : Int) (tl : List Tk) (i : Nat) (t : Tk) : Prop :=
  (t.1 = "take" ∨ t.1 = (if hopAt h i = true then ("leap" : Str) else ("try" : Str))) ∧ 0 ≤ t.2.1 ∧ t.2.1 < many ∧ (t.2.2 = "shared" ∨ t.2.2 = "alone" ∨ (t.2.2 = "rising" ∧ hopAt h i = false ∧ ∃ u, 0 < i ∧ tl[i - 1]? = some u ∧ u.2.2 ≠ "shared")) ∧ t.2.1 ∉ (tl.take i).map (·.2.1)
def TakesOk (many h : Int) (tl : List Tk) : Prop := 1 ≤ tl.length ∧ tl.length ≤ 5 ∧ 0 ≤ h ∧ h < tl.length ∧ ∀ (i : Nat) t, tl[i]? = some t → TkOk many h tl i t
theorem TkOk.word {many h : Int} {tl : List Tk} {i : Nat} {t : Tk} (o : TkOk many h tl i t) : WordOk t.1 := by
  rcases o.1 with e | e
  · exact .inl e
  · split at e
    · exact .inr (.inl e)
    · exact .inr (.inr e)
theorem TkOk.mode {many h : Int} {tl : List Tk} {i : Nat} {t : Tk} (o : TkOk many h tl i t) : ModeOk t.2.2 := by
  rcases o.2.2.2.1 with e | e | e
  · exact .inl e
  · exact .inr (.inl e)
  · exact .inr (.inr e.1)
theorem TakesOk.v {many h : Int} {tl : List Tk} (o : TakesOk many h tl) : V many h tl := by
  obtain ⟨a1, a2, a3, a4, a5⟩ := o
  refine ⟨a1, a2, a3, a4, fun i t e => ?_⟩
  have q := a5 i t e
  refine ⟨q.word, q.mode, q.2.1, q.2.2.1, ?_, q.2.2.2.2, ?_⟩
  · rcases q.1 with e1 | e1
    · rw [e1]
      split
      · exact (by decide +kernel : ("take" : Str) ≠ "try")
      · exact (by decide +kernel : ("take" : Str) ≠ "leap")
    · rw [e1]
      split
      · exact (by decide +kernel : ("leap" : Str) ≠ "try")
      · exact (by decide +kernel : ("try" : Str) ≠ "leap")
  · rcases q.2.2.2.1 with e1 | e1 | ⟨e1, e2, u, e3, e4, e5⟩
    · left; rw [e1]; exact (by decide +kernel : ("shared" : Str) ≠ "rising")
    · left; rw [e1]; exact (by decide +kernel : ("alone" : Str) ≠ "rising")
    · right; exact ⟨e2, e3, u, e4, (a5 _ u e4).mode, e5⟩
structure TkSt (many h : Int) (left : List Int) (tl : List Tk) (L : List O) (o : O) : Prop where
  bag : L[0]? = some o
  lf : L[1]? = some (.lst (left.map D.int))
  found : L[2]? = some (.lst (tl.map tkD))
  okk : ∀ (i : Nat) t, tl[i]? = some t → TkOk many h tl i t
  rng : ∀ p ∈ left, 0 ≤ p ∧ p < many
  nd : left.Nodup
  dis : ∀ p ∈ left, p ∉ tl.map (·.2.1)
theorem TkSt.push {many h : Int} {left : List Int} {tl : List Tk} {L : List O} {o : O} (S : TkSt many h left tl L o) (x : O) : TkSt many h left tl (L ++ [x]) o :=
  ⟨by rw [List.getElem?_append_left (List.getElem?_eq_some_iff.mp S.bag).1]; exact S.bag, by rw [List.getElem?_append_left (List.getElem?_eq_some_iff.mp S.lf).1]; exact S.lf, by rw [List.getElem?_append_left (List.getElem?_eq_some_iff.mp S.found).1]; exact S.found, S.okk, S.rng, S.nd, S.dis⟩
theorem TkSt.put {many h : Int} {left : List Int} {tl : List Tk} {L : List O} {o : O} (S : TkSt many h left tl L o) (m : Nat) (hm : 3 ≤ m) (x : O) : TkSt many h left tl (L.set m x) o :=
  ⟨by rw [List.getElem?_set_ne (by omega)]; exact S.bag, by rw [List.getElem?_set_ne (by omega)]; exact S.lf, by rw [List.getElem?_set_ne (by omega)]; exact S.found, S.okk, S.rng, S.nd, S.dis⟩
theorem TkSt.draw {many h : Int} {left : List Int} {tl : List Tk} {L : List O} {o : O} (S : TkSt many h left tl L o) (o' : O) : TkSt many h left tl (L.set 0 o') o' :=
  ⟨List.getElem?_set_self (List.getElem?_eq_some_iff.mp S.bag).1, by rw [List.getElem?_set_ne (by decide)]; exact S.lf, by rw [List.getElem?_set_ne (by decide)]; exact S.found, S.okk, S.rng, S.nd, S.dis⟩
theorem TkSt.len {many h : Int} {left : List Int} {tl : List Tk} {L : List O} {o : O} (S : TkSt many h left tl L o) : 3 ≤ L.length := (List.getElem?_eq_some_iff.mp S.found).1
theorem points_spec {k most_ : Int} {o : O} (h : BagI (k + 11) o) (hk : 0 ≤ k) (m0 : 0 ≤ most_) (m4 : most_ ≤ 4) : ∃ (ps : List D) (o' : O) (X : List O), Fulaw_points [.ref 0, .int most_] [o] = .ok (.tup ps) (o' :: X) ∧ PlacesOk ps ∧ (ps.length : Int) ≤ most_ ∧ BagI k o' := by
  obtain ⟨r, o1, e1, r0, r1, b1⟩ := Gtake (L := [o, .lst []]) (n := 0) (m := most_ + 1) (k := k + 10) rfl (by rw [Int.add_assoc]; exact h) (by omega) (by omega) (by omega)
  have hr : -1000000 ≤ r ∧ r ≤ 1000000 := by omega
  have hrn : r.toNat ≤ 4 := by omega
  have lp := loop_all (src := ⟨rngD 0 r.toNat, none⟩) (t := gNm 3) (body := mDrop (mBmL oAppend (mVar 2) (mCons (mIfE (mTst (mOp2 oEq (mCall Gulaw_take (mCons (mVar 0) (mCons (mC (.int 2)) mNil))) (mC (.int 0)))) (mTup (mCons (mC (.str "parent")) mNil)) (mTup (mCons (mC (.str "child")) (mCons (mCall Gulaw_take (mCons (mVar 0) (mCons (mOp2 oAdd (mVar 3) (mC (.int 1))) mNil))) mNil)))) mNil)))
    (fun i ε L => ∃ (ps : List D) (o' : O) (x : Option D), ε = [some (.ref 0), some (.int most_), some (.ref 1), x] ∧ L = [o', .lst ps] ∧ ps.length = i ∧ (∀ (j : Nat) p, ps[j]? = some p → PlaceOk j p) ∧ BagI (k + 10 - 2 * i) o')
    (ds := rngD 0 r.toNat) (ε := [some (.ref 0), some (.int most_), some (.ref 1), none]) (L := [o1, .lst []]) (fun _ _ _ _ => rfl)
    ⟨[], o1, none, rfl, rfl, rfl, fun j p e => by simp at e, by simpa using b1⟩ (by
      rintro i d ε L hd ⟨ps, o', x, rfl, rfl, hl, hp, hb⟩
      obtain ⟨rfl, hi⟩ := rngD_get hd
      refine ⟨[some (.ref 0), some (.int most_), some (.ref 1), some (.int (0 + i))], ?_⟩
      have hi4 : i < 4 := by omega
      have most0 : ps.length < most := by unfold most; omega
      obtain ⟨a, o2, e2, a0, a1, b2⟩ := Gtake (L := [o', .lst ps]) (n := 0) (m := 2) (k := k + 10 - 2 * i - 1) rfl (by rw [Int.sub_add_cancel]; exact hb) (by omega) (by decide) (by decide)
      have e2' : Gulaw_take [.ref 0, .int 2] [o', .lst ps] = .ok (.int a) [o2, .lst ps] := e2
      by_cases ha : a = 0
      · subst ha
        refine ⟨[some (.ref 0), some (.int most_), some (.ref 1), some (.int (0 + i))], [o2, .lst (ps ++ [.tup [.str "parent"]])], rfl, .inl ?_, ps ++ [.tup [.str "parent"]], o2, _, rfl, rfl, by simp [hl], ?_, b2.mono (by omega) (by push_cast; omega)⟩
        · simp [mDrop, mBmL, Rs.bind, Rs.bindS, mVar, isLst, mCons, mNil, mIfE, mTst, mOp2, mCall, mC, e2', ofO, eqI_of, mTup, oAppend, most0, show (1 : Nat) ≤ most by decide]
        · intro j p e
          by_cases hj : j < ps.length
          · rw [List.getElem?_append_left hj] at e; exact hp j p e
          · rw [List.getElem?_append_right (by omega)] at e
            have : p = .tup [.str "parent"] := by
              obtain ⟨q, e⟩ := List.getElem?_eq_some_iff.mp e
              simpa using e.symm
            exact .inl this
      · have hb0 : (a == 0) = false := by simpa using ha
        obtain ⟨c, o3, e3, c0, c1, b3⟩ := Gtake (L := [o2, .lst ps]) (n := 0) (m := (i : Int) + 1) (k := k + 10 - 2 * i - 1 - 1) rfl (by rw [Int.sub_add_cancel]; exact b2) (by omega) (by omega) (by omega)
        have e3' : Gulaw_take [.ref 0, .int ((i : Int) + 1)] [o2, .lst ps] = .ok (.int c) [o3, .lst ps] := e3
        refine ⟨[some (.ref 0), some (.int most_), some (.ref 1), some (.int (0 + i))], [o3, .lst (ps ++ [.tup [.str "child", .int c]])], rfl, .inl ?_, ps ++ [.tup [.str "child", .int c]], o3, _, rfl, rfl, by simp [hl], ?_, b3.mono (by omega) (by push_cast; omega)⟩
        · simp [mDrop, mBmL, Rs.bind, Rs.bindS, mVar, isLst, mCons, mNil, mIfE, mTst, mOp2, mCall, mC, e2', e3', ofO, eqI_of, hb0, mTup, oAppend, oAdd, most0, show (2 : Nat) ≤ most by decide]
        · intro j p e
          by_cases hj : j < ps.length
          · rw [List.getElem?_append_left hj] at e; exact hp j p e
          · have hjj : j = ps.length := by
              obtain ⟨q, _⟩ := List.getElem?_eq_some_iff.mp e
              simp at q; omega
            rw [List.getElem?_append_right (by omega)] at e
            have : p = .tup [.str "child", .int c] := by
              obtain ⟨q, e⟩ := List.getElem?_eq_some_iff.mp e
              simpa using e.symm
            exact .inr ⟨c, c0, by omega, this⟩)
  obtain ⟨ε2, L2, hlp, ps, o', x, rfl, rfl, hl, hp, hb⟩ := lp
  rw [rngD_len] at hl hb
  refine ⟨ps, o', [.lst ps], ?_, ⟨by omega, hp⟩, by omega, hb.mono hk (by omega)⟩
  have e1' : Gulaw_take [.ref 0, .int (most_ + 1)] [o, .lst []] = .ok (.int r) [o1, .lst []] := e1
  simp [Fulaw_points, runF, m_law_points, mSeq, mSet, mLst, mNil, Rs.bindS, Rs.bind, mFor, mRng1, mCall, mCons, mVar, mOp2, mC, ofO, oAdd, e1', hr, hlp, mRet, mFn, cTuple, seqD]
def w1 : MS := (mSet 9 (mChain oLe oLe (mC (.int 1)) (mVar 8) (mVar 7)))
def w2 : MS := (mSet 10 (mLst (mCons (mC (.str "alone")) (mCons (mC (.str "alone")) (mCons (mC (.str "shared")) mNil)))))
def w3 : MS := (mIf (mAndB (mTst (mOp2 oGt (mVar 8) (mVar 7))) (mAndB (mTst (mOp2 oNe (mVar 5) (mLst mNil))) (mTst (mOp2 oNe (mOp2 oIdx (mOp2 oIdx (mVar 5) (mOp1 oNeg (mC (.int 1)))) (mC (.int 2))) (mC (.str "shared")))))) (mDrop (mBmL oAppend (mVar 10) (mCons (mC (.str "rising")) mNil))) mNext)
def w4 : MS := (mSet 11 (mC (.str "take")))
def w5 : MS := (mIf (mTst (mOp2 oEq (mCall Gulaw_take (mCons (mVar 0) (mCons (mVar 2) mNil))) (mC (.int 0)))) (mSet 11 (mIfE (mTru (mVar 9)) (mC (.str "leap")) (mC (.str "try")))) mNext)
def w6 : MS := (mDrop (mBmL oAppend (mVar 5) (mCons (mTup (mCons (mVar 11) (mCons (mBmL oPop (mVar 4) (mCons (mCall Gulaw_take (mCons (mVar 0) (mCons (mFn cLen (mCons (mVar 4) mNil)) mNil))) mNil)) (mCons (mOp2 oIdx (mVar 10) (mCall Gulaw_take (mCons (mVar 0) (mCons (mFn cLen (mCons (mVar 10) mNil)) mNil)))) mNil)))) mNil)))
def wBody : MS := mSeq w1 (mSeq w2 (mSeq w3 (mSeq w4 (mSeq w5 w6))))
abbrev eW (qt h : Int) (e1 e3 e6 : Option D) (i : Nat) (x9 x10 x11 : Option D) : En := [some (.ref 0), e1, some (.int qt), e3, some (.ref 1), some (.ref 2), e6, some (.int h), some (.int i), x9, x10, x11]
theorem wt1 {qt h : Int} {e1 e3 e6 x9 x10 x11 : Option D} {i : Nat} {L : List O} : w1 (eW qt h e1 e3 e6 i x9 x10 x11) L = .nx (eW qt h e1 e3 e6 i (some (.bl (hopAt h i))) x10 x11) L := by
  unfold hopAt
  by_cases q : (1 : Int) ≤ (i : Nat)
  · simp [w1, eW, mSet, mChain, Rs.bind, Rs.bindS, mVar, mC, ofO, oLe, oCmp, q]
  · simp [w1, eW, mSet, mChain, Rs.bind, Rs.bindS, mVar, mC, ofO, oLe, oCmp, q]
def modes2 (rise : Bool) : List D := [.str "alone", .str "alone", .str "shared"] ++ (if rise = true then [.str "rising"] else [])
theorem nice_tk {many h : Int} {tl : List Tk} {i : Nat} {t : Tk} (o : TkOk many h tl i t) : Nice 1 (tkD t) := nice_tup (k := 0) fun e he => by
  simp at he
  rcases he with rfl | rfl | rfl
  · exact nice_word o.word
  · exact ⟨_, nice_int _⟩
  · exact nice_mode o.mode
theorem ne_empty {L : List O} {n m : Nat} {ds : List D} (hn : L[n]? = some (.lst ds)) (hm : L[m]? = some (.lst [])) (h : ∀ d ∈ ds, Nice 1 d) : oNe (.ref n) (.ref m) L = some (.bl (!ds.isEmpty), L) := by
  obtain ⟨ps, h1, h2, h3⟩ := nice_all h
  have hl : ps.length = ds.length := (optAll_len (h1 L 15 (by decide))).symm
  have t1 : toPy L pyDeep (.ref n) = some (.list ps) := by
    show (match L[n]? with | some (.lst ds) => (optAll (toPy L 15) ds).map PyData.list | _ => none) = _
    rw [hn]
    simp [h1 L 15 (by decide)]
  have t2 : toPy L pyDeep (.ref m) = some (.list []) := by
    show (match L[m]? with | some (.lst ds) => (optAll (toPy L 15) ds).map PyData.list | _ => none) = _
    rw [hm]
    rfl
  have s1 : SeqAt.shaped (.list ps) = true := by
    have hd : (PyData.list ps).depth ≤ 64 := by simp only [PyData.depth]; omega
    have hc : (PyData.list ps).canLay0 = true := by simpa [PyData.canLay0] using h2
    unfold SeqAt.shaped
    rw [hc, decide_eq_true hd]
    rfl
  have s2 : SeqAt.shaped (.list []) = true := by decide +kernel
  unfold oNe eqData
  simp only [t1, t2, s1, s2, and_self, if_true]
  cases ds with
  | nil =>
    have : ps = [] := List.eq_nil_of_length_eq_zero hl
    subst this
    rfl
  | cons d ds =>
    cases ps with
    | nil => cases hl
    | cons p ps => simp [PyData.eqv, PyData.eqvAll]
theorem wt23 {many qt h : Int} {left : List Int} {tl : List Tk} {L : List O} {o : O} {e1 e3 e6 x9 x10 x11 : Option D} (S : TkSt many h left tl L o) (h0 : 0 ≤ h) :
    ∃ (rise : Bool) (L' : List O), mSeq w2 w3 (eW qt h e1 e3 e6 tl.length x9 x10 x11) L = .nx (eW qt h e1 e3 e6 tl.length x9 (some (.ref L.length)) x11) L' ∧ TkSt many h left tl L' o ∧ L'[L.length]? = some (.lst (modes2 rise)) ∧
      (rise = true → hopAt h tl.length = false ∧ ∃ u, 0 < tl.length ∧ tl[tl.length - 1]? = some u ∧ u.2.2 ≠ "shared") := by
  have S2 := S.push (.lst (modes2 false))
  have hlen := S.len
  have get : (L ++ [O.lst (modes2 false)])[L.length]? = some (.lst (modes2 false)) := by simp
  have q2 : w2 (eW qt h e1 e3 e6 tl.length x9 x10 x11) L = .nx (eW qt h e1 e3 e6 tl.length x9 (some (.ref L.length)) x11) (L ++ [O.lst (modes2 false)]) := by
    simp [w2, eW, mSet, mLst, mCons, mNil, mC, Rs.bind, Rs.bindS, most, modes2]
  rw [seq_nx q2]
  have l2 : (L ++ [O.lst (modes2 false)]).length = L.length + 1 := by simp
  generalize (L ++ [O.lst (modes2 false)]) = M at S2 get l2 ⊢
  by_cases hi : h < (tl.length : Int)
  · have S3 := S2.push (.lst [])
    have g3 : (M ++ [O.lst []])[L.length]? = some (.lst (modes2 false)) := by
      rw [List.getElem?_append_left (List.getElem?_eq_some_iff.mp get).1]; exact get
    have gm : (M ++ [O.lst []])[M.length]? = some (.lst []) := by simp
    have hop : hopAt h tl.length = false := by
      unfold hopAt
      rw [decide_eq_false (p := ((tl.length : Nat) : Int) ≤ h) (by omega), Bool.and_false]
    have ne := ne_empty S3.found gm (fun d hd => by
      obtain ⟨t, ht, rfl⟩ := List.mem_map.mp hd
      obtain ⟨j, hj⟩ := List.getElem?_of_mem ht
      exact nice_tk (S.okk j t hj))
    generalize hM2 : M ++ [O.lst []] = M2 at S3 g3 gm ne
    by_cases h0l : 0 < tl.length
    · obtain ⟨tl', u, rfl⟩ : ∃ tl' u, tl = tl' ++ [u] := ⟨tl.dropLast, tl.getLast (by intro z; rw [z] at h0l; simp at h0l), (List.dropLast_concat_getLast _).symm⟩
      have hu : (tl' ++ [u])[(tl' ++ [u]).length - 1]? = some u := by simp
      have fnd : M2[2]? = some (.lst (tl'.map tkD ++ [tkD u])) := by rw [S3.found]; simp
      have ne' : oNe (.ref 2) (.ref M.length) M2 = some (.bl true, M2) := by rw [ne]; simp
      have hat3 : oIdx (.ref 2) (.int (-1)) M2 = some (tkD u, M2) := by
        have hat : atI (tl'.map tkD ++ [tkD u]) (-1) = some (tkD u) := atI_last
        simp only [oIdx, fnd, hat, Option.map_some]
      have hat4 : oIdx (tkD u) (.int 2) M2 = some (.str u.2.2, M2) := rfl
      have hne := ne_mode (S.okk _ u hu).mode (c := "shared") (.inl rfl) M2
      by_cases hs : u.2.2 = "shared"
      · rw [show decide (u.2.2 ≠ "shared") = false from by rw [hs]; rfl] at hne
        refine ⟨false, M2, ?_, S3, g3, fun z => by cases z⟩
        have hi' : h < ((tl'.length : Int) + 1) := by simpa using hi
        simp [w3, eW, mIf, mAndB, mTst, mOp1, oNeg, mOp2, mVar, mC, mLst, mNil, most, Rs.bind, Rs.bindS, ofO, oGt, oCmp, hi', hM2, ne', hat3, hat4, hne, mNext]
      · rw [decide_eq_true hs] at hne
        refine ⟨true, M2.set L.length (.lst (modes2 true)), ?_, S3.put L.length hlen _, List.getElem?_set_self (List.getElem?_eq_some_iff.mp g3).1, fun _ => ⟨hop, u, h0l, hu, hs⟩⟩
        have hi' : h < ((tl'.length : Int) + 1) := by simpa using hi
        have md : isLst M2 (.ref L.length) = true := by simp [isLst, g3]
        simp [w3, eW, mIf, mAndB, mTst, mOp1, oNeg, mOp2, mVar, mC, mLst, mNil, most, Rs.bind, Rs.bindS, ofO, oGt, oCmp, hi', hM2, ne', hat3, hat4, hne, mNext, mDrop, mBmL, md, mCons, oAppend, g3, modes2]
    · have : tl = [] := List.eq_nil_of_length_eq_zero (by omega)
      subst this
      have ne' : oNe (.ref 2) (.ref M.length) M2 = some (.bl false, M2) := by rw [ne]; rfl
      refine ⟨false, M2, ?_, S3, g3, fun z => by cases z⟩
      have hi' : h < 0 := by simpa using hi
      omega
  · refine ⟨false, M, ?_, S2, get, fun z => by cases z⟩
    simp [w3, eW, mIf, mAndB, mTst, mOp2, mVar, Rs.bind, Rs.bindS, ofO, oGt, oCmp, hi, mNext]
theorem wt45 {k many qt h : Int} {left : List Int} {tl : List Tk} {L : List O} {o : O} {e1 e3 e6 x10 x11 : Option D} {i : Nat} {hop : Bool} (hk : 0 ≤ k) (q0 : 0 < qt) (q1 : qt < 1000000) (S : TkSt many h left tl L o) (hb : BagI (k + 1) o) :
    ∃ (w : Str) (L' : List O) (o' : O), mSeq w4 w5 (eW qt h e1 e3 e6 i (some (.bl hop)) x10 x11) L = .nx (eW qt h e1 e3 e6 i (some (.bl hop)) x10 (some (.str w))) L' ∧ TkSt many h left tl L' o' ∧ L' = L.set 0 o' ∧ BagI k o' ∧ (w = "take" ∨ w = (if hop = true then ("leap" : Str) else ("try" : Str))) := by
  have q4 : w4 (eW qt h e1 e3 e6 i (some (.bl hop)) x10 x11) L = .nx (eW qt h e1 e3 e6 i (some (.bl hop)) x10 (some (.str "take"))) L := by
    simp [w4, eW, mSet, mC, Rs.bindS]
  rw [seq_nx q4]
  obtain ⟨r, o', e, r0, r1, B⟩ := Gtake (L := L) (m := qt) (k := k) S.bag hb hk q0 q1
  by_cases hr : r = 0
  · subst hr
    refine ⟨if hop = true then "leap" else "try", L.set 0 o', o', ?_, S.draw o', rfl, B, .inr rfl⟩
    cases hop <;> simp [w5, eW, mIf, mTst, mOp2, mCall, mCons, mNil, mVar, mC, Rs.bind, Rs.bindS, ofO, e, eqI_of, mSet, mIfE, mTru, truth]
  · have hb0 : (r == 0) = false := by simpa using hr
    refine ⟨"take", L.set 0 o', o', ?_, S.draw o', rfl, B, .inl rfl⟩
    simp [w5, eW, mIf, mTst, mOp2, mCall, mCons, mNil, mVar, mC, Rs.bind, Rs.bindS, ofO, e, eqI_of, hb0, mNext]
theorem wt6 {k many qt h : Int} {left : List Int} {tl : List Tk} {L : List O} {o : O} {e1 e3 e6 x9 : Option D} {w : Str} {n10 : Nat} {rise : Bool} (hk : 0 ≤ k) (S : TkSt many h left tl L o) (hb : BagI (k + 2) o) (hl : 0 < left.length) (hl2 : left.length ≤ 5) (ht : tl.length < 100) (hm : L[n10]? = some (.lst (modes2 rise))) (h10 : 3 ≤ n10)
    (hw : w = "take" ∨ w = (if hopAt h tl.length = true then ("leap" : Str) else ("try" : Str))) (hr : rise = true → hopAt h tl.length = false ∧ ∃ u, 0 < tl.length ∧ tl[tl.length - 1]? = some u ∧ u.2.2 ≠ "shared") :
    ∃ (left' : List Int) (t : Tk) (L' : List O) (o' : O), w6 (eW qt h e1 e3 e6 tl.length x9 (some (.ref n10)) (some (.str w))) L = .nx (eW qt h e1 e3 e6 tl.length x9 (some (.ref n10)) (some (.str w))) L' ∧ TkSt many h left' (tl ++ [t]) L' o' ∧ BagI k o' ∧ left'.length + 1 = left.length := by
  obtain ⟨r, b1, e1', r0, r1, B1⟩ := Gtake (L := L) (n := 0) (m := (left.length : Int)) (k := k + 1) S.bag (by rw [Int.add_assoc]; exact hb) (by omega) (by omega) (by omega)
  have hrl : r.toNat < left.length := by omega
  have h11 : (L.set 0 b1)[1]? = some (.lst (left.map D.int)) := by rw [List.getElem?_set_ne (by decide)]; exact S.lf
  have len1 : 1 < L.length := (List.getElem?_eq_some_iff.mp S.lf).1
  have len2 : 2 < L.length := (List.getElem?_eq_some_iff.mp S.found).1
  have hz : -1000000 ≤ r ∧ r ≤ 1000000 := by omega
  have hsx : seqIndex? r left.length = some r.toNat := seqIx r0 r1
  have hget : left[r.toNat]? = some left[r.toNat] := by simp [hrl]
  have hmem : left[r.toNat] ∈ left := List.getElem_mem hrl
  generalize hp : left[r.toNat] = p at hget hmem
  -- the heap behind the point
  have hmap : (left.map D.int).eraseIdx r.toNat = (left.eraseIdx r.toNat).map D.int := erase_map D.int left r.toNat
  have epop : oPop (.ref 1) [.int r] (L.set 0 b1) = some (.int p, (L.set 0 b1).set 1 (.lst ((left.eraseIdx r.toNat).map D.int))) := by
    simp [oPop, h11, hz, hsx, hget, erase_map]
  generalize hL1 : (L.set 0 b1).set 1 (.lst ((left.eraseIdx r.toNat).map D.int)) = L1 at epop
  have g0 : L1[0]? = some b1 := by rw [← hL1, List.getElem?_set_ne (by decide), List.getElem?_set_self (by omega)]
  have g1 : L1[1]? = some (.lst ((left.eraseIdx r.toNat).map D.int)) := by rw [← hL1, List.getElem?_set_self (by simpa using len1)]
  have g2 : L1[2]? = some (.lst (tl.map tkD)) := by rw [← hL1, List.getElem?_set_ne (by decide), List.getElem?_set_ne (by decide)]; exact S.found
  have gm : L1[n10]? = some (.lst (modes2 rise)) := by rw [← hL1, List.getElem?_set_ne (by omega), List.getElem?_set_ne (by omega)]; exact hm
  obtain ⟨q, b2, e2', q0, q1, B2⟩ := Gtake (L := L1) (n := 0) (m := ((modes2 rise).length : Int)) (k := k) g0 B1 hk (by cases rise <;> decide) (by cases rise <;> decide)
  have gm2 : (L1.set 0 b2)[n10]? = some (.lst (modes2 rise)) := by rw [List.getElem?_set_ne (by omega)]; exact gm
  have g22 : (L1.set 0 b2)[2]? = some (.lst (tl.map tkD)) := by rw [List.getElem?_set_ne (by decide)]; exact g2
  have g20 : (L1.set 0 b2)[0]? = some b2 := by rw [List.getElem?_set_self (lt_of g0)]
  have g21 : (L1.set 0 b2)[1]? = some (.lst ((left.eraseIdx r.toNat).map D.int)) := by rw [List.getElem?_set_ne (by decide)]; exact g1
  have hmd : ∃ m : Str, atI (modes2 rise) q = some (.str m) ∧ (m = "shared" ∨ m = "alone" ∨ (m = "rising" ∧ rise = true)) := by
    have hq : q = 0 ∨ q = 1 ∨ q = 2 ∨ q = 3 := by
      cases rise <;> simp [modes2] at q1 <;> omega
    cases rise with
    | false =>
      simp [modes2] at q1
      rcases hq with rfl | rfl | rfl | rfl
      · exact ⟨"alone", rfl, .inr (.inl rfl)⟩
      · exact ⟨"alone", rfl, .inr (.inl rfl)⟩
      · exact ⟨"shared", rfl, .inl rfl⟩
      · omega
    | true =>
      rcases hq with rfl | rfl | rfl | rfl
      · exact ⟨"alone", rfl, .inr (.inl rfl)⟩
      · exact ⟨"alone", rfl, .inr (.inl rfl)⟩
      · exact ⟨"shared", rfl, .inl rfl⟩
      · exact ⟨"rising", rfl, .inr (.inr ⟨rfl, rfl⟩)⟩
  obtain ⟨m, hat, hmd⟩ := hmd
  have eix : oIdx (.ref n10) (.int q) (L1.set 0 b2) = some (.str m, L1.set 0 b2) := by simp only [oIdx, gm2, hat, Option.map_some]
  have lmd : cLen [.ref n10] L1 = some (.int (modes2 rise).length, L1) := by simp [cLen, gm]
  have llf : cLen [.ref 1] L = some (.int left.length, L) := by simp [cLen, S.lf]
  have i1 : isLst L (.ref 1) = true := by simp [isLst, S.lf]
  have i2 : isLst L (.ref 2) = true := by simp [isLst, S.found]
  have hz2 : tl.length < most := by unfold most; omega
  refine ⟨left.eraseIdx r.toNat, (w, p, m), (L1.set 0 b2).set 2 (.lst ((tl ++ [(w, p, m)]).map tkD)), b2, ?_, ⟨?_, ?_, ?_, ?_, ?_, ?_, ?_⟩, B2, by rw [List.length_eraseIdx_of_lt hrl]; omega⟩
  · generalize hM2 : L1.set 0 b2 = M2 at e2' g22 eix
    simp [w6, eW, mDrop, mBmL, Rs.bind, Rs.bindS, mVar, i2, i1, mCons, mNil, mTup, mCall, mFn, llf, ofO, e1', epop, mOp2, lmd, e2', eix, oAppend, g22, hz2, show (3 : Nat) ≤ most by decide, tkD]
  · rw [List.getElem?_set_ne (by decide)]; exact g20
  · rw [List.getElem?_set_ne (by decide)]; exact g21
  · rw [List.getElem?_set_self (lt_of g22)]
  · intro i t hi
    by_cases hit : i < tl.length
    · rw [List.getElem?_append_left hit] at hi
      obtain ⟨a1, a2, a3, a4, a5⟩ := S.okk i t hi
      refine ⟨a1, a2, a3, ?_, ?_⟩
      · rcases a4 with a4 | a4 | ⟨a4, b4, u, c4, d4, f4⟩
        · exact .inl a4
        · exact .inr (.inl a4)
        · exact .inr (.inr ⟨a4, b4, u, c4, by rw [List.getElem?_append_left (by omega)]; exact d4, f4⟩)
      · rw [List.take_append_of_le_length (by omega)]; exact a5
    · have hie : i = tl.length := by
        obtain ⟨q, _⟩ := List.getElem?_eq_some_iff.mp hi
        simp at q; omega
      subst hie
      have : t = (w, p, m) := by
        rw [List.getElem?_append_right (Nat.le_refl _)] at hi
        simpa using hi.symm
      subst this
      refine ⟨hw, (S.rng p hmem).1, (S.rng p hmem).2, ?_, ?_⟩
      · rcases hmd with hmd | hmd | ⟨hmd, hrr⟩
        · exact .inl hmd
        · exact .inr (.inl hmd)
        · obtain ⟨g1, u, g2, g3, g4⟩ := hr hrr
          exact .inr (.inr ⟨hmd, g1, u, g2, by rw [List.getElem?_append_left (by omega)]; exact g3, g4⟩)
      · rw [List.take_append_of_le_length (Nat.le_refl _), List.take_length]; exact S.dis p hmem
  · intro x hx; exact S.rng x (List.mem_of_mem_eraseIdx hx)
  · exact S.nd.sublist (List.eraseIdx_sublist ..)
  · intro x hx z
    rw [List.map_append, List.mem_append] at z
    rcases z with z | z
    · exact S.dis x (List.mem_of_mem_eraseIdx hx) z
    · simp at z
      subst z
      have nd := S.nd
      obtain ⟨j, hj⟩ := List.getElem?_of_mem hx
      rw [List.getElem?_eraseIdx] at hj
      split at hj
      · have := nodup_get nd hj hget; omega
      · have := nodup_get nd hj hget; omega
theorem turn_way {k many qt h : Int} {left : List Int} {tl : List Tk} {L : List O} {o : O} {e1 e3 e6 x9 x10 x11 : Option D} (hk : 0 ≤ k) (q0 : 0 < qt) (q1 : qt < 1000000) (h0 : 0 ≤ h) (S : TkSt many h left tl L o) (hb : BagI (k + 3) o) (hl : 0 < left.length) (hl2 : left.length ≤ 5) (ht : tl.length < 100) :
    ∃ (left' : List Int) (t : Tk) (L' : List O) (o' : O) (y9 y10 y11 : Option D), wBody (eW qt h e1 e3 e6 tl.length x9 x10 x11) L = .nx (eW qt h e1 e3 e6 tl.length y9 y10 y11) L' ∧ TkSt many h left' (tl ++ [t]) L' o' ∧ BagI k o' ∧ left'.length + 1 = left.length := by
  obtain ⟨rise, L3, s3, S3, g3, hr⟩ := wt23 (qt := qt) (e1 := e1) (e3 := e3) (e6 := e6) (x9 := some (.bl (hopAt h tl.length))) (x10 := x10) (x11 := x11) S h0
  obtain ⟨w, L5, o5, s5, S5, e5, B5, hw⟩ := wt45 (k := k + 2) (e1 := e1) (e3 := e3) (e6 := e6) (x10 := some (.ref L.length)) (x11 := x11) (i := tl.length) (hop := hopAt h tl.length) (by omega) q0 q1 S3 (by rw [Int.add_assoc]; exact hb)
  have g5 : L5[L.length]? = some (.lst (modes2 rise)) := by
    rw [e5, List.getElem?_set_ne (by have := S.len; omega)]; exact g3
  obtain ⟨left', t, L6, o6, s6, S6, B6, hl'⟩ := wt6 (qt := qt) (e1 := e1) (e3 := e3) (e6 := e6) (x9 := some (.bl (hopAt h tl.length))) hk S5 B5 hl hl2 ht g5 S.len hw hr
  refine ⟨left', t, L6, o6, some (.bl (hopAt h tl.length)), some (.ref L.length), some (.str w), ?_, S6, B6, hl'⟩
  have sq : ∀ (a b c : MS) ε L ε' L', mSeq a b ε L = .nx ε' L' → mSeq a (mSeq b c) ε L = c ε' L' := by
    intro a b c ε L ε' L' e
    unfold mSeq at e ⊢
    cases h4 : a ε L with
    | nx ε1 L1 =>
      rw [h4] at e
      simp only at e ⊢
      rw [e]
    | rt d L1 => rw [h4] at e; cases e
    | bk ε1 L1 => rw [h4] at e; cases e
    | ct ε1 L1 => rw [h4] at e; cases e
    | ex c fs ε1 L1 => rw [h4] at e; cases e
    | bad => rw [h4] at e; cases e
  unfold wBody
  rw [seq_nx wt1, sq _ _ _ _ _ _ _ s3, sq _ _ _ _ _ _ _ s5]
  exact s6
theorem mcons_ok {a : ME} {r : MA} {ε : En} {L L1 L2 : List O} {x : D} {xs : List D} (h : a ε L = .ok x L1) (h2 : r ε L1 = .ok xs L2) : mCons a r ε L = .ok (x :: xs) L2 := by
  unfold mCons; rw [h]; simp only [Rs.bind]; rw [h2]
theorem mnil_ok {ε : En} {L : List O} : mNil ε L = .ok [] L := rfl
theorem mone_ok {a : ME} {ε : En} {L L1 : List O} {x : D} (h : a ε L = .ok x L1) : mCons a mNil ε L = .ok [x] L1 := mcons_ok h rfl
theorem mset_ok {i : Nat} {a : ME} {ε : En} {L L1 : List O} {x : D} (h : a ε L = .ok x L1) : mSet i a ε L = .nx (ε.set i (some x)) L1 := by
  unfold mSet; rw [h]; rfl
theorem mfn_ok {oc : OC} {args : MA} {ε : En} {L L1 L2 : List O} {ds : List D} {d : D} (h : args ε L = .ok ds L1) (h2 : oc ds L1 = some (d, L2)) : mFn oc args ε L = .ok d L2 := by
  unfold mFn; rw [h]; simp only [Rs.bind]; rw [h2]; rfl
theorem mop2_ok {o : O2} {a b : ME} {ε : En} {L L1 L2 L3 : List O} {x y z : D} (h : a ε L = .ok x L1) (h2 : b ε L1 = .ok y L2) (h3 : o x y L2 = some (z, L3)) : mOp2 o a b ε L = .ok z L3 := by
  unfold mOp2; rw [h]; simp only [Rs.bind]; rw [h2]; simp only; rw [h3]; rfl
theorem mret_ok {a : ME} {ε : En} {L L1 : List O} {x : D} (h : a ε L = .ok x L1) : mRet a ε L = .rt x L1 := by
  unfold mRet; rw [h]; rfl
theorem mlst_ok {r : MA} {ε : En} {L L1 : List O} {xs : List D} (h : r ε L = .ok xs L1) (h2 : xs.length ≤ most) : mLst r ε L = .ok (.ref L1.length) (L1 ++ [.lst xs]) := by
  unfold mLst; rw [h]; simp only [Rs.bind]; rw [if_pos h2]
theorem mpar_ok {i j : Nat} {r : MA} {ε : En} {L L1 : List O} {x y : D} (h : r ε L = .ok [x, y] L1) : mPar i j r ε L = .nx ((ε.set i (some x)).set j (some y)) L1 := by
  unfold mPar; rw [h]; rfl
theorem runF_rt {n N : Nat} {m : MS} {ds : List D} {L L1 : List O} {d : D} (hl : ds.length = n) (h : m (ds.map some ++ List.replicate (N - n) none) L = .rt d L1) : runF n N m ds L = .ok d L1 := by
  unfold runF; rw [if_pos hl, h]
theorem mlistrg1_ok {a : ME} {ε : En} {L L1 : List O} {n : Int} (h : a ε L = .ok (.int n) L1) (h1 : -1000000 ≤ n) (h2 : n ≤ 1000000) : mListRg1 a ε L = .ok (.ref L1.length) (L1 ++ [.lst (rngD 0 n.toNat)]) := by
  unfold mListRg1; rw [h]; simp only [Rs.bind]; rw [if_pos ⟨h1, h2⟩]
theorem way_spec {k mst qt : Int} {o : O} (h : BagI (k + 40) o) (hk : 0 ≤ k) (m0 : 0 ≤ mst) (m4 : mst ≤ 4) (q0 : 0 < qt) (q1 : qt < 1000000) : ∃ (P : Pt) (o' : O) (X : List O), Fulaw_way [.ref 0, .int mst, .int qt] [o] = .ok P.d (o' :: X) ∧ P.Ok ∧ (P.ps.length : Int) ≤ mst ∧ BagI k o' := by
  obtain ⟨ps, o1, X1, e1, hps, hpl, B1⟩ := points_spec (k := k + 29) (o := o) (by rw [Int.add_assoc]; exact h) (by omega) m0 m4
  have g1 : Gulaw_points [.ref 0, .int mst] [o] = .ok (.tup ps) [o1] := lrun_bag (L := [o]) rfl rfl h.pure e1 B1.pure hps.pure
  have p4 := hps.1
  have hrg : rngD 0 (ps.length + 1) = (((List.range (ps.length + 1)).map fun (k : Nat) => (0 : Int) + (k : Int)).map D.int) := by simp [rngD]
  have ndl : ((List.range (ps.length + 1)).map fun (k : Nat) => (0 : Int) + (k : Int)).Nodup := nodup_map_on List.nodup_range fun a _ b _ e => by
    have e' : (0 : Int) + (a : Int) = 0 + (b : Int) := e
    omega
  have rgl : ∀ p ∈ ((List.range (ps.length + 1)).map fun (k : Nat) => (0 : Int) + (k : Int)), 0 ≤ p ∧ p < (ps.length : Int) + 1 := fun p hp => by
    obtain ⟨a, ha, rfl⟩ := List.mem_map.mp hp
    have := List.mem_range.mp ha
    constructor <;> omega
  have lenl : ((List.range (ps.length + 1)).map fun (k : Nat) => (0 : Int) + (k : Int)).length = ps.length + 1 := by simp
  generalize hleft : ((List.range (ps.length + 1)).map fun (k : Nat) => (0 : Int) + (k : Int)) = left at hrg ndl rgl lenl
  obtain ⟨r, o2, e2, r0, r1, B2⟩ := Gtake (L := [o1, .lst (left.map D.int), .lst []]) (n := 0) (m := (left.length : Int)) (k := k + 28) rfl (by rw [Int.add_assoc]; exact B1) (by omega) (by omega) (by omega)
  have e2' : Gulaw_take [.ref 0, .int (left.length : Int)] [o1, .lst (left.map D.int), .lst []] = .ok (.int r) [o2, .lst (left.map D.int), .lst []] := e2
  obtain ⟨q, o3, e3, q0', q1', B3⟩ := Gtake (L := [o2, .lst (left.map D.int), .lst [], .lst [.int 0, .int 0, .int 0, .int 1, .int 2, .int 4]]) (n := 0) (m := 6) (k := k + 27) rfl (by rw [Int.add_assoc]; exact B2) (by omega) (by omega) (by omega)
  have e3' : Gulaw_take [.ref 0, .int 6] [o2, .lst (left.map D.int), .lst [], .lst [.int 0, .int 0, .int 0, .int 1, .int 2, .int 4]] = .ok (.int q) [o3, .lst (left.map D.int), .lst [], .lst [.int 0, .int 0, .int 0, .int 1, .int 2, .int 4]] := e3
  have hat : ∃ x : Int, atI [D.int 0, D.int 0, D.int 0, D.int 1, D.int 2, D.int 4] q = some (.int x) ∧ 0 ≤ x := by
    have : q = 0 ∨ q = 1 ∨ q = 2 ∨ q = 3 ∨ q = 4 ∨ q = 5 := by omega
    rcases this with rfl | rfl | rfl | rfl | rfl | rfl
    · exact ⟨0, rfl, by decide⟩
    · exact ⟨0, rfl, by decide⟩
    · exact ⟨0, rfl, by decide⟩
    · exact ⟨1, rfl, by decide⟩
    · exact ⟨2, rfl, by decide⟩
    · exact ⟨4, rfl, by decide⟩
  obtain ⟨x, hat, hx0⟩ := hat
  have hh : ∃ hp : Int, hp = (if 1 + r - 1 < x then 1 + r - 1 else x) ∧ 0 ≤ hp ∧ hp < 1 + r := ⟨_, rfl, by split <;> omega, by split <;> omega⟩
  obtain ⟨hp, hhp, hp0, hp1⟩ := hh
  have S0 : TkSt (ps.length + 1) hp left [] [o3, .lst (left.map D.int), .lst [], .lst [.int 0, .int 0, .int 0, .int 1, .int 2, .int 4]] o3 := ⟨rfl, rfl, rfl, fun i t e => by simp at e, rgl, ndl, fun p _ z => by cases z⟩
  have hsz : -1000000 ≤ 1 + r ∧ 1 + r ≤ 1000000 := by omega
  have hsn : (1 + r).toNat ≤ left.length := by omega
  have lp := loop_all (src := ⟨rngD 0 (1 + r).toNat, none⟩) (t := gNm 8) (body := wBody)
    (fun i ε L => ∃ (left' : List Int) (tl : List Tk) (o' : O) (x8 x9 x10 x11 : Option D), ε = [some (.ref 0), some (.int mst), some (.int qt), some (.tup ps), some (.ref 1), some (.ref 2), some (.int (1 + r)), some (.int hp), x8, x9, x10, x11] ∧ TkSt (ps.length + 1) hp left' tl L o' ∧ tl.length = i ∧ left'.length + i = left.length ∧ BagI (k + 27 - 3 * i) o')
    (ds := rngD 0 (1 + r).toNat) (ε := [some (.ref 0), some (.int mst), some (.int qt), some (.tup ps), some (.ref 1), some (.ref 2), some (.int (1 + r)), some (.int hp), none, none, none, none]) (L := [o3, .lst (left.map D.int), .lst [], .lst [.int 0, .int 0, .int 0, .int 1, .int 2, .int 4]]) (fun _ _ _ _ => rfl)
    ⟨left, [], o3, none, none, none, none, rfl, S0, rfl, by omega, by simpa using B3⟩ (by
      rintro i d ε L hd ⟨left', tl, o', x8, x9, x10, x11, rfl, S, hl, hll, hb⟩
      obtain ⟨rfl, hi⟩ := rngD_get hd
      obtain ⟨left2, t, L', o4, y9, y10, y11, s, S', B', hl'⟩ := turn_way (k := k + 27 - 3 * i - 3) (qt := qt) (x9 := x9) (x10 := x10) (x11 := x11) (e1 := some (.int mst)) (e3 := some (.tup ps)) (e6 := some (.int (1 + r))) (by omega) q0 q1 hp0 S (by rw [Int.sub_add_cancel]; exact hb) (by omega) (by omega) (by omega)
      refine ⟨eW qt hp (some (.int mst)) (some (.tup ps)) (some (.int (1 + r))) tl.length x9 x10 x11, eW qt hp (some (.int mst)) (some (.tup ps)) (some (.int (1 + r))) tl.length y9 y10 y11, L', ?_, .inl s, left2, tl ++ [t], o4, _, y9, y10, y11, rfl, S', by simp [hl], by omega, B'.mono (by omega) (by omega)⟩
      show some _ = some _
      rw [hl, Int.zero_add]
      rfl)
  obtain ⟨ε2, L2, hlp, left', tl, o', x8, x9, x10, x11, rfl, S, hl, hll, hb⟩ := lp
  rw [rngD_len] at hl hb
  have len2 : 2 < L2.length := (List.getElem?_eq_some_iff.mp S.found).1
  have hL2 : ∃ X, L2 = o' :: X := by
    cases L2 with
    | nil => simp at len2
    | cons a X =>
      have := S.bag
      simp at this
      exact ⟨X, by rw [this]⟩
  obtain ⟨X, hX⟩ := hL2
  refine ⟨⟨ps, tl, hp⟩, o', X, ?_, ⟨hps, TakesOk.v (show TakesOk (ps.length + 1) hp tl from ⟨by omega, by omega, hp0, by omega, S.okk⟩)⟩, hpl, hb.mono hk (by omega)⟩
  have hf := S.found
  have hln : (left.map D.int).length = left.length := by simp
  have hz3 : (((ps.length : Nat) : Int) + 1).toNat = ps.length + 1 := by omega
  have hf' := hf
  rw [hX] at hlp hf
  have hln2 : ((left.length : Nat) : Int) = (ps.length : Int) + 1 := by omega
  have z3 : mSet 3 (mCall Gulaw_points (mCons (mVar 0) (mCons (mVar 1) mNil))) [some (.ref 0), some (.int mst), some (.int qt), none, none, none, none, none, none, none, none, none] [o] = .nx [some (.ref 0), some (.int mst), some (.int qt), some (.tup ps), none, none, none, none, none, none, none, none] [o1] := by
    simp [mSet, mCall, mCons, mNil, mVar, Rs.bind, Rs.bindS, g1]
  have z4 : mPar 4 5 (mCons (mListRg1 (mOp2 oAdd (mFn cLen (mCons (mVar 3) mNil)) (mC (.int 1)))) (mCons (mLst mNil) mNil)) [some (.ref 0), some (.int mst), some (.int qt), some (.tup ps), none, none, none, none, none, none, none, none] [o1] = .nx [some (.ref 0), some (.int mst), some (.int qt), some (.tup ps), some (.ref 1), some (.ref 2), none, none, none, none, none, none] [o1, .lst (left.map D.int), .lst []] := by
    have c : mOp2 oAdd (mFn cLen (mCons (mVar 3) mNil)) (mC (.int 1)) [some (.ref 0), some (.int mst), some (.int qt), some (.tup ps), none, none, none, none, none, none, none, none] [o1] = .ok (.int ((ps.length : Int) + 1)) [o1] := by
      simp [mOp2, mFn, cLen, mCons, mNil, mVar, mC, Rs.bind, ofO, oAdd]
    have c2 : mListRg1 (mOp2 oAdd (mFn cLen (mCons (mVar 3) mNil)) (mC (.int 1))) [some (.ref 0), some (.int mst), some (.int qt), some (.tup ps), none, none, none, none, none, none, none, none] [o1] = .ok (.ref 1) [o1, .lst (left.map D.int)] := by
      rw [← hrg, ← hz3]
      exact mlistrg1_ok c (by omega) (by omega)
    exact mpar_ok (mcons_ok c2 (mone_ok (mlst_ok mnil_ok (Nat.zero_le _))))
  have z6 : mSet 6 (mOp2 oAdd (mC (.int 1)) (mCall Gulaw_take (mCons (mVar 0) (mCons (mFn cLen (mCons (mVar 4) mNil)) mNil)))) [some (.ref 0), some (.int mst), some (.int qt), some (.tup ps), some (.ref 1), some (.ref 2), none, none, none, none, none, none] [o1, .lst (left.map D.int), .lst []] = .nx [some (.ref 0), some (.int mst), some (.int qt), some (.tup ps), some (.ref 1), some (.ref 2), some (.int (1 + r)), none, none, none, none, none] [o2, .lst (left.map D.int), .lst []] := by
    generalize left.map D.int = T at *
    simp [mSet, mOp2, mCall, mCons, mNil, mVar, mC, mFn, cLen, Rs.bind, Rs.bindS, ofO, hln, e2', oAdd]
  have z7 : mSet 7 (mFn cMin (mCons (mOp2 oIdx (mLst (mCons (mC (.int 0)) (mCons (mC (.int 0)) (mCons (mC (.int 0)) (mCons (mC (.int 1)) (mCons (mC (.int 2)) (mCons (mC (.int 4)) mNil))))))) (mCall Gulaw_take (mCons (mVar 0) (mCons (mC (.int 6)) mNil)))) (mCons (mOp2 oSub (mVar 6) (mC (.int 1))) mNil))) [some (.ref 0), some (.int mst), some (.int qt), some (.tup ps), some (.ref 1), some (.ref 2), some (.int (1 + r)), none, none, none, none, none] [o2, .lst (left.map D.int), .lst []] = .nx [some (.ref 0), some (.int mst), some (.int qt), some (.tup ps), some (.ref 1), some (.ref 2), some (.int (1 + r)), some (.int hp), none, none, none, none] [o3, .lst (left.map D.int), .lst [], .lst [.int 0, .int 0, .int 0, .int 1, .int 2, .int 4]] := by
    generalize left.map D.int = T at *
    have c : mOp2 oIdx (mLst (mCons (mC (.int 0)) (mCons (mC (.int 0)) (mCons (mC (.int 0)) (mCons (mC (.int 1)) (mCons (mC (.int 2)) (mCons (mC (.int 4)) mNil))))))) (mCall Gulaw_take (mCons (mVar 0) (mCons (mC (.int 6)) mNil))) [some (.ref 0), some (.int mst), some (.int qt), some (.tup ps), some (.ref 1), some (.ref 2), some (.int (1 + r)), none, none, none, none, none] [o2, .lst T, .lst []] = .ok (.int x) [o3, .lst T, .lst [], .lst [.int 0, .int 0, .int 0, .int 1, .int 2, .int 4]] := by
      simp [mOp2, mLst, mCall, mCons, mNil, mVar, mC, Rs.bind, ofO, most, e3', oIdx, hat]
    refine mset_ok (mfn_ok (mcons_ok c (mone_ok (mop2_ok (x := .int (1 + r)) (y := .int 1) (z := .int (1 + r - 1)) rfl rfl rfl))) ?_)
    show some (D.int (if 1 + r - 1 < x then 1 + r - 1 else x), _) = _
    rw [← hhp]
  have z8 : mFor (mRng1 (mVar 6)) (gNm 8) wBody [some (.ref 0), some (.int mst), some (.int qt), some (.tup ps), some (.ref 1), some (.ref 2), some (.int (1 + r)), some (.int hp), none, none, none, none] [o3, .lst (left.map D.int), .lst [], .lst [.int 0, .int 0, .int 0, .int 1, .int 2, .int 4]] = .nx [some (.ref 0), some (.int mst), some (.int qt), some (.tup ps), some (.ref 1), some (.ref 2), some (.int (1 + r)), some (.int hp), x8, x9, x10, x11] (o' :: X) := by
    unfold mFor mRng1
    simp only [mVar, Rs.bind, List.getElem?_cons_succ, List.getElem?_cons_zero]
    rw [if_pos hsz]
    exact hlp
  have z9 : mRet (mTup (mCons (mVar 3) (mCons (mFn cTuple (mCons (mVar 5) mNil)) (mCons (mVar 7) mNil)))) [some (.ref 0), some (.int mst), some (.int qt), some (.tup ps), some (.ref 1), some (.ref 2), some (.int (1 + r)), some (.int hp), x8, x9, x10, x11] (o' :: X) = .rt (.tup [.tup ps, .tup (tl.map tkD), .int hp]) (o' :: X) := by
    generalize tl.map tkD = T at *
    simp [mRet, mTup, mCons, mNil, mVar, mFn, cTuple, seqD, hf, Rs.bind, Rs.bindS, ofO, most]
  have hm : m_law_way [some (.ref 0), some (.int mst), some (.int qt), none, none, none, none, none, none, none, none, none] [o] = .rt (.tup [.tup ps, .tup (tl.map tkD), .int hp]) (o' :: X) := by
    have hdef : m_law_way = mSeq (mSet 3 (mCall Gulaw_points (mCons (mVar 0) (mCons (mVar 1) mNil))))
      (mSeq (mPar 4 5 (mCons (mListRg1 (mOp2 oAdd (mFn cLen (mCons (mVar 3) mNil)) (mC (.int 1)))) (mCons (mLst mNil) mNil)))
      (mSeq (mSet 6 (mOp2 oAdd (mC (.int 1)) (mCall Gulaw_take (mCons (mVar 0) (mCons (mFn cLen (mCons (mVar 4) mNil)) mNil)))))
      (mSeq (mSet 7 (mFn cMin (mCons (mOp2 oIdx (mLst (mCons (mC (.int 0)) (mCons (mC (.int 0)) (mCons (mC (.int 0)) (mCons (mC (.int 1)) (mCons (mC (.int 2)) (mCons (mC (.int 4)) mNil))))))) (mCall Gulaw_take (mCons (mVar 0) (mCons (mC (.int 6)) mNil)))) (mCons (mOp2 oSub (mVar 6) (mC (.int 1))) mNil))))
      (mSeq (mFor (mRng1 (mVar 6)) (gNm 8) wBody)
      (mRet (mTup (mCons (mVar 3) (mCons (mFn cTuple (mCons (mVar 5) mNil)) (mCons (mVar 7) mNil))))))))) := rfl
    rw [hdef, seq_nx z3, seq_nx z4, seq_nx z6, seq_nx z7, seq_nx z8]
    exact z9
  exact runF_rt rfl hm
theorem Pt.Ok.pure {P : Pt} (o : P.Ok) : refsD P.d = [] := by
  show refsDs P.ps ++ (refsDs (P.tl.map tkD) ++ ([] ++ [])) = []
  rw [o.pl.pure, tk_pure]
  rfl
theorem Gway {k mst qt : Int} {o : O} {L : List O} {n : Nat} (hL : L[n]? = some o) (h : BagI (k + 40) o) (hk : 0 ≤ k) (m0 : 0 ≤ mst) (m4 : mst ≤ 4) (q0 : 0 < qt) (q1 : qt < 1000000) : ∃ (P : Pt) (o' : O), Gulaw_way [.ref n, .int mst, .int qt] L = .ok P.d (L.set n o') ∧ P.Ok ∧ (P.ps.length : Int) ≤ mst ∧ BagI k o' := by
  obtain ⟨P, o', X, e, h1, h2, h3⟩ := way_spec h hk m0 m4 q0 q1
  exact ⟨P, o', lrun_bag rfl hL h.pure e h3.pure h1.pure, h1, h2, h3⟩
local macro_rules
  | `(tactic| o_reads) => `(tactic| first
    | with_reducible refine wp_set ?_
    | with_reducible refine wp_ret ?_
    | with_reducible refine wp_drop ?_
    | with_reducible refine wp_if ?_
    | with_reducible refine wp_asg ?_
    | with_reducible refine wp_par ?_
    | with_reducible refine wp_fldset ?_
    | with_reducible refine wp_put ?_
    | with_reducible refine wp_raise ?_
    | with_reducible refine wp_next ?_
    | with_reducible refine wp_brk ?_
    | with_reducible refine wp_cnt ?_
    | with_reducible refine wp_retN ?_
    | with_reducible refine wp_for ?_
    | with_reducible refine wp_cons ?_
    | with_reducible refine wp_nil ?_
    | with_reducible refine wp_C ?_
    | ((with_reducible apply wp_var); focus (exact rfl))
    | with_reducible refine wp_op2 ?_
    | with_reducible refine wp_op1 ?_
    | with_reducible refine wp_fn ?_
    | with_reducible refine wp_call ?_
    | ((with_reducible apply wp_chain_pure); (focus (exact rfl)); (focus (exact rfl)); (focus (exact rfl)); (focus (exact rfl)); (focus (exact rfl)))
    | with_reducible refine wp_chain ?_
    | with_reducible refine wp_nopart ?_
    | with_reducible refine wp_part ?_
    | with_reducible refine wp_sl ?_
    | with_reducible refine wp_tup ?_
    | with_reducible refine wp_lst ?_
    | with_reducible refine wp_dic0 ?_
    | with_reducible refine wp_nd0 ?_
    | with_reducible refine wp_tst ?_
    | with_reducible refine wp_tru ?_
    | with_reducible refine wp_notB ?_
    | with_reducible refine wp_andB ?_
    | with_reducible refine wp_orB ?_
    | with_reducible refine wp_yes ?_
    | with_reducible refine wp_andV ?_
    | with_reducible refine wp_orV ?_
    | with_reducible refine wp_notV ?_
    | with_reducible refine wp_ifE ?_
    | with_reducible refine wp_fld ?_
    | with_reducible refine wp_bmL ?_
    | with_reducible refine wp_meth ?_
    | with_reducible refine wp_prop ?_
    | with_reducible refine wp_listRg1 ?_
    | with_reducible refine wp_rng1 ?_
    | with_reducible refine wp_rng2 ?_
    | with_reducible refine wp_zip ?_
    | with_reducible refine wp_comp ?_
    | with_reducible refine qbl ?_
    | with_reducible refine qif_t rfl ?_
    | with_reducible refine qif_f rfl ?_
    | ((with_reducible apply qtr); focus (exact rfl))
    | with_reducible refine wpo oEq_int ?_
    | ((with_reducible apply wpo_len); focus assumption)
    | with_reducible refine wpo oNe_int ?_
    | ((with_reducible apply wpo); focus (exact rfl))
    | refine ⟨_, rfl, ?_⟩
    | ((with_reducible refine And.intro ?_ ?_); focus (first | exact Nat.le_of_ble_eq_true rfl | exact ⟨by omega, by omega⟩ | assumption)))
local macro_rules
  | `(tactic| o_readsAll) => `(tactic| repeat' (first | with_reducible refine wp_seq ?_ | o_reads))
local macro_rules
  | `(tactic| o_shape) => `(tactic| repeat' o_reads)
abbrev rgt : D := .tup [.tup [.str "alone", .str "none", .str "none", .str "none", .str "none"], .int 0, .str "alone", .bl true]
abbrev oddE0 : En := [some (.ref 0), none, none, none, none, none, none, none]
def oddL0 : List O := []
abbrev oddE1 : En := [some (.ref 0), some (rgt), none, none, none, none, none, none]
def oddL1 : List O := []
abbrev oddE2 : En := [some (.ref 0), some (rgt), some (.ref 16), none, none, none, none, none]
def oddL2 : List O := [.lst [],
  .dic false [],
  .dic false [],
  .lst [],
  .dic false [],
  .lst [],
  .lst [],
  .lst [],
  .dic false [],
  .lst [],
  .lst [],
  .lst [.ref 9, .ref 10, .ref 11],
  .lst [],
  .lst [],
  .lst [],
  .lst [.non, .int 0, .bl true, .str "", .str "net", .ref 1, .tup [], .ref 2, .tup [.ref 3, .ref 4], .tup [.ref 5, .ref 6, .ref 7, .ref 8], .ref 12, .tup [.ref 13, .ref 14, .ref 15]]]
abbrev oddE3 : En := [some (.ref 0), some (rgt), some (.ref 31), none, none, none, none, none]
def oddL3 : List O := [.lst [],
  .dic false [],
  .dic false [],
  .lst [],
  .dic false [],
  .lst [],
  .lst [],
  .lst [],
  .dic false [],
  .lst [],
  .lst [],
  .lst [.ref 9, .ref 10, .ref 11],
  .lst [],
  .lst [],
  .lst [],
  .lst [.non, .int 0, .bl true, .str "", .str "net", .ref 1, .tup [], .ref 2, .tup [.ref 3, .ref 4], .tup [.ref 5, .ref 6, .ref 7, .ref 8], .ref 12, .tup [.ref 13, .ref 14, .ref 15]],
  .dic false [],
  .lst [],
  .dic false [],
  .lst [],
  .dic false [],
  .dic false [],
  .lst [],
  .nd false [(rgt, .bl true)],
  .lst [],
  .lst [],
  .nd false [(rgt, .str "1")],
  .lst [],
  .lst [],
  .lst [.tup [.ref 17, .tup [], .ref 18], .tup [.ref 19, .ref 20, .tup []], .tup [.ref 21, .ref 22, .ref 23], .tup [.ref 24, .ref 25, .ref 26], .tup [.ref 27, .ref 28, .ref 29]],
  .lst [.non, .int 0, .bl true, .str "", .str "net", .ref 1, .tup [], .ref 2, .tup [.ref 3, .ref 4], .tup [.ref 5, .ref 6, .ref 7, .ref 8], .ref 12, .tup [.ref 13, .ref 14, .ref 15], .tup [.ref 17, .tup [], .ref 18], .tup [.ref 19, .ref 20, .tup []], .tup [.ref 21, .ref 22, .ref 23], .tup [.ref 24, .ref 25, .ref 26], .tup [.ref 27, .ref 28, .ref 29]]]
abbrev oddE4 : En := [some (.ref 0), some (rgt), some (.ref 31), none, none, none, none, none]
def oddL4 : List O := [.lst [],
  .dic false [],
  .dic false [],
  .lst [],
  .dic false [],
  .lst [],
  .lst [],
  .lst [],
  .dic false [],
  .lst [],
  .lst [],
  .lst [.ref 9, .ref 10, .ref 11],
  .lst [],
  .lst [],
  .lst [],
  .lst [.non, .int 0, .bl true, .str "", .str "net", .ref 1, .tup [], .ref 2, .tup [.ref 3, .ref 4], .tup [.ref 5, .ref 6, .ref 7, .ref 8], .ref 12, .tup [.ref 13, .ref 14, .ref 15]],
  .dic false [],
  .lst [],
  .dic false [],
  .lst [],
  .dic false [],
  .dic false [],
  .lst [],
  .nd false [(rgt, .bl true)],
  .lst [],
  .lst [],
  .nd false [(rgt, .str "1")],
  .lst [],
  .lst [],
  .lst [.tup [.ref 17, .tup [], .ref 18], .tup [.ref 19, .ref 20, .tup []], .tup [.ref 21, .ref 22, .ref 23], .tup [.ref 24, .ref 25, .ref 26], .tup [.ref 27, .ref 28, .ref 29]],
  .lst [.non, .int 0, .bl true, .str "", .str "net", .ref 1, .tup [], .ref 2, .tup [.ref 3, .ref 4], .tup [.ref 5, .ref 6, .ref 7, .ref 8], .ref 12, .tup [.ref 13, .ref 14, .ref 15], .tup [.ref 17, .tup [], .ref 18], .tup [.ref 19, .ref 20, .tup []], .tup [.ref 21, .ref 22, .ref 23], .tup [.ref 24, .ref 25, .ref 26], .tup [.ref 27, .ref 28, .ref 29], .tup [.ref 32, .ref 33, .ref 34]],
  .nd false [(rgt, .non)],
  .lst [],
  .lst []]
abbrev oddE5 : En := [some (.ref 0), some (rgt), some (.ref 31), some (.ref 36), none, none, none, none]
def oddL5 : List O := [.lst [],
  .dic false [],
  .dic false [],
  .lst [],
  .dic false [],
  .lst [],
  .lst [],
  .lst [],
  .dic false [],
  .lst [],
  .lst [],
  .lst [.ref 9, .ref 10, .ref 11],
  .lst [],
  .lst [],
  .lst [],
  .lst [.non, .int 0, .bl true, .str "", .str "net", .ref 1, .tup [], .ref 2, .tup [.ref 3, .ref 4], .tup [.ref 5, .ref 6, .ref 7, .ref 8], .ref 12, .tup [.ref 13, .ref 14, .ref 15]],
  .dic false [],
  .lst [],
  .dic false [],
  .lst [],
  .dic false [],
  .dic false [],
  .lst [],
  .nd false [(rgt, .bl true)],
  .lst [],
  .lst [],
  .nd false [(rgt, .str "1")],
  .lst [],
  .lst [],
  .lst [.tup [.ref 17, .tup [], .ref 18], .tup [.ref 19, .ref 20, .tup []], .tup [.ref 21, .ref 22, .ref 23], .tup [.ref 24, .ref 25, .ref 26], .tup [.ref 27, .ref 28, .ref 29]],
  .lst [.non, .int 0, .bl true, .str "", .str "net", .ref 1, .tup [], .ref 2, .tup [.ref 3, .ref 4], .tup [.ref 5, .ref 6, .ref 7, .ref 8], .ref 12, .tup [.ref 13, .ref 14, .ref 15], .tup [.ref 17, .tup [], .ref 18], .tup [.ref 19, .ref 20, .tup []], .tup [.ref 21, .ref 22, .ref 23], .tup [.ref 24, .ref 25, .ref 26], .tup [.ref 27, .ref 28, .ref 29], .tup [.ref 32, .ref 33, .ref 34]],
  .nd false [(rgt, .non)],
  .lst [],
  .lst [],
  .lst [.int 1, .str "none", .int 2],
  .lst [.tup [.int 1, .str "none"], .tup [.int 1, .str "none", .int 2, .int 3], .ref 35, .tup [.bl true, .str "none", .int 2], .tup [.int 1, .str "none", .str "2"], .non, .tup [.int 1, .int 0, .int 2]]]
abbrev oddE6 : En := [some (.ref 0), some (rgt), some (.ref 31), some (.ref 36), some (.tup [.int 1, .int 0, .int 2]), none, none, none]
def oddL6 : List O := [.lst [],
  .dic false [],
  .dic false [],
  .lst [],
  .dic false [],
  .lst [],
  .lst [],
  .lst [],
  .dic false [],
  .lst [],
  .lst [],
  .lst [.ref 9, .ref 10, .ref 11],
  .lst [],
  .lst [],
  .lst [],
  .lst [.non, .int 0, .bl true, .str "", .str "net", .ref 1, .tup [], .ref 2, .tup [.ref 3, .ref 4], .tup [.ref 5, .ref 6, .ref 7, .ref 8], .ref 12, .tup [.ref 13, .ref 14, .ref 15]],
  .dic false [],
  .lst [],
  .dic false [],
  .lst [],
  .dic false [],
  .dic false [],
  .lst [],
  .nd false [(rgt, .bl true)],
  .lst [],
  .lst [],
  .nd false [(rgt, .str "1")],
  .lst [],
  .lst [],
  .lst [.tup [.ref 17, .tup [], .ref 18], .tup [.ref 19, .ref 20, .tup []], .tup [.ref 21, .ref 22, .ref 23], .tup [.ref 24, .ref 25, .ref 26], .tup [.ref 27, .ref 28, .ref 29]],
  .lst [.non, .int 0, .bl true, .str "", .str "net", .ref 1, .tup [], .ref 2, .tup [.ref 3, .ref 4], .tup [.ref 5, .ref 6, .ref 7, .ref 8], .ref 12, .tup [.ref 13, .ref 14, .ref 15], .tup [.ref 17, .tup [], .ref 18], .tup [.ref 19, .ref 20, .tup []], .tup [.ref 21, .ref 22, .ref 23], .tup [.ref 24, .ref 25, .ref 26], .tup [.ref 27, .ref 28, .ref 29], .tup [.ref 32, .ref 33, .ref 34], .tup [.ref 37, .ref 38, .ref 39], .tup [.ref 40, .ref 41, .ref 42], .tup [.ref 43, .ref 44, .ref 45], .tup [.ref 46, .ref 47, .ref 48], .tup [.ref 49, .ref 50, .ref 51], .tup [.ref 52, .ref 53, .ref 54], .tup [.ref 55, .ref 56, .ref 57]],
  .nd false [(rgt, .non)],
  .lst [],
  .lst [],
  .lst [.int 1, .str "none", .int 2],
  .lst [.tup [.int 1, .str "none"], .tup [.int 1, .str "none", .int 2, .int 3], .ref 35, .tup [.bl true, .str "none", .int 2], .tup [.int 1, .str "none", .str "2"], .non, .tup [.int 1, .int 0, .int 2]],
  .nd false [(rgt, .int 1)],
  .lst [.tup [.int 1, .str "none", .int 1], .tup [.int 1, .str "none"]],
  .lst [.int 1],
  .nd false [(rgt, .int 1)],
  .lst [.tup [.int 1, .str "none", .int 1], .tup [.int 1, .str "none", .int 2, .int 3]],
  .lst [.int 1],
  .nd false [(rgt, .int 1)],
  .lst [.tup [.int 1, .str "none", .int 1], .ref 35],
  .lst [.int 1],
  .nd false [(rgt, .int 1)],
  .lst [.tup [.int 1, .str "none", .int 1], .tup [.bl true, .str "none", .int 2]],
  .lst [.int 1],
  .nd false [(rgt, .int 1)],
  .lst [.tup [.int 1, .str "none", .int 1], .tup [.int 1, .str "none", .str "2"]],
  .lst [.int 1],
  .nd false [(rgt, .int 1)],
  .lst [.tup [.int 1, .str "none", .int 1], .non],
  .lst [.int 1],
  .nd false [(rgt, .int 1)],
  .lst [.tup [.int 1, .str "none", .int 1], .tup [.int 1, .int 0, .int 2]],
  .lst [.int 1]]
abbrev oddE7 : En := [some (.ref 0), some (rgt), some (.ref 31), some (.ref 36), some (.tup [.non, .str "none", .int 2]), none, none, none]
def oddL7 : List O := [.lst [],
  .dic false [],
  .dic false [],
  .lst [],
  .dic false [],
  .lst [],
  .lst [],
  .lst [],
  .dic false [],
  .lst [],
  .lst [],
  .lst [.ref 9, .ref 10, .ref 11],
  .lst [],
  .lst [],
  .lst [],
  .lst [.non, .int 0, .bl true, .str "", .str "net", .ref 1, .tup [], .ref 2, .tup [.ref 3, .ref 4], .tup [.ref 5, .ref 6, .ref 7, .ref 8], .ref 12, .tup [.ref 13, .ref 14, .ref 15]],
  .dic false [],
  .lst [],
  .dic false [],
  .lst [],
  .dic false [],
  .dic false [],
  .lst [],
  .nd false [(rgt, .bl true)],
  .lst [],
  .lst [],
  .nd false [(rgt, .str "1")],
  .lst [],
  .lst [],
  .lst [.tup [.ref 17, .tup [], .ref 18], .tup [.ref 19, .ref 20, .tup []], .tup [.ref 21, .ref 22, .ref 23], .tup [.ref 24, .ref 25, .ref 26], .tup [.ref 27, .ref 28, .ref 29]],
  .lst [.non, .int 0, .bl true, .str "", .str "net", .ref 1, .tup [], .ref 2, .tup [.ref 3, .ref 4], .tup [.ref 5, .ref 6, .ref 7, .ref 8], .ref 12, .tup [.ref 13, .ref 14, .ref 15], .tup [.ref 17, .tup [], .ref 18], .tup [.ref 19, .ref 20, .tup []], .tup [.ref 21, .ref 22, .ref 23], .tup [.ref 24, .ref 25, .ref 26], .tup [.ref 27, .ref 28, .ref 29], .tup [.ref 32, .ref 33, .ref 34], .tup [.ref 37, .ref 38, .ref 39], .tup [.ref 40, .ref 41, .ref 42], .tup [.ref 43, .ref 44, .ref 45], .tup [.ref 46, .ref 47, .ref 48], .tup [.ref 49, .ref 50, .ref 51], .tup [.ref 52, .ref 53, .ref 54], .tup [.ref 55, .ref 56, .ref 57], .tup [.ref 60, .ref 61, .ref 62], .tup [.ref 63, .ref 64, .ref 65], .tup [.ref 66, .ref 67, .ref 68], .tup [.ref 69, .ref 70, .ref 71], .tup [.ref 72, .ref 73, .ref 74], .tup [.ref 75, .ref 76, .ref 77]],
  .nd false [(rgt, .non)],
  .lst [],
  .lst [],
  .lst [.int 1, .str "none", .int 2],
  .lst [.tup [.int 1, .str "none"], .tup [.int 1, .str "none", .int 2, .int 3], .ref 35, .tup [.bl true, .str "none", .int 2], .tup [.int 1, .str "none", .str "2"], .non, .tup [.int 1, .int 0, .int 2]],
  .nd false [(rgt, .int 1)],
  .lst [.tup [.int 1, .str "none", .int 1], .tup [.int 1, .str "none"]],
  .lst [.int 1],
  .nd false [(rgt, .int 1)],
  .lst [.tup [.int 1, .str "none", .int 1], .tup [.int 1, .str "none", .int 2, .int 3]],
  .lst [.int 1],
  .nd false [(rgt, .int 1)],
  .lst [.tup [.int 1, .str "none", .int 1], .ref 35],
  .lst [.int 1],
  .nd false [(rgt, .int 1)],
  .lst [.tup [.int 1, .str "none", .int 1], .tup [.bl true, .str "none", .int 2]],
  .lst [.int 1],
  .nd false [(rgt, .int 1)],
  .lst [.tup [.int 1, .str "none", .int 1], .tup [.int 1, .str "none", .str "2"]],
  .lst [.int 1],
  .nd false [(rgt, .int 1)],
  .lst [.tup [.int 1, .str "none", .int 1], .non],
  .lst [.int 1],
  .nd false [(rgt, .int 1)],
  .lst [.tup [.int 1, .str "none", .int 1], .tup [.int 1, .int 0, .int 2]],
  .lst [.int 1],
  .lst [.str "none"],
  .lst [.tup [.int 1, .str "rising", .int 2], .tup [.int 1, .non, .int 2], .tup [.int 1, .ref 58, .int 2], .tup [.int 1, .tup [.str "none"], .int 2], .str "1n2", .tup [.non, .str "none", .int 2]],
  .nd false [(rgt, .int 1)],
  .lst [.tup [.int 1, .str "rising", .int 2]],
  .lst [.int 1],
  .nd false [(rgt, .int 1)],
  .lst [.tup [.int 1, .non, .int 2]],
  .lst [.int 1],
  .nd false [(rgt, .int 1)],
  .lst [.tup [.int 1, .ref 58, .int 2]],
  .lst [.int 1],
  .nd false [(rgt, .int 1)],
  .lst [.tup [.int 1, .tup [.str "none"], .int 2]],
  .lst [.int 1],
  .nd false [(rgt, .int 1)],
  .lst [.str "1n2"],
  .lst [.int 1],
  .nd false [(rgt, .int 1)],
  .lst [.tup [.non, .str "none", .int 2]],
  .lst [.int 1]]
abbrev oddE8 : En := [some (.ref 0), some (rgt), some (.ref 31), some (.ref 36), some (.tup [.non, .str "none", .int 2]), some (.ref 78), none, none]
def oddL8 : List O := [.lst [],
  .dic false [],
  .dic false [],
  .lst [],
  .dic false [],
  .lst [],
  .lst [],
  .lst [],
  .dic false [],
  .lst [],
  .lst [],
  .lst [.ref 9, .ref 10, .ref 11],
  .lst [],
  .lst [],
  .lst [],
  .lst [.non, .int 0, .bl true, .str "", .str "net", .ref 1, .tup [], .ref 2, .tup [.ref 3, .ref 4], .tup [.ref 5, .ref 6, .ref 7, .ref 8], .ref 12, .tup [.ref 13, .ref 14, .ref 15]],
  .dic false [],
  .lst [],
  .dic false [],
  .lst [],
  .dic false [],
  .dic false [],
  .lst [],
  .nd false [(rgt, .bl true)],
  .lst [],
  .lst [],
  .nd false [(rgt, .str "1")],
  .lst [],
  .lst [],
  .lst [.tup [.ref 17, .tup [], .ref 18], .tup [.ref 19, .ref 20, .tup []], .tup [.ref 21, .ref 22, .ref 23], .tup [.ref 24, .ref 25, .ref 26], .tup [.ref 27, .ref 28, .ref 29]],
  .lst [.non, .int 0, .bl true, .str "", .str "net", .ref 1, .tup [], .ref 2, .tup [.ref 3, .ref 4], .tup [.ref 5, .ref 6, .ref 7, .ref 8], .ref 12, .tup [.ref 13, .ref 14, .ref 15], .tup [.ref 17, .tup [], .ref 18], .tup [.ref 19, .ref 20, .tup []], .tup [.ref 21, .ref 22, .ref 23], .tup [.ref 24, .ref 25, .ref 26], .tup [.ref 27, .ref 28, .ref 29], .tup [.ref 32, .ref 33, .ref 34], .tup [.ref 37, .ref 38, .ref 39], .tup [.ref 40, .ref 41, .ref 42], .tup [.ref 43, .ref 44, .ref 45], .tup [.ref 46, .ref 47, .ref 48], .tup [.ref 49, .ref 50, .ref 51], .tup [.ref 52, .ref 53, .ref 54], .tup [.ref 55, .ref 56, .ref 57], .tup [.ref 60, .ref 61, .ref 62], .tup [.ref 63, .ref 64, .ref 65], .tup [.ref 66, .ref 67, .ref 68], .tup [.ref 69, .ref 70, .ref 71], .tup [.ref 72, .ref 73, .ref 74], .tup [.ref 75, .ref 76, .ref 77], .tup [.ref 80, .ref 81, .ref 82], .tup [.ref 83, .ref 84, .ref 85], .tup [.ref 86, .ref 87, .ref 88], .tup [.ref 89, .ref 90, .ref 91], .tup [.ref 92, .ref 93, .ref 94], .tup [.ref 95, .ref 96, .ref 97]],
  .nd false [(rgt, .non)],
  .lst [],
  .lst [],
  .lst [.int 1, .str "none", .int 2],
  .lst [.tup [.int 1, .str "none"], .tup [.int 1, .str "none", .int 2, .int 3], .ref 35, .tup [.bl true, .str "none", .int 2], .tup [.int 1, .str "none", .str "2"], .non, .tup [.int 1, .int 0, .int 2]],
  .nd false [(rgt, .int 1)],
  .lst [.tup [.int 1, .str "none", .int 1], .tup [.int 1, .str "none"]],
  .lst [.int 1],
  .nd false [(rgt, .int 1)],
  .lst [.tup [.int 1, .str "none", .int 1], .tup [.int 1, .str "none", .int 2, .int 3]],
  .lst [.int 1],
  .nd false [(rgt, .int 1)],
  .lst [.tup [.int 1, .str "none", .int 1], .ref 35],
  .lst [.int 1],
  .nd false [(rgt, .int 1)],
  .lst [.tup [.int 1, .str "none", .int 1], .tup [.bl true, .str "none", .int 2]],
  .lst [.int 1],
  .nd false [(rgt, .int 1)],
  .lst [.tup [.int 1, .str "none", .int 1], .tup [.int 1, .str "none", .str "2"]],
  .lst [.int 1],
  .nd false [(rgt, .int 1)],
  .lst [.tup [.int 1, .str "none", .int 1], .non],
  .lst [.int 1],
  .nd false [(rgt, .int 1)],
  .lst [.tup [.int 1, .str "none", .int 1], .tup [.int 1, .int 0, .int 2]],
  .lst [.int 1],
  .lst [.str "none"],
  .lst [.tup [.int 1, .str "rising", .int 2], .tup [.int 1, .non, .int 2], .tup [.int 1, .ref 58, .int 2], .tup [.int 1, .tup [.str "none"], .int 2], .str "1n2", .tup [.non, .str "none", .int 2]],
  .nd false [(rgt, .int 1)],
  .lst [.tup [.int 1, .str "rising", .int 2]],
  .lst [.int 1],
  .nd false [(rgt, .int 1)],
  .lst [.tup [.int 1, .non, .int 2]],
  .lst [.int 1],
  .nd false [(rgt, .int 1)],
  .lst [.tup [.int 1, .ref 58, .int 2]],
  .lst [.int 1],
  .nd false [(rgt, .int 1)],
  .lst [.tup [.int 1, .tup [.str "none"], .int 2]],
  .lst [.int 1],
  .nd false [(rgt, .int 1)],
  .lst [.str "1n2"],
  .lst [.int 1],
  .nd false [(rgt, .int 1)],
  .lst [.tup [.non, .str "none", .int 2]],
  .lst [.int 1],
  .lst [.int 1],
  .lst [.non, .bl true, .bl false, .str "1", .tup [.int 1], .ref 78],
  .nd false [(rgt, .int 1)],
  .lst [],
  .lst [.int 1, .non],
  .nd false [(rgt, .int 1)],
  .lst [],
  .lst [.int 1, .bl true],
  .nd false [(rgt, .int 1)],
  .lst [],
  .lst [.int 1, .bl false],
  .nd false [(rgt, .int 1)],
  .lst [],
  .lst [.int 1, .str "1"],
  .nd false [(rgt, .int 1)],
  .lst [],
  .lst [.int 1, .tup [.int 1]],
  .nd false [(rgt, .int 1)],
  .lst [],
  .lst [.int 1, .ref 78]]
abbrev oddE9 : En := [some (.ref 0), some (rgt), some (.ref 159), some (.ref 36), some (.tup [.non, .str "none", .int 2]), some (.ref 78), none, none]
def oddL9 : List O := [.lst [],
  .dic false [],
  .dic false [],
  .lst [],
  .dic false [],
  .lst [],
  .lst [],
  .lst [],
  .dic false [],
  .lst [],
  .lst [],
  .lst [.ref 9, .ref 10, .ref 11],
  .lst [],
  .lst [],
  .lst [],
  .lst [.non, .int 0, .bl true, .str "", .str "net", .ref 1, .tup [], .ref 2, .tup [.ref 3, .ref 4], .tup [.ref 5, .ref 6, .ref 7, .ref 8], .ref 12, .tup [.ref 13, .ref 14, .ref 15]],
  .dic false [],
  .lst [],
  .dic false [],
  .lst [],
  .dic false [],
  .dic false [],
  .lst [],
  .nd false [(rgt, .bl true)],
  .lst [],
  .lst [],
  .nd false [(rgt, .str "1")],
  .lst [],
  .lst [],
  .lst [.tup [.ref 17, .tup [], .ref 18], .tup [.ref 19, .ref 20, .tup []], .tup [.ref 21, .ref 22, .ref 23], .tup [.ref 24, .ref 25, .ref 26], .tup [.ref 27, .ref 28, .ref 29]],
  .lst [.non, .int 0, .bl true, .str "", .str "net", .ref 1, .tup [], .ref 2, .tup [.ref 3, .ref 4], .tup [.ref 5, .ref 6, .ref 7, .ref 8], .ref 12, .tup [.ref 13, .ref 14, .ref 15], .tup [.ref 17, .tup [], .ref 18], .tup [.ref 19, .ref 20, .tup []], .tup [.ref 21, .ref 22, .ref 23], .tup [.ref 24, .ref 25, .ref 26], .tup [.ref 27, .ref 28, .ref 29], .tup [.ref 32, .ref 33, .ref 34], .tup [.ref 37, .ref 38, .ref 39], .tup [.ref 40, .ref 41, .ref 42], .tup [.ref 43, .ref 44, .ref 45], .tup [.ref 46, .ref 47, .ref 48], .tup [.ref 49, .ref 50, .ref 51], .tup [.ref 52, .ref 53, .ref 54], .tup [.ref 55, .ref 56, .ref 57], .tup [.ref 60, .ref 61, .ref 62], .tup [.ref 63, .ref 64, .ref 65], .tup [.ref 66, .ref 67, .ref 68], .tup [.ref 69, .ref 70, .ref 71], .tup [.ref 72, .ref 73, .ref 74], .tup [.ref 75, .ref 76, .ref 77], .tup [.ref 80, .ref 81, .ref 82], .tup [.ref 83, .ref 84, .ref 85], .tup [.ref 86, .ref 87, .ref 88], .tup [.ref 89, .ref 90, .ref 91], .tup [.ref 92, .ref 93, .ref 94], .tup [.ref 95, .ref 96, .ref 97]],
  .nd false [(rgt, .non)],
  .lst [],
  .lst [],
  .lst [.int 1, .str "none", .int 2],
  .lst [.tup [.int 1, .str "none"], .tup [.int 1, .str "none", .int 2, .int 3], .ref 35, .tup [.bl true, .str "none", .int 2], .tup [.int 1, .str "none", .str "2"], .non, .tup [.int 1, .int 0, .int 2]],
  .nd false [(rgt, .int 1)],
  .lst [.tup [.int 1, .str "none", .int 1], .tup [.int 1, .str "none"]],
  .lst [.int 1],
  .nd false [(rgt, .int 1)],
  .lst [.tup [.int 1, .str "none", .int 1], .tup [.int 1, .str "none", .int 2, .int 3]],
  .lst [.int 1],
  .nd false [(rgt, .int 1)],
  .lst [.tup [.int 1, .str "none", .int 1], .ref 35],
  .lst [.int 1],
  .nd false [(rgt, .int 1)],
  .lst [.tup [.int 1, .str "none", .int 1], .tup [.bl true, .str "none", .int 2]],
  .lst [.int 1],
  .nd false [(rgt, .int 1)],
  .lst [.tup [.int 1, .str "none", .int 1], .tup [.int 1, .str "none", .str "2"]],
  .lst [.int 1],
  .nd false [(rgt, .int 1)],
  .lst [.tup [.int 1, .str "none", .int 1], .non],
  .lst [.int 1],
  .nd false [(rgt, .int 1)],
  .lst [.tup [.int 1, .str "none", .int 1], .tup [.int 1, .int 0, .int 2]],
  .lst [.int 1],
  .lst [.str "none"],
  .lst [.tup [.int 1, .str "rising", .int 2], .tup [.int 1, .non, .int 2], .tup [.int 1, .ref 58, .int 2], .tup [.int 1, .tup [.str "none"], .int 2], .str "1n2", .tup [.non, .str "none", .int 2]],
  .nd false [(rgt, .int 1)],
  .lst [.tup [.int 1, .str "rising", .int 2]],
  .lst [.int 1],
  .nd false [(rgt, .int 1)],
  .lst [.tup [.int 1, .non, .int 2]],
  .lst [.int 1],
  .nd false [(rgt, .int 1)],
  .lst [.tup [.int 1, .ref 58, .int 2]],
  .lst [.int 1],
  .nd false [(rgt, .int 1)],
  .lst [.tup [.int 1, .tup [.str "none"], .int 2]],
  .lst [.int 1],
  .nd false [(rgt, .int 1)],
  .lst [.str "1n2"],
  .lst [.int 1],
  .nd false [(rgt, .int 1)],
  .lst [.tup [.non, .str "none", .int 2]],
  .lst [.int 1],
  .lst [.int 1],
  .lst [.non, .bl true, .bl false, .str "1", .tup [.int 1], .ref 78],
  .nd false [(rgt, .int 1)],
  .lst [],
  .lst [.int 1, .non],
  .nd false [(rgt, .int 1)],
  .lst [],
  .lst [.int 1, .bl true],
  .nd false [(rgt, .int 1)],
  .lst [],
  .lst [.int 1, .bl false],
  .nd false [(rgt, .int 1)],
  .lst [],
  .lst [.int 1, .str "1"],
  .nd false [(rgt, .int 1)],
  .lst [],
  .lst [.int 1, .tup [.int 1]],
  .nd false [(rgt, .int 1)],
  .lst [],
  .lst [.int 1, .ref 78],
  .lst [.tup [.tup [.str "alone", .str "none", .str "none", .str "none", .str "none"], .int 0, .str "alone"], .tup [.tup [.str "alone", .str "none", .str "none", .str "none"], .int 0, .str "alone", .bl true], .tup [.tup [.str "alone", .str "none", .str "none", .str "none", .str "none"], .int 5, .str "alone", .bl true], .tup [.tup [.str "alone", .str "none", .str "none", .str "none", .str "none"], .int (-1), .str "alone", .bl true]],
  .lst [.tup [.tup [.str "alone", .str "none", .str "none", .str "none", .str "none"], .bl true, .str "alone", .bl true], .tup [.tup [.str "alone", .str "none", .str "none", .str "none", .str "none"], .int 0, .str "none", .bl true], .tup [.tup [.str "alone", .str "none", .str "none", .str "none", .str "none"], .int 0, .str "alone", .int 1]],
  .lst [.tup [.tup [.str "alone", .str "none", .str "none", .str "none", .str "none"], .int 0, .str "alone"], .tup [.tup [.str "alone", .str "none", .str "none", .str "none"], .int 0, .str "alone", .bl true], .tup [.tup [.str "alone", .str "none", .str "none", .str "none", .str "none"], .int 5, .str "alone", .bl true], .tup [.tup [.str "alone", .str "none", .str "none", .str "none", .str "none"], .int (-1), .str "alone", .bl true], .tup [.tup [.str "alone", .str "none", .str "none", .str "none", .str "none"], .bl true, .str "alone", .bl true], .tup [.tup [.str "alone", .str "none", .str "none", .str "none", .str "none"], .int 0, .str "none", .bl true], .tup [.tup [.str "alone", .str "none", .str "none", .str "none", .str "none"], .int 0, .str "alone", .int 1]],
  .lst [.tup [.tup [.str "alone", .str "none", .str "none", .str "none", .str "none"], .str "0", .str "alone", .bl true], .tup [.tup [.str "alone", .str "none", .str "none", .str "none", .str "free"], .int 0, .str "alone", .bl true]],
  .lst [.tup [.tup [.str "alone", .str "none", .str "none", .str "none", .str "none"], .int 0, .str "alone"], .tup [.tup [.str "alone", .str "none", .str "none", .str "none"], .int 0, .str "alone", .bl true], .tup [.tup [.str "alone", .str "none", .str "none", .str "none", .str "none"], .int 5, .str "alone", .bl true], .tup [.tup [.str "alone", .str "none", .str "none", .str "none", .str "none"], .int (-1), .str "alone", .bl true], .tup [.tup [.str "alone", .str "none", .str "none", .str "none", .str "none"], .bl true, .str "alone", .bl true], .tup [.tup [.str "alone", .str "none", .str "none", .str "none", .str "none"], .int 0, .str "none", .bl true], .tup [.tup [.str "alone", .str "none", .str "none", .str "none", .str "none"], .int 0, .str "alone", .int 1], .tup [.tup [.str "alone", .str "none", .str "none", .str "none", .str "none"], .str "0", .str "alone", .bl true], .tup [.tup [.str "alone", .str "none", .str "none", .str "none", .str "free"], .int 0, .str "alone", .bl true]],
  .lst [.tup [.tup [.str "alone", .str "none", .str "none", .str "none", .str "none", .str "none"], .int 0, .str "alone", .bl true], .non, .int 3, .str "line", .tup []],
  .lst [.tup [.tup [.str "alone", .str "none", .str "none", .str "none", .str "none"], .int 0, .str "alone"], .tup [.tup [.str "alone", .str "none", .str "none", .str "none"], .int 0, .str "alone", .bl true], .tup [.tup [.str "alone", .str "none", .str "none", .str "none", .str "none"], .int 5, .str "alone", .bl true], .tup [.tup [.str "alone", .str "none", .str "none", .str "none", .str "none"], .int (-1), .str "alone", .bl true], .tup [.tup [.str "alone", .str "none", .str "none", .str "none", .str "none"], .bl true, .str "alone", .bl true], .tup [.tup [.str "alone", .str "none", .str "none", .str "none", .str "none"], .int 0, .str "none", .bl true], .tup [.tup [.str "alone", .str "none", .str "none", .str "none", .str "none"], .int 0, .str "alone", .int 1], .tup [.tup [.str "alone", .str "none", .str "none", .str "none", .str "none"], .str "0", .str "alone", .bl true], .tup [.tup [.str "alone", .str "none", .str "none", .str "none", .str "free"], .int 0, .str "alone", .bl true], .tup [.tup [.str "alone", .str "none", .str "none", .str "none", .str "none", .str "none"], .int 0, .str "alone", .bl true], .non, .int 3, .str "line", .tup []],
  .lst [.tup [.tup [.str "alone", .str "none", .str "none", .str "none", .str "none"], .int 0, .str "rising", .bl true], .tup [.tup [.str "alone", .str "none", .str "none", .str "none", .non], .int 0, .str "alone", .bl false], .tup [.tup [.str "alone", .str "none", .str "none", .str "none", .str "none"], .int 0, .str "alone", .non]],
  .lst [.tup [.tup [.str "alone", .str "none", .str "none", .str "none", .str "none"], .int 0, .str "alone"], .tup [.tup [.str "alone", .str "none", .str "none", .str "none"], .int 0, .str "alone", .bl true], .tup [.tup [.str "alone", .str "none", .str "none", .str "none", .str "none"], .int 5, .str "alone", .bl true], .tup [.tup [.str "alone", .str "none", .str "none", .str "none", .str "none"], .int (-1), .str "alone", .bl true], .tup [.tup [.str "alone", .str "none", .str "none", .str "none", .str "none"], .bl true, .str "alone", .bl true], .tup [.tup [.str "alone", .str "none", .str "none", .str "none", .str "none"], .int 0, .str "none", .bl true], .tup [.tup [.str "alone", .str "none", .str "none", .str "none", .str "none"], .int 0, .str "alone", .int 1], .tup [.tup [.str "alone", .str "none", .str "none", .str "none", .str "none"], .str "0", .str "alone", .bl true], .tup [.tup [.str "alone", .str "none", .str "none", .str "none", .str "free"], .int 0, .str "alone", .bl true], .tup [.tup [.str "alone", .str "none", .str "none", .str "none", .str "none", .str "none"], .int 0, .str "alone", .bl true], .non, .int 3, .str "line", .tup [], .tup [.tup [.str "alone", .str "none", .str "none", .str "none", .str "none"], .int 0, .str "rising", .bl true], .tup [.tup [.str "alone", .str "none", .str "none", .str "none", .non], .int 0, .str "alone", .bl false], .tup [.tup [.str "alone", .str "none", .str "none", .str "none", .str "none"], .int 0, .str "alone", .non]],
  .lst [.tup [.ref 108, .ref 109, .ref 110], .tup [.ref 111, .ref 112, .ref 113], .tup [.ref 114, .ref 115, .ref 116], .tup [.ref 117, .ref 118, .ref 119], .tup [.ref 120, .ref 121, .ref 122], .tup [.ref 123, .ref 124, .ref 125], .tup [.ref 126, .ref 127, .ref 128], .tup [.ref 129, .ref 130, .ref 131], .tup [.ref 132, .ref 133, .ref 134], .tup [.ref 135, .ref 136, .ref 137], .tup [.ref 138, .ref 139, .ref 140], .tup [.ref 141, .ref 142, .ref 143], .tup [.ref 144, .ref 145, .ref 146], .tup [.ref 147, .ref 148, .ref 149], .tup [.ref 150, .ref 151, .ref 152], .tup [.ref 153, .ref 154, .ref 155], .tup [.ref 156, .ref 157, .ref 158]],
  .nd false [(.tup [.tup [.str "alone", .str "none", .str "none", .str "none", .str "none"], .int 0, .str "alone"], .int 1)],
  .lst [],
  .lst [.int 1],
  .nd false [(.tup [.tup [.str "alone", .str "none", .str "none", .str "none"], .int 0, .str "alone", .bl true], .int 1)],
  .lst [],
  .lst [.int 1],
  .nd false [(.tup [.tup [.str "alone", .str "none", .str "none", .str "none", .str "none"], .int 5, .str "alone", .bl true], .int 1)],
  .lst [],
  .lst [.int 1],
  .nd false [(.tup [.tup [.str "alone", .str "none", .str "none", .str "none", .str "none"], .int (-1), .str "alone", .bl true], .int 1)],
  .lst [],
  .lst [.int 1],
  .nd false [(.tup [.tup [.str "alone", .str "none", .str "none", .str "none", .str "none"], .bl true, .str "alone", .bl true], .int 1)],
  .lst [],
  .lst [.int 1],
  .nd false [(.tup [.tup [.str "alone", .str "none", .str "none", .str "none", .str "none"], .int 0, .str "none", .bl true], .int 1)],
  .lst [],
  .lst [.int 1],
  .nd false [(.tup [.tup [.str "alone", .str "none", .str "none", .str "none", .str "none"], .int 0, .str "alone", .int 1], .int 1)],
  .lst [],
  .lst [.int 1],
  .nd false [(.tup [.tup [.str "alone", .str "none", .str "none", .str "none", .str "none"], .str "0", .str "alone", .bl true], .int 1)],
  .lst [],
  .lst [.int 1],
  .nd false [(.tup [.tup [.str "alone", .str "none", .str "none", .str "none", .str "free"], .int 0, .str "alone", .bl true], .int 1)],
  .lst [],
  .lst [.int 1],
  .nd false [(.tup [.tup [.str "alone", .str "none", .str "none", .str "none", .str "none", .str "none"], .int 0, .str "alone", .bl true], .int 1)],
  .lst [],
  .lst [.int 1],
  .gen .rd [.non, .int 1],
  .lst [],
  .lst [.int 1],
  .dic false [(.inl 3, .int 1)],
  .lst [],
  .lst [.int 1],
  .dic false [(.inr "line", .int 1)],
  .lst [],
  .lst [.int 1],
  .nd false [(.tup [], .int 1)],
  .lst [],
  .lst [.int 1],
  .nd false [(.tup [.tup [.str "alone", .str "none", .str "none", .str "none", .str "none"], .int 0, .str "rising", .bl true], .int 1)],
  .lst [],
  .lst [.int 1],
  .nd false [(.tup [.tup [.str "alone", .str "none", .str "none", .str "none", .non], .int 0, .str "alone", .bl false], .int 1)],
  .lst [],
  .lst [.int 1],
  .nd false [(.tup [.tup [.str "alone", .str "none", .str "none", .str "none", .str "none"], .int 0, .str "alone", .non], .int 1)],
  .lst [],
  .lst [.int 1],
  .lst [.non, .int 0, .bl true, .str "", .str "net", .ref 1, .tup [], .ref 2, .tup [.ref 3, .ref 4], .tup [.ref 5, .ref 6, .ref 7, .ref 8], .ref 12, .tup [.ref 13, .ref 14, .ref 15], .tup [.ref 17, .tup [], .ref 18], .tup [.ref 19, .ref 20, .tup []], .tup [.ref 21, .ref 22, .ref 23], .tup [.ref 24, .ref 25, .ref 26], .tup [.ref 27, .ref 28, .ref 29], .tup [.ref 32, .ref 33, .ref 34], .tup [.ref 37, .ref 38, .ref 39], .tup [.ref 40, .ref 41, .ref 42], .tup [.ref 43, .ref 44, .ref 45], .tup [.ref 46, .ref 47, .ref 48], .tup [.ref 49, .ref 50, .ref 51], .tup [.ref 52, .ref 53, .ref 54], .tup [.ref 55, .ref 56, .ref 57], .tup [.ref 60, .ref 61, .ref 62], .tup [.ref 63, .ref 64, .ref 65], .tup [.ref 66, .ref 67, .ref 68], .tup [.ref 69, .ref 70, .ref 71], .tup [.ref 72, .ref 73, .ref 74], .tup [.ref 75, .ref 76, .ref 77], .tup [.ref 80, .ref 81, .ref 82], .tup [.ref 83, .ref 84, .ref 85], .tup [.ref 86, .ref 87, .ref 88], .tup [.ref 89, .ref 90, .ref 91], .tup [.ref 92, .ref 93, .ref 94], .tup [.ref 95, .ref 96, .ref 97], .tup [.ref 108, .ref 109, .ref 110], .tup [.ref 111, .ref 112, .ref 113], .tup [.ref 114, .ref 115, .ref 116], .tup [.ref 117, .ref 118, .ref 119], .tup [.ref 120, .ref 121, .ref 122], .tup [.ref 123, .ref 124, .ref 125], .tup [.ref 126, .ref 127, .ref 128], .tup [.ref 129, .ref 130, .ref 131], .tup [.ref 132, .ref 133, .ref 134], .tup [.ref 135, .ref 136, .ref 137], .tup [.ref 138, .ref 139, .ref 140], .tup [.ref 141, .ref 142, .ref 143], .tup [.ref 144, .ref 145, .ref 146], .tup [.ref 147, .ref 148, .ref 149], .tup [.ref 150, .ref 151, .ref 152], .tup [.ref 153, .ref 154, .ref 155], .tup [.ref 156, .ref 157, .ref 158]]]
def oddS0 : MS := (mSet 1 (mTup (mCons (mTup (mCons (mC (.str "alone")) (mCons (mC (.str "none")) (mCons (mC (.str "none")) (mCons (mC (.str "none")) (mCons (mC (.str "none")) mNil)))))) (mCons (mC (.int 0)) (mCons (mC (.str "alone")) (mCons (mC (.bl true)) mNil))))))
def oddS1 : MS := (mSet 2 (mLst (mCons (mC .non) (mCons (mC (.int 0)) (mCons (mC (.bl true)) (mCons (mC (.str "")) (mCons (mC (.str "net")) (mCons (mLst mNil) (mCons (mTup mNil) (mCons mDic0 (mCons (mTup (mCons mDic0 (mCons (mLst mNil) mNil))) (mCons (mTup (mCons mDic0 (mCons (mLst mNil) (mCons (mLst mNil) (mCons (mLst mNil) mNil))))) (mCons (mLst (mCons mDic0 (mCons (mLst mNil) (mCons (mLst mNil) mNil)))) (mCons (mTup (mCons (mLst mNil) (mCons (mLst mNil) (mCons (mLst mNil) mNil)))) mNil))))))))))))))
def oddS2 : MS := (mSet 2 (mOp2 oAdd (mVar 2) (mLst (mCons (mTup (mCons mDic0 (mCons (mTup mNil) (mCons (mLst mNil) mNil)))) (mCons (mTup (mCons mDic0 (mCons (mLst mNil) (mCons (mTup mNil) mNil)))) (mCons (mTup (mCons mDic0 (mCons mDic0 (mCons (mLst mNil) mNil)))) (mCons (mTup (mCons (mDicA (mVar 1) (mC (.bl true))) (mCons (mLst mNil) (mCons (mLst mNil) mNil)))) (mCons (mTup (mCons (mDicA (mVar 1) (mC (.str "1"))) (mCons (mLst mNil) (mCons (mLst mNil) mNil)))) mNil))))))))
def oddS3 : MS := (mDrop (mBmL oAppend (mVar 2) (mCons (mTup (mCons (mDicA (mVar 1) (mC .non)) (mCons (mLst mNil) (mCons (mLst mNil) mNil)))) mNil)))
def oddS4 : MS := (mSet 3 (mLst (mCons (mTup (mCons (mC (.int 1)) (mCons (mC (.str "none")) mNil))) (mCons (mTup (mCons (mC (.int 1)) (mCons (mC (.str "none")) (mCons (mC (.int 2)) (mCons (mC (.int 3)) mNil))))) (mCons (mLst (mCons (mC (.int 1)) (mCons (mC (.str "none")) (mCons (mC (.int 2)) mNil)))) (mCons (mTup (mCons (mC (.bl true)) (mCons (mC (.str "none")) (mCons (mC (.int 2)) mNil)))) (mCons (mTup (mCons (mC (.int 1)) (mCons (mC (.str "none")) (mCons (mC (.str "2")) mNil)))) (mCons (mC .non) (mCons (mTup (mCons (mC (.int 1)) (mCons (mC (.int 0)) (mCons (mC (.int 2)) mNil)))) mNil)))))))))
def oddS5 : MS := (mFor (mIter (mVar 3)) (gNm 4) (mDrop (mBmL oAppend (mVar 2) (mCons (mTup (mCons (mDicA (mVar 1) (mC (.int 1))) (mCons (mLst (mCons (mTup (mCons (mC (.int 1)) (mCons (mC (.str "none")) (mCons (mC (.int 1)) mNil)))) (mCons (mVar 4) mNil))) (mCons (mLst (mCons (mC (.int 1)) mNil)) mNil)))) mNil))))
def oddS6 : MS := (mFor (mIter (mLst (mCons (mTup (mCons (mC (.int 1)) (mCons (mC (.str "rising")) (mCons (mC (.int 2)) mNil)))) (mCons (mTup (mCons (mC (.int 1)) (mCons (mC .non) (mCons (mC (.int 2)) mNil)))) (mCons (mTup (mCons (mC (.int 1)) (mCons (mLst (mCons (mC (.str "none")) mNil)) (mCons (mC (.int 2)) mNil)))) (mCons (mTup (mCons (mC (.int 1)) (mCons (mTup (mCons (mC (.str "none")) mNil)) (mCons (mC (.int 2)) mNil)))) (mCons (mC (.str "1n2")) (mCons (mTup (mCons (mC .non) (mCons (mC (.str "none")) (mCons (mC (.int 2)) mNil)))) mNil)))))))) (gNm 4) (mDrop (mBmL oAppend (mVar 2) (mCons (mTup (mCons (mDicA (mVar 1) (mC (.int 1))) (mCons (mLst (mCons (mVar 4) mNil)) (mCons (mLst (mCons (mC (.int 1)) mNil)) mNil)))) mNil))))
def oddS7 : MS := (mFor (mIter (mLst (mCons (mC .non) (mCons (mC (.bl true)) (mCons (mC (.bl false)) (mCons (mC (.str "1")) (mCons (mTup (mCons (mC (.int 1)) mNil)) (mCons (mLst (mCons (mC (.int 1)) mNil)) mNil)))))))) (gNm 5) (mDrop (mBmL oAppend (mVar 2) (mCons (mTup (mCons (mDicA (mVar 1) (mC (.int 1))) (mCons (mLst mNil) (mCons (mLst (mCons (mC (.int 1)) (mCons (mVar 5) mNil))) mNil)))) mNil))))
def oddS8 : MS := (mSet 2 (mOp2 oAdd (mVar 2) (mComp [7] (mIter (mCall Gulaw_situations mNil)) (gNm 7) mYes (mTup (mCons (mDicA (mVar 7) (mC (.int 1))) (mCons (mLst mNil) (mCons (mLst (mCons (mC (.int 1)) mNil)) mNil)))))))
def oddEnd : MS := mSeq (mSet 6 (mCall Gulaw_take (mCons (mVar 0) (mCons (mFn cLen (mCons (mVar 2) mNil)) mNil)))) (mRet (mOp2 oAdd (mSl (mVar 2) (mPart (mVar 6)) mNoPart) (mSl (mVar 2) mNoPart (mPart (mVar 6)))))
theorem odd_eq : m_law_odd_nets = mSeq oddS0 (mSeq oddS1 (mSeq oddS2 (mSeq oddS3 (mSeq oddS4 (mSeq oddS5 (mSeq oddS6 (mSeq oddS7 (mSeq oddS8 (oddEnd))))))))) := rfl
theorem odd_s0 (bo : O) : oddS0 oddE0 (bo :: oddL0) = .nx oddE1 (bo :: oddL1) := by kernel_rfl
theorem odd_s1 (bo : O) : oddS1 oddE1 (bo :: oddL1) = .nx oddE2 (bo :: oddL2) := by kernel_rfl
theorem odd_s2 (bo : O) : oddS2 oddE2 (bo :: oddL2) = .nx oddE3 (bo :: oddL3) := by kernel_rfl
theorem odd_s3 (bo : O) : oddS3 oddE3 (bo :: oddL3) = .nx oddE4 (bo :: oddL4) := by kernel_rfl
theorem odd_s4 (bo : O) : oddS4 oddE4 (bo :: oddL4) = .nx oddE5 (bo :: oddL5) := by kernel_rfl
theorem odd_s5 (bo : O) : oddS5 oddE5 (bo :: oddL5) = .nx oddE6 (bo :: oddL6) := by kernel_rfl
theorem odd_s6 (bo : O) : oddS6 oddE6 (bo :: oddL6) = .nx oddE7 (bo :: oddL7) := by kernel_rfl
theorem odd_s7 (bo : O) : oddS7 oddE7 (bo :: oddL7) = .nx oddE8 (bo :: oddL8) := by kernel_rfl
theorem odd_s8 (bo : O) : oddS8 oddE8 (bo :: oddL8) = .nx oddE9 (bo :: oddL9) := by kernel_rfl
def oddC : List O := .lst [] :: oddL9
def oddT : List D := [.non, .int 0, .bl true, .str "", .str "net", .ref 1, .tup [], .ref 2, .tup [.ref 3, .ref 4], .tup [.ref 5, .ref 6, .ref 7, .ref 8], .ref 12, .tup [.ref 13, .ref 14, .ref 15], .tup [.ref 17, .tup [], .ref 18], .tup [.ref 19, .ref 20, .tup []], .tup [.ref 21, .ref 22, .ref 23], .tup [.ref 24, .ref 25, .ref 26], .tup [.ref 27, .ref 28, .ref 29], .tup [.ref 32, .ref 33, .ref 34], .tup [.ref 37, .ref 38, .ref 39], .tup [.ref 40, .ref 41, .ref 42], .tup [.ref 43, .ref 44, .ref 45], .tup [.ref 46, .ref 47, .ref 48], .tup [.ref 49, .ref 50, .ref 51], .tup [.ref 52, .ref 53, .ref 54], .tup [.ref 55, .ref 56, .ref 57], .tup [.ref 60, .ref 61, .ref 62], .tup [.ref 63, .ref 64, .ref 65], .tup [.ref 66, .ref 67, .ref 68], .tup [.ref 69, .ref 70, .ref 71], .tup [.ref 72, .ref 73, .ref 74], .tup [.ref 75, .ref 76, .ref 77], .tup [.ref 80, .ref 81, .ref 82], .tup [.ref 83, .ref 84, .ref 85], .tup [.ref 86, .ref 87, .ref 88], .tup [.ref 89, .ref 90, .ref 91], .tup [.ref 92, .ref 93, .ref 94], .tup [.ref 95, .ref 96, .ref 97], .tup [.ref 108, .ref 109, .ref 110], .tup [.ref 111, .ref 112, .ref 113], .tup [.ref 114, .ref 115, .ref 116], .tup [.ref 117, .ref 118, .ref 119], .tup [.ref 120, .ref 121, .ref 122], .tup [.ref 123, .ref 124, .ref 125], .tup [.ref 126, .ref 127, .ref 128], .tup [.ref 129, .ref 130, .ref 131], .tup [.ref 132, .ref 133, .ref 134], .tup [.ref 135, .ref 136, .ref 137], .tup [.ref 138, .ref 139, .ref 140], .tup [.ref 141, .ref 142, .ref 143], .tup [.ref 144, .ref 145, .ref 146], .tup [.ref 147, .ref 148, .ref 149], .tup [.ref 150, .ref 151, .ref 152], .tup [.ref 153, .ref 154, .ref 155], .tup [.ref 156, .ref 157, .ref 158]]
theorem odd_pre (bo : O) : m_law_odd_nets oddE0 [bo] = oddEnd oddE9 (bo :: oddL9) := by
  rw [odd_eq]
  refine (seq_nx (odd_s0 bo)).trans ?_
  refine (seq_nx (odd_s1 bo)).trans ?_
  refine (seq_nx (odd_s2 bo)).trans ?_
  refine (seq_nx (odd_s3 bo)).trans ?_
  refine (seq_nx (odd_s4 bo)).trans ?_
  refine (seq_nx (odd_s5 bo)).trans ?_
  refine (seq_nx (odd_s6 bo)).trans ?_
  refine (seq_nx (odd_s7 bo)).trans ?_
  refine (seq_nx (odd_s8 bo)).trans ?_
  rfl
def nsOf (d : D) : List Nat := reach oddC lfuel (refsDs [d]) []
def notRol : D → Bool
  | .rol _ => false
  | _ => true
def isF : Option (D × List O) → Option (List O)
  | some (.bl false, os) => some os
  | _ => none
def osOf (d : D) : List O := (isF (runC F_is_net [d] oddC (nsOf d))).getD []
def C2 (d : D) : List O := setAll (nsOf d) (osOf d) oddC
def thOk (d : D) : Bool :=
  closedB oddC (nsOf d) [d] && (decide (nsOf d).Nodup && ((nsOf d).all (fun n => decide (0 < n ∧ n < 159)) && ((nsOf d).all (fun n => keyB (oddC.getD n (.lst []))) && (notRol d && ((isF (runC F_is_net [d] oddC (nsOf d))).isSome && (decide ((osOf d).length = (nsOf d).length) &&
  (closedB (C2 d) (nsOf d) [d] && ((nsOf d).all (fun n => keyB ((C2 d).getD n (.lst []))) && (decide (reach (C2 d) lfuel (refsDs [d]) [] = nsOf d) && ((isF (runC F_is_net [d] (C2 d) (nsOf d))).isSome && (reprC d oddC).isSome))))))))))
theorem th_ok : oddT.all thOk = true := by decide +kernel
theorem rep_same : oddT.map (fun d => reprC d (C2 d)) = oddT.map fun d => reprC d oddC := by kernel_rfl
def disjB : List D → Bool
  | [] => true
  | d :: ds => (ds.all fun e => (nsOf d).all fun n => !(nsOf e).contains n) && disjB ds
theorem disj_ok : disjB oddT = true := by decide +kernel
theorem odd_lens : oddC.length = 160 ∧ oddT.length = 54 ∧ oddC[159]? = some (.lst oddT) := by decide +kernel
def At (φ : Nat → Nat) (C L : List O) (ns : List Nat) : Prop := ∀ n ∈ ns, ∃ o, C[n]? = some o ∧ L[φ n]? = some (mOb φ o)
theorem At.app {φ : Nat → Nat} {C L X : List O} {ns : List Nat} (h : At φ C L ns) : At φ C (L ++ X) ns := fun n hn => by
  obtain ⟨o, h1, h2⟩ := h n hn
  exact ⟨o, h1, ap h2⟩
theorem At.cl {φ : Nat → Nat} {C L : List O} {ns : List Nat} {ds : List D} (h : At φ C L ns) (c : closedB C ns ds = true) (k : ns.all (fun n => keyB (C.getD n (.lst []))) = true) : ∀ n ∈ ns, ∃ o, C[n]? = some o ∧ L[φ n]? = some (mOb φ o) ∧ keyB o = true ∧ ∀ m ∈ refsO o, m ∈ ns := fun n hn => by
  obtain ⟨o, h1, h2⟩ := h n hn
  obtain ⟨_, c2⟩ := Bool.and_eq_true_iff.mp c
  have q := List.all_eq_true.mp c2 n hn
  have k1 := List.all_eq_true.mp k n hn
  rw [List.getD_eq_getElem?_getD, h1] at k1
  rw [h1] at q
  exact ⟨o, h1, h2, k1, fun m hm => List.contains_iff_mem.mp (List.all_eq_true.mp q m hm)⟩
theorem At.set {φ : Nat → Nat} (inj : ∀ a b, φ a = φ b → a = b) {C L : List O} {ns : List Nat} {os : List O} (h : At φ C L ns) (nd : ns.Nodup) (l : os.length = ns.length) : At φ (setAll ns os C) (setAll (ns.map φ) (os.map (mOb φ)) L) ns := fun n hn => by
  obtain ⟨j, hj⟩ := List.getElem?_of_mem hn
  obtain ⟨o, h1, h2⟩ := h n hn
  have lt := (List.getElem?_eq_some_iff.mp hj).1
  have nd2 : (ns.map φ).Nodup := by
    rw [List.nodup_iff_pairwise_ne, List.pairwise_map]
    exact List.Pairwise.imp (fun hne z => hne (inj _ _ z)) nd
  refine ⟨os[j]'(by omega), ?_, ?_⟩
  · rw [setAll_in ns os C j n nd hj (lt_of h1) (by omega), List.getElem?_eq_getElem]
  · rw [setAll_in (ns.map φ) (os.map (mOb φ)) L j (φ n) nd2 (by rw [List.getElem?_map, hj]; rfl) (lt_of h2) (by rw [List.length_map]; omega), List.getElem?_map, List.getElem?_eq_getElem (by omega)]
    rfl
structure Th (d : D) : Prop where
  cl : closedB oddC (nsOf d) [d] = true
  nd : (nsOf d).Nodup
  rng : ∀ n ∈ nsOf d, 0 < n ∧ n < 159
  key : (nsOf d).all (fun n => keyB (oddC.getD n (.lst []))) = true
  nr : ∀ xs, d ≠ .rol xs
  run : runC F_is_net [d] oddC (nsOf d) = some (.bl false, osOf d)
  len : (osOf d).length = (nsOf d).length
  cl2 : closedB (C2 d) (nsOf d) [d] = true
  key2 : (nsOf d).all (fun n => keyB ((C2 d).getD n (.lst []))) = true
  rc2 : reach (C2 d) lfuel (refsDs [d]) [] = nsOf d
  run2 : ∃ os, runC F_is_net [d] (C2 d) (nsOf d) = some (.bl false, os)
  rep : ∃ t, reprC d oddC = some t ∧ reprC d (C2 d) = some t
theorem isF_some {r : Option (D × List O)} (h : (isF r).isSome = true) : ∃ os, r = some (.bl false, os) ∧ isF r = some os := by
  unfold isF at h ⊢
  split at h
  · exact ⟨_, rfl, rfl⟩
  · cases h
theorem th_of {d : D} (hd : d ∈ oddT) : Th d := by
  have h := List.all_eq_true.mp th_ok d hd
  have hr := List.map_inj_left.mp rep_same d hd
  unfold thOk at h
  obtain ⟨h1, h⟩ := Bool.and_eq_true_iff.mp h
  obtain ⟨h2, h⟩ := Bool.and_eq_true_iff.mp h
  obtain ⟨h3, h⟩ := Bool.and_eq_true_iff.mp h
  obtain ⟨h4, h⟩ := Bool.and_eq_true_iff.mp h
  obtain ⟨h5, h⟩ := Bool.and_eq_true_iff.mp h
  obtain ⟨h6, h⟩ := Bool.and_eq_true_iff.mp h
  obtain ⟨h7, h⟩ := Bool.and_eq_true_iff.mp h
  obtain ⟨h8, h⟩ := Bool.and_eq_true_iff.mp h
  obtain ⟨h9, h⟩ := Bool.and_eq_true_iff.mp h
  obtain ⟨h10, h⟩ := Bool.and_eq_true_iff.mp h
  obtain ⟨h11, h12⟩ := Bool.and_eq_true_iff.mp h
  obtain ⟨os, e1, e2⟩ := isF_some h6
  obtain ⟨os2, e3, _⟩ := isF_some h11
  obtain ⟨t, ht⟩ := Option.isSome_iff_exists.mp h12
  refine ⟨h1, of_decide_eq_true h2, fun n hn => of_decide_eq_true (List.all_eq_true.mp h3 n hn), h4, fun xs e => ?_, ?_, of_decide_eq_true h7, h8, h9, of_decide_eq_true h10, ⟨os2, e3⟩, t, ht, hr.trans ht⟩
  · subst e
    cases h5
  · unfold osOf
    rw [e2]
    exact e1
theorem wp_of {α : Type} {r : Rs α} {M Q : α → List O → Prop} {E : XQ} (h : Wp r M E) (k : ∀ a L, M a L → Q a L) : Wp r Q E := h.imp k fun _ _ _ q => q
section
variable {φ : Nat → Nat} {L : List O} {d w : D}
theorem ref_in (t : Th d) : ∀ m ∈ refsD d, m ∈ nsOf d := fun m hm => by
  obtain ⟨c1, _⟩ := Bool.and_eq_true_iff.mp t.cl
  exact List.contains_iff_mem.mp (List.all_eq_true.mp c1 m (by show m ∈ refsD d ++ []; rw [List.append_nil]; exact hm))
theorem holds_no {C : List O} (inj : ∀ a b, φ a = φ b → a = b) (hrc : reach C lfuel (refsDs [d]) [] = nsOf d) {os : List O} (hr : runC F_is_net [d] C (nsOf d) = some (.bl false, os)) (a : At φ C L (nsOf d)) : Wp (G_holds [w, mD φ d] L) (fun r L' => r = .bl false ∧ L' = setAll ((nsOf d).map φ) (os.map (mOb φ)) L) noX := by
  show Wp (F_holds [w, mD φ d] L) _ _
  have e : G_is_net [mD φ d] L = .ok (.bl false) (setAll ((nsOf d).map φ) (os.map (mOb φ)) L) := runC_ok inj hrc hr a
  refine wp_runF rfl ?_
  show WpS (m_holds [some w, some (mD φ d), none, none, none, none] L) _ _ _ _ _
  unfold m_holds
  refine wp_seq (wp_if (wp_notB (wp_tru (wp_call (wp_cons (wp_var rfl (wp_nil (wp_eq e (qtr (b := false) rfl (qif_t rfl (wp_ret (wp_C ⟨rfl, rfl⟩))))))))))))
abbrev E7l (a0 a1 a2 a3 a4 a5 a6 : Option D) : En := [a0, a1, a2, a3, a4, a5, a6]
def lwBody : MS := mSeq (mSet 5 (mFn cReprU (mCons (mVar 4) mNil)))
  (mIf (mOrB (mTst (mOp2 oNotB (mCall G_holds (mCons (mVar 3) (mCons (mVar 4) mNil))) (mC (.bl false)))) (mOrB (mTst (mOp2 (oNeTx oNe) (mFn cReprU (mCons (mVar 4) mNil)) (mVar 5))) (mTst (mOp2 oNotB (mCall G_holds (mCons (mLst mNil) (mCons (mVar 4) mNil))) (mC (.bl false)))))) (mRet (mC (.bl false))) mNext)
/-- one thing asked twice -/
theorem body_wp {a0 a1 a2 a5 a6 : Option D} (inj : ∀ a b, φ a = φ b → a = b) (t : Th d) (a : At φ oddC L (nsOf d)) : WpS (lwBody (E7l a0 a1 a2 (some w) (some (mD φ d)) a5 a6) L) (fun ε L' => ∃ x5 os1 os2 X, ε = E7l a0 a1 a2 (some w) (some (mD φ d)) x5 a6 ∧ L' = setAll ((nsOf d).map φ) os2 (setAll ((nsOf d).map φ) os1 L ++ X)) noR noS noS noX := by
  obtain ⟨tx, r1, r2⟩ := t.rep
  obtain ⟨os2, run2⟩ := t.run2
  unfold lwBody
  have e1 := reprU_map (a.cl t.cl t.key) (ref_in t) t.nr r1
  refine wp_seq (wp_set (wp_fn (wp_cons (wp_var rfl (wp_nil (wpo e1 ?_))))))
  refine wp_if (wp_orB (wp_tst (wp_op2 (wp_call (wp_cons (wp_var rfl (wp_cons (wp_var rfl (wp_nil (wp_of (holds_no inj rfl t.run a) ?_))))))))))
  rintro _ _ ⟨rfl, rfl⟩
  have a2 : At φ (C2 d) (setAll ((nsOf d).map φ) ((osOf d).map (mOb φ)) L) (nsOf d) := a.set inj t.nd t.len
  have e2 := reprU_map (a2.cl t.cl2 t.key2) (ref_in t) t.nr r2
  generalize hL1 : setAll ((nsOf d).map φ) ((osOf d).map (mOb φ)) L = L1 at a2 e2 ⊢
  refine wp_C (wpo (show oNotB (.bl false) (.bl false) L1 = some (.bl false, L1) from rfl) (qbl (qif_f rfl ?_)))
  refine wp_orB (wp_tst (wp_op2 (wp_fn (wp_cons (wp_var rfl (wp_nil (wpo e2 (wp_var rfl (wpo (show oNeTx oNe (.str tx) (.str tx) L1 = some (.bl (!decide (tx = tx)), L1) from rfl) (qbl (qif_f (by rw [decide_eq_true rfl]; rfl) ?_)))))))))))
  refine wp_tst (wp_op2 (wp_call (wp_cons (wp_lst (wp_nil ⟨Nat.zero_le _, wp_cons (wp_var rfl (wp_nil (wp_of (holds_no inj t.rc2 run2 a2.app) ?_)))⟩)))))
  rintro _ _ ⟨rfl, rfl⟩
  refine wp_C (wpo (show oNotB (.bl false) (.bl false) _ = some (.bl false, _) from rfl) (qbl (qif_f rfl (wp_next ?_))))
  exact ⟨_, (osOf d).map (mOb φ), os2.map (mOb φ), [.lst []], rfl, by rw [hL1]⟩
end
theorem at_end {L : List O} {o : O} : (L ++ [o])[L.length]? = some o := by simp
theorem cut_take {xs : List D} {i : Nat} : cutD xs none (some (i : Int)) = xs.take i := by
  unfold cutD
  have h1 : HT.sIx xs.length 0 none = 0 := rfl
  have h2 : HT.sIx xs.length xs.length (some (i : Int)) = min i xs.length := HT.sIx_nat ..
  rw [h1, h2]
  simp [← List.take_eq_take_min]
theorem cut_from {xs : List D} {i : Nat} : cutD xs (some (i : Int)) none = xs.drop i := by
  unfold cutD
  have h1 : HT.sIx xs.length 0 (some (i : Int)) = min i xs.length := HT.sIx_nat ..
  have h2 : HT.sIx xs.length xs.length none = xs.length := rfl
  rw [h1, h2]
  rcases Nat.le_total i xs.length with h | h
  · rw [Nat.min_eq_left h, List.take_of_length_le (by rw [List.length_drop]; omega)]
  · rw [Nat.min_eq_right h, List.drop_eq_nil_of_le h]
    simp
theorem sl_take {L : List O} {n k : Nat} {xs : List D} (h : L[n]? = some (.lst xs)) : oSl (.ref n) none (some (k : Int)) L = some (.ref L.length, L ++ [.lst (xs.take k)]) := by
  unfold oSl
  simp only [h]
  rw [cut_take]
theorem sl_drop {L : List O} {n k : Nat} {xs : List D} (h : L[n]? = some (.lst xs)) : oSl (.ref n) (some (k : Int)) none L = some (.ref L.length, L ++ [.lst (xs.drop k)]) := by
  unfold oSl
  simp only [h]
  rw [cut_from]
theorem add_lst {L : List O} {n m : Nat} {xs ys : List D} (h : L[n]? = some (.lst xs)) (g : L[m]? = some (.lst ys)) (l : xs.length + ys.length ≤ sizeLine) : oAdd (.ref n) (.ref m) L = some (.ref L.length, L ++ [.lst (xs ++ ys)]) := by
  unfold oAdd
  simp only [h, g]
  rw [if_pos l]
def rot (n : Nat) : List D := oddT.drop n ++ oddT.take n
def oddX (n : Nat) : List O := oddL9 ++ [.lst (oddT.drop n)] ++ [.lst (oddT.take n)] ++ [.lst (rot n)]
theorem len9 : oddL9.length = 159 := by
  have := odd_lens.1
  show oddL9.length = 159
  unfold oddC at this
  rw [List.length_cons] at this
  omega
theorem odd_end {k : Int} {bo : O} {Ls : List O} {Ts : List D} (h : BagI (k + 1) bo) (hk : 0 ≤ k) (hl : ∀ b : O, (b :: Ls).length = 160) (lt : Ts.length = 54) (hat : ∀ b : O, (b :: Ls)[159]? = some (.lst Ts)) : ∃ (n : Nat) (bo' : O), (∀ R S E, WpS (oddEnd oddE9 (bo :: Ls)) R (fun d L' => d = .ref (161 + 1) ∧ L' = bo' :: (Ls ++ [.lst (Ts.drop n)] ++ [.lst (Ts.take n)] ++ [.lst (Ts.drop n ++ Ts.take n)])) S E noX) ∧ BagI k bo' := by
  obtain ⟨r, bo', e, r0, r1, b⟩ := Gtake (L := bo :: Ls) (n := 0) (m := 54) rfl h hk (by decide) (by decide)
  obtain ⟨n, rfl⟩ : ∃ n : Nat, r = (n : Int) := ⟨r.toNat, by omega⟩
  refine ⟨n, bo', fun R S E => ?_, b⟩
  have h1 := hat bo'
  have l1 := hl bo'
  have h0 := hat bo
  unfold oddEnd
  refine wp_seq (wp_set (wp_call (wp_cons (wp_var rfl (wp_cons (wp_fn (wp_cons (wp_var rfl (wp_nil (wpo_len h0 ?_))))))))))
  rw [lt]
  refine wp_nil (wp_eq e ?_)
  rw [show (bo :: Ls).set 0 bo' = bo' :: Ls from rfl]
  generalize hL : bo' :: Ls = L1 at h1 l1 ⊢
  refine wp_ret (wp_op2 (wp_sl (wp_var rfl (wp_part (wp_var rfl ⟨(n : Int), rfl, wp_nopart (wpo (sl_drop h1) ?_)⟩)))))
  have h2 : (L1 ++ [O.lst (Ts.drop n)])[L1.length]? = some (.lst (Ts.drop n)) := at_end
  refine wp_sl (wp_var rfl (wp_nopart (wp_part (wp_var rfl ⟨(n : Int), rfl, wpo (sl_take (ap h1)) ?_⟩))))
  refine wpo (add_lst (ap h2) at_end (by rw [List.length_drop, List.length_take, lt]; unfold sizeLine; omega)) ⟨?_, ?_⟩
  · rw [List.length_append, List.length_append, l1]
    rfl
  · rw [← hL]
    rfl
theorem len9c (b : O) : (b :: oddL9).length = 160 := by rw [List.length_cons, len9]
theorem at9 (b : O) : (b :: oddL9)[159]? = some (.lst oddT) := by
  have := odd_lens.2.2
  unfold oddC at this
  rw [show (159 : Nat) = 158 + 1 from rfl, List.getElem?_cons_succ] at this ⊢
  exact this
theorem run_cut {m e : MS} {E0 : En} {L L9 : List O} {ds : List D} {Q : D → List O → Prop} (hl : ds.length = 1) (h : m (ds.map some ++ List.replicate (8 - 1) none) L = e E0 L9) (w : ∀ R S T, WpS (e E0 L9) R Q S T noX) : ∃ d L', runF 1 8 m ds L = .ok d L' ∧ Q d L' := wp_ok (wp_runF hl (by rw [h]; exact w _ _ _))
theorem odd_run {k : Int} {bo : O} (h : BagI (k + 1) bo) (hk : 0 ≤ k) : ∃ (n : Nat) (bo' : O), Fulaw_odd_nets [.ref 0] [bo] = .ok (.ref (161 + 1)) (bo' :: oddX n) ∧ BagI k bo' := by
  obtain ⟨n, bo', w, b⟩ := odd_end h hk len9c odd_lens.2.1 at9
  obtain ⟨d, L', e2, e3, e4⟩ := run_cut (m := m_law_odd_nets) (e := oddEnd) (ds := [D.ref 0]) (L := [bo]) rfl (odd_pre bo) w
  refine ⟨n, bo', ?_, b⟩
  rw [e3, e4] at e2
  exact e2
theorem disj_pw : ∀ l : List D, disjB l = true → l.Pairwise fun a b => ∀ n ∈ nsOf a, n ∉ nsOf b
  | [], _ => .nil
  | d :: ds, h => by
    unfold disjB at h
    obtain ⟨h1, h2⟩ := Bool.and_eq_true_iff.mp h
    refine .cons (fun e he n hn hm => ?_) (disj_pw ds h2)
    have := List.all_eq_true.mp (List.all_eq_true.mp h1 e he) n hn
    rw [List.contains_iff_mem.mpr hm] at this
    cases this
theorem rot_pw (n : Nat) : (rot n).Pairwise fun a b => ∀ m ∈ nsOf a, m ∉ nsOf b := by
  have p : (rot n).Perm oddT := by
    unfold rot
    have := List.perm_append_comm (l₁ := oddT.drop n) (l₂ := oddT.take n)
    rwa [List.take_append_drop] at this
  exact (p.pairwise_iff (fun {a b} h m hm hn => h m hn hm)).mpr (disj_pw oddT disj_ok)
theorem rot_mem {n : Nat} {d : D} (h : d ∈ rot n) : d ∈ oddT := by
  rcases List.mem_append.mp h with h | h
  · exact List.mem_of_mem_drop h
  · exact List.mem_of_mem_take h
section
variable {φ : Nat → Nat} {L : List O} {w : D} {a0 a1 a2 a4 a5 a6 : Option D}
theorem loop_wp (inj : ∀ a b, φ a = φ b → a = b) (n : Nat) (at0 : ∀ d ∈ rot n, At φ oddC L (nsOf d)) (hm : L[φ 162]? = some (.lst ((rot n).map (mD φ)))) : WpS (loopF ⟨(rot n).map (mD φ), some (φ 162, .lst ((rot n).map (mD φ)))⟩ (gNm 4) lwBody ((rot n).map (mD φ)) (E7l a0 a1 a2 (some w) a4 a5 a6) L) (fun ε L' => ∃ x4 x5, ε = E7l a0 a1 a2 (some w) x4 x5 a6) noR noS noS noX := by
  refine wp_loop0 (src := ⟨(rot n).map (mD φ), some (φ 162, .lst ((rot n).map (mD φ)))⟩) (fun j ε L' => (∃ x4 x5, ε = E7l a0 a1 a2 (some w) x4 x5 a6) ∧ (∀ d ∈ (rot n).drop j, At φ oddC L' (nsOf d)) ∧ L'[φ 162]? = some (.lst ((rot n).map (mD φ)))) (fun j ε L' ⟨_, _, h⟩ => decide_eq_true h) ⟨⟨_, _, rfl⟩, at0, hm⟩ ?_ ?_
  · rintro j d ε L' hd ⟨⟨x4, x5, rfl⟩, at1, hm1⟩
    rw [List.getElem?_map] at hd
    obtain ⟨d', hd', rfl⟩ := Option.map_eq_some_iff.mp hd
    obtain ⟨hj, ej⟩ := List.getElem?_eq_some_iff.mp hd' 
    have dc : (rot n).drop j = d' :: (rot n).drop (j + 1) := by rw [← ej, List.drop_eq_getElem_cons hj]
    have t := th_of (rot_mem (List.mem_of_getElem? hd'))
    have a := at1 d' (by rw [dc]; exact List.mem_cons_self)
    refine ⟨E7l a0 a1 a2 (some w) (some (mD φ d')) x5 a6, rfl, ?_⟩
    refine (body_wp inj t a).imp ?_ (fun _ _ q => q.elim) (fun _ _ q => q.elim) (fun _ _ q => q.elim) (fun _ _ _ q => q)
    rintro _ L2 ⟨y5, os1, os2, X, rfl, rfl⟩
    have pw : ((rot n).drop j).Pairwise fun a b => ∀ m ∈ nsOf a, m ∉ nsOf b := (rot_pw n).sublist (List.drop_sublist j _)
    rw [dc] at pw
    have keep : ∀ {C : List O} {ns : List Nat} {L : List O} (os : List O), (∀ m ∈ ns, m ∉ nsOf d') → At φ C L ns → At φ C (setAll ((nsOf d').map φ) os L) ns := fun {C ns L} os dj q m hmm => by
      obtain ⟨o, h1, h2⟩ := q m hmm
      refine ⟨o, h1, ?_⟩
      rw [setAll_out]
      · exact h2
      · intro z
        obtain ⟨m', hm', e⟩ := List.mem_map.mp z
        rw [inj _ _ e] at hm'
        exact dj m hmm hm'
    have far : φ 162 ∉ (nsOf d').map φ := fun z => by
      obtain ⟨m', hm', e⟩ := List.mem_map.mp z
      have := (t.rng m' hm').2
      rw [inj _ _ e] at this
      omega
    refine ⟨⟨_, _, rfl⟩, fun e he => ?_, ?_⟩
    · have dj : ∀ m ∈ nsOf e, m ∉ nsOf d' := fun m hmm hmd => (List.pairwise_cons.mp pw).1 e he m hmd hmm
      exact keep _ dj ((keep _ dj (at1 e (by rw [dc]; exact List.mem_cons_of_mem _ he))).app)
    · rw [setAll_out _ _ _ _ far]
      refine ap ?_
      rw [setAll_out _ _ _ _ far]
      exact hm1
  · rintro ε L' ⟨h, _⟩
    exact h
theorem odds_wp {nb : Nat} {k : Int} {bo : O} (hb : L[nb]? = some bo) (b : BagI (k + 1) bo) (hk : 0 ≤ k) : WpS ((mFor (mIter (mCall Gulaw_odd_nets (mCons (mVar 2) mNil))) (gNm 4) lwBody) (E7l a0 a1 (some (.ref nb)) (some w) a4 a5 a6) L) (fun ε L' => ∃ x4 x5, ε = E7l a0 a1 (some (.ref nb)) (some w) x4 x5 a6) noR noS noS noX := by
  obtain ⟨n, bo', e, b'⟩ := odd_run b hk
  have lt := lt_of hb
  have e2 := lrun_blk hb b.pure e b'.pure
  have l9 := len9
  have inj := phi_inj lt
  have px : ∀ j : Nat, (L.set nb bo' ++ (oddX n).map (mOb (phi nb L.length)))[L.length + j]? = ((oddX n)[j]?).map (mOb (phi nb L.length)) := fun j => by
    rw [List.getElem?_append_right (by rw [List.length_set]; omega), List.length_set, Nat.add_sub_cancel_left, List.getElem?_map]
  have h162 : (L.set nb bo' ++ (oddX n).map (mOb (phi nb L.length)))[phi nb L.length 162]? = some (.lst ((rot n).map (mD (phi nb L.length)))) := by
    have : phi nb L.length 162 = L.length + 161 := rfl
    rw [this, px]
    have : (oddX n)[161]? = some (.lst (rot n)) := by
      unfold oddX
      rw [List.getElem?_append_right (by simp [l9])]
      simp [l9]
    rw [this]
    show some (O.lst (mDs _ (rot n))) = _
    rw [mDs_map]
  refine wp_for (wp_iterL (wp_call (wp_cons (wp_var rfl (wp_nil (wp_eq e2 ⟨_, _, rfl, h162, ?_⟩))))))
  refine loop_wp inj n (fun d hd m hm => ?_) h162
  have t := th_of (rot_mem hd)
  obtain ⟨m0, m1⟩ := t.rng m hm
  obtain ⟨j, rfl⟩ : ∃ j, m = j + 1 := ⟨m - 1, by omega⟩
  have lj : j < oddL9.length := by omega
  refine ⟨oddL9[j], ?_, ?_⟩
  · show (oddL9)[j]? = _
    exact List.getElem?_eq_getElem lj
  · have : phi nb L.length (j + 1) = L.length + j := rfl
    rw [this, px]
    have : (oddX n)[j]? = some oddL9[j] := by
      unfold oddX
      rw [List.append_assoc, List.append_assoc, List.getElem?_append_left lj, List.getElem?_eq_getElem lj]
    rw [this]
    rfl
end
def finC : List O := [.lst [], .dic false [], .lst [.tup [.int 1, .str "none", .int 2], .tup [.int 1, .str "none", .int 2]], .lst [.int 5, .int 5]]
def finD : D := .tup [.ref 1, .ref 2, .ref 3]
def isT : Option (D × List O) → List O
  | some (.bl true, os) => os
  | _ => []
def finO : List O := isT (runC F_is_net [finD] finC [1, 2, 3])
theorem fin_net : runC F_is_net [finD] finC [1, 2, 3] = some (.bl true, finO) ∧ reach finC lfuel (refsDs [finD]) [] = [1, 2, 3] ∧ finO = [.dic true [], .lst [.tup [.int 1, .str "none", .int 2], .tup [.int 1, .str "none", .int 2]], .lst [.int 5, .int 5]] := by decide +kernel
def iniC : List O := [.lst [], .dic true [], .lst [.tup [.int 1, .str "none", .int 2], .tup [.int 1, .str "none", .int 2]], .lst [.int 5, .int 5], .ins 0 []]
def iniR : Rs D := F_Readeru_initu (mDs (idx [4, 1, 2, 3]) [.ref 4, finD]) ([4, 1, 2, 3].map fun n => mOb (idx [4, 1, 2, 3]) (iniC.getD n (.lst [])))
def rsL : Rs D → List O
  | .ok _ L => L
  | _ => []
def isNon : Rs D → Bool
  | .ok .non _ => true
  | _ => false
def iniO : List O := (rsL iniR).take 4
def iniX : List O := (rsL iniR).drop 4
theorem ini_ok : isNon iniR = true ∧ iniO.length = 4 ∧ closedB iniC [4, 1, 2, 3] [.ref 4, finD] = true ∧ reach iniC lfuel (refsDs [.ref 4, finD]) [] = [4, 1, 2, 3] ∧ ((refsD .non ++ iniO.flatMap refsO).any fun j => decide (4 ≤ j)) = true ∧ iniO[1]? = some (.dic true []) := by decide +kernel
def placesOf : Option O → Option D
  | some (.ins 0 fs) => fs.lookup ("places" : Str)
  | _ => none
theorem ini_pl : placesOf iniO[0]? = some (.ref 1) := by decide +kernel
theorem ini_eq : iniR = .ok .non (iniO ++ iniX) := by
  have h := ini_ok.1
  unfold isNon at h
  split at h
  · rename_i L e
    unfold iniO iniX
    rw [e]
    show Rs.ok D.non L = .ok .non (L.take 4 ++ L.drop 4)
    rw [List.take_append_drop]
  · cases h
def stpR : Rs D := F_steps [.ref 0] [.lst []]
def stpN : Rs D → Nat
  | .ok (.ref n) _ => n
  | _ => 0
theorem stp_eq : stpR = .ok (.ref (stpN stpR)) (rsL stpR) := by kernel_rfl
theorem stp_ok : 0 < stpN stpR ∧ (rsL stpR)[0]? = some (.lst []) ∧ (rsL stpR)[stpN stpR]? = some (.lst []) ∧ 1 ≤ (rsL stpR).length := by decide +kernel
theorem wp_make {c : Nat} {F : FS} {args : MA} {ε : En} {L : List O} {E : XQ} {Q : D → List O → Prop} (h : Wp (args ε L) (fun ds L1 => Wp (F (.ref L1.length :: ds) (L1 ++ [.ins c []])) (fun d L' => d = .non ∧ Q (.ref L1.length) L') E) E) : Wp (mMake c F args ε L) Q E := wp_bind (h.imp (fun ds L1 h => wp_bind (h.imp (fun d L' ⟨e, q⟩ => by
  subst e
  exact q) fun _ _ _ q => q)) fun _ _ _ q => q)
theorem look_map {f : Nat → Nat} {k : Str} : ∀ fs : List (Str × D), (fs.map fun p => (p.1, mD f p.2)).lookup k = (fs.lookup k).map (mD f)
  | [] => rfl
  | (x, d) :: fs => by
    rw [List.map_cons, List.lookup_cons, List.lookup_cons]
    cases k == x
    · exact look_map fs
    · rfl
theorem all_nil {L : List O} {n : Nat} (h : L[n]? = some (.lst [])) : cAll [.ref n] L = some (.bl true, L) := by
  unfold cAll
  simp only [h]
  rfl
theorem comp_nil {L : List O} {n : Nat} {te : ME} {ε : En} {vs : List Nat} {mi : MI} {t : MG} (h : mi ε L = .ok ⟨[], some (n, .lst [])⟩ L) (hn : L[n]? = some (.lst [])) : mComp vs mi t mYes te ε L = .ok (.ref L.length) (L ++ [.lst []]) := by
  unfold mComp
  rw [h]
  have h2 : (Src.mk [] (some (n, O.lst []))).ok (L ++ [.lst []]) = true := decide_eq_true (ap hn)
  exact if_pos h2
theorem comp2_nil {L : List O} {n : Nat} {o : O} {te : ME} {ε : En} {vs vs1 : List Nat} {mi mi1 : MI} {t t1 : MG} {tt tt1 : MB} (h : mi ε L = .ok ⟨[], some (n, o)⟩ L) (hn : L[n]? = some o) : mComp2 vs vs1 mi t tt mi1 t1 tt1 te ε L = .ok (.ref L.length) (L ++ [.lst []]) := by
  unfold mComp2
  rw [h]
  have h2 : (Src.mk [] (some (n, o))).ok (L ++ [.lst []]) = true := decide_eq_true (ap hn)
  exact if_pos h2
def adj (N : Nat) (j : Nat) : Nat := N + j
theorem adj_inj {N : Nat} : ∀ a b, adj N a = adj N b → a = b := fun a b h => by unfold adj at h; omega
theorem fin_holds (L : List O) : Wp (G_holds [.ref (adj L.length 0), mD (adj L.length) finD] (L ++ finC)) (fun d _ => d = .bl true) noX := by
  have inj := adj_inj (N := L.length)
  have at0 : ∀ n o, finC[n]? = some o → (L ++ finC)[adj L.length n]? = some o := fun n o h => by
    unfold adj
    rw [List.getElem?_append_right (by omega), Nat.add_sub_cancel_left]
    exact h
  have a1 : At (adj L.length) finC (L ++ finC) [1, 2, 3] := fun n hn => by
    simp only [List.mem_cons, List.not_mem_nil, or_false] at hn
    rcases hn with rfl | rfl | rfl
    · exact ⟨_, rfl, at0 1 _ rfl⟩
    · exact ⟨_, rfl, at0 2 _ rfl⟩
    · exact ⟨_, rfl, at0 3 _ rfl⟩
  obtain ⟨f1, f2, f3⟩ := fin_net
  have e1 : G_is_net [mD (adj L.length) finD] (L ++ finC) = .ok (.bl true) (setAll ([1, 2, 3].map (adj L.length)) (finO.map (mOb (adj L.length))) (L ++ finC)) := runC_ok inj f2 f1 a1
  have a2 : At (adj L.length) (setAll [1, 2, 3] finO finC) (setAll ([1, 2, 3].map (adj L.length)) (finO.map (mOb (adj L.length))) (L ++ finC)) [1, 2, 3] := a1.set inj (by decide) (by rw [f3]; rfl)
  have l1 : (setAll ([1, 2, 3].map (adj L.length)) (finO.map (mOb (adj L.length))) (L ++ finC)).length = L.length + 4 := by rw [setAll_len, List.length_append]; rfl
  have z1 : (setAll ([1, 2, 3].map (adj L.length)) (finO.map (mOb (adj L.length))) (L ++ finC))[adj L.length 0]? = some (.lst []) := by
    rw [setAll_out]
    · exact at0 0 _ rfl
    · intro z
      obtain ⟨m, hm, e⟩ := List.mem_map.mp z
      rw [inj _ _ e] at hm
      revert hm
      decide
  generalize setAll ([1, 2, 3].map (adj L.length)) (finO.map (mOb (adj L.length))) (L ++ finC) = L1 at e1 a2 l1 z1
  rw [f3] at a2
  show Wp (F_holds _ _) _ _
  refine wp_runF rfl ?_
  show WpS (m_holds [some (.ref (adj L.length 0)), some (mD (adj L.length) finD), none, none, none, none] (L ++ finC)) _ _ _ _ _
  unfold m_holds
  refine wp_seq (wp_if (wp_notB (wp_tru (wp_call (wp_cons (wp_var rfl (wp_nil (wp_eq e1 (qtr (b := true) rfl (qif_f rfl (wp_next ?_))))))))))) 
  -- the reader
  have a3 : At (adj L.length) iniC (L1 ++ [.ins 0 []]) [4, 1, 2, 3] := fun n hn => by
    simp only [List.mem_cons, List.not_mem_nil, or_false] at hn
    rcases hn with rfl | rfl | rfl | rfl
    · refine ⟨_, rfl, ?_⟩
      have : adj L.length 4 = L1.length := by rw [l1]; rfl
      rw [this]
      exact at_end
    · obtain ⟨o, h1, h2⟩ := a2 1 (by decide)
      cases h1
      exact ⟨_, rfl, ap h2⟩
    · obtain ⟨o, h1, h2⟩ := a2 2 (by decide)
      cases h1
      exact ⟨_, rfl, ap h2⟩
    · obtain ⟨o, h1, h2⟩ := a2 3 (by decide)
      cases h1
      exact ⟨_, rfl, ap h2⟩
  obtain ⟨_, i2, i3, i4, i5, i6⟩ := ini_ok
  have e2 := runX_ok (F := F_Readeru_initu) inj i4 i3 (by decide) ini_eq i2 i5 a3
  have nd4 : ([4, 1, 2, 3].map (adj L.length)).Nodup := by
    rw [List.nodup_iff_pairwise_ne, List.pairwise_map]
    exact List.Pairwise.imp (fun hne z => hne (inj _ _ z)) (show [4, 1, 2, 3].Nodup by decide)
  have l2 : (L1 ++ [O.ins 0 []]).length = L.length + 5 := by rw [List.length_append, l1]; rfl
  generalize hχ : chi (adj L.length) [4, 1, 2, 3] (L1 ++ [O.ins 0 []]).length = χ at e2
  have c1 : χ 1 = adj L.length 1 := by rw [← hχ]; rfl
  have hg : ∀ j i o, [4, 1, 2, 3][j]? = some i → iniO[j]? = some o → (setAll ([4, 1, 2, 3].map (adj L.length)) (iniO.map (mOb χ)) (L1 ++ [.ins 0 []]) ++ iniX.map (mOb χ))[adj L.length i]? = some (mOb χ o) := fun j i o h1 h2 => by
    refine ap ?_
    have hj := (List.getElem?_eq_some_iff.mp h1).1
    have hi : i < 5 := by
      have : i ∈ [4, 1, 2, 3] := List.mem_of_getElem? h1
      simp only [List.mem_cons, List.not_mem_nil, or_false] at this
      omega
    rw [setAll_in _ _ _ j _ nd4 (by rw [List.getElem?_map, h1]; rfl) (by rw [l2]; unfold adj; omega) (by rw [List.length_map, i2]; exact hj), List.getElem?_map, h2]
    rfl
  have g1 := hg 1 1 _ rfl i6
  obtain ⟨fs, g0, pl⟩ : ∃ fs, iniO[0]? = some (.ins 0 fs) ∧ fs.lookup ("places" : Str) = some (.ref 1) := by
    have := ini_pl
    unfold placesOf at this
    split at this
    · rename_i fs h
      exact ⟨fs, h, this⟩
    · cases this
  have g4 := hg 0 4 _ rfl g0
  have z2 : (setAll ([4, 1, 2, 3].map (adj L.length)) (iniO.map (mOb χ)) (L1 ++ [.ins 0 []]) ++ iniX.map (mOb χ))[adj L.length 0]? = some (.lst []) := by
    refine ap ?_
    rw [setAll_out]
    · exact ap z1
    · intro z
      obtain ⟨m, hm, e⟩ := List.mem_map.mp z
      rw [inj _ _ e] at hm
      revert hm
      decide
  generalize setAll ([4, 1, 2, 3].map (adj L.length)) (iniO.map (mOb χ)) (L1 ++ [.ins 0 []]) ++ iniX.map (mOb χ) = L2 at e2 g1 g4 z2
  have e2' : G_Readeru_initu [.ref L1.length, mD (adj L.length) finD] (L1 ++ [.ins 0 []]) = .ok .non L2 := by
    have : (D.ref L1.length) = .ref (adj L.length 4) := by rw [l1]; rfl
    rw [this]
    exact e2
  refine wp_seq (wp_asg (wp_tup (wp_cons (wp_make (wp_cons (wp_var rfl (wp_nil (wp_eq e2' ⟨rfl, ?_⟩))))))))
  -- no steps
  obtain ⟨s0, s1, s2, s3⟩ := stp_ok
  have s4 : stpR = .ok (.ref (stpN stpR)) ([O.lst []] ++ (rsL stpR).drop 1) := by
    have key : ∀ Y : List O, Y[0]? = some (.lst []) → Y = [O.lst []] ++ Y.drop 1 := fun Y h => by
      cases Y with
      | nil => cases h
      | cons y Y => cases h; rfl
    exact stp_eq.trans (congrArg (Rs.ok (D.ref (stpN stpR))) (key _ s1))
  have e3 := runX_ok (F := F_steps) (φ := adj L.length) (ds := [.ref 0]) (C := [.lst []]) (L := L2) (ns := [0]) inj rfl (by decide) (by decide) s4 rfl (by
    refine List.any_eq_true.mpr ⟨stpN stpR, List.mem_append_left _ (by simp [refsD]), decide_eq_true s0⟩) (fun n hn => by
    rw [List.mem_singleton.mp hn]
    exact ⟨_, rfl, z2⟩)
  generalize stpN stpR = k at s0 s2 e3
  have ck : chi (adj L.length) [0] L2.length k = L2.length + (k - 1) := by
    unfold chi
    rw [if_neg (by show ¬ k < 1; omega)]
    rfl
  generalize hχ2 : chi (adj L.length) [0] L2.length = χ2 at e3 ck
  have fr : ∀ i o, i ≠ 0 → L2[adj L.length i]? = some o → (setAll ([0].map (adj L.length)) ([O.lst []].map (mOb χ2)) L2 ++ ((rsL stpR).drop 1).map (mOb χ2))[adj L.length i]? = some o := fun i o hi h => by
    refine ap ?_
    rw [setAll_out]
    · exact h
    · intro z
      rw [List.map_cons, List.map_nil, List.mem_singleton] at z
      exact hi (inj _ _ z)
  have h1 := fr 1 _ (by decide) g1
  have h4 := fr 4 _ (by decide) g4
  have hk : (setAll ([0].map (adj L.length)) ([O.lst []].map (mOb χ2)) L2 ++ ((rsL stpR).drop 1).map (mOb χ2))[χ2 k]? = some (.lst []) := by
    rw [ck, List.getElem?_append_right (by rw [setAll_len]; omega), setAll_len, Nat.add_sub_cancel_left, List.getElem?_map, List.getElem?_drop, show 1 + (k - 1) = k by omega, s2]
    rfl
  generalize setAll ([0].map (adj L.length)) ([O.lst []].map (mOb χ2)) L2 ++ ((rsL stpR).drop 1).map (mOb χ2) = L3 at e3 h1 h4 hk
  have e3' : G_steps [.ref (adj L.length 0)] L2 = .ok (.ref (χ2 k)) L3 := e3
  refine wp_cons (wp_call (wp_cons (wp_var rfl (wp_nil (wp_eq e3' (wp_nil ⟨Nat.le_of_ble_eq_true rfl, ?_⟩))))))
  refine ⟨[some (.ref (adj L.length 0)), some (mD (adj L.length) finD), some (.ref L1.length), some (.ref (χ2 k)), none, none], rfl, ?_⟩
  have h4' : L3[L1.length]? = some (mOb χ (.ins 0 fs)) := by rw [l1]; exact h4
  have cn := comp_nil (te := mMeth 0 "has" G_Reader_has (mVar 2) (mCons (mCall G_begun (mCons (mVar 4) mNil)) mNil)) (vs := [4]) (t := gNm 4) (mi := mIter (mVar 3)) (ε := [some (.ref (adj L.length 0)), some (mD (adj L.length) finD), some (.ref L1.length), some (.ref (χ2 k)), none, none]) (L := L3) (n := χ2 k) (by
    show (match L3[χ2 k]? with
      | some (.lst ds) => Rs.ok (⟨ds, some (χ2 k, .lst ds)⟩ : Src) L3
      | _ => .bad) = _
    rw [hk]) hk
  refine wp_seq (wp_if (wp_notB (wp_tru (wp_fn (wp_cons (wp_eq cn (wp_nil (wpo (all_nil at_end) (qtr (b := true) rfl (qif_f rfl (wp_next ?_)))))))))))
  refine wp_ret (wp_fn (wp_cons ?_))
  have k1 : (L3 ++ [O.lst []])[adj L.length 1]? = some (.dic true []) := ap h1
  have kf : mKeysF (mFld 0 "places" (mVar 2)) [some (.ref (adj L.length 0)), some (mD (adj L.length) finD), some (.ref L1.length), some (.ref (χ2 k)), none, none] (L3 ++ [O.lst []]) = .ok ⟨[], some (adj L.length 1, .dic true [])⟩ (L3 ++ [O.lst []]) := by
    have : Wp (mKeysF (mFld 0 "places" (mVar 2)) [some (.ref (adj L.length 0)), some (mD (adj L.length) finD), some (.ref L1.length), some (.ref (χ2 k)), none, none] (L3 ++ [O.lst []])) (fun s L' => s = ⟨[], some (adj L.length 1, .dic true [])⟩ ∧ L' = L3 ++ [O.lst []]) noX := by
      unfold mKeysF
      refine wp_bind (wp_fld (wp_var rfl ⟨L1.length, _, .ref (adj L.length 1), rfl, ap h4', ?_, ?_⟩))
      · rw [look_map, pl]
        show some (D.ref (χ 1)) = _
        rw [c1]
      · show Wp (match (L3 ++ [O.lst []])[adj L.length 1]? with
          | some (.dic true ks) => Rs.ok (⟨ks.map fun kv => keyOf kv.1, some (adj L.length 1, .dic true ks)⟩ : Src) (L3 ++ [O.lst []])
          | some (.dic false ks) => .ok ⟨ks.map fun kv => keyOf kv.1, some (adj L.length 1, .dic true ks)⟩ ((L3 ++ [O.lst []]).set (adj L.length 1) (.dic true ks))
          | some (.nd true ks) => .ok ⟨ks.map (·.1), some (adj L.length 1, .nd true ks)⟩ (L3 ++ [O.lst []])
          | some (.nd false ks) => .ok ⟨ks.map (·.1), some (adj L.length 1, .nd true ks)⟩ ((L3 ++ [O.lst []]).set (adj L.length 1) (.nd true ks))
          | _ => .bad) _ _
        rw [k1]
        exact ⟨rfl, rfl⟩
    obtain ⟨d, L', e, rfl, rfl⟩ := wp_ok this
    exact e
  exact wp_eq (comp2_nil kf k1) (wp_nil (wpo (all_nil at_end) rfl))
theorem lrun_newS {L : List O} {F : FS} {ds : List D} {o : O} (hr : refsDs ds = []) (ho : refsO o = []) (hF : F ds [] = .ok (.ref 0) [o]) : lrun F ds L = .ok (.ref L.length) (L ++ [o]) := by
  unfold lrun
  rw [hr, show reach L lfuel [] [] = [] from rfl]
  unfold lrunAt
  rw [mapRs_pure ds hr]
  simp only [optAll, List.nodup_nil, if_true, hF]
  have h1 : mapR (psi [] L.length) (.ref 0) = some (.ref L.length) := by simp [mapR, psi]
  have h2 : mapO (psi [] L.length) o = some o := mapO_pure o ho
  rw [h1, h2]
  have : lback [] L [o] (refsD (.ref L.length)) = L ++ [o] := by
    unfold lback
    have : small L.length (refsD (.ref L.length)) = false := by simp [small, refsD]
    rw [this]
    simp [setAll]
  simp only [this]
theorem Gmade {P : Pt} {L : List O} (ok : P.Ok) : Gulaw_made [P.d] L = .ok (.ref L.length) (L ++ [P.o]) := by
  refine lrun_newS (by show refsD P.d ++ [] = []; rw [ok.pure]; rfl) ok.opure ?_
  refine runF_rt rfl ?_
  have e : mMakeK 3 G_Wayu_initu gd_Way_K2_hops (mCons (mOp2 oIdx (mVar 0) (mC (.int 0))) (mCons (mOp2 oIdx (mVar 0) (mC (.int 1))) mNil)) (mCons (mOp2 oIdx (mVar 0) (mC (.int 2))) mNil) [some P.d] [] = mMadeG 3 G_Wayu_initu (fun x => gd_Way_K2_hops [x, .tup P.ps, .tup (P.tl.map tkD)] [.int P.h]) [] := rfl
  exact mret_ok (e.trans (made ok []))
def lwHead : MI := mRng1 (mFn cMax (mCons (mC (.int 1)) (mCons (mFn cMin (mCons (mC (.int 3)) (mCons (mFn cLen (mCons (mVar 0) mNil)) mNil))) mNil)))
def lwWays : MS := mSet 3 (mComp [6] (mRng1 (mCall Gulaw_take (mCons (mVar 2) (mCons (mC (.int 3)) mNil)))) (gNm 6) mYes (mCall Gulaw_made (mCons (mCall Gulaw_way (mCons (mVar 2) (mCons (mC (.int 3)) (mCons (mC (.int 4)) mNil)))) mNil)))
def lwOdds : MS := mFor (mIter (mCall Gulaw_odd_nets (mCons (mVar 2) mNil))) (gNm 4) lwBody
def lwMid : MS := mSeq (mSet 2 (mCall Gulaw_bag (mCons (mVar 0) (mCons (mVar 1) mNil)))) (mSeq lwWays lwOdds)
def lwEnd : MS := mRet (mOp2 oIsB (mCall G_holds (mCons (mLst mNil) (mCons (mTup (mCons mDic0 (mCons (mLst (mCons (mTup (mCons (mC (.int 1)) (mCons (mC (.str "none")) (mCons (mC (.int 2)) mNil)))) (mCons (mTup (mCons (mC (.int 1)) (mCons (mC (.str "none")) (mCons (mC (.int 2)) mNil)))) mNil))) (mCons (mLst (mCons (mC (.int 5)) (mCons (mC (.int 5)) mNil))) mNil)))) mNil))) (mC (.bl true)))
theorem law_eq : m_law = mSeq (mFor lwHead (gNm 1) lwMid) lwEnd := rfl
def Bag (nb : Nat) (k : Int) (L : List O) : Prop := ∃ o, L[nb]? = some o ∧ BagI k o
theorem Bag.less {nb : Nat} {k j : Int} {L : List O} (h : Bag nb k L) (h0 : 0 ≤ j) (hj : j ≤ k) : Bag nb j L := by
  obtain ⟨o, e, b⟩ := h
  exact ⟨o, e, b.mono h0 hj⟩
section
variable {L : List O} {nb : Nat} {k : Int} {a0 a1 a2 a3 a4 a5 a6 : Option D}
theorem ways_wp (h : Bag nb (k + 200) L) (hk : 0 ≤ k) : WpS (lwWays (E7l a0 a1 (some (.ref nb)) a3 a4 a5 a6) L) (fun ε L' => ∃ w, ε = E7l a0 a1 (some (.ref nb)) (some w) a4 a5 a6 ∧ Bag nb k L') noR noS noS noX := by
  unfold lwWays
  obtain ⟨o, e, b⟩ := h
  obtain ⟨r, o', e2, r0, r1, b2⟩ := Gtake (k := k + 199) (m := 3) e (by rw [show k + 199 + 1 = k + 200 by omega]; exact b) (by omega) (by decide) (by decide)
  refine wp_set (wp_comp (wp_rng1 (wp_call (wp_cons (wp_var rfl (wp_cons (wp_C (wp_nil (wp_eq e2 ⟨r, rfl, ⟨by omega, by omega⟩, ?_⟩)))))))))
  have lt := lt_of e
  have hb : Bag nb (k + 199) (L.set nb o') := ⟨o', List.getElem?_set_self lt, b2⟩
  have l0 : nb < (L.set nb o').length := by rw [List.length_set]; exact lt
  generalize L.set nb o' = L1 at hb l0
  refine wp_loopC (src := ⟨rngD 0 r.toNat, none⟩) (fun i acc L' => acc.length = i ∧ L'[L1.length]? = some (.lst acc) ∧ Bag nb (k + 199 - 41 * (i : Int)) L') (fun i acc L' ⟨_, h, _⟩ => ⟨rfl, h⟩) (rngD 0 r.toNat) 0 [] _ ⟨rfl, at_end, ?_⟩ ?_ ?_
  · obtain ⟨o, x, y⟩ := hb
    exact ⟨o, ap x, by simpa using y⟩
  · rintro i d acc L' hd ⟨hl, h3, hbag⟩
    rw [Nat.zero_add] at hl hbag ⊢
    have hi := (List.getElem?_eq_some_iff.mp hd).1
    rw [rngD_len] at hi
    refine ⟨by rw [hl]; unfold most; omega, E7l a0 a1 (some (.ref nb)) a3 a4 a5 (some d), rfl, ?_⟩
    obtain ⟨o, x, y⟩ := hbag
    obtain ⟨P, o2, e4, p1, p2, p3⟩ := Gway (k := k + 199 - 41 * (i : Int) - 40) (mst := 3) (qt := 4) x (by rw [show k + 199 - 41 * (i : Int) - 40 + 40 = k + 199 - 41 * (i : Int) by omega]; exact y) (by omega) (by decide) (by decide) (by decide) (by decide)
    have ne : L1.length ≠ nb := by omega
    have h4 : (L'.set nb o2)[L1.length]? = some (.lst acc) := by rw [List.getElem?_set_ne (Ne.symm ne)]; exact h3
    refine (show Wp ((mCall Gulaw_made (mCons (mCall Gulaw_way (mCons (mVar 2) (mCons (mC (.int 3)) (mCons (mC (.int 4)) mNil)))) mNil)) (E7l a0 a1 (some (.ref nb)) a3 a4 a5 (some d)) L') _ noX from ?_)
    refine wp_call (wp_cons (wp_call (wp_cons (wp_var rfl (wp_cons (wp_C (wp_cons (wp_C (wp_nil (wp_eq e4 (wp_nil (wp_eq (Gmade p1) ⟨ap h4, by simp [hl], ?_, ?_⟩))))))))))) )
    · exact List.getElem?_set_self (lt_of (ap (X := [P.o]) h4))
    · refine ⟨o2, ?_, p3.mono (by omega) (by omega)⟩
      rw [List.getElem?_set_ne ne]
      exact ap (List.getElem?_set_self (lt_of x))
  · rintro acc L' ⟨hl, h3, hbag⟩
    rw [Nat.zero_add, rngD_len] at hbag
    exact ⟨_, rfl, hbag.less hk (by omega)⟩
theorem mid_wp {sc : List Int} {i : Nat} (hi : i ≤ 100) : WpS (lwMid (E7l (some (.rol (sc.map .int))) (some (.int (i : Int))) a2 a3 a4 a5 a6) L) (fun ε L' => ∃ b1 b2 b3 b4 b5 b6, ε = E7l (some (.rol (sc.map .int))) b1 b2 b3 b4 b5 b6) noR noS noS noX := by
  unfold lwMid
  obtain ⟨o, e, b⟩ := Gbag sc i hi L
  refine wp_seq (wp_set (wp_call (wp_cons (wp_var rfl (wp_cons (wp_var rfl (wp_nil (wp_eq e ?_))))))))
  have hb : Bag L.length 900000000000 (L ++ [o]) := ⟨o, at_end, b⟩
  generalize L ++ [o] = L0 at hb ⊢
  generalize L.length = nb at hb ⊢
  refine wp_seq ((ways_wp (k := 1) (hb.less (by decide) (by decide)) (by decide)).imp ?_ (fun _ _ q => q.elim) (fun _ _ q => q.elim) (fun _ _ q => q.elim) (fun _ _ _ q => q))
  rintro _ L1 ⟨w, rfl, o1, x, y⟩
  refine (odds_wp (k := 0) x (by simpa using y) (by decide)).imp ?_ (fun _ _ q => q.elim) (fun _ _ q => q.elim) (fun _ _ q => q.elim) (fun _ _ _ q => q)
  rintro _ L2 ⟨x4, x5, rfl⟩
  exact ⟨_, _, _, _, _, _, rfl⟩
theorem end_wp {ε : En} {N B C : En → List O → Prop} : WpS (lwEnd ε L) N (fun d _ => d = .bl true) B C noX := by
  unfold lwEnd
  have key : Wp ((mCall G_holds (mCons (mLst mNil) (mCons (mTup (mCons mDic0 (mCons (mLst (mCons (mTup (mCons (mC (.int 1)) (mCons (mC (.str "none")) (mCons (mC (.int 2)) mNil)))) (mCons (mTup (mCons (mC (.int 1)) (mCons (mC (.str "none")) (mCons (mC (.int 2)) mNil)))) mNil))) (mCons (mLst (mCons (mC (.int 5)) (mCons (mC (.int 5)) mNil))) mNil)))) mNil))) ε L) (fun d _ => d = .bl true) noX := by
    refine wp_call (wp_cons (wp_lst (wp_nil ⟨Nat.zero_le _, ?_⟩)))
    refine wp_cons (wp_tup (wp_cons (wp_eq (a := D.ref (L ++ [O.lst []]).length) (L := L ++ [.lst []] ++ [.dic false []]) rfl ?_)))
    refine wp_cons (wp_lst (wp_cons (wp_tup (wp_cons (wp_C (wp_cons (wp_C (wp_cons (wp_C (wp_nil ⟨Nat.le_of_ble_eq_true rfl, ?_⟩))))))))) )
    refine wp_cons (wp_tup (wp_cons (wp_C (wp_cons (wp_C (wp_cons (wp_C (wp_nil ⟨Nat.le_of_ble_eq_true rfl, wp_nil ⟨Nat.le_of_ble_eq_true rfl, ?_⟩⟩))))))))
    refine wp_cons (wp_lst (wp_cons (wp_C (wp_cons (wp_C (wp_nil ⟨Nat.le_of_ble_eq_true rfl, wp_nil ⟨Nat.le_of_ble_eq_true rfl, wp_nil ?_⟩⟩))))))
    have := fin_holds L
    have e : L ++ [O.lst []] ++ [O.dic false []] ++ [O.lst [.tup [.int 1, .str "none", .int 2], .tup [.int 1, .str "none", .int 2]]] ++ [O.lst [.int 5, .int 5]] = L ++ finC := by simp [finC]
    rw [e]
    have l1 : (L ++ [O.lst []]).length = adj L.length 1 := by simp [adj]
    have l2 : (L ++ [O.lst []] ++ [O.dic false []]).length = adj L.length 2 := by simp [adj]
    have l3 : (L ++ [O.lst []] ++ [O.dic false []] ++ [O.lst [.tup [.int 1, .str "none", .int 2], .tup [.int 1, .str "none", .int 2]]]).length = adj L.length 3 := by simp [adj]
    rw [l1, l2, l3]
    exact this
  refine wp_ret (wp_op2 (key.imp ?_ (fun _ _ _ q => q)))
  rintro _ L' rfl
  exact wp_C (wpo (show oIsB (.bl true) (.bl true) L' = some (.bl true, L') from rfl) rfl)
end
theorem plain : PlainLaw 63 F_law := by
  intro ns hns
  have hr : ∃ r : Nat, r ≤ 3 ∧ lwHead (E7l (some (.rol (ns.map .int))) none none none none none none) [] = .ok ⟨rngD 0 r, none⟩ [] := by
    have hl : (ns.map D.int).length = ns.length := by simp
    refine ⟨((if (if (ns.length : Int) < 3 then (ns.length : Int) else 3) > 1 then (if (ns.length : Int) < 3 then (ns.length : Int) else 3) else 1) : Int).toNat, by omega, ?_⟩
    have hz : -1000000 ≤ ((if (if (ns.length : Int) < 3 then (ns.length : Int) else 3) > 1 then (if (ns.length : Int) < 3 then (ns.length : Int) else 3) else 1) : Int) ∧ ((if (if (ns.length : Int) < 3 then (ns.length : Int) else 3) > 1 then (if (ns.length : Int) < 3 then (ns.length : Int) else 3) else 1) : Int) ≤ 1000000 := by constructor <;> omega
    generalize ns.map D.int = T at hl ⊢
    simp only [lwHead, mRng1, mFn, mCons, mNil, mC, mVar, Rs.bind, ofO, List.getElem?_cons_zero, cLen, hl, cMin, cMax]
    rw [if_pos hz]
  obtain ⟨r, r3, hr⟩ := hr
  have : Wp (F_law [.rol (ns.map .int)] []) (fun d _ => d = .bl true) noX := by
    refine wp_runF rfl ?_
    show WpS (m_law (E7l (some (.rol (ns.map .int))) none none none none none none) []) _ _ _ _ _
    rw [law_eq]
    refine wp_seq (wp_for (wp_eq hr ?_))
    refine wp_loop0 (src := ⟨rngD 0 r, none⟩) (fun j ε L => ∃ b1 b2 b3 b4 b5 b6, ε = E7l (some (.rol (ns.map .int))) b1 b2 b3 b4 b5 b6) (fun _ _ _ _ => rfl) ⟨_, _, _, _, _, _, rfl⟩ ?_ ?_
    · rintro j d ε L hd ⟨b1, b2, b3, b4, b5, b6, rfl⟩
      obtain ⟨rfl, hj⟩ := rngD_get hd
      refine ⟨E7l (some (.rol (ns.map .int))) (some (.int (j : Int))) b2 b3 b4 b5 b6, by rw [Int.zero_add]; rfl, ?_⟩
      exact (mid_wp (i := j) (by omega)).imp (fun _ _ q => q) (fun _ _ q => q.elim) (fun _ _ q => q.elim) (fun _ _ q => q.elim) (fun _ _ _ q => q)
    · rintro ε L ⟨b1, b2, b3, b4, b5, b6, rfl⟩
      exact end_wp
  obtain ⟨d, L', e, rfl⟩ := wp_ok this
  exact ⟨L', e⟩
structure Txt (P : Program) (K : PySem.W.Frag) (mg : Str → Option Value) (cm : Nat → Addr) : Prop where
  c_Reader : Cls K (cm 0)
  c_Way : Cls K (cm 3)
  g_ALONE : GC K mg cm "ALONE" d_ALONE
  g_ANY : GC K mg cm "ANY" d_ANY
  g_HEIGHTS : GC K mg cm "HEIGHTS" d_HEIGHTS
  g_LESSER : GC K mg cm "LESSER" d_LESSER
  g_MARKS : GC K mg cm "MARKS" d_MARKS
  g_MODES : GC K mg cm "MODES" d_MODES
  g_MOST_POINTS : GC K mg cm "MOST_POINTS" d_MOST_POINTS
  g_MOST_TAKES : GC K mg cm "MOST_TAKES" d_MOST_TAKES
  g_NET_PARTS : GC K mg cm "NET_PARTS" d_NET_PARTS
  g_NONE : GC K mg cm "NONE" d_NONE
  g_QUIET_WORDS : GC K mg cm "QUIET_WORDS" d_QUIET_WORDS
  g_RISING : GC K mg cm "RISING" d_RISING
  g_SHARED : GC K mg cm "SHARED" d_SHARED
  g_WORDS : GC K mg cm "WORDS" d_WORDS
  n_Reader_next_ones : NoAttr K (cm 0) "next_ones"
  n_Reader_places : NoAttr K (cm 0) "places"
  n_Reader_stops : NoAttr K (cm 0) "stops"
  n_Way_locks : NoAttr K (cm 3) "locks"
  n_Way_places : NoAttr K (cm 3) "places"
  n_Way_walked : NoAttr K (cm 3) "walked"
  z_abs : mg "abs" = none
  z_all : mg "all" = none
  z_bool : mg "bool" = none
  z_dict : mg "dict" = none
  z_enumerate : mg "enumerate" = none
  z_int : mg "int" = none
  z_isinstance : mg "isinstance" = none
  z_len : mg "len" = none
  z_list : mg "list" = none
  z_max : mg "max" = none
  z_min : mg "min" = none
  z_range : mg "range" = none
  z_repr : mg "repr" = none
  z_reversed : mg "reversed" = none
  z_sorted : mg "sorted" = none
  z_str : mg "str" = none
  z_tuple : mg "tuple" = none
section
variable {P : Program} {w : World} {K : PySem.W.Frag} {mg : Str → Option Value} {base : Heap} {cm : Nat → Addr}
abbrev s_mark_of : Stmt := (top 9)
abbrev N_mark_of : List Str := ["mode"]
theorem sc_mark_of : FnScope N_mark_of ["mode"] (defScope s_mark_of) := ⟨rfl, rfl, rfl, by decide +kernel, rfl, by decide +kernel, by decide +kernel⟩
theorem b_mark_of {f : Addr} (T : Txt P K mg cm) : BodyOk P w K mg base cm N_mark_of "mark_of" (defScope s_mark_of) f (defBody s_mark_of) 0 m_mark_of := by
  intro fx cdv A outer s H E hr tk hp
  exact (sb_one (ss_ret (se_ifE (st_cmp (op_oEq (u64 hr)) (se_var (pv 0)) (se_g T.g_SHARED)) (se_g T.g_SHARED) (se_g T.g_ALONE))))
abbrev s_Way_points : Stmt := (inClass (top 51) 2)
abbrev N_Way_points : List Str := ["self"]
theorem sc_Way_points : FnScope N_Way_points ["self"] (defScope s_Way_points) := ⟨rfl, rfl, rfl, by decide +kernel, rfl, by decide +kernel, by decide +kernel⟩
theorem b_Way_points {f : Addr} (T : Txt P K mg cm) : BodyOk P w K mg base cm N_Way_points "Way.points" (defScope s_Way_points) f (defBody s_Way_points) 0 m_Way_points := by
  intro fx cdv A outer s H E hr tk hp
  exact (sb_one (ss_ret (se_fld (se_var (pv 0)) T.c_Way T.n_Way_places)))
abbrev s_point_parents : Stmt := (top 10)
abbrev N_point_parents : List Str := ["way", "found", "top", "point", "place"]
theorem sc_point_parents : FnScope N_point_parents ["way"] (defScope s_point_parents) := ⟨rfl, rfl, rfl, by decide +kernel, rfl, by decide +kernel, by decide +kernel⟩
theorem b_point_parents {f : Addr} (T : Txt P K mg cm) (I_Way_points : PrI P w K mg base cm 3 "points" 1 G_Way_points) : BodyOk P w K mg base cm N_point_parents "point_parents" (defScope s_point_parents) f (defBody s_point_parents) 2 m_point_parents := by
  intro fx cdv A outer s H E hr tk hp
  exact (sb_cons (ss_par rfl sc_point_parents.nd rfl rfl (by decide) (sa_cons se_dic0 (sa_cons se_int sa_nil)))
    (sb_cons (ss_for hp rfl (si_enumK rfl T.z_enumerate (pa_cons (se_prop I_Way_points (hr.mono (by decide)) (se_var (pv 0))) pa_nil) se_int) (sg_tup rfl (sgs_cons (sg_name sc_point_parents.nd rfl) (sgs_cons (sg_name sc_point_parents.nd rfl) sgs_nil))) (sb_one (ss_if (st_cmp (op_oEq (u64 hr)) (se_idx (u65 hr) (se_var (pv 4)) se_int) se_str) (sb_one (ss_put (u65 hr) (se_var (pv 1)) (se_var (pv 3)) (se_idx (u65 hr) (se_var (pv 4)) se_int))) (sb_cons (ss_put (u65 hr) (se_var (pv 1)) (se_var (pv 2)) (se_var (pv 3)))
    (sb_one (ss_set sc_point_parents.nd rfl (se_var (pv 3))))))))
    (sb_one (ss_ret (se_var (pv 1))))))
abbrev s_chain_of : Stmt := (top 11)
abbrev N_chain_of : List Str := ["parents", "point", "found"]
theorem sc_chain_of : FnScope N_chain_of ["parents", "point"] (defScope s_chain_of) := ⟨rfl, rfl, rfl, by decide +kernel, rfl, by decide +kernel, by decide +kernel⟩
theorem b_chain_of {f : Addr} (T : Txt P K mg cm) : BodyOk P w K mg base cm N_chain_of "chain_of" (defScope s_chain_of) f (defBody s_chain_of) 0 m_chain_of := by
  intro fx cdv A outer s H E hr tk hp
  exact (sb_cons (ss_set sc_chain_of.nd rfl (se_lst (sa_cons (se_var (pv 1)) sa_nil)))
    (sb_cons (ss_while 1000 hp (st_cmp (op_oIn (u65 hr)) (se_idx (u65 hr) (se_var (pv 2)) (se_neg se_int)) (se_var (pv 0))) (sb_one (ss_expr (se_bmL PySem.F.slot_list_append PySem.F.type_list_append mt_oAppend (se_var (pv 2)) (sa_cons (se_idx (u65 hr) (se_var (pv 0)) (se_idx (u65 hr) (se_var (pv 2)) (se_neg se_int))) sa_nil)))))
    (sb_one (ss_ret (se_var (pv 2))))))
abbrev s_step_from : Stmt := (top 12)
abbrev N_step_from : List Str := ["parents", "marks", "had", "wanted", "mode", "order", "up", "down", "apex", "highest", "ups", "below", "downs", "at", "point"]
theorem sc_step_from : FnScope N_step_from ["parents", "marks", "had", "wanted", "mode", "order"] (defScope s_step_from) := ⟨rfl, rfl, rfl, by decide +kernel, rfl, by decide +kernel, by decide +kernel⟩
theorem b_step_from {f : Addr} (T : Txt P K mg cm) (I_mark_of : FI P w K mg base cm "mark_of" 1 1 G_mark_of) (I_chain_of : FI P w K mg base cm "chain_of" 1 2 G_chain_of) : BodyOk P w K mg base cm N_step_from "step_from" (defScope s_step_from) f (defBody s_step_from) 1 m_step_from := by
  intro fx cdv A outer s H E hr tk hp
  exact (sb_cons (ss_asg (se_tup (sa_cons (se_call I_chain_of (hr.mono (by decide)) tk (sa_cons (se_var (pv 0)) (sa_cons (se_var (pv 2)) sa_nil)) (len_cons (len_cons len_nil))) (sa_cons (se_call I_chain_of (hr.mono (by decide)) tk (sa_cons (se_var (pv 0)) (sa_cons (se_var (pv 3)) sa_nil)) (len_cons (len_cons len_nil))) sa_nil))) (sg_tup rfl (sgs_cons (sg_name sc_step_from.nd rfl) (sgs_cons (sg_name sc_step_from.nd rfl) sgs_nil))))
    (sb_cons (ss_set sc_step_from.nd rfl (se_fnB (c_min rfl) T.z_min (sa_cons (se_lc (own := [("at", 13), ("point", 14)]) rfl sc_step_from.nd (si_enum rfl T.z_enumerate (pa_cons (se_var (pv 6)) pa_nil)) (blkOk_by (own := [("at", 13), ("point", 14)]) (N := N_step_from) (sc := defScope s_step_from) (by decide +kernel)) (fun _ _ _ _ _ => (sg_tup rfl (sgs_cons (sg_name sc_step_from.nd rfl) (sgs_cons (sg_name sc_step_from.nd rfl) sgs_nil)))) (fun _ _ _ _ _ => (sts_one (st_cmp (op_oIn (u65 hr)) (se_var (pv 14)) (se_var (pv 7))))) (fun _ _ _ _ _ => (se_var (pv 13)))) sa_nil)))
    (sb_cons (ss_set sc_step_from.nd rfl (se_fnB (c_max rfl) T.z_max (sa_cons (se_lst (sa_cons (se_var (pv 8)) (sa_star (se_lc (own := [("at", 13), ("point", 14)]) rfl sc_step_from.nd (si_enum rfl T.z_enumerate (pa_cons (se_var (pv 6)) pa_nil)) (blkOk_by (own := [("at", 13), ("point", 14)]) (N := N_step_from) (sc := defScope s_step_from) (by decide +kernel)) (fun _ _ _ _ _ => (sg_tup rfl (sgs_cons (sg_name sc_step_from.nd rfl) (sgs_cons (sg_name sc_step_from.nd rfl) sgs_nil)))) (fun _ _ _ _ _ => (sts_one (st_cmp (op_oIn (u65 hr)) (se_var (pv 14)) (se_var (pv 1))))) (fun _ _ _ _ _ => (se_var (pv 13)))) sa_nil))) sa_nil)))
    (sb_cons (ss_set sc_step_from.nd rfl (se_fnT c_tuple T.z_tuple (sa_cons (se_lc (own := [("point", 14)]) rfl sc_step_from.nd (si_iter (se_slice (se_var (pv 6)) so_none (so_some (se_op op_oAdd (se_var (pv 9)) se_int)))) (blkOk_by (own := [("point", 14)]) (N := N_step_from) (sc := defScope s_step_from) (by decide +kernel)) (fun _ _ _ _ _ => (sg_name sc_step_from.nd rfl)) (fun _ _ _ _ _ => sts_nil) (fun _ _ _ _ _ => (se_get2 (u65 hr) (se_var (pv 1)) (se_var (pv 14)) (se_g T.g_NONE)))) sa_nil)))
    (sb_cons (ss_set sc_step_from.nd rfl (se_slice (se_var (pv 7)) so_none (so_some (se_bmL PySem.F.slot_list_index PySem.F.type_list_index mt_oIndex (se_var (pv 7)) (sa_cons (se_idx (u65 hr) (se_var (pv 6)) (se_var (pv 8))) sa_nil)))))
    (sb_cons (ss_set sc_step_from.nd rfl (se_fnT c_tuple T.z_tuple (sa_cons (se_lc (own := [("point", 14)]) rfl sc_step_from.nd (si_rev rfl T.z_reversed (pa_cons (se_var (pv 11)) pa_nil)) (blkOk_by (own := [("point", 14)]) (N := N_step_from) (sc := defScope s_step_from) (by decide +kernel)) (fun _ _ _ _ _ => (sg_name sc_step_from.nd rfl)) (fun _ _ _ _ _ => sts_nil) (fun _ _ _ _ _ => (se_get2 (u65 hr) (se_var (pv 1)) (se_var (pv 14)) (se_g T.g_NONE)))) sa_nil)))
    (sb_one (ss_ret (se_tup (sa_cons (se_var (pv 10)) (sa_cons (se_var (pv 8)) (sa_cons (se_var (pv 12)) (sa_cons (se_call I_mark_of (hr.mono (by decide)) tk (sa_cons (se_var (pv 4)) sa_nil) (len_cons len_nil)) (sa_cons (se_var (pv 5)) sa_nil))))))))))))))
abbrev s_Way_takes : Stmt := (inClass (top 51) 3)
abbrev N_Way_takes : List Str := ["self"]
theorem sc_Way_takes : FnScope N_Way_takes ["self"] (defScope s_Way_takes) := ⟨rfl, rfl, rfl, by decide +kernel, rfl, by decide +kernel, by decide +kernel⟩
theorem b_Way_takes {f : Addr} (T : Txt P K mg cm) : BodyOk P w K mg base cm N_Way_takes "Way.takes" (defScope s_Way_takes) f (defBody s_Way_takes) 0 m_Way_takes := by
  intro fx cdv A outer s H E hr tk hp
  exact (sb_one (ss_ret (se_fld (se_var (pv 0)) T.c_Way T.n_Way_locks)))
abbrev s_Way_hops : Stmt := (inClass (top 51) 4)
abbrev N_Way_hops : List Str := ["self"]
theorem sc_Way_hops : FnScope N_Way_hops ["self"] (defScope s_Way_hops) := ⟨rfl, rfl, rfl, by decide +kernel, rfl, by decide +kernel, by decide +kernel⟩
theorem b_Way_hops {f : Addr} (T : Txt P K mg cm) : BodyOk P w K mg base cm N_Way_hops "Way.hops" (defScope s_Way_hops) f (defBody s_Way_hops) 0 m_Way_hops := by
  intro fx cdv A outer s H E hr tk hp
  exact (sb_one (ss_ret (se_fld (se_var (pv 0)) T.c_Way T.n_Way_walked)))
abbrev s_steps_before : Stmt := (top 13)
abbrev N_steps_before : List Str := ["way", "index", "word", "wanted", "mode", "first", "marks", "parents", "found", "at", "modes", "order", "had", "its_word", "point", "its_mode"]
theorem sc_steps_before : FnScope N_steps_before ["way", "index"] (defScope s_steps_before) := ⟨rfl, rfl, rfl, by decide +kernel, rfl, by decide +kernel, by decide +kernel⟩
theorem b_steps_before {f : Addr} (T : Txt P K mg cm) (I_mark_of : FI P w K mg base cm "mark_of" 1 1 G_mark_of) (I_point_parents : FI P w K mg base cm "point_parents" 3 1 G_point_parents) (I_step_from : FI P w K mg base cm "step_from" 2 6 G_step_from) (I_Way_takes : PrI P w K mg base cm 3 "takes" 1 G_Way_takes) (I_Way_hops : PrI P w K mg base cm 3 "hops" 1 G_Way_hops) : BodyOk P w K mg base cm N_steps_before "steps_before" (defScope s_steps_before) f (defBody s_steps_before) 3 m_steps_before := by
  intro fx cdv A outer s H E hr tk hp
  exact (sb_cons (ss_asg (se_idx (u65 hr) (se_prop I_Way_takes (hr.mono (by decide)) (se_var (pv 0))) (se_var (pv 1))) (sg_tup rfl (sgs_cons (sg_name sc_steps_before.nd rfl) (sgs_cons (sg_name sc_steps_before.nd rfl) (sgs_cons (sg_name sc_steps_before.nd rfl) sgs_nil)))))
    (sb_cons (ss_if (PW.pt (sw_or (st_cmp (op_oEq (u64 hr)) (se_var (pv 1)) se_int) (pw_or1 (st_cmp (op_oIn (u65 hr)) (se_var (pv 2)) (se_g T.g_QUIET_WORDS))))) (sb_one (ss_ret (se_lst sa_nil))) sb_nil)
    (sb_cons (ss_set sc_steps_before.nd rfl (se_ifE (st_cmp op_oLe (se_var (pv 1)) (se_prop I_Way_hops (hr.mono (by decide)) (se_var (pv 0)))) (se_op op_oSub (se_var (pv 1)) se_int) (se_prop I_Way_hops (hr.mono (by decide)) (se_var (pv 0)))))
    (sb_cons (ss_setDc (own := [("its_word", 13), ("point", 14), ("its_mode", 15)]) rfl sc_steps_before.nd rfl (si_iter (se_slice (se_prop I_Way_takes (hr.mono (by decide)) (se_var (pv 0))) (so_some (se_var (pv 5))) (so_some (se_var (pv 1))))) (blkOk_by (own := [("its_word", 13), ("point", 14), ("its_mode", 15)]) (N := N_steps_before) (sc := defScope s_steps_before) (by decide +kernel)) (fun _ _ _ _ _ => (sg_tup rfl (sgs_cons (sg_name sc_steps_before.nd rfl) (sgs_cons (sg_name sc_steps_before.nd rfl) (sgs_cons (sg_name sc_steps_before.nd rfl) sgs_nil))))) (fun _ _ _ _ _ => sts_nil) (fun _ _ _ _ _ => (se_var (pv 14))) (fun _ _ _ _ _ => (se_call I_mark_of (hr.mono (by decide)) takes0' (sa_cons (se_var (pv 15)) sa_nil) (len_cons len_nil))))
    (sb_cons (ss_par rfl sc_steps_before.nd rfl rfl (by decide) (sa_cons (se_call I_point_parents (hr.mono (by decide)) tk (sa_cons (se_var (pv 0)) sa_nil) (len_cons len_nil)) (sa_cons (se_lst sa_nil) sa_nil)))
    (sb_cons (ss_for hp rfl (si_rng2 rfl T.z_range (pa_cons (se_var (pv 5)) (pa_cons (se_var (pv 1)) pa_nil))) (sg_name sc_steps_before.nd rfl) (sb_cons (ss_setLc (own := [("its_word", 13), ("point", 14), ("its_mode", 15)]) rfl sc_steps_before.nd rfl (si_iter (se_slice (se_prop I_Way_takes (hr.mono (by decide)) (se_var (pv 0))) (so_some (se_op op_oAdd (se_var (pv 9)) se_int)) (so_some (se_op op_oAdd (se_var (pv 1)) se_int)))) (blkOk_by (own := [("its_word", 13), ("point", 14), ("its_mode", 15)]) (N := N_steps_before) (sc := defScope s_steps_before) (by decide +kernel)) (fun _ _ _ _ _ => (sg_tup rfl (sgs_cons (sg_name sc_steps_before.nd rfl) (sgs_cons (sg_name sc_steps_before.nd rfl) (sgs_cons (sg_name sc_steps_before.nd rfl) sgs_nil))))) (fun _ _ _ _ _ => sts_nil) (fun _ _ _ _ _ => (se_var (pv 15))))
    (sb_cons (ss_set sc_steps_before.nd rfl (se_ifE (st_tru (se_fnB (c_all rfl) T.z_all (sa_cons (se_lc (own := [("its_mode", 15)]) rfl sc_steps_before.nd (si_iter (se_var (pv 10))) (blkOk_by (own := [("its_mode", 15)]) (N := N_steps_before) (sc := defScope s_steps_before) (by decide +kernel)) (fun _ _ _ _ _ => (sg_name sc_steps_before.nd rfl)) (fun _ _ _ _ _ => sts_nil) (fun _ _ _ _ _ => (se_cmp (op_oEq (u64 hr)) (se_var (pv 15)) (se_g T.g_RISING)))) sa_nil))) (se_g T.g_LESSER) (se_g T.g_ANY)))
    (sb_cons (ss_set sc_steps_before.nd rfl (se_idx (u65 hr) (se_idx (u65 hr) (se_prop I_Way_takes (hr.mono (by decide)) (se_var (pv 0))) (se_var (pv 9))) se_int))
    (sb_one (ss_expr (se_bmL PySem.F.slot_list_append PySem.F.type_list_append mt_oAppend (se_var (pv 8)) (sa_cons (se_tup (sa_cons (se_var (pv 12)) (sa_cons (se_call I_step_from (hr.mono (by decide)) tk (sa_cons (se_var (pv 7)) (sa_cons (se_var (pv 6)) (sa_cons (se_var (pv 12)) (sa_cons (se_var (pv 3)) (sa_cons (se_var (pv 4)) (sa_cons (se_var (pv 11)) sa_nil)))))) (len_cons (len_cons (len_cons (len_cons (len_cons (len_cons len_nil))))))) sa_nil))) sa_nil))))))))
    (sb_one (ss_ret (se_var (pv 8))))))))))
abbrev s_sources : Stmt := (top 14)
abbrev N_sources : List Str := ["ways", "found", "number", "way", "index", "had", "step"]
theorem sc_sources : FnScope N_sources ["ways"] (defScope s_sources) := ⟨rfl, rfl, rfl, by decide +kernel, rfl, by decide +kernel, by decide +kernel⟩
theorem b_sources {f : Addr} (T : Txt P K mg cm) (I_steps_before : FI P w K mg base cm "steps_before" 4 2 G_steps_before) (I_Way_takes : PrI P w K mg base cm 3 "takes" 1 G_Way_takes) : BodyOk P w K mg base cm N_sources "sources" (defScope s_sources) f (defBody s_sources) 4 m_sources := by
  intro fx cdv A outer s H E hr tk hp
  exact (sb_cons (ss_set sc_sources.nd rfl se_nd0)
    (sb_cons (ss_for hp rfl (si_enum rfl T.z_enumerate (pa_cons (se_var (pv 0)) pa_nil)) (sg_tup rfl (sgs_cons (sg_name sc_sources.nd rfl) (sgs_cons (sg_name sc_sources.nd rfl) sgs_nil))) (sb_one (ss_for hp rfl (si_rng1 rfl T.z_range (pa_cons (se_fnB c_len T.z_len (sa_cons (se_prop I_Way_takes (hr.mono (by decide)) (se_var (pv 3))) sa_nil)) pa_nil)) (sg_name sc_sources.nd rfl) (sb_one (ss_for hp rfl (si_iter (se_call I_steps_before (hr.mono (by decide)) tk (sa_cons (se_var (pv 3)) (sa_cons (se_var (pv 4)) sa_nil)) (len_cons (len_cons len_nil)))) (sg_tup rfl (sgs_cons (sg_name sc_sources.nd rfl) (sgs_cons (sg_name sc_sources.nd rfl) sgs_nil))) (sb_one (ss_expr (se_bmL PySem.F.slot_list_append PySem.F.type_list_append mt_oAppend (se_setD (u65 hr) (se_var (pv 1)) (se_var (pv 6)) (se_lst sa_nil)) (sa_cons (se_tup (sa_cons (se_var (pv 2)) (sa_cons (se_var (pv 4)) (sa_cons (se_var (pv 5)) sa_nil)))) sa_nil)))))))))
    (sb_one (ss_ret (se_var (pv 1))))))
abbrev s_steps : Stmt := (top 15)
abbrev N_steps : List Str := ["ways", "found", "step"]
theorem sc_steps : FnScope N_steps ["ways"] (defScope s_steps) := ⟨rfl, rfl, rfl, by decide +kernel, rfl, by decide +kernel, by decide +kernel⟩
theorem b_steps {f : Addr} (T : Txt P K mg cm) (I_sources : FI P w K mg base cm "sources" 5 1 G_sources) : BodyOk P w K mg base cm N_steps "steps" (defScope s_steps) f (defBody s_steps) 5 m_steps := by
  intro fx cdv A outer s H E hr tk hp
  exact (sb_cons (ss_set sc_steps.nd rfl (se_call I_sources (hr.mono (by decide)) tk (sa_cons (se_var (pv 0)) sa_nil) (len_cons len_nil)))
    (sb_one (ss_ret (se_fnB (c_sorted (u65 hr)) T.z_sorted (sa_cons (se_lock (f := (lkVar 1)) (se_lc (own := [("step", 2)]) rfl sc_steps.nd (si_keys (se_var (pv 1))) (blkOk_by (own := [("step", 2)]) (N := N_steps) (sc := defScope s_steps) (by decide +kernel)) (fun _ _ _ _ _ => (sg_name sc_steps.nd rfl)) (fun _ _ _ _ _ => (sts_one (PW.pt (sw_or (st_cmp (op_oEq (u64 hr)) (se_idx (u65 hr) (se_var (pv 2)) (se_neg se_int)) (se_g T.g_ANY)) (pw_or1 (st_cmp (op_oNotInN (u65 hr)) (se_op op_oAdd (se_slice (se_var (pv 2)) so_none (so_some (se_neg se_int))) (se_tup (sa_cons (se_g T.g_ANY) sa_nil))) (se_var (pv 1)))))))) (fun _ _ _ _ _ => (se_var (pv 2))))) sa_nil)))))
abbrev s_begun : Stmt := (top 19)
abbrev N_begun : List Str := ["step", "ups", "apex", "downs", "waits", "order", "line"]
theorem sc_begun : FnScope N_begun ["step"] (defScope s_begun) := ⟨rfl, rfl, rfl, by decide +kernel, rfl, by decide +kernel, by decide +kernel⟩
theorem b_begun {f : Addr} (T : Txt P K mg cm) : BodyOk P w K mg base cm N_begun "begun" (defScope s_begun) f (defBody s_begun) 0 m_begun := by
  intro fx cdv A outer s H E hr tk hp
  exact (sb_cons ss_never
    (sb_cons ss_never
    (sb_one ss_never)))
abbrev s_is_number : Stmt := (top 30)
abbrev N_is_number : List Str := ["thing"]
theorem sc_is_number : FnScope N_is_number ["thing"] (defScope s_is_number) := ⟨rfl, rfl, rfl, by decide +kernel, rfl, by decide +kernel, by decide +kernel⟩
theorem b_is_number {f : Addr} (T : Txt P K mg cm) : BodyOk P w K mg base cm N_is_number "is_number" (defScope s_is_number) f (defBody s_is_number) 0 m_is_number := by
  intro fx cdv A outer s H E hr tk hp
  exact (sb_one (ss_ret (se_andV (se_isiB .int [] T.z_isinstance T.z_int (se_var (pv 0)) (fun _ h => nomatch h) (fun _ h => nomatch h) (fun h => nomatch h)) (se_one (se_notV (se_isiB .bl [] T.z_isinstance T.z_bool (se_var (pv 0)) (fun _ h => nomatch h) (fun _ h => nomatch h) (fun h => nomatch h)))))))
abbrev s_is_situation : Stmt := (top 31)
abbrev N_is_situation : List Str := ["thing", "line", "height", "waits", "free", "mark"]
theorem sc_is_situation : FnScope N_is_situation ["thing"] (defScope s_is_situation) := ⟨rfl, rfl, rfl, by decide +kernel, rfl, by decide +kernel, by decide +kernel⟩
theorem b_is_situation {f : Addr} (T : Txt P K mg cm) (I_is_number : FI P w K mg base cm "is_number" 1 1 G_is_number) : BodyOk P w K mg base cm N_is_situation "is_situation" (defScope s_is_situation) f (defBody s_is_situation) 1 m_is_situation := by
  intro fx cdv A outer s H E hr tk hp
  exact (sb_cons (ss_if (PW.pt (sw_or (st_not (st_tru (se_isiB .tup [] T.z_isinstance T.z_tuple (se_var (pv 0)) (fun _ h => nomatch h) (fun _ h => nomatch h) (fun h => nomatch h)))) (pw_or1 (st_cmp (op_oNe (u64 hr)) (se_fnB c_len T.z_len (sa_cons (se_var (pv 0)) sa_nil)) se_int)))) (sb_one (ss_ret se_bl)) sb_nil)
    (sb_cons (ss_asg (se_var (pv 0)) (sg_tup rfl (sgs_cons (sg_name sc_is_situation.nd rfl) (sgs_cons (sg_name sc_is_situation.nd rfl) (sgs_cons (sg_name sc_is_situation.nd rfl) (sgs_cons (sg_name sc_is_situation.nd rfl) sgs_nil))))))
    (sb_cons (ss_if (PW.pt (sw_or (st_not (st_tru (se_isiB .tup [] T.z_isinstance T.z_tuple (se_var (pv 1)) (fun _ h => nomatch h) (fun _ h => nomatch h) (fun h => nomatch h)))) (sw_or (st_cmp (op_oNe (u64 hr)) (se_fnB c_len T.z_len (sa_cons (se_var (pv 1)) sa_nil)) (se_g T.g_HEIGHTS)) (pw_or1 (st_not (st_tru (se_fnB (c_all rfl) T.z_all (sa_cons (se_lc (own := [("mark", 5)]) rfl sc_is_situation.nd (si_iter (se_var (pv 1))) (blkOk_by (own := [("mark", 5)]) (N := N_is_situation) (sc := defScope s_is_situation) (by decide +kernel)) (fun _ _ _ _ _ => (sg_name sc_is_situation.nd rfl)) (fun _ _ _ _ _ => sts_nil) (fun _ _ _ _ _ => (se_cmp (op_oIn (u65 hr)) (se_var (pv 5)) (se_g T.g_MARKS)))) sa_nil)))))))) (sb_one (ss_ret se_bl)) sb_nil)
    (sb_one (ss_ret (se_andV (se_call I_is_number (hr.mono (by decide)) tk (sa_cons (se_var (pv 2)) sa_nil) (len_cons len_nil)) (se_andV (se_chain op_oLe op_oLt se_int (se_var (pv 2)) (se_g T.g_HEIGHTS)) (se_andV (se_cmp (op_oIn (u65 hr)) (se_var (pv 3)) (se_tup (sa_cons (se_g T.g_SHARED) (sa_cons (se_g T.g_ALONE) sa_nil)))) (se_one (se_isiB .bl [] T.z_isinstance T.z_bool (se_var (pv 4)) (fun _ h => nomatch h) (fun _ h => nomatch h) (fun h => nomatch h)))))))))))
abbrev s_is_link : Stmt := (top 32)
abbrev N_is_link : List Str := ["thing"]
theorem sc_is_link : FnScope N_is_link ["thing"] (defScope s_is_link) := ⟨rfl, rfl, rfl, by decide +kernel, rfl, by decide +kernel, by decide +kernel⟩
theorem b_is_link {f : Addr} (T : Txt P K mg cm) (I_is_number : FI P w K mg base cm "is_number" 1 1 G_is_number) : BodyOk P w K mg base cm N_is_link "is_link" (defScope s_is_link) f (defBody s_is_link) 1 m_is_link := by
  intro fx cdv A outer s H E hr tk hp
  exact (sb_cons (ss_if (PW.pt (sw_or (st_not (st_tru (se_isiB .tup [] T.z_isinstance T.z_tuple (se_var (pv 0)) (fun _ h => nomatch h) (fun _ h => nomatch h) (fun h => nomatch h)))) (pw_or1 (st_cmp (op_oNe (u64 hr)) (se_fnB c_len T.z_len (sa_cons (se_var (pv 0)) sa_nil)) se_int)))) (sb_one (ss_ret se_bl)) sb_nil)
    (sb_one (ss_ret (se_andV (se_call I_is_number (hr.mono (by decide)) tk (sa_cons (se_idx (u65 hr) (se_var (pv 0)) se_int) sa_nil) (len_cons len_nil)) (se_andV (se_cmp (op_oInM (u65 hr)) (se_idx (u65 hr) (se_var (pv 0)) se_int) (se_g T.g_MARKS)) (se_one (se_call I_is_number (hr.mono (by decide)) tk (sa_cons (se_idx (u65 hr) (se_var (pv 0)) se_int) sa_nil) (len_cons len_nil))))))))
abbrev s_is_net : Stmt := (top 33)
abbrev N_is_net : List Str := ["thing", "places", "links", "stops", "key", "number", "link", "stop"]
theorem sc_is_net : FnScope N_is_net ["thing"] (defScope s_is_net) := ⟨rfl, rfl, rfl, by decide +kernel, rfl, by decide +kernel, by decide +kernel⟩
theorem b_is_net {f : Addr} (T : Txt P K mg cm) (I_is_number : FI P w K mg base cm "is_number" 1 1 G_is_number) (I_is_situation : FI P w K mg base cm "is_situation" 2 1 G_is_situation) (I_is_link : FI P w K mg base cm "is_link" 2 1 G_is_link) : BodyOk P w K mg base cm N_is_net "is_net" (defScope s_is_net) f (defBody s_is_net) 2 m_is_net := by
  intro fx cdv A outer s H E hr tk hp
  exact (sb_cons (ss_if (PW.pt (sw_or (st_not (st_tru (se_isiBA .tup [] T.z_isinstance T.z_tuple (se_var (pv 0)) (fun _ h => nomatch h) (fun _ h => nomatch h) (fun h => nomatch h)))) (pw_or1 (st_cmp (op_oNe (u64 hr)) (se_fnB c_len T.z_len (sa_cons (se_var (pv 0)) sa_nil)) (se_g T.g_NET_PARTS))))) (sb_one (ss_ret se_bl)) sb_nil)
    (sb_cons (ss_asg (se_var (pv 0)) (sg_tup rfl (sgs_cons (sg_name sc_is_net.nd rfl) (sgs_cons (sg_name sc_is_net.nd rfl) (sgs_cons (sg_name sc_is_net.nd rfl) sgs_nil)))))
    (sb_cons (ss_if (PW.pt (sw_or (st_not (st_tru (se_isiBA .dic [] T.z_isinstance T.z_dict (se_var (pv 1)) (fun _ h => nomatch h) (fun _ h => nomatch h) (fun h => nomatch h)))) (sw_or (st_not (st_tru (se_isiBA .lst [] T.z_isinstance T.z_list (se_var (pv 2)) (fun _ h => nomatch h) (fun _ h => nomatch h) (fun h => nomatch h)))) (pw_or1 (st_not (st_tru (se_isiBA .lst [] T.z_isinstance T.z_list (se_var (pv 3)) (fun _ h => nomatch h) (fun _ h => nomatch h) (fun h => nomatch h)))))))) (sb_one (ss_ret se_bl)) sb_nil)
    (sb_cons (ss_if (st_not (st_tru (se_fnB (c_all rfl) T.z_all (sa_cons (se_lc (own := [("key", 4), ("number", 5)]) rfl sc_is_net.nd (si_itA (se_var (pv 1))) (blkOk_by (own := [("key", 4), ("number", 5)]) (N := N_is_net) (sc := defScope s_is_net) (by decide +kernel)) (fun _ _ _ _ _ => (sg_tup rfl (sgs_cons (sg_name sc_is_net.nd rfl) (sgs_cons (sg_name sc_is_net.nd rfl) sgs_nil)))) (fun _ _ _ _ _ => sts_nil) (fun _ _ _ _ _ => (se_andV (se_call I_is_situation (hr.mono (by decide)) takes0' (sa_cons (se_var (pv 4)) sa_nil) (len_cons len_nil)) (se_one (se_call I_is_number (hr.mono (by decide)) takes0' (sa_cons (se_var (pv 5)) sa_nil) (len_cons len_nil)))))) sa_nil)))) (sb_one (ss_ret se_bl)) sb_nil)
    (sb_one (ss_ret (se_andV (se_fnB (c_all rfl) T.z_all (sa_cons (se_lc (own := [("link", 6)]) rfl sc_is_net.nd (si_iter (se_var (pv 2))) (blkOk_by (own := [("link", 6)]) (N := N_is_net) (sc := defScope s_is_net) (by decide +kernel)) (fun _ _ _ _ _ => (sg_name sc_is_net.nd rfl)) (fun _ _ _ _ _ => sts_nil) (fun _ _ _ _ _ => (se_call I_is_link (hr.mono (by decide)) takes0' (sa_cons (se_var (pv 6)) sa_nil) (len_cons len_nil)))) sa_nil)) (se_one (se_fnB (c_all rfl) T.z_all (sa_cons (se_lc (own := [("stop", 7)]) rfl sc_is_net.nd (si_iter (se_var (pv 3))) (blkOk_by (own := [("stop", 7)]) (N := N_is_net) (sc := defScope s_is_net) (by decide +kernel)) (fun _ _ _ _ _ => (sg_name sc_is_net.nd rfl)) (fun _ _ _ _ _ => sts_nil) (fun _ _ _ _ _ => (se_call I_is_number (hr.mono (by decide)) takes0' (sa_cons (se_var (pv 7)) sa_nil) (len_cons len_nil)))) sa_nil))))))))))
abbrev s_Readeru_initu : Stmt := (inClass (top 34) 0)
abbrev N_Readeru_initu : List Str := ["self", "net", "links", "stops", "number", "mark", "later", "row", "stop"]
theorem sc_Readeru_initu : FnScope N_Readeru_initu ["self", "net"] (defScope s_Readeru_initu) := ⟨rfl, rfl, rfl, by decide +kernel, rfl, by decide +kernel, by decide +kernel⟩
theorem b_Readeru_initu {f : Addr} (T : Txt P K mg cm) : BodyOk P w K mg base cm N_Readeru_initu "Reader.__init__" (defScope s_Readeru_initu) f (defBody s_Readeru_initu) 0 m_Readeru_initu := by
  intro fx cdv A outer s H E hr tk hp
  exact (sb_cons (ss_asgT rfl (se_var (pv 1)) (st_fd T.c_Reader T.n_Reader_places (pv 0) (st_nm (i := 2) sc_Readeru_initu.nd rfl (st_nm (i := 3) sc_Readeru_initu.nd rfl st_nil))))
    (sb_cons (ss_fld (se_var (pv 0)) (se_dc (own := [("stop", 8)]) rfl sc_Readeru_initu.nd (si_iter (se_var (pv 3))) (blkOk_by (own := [("stop", 8)]) (N := N_Readeru_initu) (sc := defScope s_Readeru_initu) (by decide +kernel)) (fun _ _ _ _ _ => (sg_name sc_Readeru_initu.nd rfl)) (fun _ _ _ _ _ => sts_nil) (fun _ _ _ _ _ => (se_var (pv 8))) (fun _ _ _ _ _ => se_bl)) T.c_Reader T.n_Reader_stops)
    (sb_cons (ss_fld (se_var (pv 0)) se_nd0 T.c_Reader T.n_Reader_next_ones)
    (sb_one (ss_for hp rfl (si_iter (se_var (pv 2))) (sg_tup rfl (sgs_cons (sg_name sc_Readeru_initu.nd rfl) (sgs_cons (sg_name sc_Readeru_initu.nd rfl) (sgs_cons (sg_name sc_Readeru_initu.nd rfl) sgs_nil)))) (sb_cons (ss_set sc_Readeru_initu.nd rfl (se_setD (u65 hr) (se_fld (se_var (pv 0)) T.c_Reader T.n_Reader_next_ones) (se_tup (sa_cons (se_var (pv 4)) (sa_cons (se_var (pv 5)) sa_nil))) se_dic0))
    (sb_one (ss_putN (u65 hr) (se_var (pv 7)) (se_var (pv 6)) se_bl))))))))
abbrev s_Reader_has : Stmt := (inClass (top 34) 4)
abbrev N_Reader_has : List Str := ["self", "stand"]
theorem sc_Reader_has : FnScope N_Reader_has ["self", "stand"] (defScope s_Reader_has) := ⟨rfl, rfl, rfl, by decide +kernel, rfl, by decide +kernel, by decide +kernel⟩
theorem b_Reader_has {f : Addr} (T : Txt P K mg cm) : BodyOk P w K mg base cm N_Reader_has "Reader.has" (defScope s_Reader_has) f (defBody s_Reader_has) 0 m_Reader_has := by
  intro fx cdv A outer s H E hr tk hp
  exact (sb_one ss_never)
abbrev s_Reader_is_closed : Stmt := (inClass (top 34) 7)
abbrev N_Reader_is_closed : List Str := ["self", "situation", "step", "most", "marks", "numbers", "later", "stand"]
theorem sc_Reader_is_closed : FnScope N_Reader_is_closed ["self", "situation", "step"] (defScope s_Reader_is_closed) := ⟨rfl, rfl, rfl, by decide +kernel, rfl, by decide +kernel, by decide +kernel⟩
theorem b_Reader_is_closed {f : Addr} (T : Txt P K mg cm) : BodyOk P w K mg base cm N_Reader_is_closed "Reader.is_closed" (defScope s_Reader_is_closed) f (defBody s_Reader_is_closed) 0 m_Reader_is_closed := by
  intro fx cdv A outer s H E hr tk hp
  exact (sb_cons ss_never
    (sb_cons ss_never
    (sb_one ss_never)))
abbrev s_holds : Stmt := (top 35)
abbrev N_holds : List Str := ["ways", "net", "reader", "all_steps", "step", "situation"]
theorem sc_holds : FnScope N_holds ["ways", "net"] (defScope s_holds) := ⟨rfl, rfl, rfl, by decide +kernel, rfl, by decide +kernel, by decide +kernel⟩
theorem b_holds {f : Addr} (T : Txt P K mg cm) (I_steps : FI P w K mg base cm "steps" 6 1 G_steps) (I_begun : FI P w K mg base cm "begun" 1 1 G_begun) (I_is_net : FI P w K mg base cm "is_net" 3 1 G_is_net) (I_Readeru_initu : CI P w K mg base cm "Reader" 0 1 2 G_Readeru_initu) (I_Reader_has : MtI P w K mg base cm 0 "has" 1 2 G_Reader_has) (I_Reader_is_closed : MtI P w K mg base cm 0 "is_closed" 1 3 G_Reader_is_closed) : BodyOk P w K mg base cm N_holds "holds" (defScope s_holds) f (defBody s_holds) 6 m_holds := by
  intro fx cdv A outer s H E hr tk hp
  exact (sb_cons (ss_if (st_not (st_tru (se_call I_is_net (hr.mono (by decide)) tk (sa_cons (se_var (pv 1)) sa_nil) (len_cons len_nil)))) (sb_one (ss_ret se_bl)) sb_nil)
    (sb_cons (ss_asg (se_tup (sa_cons (se_make I_Readeru_initu (hr.mono (by decide)) tk (sa_cons (se_var (pv 1)) sa_nil) (len_cons len_nil)) (sa_cons (se_call I_steps (hr.mono (by decide)) tk (sa_cons (se_var (pv 0)) sa_nil) (len_cons len_nil)) sa_nil))) (sg_tup rfl (sgs_cons (sg_name sc_holds.nd rfl) (sgs_cons (sg_name sc_holds.nd rfl) sgs_nil))))
    (sb_cons (ss_if (st_not (st_tru (se_fnB (c_all rfl) T.z_all (sa_cons (se_lc (own := [("step", 4)]) rfl sc_holds.nd (si_iter (se_var (pv 3))) (blkOk_by (own := [("step", 4)]) (N := N_holds) (sc := defScope s_holds) (by decide +kernel)) (fun _ _ _ _ _ => (sg_name sc_holds.nd rfl)) (fun _ _ _ _ _ => sts_nil) (fun _ _ _ _ _ => (se_meth I_Reader_has (hr.mono (by decide)) takes0' (se_var (pv 2)) (sa_cons (se_call I_begun (hr.mono (by decide)) takes0' (sa_cons (se_var (pv 4)) sa_nil) (len_cons len_nil)) sa_nil) (len_cons len_nil)))) sa_nil)))) (sb_one (ss_ret se_bl)) sb_nil)
    (sb_one (ss_ret (se_fnB (c_all rfl) T.z_all (sa_cons (se_lc2 (own := [("situation", 5), ("step", 4)]) (own1 := [4]) rfl sc_holds.nd (si_keysF (se_fld (se_var (pv 2)) T.c_Reader T.n_Reader_places)) (blkOk_by (own := [("situation", 5), ("step", 4)]) (N := N_holds) (sc := defScope s_holds) (by decide +kernel)) (fun _ _ _ _ _ => (sg_name sc_holds.nd rfl)) (fun _ _ _ _ _ => sts_nil) (fun _ _ _ _ _ => (si_iter (se_var (pv 3)))) (fun _ _ _ _ _ => (sg_name sc_holds.nd rfl)) (fun _ _ _ _ _ => sts_nil) (fun _ _ _ _ _ => (se_meth I_Reader_is_closed (hr.mono (by decide)) takes0' (se_var (pv 2)) (sa_cons (se_var (pv 5)) (sa_cons (se_var (pv 4)) sa_nil)) (len_cons (len_cons len_nil))))) sa_nil)))))))
abbrev s_law_bag : Stmt := (top 53)
abbrev N_law_bag : List Str := ["_law_script", "_law_at", "_law_cell", "_law_large", "_law_mixed"]
theorem sc_law_bag : FnScope N_law_bag ["_law_script", "_law_at"] (defScope s_law_bag) := ⟨rfl, rfl, rfl, by decide +kernel, rfl, by decide +kernel, by decide +kernel⟩
theorem b_law_bag {f : Addr} (T : Txt P K mg cm) : BodyOk P w K mg base cm N_law_bag "_law_bag" (defScope s_law_bag) f (defBody s_law_bag) 0 m_law_bag := by
  intro fx cdv A outer s H E hr tk hp
  exact (sb_cons (ss_set sc_law_bag.nd rfl (se_ifE (st_cmp op_oLt (se_var (pv 1)) (se_fnB c_len T.z_len (sa_cons (se_var (pv 0)) sa_nil))) (se_idx (u65 hr) (se_var (pv 0)) (se_var (pv 1))) se_int))
    (sb_cons (ss_set sc_law_bag.nd rfl (se_ifE (st_cmp op_oGe (se_fnB c_abs T.z_abs (sa_cons (se_var (pv 2)) sa_nil)) (se_op op_oPow se_int se_int)) (se_fnB c_abs T.z_abs (sa_cons (se_var (pv 2)) sa_nil)) se_int))
    (sb_cons (ss_set sc_law_bag.nd rfl (se_op op_oAdd (se_op op_oAdd (se_op op_oMod (se_fnT c_int T.z_int (sa_cons (se_var (pv 2)) sa_nil)) se_int) (se_op op_oMul se_int (se_var (pv 1)))) se_int))
    (sb_one (ss_ret (se_lst (sa_cons (se_var (pv 3)) (sa_cons (se_op op_oAdd (se_op op_oMod (se_fnT c_int T.z_int (sa_cons (se_op op_oAdd (se_op op_oAdd (se_op op_oMul (se_var (pv 4)) (se_var (pv 4))) (se_op op_oMul se_int (se_var (pv 1)))) se_int) sa_nil)) se_int) se_int) (sa_cons se_int sa_nil)))))))))
abbrev s_law_take : Stmt := (top 54)
abbrev N_law_take : List Str := ["_law_bag_here", "_law_size", "_law_digit"]
theorem sc_law_take : FnScope N_law_take ["_law_bag_here", "_law_size"] (defScope s_law_take) := ⟨rfl, rfl, rfl, by decide +kernel, rfl, by decide +kernel, by decide +kernel⟩
theorem b_law_take {f : Addr} (T : Txt P K mg cm) : BodyOk P w K mg base cm N_law_take "_law_take" (defScope s_law_take) f (defBody s_law_take) 0 m_law_take := by
  intro fx cdv A outer s H E hr tk hp
  exact (sb_cons (ss_if (st_cmp op_oGt (se_idx (u65 hr) (se_var (pv 0)) se_int) se_int) (sb_cons (ss_set sc_law_take.nd rfl (se_op op_oMod (se_fnT c_int T.z_int (sa_cons (se_idx (u65 hr) (se_var (pv 0)) se_int) sa_nil)) (se_var (pv 1))))
    (sb_cons (ss_put (u65 hr) (se_var (pv 0)) se_int (se_op op_oFdiv (se_idx (u65 hr) (se_var (pv 0)) se_int) (se_var (pv 1))))
    (sb_one (ss_ret (se_var (pv 2)))))) sb_nil)
    (sb_cons (ss_put (u65 hr) (se_var (pv 0)) se_int (se_op op_oAdd (se_idx (u65 hr) (se_var (pv 0)) se_int) se_int))
    (sb_cons (ss_put (u65 hr) (se_var (pv 0)) se_int (se_op op_oMod (se_fnT c_int T.z_int (sa_cons (se_op op_oAdd (se_op op_oAdd (se_op op_oMul (se_idx (u65 hr) (se_var (pv 0)) se_int) se_int) (se_op op_oMul se_int (se_idx (u65 hr) (se_var (pv 0)) se_int))) se_int) sa_nil)) se_int))
    (sb_one (ss_ret (se_op op_oMod (se_fnT c_int T.z_int (sa_cons (se_op op_oFdiv (se_op op_oMul (se_fnT c_int T.z_int (sa_cons (se_op op_oFdiv (se_idx (u65 hr) (se_var (pv 0)) se_int) se_int) sa_nil)) (se_fnT c_int T.z_int (sa_cons (se_op op_oAdd (se_op op_oFdiv (se_idx (u65 hr) (se_var (pv 0)) se_int) se_int) se_int) sa_nil))) se_int) sa_nil)) (se_var (pv 1))))))))
abbrev s_law_points : Stmt := (top 55)
abbrev N_law_points : List Str := ["_law_bag_here", "_law_most", "_law_found", "_law_k"]
theorem sc_law_points : FnScope N_law_points ["_law_bag_here", "_law_most"] (defScope s_law_points) := ⟨rfl, rfl, rfl, by decide +kernel, rfl, by decide +kernel, by decide +kernel⟩
theorem b_law_points {f : Addr} (T : Txt P K mg cm) (I_law_take : FI P w K mg base cm "_law_take" 1 2 Gulaw_take) : BodyOk P w K mg base cm N_law_points "_law_points" (defScope s_law_points) f (defBody s_law_points) 1 m_law_points := by
  intro fx cdv A outer s H E hr tk hp
  exact (sb_cons (ss_set sc_law_points.nd rfl (se_lst sa_nil))
    (sb_cons (ss_for hp rfl (si_rng1 rfl T.z_range (pa_cons (se_call I_law_take (hr.mono (by decide)) tk (sa_cons (se_var (pv 0)) (sa_cons (se_op op_oAdd (se_var (pv 1)) se_int) sa_nil)) (len_cons (len_cons len_nil))) pa_nil)) (sg_name sc_law_points.nd rfl) (sb_one (ss_expr (se_bmL PySem.F.slot_list_append PySem.F.type_list_append mt_oAppend (se_var (pv 2)) (sa_cons (se_ifE (st_cmp (op_oEq (u64 hr)) (se_call I_law_take (hr.mono (by decide)) tk (sa_cons (se_var (pv 0)) (sa_cons se_int sa_nil)) (len_cons (len_cons len_nil))) se_int) (se_tup (sa_cons se_str sa_nil)) (se_tup (sa_cons se_str (sa_cons (se_call I_law_take (hr.mono (by decide)) tk (sa_cons (se_var (pv 0)) (sa_cons (se_op op_oAdd (se_var (pv 3)) se_int) sa_nil)) (len_cons (len_cons len_nil))) sa_nil)))) sa_nil)))))
    (sb_one (ss_ret (se_fnT c_tuple T.z_tuple (sa_cons (se_var (pv 2)) sa_nil))))))
abbrev s_law_way : Stmt := (top 56)
abbrev N_law_way : List Str := ["_law_bag_here", "_law_most", "_law_quiet", "_law_points_here", "_law_left", "_law_takes", "_law_many", "_law_walked", "_law_index", "_law_is_hop", "_law_modes", "_law_word"]
theorem sc_law_way : FnScope N_law_way ["_law_bag_here", "_law_most", "_law_quiet"] (defScope s_law_way) := ⟨rfl, rfl, rfl, by decide +kernel, rfl, by decide +kernel, by decide +kernel⟩
theorem b_law_way {f : Addr} (T : Txt P K mg cm) (I_law_take : FI P w K mg base cm "_law_take" 1 2 Gulaw_take) (I_law_points : FI P w K mg base cm "_law_points" 2 2 Gulaw_points) : BodyOk P w K mg base cm N_law_way "_law_way" (defScope s_law_way) f (defBody s_law_way) 2 m_law_way := by
  intro fx cdv A outer s H E hr tk hp
  exact (sb_cons (ss_set sc_law_way.nd rfl (se_call I_law_points (hr.mono (by decide)) tk (sa_cons (se_var (pv 0)) (sa_cons (se_var (pv 1)) sa_nil)) (len_cons (len_cons len_nil))))
    (sb_cons (ss_par rfl sc_law_way.nd rfl rfl (by decide) (sa_cons (se_listRg1 rfl T.z_list T.z_range (se_op op_oAdd (se_fnB c_len T.z_len (sa_cons (se_var (pv 3)) sa_nil)) se_int)) (sa_cons (se_lst sa_nil) sa_nil)))
    (sb_cons (ss_set sc_law_way.nd rfl (se_op op_oAdd se_int (se_call I_law_take (hr.mono (by decide)) tk (sa_cons (se_var (pv 0)) (sa_cons (se_fnB c_len T.z_len (sa_cons (se_var (pv 4)) sa_nil)) sa_nil)) (len_cons (len_cons len_nil)))))
    (sb_cons (ss_set sc_law_way.nd rfl (se_fnB (c_min rfl) T.z_min (sa_cons (se_idx (u65 hr) (se_lst (sa_cons se_int (sa_cons se_int (sa_cons se_int (sa_cons se_int (sa_cons se_int (sa_cons se_int sa_nil))))))) (se_call I_law_take (hr.mono (by decide)) tk (sa_cons (se_var (pv 0)) (sa_cons se_int sa_nil)) (len_cons (len_cons len_nil)))) (sa_cons (se_op op_oSub (se_var (pv 6)) se_int) sa_nil))))
    (sb_cons (ss_for hp rfl (si_rng1 rfl T.z_range (pa_cons (se_var (pv 6)) pa_nil)) (sg_name sc_law_way.nd rfl) (sb_cons (ss_set sc_law_way.nd rfl (se_chain op_oLe op_oLe se_int (se_var (pv 8)) (se_var (pv 7))))
    (sb_cons (ss_set sc_law_way.nd rfl (se_lst (sa_cons se_str (sa_cons se_str (sa_cons se_str sa_nil)))))
    (sb_cons (ss_if (PW.pt (sw_and (st_cmp op_oGt (se_var (pv 8)) (se_var (pv 7))) (sw_and (st_cmp (op_oNe (u64 hr)) (se_var (pv 5)) (se_lst sa_nil)) (pw_and1 (st_cmp (op_oNe (u64 hr)) (se_idx (u65 hr) (se_idx (u65 hr) (se_var (pv 5)) (se_neg se_int)) se_int) se_str))))) (sb_one (ss_expr (se_bmL PySem.F.slot_list_append PySem.F.type_list_append mt_oAppend (se_var (pv 10)) (sa_cons se_str sa_nil)))) sb_nil)
    (sb_cons (ss_set sc_law_way.nd rfl se_str)
    (sb_cons (ss_if (st_cmp (op_oEq (u64 hr)) (se_call I_law_take (hr.mono (by decide)) tk (sa_cons (se_var (pv 0)) (sa_cons (se_var (pv 2)) sa_nil)) (len_cons (len_cons len_nil))) se_int) (sb_one (ss_set sc_law_way.nd rfl (se_ifE (st_tru (se_var (pv 9))) se_str se_str))) sb_nil)
    (sb_one (ss_expr (se_bmL PySem.F.slot_list_append PySem.F.type_list_append mt_oAppend (se_var (pv 5)) (sa_cons (se_tup (sa_cons (se_var (pv 11)) (sa_cons (se_bmL PySem.F.slot_list_pop PySem.F.type_list_pop mt_oPop (se_var (pv 4)) (sa_cons (se_call I_law_take (hr.mono (by decide)) tk (sa_cons (se_var (pv 0)) (sa_cons (se_fnB c_len T.z_len (sa_cons (se_var (pv 4)) sa_nil)) sa_nil)) (len_cons (len_cons len_nil))) sa_nil)) (sa_cons (se_idx (u65 hr) (se_var (pv 10)) (se_call I_law_take (hr.mono (by decide)) tk (sa_cons (se_var (pv 0)) (sa_cons (se_fnB c_len T.z_len (sa_cons (se_var (pv 10)) sa_nil)) sa_nil)) (len_cons (len_cons len_nil)))) sa_nil)))) sa_nil))))))))))
    (sb_one (ss_ret (se_tup (sa_cons (se_var (pv 3)) (sa_cons (se_fnT c_tuple T.z_tuple (sa_cons (se_var (pv 5)) sa_nil)) (sa_cons (se_var (pv 7)) sa_nil)))))))))))
abbrev s_is_integer : Stmt := (top 40)
abbrev N_is_integer : List Str := ["value"]
theorem sc_is_integer : FnScope N_is_integer ["value"] (defScope s_is_integer) := ⟨rfl, rfl, rfl, by decide +kernel, rfl, by decide +kernel, by decide +kernel⟩
theorem b_is_integer {f : Addr} (T : Txt P K mg cm) : BodyOk P w K mg base cm N_is_integer "is_integer" (defScope s_is_integer) f (defBody s_is_integer) 0 m_is_integer := by
  intro fx cdv A outer s H E hr tk hp
  exact (sb_one (ss_ret (se_andV (se_isiB .int [] T.z_isinstance T.z_int (se_var (pv 0)) (fun _ h => nomatch h) (fun _ h => nomatch h) (fun h => nomatch h)) (se_one (se_notV (se_isiB .bl [] T.z_isinstance T.z_bool (se_var (pv 0)) (fun _ h => nomatch h) (fun _ h => nomatch h) (fun h => nomatch h)))))))
abbrev s_is_place : Stmt := (top 46)
abbrev N_is_place : List Str := ["place", "index"]
theorem sc_is_place : FnScope N_is_place ["place", "index"] (defScope s_is_place) := ⟨rfl, rfl, rfl, by decide +kernel, rfl, by decide +kernel, by decide +kernel⟩
theorem b_is_place {f : Addr} (T : Txt P K mg cm) (I_is_integer : FI P w K mg base cm "is_integer" 1 1 G_is_integer) : BodyOk P w K mg base cm N_is_place "is_place" (defScope s_is_place) f (defBody s_is_place) 1 m_is_place := by
  intro fx cdv A outer s H E hr tk hp
  exact (sb_cons (ss_if (PW.pt (sw_or (st_not (st_tru (se_isiB .tup [] T.z_isinstance T.z_tuple (se_var (pv 0)) (fun _ h => nomatch h) (fun _ h => nomatch h) (fun h => nomatch h)))) (sw_or (st_cmp (op_oNotIn (u65 hr)) (se_fnB c_len T.z_len (sa_cons (se_var (pv 0)) sa_nil)) (se_tup (sa_cons se_int (sa_cons se_int sa_nil)))) (pw_or1 (st_not (st_tru (se_isiB .str [] T.z_isinstance T.z_str (se_idx (u65 hr) (se_var (pv 0)) se_int) (fun _ h => nomatch h) (fun _ h => nomatch h) (fun h => nomatch h)))))))) (sb_one (ss_ret se_bl)) sb_nil)
    (sb_cons (ss_if (st_cmp (op_oEq (u64 hr)) (se_fnB c_len T.z_len (sa_cons (se_var (pv 0)) sa_nil)) se_int) (sb_one (ss_ret (se_cmp (op_oEq (u64 hr)) (se_idx (u65 hr) (se_var (pv 0)) se_int) se_str))) sb_nil)
    (sb_one (ss_ret (se_andV (se_cmp (op_oEq (u64 hr)) (se_idx (u65 hr) (se_var (pv 0)) se_int) se_str) (se_andV (se_call I_is_integer (hr.mono (by decide)) tk (sa_cons (se_idx (u65 hr) (se_var (pv 0)) se_int) sa_nil) (len_cons len_nil)) (se_one (se_chain op_oLe op_oLe se_int (se_idx (u65 hr) (se_var (pv 0)) se_int) (se_var (pv 1))))))))))
abbrev s_checked_points : Stmt := (top 49)
abbrev N_checked_points : List Str := ["points", "index", "place"]
theorem sc_checked_points : FnScope N_checked_points ["points"] (defScope s_checked_points) := ⟨rfl, rfl, rfl, by decide +kernel, rfl, by decide +kernel, by decide +kernel⟩
theorem b_checked_points {f : Addr} (T : Txt P K mg cm) (I_is_place : FI P w K mg base cm "is_place" 2 2 G_is_place) : BodyOk P w K mg base cm N_checked_points "checked_points" (defScope s_checked_points) f (defBody s_checked_points) 2 m_checked_points := by
  intro fx cdv A outer s H E hr tk hp
  exact (sb_cons (ss_if (PW.pt (sw_or (st_not (st_tru (se_isiB .tup [] T.z_isinstance T.z_tuple (se_var (pv 0)) (fun _ h => nomatch h) (fun _ h => nomatch h) (fun h => nomatch h)))) (pw_or1 (st_cmp op_oGt (se_fnB c_len T.z_len (sa_cons (se_var (pv 0)) sa_nil)) (se_g T.g_MOST_POINTS))))) (sb_one ss_never) sb_nil)
    (sb_one (ss_for hp rfl (si_enum rfl T.z_enumerate (pa_cons (se_var (pv 0)) pa_nil)) (sg_tup rfl (sgs_cons (sg_name sc_checked_points.nd rfl) (sgs_cons (sg_name sc_checked_points.nd rfl) sgs_nil))) (sb_one (ss_if (st_not (st_tru (se_call I_is_place (hr.mono (by decide)) tk (sa_cons (se_var (pv 2)) (sa_cons (se_var (pv 1)) sa_nil)) (len_cons (len_cons len_nil))))) (sb_one ss_never) sb_nil)))))
abbrev s_is_take : Stmt := (top 47)
abbrev N_is_take : List Str := ["take", "points", "word", "point", "mode"]
theorem sc_is_take : FnScope N_is_take ["take", "points"] (defScope s_is_take) := ⟨rfl, rfl, rfl, by decide +kernel, rfl, by decide +kernel, by decide +kernel⟩
theorem b_is_take {f : Addr} (T : Txt P K mg cm) (I_is_integer : FI P w K mg base cm "is_integer" 1 1 G_is_integer) : BodyOk P w K mg base cm N_is_take "is_take" (defScope s_is_take) f (defBody s_is_take) 1 m_is_take := by
  intro fx cdv A outer s H E hr tk hp
  exact (sb_cons (ss_if (PW.pt (sw_or (st_not (st_tru (se_isiB .tup [] T.z_isinstance T.z_tuple (se_var (pv 0)) (fun _ h => nomatch h) (fun _ h => nomatch h) (fun h => nomatch h)))) (pw_or1 (st_cmp (op_oNe (u64 hr)) (se_fnB c_len T.z_len (sa_cons (se_var (pv 0)) sa_nil)) se_int)))) (sb_one (ss_ret se_bl)) sb_nil)
    (sb_cons (ss_asg (se_var (pv 0)) (sg_tup rfl (sgs_cons (sg_name sc_is_take.nd rfl) (sgs_cons (sg_name sc_is_take.nd rfl) (sgs_cons (sg_name sc_is_take.nd rfl) sgs_nil)))))
    (sb_cons (ss_if (PW.pt (sw_or (st_not (st_tru (se_isiB .str [] T.z_isinstance T.z_str (se_var (pv 2)) (fun _ h => nomatch h) (fun _ h => nomatch h) (fun h => nomatch h)))) (sw_or (st_not (st_tru (se_isiB .str [] T.z_isinstance T.z_str (se_var (pv 4)) (fun _ h => nomatch h) (fun _ h => nomatch h) (fun h => nomatch h)))) (pw_or1 (st_not (st_tru (se_call I_is_integer (hr.mono (by decide)) tk (sa_cons (se_var (pv 3)) sa_nil) (len_cons len_nil)))))))) (sb_one (ss_ret se_bl)) sb_nil)
    (sb_one (ss_ret (se_andV (se_cmp (op_oIn (u65 hr)) (se_var (pv 2)) (se_g T.g_WORDS)) (se_andV (se_cmp (op_oIn (u65 hr)) (se_var (pv 4)) (se_g T.g_MODES)) (se_one (se_chain op_oLe op_oLt se_int (se_var (pv 3)) (se_var (pv 1)))))))))))
abbrev s_is_allowed : Stmt := (top 48)
abbrev N_is_allowed : List Str := ["takes", "index", "hops", "word", "point", "mode", "is_hop", "take"]
theorem sc_is_allowed : FnScope N_is_allowed ["takes", "index", "hops"] (defScope s_is_allowed) := ⟨rfl, rfl, rfl, by decide +kernel, rfl, by decide +kernel, by decide +kernel⟩
theorem b_is_allowed {f : Addr} (T : Txt P K mg cm) : BodyOk P w K mg base cm N_is_allowed "is_allowed" (defScope s_is_allowed) f (defBody s_is_allowed) 0 m_is_allowed := by
  intro fx cdv A outer s H E hr tk hp
  exact (sb_cons (ss_asg (se_idx (u65 hr) (se_var (pv 0)) (se_var (pv 1))) (sg_tup rfl (sgs_cons (sg_name sc_is_allowed.nd rfl) (sgs_cons (sg_name sc_is_allowed.nd rfl) (sgs_cons (sg_name sc_is_allowed.nd rfl) sgs_nil)))))
    (sb_cons (ss_if (st_cmp (op_oIn (u65 hr)) (se_var (pv 4)) (se_lc (own := [("take", 7)]) rfl sc_is_allowed.nd (si_iter (se_slice (se_var (pv 0)) so_none (so_some (se_var (pv 1))))) (blkOk_by (own := [("take", 7)]) (N := N_is_allowed) (sc := defScope s_is_allowed) (by decide +kernel)) (fun _ _ _ _ _ => (sg_name sc_is_allowed.nd rfl)) (fun _ _ _ _ _ => sts_nil) (fun _ _ _ _ _ => (se_idx (u65 hr) (se_var (pv 7)) se_int)))) (sb_one (ss_ret se_bl)) sb_nil)
    (sb_cons (ss_set sc_is_allowed.nd rfl (se_chain op_oLe op_oLe se_int (se_var (pv 1)) (se_var (pv 2))))
    (sb_cons (ss_if (st_cmp (op_oEq (u64 hr)) (se_var (pv 3)) (se_ifE (st_tru (se_var (pv 6))) se_str se_str)) (sb_one (ss_ret se_bl)) sb_nil)
    (sb_one (ss_ret (se_orV (se_cmp (op_oNe (u64 hr)) (se_var (pv 5)) se_str) (se_one (se_andV (se_notV (se_var (pv 6))) (se_andV (se_cmp op_oGt (se_var (pv 1)) se_int) (se_one (se_cmp (op_oNe (u64 hr)) (se_idx (u65 hr) (se_idx (u65 hr) (se_var (pv 0)) (se_op op_oSub (se_var (pv 1)) se_int)) se_int) se_str))))))))))))
abbrev s_checked_takes : Stmt := (top 50)
abbrev N_checked_takes : List Str := ["points", "takes", "hops", "index", "take"]
theorem sc_checked_takes : FnScope N_checked_takes ["points", "takes", "hops"] (defScope s_checked_takes) := ⟨rfl, rfl, rfl, by decide +kernel, rfl, by decide +kernel, by decide +kernel⟩
theorem b_checked_takes {f : Addr} (T : Txt P K mg cm) (I_is_integer : FI P w K mg base cm "is_integer" 1 1 G_is_integer) (I_is_take : FI P w K mg base cm "is_take" 2 2 G_is_take) (I_is_allowed : FI P w K mg base cm "is_allowed" 1 3 G_is_allowed) : BodyOk P w K mg base cm N_checked_takes "checked_takes" (defScope s_checked_takes) f (defBody s_checked_takes) 2 m_checked_takes := by
  intro fx cdv A outer s H E hr tk hp
  exact (sb_cons (ss_if (PW.pt (sw_or (st_not (st_tru (se_call I_is_integer (hr.mono (by decide)) tk (sa_cons (se_var (pv 2)) sa_nil) (len_cons len_nil)))) (pw_or1 (st_cmp op_oLt (se_var (pv 2)) se_int)))) (sb_one ss_never) sb_nil)
    (sb_cons (ss_if (PW.pt (sw_or (st_not (st_tru (se_isiB .tup [] T.z_isinstance T.z_tuple (se_var (pv 1)) (fun _ h => nomatch h) (fun _ h => nomatch h) (fun h => nomatch h)))) (pw_or1 (st_not (st_chain op_oLe op_oLe se_int (se_fnB c_len T.z_len (sa_cons (se_var (pv 1)) sa_nil)) (se_g T.g_MOST_TAKES)))))) (sb_one ss_never) sb_nil)
    (sb_cons (ss_if (st_cmp op_oGe (se_var (pv 2)) (se_fnB c_len T.z_len (sa_cons (se_var (pv 1)) sa_nil))) (sb_one ss_never) sb_nil)
    (sb_one (ss_for hp rfl (si_enum rfl T.z_enumerate (pa_cons (se_var (pv 1)) pa_nil)) (sg_tup rfl (sgs_cons (sg_name sc_checked_takes.nd rfl) (sgs_cons (sg_name sc_checked_takes.nd rfl) sgs_nil))) (sb_one (ss_if (PW.pt (sw_or (st_not (st_tru (se_call I_is_take (hr.mono (by decide)) tk (sa_cons (se_var (pv 4)) (sa_cons (se_op op_oAdd (se_fnB c_len T.z_len (sa_cons (se_var (pv 0)) sa_nil)) se_int) sa_nil)) (len_cons (len_cons len_nil))))) (pw_or1 (st_not (st_tru (se_call I_is_allowed (hr.mono (by decide)) tk (sa_cons (se_var (pv 1)) (sa_cons (se_var (pv 3)) (sa_cons (se_var (pv 2)) sa_nil))) (len_cons (len_cons (len_cons len_nil))))))))) (sb_one ss_never) sb_nil)))))))
abbrev s_Wayu_initu : Stmt := (inClass (top 51) 1)
abbrev N_Wayu_initu : List Str := ["self", "points", "takes", "hops"]
theorem sc_Wayu_initu : FnScope N_Wayu_initu ["self", "points", "takes", "hops"] (defScope s_Wayu_initu) := ⟨rfl, rfl, rfl, by decide +kernel, rfl, by decide +kernel, by decide +kernel⟩
theorem b_Wayu_initu {f : Addr} (T : Txt P K mg cm) (I_checked_points : FI P w K mg base cm "checked_points" 3 1 G_checked_points) (I_checked_takes : FI P w K mg base cm "checked_takes" 3 3 G_checked_takes) : BodyOk P w K mg base cm N_Wayu_initu "Way.__init__" (defScope s_Wayu_initu) f (defBody s_Wayu_initu) 3 m_Wayu_initu := by
  intro fx cdv A outer s H E hr tk hp
  exact (sb_cons (ss_expr (se_call I_checked_points (hr.mono (by decide)) tk (sa_cons (se_var (pv 1)) sa_nil) (len_cons len_nil)))
    (sb_cons (ss_expr (se_call I_checked_takes (hr.mono (by decide)) tk (sa_cons (se_var (pv 1)) (sa_cons (se_var (pv 2)) (sa_cons (se_var (pv 3)) sa_nil))) (len_cons (len_cons (len_cons len_nil)))))
    (sb_cons (ss_fld (se_var (pv 0)) (se_var (pv 1)) T.c_Way T.n_Way_places)
    (sb_cons (ss_fld (se_var (pv 0)) (se_var (pv 2)) T.c_Way T.n_Way_locks)
    (sb_one (ss_fld (se_var (pv 0)) (se_var (pv 3)) T.c_Way T.n_Way_walked))))))
abbrev s_law_made : Stmt := (top 57)
abbrev N_law_made : List Str := ["_law_plain"]
theorem sc_law_made : FnScope N_law_made ["_law_plain"] (defScope s_law_made) := ⟨rfl, rfl, rfl, by decide +kernel, rfl, by decide +kernel, by decide +kernel⟩
theorem b_law_made {f : Addr} (T : Txt P K mg cm) (I_Wayu_initu_K2_hops : CkI P w K mg base cm "Way" 3 4 2 ["hops"] gd_Way_K2_hops 4 G_Wayu_initu) : BodyOk P w K mg base cm N_law_made "_law_made" (defScope s_law_made) f (defBody s_law_made) 5 m_law_made := by
  intro fx cdv A outer s H E hr tk hp
  exact (sb_one (ss_ret (se_makeK I_Wayu_initu_K2_hops (hr.mono (by decide)) tk (sa_cons (se_idx (u65 hr) (se_var (pv 0)) se_int) (sa_cons (se_idx (u65 hr) (se_var (pv 0)) se_int) sa_nil)) (sk_cons (se_idx (u65 hr) (se_var (pv 0)) se_int) sk_nil) (len_cons (len_cons len_nil)) (len_cons len_nil) (fun _ as bs h h2 => match as, bs, h, h2 with | [_, _], [_], _, _ => rfl))))
abbrev s_law_situations : Stmt := (top 58)
abbrev N_law_situations : List Str := ["_law_line", "_law_some"]
theorem sc_law_situations : FnScope N_law_situations [] (defScope s_law_situations) := ⟨rfl, rfl, rfl, by decide +kernel, rfl, by decide +kernel, by decide +kernel⟩
theorem b_law_situations {f : Addr} (T : Txt P K mg cm) : BodyOk P w K mg base cm N_law_situations "_law_situations" (defScope s_law_situations) f (defBody s_law_situations) 0 m_law_situations := by
  intro fx cdv A outer s H E hr tk hp
  exact (sb_cons (ss_set sc_law_situations.nd rfl (se_tup (sa_cons se_str (sa_cons se_str (sa_cons se_str (sa_cons se_str (sa_cons se_str sa_nil)))))))
    (sb_cons (ss_set sc_law_situations.nd rfl (se_lst (sa_cons (se_tup (sa_cons (se_var (pv 0)) (sa_cons se_int (sa_cons se_str sa_nil)))) (sa_cons (se_tup (sa_cons (se_slice (se_var (pv 0)) so_none (so_some se_int)) (sa_cons se_int (sa_cons se_str (sa_cons se_bl sa_nil))))) (sa_cons (se_tup (sa_cons (se_var (pv 0)) (sa_cons se_int (sa_cons se_str (sa_cons se_bl sa_nil))))) (sa_cons (se_tup (sa_cons (se_var (pv 0)) (sa_cons (se_neg se_int) (sa_cons se_str (sa_cons se_bl sa_nil))))) sa_nil))))))
    (sb_cons (ss_set sc_law_situations.nd rfl (se_op op_oAdd (se_var (pv 1)) (se_lst (sa_cons (se_tup (sa_cons (se_var (pv 0)) (sa_cons se_bl (sa_cons se_str (sa_cons se_bl sa_nil))))) (sa_cons (se_tup (sa_cons (se_var (pv 0)) (sa_cons se_int (sa_cons se_str (sa_cons se_bl sa_nil))))) (sa_cons (se_tup (sa_cons (se_var (pv 0)) (sa_cons se_int (sa_cons se_str (sa_cons se_int sa_nil))))) sa_nil))))))
    (sb_cons (ss_set sc_law_situations.nd rfl (se_op op_oAdd (se_var (pv 1)) (se_lst (sa_cons (se_tup (sa_cons (se_var (pv 0)) (sa_cons se_str (sa_cons se_str (sa_cons se_bl sa_nil))))) (sa_cons (se_tup (sa_cons (se_op op_oAdd (se_slice (se_var (pv 0)) so_none (so_some se_int)) (se_tup (sa_cons se_str sa_nil))) (sa_cons se_int (sa_cons se_str (sa_cons se_bl sa_nil))))) sa_nil)))))
    (sb_cons (ss_set sc_law_situations.nd rfl (se_op op_oAdd (se_var (pv 1)) (se_lst (sa_cons (se_tup (sa_cons (se_op op_oAdd (se_var (pv 0)) (se_tup (sa_cons se_str sa_nil))) (sa_cons se_int (sa_cons se_str (sa_cons se_bl sa_nil))))) (sa_cons se_non (sa_cons se_int (sa_cons se_str (sa_cons (se_tup sa_nil) sa_nil))))))))
    (sb_one (ss_ret (se_op op_oAdd (se_var (pv 1)) (se_lst (sa_cons (se_tup (sa_cons (se_var (pv 0)) (sa_cons se_int (sa_cons se_str (sa_cons se_bl sa_nil))))) (sa_cons (se_tup (sa_cons (se_op op_oAdd (se_slice (se_var (pv 0)) so_none (so_some se_int)) (se_tup (sa_cons se_non sa_nil))) (sa_cons se_int (sa_cons se_str (sa_cons se_bl sa_nil))))) (sa_cons (se_tup (sa_cons (se_var (pv 0)) (sa_cons se_int (sa_cons se_str (sa_cons se_non sa_nil))))) sa_nil))))))))))))
abbrev s_law_odd_nets : Stmt := (top 59)
abbrev N_law_odd_nets : List Str := ["_law_bag_here", "_law_right", "_law_found", "_law_links", "_law_link", "_law_stop", "_law_spot", "_law_key"]
theorem sc_law_odd_nets : FnScope N_law_odd_nets ["_law_bag_here"] (defScope s_law_odd_nets) := ⟨rfl, rfl, rfl, by decide +kernel, rfl, by decide +kernel, by decide +kernel⟩
theorem b_law_odd_nets {f : Addr} (T : Txt P K mg cm) (I_law_take : FI P w K mg base cm "_law_take" 1 2 Gulaw_take) (I_law_situations : FI P w K mg base cm "_law_situations" 1 0 Gulaw_situations) : BodyOk P w K mg base cm N_law_odd_nets "_law_odd_nets" (defScope s_law_odd_nets) f (defBody s_law_odd_nets) 1 m_law_odd_nets := by
  intro fx cdv A outer s H E hr tk hp
  exact (sb_cons (ss_set sc_law_odd_nets.nd rfl (se_tup (sa_cons (se_tup (sa_cons se_str (sa_cons se_str (sa_cons se_str (sa_cons se_str (sa_cons se_str sa_nil)))))) (sa_cons se_int (sa_cons se_str (sa_cons se_bl sa_nil))))))
    (sb_cons (ss_set sc_law_odd_nets.nd rfl (se_lst (sa_cons se_non (sa_cons se_int (sa_cons se_bl (sa_cons se_str (sa_cons se_str (sa_cons (se_lst sa_nil) (sa_cons (se_tup sa_nil) (sa_cons se_dic0 (sa_cons (se_tup (sa_cons se_dic0 (sa_cons (se_lst sa_nil) sa_nil))) (sa_cons (se_tup (sa_cons se_dic0 (sa_cons (se_lst sa_nil) (sa_cons (se_lst sa_nil) (sa_cons (se_lst sa_nil) sa_nil))))) (sa_cons (se_lst (sa_cons se_dic0 (sa_cons (se_lst sa_nil) (sa_cons (se_lst sa_nil) sa_nil)))) (sa_cons (se_tup (sa_cons (se_lst sa_nil) (sa_cons (se_lst sa_nil) (sa_cons (se_lst sa_nil) sa_nil)))) sa_nil))))))))))))))
    (sb_cons (ss_set sc_law_odd_nets.nd rfl (se_op op_oAdd (se_var (pv 2)) (se_lst (sa_cons (se_tup (sa_cons se_dic0 (sa_cons (se_tup sa_nil) (sa_cons (se_lst sa_nil) sa_nil)))) (sa_cons (se_tup (sa_cons se_dic0 (sa_cons (se_lst sa_nil) (sa_cons (se_tup sa_nil) sa_nil)))) (sa_cons (se_tup (sa_cons se_dic0 (sa_cons se_dic0 (sa_cons (se_lst sa_nil) sa_nil)))) (sa_cons (se_tup (sa_cons (se_dicA (u65 hr) (se_var (pv 1)) se_bl) (sa_cons (se_lst sa_nil) (sa_cons (se_lst sa_nil) sa_nil)))) (sa_cons (se_tup (sa_cons (se_dicA (u65 hr) (se_var (pv 1)) se_str) (sa_cons (se_lst sa_nil) (sa_cons (se_lst sa_nil) sa_nil)))) sa_nil))))))))
    (sb_cons (ss_expr (se_bmL PySem.F.slot_list_append PySem.F.type_list_append mt_oAppend (se_var (pv 2)) (sa_cons (se_tup (sa_cons (se_dicA (u65 hr) (se_var (pv 1)) se_non) (sa_cons (se_lst sa_nil) (sa_cons (se_lst sa_nil) sa_nil)))) sa_nil)))
    (sb_cons (ss_set sc_law_odd_nets.nd rfl (se_lst (sa_cons (se_tup (sa_cons se_int (sa_cons se_str sa_nil))) (sa_cons (se_tup (sa_cons se_int (sa_cons se_str (sa_cons se_int (sa_cons se_int sa_nil))))) (sa_cons (se_lst (sa_cons se_int (sa_cons se_str (sa_cons se_int sa_nil)))) (sa_cons (se_tup (sa_cons se_bl (sa_cons se_str (sa_cons se_int sa_nil)))) (sa_cons (se_tup (sa_cons se_int (sa_cons se_str (sa_cons se_str sa_nil)))) (sa_cons se_non (sa_cons (se_tup (sa_cons se_int (sa_cons se_int (sa_cons se_int sa_nil)))) sa_nil)))))))))
    (sb_cons (ss_for hp rfl (si_iter (se_var (pv 3))) (sg_name sc_law_odd_nets.nd rfl) (sb_one (ss_expr (se_bmL PySem.F.slot_list_append PySem.F.type_list_append mt_oAppend (se_var (pv 2)) (sa_cons (se_tup (sa_cons (se_dicA (u65 hr) (se_var (pv 1)) se_int) (sa_cons (se_lst (sa_cons (se_tup (sa_cons se_int (sa_cons se_str (sa_cons se_int sa_nil)))) (sa_cons (se_var (pv 4)) sa_nil))) (sa_cons (se_lst (sa_cons se_int sa_nil)) sa_nil)))) sa_nil)))))
    (sb_cons (ss_for hp rfl (si_iter (se_lst (sa_cons (se_tup (sa_cons se_int (sa_cons se_str (sa_cons se_int sa_nil)))) (sa_cons (se_tup (sa_cons se_int (sa_cons se_non (sa_cons se_int sa_nil)))) (sa_cons (se_tup (sa_cons se_int (sa_cons (se_lst (sa_cons se_str sa_nil)) (sa_cons se_int sa_nil)))) (sa_cons (se_tup (sa_cons se_int (sa_cons (se_tup (sa_cons se_str sa_nil)) (sa_cons se_int sa_nil)))) (sa_cons se_str (sa_cons (se_tup (sa_cons se_non (sa_cons se_str (sa_cons se_int sa_nil)))) sa_nil)))))))) (sg_name sc_law_odd_nets.nd rfl) (sb_one (ss_expr (se_bmL PySem.F.slot_list_append PySem.F.type_list_append mt_oAppend (se_var (pv 2)) (sa_cons (se_tup (sa_cons (se_dicA (u65 hr) (se_var (pv 1)) se_int) (sa_cons (se_lst (sa_cons (se_var (pv 4)) sa_nil)) (sa_cons (se_lst (sa_cons se_int sa_nil)) sa_nil)))) sa_nil)))))
    (sb_cons (ss_for hp rfl (si_iter (se_lst (sa_cons se_non (sa_cons se_bl (sa_cons se_bl (sa_cons se_str (sa_cons (se_tup (sa_cons se_int sa_nil)) (sa_cons (se_lst (sa_cons se_int sa_nil)) sa_nil)))))))) (sg_name sc_law_odd_nets.nd rfl) (sb_one (ss_expr (se_bmL PySem.F.slot_list_append PySem.F.type_list_append mt_oAppend (se_var (pv 2)) (sa_cons (se_tup (sa_cons (se_dicA (u65 hr) (se_var (pv 1)) se_int) (sa_cons (se_lst sa_nil) (sa_cons (se_lst (sa_cons se_int (sa_cons (se_var (pv 5)) sa_nil))) sa_nil)))) sa_nil)))))
    (sb_cons (ss_set sc_law_odd_nets.nd rfl (se_op op_oAdd (se_var (pv 2)) (se_lc (own := [("_law_key", 7)]) rfl sc_law_odd_nets.nd (si_iter (se_call0 I_law_situations (hr.mono (by decide)) tk)) (blkOk_by (own := [("_law_key", 7)]) (N := N_law_odd_nets) (sc := defScope s_law_odd_nets) (by decide +kernel)) (fun _ _ _ _ _ => (sg_name sc_law_odd_nets.nd rfl)) (fun _ _ _ _ _ => sts_nil) (fun _ _ _ _ _ => (se_tup (sa_cons (se_dicA (u65 hr) (se_var (pv 7)) se_int) (sa_cons (se_lst sa_nil) (sa_cons (se_lst (sa_cons se_int sa_nil)) sa_nil))))))))
    (sb_cons (ss_set sc_law_odd_nets.nd rfl (se_call I_law_take (hr.mono (by decide)) tk (sa_cons (se_var (pv 0)) (sa_cons (se_fnB c_len T.z_len (sa_cons (se_var (pv 2)) sa_nil)) sa_nil)) (len_cons (len_cons len_nil))))
    (sb_one (ss_ret (se_op op_oAdd (se_slice (se_var (pv 2)) (so_some (se_var (pv 6))) so_none) (se_slice (se_var (pv 2)) so_none (so_some (se_var (pv 6)))))))))))))))))
abbrev s_law : Stmt := (top 60)
abbrev N_law : List Str := ["_law_script", "_law_at", "_law_bag_here", "_law_ways", "_law_thing", "_law_text", "_law_k"]
theorem sc_law : FnScope N_law ["_law_script"] (defScope s_law) := ⟨rfl, rfl, rfl, by decide +kernel, rfl, by decide +kernel, by decide +kernel⟩
theorem b_law {f : Addr} (T : Txt P K mg cm) (I_holds : FI P w K mg base cm "holds" 7 2 G_holds) (I_law_bag : FI P w K mg base cm "_law_bag" 1 2 Gulaw_bag) (I_law_take : FI P w K mg base cm "_law_take" 1 2 Gulaw_take) (I_law_way : FI P w K mg base cm "_law_way" 3 3 Gulaw_way) (I_law_made : FI P w K mg base cm "_law_made" 6 1 Gulaw_made) (I_law_odd_nets : FI P w K mg base cm "_law_odd_nets" 2 1 Gulaw_odd_nets) : BodyOkG P w K mg base cm N_law "law" (defScope s_law) f (defBody s_law) 7 m_law := by
  intro fx cdv A outer s H E hgd hr tk hp
  exact (sb_cons (ss_for hp rfl (si_rng1 rfl T.z_range (pa_cons (se_fnB (c_max rfl) T.z_max (sa_cons se_int (sa_cons (se_fnB (c_min rfl) T.z_min (sa_cons se_int (sa_cons (se_fnB c_len T.z_len (sa_cons (se_var (pv 0)) sa_nil)) sa_nil))) sa_nil))) pa_nil)) (sg_name sc_law.nd rfl) (sb_cons (ss_set sc_law.nd rfl (se_call I_law_bag (hr.mono (by decide)) tk (sa_cons (se_var (pv 0)) (sa_cons (se_var (pv 1)) sa_nil)) (len_cons (len_cons len_nil))))
    (sb_cons (ss_setLc (own := [("_law_k", 6)]) rfl sc_law.nd rfl (si_rng1 rfl T.z_range (pa_cons (se_call I_law_take (hr.mono (by decide)) tk (sa_cons (se_var (pv 2)) (sa_cons se_int sa_nil)) (len_cons (len_cons len_nil))) pa_nil)) (blkOk_by (own := [("_law_k", 6)]) (N := N_law) (sc := defScope s_law) (by decide +kernel)) (fun _ _ _ _ _ => (sg_name sc_law.nd rfl)) (fun _ _ _ _ _ => sts_nil) (fun _ _ _ _ _ => (se_call I_law_made (hr.mono (by decide)) takes0' (sa_cons (se_call I_law_way (hr.mono (by decide)) takes0' (sa_cons (se_var (pv 2)) (sa_cons se_int (sa_cons se_int sa_nil))) (len_cons (len_cons (len_cons len_nil)))) sa_nil) (len_cons len_nil))))
    (sb_one (ss_for hp rfl (si_iter (se_call I_law_odd_nets (hr.mono (by decide)) tk (sa_cons (se_var (pv 2)) sa_nil) (len_cons len_nil))) (sg_name sc_law.nd rfl) (sb_cons (ss_set sc_law.nd rfl (se_fnB (c_reprU hgd (u65 hr)) T.z_repr (sa_cons (se_var (pv 4)) sa_nil)))
    (sb_one (ss_if (PW.pt (sw_or (st_cmp op_oNotB (se_call I_holds (hr.mono (by decide)) tk (sa_cons (se_var (pv 3)) (sa_cons (se_var (pv 4)) sa_nil)) (len_cons (len_cons len_nil))) se_bl) (sw_or (st_cmp (op_neTx (op_oNe (u64 hr))) (se_fnB (c_reprU hgd (u65 hr)) T.z_repr (sa_cons (se_var (pv 4)) sa_nil)) (se_var (pv 5))) (pw_or1 (st_cmp op_oNotB (se_call I_holds (hr.mono (by decide)) tk (sa_cons (se_lst sa_nil) (sa_cons (se_var (pv 4)) sa_nil)) (len_cons (len_cons len_nil))) se_bl))))) (sb_one (ss_ret se_bl)) sb_nil))))))))
    (sb_one (ss_ret (se_cmp op_oIsB (se_call I_holds (hr.mono (by decide)) tk (sa_cons (se_lst sa_nil) (sa_cons (se_tup (sa_cons se_dic0 (sa_cons (se_lst (sa_cons (se_tup (sa_cons se_int (sa_cons se_str (sa_cons se_int sa_nil)))) (sa_cons (se_tup (sa_cons se_int (sa_cons se_str (sa_cons se_int sa_nil)))) sa_nil))) (sa_cons (se_lst (sa_cons se_int (sa_cons se_int sa_nil))) sa_nil)))) sa_nil)) (len_cons (len_cons len_nil))) se_bl))))
end
theorem all_mk {P : Program} {w : World} {K : PySem.W.Frag} {h : Heap} {mg : Str → Option Value} {fa : Addr} (X : K.In h) (G : h.Ns mainGlobals mg) (hfa : mg "law" = some (.ref fa))
    {C0 C1 C2 C3 Ag_MARKS Ag_MODES Ag_QUIET_WORDS Ag_WORDS f0 f1 p1 f2 f3 f4 f5 p5 f6 p6 f7 f8 f9 f10 f11 f12 f13 f14 f15 f16 f17 f18 f19 f20 f21 f22 f23 f24 f25 f26 f27 f28 f29 D29 f30 f31 f32 f33 : Addr} {tg_ALONE tg_ANY tg_HEIGHTS tg_LESSER tg_MARKS_0 tg_MARKS_1 tg_MARKS_2 tg_MODES_0 tg_MODES_1 tg_MODES_2 tg_MOST_POINTS tg_MOST_TAKES tg_NET_PARTS tg_NONE tg_QUIET_WORDS_0 tg_QUIET_WORDS_1 tg_RISING tg_SHARED tg_WORDS_0 tg_WORDS_1 tg_WORDS_2 tk29_hops : Tok} {Dg_MARKS Dg_MODES Dg_QUIET_WORDS Dg_WORDS od0 an0 od1 an1 od2 an2 od3 an3 od4 an4 od5 an5 od6 an6 od7 an7 od8 an8 od9 an9 od10 an10 od11 an11 od12 an12 od13 an13 od14 an14 od15 an15 od16 an16 od17 an17 od18 an18 od19 an19 od20 an20 od21 an21 od22 an22 od23 an23 od24 an24 od25 an25 od26 an26 od27 an27 od28 an28 od29 an29 od30 an30 od31 an31 od32 an32 od33 an33 : Option Addr} {ng_MARKS ng_MODES ng_QUIET_WORDS ng_WORDS : Nat} {sg_MARKS sg_MODES sg_QUIET_WORDS sg_WORDS sl0 sl1 sl2 sl3 sl4 sl5 sl6 sl7 sl8 sl9 sl10 sl11 sl12 sl13 sl14 sl15 sl16 sl17 sl18 sl19 sl20 sl21 sl22 sl23 sl24 sl25 sl26 sl27 sl28 sl29 sl30 sl31 sl32 sl33 : Array (Option Value)} {oc0 dc0 pm0 cd0 ct0 kV0 oc1 dc1 pm1 cd1 ct1 kV1 oc2 dc2 pm2 cd2 ct2 kV2 oc3 dc3 pm3 cd3 ct3 kV3 oc4 dc4 pm4 cd4 ct4 kV4 oc5 dc5 pm5 cd5 ct5 kV5 oc6 dc6 pm6 cd6 ct6 kV6 oc7 dc7 pm7 cd7 ct7 kV7 oc8 dc8 pm8 cd8 ct8 kV8 oc9 dc9 pm9 cd9 ct9 kV9 oc10 dc10 pm10 cd10 ct10 kV10 oc11 dc11 pm11 cd11 ct11 kV11 oc12 dc12 pm12 cd12 ct12 kV12 oc13 dc13 pm13 cd13 ct13 kV13 oc14 dc14 pm14 cd14 ct14 kV14 oc15 dc15 pm15 cd15 ct15 kV15 oc16 dc16 pm16 cd16 ct16 kV16 oc17 dc17 pm17 cd17 ct17 kV17 oc18 dc18 pm18 cd18 ct18 kV18 oc19 dc19 pm19 cd19 ct19 kV19 oc20 dc20 pm20 cd20 ct20 kV20 oc21 dc21 pm21 cd21 ct21 kV21 oc22 dc22 pm22 cd22 ct22 kV22 oc23 dc23 pm23 cd23 ct23 kV23 oc24 dc24 pm24 cd24 ct24 kV24 oc25 dc25 pm25 cd25 ct25 kV25 oc26 dc26 pm26 cd26 ct26 kV26 oc27 dc27 pm27 cd27 ct27 kV27 oc28 dc28 pm28 cd28 ct28 kV28 oc29 dc29 pm29 cd29 ct29 oc30 dc30 pm30 cd30 ct30 kV30 oc31 dc31 pm31 cd31 ct31 kV31 oc32 dc32 pm32 cd32 ct32 kV32 oc33 dc33 pm33 cd33 ct33 kV33 : Value} {rs1 rs5 rs6 : List Value}
    (aC0 : PySem.W.nsIn K mainGlobals "Reader" = some (some (.ref C0)))
    (aC1 : PySem.W.nsIn K mainGlobals "WaitError" = some (some (.ref C1)))
    (aC2 : PySem.W.nsIn K mainGlobals "BadWay" = some (some (.ref C2)))
    (aC3 : PySem.W.nsIn K mainGlobals "Way" = some (some (.ref C3)))
    (pg0 : PySem.W.plainGet K C0 Str.empty = true)
    (hd0 : PySem.W.hasDictIn K C0 = true)
    (po0 : PySem.W.plainOver K C0 = true)
    (sa0 : PySem.W.findIn K (.ref C0) "__setattr__" = some (some (.builtin "object.__setattr__")))
    (pg3 : PySem.W.plainGet K C3 Str.empty = true)
    (hd3 : PySem.W.hasDictIn K C3 = true)
    (po3 : PySem.W.plainOver K C3 = true)
    (sa3 : PySem.W.findIn K (.ref C3) "__setattr__" = some (some (.builtin "object.__setattr__")))
    (gg_ALONE : PySem.W.nsIn K mainGlobals "ALONE" = some (some (.str "alone" tg_ALONE)))
    (gg_ANY : PySem.W.nsIn K mainGlobals "ANY" = some (some (.str "any" tg_ANY)))
    (gg_HEIGHTS : PySem.W.nsIn K mainGlobals "HEIGHTS" = some (some (.int (5) tg_HEIGHTS)))
    (gg_LESSER : PySem.W.nsIn K mainGlobals "LESSER" = some (some (.str "lesser" tg_LESSER)))
    (gg_MARKS : PySem.W.nsIn K mainGlobals "MARKS" = some (some (.ref Ag_MARKS)))
    (lkg_MARKS : K.lookup Ag_MARKS = some ⟨.type "tuple", Dg_MARKS, .seq #[(.str "none" tg_MARKS_0), (.str "shared" tg_MARKS_1), (.str "alone" tg_MARKS_2)] ng_MARKS, sg_MARKS⟩)
    (gg_MODES : PySem.W.nsIn K mainGlobals "MODES" = some (some (.ref Ag_MODES)))
    (lkg_MODES : K.lookup Ag_MODES = some ⟨.type "tuple", Dg_MODES, .seq #[(.str "shared" tg_MODES_0), (.str "alone" tg_MODES_1), (.str "rising" tg_MODES_2)] ng_MODES, sg_MODES⟩)
    (gg_MOST_POINTS : PySem.W.nsIn K mainGlobals "MOST_POINTS" = some (some (.int (4) tg_MOST_POINTS)))
    (gg_MOST_TAKES : PySem.W.nsIn K mainGlobals "MOST_TAKES" = some (some (.int (5) tg_MOST_TAKES)))
    (gg_NET_PARTS : PySem.W.nsIn K mainGlobals "NET_PARTS" = some (some (.int (3) tg_NET_PARTS)))
    (gg_NONE : PySem.W.nsIn K mainGlobals "NONE" = some (some (.str "none" tg_NONE)))
    (gg_QUIET_WORDS : PySem.W.nsIn K mainGlobals "QUIET_WORDS" = some (some (.ref Ag_QUIET_WORDS)))
    (lkg_QUIET_WORDS : K.lookup Ag_QUIET_WORDS = some ⟨.type "tuple", Dg_QUIET_WORDS, .seq #[(.str "try" tg_QUIET_WORDS_0), (.str "leap" tg_QUIET_WORDS_1)] ng_QUIET_WORDS, sg_QUIET_WORDS⟩)
    (gg_RISING : PySem.W.nsIn K mainGlobals "RISING" = some (some (.str "rising" tg_RISING)))
    (gg_SHARED : PySem.W.nsIn K mainGlobals "SHARED" = some (some (.str "shared" tg_SHARED)))
    (gg_WORDS : PySem.W.nsIn K mainGlobals "WORDS" = some (some (.ref Ag_WORDS)))
    (lkg_WORDS : K.lookup Ag_WORDS = some ⟨.type "tuple", Dg_WORDS, .seq #[(.str "take" tg_WORDS_0), (.str "try" tg_WORDS_1), (.str "leap" tg_WORDS_2)] ng_WORDS, sg_WORDS⟩)
    (fn_Reader_next_ones : PySem.W.findIn K (.ref C0) "next_ones" = some none)
    (fn_Reader_places : PySem.W.findIn K (.ref C0) "places" = some none)
    (fn_Reader_stops : PySem.W.findIn K (.ref C0) "stops" = some none)
    (fn_Way_locks : PySem.W.findIn K (.ref C3) "locks" = some none)
    (fn_Way_places : PySem.W.findIn K (.ref C3) "places" = some none)
    (fn_Way_walked : PySem.W.findIn K (.ref C3) "walked" = some none)
    (z_abs : PySem.W.nsIn K mainGlobals "abs" = some none)
    (z_all : PySem.W.nsIn K mainGlobals "all" = some none)
    (z_bool : PySem.W.nsIn K mainGlobals "bool" = some none)
    (z_dict : PySem.W.nsIn K mainGlobals "dict" = some none)
    (z_enumerate : PySem.W.nsIn K mainGlobals "enumerate" = some none)
    (z_int : PySem.W.nsIn K mainGlobals "int" = some none)
    (z_isinstance : PySem.W.nsIn K mainGlobals "isinstance" = some none)
    (z_len : PySem.W.nsIn K mainGlobals "len" = some none)
    (z_list : PySem.W.nsIn K mainGlobals "list" = some none)
    (z_max : PySem.W.nsIn K mainGlobals "max" = some none)
    (z_min : PySem.W.nsIn K mainGlobals "min" = some none)
    (z_range : PySem.W.nsIn K mainGlobals "range" = some none)
    (z_repr : PySem.W.nsIn K mainGlobals "repr" = some none)
    (z_reversed : PySem.W.nsIn K mainGlobals "reversed" = some none)
    (z_sorted : PySem.W.nsIn K mainGlobals "sorted" = some none)
    (z_str : PySem.W.nsIn K mainGlobals "str" = some none)
    (z_tuple : PySem.W.nsIn K mainGlobals "tuple" = some none)
    (a0 : PySem.W.nsIn K mainGlobals "mark_of" = some (some (.ref f0)))
    (l0 : K.lookup f0 = some ⟨oc0, od0, .func (PySem.W.fnOf "mark_of" "mark_of" (defArgs s_mark_of) (defBody s_mark_of) (defScope s_mark_of) .none kV0 dc0 pm0 an0 cd0 ct0), sl0⟩)
    (c0 : PySem.W.codeIn K cd0 "mark_of" = true)
    (k0 : PySem.W.keepIn K (.ref f0) = true)
    (a1 : PySem.W.findIn K (.ref C3) "points" = some (some (.ref p1)))
    (gq1 : PySem.W.specialIn K (.ref p1) "__get__" = some (some (.builtin "property.__get__")))
    (t1 : PySem.W.takesIn K (.ref p1) = some true)
    (r1 : PySem.W.recIn K p1 "property" = some (.ref f1 :: rs1))
    (l1 : K.lookup f1 = some ⟨oc1, od1, .func (PySem.W.fnOf "points" "Way.points" (defArgs s_Way_points) (defBody s_Way_points) (defScope s_Way_points) .none kV1 dc1 pm1 an1 cd1 ct1), sl1⟩)
    (c1 : PySem.W.codeIn K cd1 "Way.points" = true)
    (k1 : PySem.W.keepIn K (.ref f1) = true)
    (a2 : PySem.W.nsIn K mainGlobals "point_parents" = some (some (.ref f2)))
    (l2 : K.lookup f2 = some ⟨oc2, od2, .func (PySem.W.fnOf "point_parents" "point_parents" (defArgs s_point_parents) (defBody s_point_parents) (defScope s_point_parents) .none kV2 dc2 pm2 an2 cd2 ct2), sl2⟩)
    (c2 : PySem.W.codeIn K cd2 "point_parents" = true)
    (k2 : PySem.W.keepIn K (.ref f2) = true)
    (a3 : PySem.W.nsIn K mainGlobals "chain_of" = some (some (.ref f3)))
    (l3 : K.lookup f3 = some ⟨oc3, od3, .func (PySem.W.fnOf "chain_of" "chain_of" (defArgs s_chain_of) (defBody s_chain_of) (defScope s_chain_of) .none kV3 dc3 pm3 an3 cd3 ct3), sl3⟩)
    (c3 : PySem.W.codeIn K cd3 "chain_of" = true)
    (k3 : PySem.W.keepIn K (.ref f3) = true)
    (a4 : PySem.W.nsIn K mainGlobals "step_from" = some (some (.ref f4)))
    (l4 : K.lookup f4 = some ⟨oc4, od4, .func (PySem.W.fnOf "step_from" "step_from" (defArgs s_step_from) (defBody s_step_from) (defScope s_step_from) .none kV4 dc4 pm4 an4 cd4 ct4), sl4⟩)
    (c4 : PySem.W.codeIn K cd4 "step_from" = true)
    (k4 : PySem.W.keepIn K (.ref f4) = true)
    (a5 : PySem.W.findIn K (.ref C3) "takes" = some (some (.ref p5)))
    (gq5 : PySem.W.specialIn K (.ref p5) "__get__" = some (some (.builtin "property.__get__")))
    (t5 : PySem.W.takesIn K (.ref p5) = some true)
    (r5 : PySem.W.recIn K p5 "property" = some (.ref f5 :: rs5))
    (l5 : K.lookup f5 = some ⟨oc5, od5, .func (PySem.W.fnOf "takes" "Way.takes" (defArgs s_Way_takes) (defBody s_Way_takes) (defScope s_Way_takes) .none kV5 dc5 pm5 an5 cd5 ct5), sl5⟩)
    (c5 : PySem.W.codeIn K cd5 "Way.takes" = true)
    (k5 : PySem.W.keepIn K (.ref f5) = true)
    (a6 : PySem.W.findIn K (.ref C3) "hops" = some (some (.ref p6)))
    (gq6 : PySem.W.specialIn K (.ref p6) "__get__" = some (some (.builtin "property.__get__")))
    (t6 : PySem.W.takesIn K (.ref p6) = some true)
    (r6 : PySem.W.recIn K p6 "property" = some (.ref f6 :: rs6))
    (l6 : K.lookup f6 = some ⟨oc6, od6, .func (PySem.W.fnOf "hops" "Way.hops" (defArgs s_Way_hops) (defBody s_Way_hops) (defScope s_Way_hops) .none kV6 dc6 pm6 an6 cd6 ct6), sl6⟩)
    (c6 : PySem.W.codeIn K cd6 "Way.hops" = true)
    (k6 : PySem.W.keepIn K (.ref f6) = true)
    (a7 : PySem.W.nsIn K mainGlobals "steps_before" = some (some (.ref f7)))
    (l7 : K.lookup f7 = some ⟨oc7, od7, .func (PySem.W.fnOf "steps_before" "steps_before" (defArgs s_steps_before) (defBody s_steps_before) (defScope s_steps_before) .none kV7 dc7 pm7 an7 cd7 ct7), sl7⟩)
    (c7 : PySem.W.codeIn K cd7 "steps_before" = true)
    (k7 : PySem.W.keepIn K (.ref f7) = true)
    (a8 : PySem.W.nsIn K mainGlobals "sources" = some (some (.ref f8)))
    (l8 : K.lookup f8 = some ⟨oc8, od8, .func (PySem.W.fnOf "sources" "sources" (defArgs s_sources) (defBody s_sources) (defScope s_sources) .none kV8 dc8 pm8 an8 cd8 ct8), sl8⟩)
    (c8 : PySem.W.codeIn K cd8 "sources" = true)
    (k8 : PySem.W.keepIn K (.ref f8) = true)
    (a9 : PySem.W.nsIn K mainGlobals "steps" = some (some (.ref f9)))
    (l9 : K.lookup f9 = some ⟨oc9, od9, .func (PySem.W.fnOf "steps" "steps" (defArgs s_steps) (defBody s_steps) (defScope s_steps) .none kV9 dc9 pm9 an9 cd9 ct9), sl9⟩)
    (c9 : PySem.W.codeIn K cd9 "steps" = true)
    (k9 : PySem.W.keepIn K (.ref f9) = true)
    (a10 : PySem.W.nsIn K mainGlobals "begun" = some (some (.ref f10)))
    (l10 : K.lookup f10 = some ⟨oc10, od10, .func (PySem.W.fnOf "begun" "begun" (defArgs s_begun) (defBody s_begun) (defScope s_begun) .none kV10 dc10 pm10 an10 cd10 ct10), sl10⟩)
    (c10 : PySem.W.codeIn K cd10 "begun" = true)
    (k10 : PySem.W.keepIn K (.ref f10) = true)
    (a11 : PySem.W.nsIn K mainGlobals "is_number" = some (some (.ref f11)))
    (l11 : K.lookup f11 = some ⟨oc11, od11, .func (PySem.W.fnOf "is_number" "is_number" (defArgs s_is_number) (defBody s_is_number) (defScope s_is_number) .none kV11 dc11 pm11 an11 cd11 ct11), sl11⟩)
    (c11 : PySem.W.codeIn K cd11 "is_number" = true)
    (k11 : PySem.W.keepIn K (.ref f11) = true)
    (a12 : PySem.W.nsIn K mainGlobals "is_situation" = some (some (.ref f12)))
    (l12 : K.lookup f12 = some ⟨oc12, od12, .func (PySem.W.fnOf "is_situation" "is_situation" (defArgs s_is_situation) (defBody s_is_situation) (defScope s_is_situation) .none kV12 dc12 pm12 an12 cd12 ct12), sl12⟩)
    (c12 : PySem.W.codeIn K cd12 "is_situation" = true)
    (k12 : PySem.W.keepIn K (.ref f12) = true)
    (a13 : PySem.W.nsIn K mainGlobals "is_link" = some (some (.ref f13)))
    (l13 : K.lookup f13 = some ⟨oc13, od13, .func (PySem.W.fnOf "is_link" "is_link" (defArgs s_is_link) (defBody s_is_link) (defScope s_is_link) .none kV13 dc13 pm13 an13 cd13 ct13), sl13⟩)
    (c13 : PySem.W.codeIn K cd13 "is_link" = true)
    (k13 : PySem.W.keepIn K (.ref f13) = true)
    (a14 : PySem.W.nsIn K mainGlobals "is_net" = some (some (.ref f14)))
    (l14 : K.lookup f14 = some ⟨oc14, od14, .func (PySem.W.fnOf "is_net" "is_net" (defArgs s_is_net) (defBody s_is_net) (defScope s_is_net) .none kV14 dc14 pm14 an14 cd14 ct14), sl14⟩)
    (c14 : PySem.W.codeIn K cd14 "is_net" = true)
    (k14 : PySem.W.keepIn K (.ref f14) = true)
    (a15 : PySem.W.findIn K (.ref C0) "__init__" = some (some (.ref f15)))
    (i15 : PySem.W.isFn K (.ref f15) = true)
    (l15 : K.lookup f15 = some ⟨oc15, od15, .func (PySem.W.fnOf "__init__" "Reader.__init__" (defArgs s_Readeru_initu) (defBody s_Readeru_initu) (defScope s_Readeru_initu) .none kV15 dc15 pm15 an15 cd15 ct15), sl15⟩)
    (c15 : PySem.W.codeIn K cd15 "Reader.__init__" = true)
    (k15 : PySem.W.keepIn K (.ref f15) = true)
    (mk0 : PySem.W.makesIn K C0 = true)
    (kc0 : PySem.W.keepIn K (.ref C0) = true)
    (a16 : PySem.W.findIn K (.ref C0) "has" = some (some (.ref f16)))
    (i16 : PySem.W.isFn K (.ref f16) = true)
    (l16 : K.lookup f16 = some ⟨oc16, od16, .func (PySem.W.fnOf "has" "Reader.has" (defArgs s_Reader_has) (defBody s_Reader_has) (defScope s_Reader_has) .none kV16 dc16 pm16 an16 cd16 ct16), sl16⟩)
    (c16 : PySem.W.codeIn K cd16 "Reader.has" = true)
    (k16 : PySem.W.keepIn K (.ref f16) = true)
    (a17 : PySem.W.findIn K (.ref C0) "is_closed" = some (some (.ref f17)))
    (i17 : PySem.W.isFn K (.ref f17) = true)
    (l17 : K.lookup f17 = some ⟨oc17, od17, .func (PySem.W.fnOf "is_closed" "Reader.is_closed" (defArgs s_Reader_is_closed) (defBody s_Reader_is_closed) (defScope s_Reader_is_closed) .none kV17 dc17 pm17 an17 cd17 ct17), sl17⟩)
    (c17 : PySem.W.codeIn K cd17 "Reader.is_closed" = true)
    (k17 : PySem.W.keepIn K (.ref f17) = true)
    (a18 : PySem.W.nsIn K mainGlobals "holds" = some (some (.ref f18)))
    (l18 : K.lookup f18 = some ⟨oc18, od18, .func (PySem.W.fnOf "holds" "holds" (defArgs s_holds) (defBody s_holds) (defScope s_holds) .none kV18 dc18 pm18 an18 cd18 ct18), sl18⟩)
    (c18 : PySem.W.codeIn K cd18 "holds" = true)
    (k18 : PySem.W.keepIn K (.ref f18) = true)
    (a19 : PySem.W.nsIn K mainGlobals "_law_bag" = some (some (.ref f19)))
    (l19 : K.lookup f19 = some ⟨oc19, od19, .func (PySem.W.fnOf "_law_bag" "_law_bag" (defArgs s_law_bag) (defBody s_law_bag) (defScope s_law_bag) .none kV19 dc19 pm19 an19 cd19 ct19), sl19⟩)
    (c19 : PySem.W.codeIn K cd19 "_law_bag" = true)
    (k19 : PySem.W.keepIn K (.ref f19) = true)
    (a20 : PySem.W.nsIn K mainGlobals "_law_take" = some (some (.ref f20)))
    (l20 : K.lookup f20 = some ⟨oc20, od20, .func (PySem.W.fnOf "_law_take" "_law_take" (defArgs s_law_take) (defBody s_law_take) (defScope s_law_take) .none kV20 dc20 pm20 an20 cd20 ct20), sl20⟩)
    (c20 : PySem.W.codeIn K cd20 "_law_take" = true)
    (k20 : PySem.W.keepIn K (.ref f20) = true)
    (a21 : PySem.W.nsIn K mainGlobals "_law_points" = some (some (.ref f21)))
    (l21 : K.lookup f21 = some ⟨oc21, od21, .func (PySem.W.fnOf "_law_points" "_law_points" (defArgs s_law_points) (defBody s_law_points) (defScope s_law_points) .none kV21 dc21 pm21 an21 cd21 ct21), sl21⟩)
    (c21 : PySem.W.codeIn K cd21 "_law_points" = true)
    (k21 : PySem.W.keepIn K (.ref f21) = true)
    (a22 : PySem.W.nsIn K mainGlobals "_law_way" = some (some (.ref f22)))
    (l22 : K.lookup f22 = some ⟨oc22, od22, .func (PySem.W.fnOf "_law_way" "_law_way" (defArgs s_law_way) (defBody s_law_way) (defScope s_law_way) .none kV22 dc22 pm22 an22 cd22 ct22), sl22⟩)
    (c22 : PySem.W.codeIn K cd22 "_law_way" = true)
    (k22 : PySem.W.keepIn K (.ref f22) = true)
    (a23 : PySem.W.nsIn K mainGlobals "is_integer" = some (some (.ref f23)))
    (l23 : K.lookup f23 = some ⟨oc23, od23, .func (PySem.W.fnOf "is_integer" "is_integer" (defArgs s_is_integer) (defBody s_is_integer) (defScope s_is_integer) .none kV23 dc23 pm23 an23 cd23 ct23), sl23⟩)
    (c23 : PySem.W.codeIn K cd23 "is_integer" = true)
    (k23 : PySem.W.keepIn K (.ref f23) = true)
    (a24 : PySem.W.nsIn K mainGlobals "is_place" = some (some (.ref f24)))
    (l24 : K.lookup f24 = some ⟨oc24, od24, .func (PySem.W.fnOf "is_place" "is_place" (defArgs s_is_place) (defBody s_is_place) (defScope s_is_place) .none kV24 dc24 pm24 an24 cd24 ct24), sl24⟩)
    (c24 : PySem.W.codeIn K cd24 "is_place" = true)
    (k24 : PySem.W.keepIn K (.ref f24) = true)
    (a25 : PySem.W.nsIn K mainGlobals "checked_points" = some (some (.ref f25)))
    (l25 : K.lookup f25 = some ⟨oc25, od25, .func (PySem.W.fnOf "checked_points" "checked_points" (defArgs s_checked_points) (defBody s_checked_points) (defScope s_checked_points) .none kV25 dc25 pm25 an25 cd25 ct25), sl25⟩)
    (c25 : PySem.W.codeIn K cd25 "checked_points" = true)
    (k25 : PySem.W.keepIn K (.ref f25) = true)
    (a26 : PySem.W.nsIn K mainGlobals "is_take" = some (some (.ref f26)))
    (l26 : K.lookup f26 = some ⟨oc26, od26, .func (PySem.W.fnOf "is_take" "is_take" (defArgs s_is_take) (defBody s_is_take) (defScope s_is_take) .none kV26 dc26 pm26 an26 cd26 ct26), sl26⟩)
    (c26 : PySem.W.codeIn K cd26 "is_take" = true)
    (k26 : PySem.W.keepIn K (.ref f26) = true)
    (a27 : PySem.W.nsIn K mainGlobals "is_allowed" = some (some (.ref f27)))
    (l27 : K.lookup f27 = some ⟨oc27, od27, .func (PySem.W.fnOf "is_allowed" "is_allowed" (defArgs s_is_allowed) (defBody s_is_allowed) (defScope s_is_allowed) .none kV27 dc27 pm27 an27 cd27 ct27), sl27⟩)
    (c27 : PySem.W.codeIn K cd27 "is_allowed" = true)
    (k27 : PySem.W.keepIn K (.ref f27) = true)
    (a28 : PySem.W.nsIn K mainGlobals "checked_takes" = some (some (.ref f28)))
    (l28 : K.lookup f28 = some ⟨oc28, od28, .func (PySem.W.fnOf "checked_takes" "checked_takes" (defArgs s_checked_takes) (defBody s_checked_takes) (defScope s_checked_takes) .none kV28 dc28 pm28 an28 cd28 ct28), sl28⟩)
    (c28 : PySem.W.codeIn K cd28 "checked_takes" = true)
    (k28 : PySem.W.keepIn K (.ref f28) = true)
    (a29 : PySem.W.findIn K (.ref C3) "__init__" = some (some (.ref f29)))
    (i29 : PySem.W.isFn K (.ref f29) = true)
    (l29 : K.lookup f29 = some ⟨oc29, od29, .func (PySem.W.fnOf "__init__" "Way.__init__" (defArgs s_Wayu_initu) (defBody s_Wayu_initu) (defScope s_Wayu_initu) .none (.ref D29) dc29 pm29 an29 cd29 ct29), sl29⟩)
    (c29 : PySem.W.codeIn K cd29 "Way.__init__" = true)
    (k29 : PySem.W.keepIn K (.ref f29) = true)
    (kw29_hops : PySem.W.nsIn K D29 "hops" = some (some (.int (0) tk29_hops)))
    (mk3 : PySem.W.makesIn K C3 = true)
    (kc3 : PySem.W.keepIn K (.ref C3) = true)
    (a30 : PySem.W.nsIn K mainGlobals "_law_made" = some (some (.ref f30)))
    (l30 : K.lookup f30 = some ⟨oc30, od30, .func (PySem.W.fnOf "_law_made" "_law_made" (defArgs s_law_made) (defBody s_law_made) (defScope s_law_made) .none kV30 dc30 pm30 an30 cd30 ct30), sl30⟩)
    (c30 : PySem.W.codeIn K cd30 "_law_made" = true)
    (k30 : PySem.W.keepIn K (.ref f30) = true)
    (a31 : PySem.W.nsIn K mainGlobals "_law_situations" = some (some (.ref f31)))
    (l31 : K.lookup f31 = some ⟨oc31, od31, .func (PySem.W.fnOf "_law_situations" "_law_situations" (defArgs s_law_situations) (defBody s_law_situations) (defScope s_law_situations) .none kV31 dc31 pm31 an31 cd31 ct31), sl31⟩)
    (c31 : PySem.W.codeIn K cd31 "_law_situations" = true)
    (k31 : PySem.W.keepIn K (.ref f31) = true)
    (a32 : PySem.W.nsIn K mainGlobals "_law_odd_nets" = some (some (.ref f32)))
    (l32 : K.lookup f32 = some ⟨oc32, od32, .func (PySem.W.fnOf "_law_odd_nets" "_law_odd_nets" (defArgs s_law_odd_nets) (defBody s_law_odd_nets) (defScope s_law_odd_nets) .none kV32 dc32 pm32 an32 cd32 ct32), sl32⟩)
    (c32 : PySem.W.codeIn K cd32 "_law_odd_nets" = true)
    (k32 : PySem.W.keepIn K (.ref f32) = true)
    (a33 : PySem.W.nsIn K mainGlobals "law" = some (some (.ref f33)))
    (l33 : K.lookup f33 = some ⟨oc33, od33, .func (PySem.W.fnOf "law" "law" (defArgs s_law) (defBody s_law) (defScope s_law) .none kV33 dc33 pm33 an33 cd33 ct33), sl33⟩)
    (c33 : PySem.W.codeIn K cd33 "law" = true)
    (k33 : PySem.W.keepIn K (.ref f33) = true) :
    ∃ (K : PySem.W.Frag) (cm : Nat → Addr) (fd : FuncData), K.In h ∧ (∀ (s : Shared) (u : Value), BindsTo s fd ⟨[u], []⟩ [("_law_script", u)]) ∧ ∀ base : Heap, K.In base → base.Ns mainGlobals mg → FnG P w K mg base 8 fa fd ["_law_script"] (spF w K cm 1 F_law) := by
  have e := hfa.symm.trans (PySem.W.mg_of X G a33)
  cases e
  refine ⟨K, (fun c => match c with | 0 => C0 | 1 => C1 | 2 => C2 | 3 => C3 | _ => 0), PySem.W.fnOf "law" "law" (defArgs s_law) (defBody s_law) (defScope s_law) .none kV33 dc33 pm33 an33 cd33 ct33, X, fun s v => .of_eq rfl, fun base _ _ => ?_⟩
  generalize hcm : (fun c => match c with | 0 => C0 | 1 => C1 | 2 => C2 | 3 => C3 | _ => 0 : Nat → Addr) = cm
  have hC0 : C0 = cm 0 := by subst hcm; rfl
  have hC1 : C1 = cm 1 := by subst hcm; rfl
  have hC2 : C2 = cm 2 := by subst hcm; rfl
  have hC3 : C3 = cm 3 := by subst hcm; rfl
  clear hcm
  subst hC0
  subst hC1
  subst hC2
  subst hC3
  have T : Txt P K mg cm := ⟨⟨pg0, hd0, po0, sa0⟩, ⟨pg3, hd3, po3, sa3⟩, ⟨⟨(.str "alone" tg_ALONE), (V.str "alone"), PySem.W.mg_of X G gg_ALONE, ⟨_, rfl⟩, (fun _ _ _ => .str _)⟩⟩, ⟨⟨(.str "any" tg_ANY), (V.str "any"), PySem.W.mg_of X G gg_ANY, ⟨_, rfl⟩, (fun _ _ _ => .str _)⟩⟩, ⟨⟨(.int (5) tg_HEIGHTS), (V.int (5)), PySem.W.mg_of X G gg_HEIGHTS, ⟨_, rfl⟩, (fun _ _ _ => .int _)⟩⟩, ⟨⟨(.str "lesser" tg_LESSER), (V.str "lesser"), PySem.W.mg_of X G gg_LESSER, ⟨_, rfl⟩, (fun _ _ _ => .str _)⟩⟩, ⟨⟨(.ref Ag_MARKS), (V.ref Ag_MARKS), PySem.W.mg_of X G gg_MARKS, rfl, (tup_k lkg_MARKS (show 3 ≤ sizeLine from by decide) (vs := [(V.str "none"), (V.str "shared"), (V.str "alone")]) (.cons ⟨_, rfl⟩ (.cons ⟨_, rfl⟩ (.cons ⟨_, rfl⟩ .nil))) (fun fx ρ H => (VRs.cons ((fun _ _ _ => .str _) fx ρ H) (VRs.cons ((fun _ _ _ => .str _) fx ρ H) (VRs.cons ((fun _ _ _ => .str _) fx ρ H) VRs.nil)))))⟩⟩, ⟨⟨(.ref Ag_MODES), (V.ref Ag_MODES), PySem.W.mg_of X G gg_MODES, rfl, (tup_k lkg_MODES (show 3 ≤ sizeLine from by decide) (vs := [(V.str "shared"), (V.str "alone"), (V.str "rising")]) (.cons ⟨_, rfl⟩ (.cons ⟨_, rfl⟩ (.cons ⟨_, rfl⟩ .nil))) (fun fx ρ H => (VRs.cons ((fun _ _ _ => .str _) fx ρ H) (VRs.cons ((fun _ _ _ => .str _) fx ρ H) (VRs.cons ((fun _ _ _ => .str _) fx ρ H) VRs.nil)))))⟩⟩, ⟨⟨(.int (4) tg_MOST_POINTS), (V.int (4)), PySem.W.mg_of X G gg_MOST_POINTS, ⟨_, rfl⟩, (fun _ _ _ => .int _)⟩⟩, ⟨⟨(.int (5) tg_MOST_TAKES), (V.int (5)), PySem.W.mg_of X G gg_MOST_TAKES, ⟨_, rfl⟩, (fun _ _ _ => .int _)⟩⟩, ⟨⟨(.int (3) tg_NET_PARTS), (V.int (3)), PySem.W.mg_of X G gg_NET_PARTS, ⟨_, rfl⟩, (fun _ _ _ => .int _)⟩⟩, ⟨⟨(.str "none" tg_NONE), (V.str "none"), PySem.W.mg_of X G gg_NONE, ⟨_, rfl⟩, (fun _ _ _ => .str _)⟩⟩, ⟨⟨(.ref Ag_QUIET_WORDS), (V.ref Ag_QUIET_WORDS), PySem.W.mg_of X G gg_QUIET_WORDS, rfl, (tup_k lkg_QUIET_WORDS (show 2 ≤ sizeLine from by decide) (vs := [(V.str "try"), (V.str "leap")]) (.cons ⟨_, rfl⟩ (.cons ⟨_, rfl⟩ .nil)) (fun fx ρ H => (VRs.cons ((fun _ _ _ => .str _) fx ρ H) (VRs.cons ((fun _ _ _ => .str _) fx ρ H) VRs.nil))))⟩⟩, ⟨⟨(.str "rising" tg_RISING), (V.str "rising"), PySem.W.mg_of X G gg_RISING, ⟨_, rfl⟩, (fun _ _ _ => .str _)⟩⟩, ⟨⟨(.str "shared" tg_SHARED), (V.str "shared"), PySem.W.mg_of X G gg_SHARED, ⟨_, rfl⟩, (fun _ _ _ => .str _)⟩⟩, ⟨⟨(.ref Ag_WORDS), (V.ref Ag_WORDS), PySem.W.mg_of X G gg_WORDS, rfl, (tup_k lkg_WORDS (show 3 ≤ sizeLine from by decide) (vs := [(V.str "take"), (V.str "try"), (V.str "leap")]) (.cons ⟨_, rfl⟩ (.cons ⟨_, rfl⟩ (.cons ⟨_, rfl⟩ .nil))) (fun fx ρ H => (VRs.cons ((fun _ _ _ => .str _) fx ρ H) (VRs.cons ((fun _ _ _ => .str _) fx ρ H) (VRs.cons ((fun _ _ _ => .str _) fx ρ H) VRs.nil)))))⟩⟩, fn_Reader_next_ones, fn_Reader_places, fn_Reader_stops, fn_Way_locks, fn_Way_places, fn_Way_walked, PySem.W.mg_none_of X G z_abs, PySem.W.mg_none_of X G z_all, PySem.W.mg_none_of X G z_bool, PySem.W.mg_none_of X G z_dict, PySem.W.mg_none_of X G z_enumerate, PySem.W.mg_none_of X G z_int, PySem.W.mg_none_of X G z_isinstance, PySem.W.mg_none_of X G z_len, PySem.W.mg_none_of X G z_list, PySem.W.mg_none_of X G z_max, PySem.W.mg_none_of X G z_min, PySem.W.mg_none_of X G z_range, PySem.W.mg_none_of X G z_repr, PySem.W.mg_none_of X G z_reversed, PySem.W.mg_none_of X G z_sorted, PySem.W.mg_none_of X G z_str, PySem.W.mg_none_of X G z_tuple⟩
  have F0 := fun_mk (st := s_mark_of) l0 c0 k0
  have B0 := F0.binds (ps := ["mode"]) fun _ _ _ _ _ _ us hl => match us, hl with | [_], _ => rfl
  have Q0 : FnF P w K mg base cm 1 f0 _ ["mode"] G_mark_of := fnF_lrun (fn_ok F0 sc_mark_of (b_mark_of (P := P) (w := w) (K := K) (mg := mg) (base := base) (cm := cm) (f := f0) T))
  have I_mark_of : FI P w K mg base cm "mark_of" 1 1 G_mark_of := ⟨⟨f0, _, _, PySem.W.mg_of X G a0, k0, B0, rfl, Q0⟩⟩
  have F1 := fun_mk (st := s_Way_points) l1 c1 k1
  have B1 := F1.binds (ps := ["self"]) fun _ _ _ _ _ _ us hl => match us, hl with | [_], _ => rfl
  have Q1 : FnF P w K mg base cm 1 f1 _ ["self"] G_Way_points := fnF_lrun (fn_ok F1 sc_Way_points (b_Way_points (P := P) (w := w) (K := K) (mg := mg) (base := base) (cm := cm) (f := f1) T))
  have I_Way_points : PrI P w K mg base cm 3 "points" 1 G_Way_points := ⟨⟨p1, f1, _, _, ⟨a1, gq1, t1, _, r1⟩, ⟨pg3, hd3, po3, sa3⟩, B1, rfl, Q1⟩⟩
  have F2 := fun_mk (st := s_point_parents) l2 c2 k2
  have B2 := F2.binds (ps := ["way"]) fun _ _ _ _ _ _ us hl => match us, hl with | [_], _ => rfl
  have Q2 : FnF P w K mg base cm 3 f2 _ ["way"] G_point_parents := fnF_lrun (fn_ok F2 sc_point_parents (b_point_parents (P := P) (w := w) (K := K) (mg := mg) (base := base) (cm := cm) (f := f2) T I_Way_points))
  have I_point_parents : FI P w K mg base cm "point_parents" 3 1 G_point_parents := ⟨⟨f2, _, _, PySem.W.mg_of X G a2, k2, B2, rfl, Q2⟩⟩
  have F3 := fun_mk (st := s_chain_of) l3 c3 k3
  have B3 := F3.binds (ps := ["parents", "point"]) fun _ _ _ _ _ _ us hl => match us, hl with | [_, _], _ => rfl
  have Q3 : FnF P w K mg base cm 1 f3 _ ["parents", "point"] G_chain_of := fnF_lrun (fn_ok F3 sc_chain_of (b_chain_of (P := P) (w := w) (K := K) (mg := mg) (base := base) (cm := cm) (f := f3) T))
  have I_chain_of : FI P w K mg base cm "chain_of" 1 2 G_chain_of := ⟨⟨f3, _, _, PySem.W.mg_of X G a3, k3, B3, rfl, Q3⟩⟩
  have F4 := fun_mk (st := s_step_from) l4 c4 k4
  have B4 := F4.binds (ps := ["parents", "marks", "had", "wanted", "mode", "order"]) fun _ _ _ _ _ _ us hl => match us, hl with | [_, _, _, _, _, _], _ => rfl
  have Q4 : FnF P w K mg base cm 2 f4 _ ["parents", "marks", "had", "wanted", "mode", "order"] G_step_from := fnF_lrun (fn_ok F4 sc_step_from (b_step_from (P := P) (w := w) (K := K) (mg := mg) (base := base) (cm := cm) (f := f4) T I_mark_of I_chain_of))
  have I_step_from : FI P w K mg base cm "step_from" 2 6 G_step_from := ⟨⟨f4, _, _, PySem.W.mg_of X G a4, k4, B4, rfl, Q4⟩⟩
  have F5 := fun_mk (st := s_Way_takes) l5 c5 k5
  have B5 := F5.binds (ps := ["self"]) fun _ _ _ _ _ _ us hl => match us, hl with | [_], _ => rfl
  have Q5 : FnF P w K mg base cm 1 f5 _ ["self"] G_Way_takes := fnF_lrun (fn_ok F5 sc_Way_takes (b_Way_takes (P := P) (w := w) (K := K) (mg := mg) (base := base) (cm := cm) (f := f5) T))
  have I_Way_takes : PrI P w K mg base cm 3 "takes" 1 G_Way_takes := ⟨⟨p5, f5, _, _, ⟨a5, gq5, t5, _, r5⟩, ⟨pg3, hd3, po3, sa3⟩, B5, rfl, Q5⟩⟩
  have F6 := fun_mk (st := s_Way_hops) l6 c6 k6
  have B6 := F6.binds (ps := ["self"]) fun _ _ _ _ _ _ us hl => match us, hl with | [_], _ => rfl
  have Q6 : FnF P w K mg base cm 1 f6 _ ["self"] G_Way_hops := fnF_lrun (fn_ok F6 sc_Way_hops (b_Way_hops (P := P) (w := w) (K := K) (mg := mg) (base := base) (cm := cm) (f := f6) T))
  have I_Way_hops : PrI P w K mg base cm 3 "hops" 1 G_Way_hops := ⟨⟨p6, f6, _, _, ⟨a6, gq6, t6, _, r6⟩, ⟨pg3, hd3, po3, sa3⟩, B6, rfl, Q6⟩⟩
  have F7 := fun_mk (st := s_steps_before) l7 c7 k7
  have B7 := F7.binds (ps := ["way", "index"]) fun _ _ _ _ _ _ us hl => match us, hl with | [_, _], _ => rfl
  have Q7 : FnF P w K mg base cm 4 f7 _ ["way", "index"] G_steps_before := fnF_lrun (fn_ok F7 sc_steps_before (b_steps_before (P := P) (w := w) (K := K) (mg := mg) (base := base) (cm := cm) (f := f7) T I_mark_of I_point_parents I_step_from I_Way_takes I_Way_hops))
  have I_steps_before : FI P w K mg base cm "steps_before" 4 2 G_steps_before := ⟨⟨f7, _, _, PySem.W.mg_of X G a7, k7, B7, rfl, Q7⟩⟩
  have F8 := fun_mk (st := s_sources) l8 c8 k8
  have B8 := F8.binds (ps := ["ways"]) fun _ _ _ _ _ _ us hl => match us, hl with | [_], _ => rfl
  have Q8 : FnF P w K mg base cm 5 f8 _ ["ways"] G_sources := id (fn_ok F8 sc_sources (b_sources (P := P) (w := w) (K := K) (mg := mg) (base := base) (cm := cm) (f := f8) T I_steps_before I_Way_takes))
  have I_sources : FI P w K mg base cm "sources" 5 1 G_sources := ⟨⟨f8, _, _, PySem.W.mg_of X G a8, k8, B8, rfl, Q8⟩⟩
  have F9 := fun_mk (st := s_steps) l9 c9 k9
  have B9 := F9.binds (ps := ["ways"]) fun _ _ _ _ _ _ us hl => match us, hl with | [_], _ => rfl
  have Q9 : FnF P w K mg base cm 6 f9 _ ["ways"] G_steps := fnF_lrun (fn_ok F9 sc_steps (b_steps (P := P) (w := w) (K := K) (mg := mg) (base := base) (cm := cm) (f := f9) T I_sources))
  have I_steps : FI P w K mg base cm "steps" 6 1 G_steps := ⟨⟨f9, _, _, PySem.W.mg_of X G a9, k9, B9, rfl, Q9⟩⟩
  have F10 := fun_mk (st := s_begun) l10 c10 k10
  have B10 := F10.binds (ps := ["step"]) fun _ _ _ _ _ _ us hl => match us, hl with | [_], _ => rfl
  have Q10 : FnF P w K mg base cm 1 f10 _ ["step"] G_begun := fnF_lrun (fn_ok F10 sc_begun (b_begun (P := P) (w := w) (K := K) (mg := mg) (base := base) (cm := cm) (f := f10) T))
  have I_begun : FI P w K mg base cm "begun" 1 1 G_begun := ⟨⟨f10, _, _, PySem.W.mg_of X G a10, k10, B10, rfl, Q10⟩⟩
  have F11 := fun_mk (st := s_is_number) l11 c11 k11
  have B11 := F11.binds (ps := ["thing"]) fun _ _ _ _ _ _ us hl => match us, hl with | [_], _ => rfl
  have Q11 : FnF P w K mg base cm 1 f11 _ ["thing"] G_is_number := fnF_lrun (fn_ok F11 sc_is_number (b_is_number (P := P) (w := w) (K := K) (mg := mg) (base := base) (cm := cm) (f := f11) T))
  have I_is_number : FI P w K mg base cm "is_number" 1 1 G_is_number := ⟨⟨f11, _, _, PySem.W.mg_of X G a11, k11, B11, rfl, Q11⟩⟩
  have F12 := fun_mk (st := s_is_situation) l12 c12 k12
  have B12 := F12.binds (ps := ["thing"]) fun _ _ _ _ _ _ us hl => match us, hl with | [_], _ => rfl
  have Q12 : FnF P w K mg base cm 2 f12 _ ["thing"] G_is_situation := fnF_lrun (fn_ok F12 sc_is_situation (b_is_situation (P := P) (w := w) (K := K) (mg := mg) (base := base) (cm := cm) (f := f12) T I_is_number))
  have I_is_situation : FI P w K mg base cm "is_situation" 2 1 G_is_situation := ⟨⟨f12, _, _, PySem.W.mg_of X G a12, k12, B12, rfl, Q12⟩⟩
  have F13 := fun_mk (st := s_is_link) l13 c13 k13
  have B13 := F13.binds (ps := ["thing"]) fun _ _ _ _ _ _ us hl => match us, hl with | [_], _ => rfl
  have Q13 : FnF P w K mg base cm 2 f13 _ ["thing"] G_is_link := fnF_lrun (fn_ok F13 sc_is_link (b_is_link (P := P) (w := w) (K := K) (mg := mg) (base := base) (cm := cm) (f := f13) T I_is_number))
  have I_is_link : FI P w K mg base cm "is_link" 2 1 G_is_link := ⟨⟨f13, _, _, PySem.W.mg_of X G a13, k13, B13, rfl, Q13⟩⟩
  have F14 := fun_mk (st := s_is_net) l14 c14 k14
  have B14 := F14.binds (ps := ["thing"]) fun _ _ _ _ _ _ us hl => match us, hl with | [_], _ => rfl
  have Q14 : FnF P w K mg base cm 3 f14 _ ["thing"] G_is_net := fnF_lrun (fn_ok F14 sc_is_net (b_is_net (P := P) (w := w) (K := K) (mg := mg) (base := base) (cm := cm) (f := f14) T I_is_number I_is_situation I_is_link))
  have I_is_net : FI P w K mg base cm "is_net" 3 1 G_is_net := ⟨⟨f14, _, _, PySem.W.mg_of X G a14, k14, B14, rfl, Q14⟩⟩
  have F15 := fun_mk (st := s_Readeru_initu) l15 c15 k15
  have B15 := F15.binds (ps := ["self", "net"]) fun _ _ _ _ _ _ us hl => match us, hl with | [_, _], _ => rfl
  have Q15 : FnF P w K mg base cm 1 f15 _ ["self", "net"] G_Readeru_initu := fnF_lrun (fn_ok F15 sc_Readeru_initu (b_Readeru_initu (P := P) (w := w) (K := K) (mg := mg) (base := base) (cm := cm) (f := f15) T))
  have I_Readeru_initu : CI P w K mg base cm "Reader" 0 1 2 G_Readeru_initu := ⟨⟨f15, _, _, PySem.W.mg_of X G aC0, ⟨mk0, a15, i15, kc0⟩, B15, rfl, Q15⟩⟩
  have F16 := fun_mk (st := s_Reader_has) l16 c16 k16
  have B16 := F16.binds (ps := ["self", "stand"]) fun _ _ _ _ _ _ us hl => match us, hl with | [_, _], _ => rfl
  have Q16 : FnF P w K mg base cm 1 f16 _ ["self", "stand"] G_Reader_has := fnF_lrun (fn_ok F16 sc_Reader_has (b_Reader_has (P := P) (w := w) (K := K) (mg := mg) (base := base) (cm := cm) (f := f16) T))
  have I_Reader_has : MtI P w K mg base cm 0 "has" 1 2 G_Reader_has := ⟨⟨f16, _, _, ⟨a16, i16, k16⟩, ⟨pg0, hd0, po0, sa0⟩, B16, rfl, Q16⟩⟩
  have F17 := fun_mk (st := s_Reader_is_closed) l17 c17 k17
  have B17 := F17.binds (ps := ["self", "situation", "step"]) fun _ _ _ _ _ _ us hl => match us, hl with | [_, _, _], _ => rfl
  have Q17 : FnF P w K mg base cm 1 f17 _ ["self", "situation", "step"] G_Reader_is_closed := fnF_lrun (fn_ok F17 sc_Reader_is_closed (b_Reader_is_closed (P := P) (w := w) (K := K) (mg := mg) (base := base) (cm := cm) (f := f17) T))
  have I_Reader_is_closed : MtI P w K mg base cm 0 "is_closed" 1 3 G_Reader_is_closed := ⟨⟨f17, _, _, ⟨a17, i17, k17⟩, ⟨pg0, hd0, po0, sa0⟩, B17, rfl, Q17⟩⟩
  have F18 := fun_mk (st := s_holds) l18 c18 k18
  have B18 := F18.binds (ps := ["ways", "net"]) fun _ _ _ _ _ _ us hl => match us, hl with | [_, _], _ => rfl
  have Q18 : FnF P w K mg base cm 7 f18 _ ["ways", "net"] G_holds := id (fn_ok F18 sc_holds (b_holds (P := P) (w := w) (K := K) (mg := mg) (base := base) (cm := cm) (f := f18) T I_steps I_begun I_is_net I_Readeru_initu I_Reader_has I_Reader_is_closed))
  have I_holds : FI P w K mg base cm "holds" 7 2 G_holds := ⟨⟨f18, _, _, PySem.W.mg_of X G a18, k18, B18, rfl, Q18⟩⟩
  have F19 := fun_mk (st := s_law_bag) l19 c19 k19
  have B19 := F19.binds (ps := ["_law_script", "_law_at"]) fun _ _ _ _ _ _ us hl => match us, hl with | [_, _], _ => rfl
  have Q19 : FnF P w K mg base cm 1 f19 _ ["_law_script", "_law_at"] Gulaw_bag := fnF_lrun (fn_ok F19 sc_law_bag (b_law_bag (P := P) (w := w) (K := K) (mg := mg) (base := base) (cm := cm) (f := f19) T))
  have I_law_bag : FI P w K mg base cm "_law_bag" 1 2 Gulaw_bag := ⟨⟨f19, _, _, PySem.W.mg_of X G a19, k19, B19, rfl, Q19⟩⟩
  have F20 := fun_mk (st := s_law_take) l20 c20 k20
  have B20 := F20.binds (ps := ["_law_bag_here", "_law_size"]) fun _ _ _ _ _ _ us hl => match us, hl with | [_, _], _ => rfl
  have Q20 : FnF P w K mg base cm 1 f20 _ ["_law_bag_here", "_law_size"] Gulaw_take := fnF_lrun (fn_ok F20 sc_law_take (b_law_take (P := P) (w := w) (K := K) (mg := mg) (base := base) (cm := cm) (f := f20) T))
  have I_law_take : FI P w K mg base cm "_law_take" 1 2 Gulaw_take := ⟨⟨f20, _, _, PySem.W.mg_of X G a20, k20, B20, rfl, Q20⟩⟩
  have F21 := fun_mk (st := s_law_points) l21 c21 k21
  have B21 := F21.binds (ps := ["_law_bag_here", "_law_most"]) fun _ _ _ _ _ _ us hl => match us, hl with | [_, _], _ => rfl
  have Q21 : FnF P w K mg base cm 2 f21 _ ["_law_bag_here", "_law_most"] Gulaw_points := fnF_lrun (fn_ok F21 sc_law_points (b_law_points (P := P) (w := w) (K := K) (mg := mg) (base := base) (cm := cm) (f := f21) T I_law_take))
  have I_law_points : FI P w K mg base cm "_law_points" 2 2 Gulaw_points := ⟨⟨f21, _, _, PySem.W.mg_of X G a21, k21, B21, rfl, Q21⟩⟩
  have F22 := fun_mk (st := s_law_way) l22 c22 k22
  have B22 := F22.binds (ps := ["_law_bag_here", "_law_most", "_law_quiet"]) fun _ _ _ _ _ _ us hl => match us, hl with | [_, _, _], _ => rfl
  have Q22 : FnF P w K mg base cm 3 f22 _ ["_law_bag_here", "_law_most", "_law_quiet"] Gulaw_way := fnF_lrun (fn_ok F22 sc_law_way (b_law_way (P := P) (w := w) (K := K) (mg := mg) (base := base) (cm := cm) (f := f22) T I_law_take I_law_points))
  have I_law_way : FI P w K mg base cm "_law_way" 3 3 Gulaw_way := ⟨⟨f22, _, _, PySem.W.mg_of X G a22, k22, B22, rfl, Q22⟩⟩
  have F23 := fun_mk (st := s_is_integer) l23 c23 k23
  have B23 := F23.binds (ps := ["value"]) fun _ _ _ _ _ _ us hl => match us, hl with | [_], _ => rfl
  have Q23 : FnF P w K mg base cm 1 f23 _ ["value"] G_is_integer := fnF_lrun (fn_ok F23 sc_is_integer (b_is_integer (P := P) (w := w) (K := K) (mg := mg) (base := base) (cm := cm) (f := f23) T))
  have I_is_integer : FI P w K mg base cm "is_integer" 1 1 G_is_integer := ⟨⟨f23, _, _, PySem.W.mg_of X G a23, k23, B23, rfl, Q23⟩⟩
  have F24 := fun_mk (st := s_is_place) l24 c24 k24
  have B24 := F24.binds (ps := ["place", "index"]) fun _ _ _ _ _ _ us hl => match us, hl with | [_, _], _ => rfl
  have Q24 : FnF P w K mg base cm 2 f24 _ ["place", "index"] G_is_place := fnF_lrun (fn_ok F24 sc_is_place (b_is_place (P := P) (w := w) (K := K) (mg := mg) (base := base) (cm := cm) (f := f24) T I_is_integer))
  have I_is_place : FI P w K mg base cm "is_place" 2 2 G_is_place := ⟨⟨f24, _, _, PySem.W.mg_of X G a24, k24, B24, rfl, Q24⟩⟩
  have F25 := fun_mk (st := s_checked_points) l25 c25 k25
  have B25 := F25.binds (ps := ["points"]) fun _ _ _ _ _ _ us hl => match us, hl with | [_], _ => rfl
  have Q25 : FnF P w K mg base cm 3 f25 _ ["points"] G_checked_points := fnF_lrun (fn_ok F25 sc_checked_points (b_checked_points (P := P) (w := w) (K := K) (mg := mg) (base := base) (cm := cm) (f := f25) T I_is_place))
  have I_checked_points : FI P w K mg base cm "checked_points" 3 1 G_checked_points := ⟨⟨f25, _, _, PySem.W.mg_of X G a25, k25, B25, rfl, Q25⟩⟩
  have F26 := fun_mk (st := s_is_take) l26 c26 k26
  have B26 := F26.binds (ps := ["take", "points"]) fun _ _ _ _ _ _ us hl => match us, hl with | [_, _], _ => rfl
  have Q26 : FnF P w K mg base cm 2 f26 _ ["take", "points"] G_is_take := fnF_lrun (fn_ok F26 sc_is_take (b_is_take (P := P) (w := w) (K := K) (mg := mg) (base := base) (cm := cm) (f := f26) T I_is_integer))
  have I_is_take : FI P w K mg base cm "is_take" 2 2 G_is_take := ⟨⟨f26, _, _, PySem.W.mg_of X G a26, k26, B26, rfl, Q26⟩⟩
  have F27 := fun_mk (st := s_is_allowed) l27 c27 k27
  have B27 := F27.binds (ps := ["takes", "index", "hops"]) fun _ _ _ _ _ _ us hl => match us, hl with | [_, _, _], _ => rfl
  have Q27 : FnF P w K mg base cm 1 f27 _ ["takes", "index", "hops"] G_is_allowed := fnF_lrun (fn_ok F27 sc_is_allowed (b_is_allowed (P := P) (w := w) (K := K) (mg := mg) (base := base) (cm := cm) (f := f27) T))
  have I_is_allowed : FI P w K mg base cm "is_allowed" 1 3 G_is_allowed := ⟨⟨f27, _, _, PySem.W.mg_of X G a27, k27, B27, rfl, Q27⟩⟩
  have F28 := fun_mk (st := s_checked_takes) l28 c28 k28
  have B28 := F28.binds (ps := ["points", "takes", "hops"]) fun _ _ _ _ _ _ us hl => match us, hl with | [_, _, _], _ => rfl
  have Q28 : FnF P w K mg base cm 3 f28 _ ["points", "takes", "hops"] G_checked_takes := fnF_lrun (fn_ok F28 sc_checked_takes (b_checked_takes (P := P) (w := w) (K := K) (mg := mg) (base := base) (cm := cm) (f := f28) T I_is_integer I_is_take I_is_allowed))
  have I_checked_takes : FI P w K mg base cm "checked_takes" 3 3 G_checked_takes := ⟨⟨f28, _, _, PySem.W.mg_of X G a28, k28, B28, rfl, Q28⟩⟩
  have F29 : FunD K "__init__" "Way.__init__" (defArgs s_Wayu_initu) (defBody s_Wayu_initu) (defScope s_Wayu_initu) [] [("hops", (V.int (0)))] f29 _ := ⟨⟨oc29, od29, .none, .ref D29, dc29, pm29, an29, cd29, ct29, sl29, rfl, l29, c29, .inl ⟨rfl, rfl⟩, .inr ⟨D29, rfl, fun q hq => by
    obtain rfl := List.mem_singleton.mp hq
    exact ⟨_, kw29_hops, ⟨_, rfl⟩⟩⟩⟩, k29⟩
  have Q29 : FnF P w K mg base cm 4 f29 _ ["self", "points", "takes", "hops"] G_Wayu_initu := fnF_lrun (fnD_ok F29 sc_Wayu_initu (b_Wayu_initu (P := P) (w := w) (K := K) (mg := mg) (base := base) (cm := cm) (f := f29) T I_checked_points I_checked_takes))
  have I_Wayu_initu_K2_hops : CkI P w K mg base cm "Way" 3 4 2 ["hops"] gd_Way_K2_hops 4 G_Wayu_initu := by
    obtain ⟨gg, gV, hb, hg⟩ := kb_mk (ps := ["self", "points", "takes", "hops"]) F29 3 ["hops"] [] gi_Way_K2_hops [] (fun _ _ _ => .nil) (by simp) (by simp) (fun _ _ _ _ _ _ us mv ws h1 h2 h3 => match us, mv, ws, h1, h2, h3 with | [_, _, _], [], [_], _, _, _ => rfl)
    exact ⟨⟨f29, _, _, gg, gV, PySem.W.mg_of X G aC3, ⟨mk3, a29, i29, kc3⟩, hb, (fun fx ρ H ds vs es zs r1 r2 => hg _ ρ H ds vs es zs r1 r2), rfl, Q29⟩⟩
  have F30 := fun_mk (st := s_law_made) l30 c30 k30
  have B30 := F30.binds (ps := ["_law_plain"]) fun _ _ _ _ _ _ us hl => match us, hl with | [_], _ => rfl
  have Q30 : FnF P w K mg base cm 6 f30 _ ["_law_plain"] Gulaw_made := fnF_lrun (fn_ok F30 sc_law_made (b_law_made (P := P) (w := w) (K := K) (mg := mg) (base := base) (cm := cm) (f := f30) T I_Wayu_initu_K2_hops))
  have I_law_made : FI P w K mg base cm "_law_made" 6 1 Gulaw_made := ⟨⟨f30, _, _, PySem.W.mg_of X G a30, k30, B30, rfl, Q30⟩⟩
  have F31 := fun_mk (st := s_law_situations) l31 c31 k31
  have B31 := F31.binds (ps := []) fun _ _ _ _ _ _ us hl => match us, hl with | [], _ => rfl
  have Q31 : FnF P w K mg base cm 1 f31 _ [] Gulaw_situations := fnF_lrun (fn_ok F31 sc_law_situations (b_law_situations (P := P) (w := w) (K := K) (mg := mg) (base := base) (cm := cm) (f := f31) T))
  have I_law_situations : FI P w K mg base cm "_law_situations" 1 0 Gulaw_situations := ⟨⟨f31, _, _, PySem.W.mg_of X G a31, k31, B31, rfl, Q31⟩⟩
  have F32 := fun_mk (st := s_law_odd_nets) l32 c32 k32
  have B32 := F32.binds (ps := ["_law_bag_here"]) fun _ _ _ _ _ _ us hl => match us, hl with | [_], _ => rfl
  have Q32 : FnF P w K mg base cm 2 f32 _ ["_law_bag_here"] Gulaw_odd_nets := fnF_lrun (fn_ok F32 sc_law_odd_nets (b_law_odd_nets (P := P) (w := w) (K := K) (mg := mg) (base := base) (cm := cm) (f := f32) T I_law_take I_law_situations))
  have I_law_odd_nets : FI P w K mg base cm "_law_odd_nets" 2 1 Gulaw_odd_nets := ⟨⟨f32, _, _, PySem.W.mg_of X G a32, k32, B32, rfl, Q32⟩⟩
  have F33 := fun_mk (st := s_law) l33 c33 k33
  exact fnG_of l33 c33 sc_law (by decide) (b_law (P := P) (w := w) (K := K) (mg := mg) (base := base) (cm := cm) (f := fa) T I_holds I_law_bag I_law_take I_law_way I_law_made I_law_odd_nets)
end K43
set_option maxRecDepth 100000 in
set_option maxHeartbeats 0 in
theorem PySem.Challenge.cw_treewaits_k43_values_that_are_no_nets_holds : PySem.Challenge.rw_treewaits_k43_values_that_are_no_nets.Holds := by
  refine K43E.early fun q loose XP Kf d hdf hdn F => ?_
  refine Tw.end_ok (l := PySem.Challenge.rw_treewaits_k43_values_that_are_no_nets) (n := 63) (k := 8) (x := "_law_script") (Fl := K43.F_law) rfl (by decide) hdf ⟨rfl, by decide, by decide⟩ (fun w mg fa h Y G hmg => ?_) K43.plain
  rw [hdn] at hmg
  refine F w _ ?_
  intro C0 C1 C2 C3 Ag_MARKS Ag_MODES Ag_QUIET_WORDS Ag_WORDS f0 f1 p1 f2 f3 f4 f5 p5 f6 p6 f7 f8 f9 f10 f11 f12 f13 f14 f15 f16 f17 f18 f19 f20 f21 f22 f23 f24 f25 f26 f27 f28 f29 D29 f30 f31 f32 f33 tg_ALONE tg_ANY tg_HEIGHTS tg_LESSER tg_MARKS_0 tg_MARKS_1 tg_MARKS_2 tg_MODES_0 tg_MODES_1 tg_MODES_2 tg_MOST_POINTS tg_MOST_TAKES tg_NET_PARTS tg_NONE tg_QUIET_WORDS_0 tg_QUIET_WORDS_1 tg_RISING tg_SHARED tg_WORDS_0 tg_WORDS_1 tg_WORDS_2 tk29_hops Dg_MARKS Dg_MODES Dg_QUIET_WORDS Dg_WORDS od0 an0 od1 an1 od2 an2 od3 an3 od4 an4 od5 an5 od6 an6 od7 an7 od8 an8 od9 an9 od10 an10 od11 an11 od12 an12 od13 an13 od14 an14 od15 an15 od16 an16 od17 an17 od18 an18 od19 an19 od20 an20 od21 an21 od22 an22 od23 an23 od24 an24 od25 an25 od26 an26 od27 an27 od28 an28 od29 an29 od30 an30 od31 an31 od32 an32 od33 an33 ng_MARKS ng_MODES ng_QUIET_WORDS ng_WORDS sg_MARKS sg_MODES sg_QUIET_WORDS sg_WORDS sl0 sl1 sl2 sl3 sl4 sl5 sl6 sl7 sl8 sl9 sl10 sl11 sl12 sl13 sl14 sl15 sl16 sl17 sl18 sl19 sl20 sl21 sl22 sl23 sl24 sl25 sl26 sl27 sl28 sl29 sl30 sl31 sl32 sl33 oc0 dc0 pm0 cd0 ct0 kV0 oc1 dc1 pm1 cd1 ct1 kV1 oc2 dc2 pm2 cd2 ct2 kV2 oc3 dc3 pm3 cd3 ct3 kV3 oc4 dc4 pm4 cd4 ct4 kV4 oc5 dc5 pm5 cd5 ct5 kV5 oc6 dc6 pm6 cd6 ct6 kV6 oc7 dc7 pm7 cd7 ct7 kV7 oc8 dc8 pm8 cd8 ct8 kV8 oc9 dc9 pm9 cd9 ct9 kV9 oc10 dc10 pm10 cd10 ct10 kV10 oc11 dc11 pm11 cd11 ct11 kV11 oc12 dc12 pm12 cd12 ct12 kV12 oc13 dc13 pm13 cd13 ct13 kV13 oc14 dc14 pm14 cd14 ct14 kV14 oc15 dc15 pm15 cd15 ct15 kV15 oc16 dc16 pm16 cd16 ct16 kV16 oc17 dc17 pm17 cd17 ct17 kV17 oc18 dc18 pm18 cd18 ct18 kV18 oc19 dc19 pm19 cd19 ct19 kV19 oc20 dc20 pm20 cd20 ct20 kV20 oc21 dc21 pm21 cd21 ct21 kV21 oc22 dc22 pm22 cd22 ct22 kV22 oc23 dc23 pm23 cd23 ct23 kV23 oc24 dc24 pm24 cd24 ct24 kV24 oc25 dc25 pm25 cd25 ct25 kV25 oc26 dc26 pm26 cd26 ct26 kV26 oc27 dc27 pm27 cd27 ct27 kV27 oc28 dc28 pm28 cd28 ct28 kV28 oc29 dc29 pm29 cd29 ct29 oc30 dc30 pm30 cd30 ct30 kV30 oc31 dc31 pm31 cd31 ct31 kV31 oc32 dc32 pm32 cd32 ct32 kV32 oc33 dc33 pm33 cd33 ct33 kV33 rs1 rs5 rs6
  intro aC0 aC1 aC2 aC3 pg0 hd0 po0 sa0 pg3 hd3 po3 sa3 gg_ALONE gg_ANY gg_HEIGHTS gg_LESSER gg_MARKS lkg_MARKS gg_MODES lkg_MODES gg_MOST_POINTS gg_MOST_TAKES gg_NET_PARTS gg_NONE gg_QUIET_WORDS lkg_QUIET_WORDS gg_RISING gg_SHARED gg_WORDS lkg_WORDS fn_Reader_next_ones fn_Reader_places fn_Reader_stops fn_Way_locks fn_Way_places fn_Way_walked z_abs z_all z_bool z_dict z_enumerate z_int z_isinstance z_len z_list z_max z_min z_range z_repr z_reversed z_sorted z_str z_tuple a0 l0 c0 k0 a1 gq1 t1 r1 l1 c1 k1 a2 l2 c2 k2 a3 l3 c3 k3 a4 l4 c4 k4 a5 gq5 t5 r5 l5 c5 k5 a6 gq6 t6 r6 l6 c6 k6 a7 l7 c7 k7 a8 l8 c8 k8 a9 l9 c9 k9 a10 l10 c10 k10 a11 l11 c11 k11 a12 l12 c12 k12 a13 l13 c13 k13 a14 l14 c14 k14 a15 i15 l15 c15 k15 mk0 kc0 a16 i16 l16 c16 k16 a17 i17 l17 c17 k17 a18 l18 c18 k18 a19 l19 c19 k19 a20 l20 c20 k20 a21 l21 c21 k21 a22 l22 c22 k22 a23 l23 c23 k23 a24 l24 c24 k24 a25 l25 c25 k25 a26 l26 c26 k26 a27 l27 c27 k27 a28 l28 c28 k28 a29 i29 l29 c29 k29 kw29_hops mk3 kc3 a30 l30 c30 k30 a31 l31 c31 k31 a32 l32 c32 k32 a33 l33 c33 k33
  exact K43.all_mk Y G hmg aC0 aC1 aC2 aC3 pg0 hd0 po0 sa0 pg3 hd3 po3 sa3 gg_ALONE gg_ANY gg_HEIGHTS gg_LESSER gg_MARKS lkg_MARKS gg_MODES lkg_MODES gg_MOST_POINTS gg_MOST_TAKES gg_NET_PARTS gg_NONE gg_QUIET_WORDS lkg_QUIET_WORDS gg_RISING gg_SHARED gg_WORDS lkg_WORDS fn_Reader_next_ones fn_Reader_places fn_Reader_stops fn_Way_locks fn_Way_places fn_Way_walked z_abs z_all z_bool z_dict z_enumerate z_int z_isinstance z_len z_list z_max z_min z_range z_repr z_reversed z_sorted z_str z_tuple a0 l0 c0 k0 a1 gq1 t1 r1 l1 c1 k1 a2 l2 c2 k2 a3 l3 c3 k3 a4 l4 c4 k4 a5 gq5 t5 r5 l5 c5 k5 a6 gq6 t6 r6 l6 c6 k6 a7 l7 c7 k7 a8 l8 c8 k8 a9 l9 c9 k9 a10 l10 c10 k10 a11 l11 c11 k11 a12 l12 c12 k12 a13 l13 c13 k13 a14 l14 c14 k14 a15 i15 l15 c15 k15 mk0 kc0 a16 i16 l16 c16 k16 a17 i17 l17 c17 k17 a18 l18 c18 k18 a19 l19 c19 k19 a20 l20 c20 k20 a21 l21 c21 k21 a22 l22 c22 k22 a23 l23 c23 k23 a24 l24 c24 k24 a25 l25 c25 k25 a26 l26 c26 k26 a27 l27 c27 k27 a28 l28 c28 k28 a29 i29 l29 c29 k29 kw29_hops mk3 kc3 a30 l30 c30 k30 a31 l31 c31 k31 a32 l32 c32 k32 a33 l33 c33 k33
end
