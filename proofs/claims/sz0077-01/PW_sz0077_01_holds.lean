import PyProof.Rows.All
import Wide.All
import OpenK.KSplit
import OpenK.KNot
import OpenK.KApp
import KE.KPop
import KE.KListMore
import KE.RegKMod
import KE.KDictOf
import KE.KDictMeth
import KE.KEqSeq
import KE.KSlice
import KE.GnPush
import KE.KSorted
import KE.KJoinElse
import KE.RegTryLedger
import KE.KTops
import KE.RegKSuper
import KE.KSort
import KE.KDictLoop
import KE.RegLcTurns
import KE.RegLcAnyAll
import KE.KCat
import KE.KTemps
import KE.KTup
import KE.KxMul
import KE.KxSplit
import KE.KxIndex
import KE.KxText
import KE.KCells
import KE.KPassesOwn
import KE.RegKIsNot
import KE.KTempsTwo
import KE.KSetInts
import KE.KSortedL
import KE.KxBytes
import KE.KClos
import KE.KNestStore
import KE.KOwnIter
import KE.KStopIter
import KE.RegKBase
import KE.KDictOne
import KE.RegKMathG
import KE.KDictAny
import KE.RegKCallOwn
import KE.KSliceW
import KE.KxDecode
import KE.RegKMathGB
import KE.KLam
import KE.KDictBranch
import KE.KTree
import KE.KTreeB
import KE.KNestM
import KE.KDflt
import KE.KOwnIterCall
import KE.KSortedM
import KE.KTurns
import KE.KEqText
import KE.KxLen
import KE.RegKMathGC
import KE.KIsClose
import KE.KEqDict
import KE.KDisp
import KE.KDictAnyGet
import KE.KDictObj
import KE.KSetIn
import KE.KRevSl
import KE.KEqDeep
import KE.KAnyBase
import KE.KBoundM
import KE.KWhile
import KE.KRevIter
import KE.KCount
import KE.KTreeR
import KE.KxStill
import KE.KFinally
import KE.KTopLam
import KE.KWithOwn
import KE.KCases
import KE.KOpsOwn
import KE.KDictNew
import KE.KDictList
import KE.KDictIter
import KE.RegKUnpackStar
import KE.KSortAsk
import KE.KWhileD
import KE.KLcTest
import KE.KSumEnd
import KE.KPopAny
import KE.KGrown
import KE.KItemAt
import KE.KTextLit
import KE.KTupDict
import KE.KFmtOwn
import KE.KUnrMore
import KE.KMinKey
import KE.KTurnsDict
import KE.KExtendNil
import KE.KMethU
import KE.BytesMul
import KE.KCompFold
import KE.KDictSum
import KE.KDictName
import KE.KDictSym
import KE.KTurnsAny
import KE.KDictAnyTail
import KE.RegKStar
import KE.RegKParD
import KE.RegKTupTruth
import KE.RegKTupSum
import KE.KCallJoin
import KE.KMethJoin
import KE.KPathRangeEnd
import KE.KStateW
import KE.RegKParC
import KE.KxWritten
import KE.KxAdd
import KE.KxAffix
import KE.KxField
import KE.RegKIsAll
import KE.RegKMatchCls
import KE.KLcPair
import KE.RegKTryDeep
import KE.KJoinL
import KE.RegKNeg
import KE.KxPercentT
import KE.KBytesCut
import KE.KCellOne
import KE.KCompIf
import KE.KMenu
import KE.KxFormat
import KE.KTypeName
import KE.KCompText
import KE.BytesMulAny
import KE.KDictSymLen
import KE.KSortTup
import KE.KPairAssign
import KE.KTypeOf
import KE.KFinEnd
import KE.KMulAny
import KE.KBytesMenu
import KE.KTextDict
import KE.KPathShort
import KE.KSplitRange
import KE.KKinds
import KE.KxPart
import KE.KRangeItem
import KE.KDictLetter
import KE.KRangeNest
import KE.KSetAt
import KE.KWords
import KE.KxTruthy
import KE.KPairRows
import KE.KBytesMore
import KE.RegKStateDown
import KE.KItemsList
import KE.KRangePlain
import KE.KStateGiven
import KE.KBitsMul
import KE.KTextTable
import KE.KForList
import KE.KIdxIf
import KE.KAssignIn
import KE.KFirstTurn
import KE.KOwnRange
import KE.KLooksOwn
import KE.KDictWord
import KE.KStrOpen
import KE.KTurnsGround
import KE.KListEnd
import KE.KSearch
import KE.KFinFacts
import KE.RegKTryOn
import KE.KCenter
import KE.KStrWords
import KE.KStateTextK
import KE.KBools
import KE.KStateWGiven
import KE.KData
import KE.KCallTup
import KE.KTreeD
import KE.KTreeF
import KE.KEndWord
import KE.KStateBytes
import KE.KRangeEnd
import KE.KOf
import KE.KRepItem
import KE.KListLetter
import KE.KSliceSign
import KE.KCallBy
import KE.KToBytes
import KE.KPathText
import KE.KMinBuiltin
import KE.KFromBytes
import KE.KEqDat
import KE.KBytesUnr
import KE.KIsBytes
import KE.KCallRec
import KE.KEndW
import KE.RegLGe
import KE.RegLGeC
import Wide.FinOn
import PyProof.ExcInit
import PyProof.ExcBaseAll.Exception
import PySem.Challenge.RW_sz0077_01
open PySem PySem.W PyProof.Rows PySem.Calls PySem.Spec
set_option Elab.async false
set_option maxRecDepth 100000
set_option maxHeartbeats 80000000
set_option genInjectivity false
set_option genSizeOfSpec false
set_option linter.all false
set_option compiler.extract_closed false
namespace Mine
noncomputable def viewQ : Program := view PySem.Challenge.pw_sz0077_01 [1,2,3,4,5,6,8,9,10,11,12,13,14,15,16,17,18,19,20,21,22,23,24,25,26,28,29,30,31,32,33]
noncomputable def openQ (H : Hook) := fun (said : (OpenLaw.row PySem.Challenge.rw_sz0077_01).wellSaid = true) hl hw hc => holds_open (r := OpenLaw.row PySem.Challenge.rw_sz0077_01) (q := viewQ) (loose := [Str.ofString "OPERATIONS"]) (Xt := fun s => xlAt viewQ [] s && recOk (RowW.records (OpenRow.toRowW (OpenLaw.row PySem.Challenge.rw_sz0077_01))) s) (XP := XL viewQ []) (Yf := Hook.obs H) (Ya := Hook.val H) (YP := Hook.says H) (N := 5028) hl (Hook.of H) (Hook.keeps H) (fun s e => xl_of s (Bool.and_eq_true_iff.mp e).1) XL.keeps (by rfl) (by rfl) (by rfl) (fun s e => recFacts_of (Bool.and_eq_true_iff.mp e).2) (by rfl) said (by decide +kernel) ⟨rfl, rfl, rfl, rfl, rfl, by decide +kernel⟩ hw hc
theorem sd.tw7512188710667775164 : True := trivial
theorem sd.tw4335005518994848945 : True := trivial
set_option Elab.async true in
theorem sd : ((OpenLaw.row PySem.Challenge.rw_sz0077_01).wellSaid = true → OpenRow.Holds (OpenLaw.row PySem.Challenge.rw_sz0077_01)) → PySem.Challenge.rw_sz0077_01.Holds := by
  intro h
  o_law
  exact h (by assumption)
section
local macro_rules | `(tactic| o_law) => `(tactic| refine sd fun said => ?_)
local macro_rules | `(tactic| o_head $H) => `(tactic| refine openQ $H (by assumption) (And.left ?hc) ?hw (And.right ?hc))
open_top hd0 for PySem.Challenge.rw_sz0077_01
end
noncomputable abbrev sndP {A B C : Prop} (_ : A ∧ B → C) : Prop := B
theorem hd.tw10458740792067480800 : True := trivial
theorem hd.tw9499510787657705874 : True := trivial
theorem hd.tw5480042469492414594 : True := trivial
theorem hd.tw2252305205657439004 : True := trivial
theorem hd.tw11117797201346649052 : True := trivial
theorem hd.tw15790720579355451973 : True := trivial
theorem hd.tw2887051446865420828 : True := trivial
theorem hd.tw8977307856219701671 : True := trivial
theorem hd.tw6407587892757256292 : True := trivial
theorem hd.tw4494801613693538912 : True := trivial
theorem hd.tw8086110750863094267 : True := trivial
theorem hd.tw3451239065008710300 : True := trivial
theorem hd.tw14182229006566876298 : True := trivial
theorem hd.tw13790719812936386609 : True := trivial
theorem hd.tw16970440968685349367 : True := trivial
theorem hd.tw7085514621470718492 : True := trivial
theorem hd.tw9741134391959003819 : True := trivial
theorem hd.tw8228950375871286339 : True := trivial
theorem hd.tw2386827423013361158 : True := trivial
theorem hd.tw17650839729002327288 : True := trivial
theorem hd.tw6060742912462422084 : True := trivial
theorem hd.tw13338143212406534295 : True := trivial
theorem hd.tw10012880186880212623 : True := trivial
theorem hd.tw2930668341846507884 : True := trivial
theorem hd.tw14896477498954680388 : True := trivial
theorem hd.tw7512188710667775164 : True := trivial
theorem hd.tw15616948245753086127 : True := trivial
theorem hd.tw5366084841770067474 : True := trivial
theorem hd.tw9427301549700849589 : True := trivial
theorem hd.tw14960593345356199642 : True := trivial
theorem hd.tw15615537253650120727 : True := trivial
theorem hd.tw1589133516308662214 : True := trivial
theorem hd.tw9238262914530080051 : True := trivial
theorem hd.tw14176624398918483544 : True := trivial
theorem hd.tw7914949630228597729 : True := trivial
theorem hd.tw15852365999677673905 : True := trivial
theorem hd.tw11128854368766332075 : True := trivial
theorem hd.tw17466564637892440618 : True := trivial
theorem hd.tw6785817131721698500 : True := trivial
theorem hd.tw395138700845864316 : True := trivial
theorem hd.tw15324177356831513438 : True := trivial
theorem hd.tw10246146449241189800 : True := trivial
theorem hd.tw18402139038575964673 : True := trivial
theorem hd.tw6082411064634330575 : True := trivial
theorem hd.tw3789350110615891812 : True := trivial
theorem hd.tw15967140613478806237 : True := trivial
theorem hd.tw7951154912783665155 : True := trivial
theorem hd.tw1997569388931296116 : True := trivial
theorem hd.tw18343703819029505601 : True := trivial
theorem hd.tw6291416237084387574 : True := trivial
theorem hd.tw8789358453043137523 : True := trivial
theorem hd.tw11232374478483605306 : True := trivial
theorem hd.tw11251137523995926341 : True := trivial
theorem hd.tw16299908979028503884 : True := trivial
theorem hd.tw11709330566771433103 : True := trivial
theorem hd.tw6438293893037913957 : True := trivial
theorem hd.tw13409441903868389331 : True := trivial
theorem hd.tw5282504435634884242 : True := trivial
theorem hd.tw13483081372092288885 : True := trivial
theorem hd.tw7510230149288206974 : True := trivial
theorem hd.tw16011055738799735888 : True := trivial
theorem hd.tw5608270528595127837 : True := trivial
theorem hd.tw10614716105012338702 : True := trivial
theorem hd.tw18293851220164018083 : True := trivial
theorem hd.tw2167537188350426706 : True := trivial
theorem hd.tw4185656317496899905 : True := trivial
theorem hd.tw18129098259903571784 : True := trivial
theorem hd.tw12647368939536790636 : True := trivial
theorem hd.tw1452849714261714991 : True := trivial
theorem hd.tw12598724348716800887 : True := trivial
theorem hd.tw5343241284826551009 : True := trivial
theorem hd.tw17177331786930743035 : True := trivial
theorem hd.tw11465210709893060100 : True := trivial
theorem hd.tw15642763164714097627 : True := trivial
theorem hd.tw5978321128707920903 : True := trivial
theorem hd.tw17948085552500728524 : True := trivial
theorem hd.tw3085183777334472315 : True := trivial
theorem hd.tw13372043803930879067 : True := trivial
theorem hd.tw16412773359747925120 : True := trivial
theorem hd.tw3381375190539634487 : True := trivial
theorem hd.tw11319097763535126812 : True := trivial
theorem hd.tw15673258824015622330 : True := trivial
theorem hd.tw15422856539912107476 : True := trivial
theorem hd.tw17054507655720011243 : True := trivial
theorem hd.tw9641152695372364146 : True := trivial
theorem hd.tw9557236495431379559 : True := trivial
theorem hd.tw15043168886218598503 : True := trivial
theorem hd.tw17588044629489971554 : True := trivial
theorem hd.tw6882427118574961969 : True := trivial
theorem hd.tw2867327485932766208 : True := trivial
theorem hd.tw4870687313549177768 : True := trivial
theorem hd.tw7615569780526240018 : True := trivial
theorem hd.tw15367242080415987702 : True := trivial
theorem hd.tw13893168526513508166 : True := trivial
theorem hd.tw16155205043701107222 : True := trivial
theorem hd.tw14103535550066685397 : True := trivial
theorem hd.tw10030107230732127627 : True := trivial
theorem hd.tw6982297934935202809 : True := trivial
theorem hd.tw17714235663813219645 : True := trivial
theorem hd.tw4478166936697009375 : True := trivial
theorem hd.tw17901334829092211166 : True := trivial
theorem hd.tw8428860471423672150 : True := trivial
theorem hd.tw5961118342813265553 : True := trivial
theorem hd.tw9783614193127449063 : True := trivial
theorem hd.tw8770205317985620760 : True := trivial
theorem hd.tw14400467628812073631 : True := trivial
theorem hd.tw3915529967508079626 : True := trivial
theorem hd.tw10743916045514856203 : True := trivial
theorem hd.tw14980023328507725902 : True := trivial
theorem hd.tw13368278939475635651 : True := trivial
theorem hd.tw8343274005884668182 : True := trivial
theorem hd.tw18300207936620678264 : True := trivial
theorem hd.tw5148922909946612681 : True := trivial
theorem hd.tw8684328023851190084 : True := trivial
theorem hd.tw6924109203229866365 : True := trivial
theorem hd.tw18293732401869909652 : True := trivial
theorem hd.tw11151547217846952531 : True := trivial
theorem hd.tw3229955645248102723 : True := trivial
theorem hd.tw7519716089354478335 : True := trivial
theorem hd.tw10792051664901133789 : True := trivial
theorem hd.tw16713699803418581334 : True := trivial
theorem hd.tw11652457597714270106 : True := trivial
theorem hd.tw14553816603554493358 : True := trivial
theorem hd.tw8004679753235328684 : True := trivial
theorem hd.tw7754304195085646258 : True := trivial
theorem hd.tw6038821095411175016 : True := trivial
theorem hd.tw4014540891139286612 : True := trivial
theorem hd.tw4297731678662094536 : True := trivial
theorem hd.tw16064382804478563927 : True := trivial
theorem hd.tw2315301623876862497 : True := trivial
theorem hd.tw15344866539931968096 : True := trivial
theorem hd.tw15042006015671813226 : True := trivial
theorem hd.tw4272726840584523970 : True := trivial
theorem hd.tw2114630138375439770 : True := trivial
theorem hd.tw16853341256802265648 : True := trivial
theorem hd.tw10424393626065333798 : True := trivial
theorem hd.tw4172343393113369950 : True := trivial
theorem hd.tw13315533130655954831 : True := trivial
theorem hd.tw16157073509204512506 : True := trivial
theorem hd.tw519851828213033955 : True := trivial
theorem hd.tw18322514126500204803 : True := trivial
theorem hd.tw7610815399733428385 : True := trivial
theorem hd.tw3480954088277226078 : True := trivial
theorem hd.tw2329189449893159454 : True := trivial
theorem hd.tw16194383521188589630 : True := trivial
theorem hd.tw3259873300814134281 : True := trivial
theorem hd.tw17739348878880393726 : True := trivial
theorem hd.tw7721951785955056133 : True := trivial
theorem hd.tw190519026028168232 : True := trivial
theorem hd.tw11959044307898795358 : True := trivial
theorem hd.tw9386895884608548742 : True := trivial
theorem hd.tw402640490398009360 : True := trivial
theorem hd.tw9244321171653502345 : True := trivial
theorem hd.tw6123773746684550334 : True := trivial
theorem hd.tw13267510147771200024 : True := trivial
theorem hd.tw10583446816852156582 : True := trivial
theorem hd.tw17808607793243039243 : True := trivial
theorem hd.tw2708950531961675432 : True := trivial
theorem hd.tw10024716035694756283 : True := trivial
theorem hd.tw5292301768408028288 : True := trivial
theorem hd.tw14560493823538711346 : True := trivial
theorem hd.tw6164396464334811476 : True := trivial
theorem hd.tw18350433093344046624 : True := trivial
theorem hd.tw8934143017859847078 : True := trivial
theorem hd.tw162610821266807592 : True := trivial
theorem hd.tw6442067068224118133 : True := trivial
theorem hd.tw140273363834453309 : True := trivial
theorem hd.tw14478148883734587675 : True := trivial
theorem hd.tw15103106377680225435 : True := trivial
theorem hd.tw8068729725432388964 : True := trivial
theorem hd.tw9719896912496429819 : True := trivial
theorem hd.tw2274498078352570744 : True := trivial
theorem hd.tw6838551448383532254 : True := trivial
theorem hd.tw8245962753199588958 : True := trivial
theorem hd.tw11660266114150955751 : True := trivial
theorem hd.tw17213754286329925777 : True := trivial
theorem hd.tw12614811148066621264 : True := trivial
theorem hd.tw2216850387143573719 : True := trivial
theorem hd.tw7355570028127101125 : True := trivial
theorem hd.tw4993660671451451078 : True := trivial
theorem hd.tw17606422857730326317 : True := trivial
theorem hd.tw8025032847418708242 : True := trivial
theorem hd.tw8364274539379898114 : True := trivial
theorem hd.tw4086058157674990017 : True := trivial
theorem hd.tw4851647983119433812 : True := trivial
theorem hd.tw307737655149646647 : True := trivial
theorem hd.tw5902613922787404954 : True := trivial
theorem hd.tw9702936160620672325 : True := trivial
theorem hd.tw5781342201191254626 : True := trivial
theorem hd.tw11319892378374348655 : True := trivial
theorem hd.tw4335005518994848945 : True := trivial
theorem hd.tw12271959270614036898 : True := trivial
theorem hd.tw12602439190401603521 : True := trivial
theorem hd.tw13047593935725612058 : True := trivial
theorem hd.tw7109450275434161582 : True := trivial
theorem hd.tw10111801491309104144 : True := trivial
theorem hd.tw6411954120941647267 : True := trivial
theorem hd.tw16828841361933241965 : True := trivial
theorem hd.tw16722109127936396110 : True := trivial
theorem hd.tw11213053971927718326 : True := trivial
theorem hd.tw17047115858639842297 : True := trivial
theorem hd.tw3452082135128663414 : True := trivial
theorem hd.tw9430268157657104642 : True := trivial
theorem hd.tw13285133528070534704 : True := trivial
theorem hd.tw12070051907170230399 : True := trivial
theorem hd.tw16091413853298234908 : True := trivial
theorem hd.tw1241404454085649124 : True := trivial
theorem hd.tw9421340871869096474 : True := trivial
theorem hd.tw10216474801634566288 : True := trivial
theorem hd.tw6598312636042714100 : True := trivial
theorem hd.tw5559951931751713254 : True := trivial
theorem hd.tw17183224562656869120 : True := trivial
theorem hd.tw1382963296337349011 : True := trivial
theorem hd.tw13825509269061658866 : True := trivial
theorem hd.tw4402725079659364252 : True := trivial
theorem hd.tw12173100003817136821 : True := trivial
theorem hd.tw9120999728284197611 : True := trivial
theorem hd.tw5036846961687405229 : True := trivial
theorem hd.tw14620637471214046174 : True := trivial
theorem hd.tw3008623586974134963 : True := trivial
theorem hd.tw13753220567063992666 : True := trivial
theorem hd.tw18093812233618175256 : True := trivial
theorem hd.tw9170477692918782315 : True := trivial
theorem hd.tw728884934406724761 : True := trivial
theorem hd.tw5461583852855630226 : True := trivial
theorem hd.tw4115565904173853331 : True := trivial
theorem hd.tw5190246844813560578 : True := trivial
theorem hd.tw4971549296188076032 : True := trivial
theorem hd.tw8047900516022102942 : True := trivial
theorem hd.tw13866372431405929976 : True := trivial
theorem hd.tw17234923516513369237 : True := trivial
theorem hd.tw5245234834050458271 : True := trivial
theorem hd.tw7296583596125217682 : True := trivial
theorem hd.tw13431754692932380062 : True := trivial
theorem hd.tw3219085151875037572 : True := trivial
theorem hd.tw17420951861521290806 : True := trivial
theorem hd.tw11631869004601391166 : True := trivial
theorem hd.tw13225837485096350037 : True := trivial
theorem hd.tw4856431653887292112 : True := trivial
theorem hd.tw10360471539772378328 : True := trivial
theorem hd.tw9345929723534960622 : True := trivial
theorem hd.tw16649331688326792143 : True := trivial
theorem hd.tw5363564295841288755 : True := trivial
theorem hd.tw2501560643306240237 : True := trivial
theorem hd.tw2603259988358896889 : True := trivial
theorem hd.tw7345208892882624808 : True := trivial
theorem hd.tw16634568088961857937 : True := trivial
theorem hd.tw8990313861142287110 : True := trivial
theorem hd.tw15527848837575444561 : True := trivial
theorem hd.tw11953376511379268794 : True := trivial
theorem hd.tw18103342009636024947 : True := trivial
theorem hd.tw13181700845877081190 : True := trivial
theorem hd.tw1013155817946168525 : True := trivial
theorem hd.tw16477043939570097188 : True := trivial
theorem hd.tw1847840615245081061 : True := trivial
theorem hd.tw3109861748172591687 : True := trivial
theorem hd.tw4225703048834024713 : True := trivial
theorem hd.tw10170382586518783626 : True := trivial
theorem hd.tw3429492842335990350 : True := trivial
theorem hd.tw9763420282994701918 : True := trivial
theorem hd.tw5416991563250132298 : True := trivial
theorem hd.tw1506431575118746342 : True := trivial
theorem hd.tw8356816923877370021 : True := trivial
theorem hd.tw3919010098100093602 : True := trivial
theorem hd.tw9277588360372424766 : True := trivial
theorem hd.tw13770079208771991547 : True := trivial
theorem hd.tw8117029840178788049 : True := trivial
theorem hd.tw4278124947684190350 : True := trivial
theorem hd.tw15166520500009309586 : True := trivial
theorem hd.tw15416985209724490359 : True := trivial
theorem hd.tw15837987909243819085 : True := trivial
theorem hd.tw6892424819385984264 : True := trivial
theorem hd.tw13289513938125300765 : True := trivial
theorem hd.tw15759970867653108152 : True := trivial
theorem hd.tw16154546982801380032 : True := trivial
theorem hd.tw10603584201595350602 : True := trivial
theorem hd.tw8414420238210853183 : True := trivial
theorem hd.tw12588582704262371052 : True := trivial
theorem hd.tw17711083657039698284 : True := trivial
theorem hd.tw6759412095888398321 : True := trivial
theorem hd.tw2309287656979702205 : True := trivial
theorem hd.tw2323474266016966308 : True := trivial
theorem hd.tw1413172679324656950 : True := trivial
theorem hd.tw12629568148972539762 : True := trivial
theorem hd.tw9014375795449043846 : True := trivial
theorem hd.tw4015398097383911347 : True := trivial
theorem hd.tw10296555574160606952 : True := trivial
theorem hd.tw922143313871775805 : True := trivial
theorem hd.tw6767318904944593275 : True := trivial
theorem hd.tw10784824025267889561 : True := trivial
theorem hd.tw1600037746751723098 : True := trivial
theorem hd.tw5732804406350252772 : True := trivial
theorem hd.tw18185175575083235020 : True := trivial
theorem hd.tw10752148897807903841 : True := trivial
theorem hd.tw3646829019195819677 : True := trivial
theorem hd.tw12399718760709695909 : True := trivial
theorem hd.tw12092154237167983948 : True := trivial
theorem hd.tw7068711184596962023 : True := trivial
theorem hd.tw9345676750909349944 : True := trivial
theorem hd.tw12451258846644117672 : True := trivial
theorem hd.tw17387473266821786944 : True := trivial
theorem hd.tw6528754448969337418 : True := trivial
theorem hd.tw2999033326186475339 : True := trivial
theorem hd.tw17061077104543960549 : True := trivial
theorem hd.tw7053684537722995226 : True := trivial
theorem hd.tw6394381022753523788 : True := trivial
theorem hd.tw14705683404202351889 : True := trivial
theorem hd.tw15615420239508185596 : True := trivial
theorem hd.tw12487502673411948298 : True := trivial
theorem hd.tw6293948785866598258 : True := trivial
theorem hd.tw212345690472687942 : True := trivial
theorem hd.tw8671608845466749128 : True := trivial
theorem hd.tw16211521421427940678 : True := trivial
theorem hd.tw18245042118932799458 : True := trivial
theorem hd.tw6998783941825042932 : True := trivial
theorem hd.tw3795277891434052102 : True := trivial
theorem hd.tw1439246655266547700 : True := trivial
theorem hd.tw17062030032774818151 : True := trivial
theorem hd.tw10258999931320997221 : True := trivial
theorem hd.tw14246236162039180721 : True := trivial
theorem hd.tw11513968764499736323 : True := trivial
theorem hd.tw432457690288141553 : True := trivial
theorem hd.tw461538923250603899 : True := trivial
theorem hd.tw12023040214023829324 : True := trivial
theorem hd.tw6196171512934965099 : True := trivial
theorem hd.tw6819123309680001836 : True := trivial
theorem hd.tw16868993833207775613 : True := trivial
theorem hd.tw8735263284916673568 : True := trivial
theorem hd.tw16945582573551092051 : True := trivial
theorem hd.tw17893044597097874663 : True := trivial
theorem hd.tw1882180444382439491 : True := trivial
theorem hd.tw10258225898301398825 : True := trivial
theorem hd.tw14955159897011116063 : True := trivial
theorem hd.tw12901994302517312135 : True := trivial
theorem hd.tw5716766192118558609 : True := trivial
theorem hd.tw15153279154761372571 : True := trivial
theorem hd.tw3828038474966422129 : True := trivial
theorem hd.tw13217225542625558698 : True := trivial
theorem hd.tw16171809288044610508 : True := trivial
theorem hd.tw7752767780024739350 : True := trivial
theorem hd.tw17986969038992634876 : True := trivial
theorem hd.tw16302227732802510677 : True := trivial
theorem hd.tw11754176132448286083 : True := trivial
theorem hd.tw978945382295711627 : True := trivial
theorem hd.tw758273949599710562 : True := trivial
theorem hd.tw5054737718236178183 : True := trivial
theorem hd.tw1129884963351977449 : True := trivial
theorem hd.tw1359830224848277088 : True := trivial
theorem hd.tw1903866087469309809 : True := trivial
theorem hd.tw8959176491354863721 : True := trivial
theorem hd.tw16794629799341752650 : True := trivial
theorem hd.tw13609717118414637909 : True := trivial
theorem hd.tw5562173858411828344 : True := trivial
theorem hd.tw11917015161858427179 : True := trivial
theorem hd.tw2502866573005156581 : True := trivial
theorem hd.tw13828106393651249627 : True := trivial
theorem hd.tw8716120427605611371 : True := trivial
theorem hd.tw17975533764899295144 : True := trivial
theorem hd.tw17252143746492648416 : True := trivial
theorem hd.tw14457593812595234344 : True := trivial
theorem hd.tw1222794163293265305 : True := trivial
theorem hd.tw16222499966895952523 : True := trivial
theorem hd.tw18291419657060728153 : True := trivial
theorem hd.tw15279998641719260112 : True := trivial
theorem hd.tw3953601041324332601 : True := trivial
theorem hd.tw7120233287515763914 : True := trivial
theorem hd.tw14598272352848978880 : True := trivial
theorem hd.tw12113243949977362033 : True := trivial
theorem hd.tw17397052962432165270 : True := trivial
theorem hd.tw4706079058837389440 : True := trivial
theorem hd.tw10986063751678176500 : True := trivial
theorem hd.tw10678649693572172417 : True := trivial
theorem hd.tw8112040973832200146 : True := trivial
theorem hd.tw7628703163842673926 : True := trivial
theorem hd.tw2327210489368252092 : True := trivial
theorem hd.tw9673543361469618366 : True := trivial
theorem hd.tw11210553801493137410 : True := trivial
theorem hd.tw15411387601460861337 : True := trivial
theorem hd.tw7028611270464810887 : True := trivial
theorem hd.tw1836080755315867724 : True := trivial
theorem hd.tw54727356038600574 : True := trivial
theorem hd.tw16432713993328977331 : True := trivial
theorem hd.tw14353793391729792155 : True := trivial
theorem hd.tw13518370688599389936 : True := trivial
theorem hd.tw6154236146145331571 : True := trivial
theorem hd.tw1580110805410547442 : True := trivial
theorem hd.tw5130813555471234732 : True := trivial
theorem hd.tw17574625026820762457 : True := trivial
theorem hd.tw8268277133935991078 : True := trivial
theorem hd.tw701787995468756871 : True := trivial
theorem hd.tw6305734824756694309 : True := trivial
theorem hd.tw7763873220885509757 : True := trivial
theorem hd.tw8458067239894703972 : True := trivial
theorem hd.tw6276725880618359904 : True := trivial
theorem hd.tw14168552714766633299 : True := trivial
theorem hd.tw7366208706002141716 : True := trivial
theorem hd.tw15683763237869141255 : True := trivial
theorem hd.tw13855946660403688772 : True := trivial
theorem hd.tw17672654358674132775 : True := trivial
theorem hd.tw8052382678804489345 : True := trivial
theorem hd.tw3694398316872202419 : True := trivial
theorem hd.tw10403243965636340961 : True := trivial
theorem hd.tw7451428367024993598 : True := trivial
theorem hd.tw18219297243305740317 : True := trivial
theorem hd.tw13321331477185743149 : True := trivial
theorem hd.tw15595854959937240912 : True := trivial
theorem hd.tw16056359734778111409 : True := trivial
theorem hd.tw7494724483528729301 : True := trivial
theorem hd.tw8841187974860818712 : True := trivial
theorem hd.tw4325921153153474475 : True := trivial
theorem hd.tw3650960628870763488 : True := trivial
theorem hd.tw1800889605409440832 : True := trivial
theorem hd.tw12936449754285732098 : True := trivial
theorem hd.tw16920754564084929960 : True := trivial
theorem hd.tw14511892006539256324 : True := trivial
theorem hd.tw13277076834127875243 : True := trivial
theorem hd.tw17330945745186091897 : True := trivial
theorem hd.tw4360684699965382250 : True := trivial
theorem hd.tw6545403380812914513 : True := trivial
theorem hd.tw4315991029959535628 : True := trivial
theorem hd.tw8879563391730754479 : True := trivial
theorem hd.tw9748044761591592747 : True := trivial
theorem hd.tw3759623122121258479 : True := trivial
theorem hd.tw17542962492245011380 : True := trivial
theorem hd.tw8727321023445011275 : True := trivial
theorem hd.tw8516288146210602744 : True := trivial
theorem hd.tw14906377314874228009 : True := trivial
theorem hd.tw2195365466389143174 : True := trivial
theorem hd.tw1760603350576429475 : True := trivial
theorem hd.tw16037735763661986305 : True := trivial
theorem hd.tw1097998534492414930 : True := trivial
theorem hd.tw17258206423299326598 : True := trivial
theorem hd.tw4377701919642642989 : True := trivial
theorem hd.tw7078114378095841949 : True := trivial
theorem hd.tw15114108414909977919 : True := trivial
theorem hd.tw3493717111155160527 : True := trivial
theorem hd.tw15083628210047938546 : True := trivial
theorem hd.tw3530705653197291679 : True := trivial
theorem hd.tw18241275227582772068 : True := trivial
theorem hd.tw14892549342360969540 : True := trivial
theorem hd.tw9237616624170024493 : True := trivial
theorem hd.tw6663896369628448293 : True := trivial
theorem hd.tw15529170255622000948 : True := trivial
theorem hd.tw7540655947842036084 : True := trivial
theorem hd.tw6931407450589930559 : True := trivial
theorem hd.tw5511420028821071320 : True := trivial
theorem hd.tw6555240042291301478 : True := trivial
theorem hd.tw16640546478005224243 : True := trivial
theorem hd.tw8226494294326810461 : True := trivial
theorem hd.tw15833661619300960221 : True := trivial
theorem hd.tw6184460063843016694 : True := trivial
theorem hd.tw18264374347568628810 : True := trivial
theorem hd.tw11389486352061984695 : True := trivial
theorem hd.tw17681399029576232318 : True := trivial
theorem hd.tw5657824000916062451 : True := trivial
theorem hd.tw5567388512258382067 : True := trivial
theorem hd.tw7023726343779634624 : True := trivial
theorem hd.tw11162318198679636149 : True := trivial
theorem hd.tw7082855905992002993 : True := trivial
theorem hd.tw5174551420813472067 : True := trivial
theorem hd.tw13638418597567726942 : True := trivial
theorem hd.tw8457440626546761165 : True := trivial
theorem hd.tw2391449824757734642 : True := trivial
theorem hd.tw13330244855972007585 : True := trivial
theorem hd.tw226724450230711188 : True := trivial
theorem hd.tw7512474625130614241 : True := trivial
theorem hd.tw222355574447326538 : True := trivial
theorem hd.tw16029623286316568529 : True := trivial
noncomputable abbrev fstP {A B C : Prop} (_ : A ∧ B → C) : Prop := A
theorem keepL {A C : Prop} (k : A → C) (a : A) : C := k a
section
local macro_rules | `(tactic| refine $_f:ident (q := $_q) $_args*) => `(tactic| refine keepL (by assumption) ?hl)
set_option Elab.async true in
theorem hd : (fstP hd0 → OpenRow.Holds (OpenLaw.row PySem.Challenge.rw_sz0077_01)) → OpenRow.Holds (OpenLaw.row PySem.Challenge.rw_sz0077_01) := by
  intro k
  unfold fstP at k
  w_on
  o_head (Hook.none)
end
noncomputable abbrev LO : List Str := looseW viewQ [Str.ofString "OPERATIONS"]

noncomputable def neAll (d : Nat) : List (Addr × Obj) → Prop
  | [] => True
  | p :: r => @Ne Nat p.1 d ∧ neAll d r
noncomputable def pairNe : List (Addr × Obj) → Prop
  | [] => True
  | p :: r => neAll p.1 r ∧ pairNe r
theorem neAll_iff {d : Nat} : ∀ {l : List (Addr × Obj)}, neAll d l ↔ ∀ p ∈ l, p.1 ≠ d
  | [] => ⟨fun _ _ h => (nomatch h), fun _ => trivial⟩
  | p :: r => ⟨fun h q hq => by
      rcases List.mem_cons.mp hq with rfl | hq
      · exact h.1
      · exact neAll_iff.mp h.2 q hq, fun h => ⟨h p (.head _), neAll_iff.mpr fun q hq => h q (.tail _ hq)⟩⟩
noncomputable def NewsG (g h : Heap) (l : List (Addr × Obj)) : Prop := ∀ p ∈ l, h.get? p.1 = some p.2 ∧ g.get? p.1 = none

noncomputable abbrev aro (dp un : Nat) (gd : Option (List Code)) (frs : List Env) : Around := { handled := none, depth := dp, frames := some frs, guards := gd, units := un }
/-- where a call stands: the frames below, the written part, the frozen heap g, and the footprint -/
structure Site (w : World) (mean : ExcName → Option Value) (mg mb : Str → Option Value) (dp un : Nat) (gd : Option (List Code)) (base : Heap) (frs : List Env) (g : Heap) (s : Shared) (foot : List (Addr × Obj)) : Prop where
  B : Below (aro dp un gd frs) base frs g
  X : (hd0.heap_1 w.params).In base
  T : Top viewQ LO mean mg mb base
  st : g.StaysIn s.heap
  sz : g.objs.size ≤ s.heap.objs.size
  N : NewsG g s.heap foot
  nd : pairNe foot

noncomputable def LeaveS (g : Heap) (R : Result → Shared → Prop) (v : Value) (s' : Shared) : Prop :=
  ∃ L' m' news', Fr g L' s'.heap m' ∧ News g L' s'.heap news' ∧ (g.StaysIn s'.heap → NewsG g s'.heap news' → R (.ok (.ret v)) s')
theorem leaveS_ {g : Heap} {L' : Addr} {m' : Str → Option Value} {news' : List (Addr × Obj)} {R : Result → Shared → Prop} {v : Value} {s' : Shared} (F' : Fr g L' s'.heap m') (N' : News g L' s'.heap news')
    (k : g.StaysIn s'.heap → NewsG g s'.heap news' → R (.ok (.ret v)) s') : LeaveS g R v s' := ⟨L', m', news', F', N', k⟩

section
variable {prog : Program} {w : World} {mean : ExcName → Option Value} {mg mb : Str → Option Value} {dp un : Nat} {gd : Option (List Code)} {base g : Heap} {frs : List Env} {s : Shared} {foot : List (Addr × Obj)}
  {R : Result → Shared → Prop} {name qual : Str} {params : Arguments} {body : List Stmt} {scope : Scope} {dV kV doc pm cdv ct oc : Value} {an od : Option Addr} {osl : Array (Option Value)} {f : Addr} {args : Args} {binds : List (Str × Value)}

theorem enter (S : Site w mean mg mb dp un gd base frs g s foot)
    (ho : (hd0.heap_1 w.params).lookup f = some ⟨oc, od, .func (fnOf name qual params body scope dV kV doc pm an cdv ct), osl⟩) (hcd : codeIn (hd0.heap_1 w.params) cdv qual = true) (hroom : dp < recursionLimit)
    (hbind : BindsTo s (fnOf name qual params body scope dV kV doc pm an cdv ct) args binds) (hloc : ∀ y ∈ binds, scope.names.lookup y.1 = some .local)
    (h : ∀ L' h₁, Fr g L' h₁ (fun y => binds.reverse.lookup y) → News g L' h₁ foot → Below (aro dp un gd frs) base frs g → (hd0.heap_1 w.params).In g → Top viewQ LO mean mg mb g → (∀ p ∈ foot, p.1 < L') →
      wpAny (model prog w) ((aro dp un gd frs).deeper (envOf qual scope L' f cdv)) (execs body (envOf qual scope L' f cdv))
        (fun fl s' => LeaveS g R (match fl with | .ret v => v | _ => .none) s')
        (fun e s' => wpAny (model prog w) ((aro dp un gd frs).deeper (envOf qual scope L' f cdv)) (leaving (envOf qual scope L' f cdv) e) (fun _ s'' => R (.error e) s'') (fun e' s'' => R (.error e') s'') s')
        { s with heap := h₁, toks := s.toks + binds.length })
    (hco : scope.isCoroutine = false) (hgen : scope.isGenerator = false) (hk : scope.kind = .function)
    (hcell : ∀ x ∈ scope.names, x.2 ≠ .cell) : codeAny (model prog w) (aro dp un gd frs) (.call (.ref f) args) R s := by
  have Xg : (hd0.heap_1 w.params).In g := S.X.keeps S.B.stays
  have Tg := S.T.keeps S.B.stays
  refine codeAny_call_def (fd := fnOf name qual params body scope dV kV doc pm an cdv ct) (body := body) (binds := binds) hroom (S.st _ _ (Xg _ _ ho)) rfl (Tg.nolimit.keeps S.st) (codeRec_of (Xg.keeps S.st) hcd) rfl hbind hcell hloc (fun h₁ hns hk₁ => ?_) hco hgen hk
  refine wpAny_mono (h s.heap.objs.size h₁ ⟨hns, fun b o e => hk₁ b o (S.st b o e), S.sz⟩
    (fun p hp => ⟨hk₁ _ _ (S.N p hp).1, Nat.ne_of_lt (Heap.lt_size (S.N p hp).1), (S.N p hp).2⟩) S.B Xg Tg (fun p hp => Heap.lt_size (S.N p hp).1)) (fun fl s' hl => ?_) fun _ _ y => y
  obtain ⟨L', m', news', F', N', k⟩ := hl
  exact k F'.keep fun p hp => ⟨(N' p hp).1, (N' p hp).2.2⟩

end

/-- a contract: P says what comes back and the ledger then; X says the row at which it is refused -/
noncomputable def RetS (g : Heap) (s : Shared) (P : Value → List (Addr × Obj) → Prop) (Q : Value → Shared → Prop) : Prop :=
  ∀ r h' tk' news', g.StaysIn h' → NewsG g h' news' → pairNe news' → P r news' → Q r { s with heap := h', toks := tk' }

theorem cj2 {a1 a2 G : Prop} (h : a1 ∧ a2) (k : a1 → a2 → G) : G := k h.1 h.2
theorem cj3 {a1 a2 a3 G : Prop} (h : a1 ∧ a2 ∧ a3) (k : a1 → a2 → a3 → G) : G := k h.1 h.2.1 h.2.2
theorem cj4 {a1 a2 a3 a4 G : Prop} (h : a1 ∧ a2 ∧ a3 ∧ a4) (k : a1 → a2 → a3 → a4 → G) : G := k h.1 h.2.1 h.2.2.1 h.2.2.2
theorem cj5 {a1 a2 a3 a4 a5 G : Prop} (h : a1 ∧ a2 ∧ a3 ∧ a4 ∧ a5) (k : a1 → a2 → a3 → a4 → a5 → G) : G := k h.1 h.2.1 h.2.2.1 h.2.2.2.1 h.2.2.2.2
theorem cj6 {a1 a2 a3 a4 a5 a6 G : Prop} (h : a1 ∧ a2 ∧ a3 ∧ a4 ∧ a5 ∧ a6) (k : a1 → a2 → a3 → a4 → a5 → a6 → G) : G := k h.1 h.2.1 h.2.2.1 h.2.2.2.1 h.2.2.2.2.1 h.2.2.2.2.2
theorem cj7 {a1 a2 a3 a4 a5 a6 a7 G : Prop} (h : a1 ∧ a2 ∧ a3 ∧ a4 ∧ a5 ∧ a6 ∧ a7) (k : a1 → a2 → a3 → a4 → a5 → a6 → a7 → G) : G := k h.1 h.2.1 h.2.2.1 h.2.2.2.1 h.2.2.2.2.1 h.2.2.2.2.2.1 h.2.2.2.2.2.2
theorem cj8 {a1 a2 a3 a4 a5 a6 a7 a8 G : Prop} (h : a1 ∧ a2 ∧ a3 ∧ a4 ∧ a5 ∧ a6 ∧ a7 ∧ a8) (k : a1 → a2 → a3 → a4 → a5 → a6 → a7 → a8 → G) : G := k h.1 h.2.1 h.2.2.1 h.2.2.2.1 h.2.2.2.2.1 h.2.2.2.2.2.1 h.2.2.2.2.2.2.1 h.2.2.2.2.2.2.2
theorem cj9 {a1 a2 a3 a4 a5 a6 a7 a8 a9 G : Prop} (h : a1 ∧ a2 ∧ a3 ∧ a4 ∧ a5 ∧ a6 ∧ a7 ∧ a8 ∧ a9) (k : a1 → a2 → a3 → a4 → a5 → a6 → a7 → a8 → a9 → G) : G := k h.1 h.2.1 h.2.2.1 h.2.2.2.1 h.2.2.2.2.1 h.2.2.2.2.2.1 h.2.2.2.2.2.2.1 h.2.2.2.2.2.2.2.1 h.2.2.2.2.2.2.2.2
theorem cj10 {a1 a2 a3 a4 a5 a6 a7 a8 a9 a10 G : Prop} (h : a1 ∧ a2 ∧ a3 ∧ a4 ∧ a5 ∧ a6 ∧ a7 ∧ a8 ∧ a9 ∧ a10) (k : a1 → a2 → a3 → a4 → a5 → a6 → a7 → a8 → a9 → a10 → G) : G := k h.1 h.2.1 h.2.2.1 h.2.2.2.1 h.2.2.2.2.1 h.2.2.2.2.2.1 h.2.2.2.2.2.2.1 h.2.2.2.2.2.2.2.1 h.2.2.2.2.2.2.2.2.1 h.2.2.2.2.2.2.2.2.2
theorem cj11 {a1 a2 a3 a4 a5 a6 a7 a8 a9 a10 a11 G : Prop} (h : a1 ∧ a2 ∧ a3 ∧ a4 ∧ a5 ∧ a6 ∧ a7 ∧ a8 ∧ a9 ∧ a10 ∧ a11) (k : a1 → a2 → a3 → a4 → a5 → a6 → a7 → a8 → a9 → a10 → a11 → G) : G := k h.1 h.2.1 h.2.2.1 h.2.2.2.1 h.2.2.2.2.1 h.2.2.2.2.2.1 h.2.2.2.2.2.2.1 h.2.2.2.2.2.2.2.1 h.2.2.2.2.2.2.2.2.1 h.2.2.2.2.2.2.2.2.2.1 h.2.2.2.2.2.2.2.2.2.2
theorem cj12 {a1 a2 a3 a4 a5 a6 a7 a8 a9 a10 a11 a12 G : Prop} (h : a1 ∧ a2 ∧ a3 ∧ a4 ∧ a5 ∧ a6 ∧ a7 ∧ a8 ∧ a9 ∧ a10 ∧ a11 ∧ a12) (k : a1 → a2 → a3 → a4 → a5 → a6 → a7 → a8 → a9 → a10 → a11 → a12 → G) : G := k h.1 h.2.1 h.2.2.1 h.2.2.2.1 h.2.2.2.2.1 h.2.2.2.2.2.1 h.2.2.2.2.2.2.1 h.2.2.2.2.2.2.2.1 h.2.2.2.2.2.2.2.2.1 h.2.2.2.2.2.2.2.2.2.1 h.2.2.2.2.2.2.2.2.2.2.1 h.2.2.2.2.2.2.2.2.2.2.2
theorem cj13 {a1 a2 a3 a4 a5 a6 a7 a8 a9 a10 a11 a12 a13 G : Prop} (h : a1 ∧ a2 ∧ a3 ∧ a4 ∧ a5 ∧ a6 ∧ a7 ∧ a8 ∧ a9 ∧ a10 ∧ a11 ∧ a12 ∧ a13) (k : a1 → a2 → a3 → a4 → a5 → a6 → a7 → a8 → a9 → a10 → a11 → a12 → a13 → G) : G := k h.1 h.2.1 h.2.2.1 h.2.2.2.1 h.2.2.2.2.1 h.2.2.2.2.2.1 h.2.2.2.2.2.2.1 h.2.2.2.2.2.2.2.1 h.2.2.2.2.2.2.2.2.1 h.2.2.2.2.2.2.2.2.2.1 h.2.2.2.2.2.2.2.2.2.2.1 h.2.2.2.2.2.2.2.2.2.2.2.1 h.2.2.2.2.2.2.2.2.2.2.2.2
theorem cj14 {a1 a2 a3 a4 a5 a6 a7 a8 a9 a10 a11 a12 a13 a14 G : Prop} (h : a1 ∧ a2 ∧ a3 ∧ a4 ∧ a5 ∧ a6 ∧ a7 ∧ a8 ∧ a9 ∧ a10 ∧ a11 ∧ a12 ∧ a13 ∧ a14) (k : a1 → a2 → a3 → a4 → a5 → a6 → a7 → a8 → a9 → a10 → a11 → a12 → a13 → a14 → G) : G := k h.1 h.2.1 h.2.2.1 h.2.2.2.1 h.2.2.2.2.1 h.2.2.2.2.2.1 h.2.2.2.2.2.2.1 h.2.2.2.2.2.2.2.1 h.2.2.2.2.2.2.2.2.1 h.2.2.2.2.2.2.2.2.2.1 h.2.2.2.2.2.2.2.2.2.2.1 h.2.2.2.2.2.2.2.2.2.2.2.1 h.2.2.2.2.2.2.2.2.2.2.2.2.1 h.2.2.2.2.2.2.2.2.2.2.2.2.2
theorem cj15 {a1 a2 a3 a4 a5 a6 a7 a8 a9 a10 a11 a12 a13 a14 a15 G : Prop} (h : a1 ∧ a2 ∧ a3 ∧ a4 ∧ a5 ∧ a6 ∧ a7 ∧ a8 ∧ a9 ∧ a10 ∧ a11 ∧ a12 ∧ a13 ∧ a14 ∧ a15) (k : a1 → a2 → a3 → a4 → a5 → a6 → a7 → a8 → a9 → a10 → a11 → a12 → a13 → a14 → a15 → G) : G := k h.1 h.2.1 h.2.2.1 h.2.2.2.1 h.2.2.2.2.1 h.2.2.2.2.2.1 h.2.2.2.2.2.2.1 h.2.2.2.2.2.2.2.1 h.2.2.2.2.2.2.2.2.1 h.2.2.2.2.2.2.2.2.2.1 h.2.2.2.2.2.2.2.2.2.2.1 h.2.2.2.2.2.2.2.2.2.2.2.1 h.2.2.2.2.2.2.2.2.2.2.2.2.1 h.2.2.2.2.2.2.2.2.2.2.2.2.2.1 h.2.2.2.2.2.2.2.2.2.2.2.2.2.2
theorem cj16 {a1 a2 a3 a4 a5 a6 a7 a8 a9 a10 a11 a12 a13 a14 a15 a16 G : Prop} (h : a1 ∧ a2 ∧ a3 ∧ a4 ∧ a5 ∧ a6 ∧ a7 ∧ a8 ∧ a9 ∧ a10 ∧ a11 ∧ a12 ∧ a13 ∧ a14 ∧ a15 ∧ a16) (k : a1 → a2 → a3 → a4 → a5 → a6 → a7 → a8 → a9 → a10 → a11 → a12 → a13 → a14 → a15 → a16 → G) : G := k h.1 h.2.1 h.2.2.1 h.2.2.2.1 h.2.2.2.2.1 h.2.2.2.2.2.1 h.2.2.2.2.2.2.1 h.2.2.2.2.2.2.2.1 h.2.2.2.2.2.2.2.2.1 h.2.2.2.2.2.2.2.2.2.1 h.2.2.2.2.2.2.2.2.2.2.1 h.2.2.2.2.2.2.2.2.2.2.2.1 h.2.2.2.2.2.2.2.2.2.2.2.2.1 h.2.2.2.2.2.2.2.2.2.2.2.2.2.1 h.2.2.2.2.2.2.2.2.2.2.2.2.2.2.1 h.2.2.2.2.2.2.2.2.2.2.2.2.2.2.2
theorem cj17 {a1 a2 a3 a4 a5 a6 a7 a8 a9 a10 a11 a12 a13 a14 a15 a16 a17 G : Prop} (h : a1 ∧ a2 ∧ a3 ∧ a4 ∧ a5 ∧ a6 ∧ a7 ∧ a8 ∧ a9 ∧ a10 ∧ a11 ∧ a12 ∧ a13 ∧ a14 ∧ a15 ∧ a16 ∧ a17) (k : a1 → a2 → a3 → a4 → a5 → a6 → a7 → a8 → a9 → a10 → a11 → a12 → a13 → a14 → a15 → a16 → a17 → G) : G := k h.1 h.2.1 h.2.2.1 h.2.2.2.1 h.2.2.2.2.1 h.2.2.2.2.2.1 h.2.2.2.2.2.2.1 h.2.2.2.2.2.2.2.1 h.2.2.2.2.2.2.2.2.1 h.2.2.2.2.2.2.2.2.2.1 h.2.2.2.2.2.2.2.2.2.2.1 h.2.2.2.2.2.2.2.2.2.2.2.1 h.2.2.2.2.2.2.2.2.2.2.2.2.1 h.2.2.2.2.2.2.2.2.2.2.2.2.2.1 h.2.2.2.2.2.2.2.2.2.2.2.2.2.2.1 h.2.2.2.2.2.2.2.2.2.2.2.2.2.2.2.1 h.2.2.2.2.2.2.2.2.2.2.2.2.2.2.2.2
theorem cj18 {a1 a2 a3 a4 a5 a6 a7 a8 a9 a10 a11 a12 a13 a14 a15 a16 a17 a18 G : Prop} (h : a1 ∧ a2 ∧ a3 ∧ a4 ∧ a5 ∧ a6 ∧ a7 ∧ a8 ∧ a9 ∧ a10 ∧ a11 ∧ a12 ∧ a13 ∧ a14 ∧ a15 ∧ a16 ∧ a17 ∧ a18) (k : a1 → a2 → a3 → a4 → a5 → a6 → a7 → a8 → a9 → a10 → a11 → a12 → a13 → a14 → a15 → a16 → a17 → a18 → G) : G := k h.1 h.2.1 h.2.2.1 h.2.2.2.1 h.2.2.2.2.1 h.2.2.2.2.2.1 h.2.2.2.2.2.2.1 h.2.2.2.2.2.2.2.1 h.2.2.2.2.2.2.2.2.1 h.2.2.2.2.2.2.2.2.2.1 h.2.2.2.2.2.2.2.2.2.2.1 h.2.2.2.2.2.2.2.2.2.2.2.1 h.2.2.2.2.2.2.2.2.2.2.2.2.1 h.2.2.2.2.2.2.2.2.2.2.2.2.2.1 h.2.2.2.2.2.2.2.2.2.2.2.2.2.2.1 h.2.2.2.2.2.2.2.2.2.2.2.2.2.2.2.1 h.2.2.2.2.2.2.2.2.2.2.2.2.2.2.2.2.1 h.2.2.2.2.2.2.2.2.2.2.2.2.2.2.2.2.2
theorem cj19 {a1 a2 a3 a4 a5 a6 a7 a8 a9 a10 a11 a12 a13 a14 a15 a16 a17 a18 a19 G : Prop} (h : a1 ∧ a2 ∧ a3 ∧ a4 ∧ a5 ∧ a6 ∧ a7 ∧ a8 ∧ a9 ∧ a10 ∧ a11 ∧ a12 ∧ a13 ∧ a14 ∧ a15 ∧ a16 ∧ a17 ∧ a18 ∧ a19) (k : a1 → a2 → a3 → a4 → a5 → a6 → a7 → a8 → a9 → a10 → a11 → a12 → a13 → a14 → a15 → a16 → a17 → a18 → a19 → G) : G := k h.1 h.2.1 h.2.2.1 h.2.2.2.1 h.2.2.2.2.1 h.2.2.2.2.2.1 h.2.2.2.2.2.2.1 h.2.2.2.2.2.2.2.1 h.2.2.2.2.2.2.2.2.1 h.2.2.2.2.2.2.2.2.2.1 h.2.2.2.2.2.2.2.2.2.2.1 h.2.2.2.2.2.2.2.2.2.2.2.1 h.2.2.2.2.2.2.2.2.2.2.2.2.1 h.2.2.2.2.2.2.2.2.2.2.2.2.2.1 h.2.2.2.2.2.2.2.2.2.2.2.2.2.2.1 h.2.2.2.2.2.2.2.2.2.2.2.2.2.2.2.1 h.2.2.2.2.2.2.2.2.2.2.2.2.2.2.2.2.1 h.2.2.2.2.2.2.2.2.2.2.2.2.2.2.2.2.2.1 h.2.2.2.2.2.2.2.2.2.2.2.2.2.2.2.2.2.2
theorem cj20 {a1 a2 a3 a4 a5 a6 a7 a8 a9 a10 a11 a12 a13 a14 a15 a16 a17 a18 a19 a20 G : Prop} (h : a1 ∧ a2 ∧ a3 ∧ a4 ∧ a5 ∧ a6 ∧ a7 ∧ a8 ∧ a9 ∧ a10 ∧ a11 ∧ a12 ∧ a13 ∧ a14 ∧ a15 ∧ a16 ∧ a17 ∧ a18 ∧ a19 ∧ a20) (k : a1 → a2 → a3 → a4 → a5 → a6 → a7 → a8 → a9 → a10 → a11 → a12 → a13 → a14 → a15 → a16 → a17 → a18 → a19 → a20 → G) : G := k h.1 h.2.1 h.2.2.1 h.2.2.2.1 h.2.2.2.2.1 h.2.2.2.2.2.1 h.2.2.2.2.2.2.1 h.2.2.2.2.2.2.2.1 h.2.2.2.2.2.2.2.2.1 h.2.2.2.2.2.2.2.2.2.1 h.2.2.2.2.2.2.2.2.2.2.1 h.2.2.2.2.2.2.2.2.2.2.2.1 h.2.2.2.2.2.2.2.2.2.2.2.2.1 h.2.2.2.2.2.2.2.2.2.2.2.2.2.1 h.2.2.2.2.2.2.2.2.2.2.2.2.2.2.1 h.2.2.2.2.2.2.2.2.2.2.2.2.2.2.2.1 h.2.2.2.2.2.2.2.2.2.2.2.2.2.2.2.2.1 h.2.2.2.2.2.2.2.2.2.2.2.2.2.2.2.2.2.1 h.2.2.2.2.2.2.2.2.2.2.2.2.2.2.2.2.2.2.1 h.2.2.2.2.2.2.2.2.2.2.2.2.2.2.2.2.2.2.2
theorem cj24 {a1 a2 a3 a4 a5 a6 a7 a8 a9 a10 a11 a12 a13 a14 a15 a16 a17 a18 a19 a20 a21 a22 a23 a24 G : Prop} (h : a1 ∧ a2 ∧ a3 ∧ a4 ∧ a5 ∧ a6 ∧ a7 ∧ a8 ∧ a9 ∧ a10 ∧ a11 ∧ a12 ∧ a13 ∧ a14 ∧ a15 ∧ a16 ∧ a17 ∧ a18 ∧ a19 ∧ a20 ∧ a21 ∧ a22 ∧ a23 ∧ a24) (k : a1 → a2 → a3 → a4 → a5 → a6 → a7 → a8 → a9 → a10 → a11 → a12 → a13 → a14 → a15 → a16 → a17 → a18 → a19 → a20 → a21 → a22 → a23 → a24 → G) : G := k h.1 h.2.1 h.2.2.1 h.2.2.2.1 h.2.2.2.2.1 h.2.2.2.2.2.1 h.2.2.2.2.2.2.1 h.2.2.2.2.2.2.2.1 h.2.2.2.2.2.2.2.2.1 h.2.2.2.2.2.2.2.2.2.1 h.2.2.2.2.2.2.2.2.2.2.1 h.2.2.2.2.2.2.2.2.2.2.2.1 h.2.2.2.2.2.2.2.2.2.2.2.2.1 h.2.2.2.2.2.2.2.2.2.2.2.2.2.1 h.2.2.2.2.2.2.2.2.2.2.2.2.2.2.1 h.2.2.2.2.2.2.2.2.2.2.2.2.2.2.2.1 h.2.2.2.2.2.2.2.2.2.2.2.2.2.2.2.2.1 h.2.2.2.2.2.2.2.2.2.2.2.2.2.2.2.2.2.1 h.2.2.2.2.2.2.2.2.2.2.2.2.2.2.2.2.2.2.1 h.2.2.2.2.2.2.2.2.2.2.2.2.2.2.2.2.2.2.2.1 h.2.2.2.2.2.2.2.2.2.2.2.2.2.2.2.2.2.2.2.2.1 h.2.2.2.2.2.2.2.2.2.2.2.2.2.2.2.2.2.2.2.2.2.1 h.2.2.2.2.2.2.2.2.2.2.2.2.2.2.2.2.2.2.2.2.2.2.1 h.2.2.2.2.2.2.2.2.2.2.2.2.2.2.2.2.2.2.2.2.2.2.2
theorem cj32 {a1 a2 a3 a4 a5 a6 a7 a8 a9 a10 a11 a12 a13 a14 a15 a16 a17 a18 a19 a20 a21 a22 a23 a24 a25 a26 a27 a28 a29 a30 a31 a32 G : Prop} (h : a1 ∧ a2 ∧ a3 ∧ a4 ∧ a5 ∧ a6 ∧ a7 ∧ a8 ∧ a9 ∧ a10 ∧ a11 ∧ a12 ∧ a13 ∧ a14 ∧ a15 ∧ a16 ∧ a17 ∧ a18 ∧ a19 ∧ a20 ∧ a21 ∧ a22 ∧ a23 ∧ a24 ∧ a25 ∧ a26 ∧ a27 ∧ a28 ∧ a29 ∧ a30 ∧ a31 ∧ a32) (k : a1 → a2 → a3 → a4 → a5 → a6 → a7 → a8 → a9 → a10 → a11 → a12 → a13 → a14 → a15 → a16 → a17 → a18 → a19 → a20 → a21 → a22 → a23 → a24 → a25 → a26 → a27 → a28 → a29 → a30 → a31 → a32 → G) : G := k h.1 h.2.1 h.2.2.1 h.2.2.2.1 h.2.2.2.2.1 h.2.2.2.2.2.1 h.2.2.2.2.2.2.1 h.2.2.2.2.2.2.2.1 h.2.2.2.2.2.2.2.2.1 h.2.2.2.2.2.2.2.2.2.1 h.2.2.2.2.2.2.2.2.2.2.1 h.2.2.2.2.2.2.2.2.2.2.2.1 h.2.2.2.2.2.2.2.2.2.2.2.2.1 h.2.2.2.2.2.2.2.2.2.2.2.2.2.1 h.2.2.2.2.2.2.2.2.2.2.2.2.2.2.1 h.2.2.2.2.2.2.2.2.2.2.2.2.2.2.2.1 h.2.2.2.2.2.2.2.2.2.2.2.2.2.2.2.2.1 h.2.2.2.2.2.2.2.2.2.2.2.2.2.2.2.2.2.1 h.2.2.2.2.2.2.2.2.2.2.2.2.2.2.2.2.2.2.1 h.2.2.2.2.2.2.2.2.2.2.2.2.2.2.2.2.2.2.2.1 h.2.2.2.2.2.2.2.2.2.2.2.2.2.2.2.2.2.2.2.2.1 h.2.2.2.2.2.2.2.2.2.2.2.2.2.2.2.2.2.2.2.2.2.1 h.2.2.2.2.2.2.2.2.2.2.2.2.2.2.2.2.2.2.2.2.2.2.1 h.2.2.2.2.2.2.2.2.2.2.2.2.2.2.2.2.2.2.2.2.2.2.2.1 h.2.2.2.2.2.2.2.2.2.2.2.2.2.2.2.2.2.2.2.2.2.2.2.2.1 h.2.2.2.2.2.2.2.2.2.2.2.2.2.2.2.2.2.2.2.2.2.2.2.2.2.1 h.2.2.2.2.2.2.2.2.2.2.2.2.2.2.2.2.2.2.2.2.2.2.2.2.2.2.1 h.2.2.2.2.2.2.2.2.2.2.2.2.2.2.2.2.2.2.2.2.2.2.2.2.2.2.2.1 h.2.2.2.2.2.2.2.2.2.2.2.2.2.2.2.2.2.2.2.2.2.2.2.2.2.2.2.2.1 h.2.2.2.2.2.2.2.2.2.2.2.2.2.2.2.2.2.2.2.2.2.2.2.2.2.2.2.2.2.1 h.2.2.2.2.2.2.2.2.2.2.2.2.2.2.2.2.2.2.2.2.2.2.2.2.2.2.2.2.2.2.1 h.2.2.2.2.2.2.2.2.2.2.2.2.2.2.2.2.2.2.2.2.2.2.2.2.2.2.2.2.2.2.2
theorem ex1 {t1 : Type} {p : t1 → Prop} {G : Prop} (h : ∃ x1, p x1) (k : ∀ (x1 : t1), p x1 → G) : G := h.elim fun x1 h => k x1 h
theorem ex2 {t1 t2 : Type} {p : t1 → t2 → Prop} {G : Prop} (h : ∃ x1, ∃ x2, p x1 x2) (k : ∀ (x1 : t1) (x2 : t2), p x1 x2 → G) : G := h.elim fun x1 h => h.elim fun x2 h => k x1 x2 h
theorem ex7 {t1 t2 t3 t4 t5 t6 t7 : Type} {p : t1 → t2 → t3 → t4 → t5 → t6 → t7 → Prop} {G : Prop} (h : ∃ x1, ∃ x2, ∃ x3, ∃ x4, ∃ x5, ∃ x6, ∃ x7, p x1 x2 x3 x4 x5 x6 x7) (k : ∀ (x1 : t1) (x2 : t2) (x3 : t3) (x4 : t4) (x5 : t5) (x6 : t6) (x7 : t7), p x1 x2 x3 x4 x5 x6 x7 → G) : G := h.elim fun x1 h => h.elim fun x2 h => h.elim fun x3 h => h.elim fun x4 h => h.elim fun x5 h => h.elim fun x6 h => h.elim fun x7 h => k x1 x2 x3 x4 x5 x6 x7 h
theorem ix10 {t1 t2 t3 t4 t5 t6 t7 t8 t9 t10 : Type} {p : t1 → t2 → t3 → t4 → t5 → t6 → t7 → t8 → t9 → t10 → Prop} (x1 : t1) (x2 : t2) (x3 : t3) (x4 : t4) (x5 : t5) (x6 : t6) (x7 : t7) (x8 : t8) (x9 : t9) (x10 : t10) (h : p x1 x2 x3 x4 x5 x6 x7 x8 x9 x10) : ∃ x1, ∃ x2, ∃ x3, ∃ x4, ∃ x5, ∃ x6, ∃ x7, ∃ x8, ∃ x9, ∃ x10, p x1 x2 x3 x4 x5 x6 x7 x8 x9 x10 := ⟨x1, x2, x3, x4, x5, x6, x7, x8, x9, x10, h⟩
noncomputable def letAE {M : Model} {A₀ : Around} {e₀ : Env} {body : List Stmt} {Q : Flow → Shared → Prop} {E : Value → Shared → Prop} {s : Shared} (h : let A := A₀; let e := e₀; wpAny M A (execs body e) Q E s) : wpAny M A₀ (execs body e₀) Q E s := h
noncomputable def foldQ {α : Type} {M : Model} {A : Around} {t : Sem α} {Q : α → Shared → Prop} {E : Value → Shared → Prop} {s : Shared} (h : let q := Q; wpAny M A t q E s) : wpAny M A t Q E s := h
noncomputable def letS {α : Type} {Q : α → Shared → Prop} {v : α} {S : Shared} (k : let s := S; Q v s) : Q v S := k
@[reducible] noncomputable def upS (s : Shared) (h : Heap) (t : Nat) : Shared := { s with heap := h, toks := t }
noncomputable def letS2 {α : Type} {Q : α → Shared → Prop} {v : α} {s : Shared} {h : Heap} {t : Nat} (k : let s' := upS s h t; Q v s') : Q v { s with heap := h, toks := t } := k
theorem stmtR {prog : Program} {w : World} {A : Around} {st : Stmt} {rest : List Stmt} {en : Env} {Q : Flow → Shared → Prop} {E : Value → Shared → Prop} {s : Shared} {h : Heap} {t : Nat} (H : ∀ tk, let s' := upS s h tk; let q := (fun f s'' => match f with | .next => wpAny (model prog w) A (execs rest en) Q E s'' | f => Q f s''); wpAny (model prog w) A (exec st en) q E s') : wpAny (model prog w) A (execs (st :: rest) en) Q E { s with heap := h, toks := t } := wpAny_execs_cons (H t)
noncomputable def mkT (h : Heap) (g : Array GenState) (d : Drawn) (t : Nat) (o : OsState) : Shared := ⟨h, g, d, t, o⟩
theorem mkEq {h : Heap} {g : Array GenState} {d : Drawn} {t : Nat} {o : OsState} : Shared.mk h g d t o = mkT h g d t o := rfl
noncomputable def foldN {h₀ h : Heap} {L : Addr} {news : List (Addr × Obj)} {G : Prop} (N : News h₀ L h news) (k : let n := news; News h₀ L h n → G) : G := k N
section
variable {M : Model} {A : Around} {E : Value → Shared → Prop} {s : Shared} {h₀ : Heap} {L a : Addr} {m : Str → Option Value} {cn : Str} {cs : Scope} {ccd : Value} {cl : List (Str × Addr)} {x : Str} {v : Value} {news : List (Addr × Obj)}
theorem storeL {Q : Unit → Shared → Prop} (F : Fr h₀ L s.heap m) (N : News h₀ L s.heap news)
    (h : let m' := (fun y => if y = x then some v else m y); ∀ h', Fr h₀ L h' m' → News h₀ L h' news → Q () { s with heap := h', toks := s.toks + 1 })
    (hk : cs.kind = .function := by rfl) (hx : (envX cn cs L a ccd cl).kindOf x = some .local := by rfl) : wpAny M A (storeName (envX cn cs L a ccd cl) x v) Q E s := storeX_L F N h hk hx
theorem listL {vs : List Value} {Q : Value → Shared → Prop} (F : Fr h₀ L s.heap m) (N : News h₀ L s.heap news)
    (h : let o' := W.listOf vs.toArray 0; ∀ l h', let n' := (l, o') :: news; Fr h₀ L h' m → News h₀ L h' n' → (∀ p ∈ news, p.1 < l) → Q (.ref l) { s with heap := h' }) (hsz : vs.length ≤ sizeLine := by size_fits) : wpAny M A (newList vs) Q E s := newList_K F N h hsz
theorem tupleL {vs : List Value} {Q : Value → Shared → Prop} (F : Fr h₀ L s.heap m) (N : News h₀ L s.heap news)
    (h : let o' := ({ cls := .type "tuple", data := .seq vs.toArray } : Obj); ∀ D h', let n' := (D, o') :: news; Fr h₀ L h' m → News h₀ L h' n' → (∀ p ∈ news, p.1 < D) → Q (.ref D) { s with heap := h' }) (hz : vs.length ≤ sizeLine) : wpAny M A (newTuple vs) Q E s := kup_newTuple F N h hz
theorem appendL {prog : Program} {w : World} {D : Addr} {nw : Obj → List (Addr × Obj)} {its : Array Value} {n : Nat} {x : Value} {Q : Value → Shared → Prop} (F : Fr h₀ L s.heap m) (N : News h₀ L s.heap news) (U : ∀ o', Upd D (W.listOf its n) o' news (nw o'))
    (h : let o' := W.listOf (its.push x) (n + 1); let n' := nw o'; ∀ h', Fr h₀ L h' m → News h₀ L h' n' → Q .none { s with heap := h' }) (hsz : its.size ≤ sizeLine := by size_fits) : wpAny (model prog w) A (call (.builtin "list.append") [.ref D, x]) Q E s := append_K F N (U _) h hsz
theorem setL {prog : Program} {w : World} {K : Frag} {x C dx : Addr} {nw : Obj → List (Addr × Obj)} {ox : Obj} {es es' : List DictEntry} {n n' : Nat} {name : Str} {Q : Unit → Shared → Prop} (F : Fr h₀ L s.heap m) (X₀ : K.In h₀) (N : News h₀ L s.heap news) (I : InstAt s.heap x ox C (some (dictOf es n))) (hd : ox.dict = some dx)
    (hs : findIn K (.ref C) "__setattr__" = some (some (.builtin "object.__setattr__"))) (hp : plainOver K C = true) (ht : takerIn K C name = some none) (hh : hasDictIn K C = true) (hl : (getL name es).isSome = true)
    (e : (putL name (PyData.keyHash w.params name) (.str name (s.toks + 1)) v es, putN name es n) = (es', n')) (U : ∀ o', Upd dx (dictOf es n) o' news (nw o')) (hz : es'.length ≤ 1000)
    (h : let e9 := es'; let o9 := dictOf e9 n'; let n9 := nw o9; ∀ h', Fr h₀ L h' m → News h₀ L h' n9 → Q () { s with heap := h', toks := s.toks + 2 }) :
    wpAny (model prog w) A (setAttr (.ref x) name v) Q E s := set_dict F X₀ N I hd hs hp ht hh hl e (U _) hz h
noncomputable def nameRet {g : Heap} {s : Shared} {P : Value → List (Addr × Obj) → Prop} {Q : Value → Shared → Prop} {G : Prop} (h : RetS g s P Q) (k : let P' := P; RetS g s P' Q → G) : G := k h
theorem objs1 {h : Heap} {a1 : Addr} {o1 : Obj} {t : List (Addr × Obj)} {G : Prop} (N : News h₀ L h ((a1, o1) :: t)) (k : let p1 := o1; let n := (a1, p1) :: t; News h₀ L h n → G) : G := k N
theorem objs2 {h : Heap} {a1 a2 : Addr} {o1 o2 : Obj} {t : List (Addr × Obj)} {G : Prop} (N : News h₀ L h ((a1, o1) :: (a2, o2) :: t)) (k : let p1 := o1; let p2 := o2; let n := (a1, p1) :: (a2, p2) :: t; News h₀ L h n → G) : G := k N
theorem objs3 {h : Heap} {a1 a2 a3 : Addr} {o1 o2 o3 : Obj} {t : List (Addr × Obj)} {G : Prop} (N : News h₀ L h ((a1, o1) :: (a2, o2) :: (a3, o3) :: t)) (k : let p1 := o1; let p2 := o2; let p3 := o3; let n := (a1, p1) :: (a2, p2) :: (a3, p3) :: t; News h₀ L h n → G) : G := k N
theorem objs4 {h : Heap} {a1 a2 a3 a4 : Addr} {o1 o2 o3 o4 : Obj} {t : List (Addr × Obj)} {G : Prop} (N : News h₀ L h ((a1, o1) :: (a2, o2) :: (a3, o3) :: (a4, o4) :: t)) (k : let p1 := o1; let p2 := o2; let p3 := o3; let p4 := o4; let n := (a1, p1) :: (a2, p2) :: (a3, p3) :: (a4, p4) :: t; News h₀ L h n → G) : G := k N
theorem objs7 {h : Heap} {a1 a2 a3 a4 a5 a6 a7 : Addr} {o1 o2 o3 o4 o5 o6 o7 : Obj} {t : List (Addr × Obj)} {G : Prop} (N : News h₀ L h ((a1, o1) :: (a2, o2) :: (a3, o3) :: (a4, o4) :: (a5, o5) :: (a6, o6) :: (a7, o7) :: t)) (k : let p1 := o1; let p2 := o2; let p3 := o3; let p4 := o4; let p5 := o5; let p6 := o6; let p7 := o7; let n := (a1, p1) :: (a2, p2) :: (a3, p3) :: (a4, p4) :: (a5, p5) :: (a6, p6) :: (a7, p7) :: t; News h₀ L h n → G) : G := k N
end
@[reducible] noncomputable def nth {α : Type} : List α → Nat → Option α
  | [], _ => none
  | x :: _, 0 => some x
  | _ :: l, n + 1 => nth l n
@[reducible] noncomputable def dropN {α : Type} : Nat → List α → List α
  | 0, l => l
  | _ + 1, [] => []
  | n + 1, _ :: l => dropN n l
theorem memAt {α : Type} {x : α} {l : List α} (n : Nat) (h : nth l n = some x) : x ∈ l := by
  induction l generalizing n with
  | nil => exact nomatch (show none = some x from h)
  | cons y l ih =>
    cases n with
    | zero => exact Option.some.inj h ▸ List.mem_cons_self
    | succ n => exact List.mem_cons_of_mem _ (ih n h)
theorem memIn {α : Type} {x : α} (n : Nat) {l : List α} (h : x ∈ dropN n l) : x ∈ l := by
  induction n generalizing l with
  | zero => exact h
  | succ n ih =>
    cases l with
    | nil => exact nomatch h
    | cons y l => exact List.mem_cons_of_mem _ (ih h)

section
theorem nb {n k : Nat} (d : Nat.ble n k = true) : n ≤ k := Nat.le_of_ble_eq_true d
theorem om1 {a c b : Nat} (h : a + c < b) : a < b := Nat.lt_of_le_of_lt (Nat.le_add_right a c) h
theorem om2 {a M N : Nat} (h : a ≤ OfNat.ofNat M) (d : Nat.ble M N = true) : a ≤ OfNat.ofNat N := Nat.le_trans h (nb d)
theorem om3 {a b M N : Nat} (k : a ≤ b) (h : b ≤ OfNat.ofNat M) (d : Nat.ble M N = true) : a ≤ OfNat.ofNat N := om2 (Nat.le_trans k h) d
theorem om4 {a c M N : Nat} (h : a ≤ OfNat.ofNat M) (d : Nat.ble (Nat.add M c) N = true) : a + OfNat.ofNat c ≤ OfNat.ofNat N := Nat.le_trans (Nat.add_le_add_right h c) (nb d)
theorem om5 {a c M N : Nat} (h : a ≤ OfNat.ofNat M) (d : Nat.ble (Nat.add c M) N = true) : OfNat.ofNat c + a ≤ OfNat.ofNat N := Nat.le_trans (Nat.add_le_add_left h c) (nb d)
theorem om5' {a c c' M N : Nat} (h : a ≤ OfNat.ofNat M) (d : Nat.ble (Nat.add (Nat.add c c') M) N = true) : OfNat.ofNat c + OfNat.ofNat c' + a ≤ OfNat.ofNat N := Nat.le_trans (Nat.add_le_add_left h (c + c')) (nb d)
theorem om5a {a c c' c2 M N : Nat} (h : a ≤ OfNat.ofNat M) (d : Nat.ble (Nat.add (Nat.add (Nat.add c c') c2) M) N = true) : OfNat.ofNat c + OfNat.ofNat c' + OfNat.ofNat c2 + a ≤ OfNat.ofNat N := Nat.le_trans (Nat.add_le_add_left h (c + c' + c2)) (nb d)
theorem om6 {a b M N : Nat} (e : a = b) (h : b ≤ OfNat.ofNat M) (d : Nat.ble M N = true) : a ≤ OfNat.ofNat N := e ▸ om2 h d
theorem om7 {a b c c' M N : Nat} (e : a = b) (h : b ≤ OfNat.ofNat M) (d : Nat.ble (Nat.add (Nat.add c c') M) N = true) : OfNat.ofNat c + OfNat.ofNat c' + a ≤ OfNat.ofNat N := e ▸ om5' h d
theorem om8 {a b M N : Nat} (h : a + b ≤ OfNat.ofNat M) (d : Nat.ble M N = true) : a ≤ OfNat.ofNat N := om2 (Nat.le_trans (Nat.le_add_right a b) h) d
theorem om9 {a b M N : Nat} (h : b + a ≤ OfNat.ofNat M) (d : Nat.ble M N = true) : a ≤ OfNat.ofNat N := om2 (Nat.le_trans (Nat.le_add_left a b) h) d
theorem om10 {a b : Nat} (h : b < a) : a + 1 ≠ b := Nat.ne_of_gt (Nat.lt_succ_of_lt h)
theorem om20r {a b R N : Nat} (h : a + 10 * b < R) (k : N ≤ (10 * b)) : a + N < R := Nat.lt_of_le_of_lt (Nat.add_le_add_left k a) h
theorem om21r {a b R u N : Nat} (h : a + 10 * b < R) (k : (u + N) ≤ (10 * b)) : a + u + N < R := Nat.add_assoc a u N ▸ om20r h k
theorem om11r {a b R N : Nat} (h : a + b < R) (k : (1 + N) ≤ b) : a + 1 + N < R := Nat.lt_of_le_of_lt (Nat.add_assoc a 1 N ▸ Nat.add_le_add_left k a) h
theorem om11 {a b R N : Nat} (h : a + OfNat.ofNat b < R) (k : Nat.ble (Nat.add 1 N) b = true) : a + 1 + OfNat.ofNat N < R := om11r h (nb k)
theorem om12 {a b R N : Nat} (h : a + OfNat.ofNat b + 1 ≤ R) (k : Nat.ble (Nat.add 1 N) b = true) : a + 1 + OfNat.ofNat N < R := om11 h k
theorem om13r {a M c R N : Nat} (h : a + (M + c) < R) (k : (1 + N) ≤ M) : a + 1 + N < R := om11r h (Nat.le_trans k (Nat.le_add_right M c))
theorem om13 {a M c R N : Nat} (h : a + (OfNat.ofNat M + c) < R) (k : Nat.ble (Nat.add 1 N) M = true) : a + 1 + OfNat.ofNat N < R := om13r h (nb k)
theorem om14r {a M c R N : Nat} (h : a + (M + c) < R) (k : (1 + N) ≤ M) : a + 1 + (N + c) < R := om11r h (Nat.add_assoc 1 N c ▸ Nat.add_le_add_right k c)
theorem om14 {a M c R N : Nat} (h : a + (OfNat.ofNat M + c) < R) (k : Nat.ble (Nat.add 1 N) M = true) : a + 1 + (OfNat.ofNat N + c) < R := om14r h (nb k)
theorem om15r {a b R N : Nat} (h : a + b < R) (k : (2 + N) ≤ b) : a + 1 + 1 + N < R := Nat.lt_of_le_of_lt (Nat.add_assoc a 2 N ▸ Nat.add_le_add_left k a) h
theorem om15 {a b R N : Nat} (h : a + OfNat.ofNat b < R) (k : Nat.ble (Nat.add 2 N) b = true) : a + 1 + 1 + OfNat.ofNat N < R := om15r h (nb k)
theorem om18r {a M c R u N : Nat} (h : a + 10 * (M + c) < R) (k : (u + (10 * N)) ≤ (10 * M)) : a + u + 10 * N < R := om21r h (Nat.le_trans k (Nat.mul_le_mul_left 10 (Nat.le_add_right M c)))
theorem om18 {a M c R u N : Nat} (h : a + 10 * (OfNat.ofNat M + c) < R) (k : Nat.ble (Nat.add u (Nat.mul 10 N)) (Nat.mul 10 M) = true) : a + OfNat.ofNat u + 10 * OfNat.ofNat N < R := om18r h (nb k)
theorem om19r {a M c R u N : Nat} (h : a + 10 * (M + c) < R) (k : (u + (10 * N)) ≤ (10 * M)) : a + u + 10 * (N + c) < R := om21r h (by rw [Nat.mul_add, Nat.mul_add, ← Nat.add_assoc]; exact Nat.add_le_add_right k (10 * c))
theorem om19 {a M c R u N : Nat} (h : a + 10 * (OfNat.ofNat M + c) < R) (k : Nat.ble (Nat.add u (Nat.mul 10 N)) (Nat.mul 10 M) = true) : a + OfNat.ofNat u + 10 * (OfNat.ofNat N + c) < R := om19r h (nb k)
theorem om20 {a b R N : Nat} (h : a + 10 * OfNat.ofNat b < R) (k : Nat.ble N (Nat.mul 10 b) = true) : a + OfNat.ofNat N < R := om20r h (nb k)
theorem om21 {a b R u N : Nat} (h : a + 10 * OfNat.ofNat b < R) (k : Nat.ble (Nat.add u N) (Nat.mul 10 b) = true) : a + OfNat.ofNat u + OfNat.ofNat N < R := om21r h (nb k)
theorem om22r {a b R u v N : Nat} (h : a + 10 * b < R) (k : ((u + v) + N) ≤ (10 * b)) : a + u + v + N < R := Nat.add_assoc a u v ▸ om21r h k
theorem om22 {a b R u v N : Nat} (h : a + 10 * OfNat.ofNat b < R) (k : Nat.ble (Nat.add (Nat.add u v) N) (Nat.mul 10 b) = true) : a + OfNat.ofNat u + OfNat.ofNat v + OfNat.ofNat N < R := om22r h (nb k)
theorem om23r {a b R N : Nat} (h : a + b < R) (k : N ≤ b) : a + N < R := Nat.lt_of_le_of_lt (Nat.add_le_add_left k a) h
theorem om23 {a b R N : Nat} (h : a + OfNat.ofNat b < R) (k : Nat.ble N b = true) : a + OfNat.ofNat N < R := om23r h (nb k)
theorem om25 {a b N : Nat} (h : a < b) (k : b ≤ N) : a ≤ N := Nat.le_of_lt (Nat.lt_of_lt_of_le h k)
theorem om27 {a b N : Nat} (h : b ≤ N) : min a b ≤ N := Nat.le_trans (Nat.min_le_right a b) h
theorem om28 {a b c d N : Nat} (h : a + d ≤ N) (k : b + c ≤ d) : a + b + c ≤ N := Nat.add_assoc a b c ▸ Nat.le_trans (Nat.add_le_add_left k a) h
theorem om32r {a b M N : Nat} (h : b ≤ M) (k : a ≤ 6 * b + 2) (d : 6 * M + 2 ≤ N) : a ≤ N := Nat.le_trans k (Nat.le_trans (Nat.add_le_add_right (Nat.mul_le_mul_left 6 h) 2) d)
theorem om32 {a b M N : Nat} (h : b ≤ OfNat.ofNat M) (k : a ≤ 6 * b + 2) (d : Nat.ble (Nat.add (Nat.mul 6 M) 2) N = true) : a ≤ OfNat.ofNat N := om32r h k (nb d)
theorem om35 {a b : Nat} (h : ¬ a < b) : b ≤ a := Nat.le_of_not_lt h
theorem oi1 {a : Nat} : (0 : Int) ≤ (a : Int) := Int.natCast_nonneg a
theorem ib {n k : Nat} (d : Nat.ble n k = true) : (OfNat.ofNat n : Int) ≤ OfNat.ofNat k := Int.ofNat_le.mpr (nb d)
theorem oi2 {a : Int} {M K : Nat} (h : a < OfNat.ofNat M) (d : Nat.ble M K = true) : a < OfNat.ofNat K := Int.lt_of_lt_of_le h (ib d)
theorem pow_mono2 {M e : Nat} (d : Nat.ble M 9223372036854775808 = true) (he : Nat.ble 63 e = true) : (OfNat.ofNat M : Int) ≤ 2 ^ (OfNat.ofNat e : Nat) := by
  have h : M ≤ 2 ^ e := Nat.le_trans (nb d) (Nat.pow_le_pow_right (n := 2) (by decide) (nb he))
  have h2 : (M : Int) ≤ ((2 ^ e : Nat) : Int) := Int.ofNat_le.mpr h
  rw [Int.natCast_pow] at h2; exact h2
theorem oi3 {a : Int} {M e : Nat} (h : a < OfNat.ofNat M) (d : Nat.ble M 9223372036854775808 = true) (he : Nat.ble 63 e = true) : a < 2 ^ (OfNat.ofNat e : Nat) := Int.lt_of_lt_of_le h (pow_mono2 d he)
theorem oi4 {a : Int} {e : Nat} (h : 0 ≤ a) : -2 ^ e < a := Int.lt_of_lt_of_le (Int.neg_neg_of_pos (Int.pow_pos (by decide))) h
theorem oi5 {a M Z : Nat} (h : a ≤ OfNat.ofNat M) (d : Nat.ble M Z = true) : (a : Int) ≤ OfNat.ofNat Z := Int.le_trans (Int.ofNat_le.mpr h) (ib d)
theorem oi6 {x b : Int} (h : x ≤ b) : x ≤ b + 1 := Int.le_trans h (Int.le_of_lt (Int.lt_succ b))
theorem oi7 {x : Nat} {b : Int} (h : (x : Int) ≤ b) : ((x + 1 : Nat) : Int) ≤ b + 1 := Int.add_le_add_right h 1
theorem oi8 {x b c : Int} (h : x ≤ c) (k : c < b) : x ≤ b := Int.le_of_lt (Int.lt_of_le_of_lt h k)
theorem oi9 {a c : Int} {M Z : Nat} (h : a < c) (k : c ≤ OfNat.ofNat M) (d : Nat.ble M Z = true) : a < OfNat.ofNat Z := Int.lt_of_lt_of_le h (Int.le_trans k (ib d))
theorem oi10 {a : Int} {b : Nat} (h0 : 0 ≤ a) (h : a.toNat < b) : a < (b : Int) := by rw [← Int.toNat_of_nonneg h0]; exact Int.ofNat_lt.mpr h
theorem oi11 {a : Int} {b M : Nat} {e : Nat} (h : a < (b : Int)) (k : b ≤ OfNat.ofNat M) (d : Nat.ble M 9223372036854775808 = true) (he : Nat.ble 63 e = true) : a < 2 ^ (OfNat.ofNat e : Nat) :=
  Int.lt_of_lt_of_le h (Int.le_trans (Int.ofNat_le.mpr k) (pow_mono2 d he))
theorem oi12 {a b M : Nat} {e : Nat} (h : a < b) (k : b ≤ OfNat.ofNat M) (d : Nat.ble M 9223372036854775808 = true) (he : Nat.ble 63 e = true) : (a : Int) < 2 ^ (OfNat.ofNat e : Nat) := oi11 (Int.ofNat_lt.mpr h) k d he
theorem oi13r {a c : Int} (h : 0 < c) : 0 ≤ a % c := Int.emod_nonneg a (Int.ne_of_gt h)
theorem oi13 {a : Int} {c : Nat} (d : Nat.ble 1 c = true) : 0 ≤ a % OfNat.ofNat c := oi13r (Int.ofNat_lt.mpr (nb d))
theorem oi14 {a : Int} {c : Nat} (d : Nat.ble 1 c = true) : a % OfNat.ofNat c < OfNat.ofNat c := Int.emod_lt_of_pos a (Int.ofNat_lt.mpr (nb d))
theorem oi17 {a b c : Int} (h : a < b) (k : b < c) : a < c := Int.lt_trans h k
theorem oi18 {a b : Int} (h : a < b) : a < b + 1 := Int.lt_trans h (Int.lt_succ b)
theorem oi20 {x : Nat} {b c : Int} (h : (x : Int) ≤ b) (k : b < c) : ((x + 1 : Nat) : Int) ≤ c := Int.lt_of_le_of_lt h k
theorem oi21 {a M : Nat} {e : Nat} (h : a ≤ OfNat.ofNat M) (d : Nat.ble (Nat.succ M) 9223372036854775808 = true) (he : Nat.ble 63 e = true) : (a : Int) < 2 ^ (OfNat.ofNat e : Nat) := Int.lt_of_lt_of_le (Int.ofNat_lt.mpr (Nat.lt_succ_of_le h)) (pow_mono2 d he)
theorem oi23 {a : Nat} : (0 : Int) ≤ (a : Int) + 1 := Int.natCast_nonneg (a + 1)
theorem oi28 {a b : Int} (h : a < b) : a ≤ b := Int.le_of_lt h
theorem oi29 {a N M : Nat} (h : (a : Int) ≤ OfNat.ofNat M) (d : Nat.ble M N = true) : a ≤ OfNat.ofNat N := Int.ofNat_le.mp (Int.le_trans h (ib d))
theorem omd6 {a : Nat} (h : a < 6) : a = 0 ∨ a = 1 ∨ a = 2 ∨ a = 3 ∨ a = 4 ∨ a = 5 := (by decide : ∀ a, a < 6 → a = 0 ∨ a = 1 ∨ a = 2 ∨ a = 3 ∨ a = 4 ∨ a = 5) a h
theorem omd2 {a : Nat} (h : a ≤ 2) : a = 0 ∨ a = 1 ∨ a = 2 := (by decide : ∀ a, a < 3 → a = 0 ∨ a = 1 ∨ a = 2) a (Nat.lt_succ_of_le h)
theorem oid3 {a : Int} (h : 0 ≤ a ∧ a < 3) : a = 0 ∨ a = 1 ∨ a = 2 := by
  cases a with
  | ofNat n => exact (omd2 (Nat.le_of_lt_succ (Int.ofNat_lt.mp h.2))).imp (congrArg Int.ofNat) fun x => x.imp (congrArg Int.ofNat) (congrArg Int.ofNat)
  | negSucc n => exact ((Int.negSucc_not_nonneg n).mp h.1).elim
theorem omz1 {a c : Nat} {b : Int} (e : c = a + 1 - b.toNat) (h0 : 0 ≤ b) (h1 : b < (a : Int)) : a + 1 - (b + 1).toNat < c := by
  cases b with
  | ofNat n => subst e; exact Nat.sub_lt_sub_left (Nat.lt_succ_of_lt (Int.ofNat_lt.mp h1)) (Nat.lt_succ_self n)
  | negSucc n => exact ((Int.negSucc_not_nonneg n).mp h0).elim
theorem omz2 {a c : Nat} {b k : Int} (e : c = a + 1 - k.toNat) (h0 : 0 ≤ k) (h1 : k < (a : Int)) (h2 : k < b) : a + 1 - b.toNat < c := by
  cases k with
  | ofNat n =>
    subst e
    cases b with
    | ofNat m => exact Nat.sub_lt_sub_left (Nat.lt_succ_of_lt (Int.ofNat_lt.mp h1)) (Int.ofNat_lt.mp h2)
    | negSucc m => exact ((Int.negSucc_not_nonneg m).mp (Int.le_trans h0 (Int.le_of_lt h2))).elim
  | negSucc n => exact ((Int.negSucc_not_nonneg n).mp h0).elim
theorem omq {x : Int} (h : 0 ≤ x) {k : Nat} : max 0 (min x (k : Int)) = ((min x.toNat k : Nat) : Int) := by
  cases x with
  | ofNat n =>
    refine Eq.trans ?_ (Int.max_eq_right (Int.natCast_nonneg _))
    refine congrArg (max 0) ?_
    rcases Nat.le_total n k with z | z
    · exact (Int.min_eq_left (Int.ofNat_le.mpr z)).trans (congrArg Int.ofNat (Nat.min_eq_left z).symm)
    · exact (Int.min_eq_right (Int.ofNat_le.mpr z)).trans (congrArg Int.ofNat (Nat.min_eq_right z).symm)
  | negSucc n => exact ((Int.negSucc_not_nonneg n).mp h).elim
theorem oi30 {a c M N : Nat} {d : Int} (h : (a : Int) ≤ d) (k : d < (c : Int)) (m : c ≤ OfNat.ofNat M) (b : Nat.ble M N = true) : (a : Int) ≤ OfNat.ofNat N := Int.le_trans (Int.le_of_lt (Int.lt_of_le_of_lt h k)) (Int.le_trans (Int.ofNat_le.mpr m) (ib b))
theorem om38 {a c M N : Nat} {d : Int} (h : (a : Int) ≤ d) (k : d < (c : Int)) (m : c ≤ OfNat.ofNat M) (b : Nat.ble M N = true) : a ≤ OfNat.ofNat N := Int.ofNat_le.mp (oi30 h k m b)
theorem oi31 {a b : Int} (h : a = b + 1 - 1) : a = b := h.trans (Int.add_sub_cancel b 1)
theorem om37 {a b c : Nat} (e : c = a) (h : ¬ b < c) : a ≤ b := e ▸ Nat.le_of_not_lt h
theorem om40 {a b : Nat} (h : b ≤ 100) (_ : a < b) : min ((a : Int) + 1).toNat b + (b - (a : Int).toNat) ≤ 1000 :=
  Nat.le_trans (Nat.add_le_add (Nat.le_trans (Nat.min_le_right _ _) h) (Nat.le_trans (Nat.sub_le _ _) h)) (by decide)
theorem om41 {a b c : Nat} (h : a + (b + 1) = c) : a + 1 + b = c := h ▸ Nat.add_right_comm a 1 b
theorem omz3 {a i : Nat} (h : i < a) : a + 1 - (i + 1) < a + 1 - i := Nat.sub_lt_sub_left (Nat.lt_succ_of_lt h) (Nat.lt_succ_self i)
theorem omz4 {w f : Int} {d : Nat} (h : f < w - 1) (k : Nat.ble 1 d = true) : (w - (f + OfNat.ofNat d)).toNat < (w - f).toNat :=
  (Int.toNat_lt_toNat (Int.sub_pos_of_lt (Int.lt_trans h (Int.sub_lt_self w (by decide))))).mpr (Int.sub_lt_sub_left (Int.lt_add_of_pos_right f (Int.ofNat_lt.mpr (nb k))) w)
theorem omm1 {x b M N : Nat} (h : b ≤ OfNat.ofNat M) (d : Nat.ble (Nat.succ M) N = true) : min x b + (0 + 1) ≤ OfNat.ofNat N := Nat.le_trans (Nat.succ_le_succ (Nat.le_trans (Nat.min_le_right _ _) h)) (nb d)
theorem omm2 {x b y M N : Nat} (h : b ≤ OfNat.ofNat M) (d : Nat.ble (Nat.add M M) N = true) : min x b + (b - y) ≤ OfNat.ofNat N := Nat.le_trans (Nat.add_le_add (Nat.le_trans (Nat.min_le_right _ _) h) (Nat.le_trans (Nat.sub_le _ _) h)) (nb d)
theorem oe1 {i N : Nat} (h : ¬ i < N) : i = N + (i - N) := (Nat.add_sub_cancel' (Nat.le_of_not_lt h)).symm
theorem oe3 {k : Int} {n : Nat} (h : 0 ≤ k) : k.toNat + n = (k + (n : Int)).toNat := (Int.toNat_add_nat h n).symm
theorem oe2 {k : Int} (h : 0 ≤ k) : (k + 1).toNat = k.toNat + 1 := Int.toNat_add_nat h 1
theorem oe4 {j n : Nat} (h : j < n) : min (j + 1) n + (n - j) = n + 1 := by
  rw [Nat.min_eq_left (show j + 1 ≤ n from h), Nat.add_right_comm, Nat.add_sub_cancel' (Nat.le_of_lt h)]
theorem oia {a : Int} : 0 ≤ if a < 0 then -a else a := by
  split
  · exact Int.neg_nonneg_of_nonpos (Int.le_of_lt (by assumption))
  · exact Int.not_lt.mp (by assumption)
theorem twB {i : Nat} {c c' o : Int} (e : c' = c + o) (h : -(i : Int) ≤ c ∧ c ≤ i) (h1 : -1 ≤ o) (h2 : o ≤ 1) : -((i + 1 : Nat) : Int) ≤ c' ∧ c' ≤ ((i + 1 : Nat) : Int) := by
  subst e
  exact ⟨by rw [Int.natCast_add, Int.neg_add]; exact Int.add_le_add h.1 h1, Int.add_le_add h.2 h2⟩
theorem stpH {x y M N : Int} (h : x ≤ M) (k : y ≤ 15) (e : M * 16 + 15 = N) : x * 16 + y ≤ N := e ▸ Int.add_le_add (Int.mul_le_mul_of_nonneg_right h (by decide)) k
end

noncomputable abbrev objOf {o : Obj} {x : Data} (_ : o.data = x) : Obj := o
noncomputable def hideG {G : Prop} (h : let g := G; g) : G := h
theorem room1 {dp d b R : Nat} (h : dp + b < R) (k : 1 + d ≤ b) : (dp + 1) + d < R := om11r h k
theorem unit1 {un u d b R : Nat} (h : un + 10 * b < R) (k : u + 10 * d ≤ 10 * b) : un + u + 10 * d < R := om21r h k
noncomputable def ltCut {P G : Prop} (h : P) (k : P → G) : G := k h
theorem allC {α : Type} {P : α → Prop} {x : α} {l : List α} (a : P x) (b : ∀ y ∈ l, P y) : ∀ y ∈ x :: l, P y := List.forall_mem_cons.mpr ⟨a, b⟩
theorem allNeC {d : Nat} {x : Addr × Obj} {l : List (Addr × Obj)} (a : x.1 ≠ d) (b : ∀ y ∈ l, y.1 ≠ d) : ∀ y ∈ x :: l, y.1 ≠ d := allC (P := fun y : Addr × Obj => y.1 ≠ d) a b
theorem ch8 {d : Addr} {a0 a1 a2 a3 a4 a5 a6 a7 : Addr} {o0 o1 o2 o3 o4 o5 o6 o7 : Obj} {l : List (Addr × Obj)} (h0 : a0 ≠ d) (h1 : a1 ≠ d) (h2 : a2 ≠ d) (h3 : a3 ≠ d) (h4 : a4 ≠ d) (h5 : a5 ≠ d) (h6 : a6 ≠ d) (h7 : a7 ≠ d) (t : ∀ y ∈ l, y.1 ≠ d) : ∀ y ∈ (a0, o0) :: (a1, o1) :: (a2, o2) :: (a3, o3) :: (a4, o4) :: (a5, o5) :: (a6, o6) :: (a7, o7) :: l, y.1 ≠ d := allNeC h0 (allNeC h1 (allNeC h2 (allNeC h3 (allNeC h4 (allNeC h5 (allNeC h6 (allNeC h7 (t))))))))
theorem ch4 {d : Addr} {a0 a1 a2 a3 : Addr} {o0 o1 o2 o3 : Obj} {l : List (Addr × Obj)} (h0 : a0 ≠ d) (h1 : a1 ≠ d) (h2 : a2 ≠ d) (h3 : a3 ≠ d) (t : ∀ y ∈ l, y.1 ≠ d) : ∀ y ∈ (a0, o0) :: (a1, o1) :: (a2, o2) :: (a3, o3) :: l, y.1 ≠ d := allNeC h0 (allNeC h1 (allNeC h2 (allNeC h3 (t))))
theorem ch2 {d : Addr} {a0 a1 : Addr} {o0 o1 : Obj} {l : List (Addr × Obj)} (h0 : a0 ≠ d) (h1 : a1 ≠ d) (t : ∀ y ∈ l, y.1 ≠ d) : ∀ y ∈ (a0, o0) :: (a1, o1) :: l, y.1 ≠ d := allNeC h0 (allNeC h1 (t))
theorem up2 {d : Addr} {p p' : Obj} {a0 a1 : Addr} {o0 o1 : Obj} {l l' : List (Addr × Obj)} (h0 : a0 ≠ d) (h1 : a1 ≠ d) (u : Upd d p p' l l') : Upd d p p' ((a0, o0) :: (a1, o1) :: l) ((a0, o0) :: (a1, o1) :: l') := Upd.tail h0 (Upd.tail h1 (u))
theorem ch1 {d : Addr} {a0 : Addr} {o0 : Obj} {l : List (Addr × Obj)} (h0 : a0 ≠ d) (t : ∀ y ∈ l, y.1 ≠ d) : ∀ y ∈ (a0, o0) :: l, y.1 ≠ d := allNeC h0 (t)
theorem up1 {d : Addr} {p p' : Obj} {a0 : Addr} {o0 : Obj} {l l' : List (Addr × Obj)} (h0 : a0 ≠ d) (u : Upd d p p' l l') : Upd d p p' ((a0, o0) :: l) ((a0, o0) :: l') := Upd.tail h0 (u)

section
variable {α : Type} {m n l foot rest : List (Addr × Obj)}
theorem pairNe_nd : pairNe l ↔ (l.map Prod.fst).Nodup := by
  induction l with
  | nil => exact ⟨fun _ => List.nodup_nil, fun _ => trivial⟩
  | cons p r ih =>
    rw [List.map_cons, List.nodup_cons]
    exact and_congr (neAll_iff.trans ⟨fun h hm => by obtain ⟨q, hq, e⟩ := List.mem_map.mp hm; exact h q hq e, fun h q hq e => h (e ▸ List.mem_map_of_mem hq)⟩) ih
theorem pnPerm (D : pairNe m) (p : m.Perm n) : pairNe n := pairNe_nd.mpr ((p.map _).nodup_iff.mp (pairNe_nd.mp D))
theorem pnKeys (D : pairNe m) (e : m.map Prod.fst = n.map Prod.fst) : pairNe n := pairNe_nd.mpr (e ▸ pairNe_nd.mp D)
theorem pnApp : pairNe (l ++ n) ↔ pairNe l ∧ pairNe n ∧ ∀ p ∈ l, ∀ q ∈ n, p.1 ≠ q.1 := by
  rw [pairNe_nd, pairNe_nd, pairNe_nd, List.map_append, List.nodup_append]
  exact and_congr Iff.rfl (and_congr Iff.rfl ⟨fun h p hp q hq => h _ (List.mem_map_of_mem hp) _ (List.mem_map_of_mem hq), fun h a ha b hb => by
    obtain ⟨p, hp, rfl⟩ := List.mem_map.mp ha
    obtain ⟨q, hq, rfl⟩ := List.mem_map.mp hb
    exact h p hp q hq⟩)
noncomputable def dumO : Obj := W.listOf #[] 0
theorem pnNew {o : Addr} (D : pairNe m) (k : ∀ p ∈ n, p.1 < o) (e : m.map Prod.fst = n.map Prod.fst) : pairNe ((o, dumO) :: n) :=
  ⟨neAll_iff.mpr fun p hp => Nat.ne_of_lt (k p hp), pnKeys D e⟩
noncomputable def pickAt : List α → Nat → Option (α × List α)
  | [], _ => none
  | x :: l, 0 => some (x, l)
  | x :: l, i + 1 => match pickAt l i with
    | some (y, l') => some (y, x :: l')
    | none => none
noncomputable def selAt : List Nat → List α → Option (List α × List α)
  | [], l => some ([], l)
  | i :: is, l => match pickAt l i with
    | some (p, l') => (match selAt is l' with
      | some (f, r) => some (p :: f, r)
      | none => none)
    | none => none
theorem pickAt_perm {i : Nat} {l l' : List α} {y : α} (h : pickAt l i = some (y, l')) : l.Perm (y :: l') := by
  induction l generalizing i l' with
  | nil => exact nomatch (show none = some (y, l') from h)
  | cons x l ih =>
    cases i with
    | zero => cases (show some (x, l) = some (y, l') from h); exact .refl _
    | succ i =>
      replace h : (match pickAt l i with | some (y, l') => some (y, x :: l') | none => none) = some (y, l') := h
      cases e : pickAt l i with
      | none => rw [e] at h; cases h
      | some z => rw [e] at h; cases h; exact ((ih e).cons x).trans (.swap _ _ _)
theorem selAt_perm {is : List Nat} {l f r : List α} (h : selAt is l = some (f, r)) : l.Perm (f ++ r) := by
  induction is generalizing l f r with
  | nil => cases (show some ([], l) = some (f, r) from h); exact .refl _
  | cons i is ih =>
    replace h : (match pickAt l i with | some (p, l') => (match selAt is l' with | some (f, r) => some (p :: f, r) | none => none) | none => none) = some (f, r) := h
    cases e : pickAt l i with
    | none => rw [e] at h; cases h
    | some z =>
      rw [e] at h
      replace h : (match selAt is z.2 with | some (f, r) => some (z.1 :: f, r) | none => none) = some (f, r) := h
      cases e2 : selAt is z.2 with
      | none => rw [e2] at h; cases h
      | some y => rw [e2] at h; cases h; exact (pickAt_perm e).trans ((ih e2).cons _)
/-- foot stands in the ledger n, rest is what is left of it, all apart -/
structure SelD (foot n rest : List (Addr × Obj)) : Prop where
  p : n.Perm (foot ++ rest)
  d : pairNe (foot ++ rest)
theorem SelD.mem (x : SelD foot l rest) : (∀ p ∈ foot, p ∈ l) ∧ (∀ q ∈ rest, q ∈ l) ∧ (∀ q ∈ rest, ∀ p ∈ foot, p.1 ≠ q.1) ∧ pairNe foot ∧ pairNe rest :=
  have d := pnApp.mp x.d
  ⟨fun _ h => x.p.mem_iff.mpr (List.mem_append_left _ h), fun _ h => x.p.mem_iff.mpr (List.mem_append_right _ h), fun q hq p hp => d.2.2 p hp q hq, d.1, d.2.1⟩
noncomputable def SelV (_ : List Nat) (foot n rest : List (Addr × Obj)) : Prop := SelD foot n rest
theorem selV {idx : List Nat} (D : pairNe m) (e : m.map Prod.fst = n.map Prod.fst) (h : selAt idx n = some (foot, rest)) : SelV idx foot n rest := ⟨selAt_perm h, pnPerm (pnKeys D e) (selAt_perm h)⟩
inductive PickS (p : Addr × Obj) : List (Addr × Obj) → List (Addr × Obj) → Nat → Prop
  | head {k : List (Addr × Obj)} : PickS p (p :: k) k Nat.zero
  | tail {q : Addr × Obj} {k k' : List (Addr × Obj)} {i : Nat} (t : PickS p k k' i) : PickS p (q :: k) (q :: k') (Nat.succ i)
inductive SelS : List (Addr × Obj) → List (Addr × Obj) → List (Addr × Obj) → List Nat → Prop
  | nil {k : List (Addr × Obj)} : SelS [] k k []
  | cons {p : Addr × Obj} {f k mid r : List (Addr × Obj)} {i : Nat} {is : List Nat} (h : PickS p k mid i) (t : SelS f mid r is) : SelS (p :: f) k r (i :: is)
noncomputable abbrev SelT (foot n rest : List (Addr × Obj)) : Prop := (idx : List Nat) → SelS foot n rest idx → SelV idx foot n rest → SelD foot n rest
noncomputable def PickV (_ : Nat) (p : Addr × Obj) (n rest : List (Addr × Obj)) : Prop := SelD [p] n rest
theorem pickV {i : Nat} {p : Addr × Obj} (D : pairNe m) (e : m.map Prod.fst = n.map Prod.fst) (h : pickAt n i = some (p, rest)) : PickV i p n rest := ⟨pickAt_perm h, pnPerm (pnKeys D e) (pickAt_perm h)⟩
noncomputable abbrev PickT (p : Addr × Obj) (n rest : List (Addr × Obj)) : Prop := (i : Nat) → PickS p n rest i → PickV i p n rest → SelD [p] n rest
noncomputable def setN : List α → Nat → α → List α
  | [], _, _ => []
  | _ :: l, 0, y => y :: l
  | x :: l, i + 1, y => x :: setN l i y
inductive UpdS (d : Addr) (p p' : Obj) : List (Addr × Obj) → List (Addr × Obj) → Nat → Prop
  | head {k : List (Addr × Obj)} : UpdS d p p' ((d, p) :: k) ((d, p') :: k) Nat.zero
  | tail {q : Addr × Obj} {k k' : List (Addr × Obj)} {i : Nat} (t : UpdS d p p' k k' i) : UpdS d p p' (q :: k) (q :: k') (Nat.succ i)
noncomputable def UpdV (_ : Nat) (d : Addr) (p p' : Obj) (n n' : List (Addr × Obj)) : Prop := Upd d p p' n n'
theorem updV {i : Nat} {d : Addr} {p p' : Obj} {n' : List (Addr × Obj)} (D : pairNe m) (e : m.map Prod.fst = n.map Prod.fst) (h1 : nth n i = some (d, p)) (h2 : setN n i (d, p') = n') : UpdV i d p p' n n' := by
  have D := pnKeys D e; clear e; subst h2
  induction n generalizing i with
  | nil => exact nomatch (show none = some (d, p) from h1)
  | cons x n ih =>
    cases i with
    | zero => cases (show some x = some (d, p) from h1); exact Upd.head (neAll_iff.mp D.1)
    | succ i => exact Upd.tail (Ne.symm (neAll_iff.mp D.1 (d, p) (memAt i h1))) (ih (i := i) h1 D.2)
noncomputable abbrev UpdT (d : Addr) (p p' : Obj) (n n' : List (Addr × Obj)) : Prop := (i : Nat) → UpdS d p p' n n' i → UpdV i d p p' n n' → Upd d p p' n n'
theorem pnAt {a b : Addr} (i j : Nat) (D : pairNe m) (hi : (m.map Prod.fst)[i]? = some a) (hj : (m.map Prod.fst)[j]? = some b) (hij : Nat.beq i j = false) : a ≠ b := fun e => by
  have d := List.pairwise_iff_getElem.mp (pairNe_nd.mp D)
  obtain ⟨h1, e1⟩ := List.getElem?_eq_some_iff.mp hi
  obtain ⟨h2, e2⟩ := List.getElem?_eq_some_iff.mp hj
  rcases Nat.lt_or_gt_of_ne (Nat.ne_of_beq_eq_false hij) with z | z
  · exact d i j h1 h2 z (e1.trans (e.trans e2.symm))
  · exact d j i h2 h1 z (e2.trans (e.symm.trans e1.symm))
end
section
variable {m n l r : List (Addr × Obj)} {a b : Addr}
theorem pnComm : pairNe (l ++ r) = pairNe (r ++ l) := propext ⟨fun h => pnPerm h List.perm_append_comm, fun h => pnPerm h List.perm_append_comm⟩
inductive KeyS (a : Addr) : List (Addr × Obj) → Nat → Prop
  | head {o : Obj} {k : List (Addr × Obj)} : KeyS a ((a, o) :: k) Nat.zero
  | tail {q : Addr × Obj} {k : List (Addr × Obj)} {i : Nat} (t : KeyS a k i) : KeyS a (q :: k) (Nat.succ i)
noncomputable abbrev pnL (_ : pairNe m) : List (Addr × Obj) := m
noncomputable def NeV (_ _ : Nat) (a b : Addr) : Prop := a ≠ b
theorem neV {i j : Nat} (D : pairNe m) (hi : (m.map Prod.fst)[i]? = some a) (hj : (m.map Prod.fst)[j]? = some b) (hij : Nat.beq i j = false) : NeV i j a b := pnAt i j D hi hj hij
noncomputable abbrev NeT (m : List (Addr × Obj)) (a b : Addr) : Prop := (i j : Nat) → KeyS a m i → KeyS b m j → NeV i j a b → a ≠ b
end
theorem dCut {P G : Prop} (h : P) (k : P → G) : G := k h
section
variable {m n foot rest : List (Addr × Obj)}
noncomputable def keepM : List Bool → List (Addr × Obj) → List (Addr × Obj)
  | [], l => l
  | _ :: _, [] => []
  | true :: b, x :: l => x :: keepM b l
  | false :: b, _ :: l => keepM b l
theorem keepM_sub {b : List Bool} {l : List (Addr × Obj)} : (keepM b l).Sublist l := by
  induction b generalizing l with
  | nil => exact .refl _
  | cons x b ih =>
    cases l with
    | nil => cases x <;> exact .refl _
    | cons y l =>
      cases x with
      | true => exact (ih (l := l)).cons₂ y
      | false => exact (ih (l := l)).cons y
noncomputable def KeepV (_ : List Bool) (n : List (Addr × Obj)) : Prop := pairNe n
theorem keepV {b : List Bool} (D : pairNe m) (e : (keepM b m).map Prod.fst = n.map Prod.fst) : KeepV b n :=
  pnKeys (pairNe_nd.mpr ((keepM_sub.map Prod.fst).nodup (pairNe_nd.mp D))) e
inductive MaskS : List (Addr × Obj) → List (Addr × Obj) → List Bool → Prop
  | all {k k' : List (Addr × Obj)} (e : k'.map Prod.fst = k.map Prod.fst) : MaskS k k' []
  | keep {a : Addr} {o o' : Obj} {k k' : List (Addr × Obj)} {b : List Bool} (t : MaskS k k' b) : MaskS ((a, o) :: k) ((a, o') :: k') (true :: b)
  | skip {q : Addr × Obj} {k k' : List (Addr × Obj)} {b : List Bool} (t : MaskS k k' b) : MaskS k (q :: k') (false :: b)
noncomputable abbrev KeepT (n m : List (Addr × Obj)) : Prop := (b : List Bool) → MaskS n m b → KeepV b n → pairNe n
theorem selV' {idx : List Nat} (D : pairNe n) (h : selAt idx n = some (foot, rest)) : SelV idx foot n rest := selV D rfl h
theorem pickV' {i : Nat} {p : Addr × Obj} (D : pairNe n) (h : pickAt n i = some (p, rest)) : PickV i p n rest := pickV D rfl h
theorem updV' {i : Nat} {d : Addr} {p p' : Obj} {n' : List (Addr × Obj)} (D : pairNe n) (h1 : nth n i = some (d, p)) (h2 : setN n i (d, p') = n') : UpdV i d p p' n n' := updV D rfl h1 h2
theorem pnNew' {o : Addr} (D : pairNe n) (k : ∀ p ∈ n, p.1 < o) : pairNe ((o, dumO) :: n) := pnNew D k rfl
end
section
variable {m n : List (Addr × Obj)} {I C E : Addr}
theorem pn3 (D : pairNe m) (o : LCg.Off3 I C E n) (h1 : @Ne Nat I C) (h2 : @Ne Nat I E) (h3 : @Ne Nat C E) (e : m.map Prod.fst = n.map Prod.fst) : pairNe ((I, dumO) :: (C, dumO) :: (E, dumO) :: n) :=
  And.intro (And.intro (Ne.symm h1) (And.intro (Ne.symm h2) (neAll_iff.mpr fun p hp => (o.mem p hp).1))) (And.intro (And.intro (Ne.symm h3) (neAll_iff.mpr fun p hp => (o.mem p hp).2.1)) (And.intro (neAll_iff.mpr fun p hp => (o.mem p hp).2.2) (pnKeys D e)))
theorem pnCell {L : Addr} (D : pairNe n) (k : ∀ p ∈ n, p.1 < L) : pairNe ((L + 1, dumO) :: n) := pnNew' D fun p hp => Nat.lt_succ_of_lt (k p hp)
theorem off1_mem : ∀ {l : List (Addr × Obj)}, LCg.Off1 E l → ∀ p ∈ l, p.1 ≠ E
  | [], _, _, h => nomatch h
  | _ :: _, o, p, h => (List.mem_cons.mp h).elim (fun e => e ▸ o.1) (off1_mem o.2 p)
theorem pn1 (D : pairNe m) (o : LCg.Off1 E n) (e : m.map Prod.fst = n.map Prod.fst) : pairNe ((E, dumO) :: n) := And.intro (neAll_iff.mpr (off1_mem o)) (pnKeys D e)
end
noncomputable def LetQ (T : Prop) (_ _ : T) : Prop := True
theorem LetQ.refl {T : Prop} {p : T} : LetQ T p p := trivial
noncomputable abbrev Scr (T : Prop) := (q r : T) → LetQ T q r → T
section
variable {prog : Program} {w : World} {A : Around} {E : Value → Shared → Prop} {s : Shared} {K : Frag} {h₀ : Heap} {L a : Addr} {m mg mb : Str → Option Value} {cn : Str} {cs : Scope} {ccd : Value} {cl : List (Str × Addr)} {p : Program} {loose : List Str} {Q : Value → Shared → Prop} {p1 p2 p3 p4 : Pos} {sf name fn y : Str} {x C f : Addr} {ox : Obj} {es : List DictEntry} {n k : Nat} {i : Int} {e1 : Expr} {v v1 : Value} {id : String} {pl : Sem Bool}
theorem methL0 (h1 : cs.kind = .function) (h2 : (envX cn cs L a ccd cl).kindOf sf = some .local) (he : eval (.Call (.Attribute (.Name sf p1) name p2) [] [] p3) (envX cn cs L a ccd cl) = (do
      let ov ← eval (.Name sf p1) (envX cn cs L a ccd cl)
      standAt p2.atName
      let (f, first) ← holding [ov] (getMethod ov name pl)
      callWith p3 f first (backTo p3 (starEach [] (envX cn cs L a ccd cl))) []))
    (F : Fr h₀ L s.heap m) (X₀ : K.In h₀) (hv : m sf = some (.ref x)) (I : InstAt s.heap x ox C (some (dictOf es n))) (hg : plainGet K C name = true) (hf : findIn K (.ref C) name = some (some (.ref f))) (ht : isFn K (.ref f) = true) (hl : getL name es = some none) (hk : keepIn K (.ref f) = true)
    (h : wpAny (model prog w) A (call (.ref f) [.ref x]) Q E s) (h3 : (sf == ("__debug__" : Str)) = false) :
    wpAny (model prog w) A (eval (.Call (.Attribute (.Name sf p1) name p2) [] [] p3) (envX cn cs L a ccd cl)) Q E s :=
  MethodCall_ (nameX_L F hv (method_inst F X₀ I hg hf ht hl (callWith_K0 (X₀.keeps F.keep) hk h)) h1 h2 h3) he
theorem methL1 (h1 : cs.kind = .function) (h2 : (envX cn cs L a ccd cl).kindOf sf = some .local) (he : eval (.Call (.Attribute (.Name sf p1) name p2) [e1] [] p3) (envX cn cs L a ccd cl) = (do
      let ov ← eval (.Name sf p1) (envX cn cs L a ccd cl)
      standAt p2.atName
      let (f, first) ← holding [ov] (getMethod ov name pl)
      callWith p3 f first (backTo p3 (starEach [e1] (envX cn cs L a ccd cl))) []))
    (F : Fr h₀ L s.heap m) (X₀ : K.In h₀) (hv : m sf = some (.ref x)) (I : InstAt s.heap x ox C (some (dictOf es n))) (hg : plainGet K C name = true) (hf : findIn K (.ref C) name = some (some (.ref f))) (ht : isFn K (.ref f) = true) (hl : getL name es = some none) (hk : keepIn K (.ref f) = true)
    (h : wpAny (model prog w) A (eval e1 (envX cn cs L a ccd cl)) (fun v s₁ => K.In s₁.heap ∧ wpAny (model prog w) A (call (.ref f) [.ref x, v]) Q E s₁) E s) (h3 : (sf == ("__debug__" : Str)) = false)
    (h4 : starEach [e1] (envX cn cs L a ccd cl) = (false, eval e1 (envX cn cs L a ccd cl)) :: starEach [] (envX cn cs L a ccd cl)) :
    wpAny (model prog w) A (eval (.Call (.Attribute (.Name sf p1) name p2) [e1] [] p3) (envX cn cs L a ccd cl)) Q E s :=
  MethodCall_ (nameX_L F hv (method_inst F X₀ I hg hf ht hl (callWith_K X₀ hk (args_cons (wpAny_mono h (fun v s₁ hq => args_nil hq) fun _ _ x => x) h4) h4)) h1 h2 h3) he
theorem methN1 (h1 : cs.kind = .function) (h2 : (envX cn cs L a ccd cl).kindOf sf = some .local) (h2' : (envX cn cs L a ccd cl).kindOf y = some .local) (he : eval (.Call (.Attribute (.Name sf p1) name p2) [.Name y p4] [] p3) (envX cn cs L a ccd cl) = (do
      let ov ← eval (.Name sf p1) (envX cn cs L a ccd cl)
      standAt p2.atName
      let (f, first) ← holding [ov] (getMethod ov name pl)
      callWith p3 f first (backTo p3 (starEach [.Name y p4] (envX cn cs L a ccd cl))) []))
    (F : Fr h₀ L s.heap m) (X₀ : K.In h₀) (hv : m sf = some (.ref x)) (hy : m y = some v) (I : InstAt s.heap x ox C (some (dictOf es n))) (hg : plainGet K C name = true) (hf : findIn K (.ref C) name = some (some (.ref f))) (ht : isFn K (.ref f) = true) (hl : getL name es = some none) (hk : keepIn K (.ref f) = true)
    (h : wpAny (model prog w) A (call (.ref f) [.ref x, v]) Q E s) (h3 : (sf == ("__debug__" : Str)) = false) (h3' : (y == ("__debug__" : Str)) = false) :
    wpAny (model prog w) A (eval (.Call (.Attribute (.Name sf p1) name p2) [.Name y p4] [] p3) (envX cn cs L a ccd cl)) Q E s :=
  methL1 h1 h2 he F X₀ hv I hg hf ht hl hk (nameX_L F hy ⟨X₀.keeps F.keep, h⟩ h1 h2' h3') h3 rfl
theorem subNC (F : Fr h₀ L s.heap m) (hy : m y = some v) (h : wpAny (model prog w) A (subscriptTail (.Name y p1) (.Constant (.int i) k p2) v (.int i s.toks)) Q E { s with toks := s.toks + 1 })
    (h1 : cs.kind = .function) (h2' : (envX cn cs L a ccd cl).kindOf y = some .local) (h3' : (y == ("__debug__" : Str)) = false) :
    wpAny (model prog w) A (eval (.Subscript (.Name y p1) (.Constant (.int i) k p2) p3) (envX cn cs L a ccd cl)) Q E s :=
  Subscript_ (nameX_L F hy (wpAny_Constant_int h) h1 h2' h3')
end


local macro_rules | `(tactic| walk_at $s:str) => `(tactic| k_extra $s)
local macro_rules | `(tactic| k_lt $h:ident) => do let l := Lean.mkIdent `l1; `(tactic| (revert $h:ident; intro $l:ident; k_extra "klt"))
local macro_rules | `(tactic| k_all) => `(tactic| k_extra "x_k_all")
local macro_rules | `(tactic| k_handed) => `(tactic| k_extra "x_k_handed")
local macro_rules | `(tactic| k_mem) => `(tactic| k_extra "x_k_mem")
local macro_rules | `(tactic| k_ne) => `(tactic| k_extra "x_k_ne")
local macro_rules | `(tactic| k_room) => `(tactic| k_extra "x_k_room")
local macro_rules | `(tactic| k_steps) => `(tactic| k_extra "x_k_steps")
local macro_rules | `(tactic| k_units) => `(tactic| k_extra "x_k_units")
local macro_rules | `(tactic| k_upd) => `(tactic| k_extra "x_k_upd")
local macro_rules | `(tactic| kwd_inv) => `(tactic| k_extra "x_kwd_inv")
local macro_rules | `(tactic| kwd_rel) => `(tactic| k_extra "x_kwd_rel")
local macro_rules | `(tactic| omega) => `(tactic| k_extra "x_omega")
local macro_rules | `(tactic| tb_rel) => `(tactic| k_extra "x_tb_rel")
local macro_rules | `(tactic| tb_start) => `(tactic| k_extra "x_tb_start")
section -- X1
theorem wd_0 : True := by
  w_top off
  k_with_none
  (k_with "ne1" => ((first | (with_reducible assumption) | (with_reducible exact Nat.ne_of_lt (by assumption)) | (with_reducible exact Nat.ne_of_gt (by assumption)) | (with_reducible exact NeA.ne (by assumption)) | (with_reducible exact NeA.en (by assumption)) | (with_reducible exact Ne.symm (by assumption)))))
  (k_with "or" => (k_dflt (exact rfl)))
  (k_with "klt" => (first | ((with_reducible rename pairNe _ => dN8); (refine dCut (pnNew2 dN8 l1 (by with_reducible assumption) rfl) ?_); clear dN8; clear l1; intro dN9) | ((with_reducible rename pairNe _ => dN8); (refine dCut (pnNew dN8 l1 rfl) ?_); clear dN8; clear l1; intro dN9) | ((refine dCut (pnNew' (by k_extra "m_keep") l1) ?_); clear l1; (try ((with_reducible rename pairNe _ => dN8); clear dN8)); intro dN9) | ((with_reducible refine ltCut (allLt_of l1) ?_); clear l1; intro l1; dsimp (zetaDelta := true) only [AllLt] at l1; (try (repeat (first | ((with_reducible refine cj32 l1 ?_); clear l1; intro _ _ _ _ _ _ _ _ _ _ _ _ _ _ _ _ _ _ _ _ _ _ _ _ _ _ _ _ _ _ _ l1) | ((with_reducible refine cj24 l1 ?_); clear l1; intro _ _ _ _ _ _ _ _ _ _ _ _ _ _ _ _ _ _ _ _ _ _ _ l1) | ((with_reducible refine cj20 l1 ?_); clear l1; intro _ _ _ _ _ _ _ _ _ _ _ _ _ _ _ _ _ _ _ l1) | ((with_reducible refine cj19 l1 ?_); clear l1; intro _ _ _ _ _ _ _ _ _ _ _ _ _ _ _ _ _ _ l1) | ((with_reducible refine cj18 l1 ?_); clear l1; intro _ _ _ _ _ _ _ _ _ _ _ _ _ _ _ _ _ l1) | ((with_reducible refine cj17 l1 ?_); clear l1; intro _ _ _ _ _ _ _ _ _ _ _ _ _ _ _ _ l1) | ((with_reducible refine cj16 l1 ?_); clear l1; intro _ _ _ _ _ _ _ _ _ _ _ _ _ _ _ l1) | ((with_reducible refine cj15 l1 ?_); clear l1; intro _ _ _ _ _ _ _ _ _ _ _ _ _ _ l1) | ((with_reducible refine cj14 l1 ?_); clear l1; intro _ _ _ _ _ _ _ _ _ _ _ _ _ l1) | ((with_reducible refine cj13 l1 ?_); clear l1; intro _ _ _ _ _ _ _ _ _ _ _ _ l1) | ((with_reducible refine cj12 l1 ?_); clear l1; intro _ _ _ _ _ _ _ _ _ _ _ l1) | ((with_reducible refine cj11 l1 ?_); clear l1; intro _ _ _ _ _ _ _ _ _ _ l1) | ((with_reducible refine cj10 l1 ?_); clear l1; intro _ _ _ _ _ _ _ _ _ l1) | ((with_reducible refine cj9 l1 ?_); clear l1; intro _ _ _ _ _ _ _ _ l1) | ((with_reducible refine cj8 l1 ?_); clear l1; intro _ _ _ _ _ _ _ l1) | ((with_reducible refine cj7 l1 ?_); clear l1; intro _ _ _ _ _ _ l1) | ((with_reducible refine cj6 l1 ?_); clear l1; intro _ _ _ _ _ l1) | ((with_reducible refine cj5 l1 ?_); clear l1; intro _ _ _ _ l1) | ((with_reducible refine cj4 l1 ?_); clear l1; intro _ _ _ l1) | ((with_reducible refine cj3 l1 ?_); clear l1; intro _ _ l1) | ((with_reducible refine cj2 l1 ?_); clear l1; intro _ l1)))))))
  (k_with "W0" => (first | (with_reducible assumption) | ((with_reducible show @Ne Nat _ _); first | (with_reducible exact Ne.symm (by with_reducible assumption)) | (with_reducible exact And.left (And.left (by with_reducible assumption))) | (with_reducible exact Ne.symm (And.left (And.left (by with_reducible assumption)))) | (with_reducible exact And.right (And.left (by with_reducible assumption))) | (with_reducible exact Ne.symm (And.right (And.left (by with_reducible assumption)))) | (with_reducible exact And.right (by with_reducible assumption)) | (with_reducible exact Ne.symm (And.right (by with_reducible assumption))) | (with_reducible exact om10 (by assumption))) | ((with_reducible show @LT.lt Nat _ _ _); first | (with_reducible exact omz3 (by assumption)) | (with_reducible exact omz4 (by assumption) (by k_extra "or")) | (with_reducible exact omz1 (by assumption) (by assumption) (by assumption)) | (with_reducible exact omz2 (by assumption) (by assumption) (by assumption) (by assumption)) | (with_reducible exact om1 (by assumption)) | (with_reducible exact om23 (by assumption) (by k_extra "or")) | (with_reducible exact om11 (by assumption) (by k_extra "or")) | (with_reducible exact om12 (by assumption) (by k_extra "or")) | (with_reducible exact om13 (by assumption) (by k_extra "or")) | (with_reducible exact om14 (by assumption) (by k_extra "or")) | (with_reducible exact om15 (by assumption) (by k_extra "or")) | (with_reducible exact om18 (by assumption) (by k_extra "or")) | (with_reducible exact om19 (by assumption) (by k_extra "or")) | (with_reducible exact om20 (by assumption) (by k_extra "or")) | (with_reducible exact om21 (by assumption) (by k_extra "or")) | (with_reducible exact om22 (by assumption) (by k_extra "or"))) | ((with_reducible show @LE.le Nat _ _ _); first | (with_reducible exact Nat.min_le_right _ _) | (with_reducible exact omm1 (by assumption) (by k_extra "or")) | (with_reducible exact omm2 (by assumption) (by k_extra "or")) | (with_reducible exact om38 (by assumption) (by assumption) (by assumption) (by k_extra "or")) | (with_reducible exact om37 (by assumption) (by assumption)) | (with_reducible exact om40 (by assumption) (by assumption)) | (with_reducible exact om2 (by assumption) (by k_extra "or")) | (with_reducible exact om4 (by assumption) (by k_extra "or")) | (with_reducible exact om5 (by assumption) (by k_extra "or")) | (with_reducible exact om5' (by assumption) (by k_extra "or")) | (with_reducible exact om5a (by assumption) (by k_extra "or")) | (with_reducible exact om3 (by assumption) (by assumption) (by k_extra "or")) | (with_reducible exact om6 (by assumption) (by assumption) (by k_extra "or")) | (with_reducible exact om7 (by assumption) (by assumption) (by k_extra "or")) | (with_reducible exact om8 (by assumption) (by k_extra "or")) | (with_reducible exact om9 (by assumption) (by k_extra "or")) | (with_reducible exact om25 (by assumption) (by assumption)) | (with_reducible exact om27 (by assumption)) | (with_reducible exact om28 (by assumption) (by assumption)) | (with_reducible exact om32 (by assumption) (by assumption) (by k_extra "or")) | (with_reducible exact om35 (by assumption)) | (with_reducible exact oi29 (by assumption) (by k_extra "or"))) | ((with_reducible show @LE.le Int _ _ _); first | (with_reducible exact oia) | (with_reducible exact oi30 (by assumption) (by assumption) (by assumption) (by k_extra "or")) | (with_reducible exact oi1) | (with_reducible exact oi5 (by assumption) (by k_extra "or")) | (with_reducible exact oi6 (by assumption)) | (with_reducible exact oi7 (by assumption)) | (with_reducible exact oi8 (by assumption) (by assumption)) | (with_reducible exact oi20 (by assumption) (by assumption)) | (with_reducible exact oi28 (by assumption)) | (with_reducible exact oi13 (by k_extra "or")) | (with_reducible exact oi23)) | ((with_reducible show @LT.lt Int _ _ _); first | (with_reducible exact oi2 (by assumption) (by k_extra "or")) | (with_reducible exact oi3 (by assumption) (by k_extra "or") (by k_extra "or")) | (with_reducible exact oi4 (by assumption)) | (with_reducible exact oi18 (by assumption)) | (with_reducible exact oi17 (by assumption) (by assumption)) | (with_reducible exact oi9 (by assumption) (by assumption) (by k_extra "or")) | (with_reducible exact oi10 (by assumption) (by assumption)) | (with_reducible exact oi11 (by assumption) (by assumption) (by k_extra "or") (by k_extra "or")) | (with_reducible exact oi12 (by assumption) (by assumption) (by k_extra "or") (by k_extra "or")) | (with_reducible exact oi21 (by assumption) (by k_extra "or") (by k_extra "or")) | (with_reducible exact oi14 (by k_extra "or"))) | ((with_reducible show @Or _ _); first | (with_reducible exact omd6 (by assumption)) | (with_reducible exact omd2 (by assumption)) | (with_reducible exact oid3 (by assumption))) | ((with_reducible show @Eq Nat _ _); first | (with_reducible exact oe1 (by assumption)) | (with_reducible exact oe2 (by assumption)) | (with_reducible exact oe3 (by assumption)) | (with_reducible exact oe4 (by assumption))) | (with_reducible exact oi31 (by assumption)) | (with_reducible exact om41 (by assumption)) | decide | lia | omega (config := {})))
  (k_with "x_omega" => ((fail_if_success (k_extra "offg1")); k_extra "W0"))
  (k_with "W1" => (repeat' (first | ((fail_if_success (fail_if_success k_unfold)); (try ((fail_if_success (fail_if_success (dsimp only [mkEq]))); first | ((with_reducible refine letS2 ?_); intro s9) | ((with_reducible refine letS ?_); intro s9))); (first | (with_reducible refine (?_ : wpAny _ _ _ _ _ _)) | (k_unfold; (try dsimp only)))) | (k_end; wrow_close) | ((with_reducible show wpAny _ _ (eval _ _) _ _ _); (fail_if_success (with_reducible show wpAny _ _ (eval (Expr.Name _ _) _) _ _ _)); (fail_if_success (with_reducible show wpAny _ _ (eval (Expr.Constant _ _ _) _) _ _ _)); (fail_if_success (with_reducible show wpAny _ _ (eval (Expr.Subscript _ _ _) _) _ _ _)); (fail_if_success (with_reducible show wpAny _ _ (eval (Expr.Slice _ _ _ _) _) _ _ _)); k_extra "m_foldq"; walk1) | walk1 | (dsimp only; walk1) | (leave1; (try dsimp only)) | fail "no step")))
  (k_with "x_k_steps" => ((fail_if_success (k_extra "offg1")); k_extra "W1"))
  (k_with "W2" => (first | (k_extra "m_neD") | first | ((try dsimp only); first | exact Nat.ne_of_lt (by with_reducible assumption) | exact Nat.ne_of_gt (by with_reducible assumption)) | (refine neN ?_; (try dsimp only); omega)))
  (k_with "x_k_ne" => ((fail_if_success (k_extra "offg1")); k_extra "W2"))
  (k_with "W3" => ((k_here; k_dflt (refine' storeL (by k_asm) (by k_asm) ?_ (by rfl) (by rfl); k_whole; intro m9 h' F' N'; (try k_sweep)))))
  (k_with "storeName" => ((fail_if_success (k_extra "offg1")); k_extra "W3"))
  (k_with "W4" => ((k_here; k_dflt (refine' listL (by k_asm) (by k_asm) ?_; k_whole); intro o9 l' h' n9 F' N' l1; (try k_extra "klt"); (try k_sweep))))
  (k_with "newList" => ((fail_if_success (k_extra "offg1")); k_extra "W4"))
  (k_with "W5" => ((k_here; kup_bare; k_dflt (refine' tupleL (by k_asm) (by k_asm) ?_ (by kmk_size)); intro o9 D' h' n9 F' N' l1; (try k_extra "klt"); (try k_sweep))))
  (k_with "newTuple" => ((fail_if_success (k_extra "offg1")); k_extra "W5"))
  (k_with "W6" => ((k_here; (with_reducible show wpAny _ _ (call (Value.builtin _) [Value.ref _, _]) _ _ _); k_dflt (refine' appendL (by k_asm) (by k_asm) (by (intro _; k_upd)) ?_ (by size_fits); k_whole); intro o9 n9 h' F' N'; (try k_sweep))))
  (k_with "call builtin:list.append" => ((fail_if_success (k_extra "offg1")); k_extra "W6"))
  (k_with "W7" => ((k_here; k_dflt (refine' setL (by k_asm) (by k_asm) (by k_asm) (by k_inst) (by exact rfl) (by k_is) (by k_is) (by k_is) (by k_is) (by k_get) (by k_put) (by (intro _; k_upd)) (by exact Nat.le_of_ble_eq_true rfl) ?_; k_whole; intro e9 o9 n9 h' F' N'; (try k_sweep)))))
  (k_with "setAttr ref" => ((fail_if_success (k_extra "offg1")); k_extra "W7"))
  (k_with "W8" => (((with_reducible rename News _ _ _ _ => N9); first | ((with_reducible refine objs7 N9 ?_); clear N9; intro _ _ _ _ _ _ _ _ N9) | ((with_reducible refine objs4 N9 ?_); clear N9; intro _ _ _ _ _ N9) | ((with_reducible refine objs3 N9 ?_); clear N9; intro _ _ _ _ N9) | ((with_reducible refine objs2 N9 ?_); clear N9; intro _ _ _ N9) | ((with_reducible refine objs1 N9 ?_); clear N9; intro _ _ N9))))
  (k_with "m_objs" => ((fail_if_success (k_extra "offg1")); k_extra "W8"))
  (k_with "W9" => (((fail_if_success (fail_if_success k_fold)); (with_reducible refine foldQ ?_); intro qk9)))
  (k_with "m_foldq" => ((fail_if_success (k_extra "offg1")); k_extra "W9"))
  (k_with "W10" => ((refine' ((by intro _ _ h9; exact h9) : UpdT _ _ _ _ _) _ (by k_extra "m_updS") (by first | exact updV (by assumption) rfl rfl rfl | exact updV' (by k_extra "m_keep") rfl rfl | fail "updV"))))
  (k_with "x_k_upd" => ((fail_if_success (k_extra "offg1")); k_extra "W10"))
  (k_with "W11" => (first | exact MaskS.all rfl | (apply MaskS.keep; k_extra "m_maskS") | (apply MaskS.skip; k_extra "m_maskS")))
  (k_with "m_maskS" => ((fail_if_success (k_extra "offg1")); k_extra "W11"))
  (k_with "W12" => (((with_reducible rename pairNe _ => dN8); k_dflt (refine' ((by intro _ _ h9; exact h9) : KeepT _ (pnL dN8)) _ (by k_extra "m_maskS") (by exact keepV dN8 rfl)))))
  (k_with "m_keep" => ((fail_if_success (k_extra "offg1")); k_extra "W12"))
  (k_with "W13" => (first | exact SubD.nil | exact SelD.sub (by k_extra "m_sel") | fail "subD"))
  (k_with "m_subD" => ((fail_if_success (k_extra "offg1")); k_extra "W13"))
  (k_with "W14" => (first | exact PickS.head | (apply PickS.tail; k_extra "m_pickS")))
  (k_with "m_pickS" => ((fail_if_success (k_extra "offg1")); k_extra "W14"))
  (k_with "W15" => (first | exact SelS.nil | (apply SelS.cons; (focus k_extra "m_pickS"); k_extra "m_selS")))
  (k_with "m_selS" => ((fail_if_success (k_extra "offg1")); k_extra "W15"))
  (k_with "W16" => (first | exact UpdS.head | (apply UpdS.tail; k_extra "m_updS")))
  (k_with "m_updS" => ((fail_if_success (k_extra "offg1")); k_extra "W16"))
  (k_with "W17" => (first | exact KeyS.head | (apply KeyS.tail; k_extra "m_keyS")))
  (k_with "m_keyS" => ((fail_if_success (k_extra "offg1")); k_extra "W17"))
  (k_with "W18" => (((with_reducible rename pairNe _ => dN8); k_dflt (refine' ((by intro _ _ _ _ h9; exact h9) : NeT (pnL dN8) _ _) _ _ (by k_extra "m_keyS") (by k_extra "m_keyS") (by exact neV dN8 rfl rfl rfl)))))
  (k_with "m_neD" => ((fail_if_success (k_extra "offg1")); k_extra "W18"))
  (k_with "W19" => ((refine' ((by intro _ _ h9; exact h9) : SelT _ _ _) _ (by k_extra "m_selS") (by first | exact selV (by assumption) rfl rfl | exact selV' (by k_extra "m_keep") rfl | exact selV (m := [_]) (And.intro trivial trivial) rfl rfl | exact selV (m := []) trivial rfl rfl | fail "selV"))))
  (k_with "m_sel" => ((fail_if_success (k_extra "offg1")); k_extra "W19"))
  (k_with "W20" => ((refine' ((by intro _ _ h9; exact h9) : PickT _ _ _) _ (by k_extra "m_pickS") (by first | exact pickV (by assumption) rfl rfl | exact pickV' (by k_extra "m_keep") rfl | fail "pickV"))))
  (k_with "m_pick" => ((fail_if_success (k_extra "offg1")); k_extra "W20"))
  (k_with "W21" => ((refine' TailD.of (by k_extra "m_sel") (by first | exact (rfl : List.drop 0 _ = _) | exact (rfl : List.drop 1 _ = _) | exact (rfl : List.drop 2 _ = _) | exact (rfl : List.drop 3 _ = _) | exact (rfl : List.drop 4 _ = _) | exact (rfl : List.drop 5 _ = _) | exact (rfl : List.drop 6 _ = _) | exact (rfl : List.drop 7 _ = _) | exact (rfl : List.drop 8 _ = _) | exact (rfl : List.drop 9 _ = _) | exact (rfl : List.drop 10 _ = _) | exact (rfl : List.drop 11 _ = _) | exact (rfl : List.drop 12 _ = _) | exact (rfl : List.drop 13 _ = _) | exact (rfl : List.drop 14 _ = _) | exact (rfl : List.drop 15 _ = _)))))
  (k_with "m_tailD" => ((fail_if_success (k_extra "offg1")); k_extra "W21"))
  (k_with "W22" => ((exact TailD.one (by k_extra "m_tailD"))))
  (k_with "m_tailD1" => ((fail_if_success (k_extra "offg1")); k_extra "W22"))
  (k_with "W23" => (first | (refine' footDrop (by first | exact (rfl : List.drop 0 _ = _) | exact (rfl : List.drop 1 _ = _) | exact (rfl : List.drop 2 _ = _) | exact (rfl : List.drop 3 _ = _) | exact (rfl : List.drop 4 _ = _) | exact (rfl : List.drop 5 _ = _) | exact (rfl : List.drop 6 _ = _) | exact (rfl : List.drop 7 _ = _) | exact (rfl : List.drop 8 _ = _) | exact (rfl : List.drop 9 _ = _) | exact (rfl : List.drop 10 _ = _) | exact (rfl : List.drop 11 _ = _) | exact (rfl : List.drop 12 _ = _) | exact (rfl : List.drop 13 _ = _)) (by assumption) (by exact rfl)) | exact FootIn.of (by k_extra "m_sel")))
  (k_with "m_foot" => ((fail_if_success (k_extra "offg1")); k_extra "W23"))
  (k_with "W24" => (((with_reducible rename pairNe _ => dN8); exact pnKeys dN8 rfl)))
  (k_with "m_pnk" => ((fail_if_success (k_extra "offg1")); k_extra "W24"))
  (k_with "W25" => (((with_reducible rename pairNe _ => dN8); clear dN8)))
  (k_with "m_clrD" => ((fail_if_success (k_extra "offg1")); k_extra "W25"))
  (k_with "W26" => ((k_here; (with_reducible show wpAny _ _ (eval (Expr.Call (Expr.Attribute (Expr.Name ("self" : Str) _) _ _) [] [] _) _) _ _ _); k_dflt (refine' methL0 (by rfl) (by rfl) (by exact rfl) (by k_asm) (by k_asm) (by exact rfl) (by k_inst) (by k_is) (by k_is) (by k_is) (by k_get) (by k_is) ?_ (by decide); k_whole))))
  (k_with "eval Call Attribute" => ((fail_if_success (k_extra "offg1")); k_extra "W26"))
  (k_with "W27" => ((k_here; (with_reducible show wpAny _ _ (eval (Expr.Call (Expr.Attribute (Expr.Name ("self" : Str) _) _ _) [_] [] _) _) _ _ _); k_dflt (refine' methL1 (by rfl) (by rfl) (by exact rfl) (by k_asm) (by k_asm) (by exact rfl) (by k_inst) (by k_is) (by k_is) (by k_is) (by k_get) (by k_is) ?_ (by decide) (by rfl); k_whole))))
  (k_with "eval Call Attribute" => ((fail_if_success (k_extra "offg1")); k_extra "W27"))
  (k_with "W28" => ((k_here; (with_reducible show wpAny _ _ (eval (Expr.Call (Expr.Attribute (Expr.Name ("self" : Str) _) _ _) [Expr.Name _ _] [] _) _) _ _ _); k_dflt (refine' methN1 (by rfl) (by rfl) (by rfl) (by exact rfl) (by k_asm) (by k_asm) (by exact rfl) (by exact rfl) (by k_inst) (by k_is) (by k_is) (by k_is) (by k_get) (by k_is) ?_ (by decide) (by decide); k_whole))))
  (k_with "eval Call Attribute" => ((fail_if_success (k_extra "offg1")); k_extra "W28"))
  (k_with "W29" => ((k_here; (with_reducible show wpAny _ _ (eval (Expr.Subscript (Expr.Name _ _) (Expr.Constant _ _ _) _) _) _ _ _); k_dflt (refine' subNC (by k_asm) (by exact rfl) ?_ (by rfl) (by rfl) (by decide); k_whole))))
  (k_with "eval Subscript" => ((fail_if_success (k_extra "offg1")); k_extra "W29"))
  (k_with "W30" => ((k_dflt (refine' leaveS_ (by k_asm) (by k_asm) ?_; k_whole); intro kF kN; (try dsimp only))))
  (k_with "LeaveS" => ((fail_if_success (k_extra "offg1")); k_extra "W30"))
  (k_with "W31" => (first | exact room1 (by with_reducible assumption) (by decide) | ((try simp (zetaDelta := true) only [depth_mark, depth_under_make, depth_under_kw, depth_in1, depth_deeper, depth_caller]); (try dsimp (zetaDelta := true) only [aro]); omega)))
  (k_with "x_k_room" => ((fail_if_success (k_extra "offg1")); k_extra "W31"))
  (k_with "W32" => (first | exact unit1 (by with_reducible assumption) (by decide) | ((try simp (zetaDelta := true) only [units_in1, units_deeper, Around.mark_units, units_caller]); (try dsimp (zetaDelta := true) only [aro]); omega)))
  (k_with "x_k_units" => ((fail_if_success (k_extra "offg1")); k_extra "W32"))
  (k_with "W33" => ((k_here; (with_reducible show wpAny _ _ (call (Value.builtin "str.split") [Value.str _ _, Value.str _ _]) _ _ _); (refine KSpl.split1 (by k_asm) (by k_asm) (by decide) ?_ ?_; rotate_left; (first | size_fits | (rw [sizeLine_eq]; omega))); intro D' l' h' k' e' a' F' N' l1; (try k_extra "klt"); (try k_sweep))))
  (k_with "call builtin:str.split" => ((fail_if_success (k_extra "offg1")); k_extra "W33"))
  (k_with "m_pick" => ((fail_if_success (k_extra "offg1")); k_extra "W20"))
  (k_with "m_sel" => ((fail_if_success (k_extra "offg1")); k_extra "W19"))
  (k_with "W34" => ((refine wpAny_call ?_; k_dflt (refine' enter (by assumption) (by k_is) (by k_is) (by k_room) (by exact BindsTo.of_eq rfl) (by exact locs rfl) ?_ (by exact rfl) (by exact rfl) (by exact rfl) (by decide); k_whole; intro L' h' F' N' B' X' T' l1; clear l1; (rename Site _ _ _ _ _ _ _ _ _ _ _ _ => mS); (have mXB := Site.X mS); (have mTB := Site.T mS); (have mND := Site.nd mS); clear mS; (have kX' := X'); (have kT' := T'); clear X' T'; (try dsimp only); (with_reducible refine letAE ?_); intro A9 e9; (try (k_extra "m_objs")); (try k_fold)))))
  (k_with "m_enter" => ((fail_if_success (k_extra "offg1")); k_extra "W34"))
  (k_with "W35" => ((k_here; refine' method_type (by k_asm) (by k_asm) (by (show typeOf (.type "Exception") = pure (.type "type"); kernel_rfl)) (by decide +kernel) (by k_dflt k_is) (by k_handed) ?_)))
  (k_with "getMethod type:Exception" => ((fail_if_success (k_extra "offg1")); k_extra "W35"))
  (k_with "W36" => ((k_here; (with_reducible show wpAny _ _ (exec (Stmt.Raise (some (Expr.Call (Expr.Name ("BadListing" : Str) _) _ _ _)) none _) _) _ _ _); k_dflt (refine' raise_any (by k_asm) (by exact rfl) ?_))))
  (k_with "exec Raise some none" => ((fail_if_success (k_extra "offg1")); k_extra "W36"))
  (k_with "W37" => ((k_here; (with_reducible show wpAny _ _ (call (Value.ref 166) [Value.int _ _]) _ _ _); k_dflt (refine' make_bad (by k_asm) (by k_asm) (by k_asm) (by k_asm) (by k_asm) (by exact rfl) (by exact rfl) (by k_room) (by k_units) ?_); intro h' tk' e' D' t' u' F' N'; (try k_sweep))))
  (k_with "call ref cons nil" => ((fail_if_success (k_extra "offg1")); k_extra "W37"))
  (k_with "W38" => ((refine rb_intro (by k_asm) (by k_asm) (by k_asm) ?_)))
  (k_with "RBPost" => ((fail_if_success (k_extra "offg1")); k_extra "W38"))
  (k_with "W39" => ((k_here; k_dflt (first | (refine' leave_on (by k_asm) (by exact rfl) (by k_asm) (by k_asm) (by k_asm) ?_; k_whole; intro h' R' U'; (try dsimp only)) | (refine' leave_made (by k_asm) (by k_asm) (by k_asm) (by exact rfl) (by exact rfl) ?_; k_whole; intro h' R' U'; (try dsimp only))))))
  (k_with "leaving ref" => ((fail_if_success (k_extra "offg1")); k_extra "W39"))
  (k_with "W40" => (((rename ExnS _ _ _ _ _ _ _ => mE); exact mE _ _ _ _ _ (by assumption) (by assumption) (by first | assumption | rfl | omega))))
  (k_with "m_exn" => ((fail_if_success (k_extra "offg1")); k_extra "W40"))
  (k_with "W41" => ((k_here; (with_reducible show wpAny _ _ (call (Value.builtin "len") [Value.ref _]) _ _ _); k_dflt (refine' lenStrs (by k_asm) (by k_mem) (by first | omega | (simp only [List.length_cons, List.length_nil]; omega)) ?_; k_whole))))
  (k_with "call builtin:len cons nil" => ((fail_if_success (k_extra "offg1")); k_extra "W41"))
  (k_with "W42" => ((k_here; (with_reducible show wpAny _ _ (subscriptTail _ _ (Value.ref _) (Value.int _ _)) _ _ _); k_dflt (refine' itemStrs (by k_asm) (by k_mem) (by omega) (by omega) (by first | assumption | exact rfl) ?_ (by with_unfolding_all rfl) (by (intro _; with_unfolding_all rfl)); k_whole); (try dsimp only))))
  (k_with "subscriptTail" => ((fail_if_success (k_extra "offg1")); k_extra "W42"))
  (k_with "W43" => ((k_here; k_dflt (refine' sliceFromStrs (by k_asm) (by k_asm) (by k_mem) (by omega) (by assumption) ?_ (by with_unfolding_all rfl) (by kmk_pure)); intro D' h' F' N' l1 z1; (try k_extra "klt"); (try simp only [Int.toNat_one, List.drop_succ_cons, List.drop_zero] at N' z1); (try ((with_reducible refine foldN N' ?_); clear N'; intro n9 N')); (try k_sweep))))
  (k_with "subscriptTail Name Slice ref ref" => ((fail_if_success (k_extra "offg1")); k_extra "W43"))
  (k_with "W44" => ((k_here; k_dflt (refine' sliceUptoStrs (by k_asm) (by k_asm) (by k_mem) (by omega) (by assumption) ?_ (by with_unfolding_all rfl) (by kmk_pure)); intro D' h' F' N' l1 z1; (try k_extra "klt"); (try simp only [Int.toNat_one, List.drop_succ_cons, List.drop_zero] at N' z1); (try ((with_reducible refine foldN N' ?_); clear N'; intro n9 N')); (try k_sweep))))
  (k_with "subscriptTail Name Slice ref ref" => ((fail_if_success (k_extra "offg1")); k_extra "W44"))
  trivial
/-- the exception's own object: its class, its dict -/
noncomputable def BadObj (D : Addr) (o : Obj) : Prop := o.cls = .ref 166 ∧ o.dict = some D
theorem BadObj.fieldsSet {D : Addr} {o : Obj} (x : BadObj D o) (f : Array Value → Array Value) : BadObj D (Obj.mapFields f o) := by
  refine hideG ?_; intro g9; obtain ⟨c, d, dt, sl⟩ := o; k_unfold
  cases dt <;> exact x
noncomputable def BadAt (h base : Heap) (e D : Addr) (fl : Value) : Prop :=
  ∃ oe vs T oT ts, h.get? e = some oe ∧ BadObj D oe ∧ oe.data = .fields vs ∧ vs[1]? = some (.ref T) ∧ base.get? T = none ∧ T ≠ e ∧ h.get? T = some oT ∧ oT.data = .fields ts ∧ ts[3]? = some fl
/-- in flight above the frames l -/
noncomputable def BadFly (base : Heap) (l : List Env) (e D : Addr) (fl : Value) (h : Heap) : Prop :=
  base.StaysIn h ∧ base.get? e = none ∧ h.FunFrames base l ∧ BadAt h base e D fl

section
variable {M : Model} {A : Around} {E : Value → Shared → Prop} {s : Shared}

theorem bad_entry {base : Heap} {env : Env} {outer : List Env} {L e D : Addr} {oe : Obj} {vs : Array Value} {head : Value} {hadNext : Bool} {Q : Unit → Shared → Prop}
    (hfr : A.frames = some (env :: outer)) (hl : s.heap.FunFrames base (env :: outer)) (hf : env.frame = some L)
    (he : s.heap.get? e = some oe) (hb : BadObj D oe) (hkb : base.StaysIn s.heap) (hen : base.get? e = none) (hd : oe.data = .fields vs) (hsz : 1 < vs.size)
    (h : ∀ h', BadFly base (env :: outer) e D (rawInt L) h' → s.heap.UpToSlots h' → Q () { s with heap := h' }) :
    wpAny M A (do let a ← frameOf env; let pl ← entryPlaceOf L hadNext; let b ← EntryCells.newEntry head a .none (rawInt L) .none pl; setField (.ref e) 1 b) Q E s := by
  refine' (?zf : Scr _) ?zq _ ?zs
  case zq =>
    have notFrame : e ∉ (env :: outer).filterMap (·.frame) := fun hm => by
      refine hideG ?_; intro g9; obtain ⟨_, o, ho, hnf⟩ := hl.mem hm; k_unfold
      rw [he] at ho; cases ho; exact hnf vs hd
    refine wpAny_bind (wpAny_frameOf_fun hfr hl hf fun h₁ hs₁ => ?_)
    refine wpAny_bind (wpAny_entryPlaceOf fun pl hpl => ?_)
    unfold EntryCells.newEntry newFields
    refine wpAny_bind (wpAny_newObj_type ?_ (hpl.sizeOk5 _ _ _ _ _))
    have he₁ : h₁.get? e = some oe := (hs₁.2.1 e notFrame).trans he
    have kb₁ : base.StaysIn h₁ := fun b o hbo => (hs₁.2.1 b fun hm => by rw [(hl.mem hm).1] at hbo; cases hbo).trans (hkb b o hbo)
    generalize ht : ([head, .ref L, .none, rawInt L, .none] ++ (if pl.isEmpty then List.replicate 6 Value.none else pl)).toArray = tv
    have ht3 : tv[3]? = some (rawInt L) := by rw [← ht]; simp
    have he₂ := Heap.get?_push_of_some (h := h₁) { cls := .type "traceback", dict := none, data := .fields tv } he₁
    refine wpAny_setField he₂ hd hsz (h _ ?_ ?_)
    · have hTe : h₁.objs.size ≠ e := Nat.ne_of_gt (Heap.lt_size he₁)
      have hd₃ := Obj.data_mapFields hd (·.setIfInBounds 1 (Value.ref h₁.objs.size))
      have he₃ := Heap.get?_update_self (Obj.mapFields (·.setIfInBounds 1 (Value.ref h₁.objs.size))) he₂ (Obj.isFreed_of_fields hd₃)
      have hT₃ := (Heap.get?_update_other (h₁.push { cls := .type "traceback", dict := none, data := .fields tv }) (Obj.mapFields (·.setIfInBounds 1 (Value.ref h₁.objs.size))) (Ne.symm hTe)).trans (Heap.get?_push_size h₁ rfl)
      have keep : ∀ b o, b ≠ e → h₁.get? b = some o → ((h₁.push { cls := .type "traceback", dict := none, data := .fields tv }).update e (Obj.mapFields (·.setIfInBounds 1 (Value.ref h₁.objs.size)))).get? b = some o := fun b o hbe hb' => by
        rw [Heap.get?_update_other _ _ (Ne.symm hbe)]
        exact Heap.get?_push_of_some _ hb'
      refine ⟨fun b o hbo => keep b o (fun q => by rw [q, hen] at hbo; cases hbo) (kb₁ b o hbo), hen, hl.of_keeps fun b o hb' hnf => ?_, ?_⟩
      · obtain ⟨sl, hs⟩ := hs₁.2.2 b o hb'
        exact ⟨_, keep b _ (fun q => by rw [q, he] at hb'; cases hb'; exact hnf vs hd) hs, rfl⟩
      · exact ⟨_, _, h₁.objs.size, _, _, he₃, hb.fieldsSet _, hd₃, by simp [hsz], kb₁.fresh, hTe, hT₃, rfl, ht3⟩
    · intro b o hb' hnf
      obtain ⟨sl, hs⟩ := hs₁.2.2 b o hb'
      refine ⟨sl, ?_⟩
      show ((h₁.push _).update e _).get? b = _
      rw [Heap.get?_update_other _ _ (fun q : e = b => by rw [← q, he] at hb'; cases hb'; exact hnf vs hd)]
      exact Heap.get?_push_of_some _ hs
  case zs => show LetQ _ ?zq _; (try delta id foldQ letS2 letS hideG foldN subRN subN ltCut letAE nameRet); exact LetQ.refl
  case zf => intro _ r _; exact r

theorem bad_flight {base : Heap} {l : List Env} {e D : Addr} {fl : Value} {Q : Unit → Shared → Prop} (x : BadFly base l e D fl s.heap)
    (h : ∀ h', BadFly base l e D .none h' → s.heap.UpToSlots h' → Q () { s with heap := h' }) : wpAny M A (setFlight (.ref e) none) Q E s := by
  refine hideG ?_; intro g9; obtain ⟨hkb, hen, hl, oe, vs, T, oT, ts, he, hb, hd, h1, hnT, hTe, hT, hdT, h3⟩ := x; k_unfold
  have hsz3 : 3 < ts.size := (Array.getElem?_eq_some_iff.mp h3).1
  have other : ∀ b, b ≠ T → (s.heap.update T (Obj.mapFields (·.setIfInBounds 3 ((none : Option Addr).elim Value.none fun f => rawInt f)))).get? b = s.heap.get? b :=
    fun b hb => Heap.get?_update_other _ _ (Ne.symm hb)
  have noRecord : ∀ b o, s.heap.get? b = some o → (∀ vs, o.data ≠ .fields vs) → b ≠ T := fun b o hb hnf q => by
    rw [q, hT] at hb; cases hb; exact hnf ts hdT
  unfold setFlight
  refine wpAny_bind (wpAny_field he hd h1 ?_)
  rw [if_pos (show (Value.ref T != Value.none) = true from by simp)]
  refine wpAny_setField hT hdT hsz3 (h _ ⟨fun b o hbo => (other b fun q => by rw [q, hnT] at hbo; cases hbo).trans (hkb b o hbo), hen, hl.of_keeps fun b o hb hnf => ⟨o, (other b (noRecord b o hb hnf)).trans hb, rfl⟩, ?_⟩ ?_)
  · exact ⟨oe, vs, T, _, _, (other e (Ne.symm hTe)).trans he, hb, hd, h1, hnT, hTe, Heap.get?_update_self _ hT (Obj.isFreed_of_fields (Obj.data_mapFields hdT _)), Obj.data_mapFields hdT _, by simp [hsz3]⟩
  · exact fun b o hb hn => ⟨o.slots, (other b (noRecord b o hb hn)).trans hb⟩

/-- the frame is noted for the first time -/
theorem bad_note0 {base : Heap} {env : Env} {outer : List Env} {L e D : Addr} {oe : Obj} {vs : Array Value} {Q : Unit → Shared → Prop}
    (hfr : A.frames = some (env :: outer)) (hl : s.heap.FunFrames base (env :: outer)) (hf : env.frame = some L)
    (he : s.heap.get? e = some oe) (hb : BadObj D oe) (hkb : base.StaysIn s.heap) (hen : base.get? e = none) (hd : oe.data = .fields vs) (h1 : vs[1]? = some .none)
    (h : ∀ h', BadFly base (env :: outer) e D (rawInt L) h' → s.heap.UpToSlots h' → Q () { s with heap := h' }) : wpAny M A (noteFrame (.ref e) env) Q E s := by
  unfold noteFrame
  simp only [hf]
  refine wpAny_bind (wpAny_field he hd h1 ?_)
  rw [if_neg (by decide)]
  exact bad_entry hfr hl hf he hb hkb hen hd (Array.getElem?_eq_some_iff.mp h1).1 h

theorem bad_note {base : Heap} {env : Env} {outer : List Env} {L e D : Addr} {Q : Unit → Shared → Prop}
    (hfr : A.frames = some (env :: outer)) (hf : env.frame = some L) (x : BadFly base (env :: outer) e D .none s.heap)
    (h : ∀ h', BadFly base (env :: outer) e D (rawInt L) h' → s.heap.UpToSlots h' → Q () { s with heap := h' }) : wpAny M A (noteFrame (.ref e) env) Q E s := by
  refine hideG ?_; intro g9; obtain ⟨hkb, hen, hl, oe, vs, T, oT, ts, he, hb, hd, h1, hnT, hTe, hT, hdT, h3⟩ := x; k_unfold
  unfold noteFrame
  simp only [hf]
  refine wpAny_bind (wpAny_field he hd h1 ?_)
  rw [if_pos (show (Value.ref T != Value.none) = true from by simp)]
  refine wpAny_bind (wpAny_field hT hdT h3 ?_)
  rw [if_neg (show ¬ ((Value.none == rawInt L) = true) from by simp [rawInt])]
  refine wpAny_bind (wpAny_setField hT hdT (Array.getElem?_eq_some_iff.mp h3).1 ?_)
  have other : ∀ b, b ≠ T → (s.heap.update T (Obj.mapFields (·.setIfInBounds 3 Value.none))).get? b = s.heap.get? b := fun b hb => Heap.get?_update_other _ _ (Ne.symm hb)
  have noRecord : ∀ b o, s.heap.get? b = some o → (∀ vs, o.data ≠ .fields vs) → b ≠ T := fun b o hb hnf q => by
    rw [q, hT] at hb; cases hb; exact hnf ts hdT
  refine bad_entry hfr (hl.of_keeps fun b o hb hnf => ⟨o, (other b (noRecord b o hb hnf)).trans hb, rfl⟩) hf ((other e (Ne.symm hTe)).trans he) hb
    (fun b o hbo => (other b fun q => by rw [q, hnT] at hbo; cases hbo).trans (hkb b o hbo)) hen hd (Array.getElem?_eq_some_iff.mp h1).1 fun h' y z => h h' y fun b o hb hnf => ?_
  exact z b o ((other b (noRecord b o hb hnf)).trans hb) hnf

theorem BadFly.off {base h : Heap} {env : Env} {outer : List Env} {e D : Addr} {fl : Value} (x : BadFly base (env :: outer) e D fl h) : BadFly base outer e D fl h :=
  let ⟨a, b, ⟨_, _, c⟩, d⟩ := x
  ⟨a, b, c, d⟩

theorem bad_leave0 {base : Heap} {env : Env} {outer : List Env} {L e D : Addr} {oe : Obj} {vs : Array Value} {Q : Unit → Shared → Prop}
    (hfr : A.frames = some (env :: outer)) (hl : s.heap.FunFrames base (env :: outer)) (hf : env.frame = some L)
    (he : s.heap.get? e = some oe) (hb : BadObj D oe) (hkb : base.StaysIn s.heap) (hen : base.get? e = none) (hd : oe.data = .fields vs) (h1 : vs[1]? = some .none)
    (h : ∀ h', BadFly base outer e D .none h' → s.heap.UpToSlots h' → Q () { s with heap := h' }) : wpAny M A (leaving env (.ref e)) Q E s := by
  unfold leaving
  refine wpAny_bind (bad_note0 hfr hl hf he hb hkb hen hd h1 fun h' x y => ?_)
  exact bad_flight x fun h'' x' y' => h h'' x'.off (y.trans y')

theorem bad_leave {base : Heap} {env : Env} {outer : List Env} {L e D : Addr} {Q : Unit → Shared → Prop}
    (hfr : A.frames = some (env :: outer)) (hf : env.frame = some L) (x : BadFly base (env :: outer) e D .none s.heap)
    (h : ∀ h', BadFly base outer e D .none h' → s.heap.UpToSlots h' → Q () { s with heap := h' }) : wpAny M A (leaving env (.ref e)) Q E s := by
  unfold leaving
  refine wpAny_bind (bad_note hfr hf x fun h' x y => ?_)
  exact bad_flight x fun h'' x' y' => h h'' x'.off (y.trans y')
end

theorem funFrames_hide2 {base h : Heap} {as : List Addr} {e : Addr} {l : List Env} (H : h.FunFrames base l) (hin : ∀ env ∈ l, ∀ a, env.frame = some a → a ∈ as) : h.FunFrames (hideAll (hideAll h as) [e]) l := by
  induction l with
  | nil => exact trivial
  | cons env l ih =>
    refine hideG ?_; intro g9; obtain ⟨hk, ⟨L, o, hf, _, ho, hd⟩, hr⟩ := H; k_unfold
    refine ⟨hk, ⟨L, o, hf, ?_, ho, hd⟩, ih hr fun e he => hin e (.tail _ he)⟩
    cases q : (hideAll (hideAll h as) [e]).get? L with
    | none => rfl
    | some o' => have := of_hideAll _ q; rw [hideAll_none _ (hin env (.head _) L hf)] at this; cases this

/-- the one entry of the exception's dict -/
noncomputable def atEnt (w : World) (k : Int) (t : Tok × Tok) : List DictEntry := [⟨PyData.keyHash w.params (Str.ofString "at"), .str (Str.ofString "at") t.1, .int k t.2⟩]

/-- raised out of a call, above the frames l: B is what stands unturned -/
inductive Raised (w : World) (base G : Heap) (l : List Env) (e D : Addr) (k : Int) (h : Heap) : Prop
  | mk (B : _) (t : _) (hq1 : base.StaysIn B) (hq2 : (∀ b o, G.get? b = some o → b ∉ l.filterMap (·.frame) → B.get? b = some o)) (hq3 : B.get? D = some (dictOf (atEnt w k t) 1)) (hq4 : G.get? D = none) (hq5 : G.get? e = none) (hq6 : BadFly B l e D .none h) : Raised w base G l e D k h

/-- what a caller may use when the call is refused at row k, X k -/
noncomputable def ExnS (w : World) (base G : Heap) (l : List Env) (s : Shared) (X : Int → Prop) (E : Value → Shared → Prop) : Prop :=
  ∀ e D k h' tk', Raised w base G l e D k h' → G.UpToSlots h' → X k → E (.ref e) { s with heap := h', toks := tk' }

section
variable {M : Model} {w : World} {A : Around} {E : Value → Shared → Prop} {s' : Shared} {base g G : Heap} {outer : List Env} {L a e D : Addr} {k : Int} {m : Str → Option Value} {env : Env} {Q : Unit → Shared → Prop}

theorem leave_on (K : Below A base outer g) (hf : env.frame = some L) (F : Fr g L G m) (R : Raised w base G (env :: outer) e D k s'.heap) (hsm : G.UpToSlots s'.heap)
    (hQ : ∀ h', Raised w base g outer e D k h' → g.UpToSlots h' → Q () { s' with heap := h' }) :
    wpAny M (A.deeper env) (leaving env (.ref e)) Q E s' := by
  refine hideG ?_; intro g9; obtain ⟨B, t, hB, hBG, hD, hDG, heG, hfl⟩ := R; k_unfold
  have mem : ∀ b, b ∈ (env :: outer).filterMap (·.frame) → b = L ∨ b ∈ outer.filterMap (·.frame) := fun b hm => by
    rw [List.filterMap_cons, hf] at hm
    exact List.mem_cons.mp hm
  have self : g.get? L = none := kts_self F
  refine bad_leave (Around.frames_deeper K.stack) hf hfl fun h' x1 x2 => hQ h' ⟨B, t, hB, fun b o q nm => hBG b o (F.keep b o q) (fun hm => ?_), hD, kts_none F.keep hDG, kts_none F.keep heG, x1⟩ ((Heap.UpToSlots.of_keeps F.keep).trans (hsm.trans x2))
  rcases mem b hm with z | z
  · rw [z, self] at q; cases q
  · exact nm z

/-- a made exception leaves the frame in which it was raised -/
theorem leave_first {h : Heap} {oe : Obj} {vs : Array Value} {t : Tok × Tok} (K : Below A base outer g) (hf : env.frame = some L) (hk : env.scope.kind = .function) (F : Fr g L h m) (N : News g L h [(D, dictOf (atEnt w k t) 1)])
    (hh : s'.heap = h) (he : h.get? e = some oe) (hge : g.get? e = none) (hb : BadObj D oe) (hd : oe.data = .fields vs) (h1 : vs[1]? = some .none)
    (hQ : ∀ h', Raised w base g outer e D k h' → g.UpToSlots h' → Q () { s' with heap := h' }) :
    wpAny M (A.deeper env) (leaving env (.ref e)) Q E s' := by
  subst hh
  have K' := pushX K F hf hk
  have hin : ∀ v ∈ (env :: outer), ∀ b, v.frame = some b → b ∈ (env :: outer).filterMap (·.frame) := fun v hv b hb => List.mem_filterMap.mpr ⟨v, hv, hb⟩
  have mem : ∀ b, b ∈ (env :: outer).filterMap (·.frame) → b = L ∨ b ∈ outer.filterMap (·.frame) := fun b hm => by
    rw [List.filterMap_cons, hf] at hm
    exact List.mem_cons.mp hm
  have self : g.get? L = none := kts_self F
  let fs := (env :: outer).filterMap (·.frame)
  have eF : e ∉ fs := fun hm => by
    refine hideG ?_; intro g9; obtain ⟨_, o, ho, hnf⟩ := K'.frames.mem hm; k_unfold
    rw [he] at ho; cases ho; exact hnf vs hd
  let B := hideAll (hideAll s'.heap fs) [e]
  have Bg : ∀ b o, s'.heap.get? b = some o → b ∉ fs → b ≠ e → B.get? b = some o := fun b o q n1 n2 => hideAll_get _ (hideAll_get _ q n1) (by simpa using n2)
  have st : base.StaysIn B := fun b o q => Bg b o (K'.stays b o q) (fun hm => by rw [(K'.frames.mem hm).1] at q; cases q) fun z => by
    have := K.stays b o q; rw [z, hge] at this; cases this
  have hDm := N _ (List.mem_singleton.mpr rfl)
  have Dne : D ≠ e := fun z => by
    have q := hDm.1
    rw [z, he] at q
    have : oe = dictOf (atEnt w k t) 1 := Option.some.inj q
    rw [this] at hd; cases hd
  have DF : D ∉ fs := fun hm => by
    rcases mem D hm with z | z
    · exact hDm.2.1 z
    · refine hideG ?_; intro g9; obtain ⟨_, o, ho, _⟩ := K.frames.mem z; k_unfold
      have := hDm.2.2
      rw [this] at ho; cases ho
  have bs : ∀ b o, B.get? b = some o → s'.heap.get? b = some o := fun b o q => of_hideAll _ (of_hideAll _ q)
  refine bad_leave0 (base := B) K'.stack (funFrames_hide2 K'.frames hin) hf he hb (fun b o q => bs b o q) (hideAll_none _ (List.mem_singleton.mpr rfl)) hd h1 fun h' x1 x2 => ?_
  refine hQ h' ⟨B, t, st, fun b o q nm => Bg b o (F.keep b o q) (fun hm => ?_) (fun z => ?_), Bg _ _ hDm.1 DF Dne, hDm.2.2, hge, x1⟩ ((Heap.UpToSlots.of_keeps F.keep).trans x2)
  · rcases mem b hm with z | z
    · rw [z, self] at q; cases q
    · exact nm z
  · rw [z, hge] at q; cases q
end

end
section -- X2
theorem NewsG.sub {g h : Heap} {l l' : List (Addr × Obj)} (N : NewsG g h l) (hs : ∀ p ∈ l', p ∈ l) : NewsG g h l' := fun p hp => N p (hs p hp)

noncomputable def Con (w : World) (mean : ExcName → Option Value) (mg mb : Str → Option Value) (f : Addr) (args : List Value) (foot : List (Addr × Obj)) (d : Nat) (P : Value → List (Addr × Obj) → Prop) (X : Int → Prop) : Prop :=
  ∀ (prog : Program) (dp un : Nat) (gd : Option (List Code)) (base : Heap) (frs : List Env) (g : Heap) (s : Shared) (Q E : Value → Shared → Prop),
    Site w mean mg mb dp un gd base frs g s foot → dp + d < recursionLimit → un + 10 * d < cLine → RetS g s P Q → ExnS w base g frs s X E →
    wpAny (model prog w) (aro dp un gd frs) (call (.ref f) args) Q E s

section
variable {prog : Program} {w : World} {mean : ExcName → Option Value} {mg mb : Str → Option Value} {dp un : Nat} {gd : Option (List Code)} {base h₀ : Heap} {outer : List Env} {s : Shared} {foot news rest : List (Addr × Obj)}
  {f L : Addr} {args : List Value} {d : Nat} {P : Value → List (Addr × Obj) → Prop} {X : Int → Prop} {A₀ : Around} {m : Str → Option Value} {env : Env} {Q E : Value → Shared → Prop}

theorem use_conK (C : Con w mean mg mb f args foot d P X) (B : Below A₀ base outer h₀) (F : Fr h₀ L s.heap m) (N : News h₀ L s.heap news) (XB : (hd0.heap_1 w.params).In base) (TB : Top viewQ LO mean mg mb base)
    (hf : env.frame = some L) (hke : env.scope.kind = .function) (hd' : dp + d < recursionLimit) (hu : un + 10 * d < cLine) (s1 : ∀ p ∈ foot, p ∈ news) (s2 : ∀ q ∈ rest, q ∈ news) (s3 : ∀ q ∈ rest, ∀ p ∈ foot, p.1 ≠ q.1) (s4 : pairNe foot)
    (hret : ∀ r h' tk' news', P r news' → Fr h₀ L h' m → News h₀ L h' (news' ++ rest) → pairNe news' → (∀ p ∈ news', ∀ q ∈ rest, p.1 ≠ q.1) → Q r { s with heap := h', toks := tk' })
    (hexn : ∀ G e D k h' tk', Fr h₀ L G m → News h₀ L G rest → Raised w base G (env :: outer) e D k h' → G.UpToSlots h' → X k → E (.ref e) { s with heap := h', toks := tk' }) :
    wpAny (model prog w) (aro dp un gd (env :: outer)) (call (.ref f) args) Q E s := by
  have Nf : News h₀ L s.heap foot := fun p hp => N p (s1 p hp)
  refine hideG ?_; intro g9; obtain ⟨FG, BG, st, _⟩ := groundX (R := fun _ _ => True) (A := aro dp un gd (env :: outer)) B F Nf rfl hf hke; k_unfold
  have rin : ∀ q ∈ rest, (hideAll s.heap (foot.map (·.1))).get? q.1 = some q.2 := fun q hq => hideAll_get _ (N q (s2 q hq)).1 fun hm => by
    obtain ⟨p, hp, e⟩ := List.mem_map.mp hm
    exact s3 q hq p hp e
  refine C prog dp un gd base (env :: outer) _ s Q E ⟨BG, XB, TB, fun b o e => of_hideAll _ e, Nat.le_of_eq (hideAll_size _ _), fun p hp => ⟨(Nf p hp).1, hideAll_none _ (List.mem_map_of_mem hp)⟩, s4⟩ hd' hu ?_ ?_
  · intro r h' tk' news' hst hN hnd hP
    refine hideG ?_; intro g9; obtain ⟨oL, es, ep, hL, hLd, hLk, hLf⟩ := FG.ns; k_unfold
    refine hret r h' tk' news' hP ⟨⟨oL, es, ep, hst L oL hL, hLd, hLk, hLf⟩, fun b o e => hst b o (st b o e), F.above⟩ (fun p hp => ?_) hnd (fun p hp q hq e => ?_)
    · rcases List.mem_append.mp hp with hp | hp
      · refine ⟨(hN p hp).1, fun q => ?_, ?_⟩
        · have := (hN p hp).2; rw [q, hL] at this; cases this
        · cases q : h₀.get? p.1 with
          | none => rfl
          | some o => have := (hN p hp).2; rw [st _ _ q] at this; cases this
      · exact ⟨hst _ _ (rin p hp), (N p (s2 p hp)).2⟩
    · have := (hN p hp).2
      rw [e, rin q hq] at this; cases this
  · intro e D k h' tk' R U hX
    exact hexn _ e D k h' tk' FG (fun q hq => ⟨rin q hq, (N q (s2 q hq)).2⟩) R U hX
theorem use_con2 (C : Con w mean mg mb f args foot d P X) (B : Below A₀ base outer h₀) (F : Fr h₀ L s.heap m) (N : News h₀ L s.heap news) (XB : (hd0.heap_1 w.params).In base) (TB : Top viewQ LO mean mg mb base)
    (hf : env.frame = some L) (hke : env.scope.kind = .function) (hd' : dp + d < recursionLimit) (hu : un + 10 * d < cLine) (hS : SelD foot news rest)
    (hret : ∀ r h' tk' news', P r news' → Fr h₀ L h' m → News h₀ L h' (news' ++ rest) → pairNe (news' ++ rest) → Q r { s with heap := h', toks := tk' })
    (hexn : ∀ G e D k h' tk', Fr h₀ L G m → News h₀ L G rest → Raised w base G (env :: outer) e D k h' → G.UpToSlots h' → X k → E (.ref e) { s with heap := h', toks := tk' }) :
    wpAny (model prog w) (aro dp un gd (env :: outer)) (call (.ref f) args) Q E s := use_conK C B F N XB TB hf hke hd' hu hS.mem.1 hS.mem.2.1 hS.mem.2.2.1 hS.mem.2.2.2.1 (fun r h' tk' n hP F N d a => hret r h' tk' n hP F N (pnApp.mpr ⟨d, hS.mem.2.2.2.2, a⟩)) hexn
theorem use_con (C : Con w mean mg mb f args foot d P X) (B : Below A₀ base outer h₀) (F : Fr h₀ L s.heap m) (N : News h₀ L s.heap news) (XB : (hd0.heap_1 w.params).In base) (TB : Top viewQ LO mean mg mb base)
    (hf : env.frame = some L) (hke : env.scope.kind = .function) (hd' : dp + d < recursionLimit) (hu : un + 10 * d < cLine) (hS : SelD foot news rest)
    (hret : ∀ r h' tk' news', P r news' → Fr h₀ L h' m → News h₀ L h' (news' ++ rest) → pairNe (news' ++ rest) → Q r { s with heap := h', toks := tk' })
    (hexn : ∀ G e D k h' tk', Fr h₀ L G m → Raised w base G (env :: outer) e D k h' → G.UpToSlots h' → X k → E (.ref e) { s with heap := h', toks := tk' }) :
    wpAny (model prog w) (aro dp un gd (env :: outer)) (call (.ref f) args) Q E s := use_con2 C B F N XB TB hf hke hd' hu hS hret (fun G e D k h' tk' a _ b c d => hexn G e D k h' tk' a b c d)
theorem use_conD (F : Fr h₀ L s.heap m) (B : Below A₀ base outer h₀) (N : News h₀ L s.heap news) (XB : (hd0.heap_1 w.params).In base) (TB : Top viewQ LO mean mg mb base) (hf : env.frame = some L) (hke : env.scope.kind = .function) (hS : SelD foot news rest) (C : Con w mean mg mb f args foot d P X) (hd' : dp + d < recursionLimit) (hu : un + 10 * d < cLine) (hret : ∀ r h' tk' news', P r news' → Fr h₀ L h' m → News h₀ L h' (news' ++ rest) → pairNe (news' ++ rest) → Q r { s with heap := h', toks := tk' }) (hexn : ∀ G e D k h' tk', Fr h₀ L G m → Raised w base G (env :: outer) e D k h' → G.UpToSlots h' → X k → E (.ref e) { s with heap := h', toks := tk' })
    :
    wpAny (model prog w) (aro dp un gd (env :: outer)) (call (.ref f) args) Q E s := use_con C B F N XB TB hf hke hd' hu hS hret hexn
@[reducible] noncomputable def ConGoal (h₀ : Heap) (L : Addr) (m : Str → Option Value) (rest : List (Addr × Obj)) (Q : Value → Shared → Prop) (s : Shared) (r : Value) (n : List (Addr × Obj)) : Prop := ∀ h' tk', Fr h₀ L h' m → News h₀ L h' (n ++ rest) → pairNe (n ++ rest) → Q r { s with heap := h', toks := tk' }
@[reducible] noncomputable def ConGoal0 (h₀ : Heap) (L : Addr) (m : Str → Option Value) (rest : List (Addr × Obj)) (Q : Value → Shared → Prop) (s : Shared) (r : Value) (n : List (Addr × Obj)) : Prop := ∀ h' tk', Fr h₀ L h' m → News h₀ L h' (n ++ rest) → Q r { s with heap := h', toks := tk' }
noncomputable def subRN {r v : Value} {n n0 : List (Addr × Obj)} {C : Value → List (Addr × Obj) → Prop} (hv : r = v) (hn : n = n0) (k : C v n0) : C r n := by subst hv; subst hn; exact k
noncomputable def subN {n n0 : List (Addr × Obj)} {C : List (Addr × Obj) → Prop} (hn : n = n0) (k : C n0) : C n := by subst hn; exact k
theorem use_con2C (C : Con w mean mg mb f args foot d P X) (B : Below A₀ base outer h₀) (F : Fr h₀ L s.heap m) (N : News h₀ L s.heap news) (XB : (hd0.heap_1 w.params).In base) (TB : Top viewQ LO mean mg mb base)
    (hf : env.frame = some L) (hke : env.scope.kind = .function) (hd' : dp + d < recursionLimit) (hu : un + 10 * d < cLine) (hS : SelD foot news rest)
    (hret : ∀ r n, P r n → ConGoal h₀ L m rest Q s r n)
    (hexn : ∀ G e D k h' tk', Fr h₀ L G m → News h₀ L G rest → Raised w base G (env :: outer) e D k h' → G.UpToSlots h' → X k → E (.ref e) { s with heap := h', toks := tk' }) :
    wpAny (model prog w) (aro dp un gd (env :: outer)) (call (.ref f) args) Q E s := use_con2 C B F N XB TB hf hke hd' hu hS (fun r h' tk' n hP F N d => hret r n hP h' tk' F N d) hexn
theorem use_con2CD (F : Fr h₀ L s.heap m) (B : Below A₀ base outer h₀) (N : News h₀ L s.heap news) (XB : (hd0.heap_1 w.params).In base) (TB : Top viewQ LO mean mg mb base) (hf : env.frame = some L) (hke : env.scope.kind = .function) (hS : SelD foot news rest) (C : Con w mean mg mb f args foot d P X) (hd' : dp + d < recursionLimit) (hu : un + 10 * d < cLine) (hret : ∀ r n, P r n → ConGoal h₀ L m rest Q s r n) (hexn : ∀ G e D k h' tk', Fr h₀ L G m → News h₀ L G rest → Raised w base G (env :: outer) e D k h' → G.UpToSlots h' → X k → E (.ref e) { s with heap := h', toks := tk' })
    :
    wpAny (model prog w) (aro dp un gd (env :: outer)) (call (.ref f) args) Q E s := use_con2C C B F N XB TB hf hke hd' hu hS hret hexn
theorem use_conC (C : Con w mean mg mb f args foot d P X) (B : Below A₀ base outer h₀) (F : Fr h₀ L s.heap m) (N : News h₀ L s.heap news) (XB : (hd0.heap_1 w.params).In base) (TB : Top viewQ LO mean mg mb base)
    (hf : env.frame = some L) (hke : env.scope.kind = .function) (hd' : dp + d < recursionLimit) (hu : un + 10 * d < cLine) (hS : SelD foot news rest)
    (hret : ∀ r n, P r n → ConGoal h₀ L m rest Q s r n)
    (hexn : ∀ G e D k h' tk', Fr h₀ L G m → Raised w base G (env :: outer) e D k h' → G.UpToSlots h' → X k → E (.ref e) { s with heap := h', toks := tk' }) :
    wpAny (model prog w) (aro dp un gd (env :: outer)) (call (.ref f) args) Q E s := use_con C B F N XB TB hf hke hd' hu hS (fun r h' tk' n hP F N d => hret r n hP h' tk' F N d) hexn
theorem use_con02C (F : Fr h₀ L s.heap m) (B : Below A₀ base outer h₀) (N : News h₀ L s.heap news) (XB : (hd0.heap_1 w.params).In base) (TB : Top viewQ LO mean mg mb base)
    (hf : env.frame = some L) (hke : env.scope.kind = .function) (C : Con w mean mg mb f args [] d P X) (hd' : dp + d < recursionLimit) (hu : un + 10 * d < cLine)
    (hret : ∀ r n, P r n → ConGoal0 h₀ L m news Q s r n)
    (hexn : ∀ G e D k h' tk', Fr h₀ L G m → News h₀ L G news → Raised w base G (env :: outer) e D k h' → G.UpToSlots h' → X k → E (.ref e) { s with heap := h', toks := tk' }) :
    wpAny (model prog w) (aro dp un gd (env :: outer)) (call (.ref f) args) Q E s := use_conK (foot := []) (rest := news) C B F N XB TB hf hke hd' hu (fun _ h => (nomatch h)) (fun _ h => h) (fun _ _ _ h => (nomatch h)) trivial (fun r h' tk' n hP F N _ _ => hret r n hP h' tk' F N) hexn
theorem use_con0C (F : Fr h₀ L s.heap m) (B : Below A₀ base outer h₀) (N : News h₀ L s.heap news) (XB : (hd0.heap_1 w.params).In base) (TB : Top viewQ LO mean mg mb base)
    (hf : env.frame = some L) (hke : env.scope.kind = .function) (C : Con w mean mg mb f args [] d P X) (hd' : dp + d < recursionLimit) (hu : un + 10 * d < cLine)
    (hret : ∀ r n, P r n → ConGoal0 h₀ L m news Q s r n)
    (hexn : ∀ G e D k h' tk', Fr h₀ L G m → Raised w base G (env :: outer) e D k h' → G.UpToSlots h' → X k → E (.ref e) { s with heap := h', toks := tk' }) :
    wpAny (model prog w) (aro dp un gd (env :: outer)) (call (.ref f) args) Q E s := use_con02C F B N XB TB hf hke C hd' hu hret (fun G e D k h' tk' a _ b c d => hexn G e D k h' tk' a b c d)
end

end
section -- X3
noncomputable abbrev excO (dd : Option Addr) (t : Addr) : Obj := { cls := .ref 166, dict := dd, data := .fields #[.ref t, .none, .none, .none, .bool false, .none] }

section
variable {prog : Program} {w : World} {A : Around} {E : Value → Shared → Prop} {s : Shared} {h₀ : Heap} {L e t0 : Addr} {m : Str → Option Value} {x : Str} {t u : Tok} {v : Value}

theorem bad_cls {h : Heap} (X : (hd0.heap_1 w.params).In h) : ∃ nm q bs hdct sn sub ab col dd k0 k1 k2 k3 k5,
    h.get? 166 = some (excClassObj nm q 166 165 bs [.type "Exception", .type "BaseException", .type "object"] hdct sn sub ab col dd k0 k1 k2 k3 k5 "Exception.__new__") := by
  have q := X 166 _ (by k_is)
  exact ⟨_, _, _, _, _, _, _, _, _, _, _, _, _, _, q⟩

theorem exc_init_call (F : Fr h₀ L s.heap m) (N : News h₀ L s.heap [(e, excO none t0)]) (X : (hd0.heap_1 w.params).In h₀) {Q : Value → Shared → Prop}
    (h : ∀ h' t1, Fr h₀ L h' m → News h₀ L h' [(e, excO none t1)] → Q .none { s with heap := h' }) :
    wpAny (model prog w) A (call (.builtin "Exception.__init__") [.ref e, .str x t]) Q E s := by
  refine' (?zf : Scr _) ?zq _ ?zs
  case zq =>
    refine hideG ?_; intro g9; obtain ⟨hp, g, d, tk, os⟩ := s; k_unfold
    have he := (N _ (.head _)).1
    refine hideG ?_; intro g9; obtain ⟨nm, q, bs, hdct, sn, sub, ab, col, dd, k0, k1, k2, k3, k5, hC⟩ := bad_cls (X.keeps F.keep); k_unfold
    refine wpAny_call (codeAny_call_builtin PySem.F.excBase_Exception.init.plain PySem.F.excBase_Exception.initEntry (wpAny_check_init_sub PySem.F.excBase_Exception hC he rfl ?_))
    unfold Builtin.«BaseException.__init__»
    dsimp only
    rw [if_neg (by simp)]
    unfold newTuple Builtin.BaseException.bexcPut
    have he₁ := Heap.get?_push_of_some (h := hp) { cls := .type "tuple", data := .seq [Value.str x t].toArray } he
    refine wpAny_bind (wpAny_newObj_type (wpAny_bind (wpAny_bind (wpAny_field he₁ rfl (x := .ref t0) rfl (wpAny_bind (wpAny_setField he₁ rfl (by simp) ?_))))) (by show [Value.str x t].toArray.size ≤ sizeLine; simp [sizeLine_eq]))
    refine wpAny_letGo (wpAny_pure (h _ hp.objs.size ?_ ?_))
    · exact (news_upd (pre := []) (post := []) (o' := excO none hp.objs.size) (F.push _) (fun p hp' => by
        rcases List.mem_cons.mp hp' with rfl | hp'
        · exact ⟨he₁, (N _ (.head _)).2⟩
        · cases hp') (by simp) (by simp) (by rfl) rfl).1
    · exact (news_upd (pre := []) (post := []) (o' := excO none hp.objs.size) (F.push _) (fun p hp' => by
        rcases List.mem_cons.mp hp' with rfl | hp'
        · exact ⟨he₁, (N _ (.head _)).2⟩
        · cases hp') (by simp) (by simp) (by rfl) rfl).2
  case zs => show LetQ _ ?zq _; (try delta id foldQ letS2 letS hideG foldN subRN subN ltCut letAE nameRet); exact LetQ.refl
  case zf => intro _ r _; exact r

theorem bad_refuse (self : Value) : refuseLoop self "__setattr__" [.ref 166, .type "Exception", .type "BaseException", .type "object"] = pure () := by
  rw [refuseLoop_ref]
  kernel_rfl

theorem bad_osa {v : Value} {tk : Tok} {R : Result → Shared → Prop} {ox : Obj} {od : Option Obj} (X : (hd0.heap_1 w.params).In s.heap) (I : InstAt s.heap e ox 166 od)
    (h : ∀ b, wpAny (model prog w) A.in1 (Builtin.ObjectAttr.storeInOwnDict (.ref e) (.ref 166) (.str (Str.ofString "at") tk) (Str.ofString "at") v b)
      (fun fin s' => match fin with | .done f => R (.ok f) s' | .again c' => c'.quiet = true ∧ codeAny (model prog w) A c' R s') (fun e s' => R (.error e) s') s) :
    codeAny (model prog w) A (.call (.builtin "object.__setattr__") ⟨[.ref e, .str (Str.ofString "at") tk, v], []⟩) R s := by
  have SF := PySem.F.store_object
  obtain ⟨cd, hc, hm⟩ : ∃ cd, clsIn (hd0.heap_1 w.params) 166 = some cd ∧ cd.mro = [.ref 166, .type "Exception", .type "BaseException", .type "object"] := ⟨_, by k_is, by rfl⟩
  have ne : cd.mro.isEmpty = false := by rw [hm]; rfl
  have hcon : cd.mro.contains (.type "object") = true := by rw [hm]; decide +kernel
  have sub : Looks (model prog w) s.heap (isInstance (.ref e) (.type "object")) true := I.type.andThen (looks_mroIn X (by unfold mroIn; rw [hc, Option.bind_some, if_neg (by rw [ne]; decide), hcon]))
  refine codeAny_call_builtin SF.slot.plain SF.entry (@check_slot (model prog w) _ _ s "object.__setattr__" "object" "__setattr__" (.ref e) [.str (Str.ofString "at") tk, v] [] _ SF.kind SF.split sub (SF.args (.ref e) (.str (Str.ofString "at") tk) v) ?_)
  have hl : Looks (model prog w) s.heap (mroOf (.ref 166)) cd.mro := (looks_clsIn X hc).andThen .now
  have ha : findIn (hd0.heap_1 w.params) (.ref 166) (Str.ofString "at") = some none := by k_is
  rw [osa_eq, refuse_eq]
  refine wpAny_bind (wpAny_bind (I.type.here (wpAny_bind (hl.here ?_))))
  rw [hm, bad_refuse]
  refine wpAny_pure (wpAny_bind (I.type.here (wpAny_bind ((looks_findIn X ha).here (wpAny_bind (Looks.here (Looks.now) ?_))))))
  exact h _

theorem bad_first {k : Int} (F : Fr h₀ L s.heap m) (N : News h₀ L s.heap [(e, excO none t0)]) (X : (hd0.heap_1 w.params).In h₀) {Q : Unit → Shared → Prop}
    (h : ∀ h' tk D u, Fr h₀ L h' m → News h₀ L h' [(e, excO (some D) t0), (D, dictOf (atEnt w k u) 1)] → Q () { s with heap := h', toks := tk }) :
    wpAny (model prog w) A (setAttr (.ref e) (Str.ofString "at") (.int k t)) Q E s := by
  refine' (?zf : Scr _) ?zq _ ?zs
  case zq =>
    have Xs := X.keeps F.keep
    have he := (N _ (.head _)).1
    have I : InstAt s.heap e (excO none t0) 166 none := ⟨he, rfl, rfl, trivial⟩
    refine set_plain (K := hd0.heap_1 w.params) Xs I (by k_is) ?_
    refine bad_osa (s := { s with toks := s.toks + 1 }) Xs I fun b => ?_
    obtain ⟨cd, hc, hd'⟩ : ∃ cd, clsIn (hd0.heap_1 w.params) 166 = some cd ∧ cd.hasDict = true := ⟨_, by k_is, by rfl⟩
    unfold Builtin.ObjectAttr.storeInOwnDict
    refine wpAny_bind (wpAny_pure (wpAny_bind (wpAny_bind (wpAny_loadPart he (wpAny_bind (looks_clsIn Xs hc _ _ _ _ (fun _ _ z => z) ?_))))))
    rw [hd']
    have eL : e ≠ L := (N _ (.head _)).2.1
    have e0 : h₀.get? e = none := (N _ (.head _)).2.2
    have hD := Heap.get?_push_size s.heap (o := ({ cls := .type "dict", data := .dict #[] } : Obj)) rfl
    have he₁ := Heap.get?_push_of_some (h := s.heap) ({ cls := .type "dict", data := .dict #[] } : Obj) he
    have F₁ := F.push ({ cls := .type "dict", data := .dict #[] } : Obj)
    have N₁ : News h₀ L (s.heap.push ({ cls := .type "dict", data := .dict #[] } : Obj)) ([] ++ (e, excO none t0) :: [(s.heap.objs.size, dictOf [] 0)]) := fun p hp => by
      have N' := News.push F N ({ cls := .type "dict", data := .dict #[] } : Obj)
      rcases List.mem_cons.mp hp with rfl | hp
      · exact N' _ (.tail _ (.head _))
      · exact N' _ (List.mem_singleton.mp hp ▸ .head _)
    have Dne : s.heap.objs.size ≠ e := Nat.ne_of_gt (Heap.lt_size he)
    refine wpAny_bind (wpAny_alloc (wpAny_bind (wpAny_update he₁ (wpAny_bind (wpAny_pure (wpAny_pure ?_))))))
    obtain ⟨F₂, N₂⟩ := news_upd (pre := []) (o' := excO (some s.heap.objs.size) t0) (f := fun o => { o with dict := some s.heap.objs.size }) F₁ N₁ (by simp) (by simpa using Dne) rfl rfl
    unfold Builtin.ObjectAttr.storeInDict
    refine wpAny_bind (wpAny_pure (wpAny_bind ?_))
    unfold nsSet
    refine wpAny_bind (wpAny_bind (wpAny_askSetting (wpAny_pure (wpAny_bind (wpAny_mkText (wpAny_bind (wpAny_loadPart (N₂ _ (.tail _ (.head _))).1 ?_)))))))
    have c : aRefKeyMayBeTheName (Str.ofString "at") #[] = false := by rw [aRefKeyMayBeTheName_at]; simp
    dsimp only
    rw [c]
    refine wpAny_updatePart (N₂ _ (.tail _ (.head _))).1 ?_
    obtain ⟨F₃, N₃⟩ := news_upd (pre := [(e, excO (some s.heap.objs.size) t0)]) (post := []) (d := s.heap.objs.size) (o := dictOf [] 0)
      (o' := dictOf (atEnt w k (s.toks + 1, t)) 1) (f := Obj.putName (Str.ofString "at") (PyData.keyHash w.params (Str.ofString "at")) (.str (Str.ofString "at") (s.toks + 1)) (.int k t)) F₂ N₂ (by simpa using fun z => Dne z.symm) (by simp) (by rw [putName_dict]; rfl) rfl
    refine wpAny_bind (wpAny_lookBehind (N₃ _ (.tail _ (.head _))).1 (pastItsLine_dict (by simp [atEnt, sizeLine_eq])) ?_)
    exact wpAny_pure (h _ _ _ _ F₃ N₃)
  case zs => show LetQ _ ?zq _; (try delta id foldQ letS2 letS hideG foldN subRN subN ltCut letAE nameRet); exact LetQ.refl
  case zf => intro _ r _; exact r
end

theorem wd_1 : True := by
  (k_with "W45" => ((k_dflt (refine' exc_init_call (by k_asm) (by k_asm) (by k_asm) ?_); intro h' t1 F' N'; (try k_sweep))))
  (k_with "call builtin:Exception.__init__" => ((fail_if_success (k_extra "offX3")); k_extra "W45"))
  (k_with "W46" => ((k_dflt (refine' bad_first (by k_asm) (by k_asm) (by k_asm) ?_); intro h' tk' D' u' F' N'; (try k_sweep))))
  (k_with "setAttr ref int" => ((fail_if_success (k_extra "offX3")); k_extra "W46"))
  trivial
theorem excPair {g h : Heap} {e D t1 : Addr} {d : Option Addr} {es : List DictEntry} {n : Nat} (N : NewsG g h [(e, excO d t1), (D, dictOf es n)]) : pairNe [(e, excO d t1), (D, dictOf es n)] :=
  And.intro (And.intro (fun q => by
    have h1 := (N _ (.head _)).1
    have h2 := (N _ (.tail _ (.head _))).1
    dsimp only at h1 h2 q
    rw [q, h1] at h2
    exact absurd (congrArg (fun o => o.map Obj.cls) h2) (by intro z; cases z)) trivial) (And.intro trivial trivial)
theorem c_badinit {w : World} {mean : ExcName → Option Value} {mg mb : Str → Option Value} {e t0 : Addr} {k : Int} {t : Tok} :
    Con w mean mg mb 163 [.ref e, .int k t] [(e, excO none t0)] 3 (fun r news' => r = .none ∧ ∃ D t1 u, news' = [(e, excO (some D) t1), (D, dictOf (atEnt w k u) 1)]) (fun _ => False) := by
  refine' (?zf : Scr _) ?zq _ ?zs
  case zq =>
    intro prog dp un gd base frs g s Q E S hdp hun hret hexn; refine nameRet hret ?_; clear hret; intro P9 hret
    k_extra "m_enter"
    k_steps
    exact hret _ _ _ _ (by assumption) (by assumption) (excPair (by assumption)) ⟨rfl, _, _, _, rfl⟩
  case zs => show LetQ _ ?zq _; (try delta id foldQ letS2 letS hideG foldN subRN subN ltCut letAE nameRet); exact LetQ.refl
  case zf => intro _ r _; exact r

section
variable {prog : Program} {w : World} {mean : ExcName → Option Value} {mg mb : Str → Option Value} {dp un : Nat} {gd : Option (List Code)} {base h₀ : Heap} {outer : List Env} {s : Shared} {news : List (Addr × Obj)}
  {L : Addr} {A₀ : Around} {m : Str → Option Value} {env : Env} {E : Value → Shared → Prop} {k : Int} {t : Tok}

theorem ns_some_of {K : Frag} {h : Heap} {N : Addr} {mN : Str → Option Value} {n : Str} {v : Value} (X : K.In h) (G : h.Ns N mN) (e : nsIn K N n = some (some v)) : mN n = some v := by
  refine' (?zf : Scr _) ?zq _ ?zs
  case zq =>
    refine hideG ?_; intro g9; obtain ⟨o, es, ep, ho, hd, _, hf⟩ := G; k_unfold
    unfold nsIn at e
    split at e
    · rename_i c d es' n' sl q
      have := X _ _ q
      rw [ho] at this
      cases this
      cases hd
      split at e
      · rename_i en he
        cases e
        rw [← hf]
        unfold nsFind findBy
        rw [← Array.find?_toList, he]
        rfl
      · split at e <;> cases e
    · cases e
  case zs => show LetQ _ ?zq _; (try delta id foldQ letS2 letS hideG foldN subRN subN ltCut letAE nameRet); exact LetQ.refl
  case zf => intro _ r _; exact r
/-- BadListing(k) is made -/
theorem make_bad {Q : Value → Shared → Prop} (B : Below A₀ base outer h₀) (F : Fr h₀ L s.heap m) (N : News h₀ L s.heap news) (XB : (hd0.heap_1 w.params).In base) (TB : Top viewQ LO mean mg mb base)
    (hf : env.frame = some L) (hke : env.scope.kind = .function) (hd' : dp + 10 < recursionLimit) (hu : un + 80 < cLine)
    (h : ∀ h' tk e D t1 u, Fr h₀ L h' m → News h₀ L h' [(e, excO (some D) t1), (D, dictOf (atEnt w k u) 1)] → Q (.ref e) { s with heap := h', toks := tk }) :
    wpAny (model prog w) (aro dp un gd (env :: outer)) (call (.ref 166) [.int k t]) Q E s := by
  refine' (?zf : Scr _) ?zq _ ?zs
  case zq =>
    refine hideG ?_; intro g9; obtain ⟨hp, gs, d, tk, os⟩ := s; k_unfold
    have Xs : (hd0.heap_1 w.params).In hp := (XB.keeps B.stays).keeps F.keep
    refine hideG ?_; intro g9; obtain ⟨nm, q, bs, hdct, sn, sub, ab, col, dd, k0, k1, k2, k3, k5, hC⟩ := bad_cls Xs; k_unfold
    have hn : hp.Ns 165 (hp.nsMap 165) := .of_isNs (isNs_of_in Xs (by kernel_rfl : nsOkIn (hd0.heap_1 w.params) 165 = true))
    have hi : hp.nsMap 165 "__init__" = some (.ref 163) := ns_some_of Xs hn (by k_is)
    obtain ⟨oI, hfI, hfc⟩ : ∃ oI, hp.get? 163 = some oI ∧ oI.cls = .type "function" := ⟨_, Xs 163 _ (by k_is), by rfl⟩
    refine wpAny_call_exc_init PySem.F.excBase_Exception hC hn hi hfI hfc fun h' e hm => ?_
    refine hideG ?_; intro g9; obtain ⟨t0, he, ht, hte⟩ := hm.there; k_unfold
    have F' : Fr h₀ L h' m := F.keeps hm.keeps
    have N' : News h₀ L h' [(e, excO none t0)] := fun p hp' => by
      rw [List.mem_singleton.mp hp']
      refine ⟨he, fun z => ?_, ?_⟩
      · have := hm.new; obtain ⟨oL, _, _, hL, _⟩ := F.ns; rw [show e = L from z, hL] at this; cases this
      · cases z : h₀.get? e with
        | none => rfl
        | some o => have := F.keep _ _ z; have q := hm.new; rw [this] at q; cases q
    have C := use_con (prog := prog) (s := ⟨h', gs, d, tk, os⟩) (dp := dp + 1) (un := un + 1) (gd := gd) (E := E) (Q := fun r s' => r = .none ∧ Q (.ref e) s') (c_badinit (w := w) (mean := mean) (mg := mg) (mb := mb) (e := e) (t0 := t0) (k := k) (t := t)) B F' N' XB TB hf hke (by omega) (by omega) ⟨.refl _, And.intro trivial trivial⟩
      (fun r h₂ tk' news' hP F₂ N₂ _ => ⟨hP.1, by obtain ⟨_, D, t1, u, rfl⟩ := hP; exact h h₂ tk' e D t1 u F₂ N₂⟩) (fun _ _ _ _ _ _ _ _ _ z => z.elim)
    exact C
  case zs => show LetQ _ ?zq _; (try delta id foldQ letS2 letS hideG foldN subRN subN ltCut letAE nameRet); exact LetQ.refl
  case zf => intro _ r _; exact r
end

theorem wd_2 : True := by
  (k_with "offX3" => (skip))
  trivial
end
section -- X4
/-- behind the making of what a raise raises -/
noncomputable def RBPost (w : World) (E : Value → Shared → Prop) (v : Value) (s : Shared) : Prop :=
  ∃ e D t, v = .ref e ∧ (hd0.heap_1 w.params).In s.heap ∧ s.heap.get? e = some (excO (some D) t) ∧ E (.ref e) s
theorem rb_intro {w : World} {E : Value → Shared → Prop} {s : Shared} {h₀ : Heap} {L e D t : Addr} {m : Str → Option Value} {news : List (Addr × Obj)} (F : Fr h₀ L s.heap m) (N : News h₀ L s.heap ((e, excO (some D) t) :: news)) (X : (hd0.heap_1 w.params).In h₀)
    (h : E (.ref e) s) : RBPost w E (.ref e) s := ⟨e, D, t, rfl, X.keeps F.keep, (N _ (.head _)).1, h⟩

section
variable {M : Model} {w : World} {A : Around} {E : Value → Shared → Prop} {s : Shared} {env : Env}
theorem raise_stmt {x : Sem Value} {Q : Flow → Shared → Prop} (hh : A.handled = none) (h : wpAny M A x (RBPost w E) E s) : wpAny M A (raiseStmt env (some x) none) Q E s := by
  refine' (?zf : Scr _) ?zq _ ?zs
  case zq =>
    unfold raiseStmt
    refine wpAny_bind (wpAny_mono h (fun v s₁ h₁ => ?_) fun _ _ x => x)
    refine hideG ?_; intro g9; obtain ⟨e, D, t, e91, X, he, hE⟩ := h₁; k_unfold; subst e91
    refine hideG ?_; intro g9; obtain ⟨nm, q, bs, hdct, sn, sub, ab, col, dd, k0, k1, k2, k3, k5, hC⟩ := bad_cls X; k_unfold
    have hcB : (Value.ref 166 :: [Value.type "Exception", .type "BaseException", .type "object"]).contains (.type "BaseException") = true := by decide +kernel
    refine hideG ?_; intro g9; obtain ⟨hp, g, d, tk, os⟩ := s₁; k_unfold
    repeat (first | with_reducible refine wpAny_loadPart_at he ?_ | with_reducible refine wpAny_loadPart_at hC ?_ | (with_reducible refine wpAny_isSubtype_exc hC ?_; rw [hcB]) | wp_step)
    exact wpAny_raiseNew_none hh hE
  case zs => show LetQ _ ?zq _; (try delta id foldQ letS2 letS hideG foldN subRN subN ltCut letAE nameRet); exact LetQ.refl
  case zf => intro _ r _; exact r

theorem raise_any {exc : Expr} {pos : Pos} {g : Heap} {Q : Flow → Shared → Prop} (_X : (hd0.heap_1 w.params).In g) (hh : A.handled = none) (h : wpAny M A (eval exc env) (RBPost w E) E s) : wpAny M A (exec (.Raise (some exc) none pos) env) Q E s := by
  rw [arm_exec_Raise]
  refine wpAny_bind (wpAny_standAt (raise_stmt (w := w) hh ?_))
  exact wpAny_bind (wpAny_mono h (fun v s₁ h₁ => wpAny_bind (wpAny_standAt (wpAny_pure h₁))) fun _ _ x => x)

/-- the made exception leaves its frame -/
theorem leave_made {base g : Heap} {outer : List Env} {L e D t : Addr} {k : Int} {u : Tok × Tok} {m : Str → Option Value} {Q : Unit → Shared → Prop} (K : Below A base outer g) (F : Fr g L s.heap m) (N : News g L s.heap [(e, excO (some D) t), (D, dictOf (atEnt w k u) 1)])
    (hf : env.frame = some L) (hk : env.scope.kind = .function)
    (hQ : ∀ h', Raised w base g outer e D k h' → g.UpToSlots h' → Q () { s with heap := h' }) : wpAny M (A.deeper env) (leaving env (.ref e)) Q E s :=
  leave_first (vs := #[.ref t, .none, .none, .none, .bool false, .none]) (oe := excO (some D) t) K hf hk F (fun p hp => N p (.tail _ hp)) rfl (N _ (.head _)).1 (N _ (.head _)).2.2 ⟨rfl, rfl⟩ rfl rfl hQ
end

end
section -- Y1
theorem pickFrom {vs : List Value} {x : Int} (h : 0 ≤ x) : (slicePick vs.toArray (some x) none none).toList = vs.drop x.toNat := by
  have e : sliceBounds (some x) none none vs.toArray.size = (((min x.toNat vs.toArray.size : Nat) : Int), ((vs.toArray.size : Nat) : Int), 1) := by
    simp only [sliceBounds, Option.getD_none, show (1 : Int) > 0 by decide, if_true, if_neg (Int.not_lt.mpr h)]
    exact congrArg (fun z => (z, _)) (omq h)
  rw [kmk_pick_nat _ e]
  show (vs.drop (min x.toNat vs.toArray.size)).take (vs.toArray.size - min x.toNat vs.toArray.size) = _
  rw [List.size_toArray, kmk_drop_min, List.take_of_length_le (by rw [List.length_drop]; exact Nat.sub_le_sub_left (Nat.min_le_left _ _) _)]
theorem pickUpto {vs : List Value} {y : Int} (h : 0 ≤ y) : (slicePick vs.toArray none (some y) none).toList = vs.take y.toNat := by
  have e : sliceBounds none (some y) none vs.toArray.size = (((0 : Nat) : Int), ((min y.toNat vs.toArray.size : Nat) : Int), 1) := by
    simp only [sliceBounds, Option.getD_none, show (1 : Int) > 0 by decide, if_true, if_neg (Int.not_lt.mpr h)]
    exact congrArg (fun z => (_, z, _)) (omq h)
  rw [kmk_pick_nat _ e]
  show (vs.drop 0).take (min y.toNat vs.toArray.size - 0) = _
  rw [List.drop_zero, Nat.sub_zero, List.size_toArray, kmk_take_min]
noncomputable abbrev LtA (a b : Nat) : Prop := a < b
/-- the sizes -/
noncomputable def Rows (ls : List (Str × Tok)) : Prop := ls.length ≤ 1000 ∧ ∀ p ∈ ls, p.1.length ≤ 900
theorem Rows.at {ls : List (Str × Tok)} {i : Nat} {p : Str × Tok} (h : Rows ls) (e : ls[i]? = some p) : p.1.length ≤ 900 := h.2 _ (List.mem_of_getElem? e)
theorem Rows.sub {ls ls' : List (Str × Tok)} (h : Rows ls) (hl : ls'.length ≤ ls.length) (hs : ∀ p ∈ ls', p ∈ ls) : Rows ls' := ⟨Nat.le_trans hl h.1, fun p hp => h.2 p (hs p hp)⟩
theorem Rows.drop {ls : List (Str × Tok)} (h : Rows ls) (n : Nat) : Rows (ls.drop n) := h.sub (by simp) fun _ hp => List.mem_of_mem_drop hp
theorem Rows.take {ls : List (Str × Tok)} (h : Rows ls) (n : Nat) : Rows (ls.take n) := h.sub (by simp; omega) fun _ hp => List.mem_of_mem_take hp
theorem Rows.tail {p : Str × Tok} {ls : List (Str × Tok)} (h : Rows (p :: ls)) : Rows ls := h.drop 1
section
variable {prog : Program} {w : World} {A : Around} {E : Value → Shared → Prop} {s : Shared} {h₀ : Heap} {L l : Addr} {news : List (Addr × Obj)} {n : Nat} {vs : List Value} {ls : List (Str × Tok)} {Q : Value → Shared → Prop}
theorem isList_at (N : News h₀ L s.heap news) (hm : (l, W.listOf vs.toArray n) ∈ news) : s.heap.IsList l vs.toArray := ⟨_, (N _ hm).1, rfl, n, rfl⟩
theorem lenStrs (N : News h₀ L s.heap news) (hm : (l, W.listOf (strValues ls).toArray n) ∈ news) (hl : ls.length ≤ 100000)
    (h : Q (.int ls.length (s.toks + 1)) { s with toks := s.toks + 1 + 1 }) : wpAny (model prog w) A (call (.builtin "len") [.ref l]) Q E s := by
  have e : (strValues ls).toArray.size = ls.length := by simp [strValues]
  exact len_list (isList_at N hm) (by rw [e]; omega) (by rw [e]; exact h)
theorem lenVals (N : News h₀ L s.heap news) (hm : (l, W.listOf vs.toArray n) ∈ news) (hl : vs.length ≤ 100000)
    (h : Q (.int vs.length (s.toks + 1)) { s with toks := s.toks + 1 + 1 }) : wpAny (model prog w) A (call (.builtin "len") [.ref l]) Q E s := by
  have e : vs.toArray.size = vs.length := by simp
  exact len_list (isList_at N hm) (by rw [e]; omega) (by rw [e]; exact h)
theorem itemStrs {value slice : Expr} {k : Int} {u : Tok} {x : Str × Tok} (N : News h₀ L s.heap news) (hm : (l, W.listOf (strValues ls).toArray n) ∈ news) (h0 : 0 ≤ k) (hfit : k < 2 ^ 63) (hx : ls[k.toNat]? = some x)
    (h : Q (.str x.1 x.2) s)
    (hs : subscripted slice false (.ref l) (.int k u) = operate [.ref l, .int k u] (getItem (.ref l) (.int k u)) := by with_unfolding_all rfl) (hg : ∀ r, letTemporaryGo value (.ref l) r = pure () := by intro _; with_unfolding_all rfl) :
    wpAny (model prog w) A (subscriptTail value slice (.ref l) (.int k u)) Q E s :=
  item_list (isList_at N hm) h0 hfit (by simp [strValues, hx]) h hs hg
theorem sliceFromStrs {m : Str → Option Value} {value slice : Expr} {x : Int} {u : Tok} (F : Fr h₀ L s.heap m) (N : News h₀ L s.heap news) (hm : (l, W.listOf (strValues ls).toArray n) ∈ news) (hx : 0 ≤ x) (hz : Rows ls)
    (h : ∀ D h', Fr h₀ L h' m → News h₀ L h' ((D, W.listOf (strValues (ls.drop x.toNat)).toArray 0) :: news) → (∀ p ∈ news, p.1 < D) → Rows (ls.drop x.toNat) → Q (.ref D) { s with heap := h' })
    (hs : subscripted slice false (.ref l) (.ref s.heap.objs.size) = operate [.ref s.heap.objs.size, .ref l] (getItem (.ref l) (.ref s.heap.objs.size))) (ht : ∀ r, letTemporaryGo value (.ref l) r = pure ()) :
    wpAny (model prog w) A (subscriptTail value slice (.ref l) (.ref s.heap.objs.size)) Q E { s with heap := s.heap.push { cls := .type "slice", data := .fields #[.int x u, .none, .none] } } :=
  kmk_slice_lit (zs := strValues (ls.drop x.toNat)) F N (isList_at N hm) (.int _ _) .none (by rw [pickFrom hx]; simp [strValues]) (fun D h' F' N' l1 => h D h' F' N' l1 (hz.drop _)) hs ht (by have := hz.1; rw [sizeLine_eq]; simp [strValues]; omega)
theorem sliceUptoStrs {m : Str → Option Value} {value slice : Expr} {x : Int} {u : Tok} (F : Fr h₀ L s.heap m) (N : News h₀ L s.heap news) (hm : (l, W.listOf (strValues ls).toArray n) ∈ news) (hx : 0 ≤ x) (hz : Rows ls)
    (h : ∀ D h', Fr h₀ L h' m → News h₀ L h' ((D, W.listOf (strValues (ls.take x.toNat)).toArray 0) :: news) → (∀ p ∈ news, p.1 < D) → Rows (ls.take x.toNat) → Q (.ref D) { s with heap := h' })
    (hs : subscripted slice false (.ref l) (.ref s.heap.objs.size) = operate [.ref s.heap.objs.size, .ref l] (getItem (.ref l) (.ref s.heap.objs.size))) (ht : ∀ r, letTemporaryGo value (.ref l) r = pure ()) :
    wpAny (model prog w) A (subscriptTail value slice (.ref l) (.ref s.heap.objs.size)) Q E { s with heap := s.heap.push { cls := .type "slice", data := .fields #[.none, .int x u, .none] } } :=
  kmk_slice_lit (zs := strValues (ls.take x.toNat)) F N (isList_at N hm) .none (.int _ _) (by rw [pickUpto hx]; simp [strValues]) (fun D h' F' N' l1 => h D h' F' N' l1 (hz.take _)) hs ht (by have := hz.1; rw [sizeLine_eq]; simp [strValues]; omega)
end
/-- what a ledger's part needs to be given back -/
noncomputable def SubD (l news : List (Addr × Obj)) : Prop := l = [] ∨ ((∀ p ∈ l, p ∈ news) ∧ pairNe l)
theorem SelD.sub {l news rest : List (Addr × Obj)} (x : SelD l news rest) : SubD l news := .inr ⟨x.mem.1, x.mem.2.2.2.1⟩
theorem SubD.nil {news : List (Addr × Obj)} : SubD [] news := .inl rfl
theorem SubD.ne {l news : List (Addr × Obj)} (x : SubD l news) : pairNe l := x.elim (fun e => e ▸ trivial) (·.2)
theorem SubD.mem {l news : List (Addr × Obj)} (x : SubD l news) : ∀ p ∈ l, p ∈ news := x.elim (fun e => e ▸ fun _ h => (nomatch h)) (·.1)
theorem RetS.fin {g : Heap} {s : Shared} {P : Value → List (Addr × Obj) → Prop} {Q : Value → Shared → Prop} (R : RetS g s P Q) {v : Value} {h' : Heap} {tk' : Nat} {news l' : List (Addr × Obj)} (st : g.StaysIn h') (N : NewsG g h' news) (hP : P v l') (hs : SubD l' news) :
    Q v { s with heap := h', toks := tk' } := R v h' tk' l' st (fun p hp => N p (hs.mem p hp)) hs.ne hP
noncomputable abbrev rd (w : World) (l : Addr) (k : Int) (a b c : Tok) : List DictEntry :=
  [⟨PyData.keyHash w.params (Str.ofString "lines"), .str (Str.ofString "lines") a, .ref l⟩, ⟨PyData.keyHash w.params (Str.ofString "at"), .str (Str.ofString "at") b, .int k c⟩]
section
variable {w : World} {mean : ExcName → Option Value} {mg mb : Str → Option Value} {r d l : Addr} {k : Int} {a b c : Tok}
theorem c_fail : Con w mean mg mb 284 [.ref r] [(r, instObj 374 d), (d, dictOf (rd w l k a b c) 2)] 15 (fun _ _ => False) (fun j => j = k) := by
  refine' (?zf : Scr _) ?zq _ ?zs
  case zq =>
    intro prog dp un gd base frs g s Q E S hdp hun hret hexn; refine nameRet hret ?_; clear hret; intro P9 hret
    k_extra "m_enter"
    k_steps
    k_extra "m_exn"
  case zs => show LetQ _ ?zq _; (try delta id foldQ letS2 letS hideG foldN subRN subN ltCut letAE nameRet); exact LetQ.refl
  case zf => intro _ r _; exact r
theorem c_need_t : Con w mean mg mb 326 [.ref r, .bool true] [] 15 (fun r news' => r = .none ∧ news' = []) (fun _ => False) := by
  refine' (?zf : Scr _) ?zq _ ?zs
  case zq =>
    intro prog dp un gd base frs g s Q E S hdp hun hret hexn; refine nameRet hret ?_; clear hret; intro P9 hret
    k_extra "m_enter"
    k_steps
    exact hret _ _ _ _ (by assumption) (by assumption) (by exact trivial) ⟨rfl, rfl⟩
  case zs => show LetQ _ ?zq _; (try delta id foldQ letS2 letS hideG foldN subRN subN ltCut letAE nameRet); exact LetQ.refl
  case zf => intro _ r _; exact r
theorem c_need_f : Con w mean mg mb 326 [.ref r, .bool false] [(r, instObj 374 d), (d, dictOf (rd w l k a b c) 2)] 15 (fun _ _ => False) (fun j => j = k - 1) := by
  refine' (?zf : Scr _) ?zq _ ?zs
  case zq =>
    intro prog dp un gd base frs g s Q E S hdp hun hret hexn; refine nameRet hret ?_; clear hret; intro P9 hret
    k_extra "m_enter"
    k_steps
    k_extra "m_exn"
  case zs => show LetQ _ ?zq _; (try delta id foldQ letS2 letS hideG foldN subRN subN ltCut letAE nameRet); exact LetQ.refl
  case zf => intro _ r _; exact r
end

end
section -- Y2
theorem Con.mono {w : World} {mean : ExcName → Option Value} {mg mb : Str → Option Value} {f : Addr} {args : List Value} {foot : List (Addr × Obj)} {d d' : Nat} {P P' : Value → List (Addr × Obj) → Prop} {X X' : Int → Prop}
    (C : Con w mean mg mb f args foot d P X) (hP : ∀ v n, P v n → P' v n) (hX : ∀ j, X j → X' j) (hd : d ≤ d' := by omega) : Con w mean mg mb f args foot d' P' X' := by
  intro prog dp un gd base frs g s Q E S h1 h2 h3 h4
  exact C prog dp un gd base frs g s Q E S (om23r h1 hd) (Nat.lt_of_le_of_lt (Nat.add_le_add_left (Nat.mul_le_mul_left 10 hd) un) h2) (fun r h' tk n a b d c => h3 r h' tk n a b d (hP _ _ c)) (fun e D k h' tk a b c => h4 e D k h' tk a b (hX _ c))

noncomputable abbrev texts (ls : List (Str × Tok)) : List Str := ls.map (·.1)
noncomputable abbrev RD (w : World) (r d l : Addr) (k : Int) (a b c : Tok) (ls : List (Str × Tok)) : List (Addr × Obj) := [(r, instObj 374 d), (d, dictOf (rd w l k a b c) 2), (l, W.listOf (strValues ls).toArray 0)]
noncomputable def wordsO (rows : List Str) (k : Int) : Except Int (List Str) := match rows[k.toNat]? with
  | some row => .ok (Txt.split row (Str.ofString " "))
  | none => .error k
section
variable {w : World} {mean : ExcName → Option Value} {mg mb : Str → Option Value} {r d l : Addr} {k : Int} {a b c : Tok} {ls : List (Str × Tok)} {row : Str} {tr : Tok}
theorem c_words1 (h0 : 0 ≤ k) (hx : ls[k.toNat]? = some (row, tr)) (hk : k < ls.length) (hlen : row.length ≤ 900) (hl : ls.length ≤ 1000) : Con w mean mg mb 291 [.ref r] (RD w r d l k a b c ls) 20
   (fun v news' => ∃ D pl, v = .ref D ∧ news' = (D, W.listOf (strValues pl).toArray 0) :: RD w r d l k a b c ls ∧ pl.map (·.1) = Txt.split row (Str.ofString " ")) (fun _ => False) := by
  refine' (?zf : Scr _) ?zq _ ?zs
  case zq =>
    intro prog dp un gd base frs g s Q E S hdp hun hret hexn; refine nameRet hret ?_; clear hret; intro P9 hret
    dsimp only [RD] at S
    k_extra "m_enter"
    k_steps
    exact hret _ _ _ _ (by assumption) (by assumption) (by assumption) ⟨_, _, rfl, rfl, by assumption⟩
  case zs => show LetQ _ ?zq _; (try delta id foldQ letS2 letS hideG foldN subRN subN ltCut letAE nameRet); exact LetQ.refl
  case zf => intro _ r _; exact r
theorem wd_3 : True := by
  (k_with "W47" => ((k_here; (with_reducible show wpAny _ _ (call (Value.ref 284) _) _ _ _); (try (k_extra "m_foldq")); k_dflt (refine' use_con c_fail (by k_asm) (by k_asm) (by k_asm) (by k_asm) (by k_asm) (by exact rfl) (by exact rfl) (by k_room) (by k_units) (by k_extra "m_sel") ?_ ?_); (focus (intro _ _ _ _ h _ _ _; exact h.elim)); (intro G' e' D' j' h' tk' FG' R' U' hX'; (try dsimp only)))))
  (k_with "call ref" => ((fail_if_success (k_extra "offY2")); k_extra "W47"))
  trivial
theorem c_words0 (h0 : 0 ≤ k) (hk : ls.length ≤ k) (hl : ls.length ≤ 1000) : Con w mean mg mb 291 [.ref r] (RD w r d l k a b c ls) 20 (fun _ _ => False) (fun j => j = k) := by
  refine' (?zf : Scr _) ?zq _ ?zs
  case zq =>
    intro prog dp un gd base frs g s Q E S hdp hun hret hexn; refine nameRet hret ?_; clear hret; intro P9 hret
    dsimp only [RD] at S
    k_extra "m_enter"
    k_steps
    k_extra "m_exn"
  case zs => show LetQ _ ?zq _; (try delta id foldQ letS2 letS hideG foldN subRN subN ltCut letAE nameRet); exact LetQ.refl
  case zf => intro _ r _; exact r
end
theorem split_rows {x y : Str} {pl : List (Str × Tok)} (h : x.length ≤ 900) (e : pl.map (·.1) = Txt.split x y) : Rows pl := by
  refine ⟨?_, fun p hp => Nat.le_trans (part_short (x := x) (y := y) (a := p.1) (e ▸ List.mem_map.mpr ⟨p, hp, rfl⟩)) h⟩
  have h1 := StrLaws.occ_length_le x y 0 x.length (x.length + 1)
  rw [show pl.length = (pl.map (·.1)).length from (List.length_map _).symm, e]
  unfold Txt.split
  split
  · simp
  · split
    · simp
    · rw [length_partsBetween]; omega
theorem split_ne (x y : Str) : Txt.split x y ≠ [] := by
  unfold Txt.split
  split
  · simp
  · split
    · simp
    · intro h
      have := congrArg List.length h
      rw [length_partsBetween] at this
      simp at this
section
variable {w : World} {mean : ExcName → Option Value} {mg mb : Str → Option Value} {r d l : Addr} {k : Int} {a b c : Tok} {ls : List (Str × Tok)}
inductive WordsP (w : World) (r d l : Addr) (k : Int) (a b c : Tok) (ls : List (Str × Tok)) (v : Value) (news' : List (Addr × Obj)) : Prop
  | mk (D : Addr) (p : Str × Tok) (pl : List (Str × Tok)) (h1 : wordsO (texts ls) k = .ok (p.1 :: texts pl)) (h2 : v = .ref D) (h3 : Rows (p :: pl)) (h4 : news' = (D, W.listOf (strValues (p :: pl)).toArray 0) :: RD w r d l k a b c ls) : WordsP w r d l k a b c ls v news'
theorem c_words (h0 : 0 ≤ k) (hR : Rows ls) : Con w mean mg mb 291 [.ref r] (RD w r d l k a b c ls) 20
   (WordsP w r d l k a b c ls) (fun j => wordsO (texts ls) k = .error j) := by
  have hl := hR.1
  cases hx : ls[k.toNat]? with
  | none =>
    have hk : ls.length ≤ k := by have := List.getElem?_eq_none_iff.mp hx; omega
    refine (c_words0 h0 hk hR.1).mono (fun _ _ h => h.elim) fun j hj => ?_
    subst hj
    simp [wordsO, texts, hx]
  | some p =>
    have hk : k < ls.length := by have := (List.getElem?_eq_some_iff.mp hx).1; omega
    refine (c_words1 (row := p.1) (tr := p.2) h0 hx hk (hR.at hx) hR.1).mono (fun v n h => ?_) fun _ h => h.elim
    refine hideG ?_; intro g9; obtain ⟨D, pl, e1, e2, e3⟩ := h; k_unfold
    cases pl with
    | nil => exact absurd e3.symm (split_ne _ _)
    | cons p0 pl => exact ⟨D, p0, pl, by simp only [List.map_cons] at e3; simp [wordsO, texts, hx, ← e3], e1, split_rows (hR.at hx) e3, e2⟩
end

theorem wd_4 : True := by
  (k_with "offY2" => (skip))
  trivial
end
section -- Y3
theorem wd_5 : True := by
  (k_with "W48" => ((k_here; (with_reducible show wpAny _ _ (call (Value.ref 291) _) _ _ _); (try (k_extra "m_foldq")); k_dflt (refine' use_conC (c_words (by omega) (by assumption)) (by k_asm) (by k_asm) (by k_asm) (by k_asm) (by k_asm) (by exact rfl) (by exact rfl) (by k_room) (by k_units) (by k_extra "m_sel") ?_ ?_); (intro r' news' hP'; (obtain ⟨D', p0', pl', ho', hv', hz', hn'⟩ := hP'); (with_reducible refine subRN hv' hn' ?_); clear hv' hn'; clear news'; clear r'; (try ((with_reducible rename pairNe _ => dN8); clear dN8)); intro h' tk' F' N' hne'; (dsimp only [List.cons_append, List.nil_append] at N'); (try ((with_reducible refine foldN N' ?_); clear N'; intro n9 N')); (try k_sweep); (try dsimp only)); rotate_left; (intro G' e' D' j' h' tk' FG' R' U' hX'; (try dsimp only)))))
  (k_with "call ref" => ((fail_if_success (k_extra "offY3")); k_extra "W48"))
  trivial
noncomputable def restO (rows : List Str) (k : Int) (word : Str) : Except Int (List Str) := match wordsO rows k with
  | .error j => .error j
  | .ok [] => .error k
  | .ok (p :: ps) => if p = word then .ok ps else .error k
section
variable {w : World} {mean : ExcName → Option Value} {mg mb : Str → Option Value} {r d l : Addr} {k : Int} {a b c : Tok} {ls : List (Str × Tok)} {word : Str} {tw : Tok}
inductive RestP (w : World) (r d l : Addr) (k : Int) (ls : List (Str × Tok)) (word : Str) (v : Value) (news' : List (Addr × Obj)) : Prop
  | mk (D : Addr) (pl : List (Str × Tok)) (a' b' c' : Tok) (h1 : restO (texts ls) k word = .ok (texts pl)) (h2 : v = .ref D) (h3 : Rows pl) (h4 : news' = (D, W.listOf (strValues pl).toArray 0) :: RD w r d l (k + 1) a' b' c' ls) : RestP w r d l k ls word v news'
theorem c_rest (h0 : 0 ≤ k) (hR : Rows ls) : Con w mean mg mb 298 [.ref r, .str word tw] (RD w r d l k a b c ls) 40
   (RestP w r d l k ls word) (fun j => restO (texts ls) k word = .error j) := by
  refine' (?zf : Scr _) ?zq _ ?zs
  case zq =>
    intro prog dp un gd base frs g s Q E S hdp hun hret hexn; refine nameRet hret ?_; clear hret; intro P9 hret
    dsimp only [RD] at S
    k_extra "m_enter"
    k_steps
    · exact hexn _ _ _ _ _ (by assumption) (by assumption) (by unfold restO; rw [‹wordsO (texts ls) k = _›])
    · exact hexn _ _ _ _ _ (by assumption) (by assumption) (by unfold restO; rw [‹wordsO (texts ls) k = _›]; dsimp only; rw [if_neg (by simpa using ‹(_ != word) = true›)])
    · refine' RetS.fin hret (by assumption) (by assumption) ⟨_, _, _, _, _, ?_, rfl, by assumption, rfl⟩ ?hs
      case hs => k_extra "m_subD"
      · unfold restO; rw [‹wordsO (texts ls) k = _›]; dsimp only; rw [if_pos (by simpa using ‹(_ != word) = false›)]
  case zs => show LetQ _ ?zq _; (try delta id foldQ letS2 letS hideG foldN subRN subN ltCut letAE nameRet); exact LetQ.refl
  case zf => intro _ r _; exact r
end

theorem wd_6 : True := by
  (k_with "offY3" => (skip))
  trivial
end
section -- Z1
theorem wd_7 : True := by
  (k_with "offg1" => (skip))
  (k_with "x_omega" => ((fail_if_success (k_extra "offg2")); k_extra "W0"))
  (k_with "W49" => (repeat' (first | (k_unfold; (try dsimp only)) | (k_end; wrow_close) | ((with_reducible show wpAny _ _ (eval _ _) _ _ _); (fail_if_success (with_reducible show wpAny _ _ (eval (Expr.Name _ _) _) _ _ _)); (fail_if_success (with_reducible show wpAny _ _ (eval (Expr.Constant _ _ _) _) _ _ _)); (fail_if_success (with_reducible show wpAny _ _ (eval (Expr.Subscript _ _ _) _) _ _ _)); (fail_if_success (with_reducible show wpAny _ _ (eval (Expr.Slice _ _ _ _) _) _ _ _)); k_extra "m_foldq"; walk1) | walk1 | (dsimp only; walk1) | (leave1; (try dsimp only)) | fail "no step")))
  (k_with "x_k_steps" => ((fail_if_success (k_extra "offg2")); k_extra "W49"))
  (k_with "x_k_ne" => ((fail_if_success (k_extra "offg2")); k_extra "W2"))
  (k_with "newList" => ((fail_if_success (k_extra "offg2")); k_extra "W4"))
  (k_with "newTuple" => ((fail_if_success (k_extra "offg2")); k_extra "W5"))
  (k_with "call builtin:list.append" => ((fail_if_success (k_extra "offg2")); k_extra "W6"))
  (k_with "setAttr ref" => ((fail_if_success (k_extra "offg2")); k_extra "W7"))
  (k_with "m_objs" => ((fail_if_success (k_extra "offg2")); k_extra "W8"))
  (k_with "m_foldq" => ((fail_if_success (k_extra "offg2")); k_extra "W9"))
  (k_with "x_k_upd" => ((fail_if_success (k_extra "offg2")); k_extra "W10"))
  (k_with "m_maskS" => ((fail_if_success (k_extra "offg2")); k_extra "W11"))
  (k_with "m_keep" => ((fail_if_success (k_extra "offg2")); k_extra "W12"))
  (k_with "m_subD" => ((fail_if_success (k_extra "offg2")); k_extra "W13"))
  (k_with "m_pickS" => ((fail_if_success (k_extra "offg2")); k_extra "W14"))
  (k_with "m_selS" => ((fail_if_success (k_extra "offg2")); k_extra "W15"))
  (k_with "m_updS" => ((fail_if_success (k_extra "offg2")); k_extra "W16"))
  (k_with "m_keyS" => ((fail_if_success (k_extra "offg2")); k_extra "W17"))
  (k_with "m_neD" => ((fail_if_success (k_extra "offg2")); k_extra "W18"))
  (k_with "m_sel" => ((fail_if_success (k_extra "offg2")); k_extra "W19"))
  (k_with "m_pick" => ((fail_if_success (k_extra "offg2")); k_extra "W20"))
  (k_with "m_tailD" => ((fail_if_success (k_extra "offg2")); k_extra "W21"))
  (k_with "m_tailD1" => ((fail_if_success (k_extra "offg2")); k_extra "W22"))
  (k_with "m_foot" => ((fail_if_success (k_extra "offg2")); k_extra "W23"))
  (k_with "m_pnk" => ((fail_if_success (k_extra "offg2")); k_extra "W24"))
  (k_with "m_clrD" => ((fail_if_success (k_extra "offg2")); k_extra "W25"))
  (k_with "LeaveS" => ((fail_if_success (k_extra "offg2")); k_extra "W30"))
  (k_with "x_k_room" => ((fail_if_success (k_extra "offg2")); k_extra "W31"))
  (k_with "x_k_units" => ((fail_if_success (k_extra "offg2")); k_extra "W32"))
  (k_with "call builtin:str.split" => ((fail_if_success (k_extra "offg2")); k_extra "W33"))
  (k_with "m_pick" => ((fail_if_success (k_extra "offg2")); k_extra "W20"))
  (k_with "m_sel" => ((fail_if_success (k_extra "offg2")); k_extra "W19"))
  (k_with "m_enter" => ((fail_if_success (k_extra "offg2")); k_extra "W34"))
  (k_with "getMethod type:Exception" => ((fail_if_success (k_extra "offg2")); k_extra "W35"))
  (k_with "exec Raise some none" => ((fail_if_success (k_extra "offg2")); k_extra "W36"))
  (k_with "call ref cons nil" => ((fail_if_success (k_extra "offg2")); k_extra "W37"))
  (k_with "RBPost" => ((fail_if_success (k_extra "offg2")); k_extra "W38"))
  (k_with "leaving ref" => ((fail_if_success (k_extra "offg2")); k_extra "W39"))
  (k_with "m_exn" => ((fail_if_success (k_extra "offg2")); k_extra "W40"))
  (k_with "call builtin:len cons nil" => ((fail_if_success (k_extra "offg2")); k_extra "W41"))
  (k_with "subscriptTail" => ((fail_if_success (k_extra "offg2")); k_extra "W42"))
  (k_with "subscriptTail Name Slice ref ref" => ((fail_if_success (k_extra "offg2")); k_extra "W43"))
  (k_with "subscriptTail Name Slice ref ref" => ((fail_if_success (k_extra "offg2")); k_extra "W44"))
  trivial
noncomputable def numOf (l : List Int) : Int := l.foldl (fun n c => n * 10 + c - 48) 0
noncomputable def digit (a : Str) : Bool := !(Builtin.Str.occurrences (Str.ofString "0123456789") a 0 (Str.ofString "0123456789").length 1).isEmpty
noncomputable def plainO (word : Str) : Int := if word == Str.ofString "" then -1 else if Txt.item word 0 == Str.ofString "0" ∧ 1 < (word.length : Int) then -1 else if (signs word).all digit then numOf (KStt.codes word) else -1
theorem RetS.int {g : Heap} {s : Shared} {P : Value → List (Addr × Obj) → Prop} {Q : Value → Shared → Prop} (R : RetS g s P Q) {i j : Int} {t : Tok} {h' : Heap} {tk' : Nat} {news l' : List (Addr × Obj)} (st : g.StaysIn h') (N : NewsG g h' news) (e : i = j) (hP : P (.int j t) l') (hs : SubD l' news) :
    Q (.int i t) { s with heap := h', toks := tk' } := e ▸ R.fin st N hP hs
section
variable {w : World} {mean : ExcName → Option Value} {mg mb : Str → Option Value} {word : Str} {tw : Tok}
theorem numOf_snoc (l : List Int) (c : Int) : numOf (l ++ [c]) = numOf l * 10 + c - 48 := by simp [numOf]
theorem c_plain (hw : word.length ≤ 900) : Con w mean mg mb 202 [.str word tw] [] 40 (fun v news' => ∃ t, v = .int (plainO word) t ∧ news' = []) (fun _ => False) := by
  refine' (?zf : Scr _) ?zq _ ?zs
  case zq =>
    intro prog dp un gd base frs g s Q E S hdp hun hret hexn; refine nameRet hret ?_; clear hret; intro P9 hret
    k_with "state" => (simp only [numOf_snoc] at *; omega)
    k_with "pyIter str" => k_state (fun pre n => n = numOf pre) "number"
    k_extra "m_enter"
    k_steps
    · exact RetS.int hret (by assumption) (by assumption) (by unfold plainO; rw [if_pos (by assumption)]) ⟨_, rfl, rfl⟩ SubD.nil
    · exact RetS.int hret (by assumption) (by assumption) (by unfold plainO; rw [if_neg (by simp [*]), if_pos ⟨by assumption, by assumption⟩]) ⟨_, rfl, rfl⟩ SubD.nil
    · exact RetS.int hret (by assumption) (by assumption) (by unfold plainO; rw [if_neg (by simp [*]), if_neg (fun h => absurd h.2 (by assumption)), if_pos (by assumption)]; assumption) ⟨_, rfl, rfl⟩ SubD.nil
    · exact RetS.int hret (by assumption) (by assumption) (by unfold plainO; rw [if_neg (by simp [*]), if_neg (fun h => absurd h.2 (by assumption)), if_neg (by rw [show List.all _ _ = false from by assumption]; decide)]) ⟨_, rfl, rfl⟩ SubD.nil
    · exact RetS.int hret (by assumption) (by assumption) (by unfold plainO; rw [if_neg (by simp [*]), if_neg (fun h => by have := h.1; simp_all), if_pos (by assumption)]; assumption) ⟨_, rfl, rfl⟩ SubD.nil
    · exact RetS.int hret (by assumption) (by assumption) (by unfold plainO; rw [if_neg (by simp [*]), if_neg (fun h => by have := h.1; simp_all), if_neg (by rw [show List.all _ _ = false from by assumption]; decide)]) ⟨_, rfl, rfl⟩ SubD.nil
  case zs => show LetQ _ ?zq _; (try delta id foldQ letS2 letS hideG foldN subRN subN ltCut letAE nameRet); exact LetQ.refl
  case zf => intro _ r _; exact r
end

end
section -- Z2
noncomputable abbrev hexS : Str := Str.ofString "0123456789abcdef"
noncomputable def hexHas (c : Int) : Bool := !(Builtin.Str.occurrences hexS { cps := #[c.toNat] } 0 hexS.length 1).isEmpty
noncomputable def hexVal (c : Int) : Int := Txt.find hexS { cps := #[c.toNat] }
noncomputable def hexNum (l : List Int) : Int := l.foldl (fun n c => n * 16 + hexVal c) 0
noncomputable def hexO (word : Str) : Int := if (KStt.codes word).all hexHas then (if (word.length : Int) = 4 then hexNum (KStt.codes word) else -1) else -1
theorem hexNum_snoc (l : List Int) (c : Int) : hexNum (l ++ [c]) = hexNum l * 16 + hexVal c := by simp [hexNum]
theorem hex_state {pre : List Int} {kN : Nat} {n : Int} (h : n = hexNum pre ∧ pre.all hexHas = true) (h2 : (Builtin.Str.occurrences hexS { cps := #[kN] } 0 hexS.length 1).isEmpty = false) :
    n * 16 + Txt.find hexS { cps := #[kN] } = hexNum (pre ++ [(kN : Int)]) ∧ (pre ++ [(kN : Int)]).all hexHas = true := by
  refine ⟨by rw [hexNum_snoc, h.1]; simp [hexVal], ?_⟩
  rw [List.all_append, h.2]
  simp [hexHas, h2]
theorem hex_out {word : Str} {pre post : List Int} {kN : Nat} (e : KStt.codes word = pre ++ (kN : Int) :: post) (h2 : (Builtin.Str.occurrences hexS { cps := #[kN] } 0 hexS.length 1).isEmpty = true) : -1 = hexO word := by
  unfold hexO
  rw [if_neg]
  rw [e]
  simp [hexHas, h2]
theorem hexVal_le (c : Int) : hexVal c ≤ 15 ∧ -1 ≤ hexVal c := by
  unfold hexVal
  have h := fact_find hexS { cps := #[c.toNat] }
  have h1 : (({ cps := #[c.toNat] } : Str).length : Int) = 1 := rfl
  have h2 : (hexS.length : Int) = 16 := by decide
  rw [h1, h2] at h
  omega
theorem hexL {l : List Int} (e : l.length = 4) : hexNum l < 65536 := by
  rcases l with _ | ⟨a, _ | ⟨b, _ | ⟨c, _ | ⟨d, _ | ⟨f, l⟩⟩⟩⟩⟩
  · cases e
  · cases e
  · cases e
  · cases e
  · exact Int.lt_of_le_of_lt (stpH (stpH (stpH (stpH (Int.le_refl 0) (hexVal_le a).1 rfl) (hexVal_le b).1 rfl) (hexVal_le c).1 rfl) (hexVal_le d).1 rfl) (by decide)
  · exact absurd e (by simp only [List.length_cons]; omega)
theorem hexO_lt (word : Str) : hexO word < 65536 := by
  unfold hexO
  split
  · split
    · exact hexL (by rw [KStt.codes_length]; omega)
    · decide
  · decide
section
variable {w : World} {mean : ExcName → Option Value} {mg mb : Str → Option Value} {word : Str} {tw : Tok}
theorem c_hexnum (hw : word.length ≤ 900) : Con w mean mg mb 197 [.str word tw] [] 40 (fun v news' => ∃ t, v = .int (hexO word) t ∧ news' = [] ∧ hexO word < 65536) (fun j => False) := by
  refine' (?zf : Scr _) ?zq _ ?zs
  case zq =>
    intro prog dp un gd base frs g s Q E S hdp hun hret hexn; refine nameRet hret ?_; clear hret; intro P9 hret
    k_with "state" => first | exact ⟨rfl, rfl⟩ | exact hex_state ⟨by assumption, by assumption⟩ (by assumption)
    k_with "pyIter str" => k_state (fun pre n => n = hexNum pre ∧ pre.all hexHas = true) "number"
    k_extra "m_enter"
    k_steps
    all_goals first
    | exact RetS.int hret (by assumption) (by assumption) (hex_out (by assumption) (by assumption)) ⟨_, rfl, rfl, hexO_lt _⟩ SubD.nil
    | exact absurd (show true = false from (‹_ = true›).symm.trans ‹_ = false›) (by decide)
    | exact RetS.int hret (by assumption) (by assumption) (by unfold hexO; rw [if_pos (by assumption), if_pos (by assumption)]; assumption) ⟨_, rfl, rfl, hexO_lt _⟩ SubD.nil
    | exact RetS.int hret (by assumption) (by assumption) (by unfold hexO; rw [if_pos (by assumption), if_neg (by assumption)]) ⟨_, rfl, rfl, hexO_lt _⟩ SubD.nil
  case zs => show LetQ _ ?zq _; (try delta id foldQ letS2 letS hideG foldN subRN subN ltCut letAE nameRet); exact LetQ.refl
  case zf => intro _ r _; exact r
end

end
section -- Z3
-- (one group with the texts that use k_while)
noncomputable def hex4 (n : Int) : Str := Txt.item hexS (n.fdiv 4096) ++ Txt.item hexS ((n.fdiv 256).fmod 16) ++ Txt.item hexS ((n.fdiv 16).fmod 16) ++ Txt.item hexS (n.fmod 16)
theorem hex4_len (n : Int) : (hex4 n).length = 4 := by simp only [hex4, Str.length_append, len_item]
section
variable {w : World} {mean : ExcName → Option Value} {mg mb : Str → Option Value} {n : Int} {tw : Tok}
theorem c_hexfour (h0 : 0 ≤ n) (h1 : n < 65536) : Con w mean mg mb 176 [.int n tw] [] 10 (fun v news' => ∃ t, v = .str (hex4 n) t ∧ news' = [] ∧ (hex4 n).length = 4) (fun _ => False) := by
  refine' (?zf : Scr _) ?zq _ ?zs
  case zq =>
    intro prog dp un gd base frs g s Q E S hdp hun hret hexn; refine nameRet hret ?_; clear hret; intro P9 hret
    k_extra "m_enter"
    k_steps
    exact RetS.fin hret (by assumption) (by assumption) ⟨_, rfl, rfl, hex4_len _⟩ SubD.nil
  case zs => show LetQ _ ?zq _; (try delta id foldQ letS2 letS hideG foldN subRN subN ltCut letAE nameRet); exact LetQ.refl
  case zf => intro _ r _; exact r
end
theorem mem_lt {l pre post : List Int} {n : Nat} {b : Int} (h : ∀ c ∈ l, c < b) (e : l = pre ++ (n : Int) :: post) : (n : Int) < b := h _ (by rw [e]; simp)

end
section -- Z4
theorem wd_8 : True := by
  (k_with "W50" => ((k_here; (with_reducible show wpAny _ _ (call (Value.ref 202) _) _ _ _); (try (k_extra "m_foldq")); k_dflt (refine' use_con0C (by k_asm) (by k_asm) (by k_asm) (by k_asm) (by k_asm) (by exact rfl) (by exact rfl) (c_plain (by k_extra "m_len")) (by k_room) (by k_units) ?_ ?_); rotate_left; (intro _ _ _ _ _ _ _ _ _ hX'; exact (show False from hX').elim); (intro r' news' hP'; ((k_dflt (refine ex1 hP' ?_)); clear hP'; intro t9' hP'; (refine cj2 hP' ?_); clear hP'; intro hv' hn'); (with_reducible refine subRN hv' hn' ?_); clear hv' hn'; clear news'; clear r'; intro h' tk' F' N'; (dsimp only [List.cons_append, List.nil_append] at N'); (try ((with_reducible refine foldN N' ?_); clear N'; intro n9 N')); (try k_sweep); (try dsimp only)))))
  (k_with "call ref" => ((fail_if_success (k_extra "offZ4")); k_extra "W50"))
  (k_with "W51" => ((k_here; (with_reducible show wpAny _ _ (call (Value.ref 197) _) _ _ _); (try (k_extra "m_foldq")); k_dflt (refine' use_con0C (by k_asm) (by k_asm) (by k_asm) (by k_asm) (by k_asm) (by exact rfl) (by exact rfl) (c_hexnum (by k_extra "m_len")) (by k_room) (by k_units) ?_ ?_); rotate_left; (intro _ _ _ _ _ _ _ _ _ hX'; exact (show False from hX').elim); (intro r' news' hP'; (obtain ⟨t9', hv', hn', hl4'⟩ := hP'); (with_reducible refine subRN hv' hn' ?_); clear hv' hn'; clear news'; clear r'; intro h' tk' F' N'; (dsimp only [List.cons_append, List.nil_append] at N'); (try ((with_reducible refine foldN N' ?_); clear N'; intro n9 N')); (try k_sweep); (try dsimp only)))))
  (k_with "call ref" => ((fail_if_success (k_extra "offZ4")); k_extra "W51"))
  (k_with "W52" => ((k_here; (with_reducible show wpAny _ _ (call (Value.ref 176) _) _ _ _); (try (k_extra "m_foldq")); k_dflt (refine' use_con0C (by k_asm) (by k_asm) (by k_asm) (by k_asm) (by k_asm) (by exact rfl) (by exact rfl) (c_hexfour (by k_extra "m_len") (by k_extra "m_len")) (by k_room) (by k_units) ?_ ?_); rotate_left; (intro _ _ _ _ _ _ _ _ _ hX'; exact (show False from hX').elim); (intro r' news' hP'; (obtain ⟨t9', hv', hn', hl4'⟩ := hP'); (with_reducible refine subRN hv' hn' ?_); clear hv' hn'; clear news'; clear r'; intro h' tk' F' N'; (dsimp only [List.cons_append, List.nil_append] at N'); (try ((with_reducible refine foldN N' ?_); clear N'; intro n9 N')); (try k_sweep); (try dsimp only)))))
  (k_with "call ref" => ((fail_if_success (k_extra "offZ4")); k_extra "W52"))
  (k_with "W53" => (first | omega | exact mem_lt (by assumption) (by assumption)))
  (k_with "m_len" => ((fail_if_success (k_extra "offZ4")); k_extra "W53"))
  trivial
noncomputable def quo1 (c : Int) : Str := if 32 < c ∧ c < 127 ∧ ({ cps := #[c.toNat] } != Str.ofString "\"") = true ∧ ({ cps := #[c.toNat] } != Str.ofString "\\") = true then { cps := #[c.toNat] } else Str.ofString "\\u" ++ hex4 c
noncomputable def quo (l : List Int) : Str := l.foldl (fun s c => s ++ quo1 c) (Str.ofString "")
noncomputable def quotedO (text : Str) : Str := Str.ofString "\"" ++ quo (KStt.codes text) ++ Str.ofString "\""
theorem quo_snoc (l : List Int) (c : Int) : quo (l ++ [c]) = quo l ++ quo1 c := by simp [quo]
theorem quo_plain {x : Str} {pre : List Int} {n : Nat} (h : x = quo pre) (hl : x.length ≤ 6 * pre.length) (h1 : 32 < (n : Int)) (h2 : (n : Int) < 127) (h3 : (({ cps := #[n] } : Str) != Str.ofString "\"") = true) (h4 : (({ cps := #[n] } : Str) != Str.ofString "\\") = true) :
    x ++ { cps := #[n] } = quo (pre ++ [(n : Int)]) ∧ (x ++ ({ cps := #[n] } : Str)).length ≤ 6 * (pre ++ [(n : Int)]).length := by
  refine ⟨?_, ?_⟩
  · rw [quo_snoc, ← h, quo1, if_pos ⟨h1, h2, h3, h4⟩]; rfl
  · rw [Str.length_append, show ({ cps := #[n] } : Str).length = 1 from rfl]; simp; omega
theorem quo_esc {x : Str} {pre : List Int} {n : Nat} (h : x = quo pre) (hl : x.length ≤ 6 * pre.length) (hn : ¬ (32 < (n : Int) ∧ (n : Int) < 127 ∧ (({ cps := #[n] } : Str) != Str.ofString "\"") = true ∧ (({ cps := #[n] } : Str) != Str.ofString "\\") = true)) :
    x ++ Str.ofString "\\u" ++ hex4 n = quo (pre ++ [(n : Int)]) ∧ (x ++ Str.ofString "\\u" ++ hex4 n).length ≤ 6 * (pre ++ [(n : Int)]).length := by
  refine' (?zf : Scr _) ?zq _ ?zs
  case zq =>
    refine ⟨?_, ?_⟩
    · rw [quo_snoc, ← h, quo1, if_neg (by simpa using hn), Str.append_assoc]
    · rw [Str.length_append, Str.length_append, hex4_len, show (Str.ofString "\\u").length = 2 from by decide]; simp; omega
  case zs => show LetQ _ ?zq _; (try delta id foldQ letS2 letS hideG foldN subRN subN ltCut letAE nameRet); exact LetQ.refl
  case zf => intro _ r _; exact r
theorem RetS.str {g : Heap} {s : Shared} {P : Value → List (Addr × Obj) → Prop} {Q : Value → Shared → Prop} (R : RetS g s P Q) {x y : Str} {t : Tok} {h' : Heap} {tk' : Nat} {news l' : List (Addr × Obj)} (st : g.StaysIn h') (N : NewsG g h' news) (e : x = y) (hP : P (.str y t) l') (hs : SubD l' news) :
    Q (.str x t) { s with heap := h', toks := tk' } := e ▸ R.fin st N hP hs
section
variable {w : World} {mean : ExcName → Option Value} {mg mb : Str → Option Value} {text : Str} {tw : Tok}
theorem c_quoted (hw : text.length ≤ 300) (hb : ∀ c ∈ KStt.codes text, c < 65536) : Con w mean mg mb 183 [.str text tw] [] 60 (fun v news' => ∃ t, v = .str (quotedO text) t ∧ news' = [] ∧ (quotedO text).length ≤ 6 * text.length + 2) (fun _ => False) := by
  refine' (?zf : Scr _) ?zq _ ?zs
  case zq =>
    intro prog dp un gd base frs g s Q E S hdp hun hret hexn; refine nameRet hret ?_; clear hret; intro P9 hret
    k_with "state" => first | exact quo_plain (by assumption) (by assumption) (by assumption) (by assumption) (by assumption) (by assumption) | exact quo_esc (by assumption) (by assumption) (fun h => by first | exact absurd h.1 (by assumption) | exact absurd h.2.1 (by assumption) | exact absurd (h.2.2.1.symm.trans (by assumption)) (by decide) | exact absurd (h.2.2.2.symm.trans (by assumption)) (by decide)) | exact ⟨rfl, by decide⟩
    k_with "pyIter str" => k_state (fun pre x => x = quo pre ∧ x.length ≤ 6 * pre.length) "found"
    k_extra "m_enter"
    k_steps
    refine RetS.str hret (by assumption) (by assumption) (y := quotedO text) (by rw [quotedO, ← ‹_ = quo (KStt.codes text)›]) ⟨_, rfl, rfl, ?_⟩ SubD.nil
    rw [quotedO, ← ‹_ = quo (KStt.codes text)›, Str.length_append, Str.length_append, show (Str.ofString "\"").length = 1 from by decide]
    have := ‹_ ≤ 6 * text.length›
    omega
  case zs => show LetQ _ ?zq _; (try delta id foldQ letS2 letS hideG foldN subRN subN ltCut letAE nameRet); exact LetQ.refl
  case zf => intro _ r _; exact r
end

theorem wd_9 : True := by
  (k_with "offZ4" => (skip))
  trivial
end
section -- Z5
theorem gen_toks {prog : Program} {w : World} {A : Around} {body : List Stmt} {en : Env} {Q : Flow → Shared → Prop} {E : Value → Shared → Prop} {h : Heap} {g1 g2 g3} {tk : Nat} (H : ∀ tk', wpAny (model prog w) A (execs body en) Q E ⟨h, g1, g2, tk', g3⟩) : wpAny (model prog w) A (execs body en) Q E ⟨h, g1, g2, tk, g3⟩ := H tk
theorem wd_10 : True := by
  (k_with "W54" => ((k_here; (with_reducible refine gen_toks ?_); intro tk; (with_reducible refine wpAny_execs_cons ?_); (try dsimp only); (try (k_extra "m_foldq")))))
  (k_with "execs cons" => ((fail_if_success (k_extra "offZ5")); k_extra "W54"))
  (k_with "W55" => ((k_here; (with_reducible refine gen_toks ?_); intro tk; (with_reducible refine wpAny_execs_nil ?_); (try dsimp only))))
  (k_with "execs nil" => ((fail_if_success (k_extra "offZ5")); k_extra "W55"))
  (k_with "call ref" => ((fail_if_success (k_extra "offZ5")); k_extra "W50"))
  (k_with "call ref" => ((fail_if_success (k_extra "offZ5")); k_extra "W51"))
  (k_with "call ref" => ((fail_if_success (k_extra "offZ5")); k_extra "W52"))
  (k_with "m_len" => ((fail_if_success (k_extra "offZ5")); k_extra "W53"))
  trivial
noncomputable def unqGo (word : Str) : Nat → Int → Str → Option Str
  | 0, _, _ => none
  | n + 1, i, x => if i < (word.length : Int) - 1 then
      (if (Txt.item word i == Str.ofString "\\") = true then
        (if (Txt.item word (i + 1) != Str.ofString "u") = true then none
         else if (word.length : Int) - 1 < i + 6 then none
         else if hexO (Txt.slice word (some (i + 2)) (some (i + 6))) < 0 then none
         else unqGo word n (i + 6) (x ++ { cps := #[(hexO (Txt.slice word (some (i + 2)) (some (i + 6)))).toNat] }))
       else if (Txt.item word i == Str.ofString "\"") = true then none
       else if 32 < (((Txt.item word i).cps.getD 0 0 : Nat) : Int) ∧ (((Txt.item word i).cps.getD 0 0 : Nat) : Int) < 127 then unqGo word n (i + 1) (x ++ Txt.item word i)
       else none)
    else some x
theorem unqGo' {word x : Str} {n : Nat} {i : Int} : unqGo word (n + 1) i x = if i < (word.length : Int) - 1 then
      (if (Txt.item word i == Str.ofString "\\") = true then
        (if (Txt.item word (i + 1) != Str.ofString "u") = true then none
         else if (word.length : Int) - 1 < i + 6 then none
         else if hexO (Txt.slice word (some (i + 2)) (some (i + 6))) < 0 then none
         else unqGo word n (i + 6) (x ++ { cps := #[(hexO (Txt.slice word (some (i + 2)) (some (i + 6)))).toNat] }))
       else if (Txt.item word i == Str.ofString "\"") = true then none
       else if 32 < (((Txt.item word i).cps.getD 0 0 : Nat) : Int) ∧ (((Txt.item word i).cps.getD 0 0 : Nat) : Int) < 127 then unqGo word n (i + 1) (x ++ Txt.item word i)
       else none)
    else some x := rfl
noncomputable def unqO (word : Str) : Option Str := if (word.length : Int) < 2 then none else if (Txt.item word 0 != Str.ofString "\"") = true then none else if (Txt.item word (-1) != Str.ofString "\"") = true then none else unqGo word (word.length + 1) 1 (Str.ofString "")
noncomputable def UnqAt (word x : Str) (i : Int) : Prop := ∃ n : Nat, (word.length : Int) - i < n ∧ unqGo word n i x = unqO word
theorem UnqAt.pos {word x : Str} {i : Int} (h : UnqAt word x i) (hi : i < word.length) : ∃ n : Nat, (word.length : Int) - i < (n + 1 : Nat) ∧ unqGo word (n + 1) i x = unqO word := by
  obtain ⟨n, h1, h2⟩ := h
  cases n with
  | zero => omega
  | succ n => exact ⟨n, h1, h2⟩
theorem UnqAt.start {word : Str} (h1 : ¬ (word.length : Int) < 2) (h2 : (Txt.item word 0 != Str.ofString "\"") = false) (h3 : (Txt.item word (-1) != Str.ofString "\"") = false) : UnqAt word (Str.ofString "") 1 :=
  ⟨word.length + 1, by omega, by unfold unqO; rw [if_neg h1, h2, h3]; rfl⟩
theorem UnqAt.step {word x : Str} {i : Int} (h : UnqAt word x i) (hi : i < (word.length : Int) - 1) (h1 : (Txt.item word i == Str.ofString "\\") = false) (h2 : (Txt.item word i == Str.ofString "\"") = false) (h3 : 32 < (((Txt.item word i).cps.getD 0 0 : Nat) : Int)) (h4 : (((Txt.item word i).cps.getD 0 0 : Nat) : Int) < 127) : UnqAt word (x ++ Txt.item word i) (i + 1) := by
  obtain ⟨n, e1, e2⟩ := h.pos (by omega)
  refine ⟨n, by omega, ?_⟩
  rw [← e2, unqGo', if_pos hi, h1, h2, if_neg (by decide), if_neg (by decide), if_pos ⟨h3, h4⟩]
theorem UnqAt.esc {word x : Str} {i : Int} (h : UnqAt word x i) (hi : i < (word.length : Int) - 1) (h1 : (Txt.item word i == Str.ofString "\\") = true) (h2 : (Txt.item word (i + 1) != Str.ofString "u") = false) (h3 : ¬ (word.length : Int) - 1 < i + 6) (h4 : ¬ hexO (Txt.slice word (some (i + 2)) (some (i + 6))) < 0) : UnqAt word (x ++ { cps := #[(hexO (Txt.slice word (some (i + 2)) (some (i + 6)))).toNat] }) (i + 6) := by
  obtain ⟨n, e1, e2⟩ := h.pos (by omega)
  refine ⟨n, by omega, ?_⟩
  rw [← e2, unqGo', if_pos hi, h1, if_pos rfl, h2, if_neg (by decide), if_neg h3, if_neg h4]
theorem UnqAt.done {word x : Str} {i : Int} (h : UnqAt word x i) (hi : ¬ i < (word.length : Int) - 1) (hb : i ≤ word.length) : unqO word = some x := by
  obtain ⟨n, e1, e2⟩ := h
  cases n with
  | zero => omega
  | succ n => rw [← e2, unqGo', if_neg hi]
theorem UnqAt.bad1 {word x : Str} {i : Int} (h : UnqAt word x i) (hi : i < (word.length : Int) - 1) (h1 : (Txt.item word i == Str.ofString "\\") = true) (h2 : (Txt.item word (i + 1) != Str.ofString "u") = true) : unqO word = none := by
  obtain ⟨n, e1, e2⟩ := h.pos (by omega)
  rw [← e2, unqGo', if_pos hi, h1, if_pos rfl, h2, if_pos rfl]
theorem UnqAt.bad2 {word x : Str} {i : Int} (h : UnqAt word x i) (hi : i < (word.length : Int) - 1) (h1 : (Txt.item word i == Str.ofString "\\") = true) (h2 : (Txt.item word (i + 1) != Str.ofString "u") = false) (h3 : (word.length : Int) - 1 < i + 6) : unqO word = none := by
  obtain ⟨n, e1, e2⟩ := h.pos (by omega)
  rw [← e2, unqGo', if_pos hi, h1, if_pos rfl, h2, if_neg (by decide), if_pos h3]
theorem UnqAt.bad3 {word x : Str} {i : Int} (h : UnqAt word x i) (hi : i < (word.length : Int) - 1) (h1 : (Txt.item word i == Str.ofString "\\") = true) (h2 : (Txt.item word (i + 1) != Str.ofString "u") = false) (h3 : ¬ (word.length : Int) - 1 < i + 6) (h4 : hexO (Txt.slice word (some (i + 2)) (some (i + 6))) < 0) : unqO word = none := by
  obtain ⟨n, e1, e2⟩ := h.pos (by omega)
  rw [← e2, unqGo', if_pos hi, h1, if_pos rfl, h2, if_neg (by decide), if_neg h3, if_pos h4]
theorem UnqAt.bad4 {word x : Str} {i : Int} (h : UnqAt word x i) (hi : i < (word.length : Int) - 1) (h1 : (Txt.item word i == Str.ofString "\\") = false) (h2 : (Txt.item word i == Str.ofString "\"") = true) : unqO word = none := by
  obtain ⟨n, e1, e2⟩ := h.pos (by omega)
  rw [← e2, unqGo', if_pos hi, h1, if_neg (by decide), h2, if_pos rfl]
theorem UnqAt.bad5 {word x : Str} {i : Int} (h : UnqAt word x i) (hi : i < (word.length : Int) - 1) (h1 : (Txt.item word i == Str.ofString "\\") = false) (h2 : (Txt.item word i == Str.ofString "\"") = false) (h3 : ¬ (32 < (((Txt.item word i).cps.getD 0 0 : Nat) : Int) ∧ (((Txt.item word i).cps.getD 0 0 : Nat) : Int) < 127)) : unqO word = none := by
  obtain ⟨n, e1, e2⟩ := h.pos (by omega)
  rw [← e2, unqGo', if_pos hi, h1, h2, if_neg (by decide), if_neg (by decide), if_neg h3]
noncomputable def optV (o : Option Str) (t : Tok) : Value := match o with
  | none => .none
  | some x => .str x t
theorem RetS.opt {g : Heap} {s : Shared} {o : Option Str} {P : Value → List (Addr × Obj) → Prop} {Q : Value → Shared → Prop} (R : RetS g s P Q) {v : Value} {t : Tok} {h' : Heap} {tk' : Nat} {news l' : List (Addr × Obj)} (st : g.StaysIn h') (N : NewsG g h' news) (e : o = none) (ev : v = .none) (hP : P (optV o t) l') (hs : SubD l' news) :
    Q v { s with heap := h', toks := tk' } := by subst e; subst ev; exact R.fin st N hP hs
theorem RetS.opt1 {g : Heap} {s : Shared} {o : Option Str} {P : Value → List (Addr × Obj) → Prop} {Q : Value → Shared → Prop} (R : RetS g s P Q) {x : Str} {t : Tok} {h' : Heap} {tk' : Nat} {news l' : List (Addr × Obj)} (st : g.StaysIn h') (N : NewsG g h' news) (e : o = some x) (hP : P (optV o t) l') (hs : SubD l' news) :
    Q (.str x t) { s with heap := h', toks := tk' } := by subst e; exact R.fin st N hP hs
section
variable {w : World} {mean : ExcName → Option Value} {mg mb : Str → Option Value} {word : Str} {tw : Tok}
theorem c_unq (hw : word.length ≤ 900) : Con w mean mg mb 190 [.str word tw] [] 60 (fun v news' => ∃ t, v = optV (unqO word) t ∧ news' = []) (fun _ => False) := by
  refine' (?zf : Scr _) ?zq _ ?zs
  case zq =>
    intro prog dp un gd base frs g s Q E S hdp hun hret hexn; refine nameRet hret ?_; clear hret; intro P9 hret
    k_with "state" => first
      | exact ⟨by decide, by omega, by decide, UnqAt.start (by with_reducible assumption) (by with_reducible assumption) (by with_reducible assumption)⟩
      | exact ⟨by omega, by omega, by rw [Str.length_append]; omega, by with_reducible exact UnqAt.step (by with_reducible assumption) (by with_reducible assumption) (by with_reducible assumption) (by with_reducible assumption) (by with_reducible assumption) (by with_reducible assumption)⟩
      | exact ⟨by omega, by omega, by rw [Str.length_append]; simp only [Str.length, List.size_toArray, List.length_cons, List.length_nil] at *; omega, by with_reducible exact UnqAt.esc (by with_reducible assumption) (by with_reducible assumption) (by with_reducible assumption) (by with_reducible assumption) (by with_reducible assumption) (by with_reducible assumption)⟩

    k_with "measure" => (omega)
    k_with "exec While Compare cons nil" => k_while (fun _ x i => 1 ≤ i ∧ i ≤ (word.length : Int) ∧ (x.length : Int) ≤ i ∧ UnqAt word x i) (fun _ _ i => (word.length - i).toNat) "found" "at"
    k_extra "m_enter"
    k_steps
    · exact RetS.opt (t := 0) hret (by with_reducible assumption) (by with_reducible assumption) (by unfold unqO; rw [if_pos (by with_reducible assumption)]) rfl ⟨_, rfl, rfl⟩ SubD.nil
    · exact RetS.opt (t := 0) hret (by with_reducible assumption) (by with_reducible assumption) (by unfold unqO; rw [if_neg (by with_reducible assumption), if_pos (by with_reducible assumption)]) rfl ⟨_, rfl, rfl⟩ SubD.nil
    · exact RetS.opt (t := 0) hret (by with_reducible assumption) (by with_reducible assumption) (by unfold unqO; rw [if_neg (by with_reducible assumption), if_neg (by simp [*]), if_pos (by with_reducible assumption)]) rfl ⟨_, rfl, rfl⟩ SubD.nil
    · exact RetS.opt (t := 0) hret (by with_reducible assumption) (by with_reducible assumption) (UnqAt.bad1 (by with_reducible assumption) (by with_reducible assumption) (by with_reducible assumption) (by with_reducible assumption)) rfl ⟨_, rfl, rfl⟩ SubD.nil
    · exact RetS.opt (t := 0) hret (by with_reducible assumption) (by with_reducible assumption) (UnqAt.bad2 (by with_reducible assumption) (by with_reducible assumption) (by with_reducible assumption) (by with_reducible assumption) (by with_reducible assumption)) rfl ⟨_, rfl, rfl⟩ SubD.nil
    · exact RetS.opt (t := 0) hret (by with_reducible assumption) (by with_reducible assumption) (UnqAt.bad3 (by with_reducible assumption) (by with_reducible assumption) (by with_reducible assumption) (by with_reducible assumption) (by with_reducible assumption) (by with_reducible assumption)) rfl ⟨_, rfl, rfl⟩ SubD.nil
    · exact RetS.opt (t := 0) hret (by with_reducible assumption) (by with_reducible assumption) (UnqAt.bad4 (by with_reducible assumption) (by with_reducible assumption) (by with_reducible assumption) (by with_reducible assumption)) rfl ⟨_, rfl, rfl⟩ SubD.nil
    · exact RetS.opt (t := 0) hret (by with_reducible assumption) (by with_reducible assumption) (UnqAt.bad5 (by with_reducible assumption) (by with_reducible assumption) (by with_reducible assumption) (by with_reducible assumption) (fun h => absurd h.2 (by with_reducible assumption))) rfl ⟨_, rfl, rfl⟩ SubD.nil
    · exact RetS.opt (t := 0) hret (by with_reducible assumption) (by with_reducible assumption) (UnqAt.bad5 (by with_reducible assumption) (by with_reducible assumption) (by with_reducible assumption) (by with_reducible assumption) (fun h => absurd h.1 (by with_reducible assumption))) rfl ⟨_, rfl, rfl⟩ SubD.nil
    · exact RetS.opt1 hret (by with_reducible assumption) (by with_reducible assumption) (UnqAt.done (by with_reducible assumption) (by with_reducible assumption) (by with_reducible assumption)) ⟨_, rfl, rfl⟩ SubD.nil
  case zs => show LetQ _ ?zq _; (try delta id foldQ letS2 letS hideG foldN subRN subN ltCut letAE nameRet); exact LetQ.refl
  case zf => intro _ r _; exact r
end

theorem wd_11 : True := by
  (k_with "offZ5" => (skip))
  trivial
end
section -- W1
theorem wd_12 : True := by
  (k_with "offg2" => (skip))
  (k_with "x_omega" => ((fail_if_success (k_extra "offg3")); k_extra "W0"))
  (k_with "x_k_steps" => ((fail_if_success (k_extra "offg3")); k_extra "W1"))
  (k_with "x_k_ne" => ((fail_if_success (k_extra "offg3")); k_extra "W2"))
  (k_with "storeName" => ((fail_if_success (k_extra "offg3")); k_extra "W3"))
  (k_with "newList" => ((fail_if_success (k_extra "offg3")); k_extra "W4"))
  (k_with "newTuple" => ((fail_if_success (k_extra "offg3")); k_extra "W5"))
  (k_with "call builtin:list.append" => ((fail_if_success (k_extra "offg3")); k_extra "W6"))
  (k_with "setAttr ref" => ((fail_if_success (k_extra "offg3")); k_extra "W7"))
  (k_with "m_objs" => ((fail_if_success (k_extra "offg3")); k_extra "W8"))
  (k_with "m_foldq" => ((fail_if_success (k_extra "offg3")); k_extra "W9"))
  (k_with "x_k_upd" => ((fail_if_success (k_extra "offg3")); k_extra "W10"))
  (k_with "m_maskS" => ((fail_if_success (k_extra "offg3")); k_extra "W11"))
  (k_with "m_keep" => ((fail_if_success (k_extra "offg3")); k_extra "W12"))
  (k_with "m_subD" => ((fail_if_success (k_extra "offg3")); k_extra "W13"))
  (k_with "m_pickS" => ((fail_if_success (k_extra "offg3")); k_extra "W14"))
  (k_with "m_selS" => ((fail_if_success (k_extra "offg3")); k_extra "W15"))
  (k_with "m_updS" => ((fail_if_success (k_extra "offg3")); k_extra "W16"))
  (k_with "m_keyS" => ((fail_if_success (k_extra "offg3")); k_extra "W17"))
  (k_with "m_neD" => ((fail_if_success (k_extra "offg3")); k_extra "W18"))
  (k_with "m_sel" => ((fail_if_success (k_extra "offg3")); k_extra "W19"))
  (k_with "m_pick" => ((fail_if_success (k_extra "offg3")); k_extra "W20"))
  (k_with "m_tailD" => ((fail_if_success (k_extra "offg3")); k_extra "W21"))
  (k_with "m_tailD1" => ((fail_if_success (k_extra "offg3")); k_extra "W22"))
  (k_with "m_foot" => ((fail_if_success (k_extra "offg3")); k_extra "W23"))
  (k_with "m_pnk" => ((fail_if_success (k_extra "offg3")); k_extra "W24"))
  (k_with "m_clrD" => ((fail_if_success (k_extra "offg3")); k_extra "W25"))
  (k_with "eval Call Attribute" => ((fail_if_success (k_extra "offg3")); k_extra "W26"))
  (k_with "eval Call Attribute" => ((fail_if_success (k_extra "offg3")); k_extra "W27"))
  (k_with "eval Call Attribute" => ((fail_if_success (k_extra "offg3")); k_extra "W28"))
  (k_with "eval Subscript" => ((fail_if_success (k_extra "offg3")); k_extra "W29"))
  (k_with "LeaveS" => ((fail_if_success (k_extra "offg3")); k_extra "W30"))
  (k_with "x_k_room" => ((fail_if_success (k_extra "offg3")); k_extra "W31"))
  (k_with "x_k_units" => ((fail_if_success (k_extra "offg3")); k_extra "W32"))
  (k_with "call builtin:str.split" => ((fail_if_success (k_extra "offg3")); k_extra "W33"))
  (k_with "m_pick" => ((fail_if_success (k_extra "offg3")); k_extra "W20"))
  (k_with "m_sel" => ((fail_if_success (k_extra "offg3")); k_extra "W19"))
  (k_with "m_enter" => ((fail_if_success (k_extra "offg3")); k_extra "W34"))
  (k_with "getMethod type:Exception" => ((fail_if_success (k_extra "offg3")); k_extra "W35"))
  (k_with "exec Raise some none" => ((fail_if_success (k_extra "offg3")); k_extra "W36"))
  (k_with "call ref cons nil" => ((fail_if_success (k_extra "offg3")); k_extra "W37"))
  (k_with "RBPost" => ((fail_if_success (k_extra "offg3")); k_extra "W38"))
  (k_with "leaving ref" => ((fail_if_success (k_extra "offg3")); k_extra "W39"))
  (k_with "m_exn" => ((fail_if_success (k_extra "offg3")); k_extra "W40"))
  (k_with "call builtin:len cons nil" => ((fail_if_success (k_extra "offg3")); k_extra "W41"))
  (k_with "subscriptTail" => ((fail_if_success (k_extra "offg3")); k_extra "W42"))
  (k_with "subscriptTail Name Slice ref ref" => ((fail_if_success (k_extra "offg3")); k_extra "W43"))
  (k_with "subscriptTail Name Slice ref ref" => ((fail_if_success (k_extra "offg3")); k_extra "W44"))
  trivial
theorem wd_13 : True := by
  (k_with "W56" => (first | (k_here; (with_reducible refine stmtR ?_); intro tk s9 qk9) | (k_here; (with_reducible refine gen_toks ?_); intro tk; (with_reducible refine wpAny_execs_cons ?_); (try dsimp only); (try (k_extra "m_foldq")))))
  (k_with "execs cons" => ((fail_if_success (k_extra "offW1")); k_extra "W56"))
  (k_with "W57" => (first | (k_here; (with_reducible refine wpAny_execs_nil ?_)) | (k_here; (with_reducible refine gen_toks ?_); intro tk; (with_reducible refine wpAny_execs_nil ?_); (try dsimp only))))
  (k_with "execs nil" => ((fail_if_success (k_extra "offW1")); k_extra "W57"))
  (k_with "call ref" => ((fail_if_success (k_extra "offW1")); k_extra "W50"))
  (k_with "W58" => ((k_here; (with_reducible show wpAny _ _ (call (Value.ref 190) _) _ _ _); (try (k_extra "m_foldq")); k_dflt (refine' use_con0C (by k_asm) (by k_asm) (by k_asm) (by k_asm) (by k_asm) (by exact rfl) (by exact rfl) (c_unq (by k_extra "m_len")) (by k_room) (by k_units) ?_ ?_); rotate_left; (intro _ _ _ _ _ _ _ _ _ hX'; exact (show False from hX').elim); (intro r' news' hP'; ((k_dflt (refine ex1 hP' ?_)); clear hP'; intro t9' hP'; (refine cj2 hP' ?_); clear hP'; intro hv' hn'); (with_reducible refine subRN hv' hn' ?_); clear hv' hn'; clear news'; clear r'; intro h' tk' F' N'; (dsimp only [List.cons_append, List.nil_append] at N'); (try ((with_reducible refine foldN N' ?_); clear N'; intro n9 N')); (try k_sweep); (try dsimp only)))))
  (k_with "call ref" => ((fail_if_success (k_extra "offW1")); k_extra "W58"))
  (k_with "W59" => (first | assumption | omega | exact Rows.len0 (by assumption)))
  (k_with "m_len" => ((fail_if_success (k_extra "offW1")); k_extra "W59"))
  trivial
noncomputable def numO (word : Str) (k : Int) : Except Int Int := if plainO word < 0 then .error (k - 1) else .ok (plainO word)
noncomputable abbrev RDs (w : World) (r d : Addr) (l : Addr) (k : Int) (a b c : Tok) : List (Addr × Obj) := [(r, instObj 374 d), (d, dictOf (rd w l k a b c) 2)]
section
variable {w : World} {mean : ExcName → Option Value} {mg mb : Str → Option Value} {r d l : Addr} {k : Int} {a b c : Tok} {word : Str} {tw : Tok}
inductive NumP (w : World) (r d l : Addr) (k : Int) (a b c : Tok) (word : Str) (v : Value) (news' : List (Addr × Obj)) : Prop
  | mk (t : Tok) (h1 : numO word k = .ok (plainO word)) (h2 : 0 ≤ plainO word) (h3 : v = .int (plainO word) t) (h4 : news' = RDs w r d l k a b c) : NumP w r d l k a b c word v news'
theorem c_number (hw : word.length ≤ 900) : Con w mean mg mb 305 [.ref r, .str word tw] (RDs w r d l k a b c) 60
   (NumP w r d l k a b c word) (fun j => numO word k = .error j) := by
  refine' (?zf : Scr _) ?zq _ ?zs
  case zq =>
    intro prog dp un gd base frs g s Q E S hdp hun hret hexn; refine nameRet hret ?_; clear hret; intro P9 hret
    dsimp only [RDs] at S
    k_extra "m_enter"
    k_steps
    · exact hexn _ _ _ _ _ (by assumption) (by assumption) (by unfold numO; rw [if_pos (by assumption)])
    · exact RetS.fin hret (by assumption) (by assumption) ⟨_, (by unfold numO; rw [if_neg (by assumption)]), by omega, rfl, rfl⟩ (by k_extra "m_subD")
  case zs => show LetQ _ ?zq _; (try delta id foldQ letS2 letS hideG foldN subRN subN ltCut letAE nameRet); exact LetQ.refl
  case zf => intro _ r _; exact r
end

theorem wd_14 : True := by
  (k_with "offW1" => (skip))
  trivial
end
section -- W2
theorem wd_15 : True := by
  (k_with "execs cons" => ((fail_if_success (k_extra "offW2")); k_extra "W56"))
  (k_with "execs nil" => ((fail_if_success (k_extra "offW2")); k_extra "W57"))
  (k_with "call ref" => ((fail_if_success (k_extra "offW2")); k_extra "W50"))
  (k_with "call ref" => ((fail_if_success (k_extra "offW2")); k_extra "W58"))
  (k_with "m_len" => ((fail_if_success (k_extra "offW2")); k_extra "W59"))
  trivial
noncomputable abbrev tupOf (vs : Array Value) : Obj := { cls := .type "tuple", data := .seq vs }
noncomputable def placeO (word : Str) : Option (Option (Str × Int)) :=
  if (word == Str.ofString "none") = true then some none
  else if (Txt.slice word none (some ((5 : Nat) : Int)) == Str.ofString "local") = true ∧ 0 ≤ plainO (Txt.slice word (some ((5 : Nat) : Int)) none) then some (some (Str.ofString "local", plainO (Txt.slice word (some ((5 : Nat) : Int)) none)))
  else if (Txt.slice word none (some ((4 : Nat) : Int)) == Str.ofString "cell") = true ∧ 0 ≤ plainO (Txt.slice word (some ((4 : Nat) : Int)) none) then some (some (Str.ofString "cell", plainO (Txt.slice word (some ((4 : Nat) : Int)) none)))
  else none
noncomputable def PlaceNews (o : Option (Option (Str × Int))) (v : Value) (news' : List (Addr × Obj)) : Prop := match o with
  | some none => ∃ D, v = .ref D ∧ news' = [(D, tupOf #[.bool true, .none])]
  | some (some p) => ∃ D D2 t t', v = .ref D ∧ news' = [(D, tupOf #[.bool true, .ref D2]), (D2, tupOf #[.str p.1 t, .int p.2 t'])]
  | none => ∃ D, v = .ref D ∧ news' = [(D, tupOf #[.bool false, .none])]
section
variable {word : Str}
theorem place1 {D : Addr} (h : (word == Str.ofString "none") = true) : PlaceNews (placeO word) (.ref D) [(D, tupOf #[.bool true, .none])] := by
  rw [placeO, if_pos h]; exact ⟨_, rfl, rfl⟩
theorem place2 {D D2 : Addr} {t t' : Tok} (h : (word == Str.ofString "none") = false) (h2 : (Txt.slice word none (some ((5 : Nat) : Int)) == Str.ofString "local") = true) (h3 : 0 ≤ plainO (Txt.slice word (some ((5 : Nat) : Int)) none)) :
    PlaceNews (placeO word) (.ref D) [(D, tupOf #[.bool true, .ref D2]), (D2, tupOf #[.str (Str.ofString "local") t, .int (plainO (Txt.slice word (some ((5 : Nat) : Int)) none)) t'])] := by
  rw [placeO, if_neg (by simp [h]), if_pos ⟨h2, h3⟩]; exact ⟨_, _, _, _, rfl, rfl⟩
theorem place3 {D D2 : Addr} {t t' : Tok} (h : (word == Str.ofString "none") = false) (h2 : ¬ ((Txt.slice word none (some ((5 : Nat) : Int)) == Str.ofString "local") = true ∧ 0 ≤ plainO (Txt.slice word (some ((5 : Nat) : Int)) none)))
    (h4 : (Txt.slice word none (some ((4 : Nat) : Int)) == Str.ofString "cell") = true) (h5 : 0 ≤ plainO (Txt.slice word (some ((4 : Nat) : Int)) none)) :
    PlaceNews (placeO word) (.ref D) [(D, tupOf #[.bool true, .ref D2]), (D2, tupOf #[.str (Str.ofString "cell") t, .int (plainO (Txt.slice word (some ((4 : Nat) : Int)) none)) t'])] := by
  rw [placeO, if_neg (by simp [h]), if_neg h2, if_pos ⟨h4, h5⟩]; exact ⟨_, _, _, _, rfl, rfl⟩
theorem place4 {D : Addr} (h : (word == Str.ofString "none") = false) (h2 : ¬ ((Txt.slice word none (some ((5 : Nat) : Int)) == Str.ofString "local") = true ∧ 0 ≤ plainO (Txt.slice word (some ((5 : Nat) : Int)) none)))
    (h4 : ¬ ((Txt.slice word none (some ((4 : Nat) : Int)) == Str.ofString "cell") = true ∧ 0 ≤ plainO (Txt.slice word (some ((4 : Nat) : Int)) none))) :
    PlaceNews (placeO word) (.ref D) [(D, tupOf #[.bool false, .none])] := by
  rw [placeO, if_neg (by simp [h]), if_neg h2, if_neg h4]; exact ⟨_, rfl, rfl⟩
end
theorem no_fst {p : Bool} {q : Prop} (h : p = false) : ¬ (p = true ∧ q) := fun x => by rw [h] at x; exact absurd x.1 (by decide)
theorem no_snd {p q : Prop} (h : ¬ q) : ¬ (p ∧ q) := fun x => h x.2
section
variable {w : World} {mean : ExcName → Option Value} {mg mb : Str → Option Value} {r d l : Addr} {k : Int} {a b c : Tok} {word : Str} {tw : Tok}
theorem c_place_in (hw : word.length ≤ 900) : Con w mean mg mb 216 [.str word tw] [] 60
   (fun v news' => PlaceNews (placeO word) v news') (fun j => False) := by
  refine' (?zf : Scr _) ?zq _ ?zs
  case zq =>
    intro prog dp un gd base frs g s Q E S hdp hun hret hexn; refine nameRet hret ?_; clear hret; intro P9 hret
    k_extra "m_enter"
    k_steps
    · exact RetS.fin hret (by with_reducible assumption) (by with_reducible assumption) (place1 (by with_reducible assumption)) (by k_extra "m_subD")
    · refine' RetS.fin hret (by with_reducible assumption) (by with_reducible assumption) (place2 (by with_reducible assumption) (by with_reducible assumption) (by with_reducible assumption)) ?hs1; (case hs1 => k_extra "m_subD")
    · refine' RetS.fin hret (by with_reducible assumption) (by with_reducible assumption) (place3 (by with_reducible assumption) (no_snd (by with_reducible assumption)) (by with_reducible assumption) (by with_reducible assumption)) ?hs2; (case hs2 => k_extra "m_subD")
    · exact RetS.fin hret (by with_reducible assumption) (by with_reducible assumption) (place4 (by with_reducible assumption) (no_snd (by with_reducible assumption)) (no_snd (by with_reducible assumption))) (by k_extra "m_subD")
    · exact RetS.fin hret (by with_reducible assumption) (by with_reducible assumption) (place4 (by with_reducible assumption) (no_snd (by with_reducible assumption)) (no_fst (by with_reducible assumption))) (by k_extra "m_subD")
    · refine' RetS.fin hret (by with_reducible assumption) (by with_reducible assumption) (place3 (by with_reducible assumption) (no_fst (by with_reducible assumption)) (by with_reducible assumption) (by with_reducible assumption)) ?hs3; (case hs3 => k_extra "m_subD")
    · exact RetS.fin hret (by with_reducible assumption) (by with_reducible assumption) (place4 (by with_reducible assumption) (no_fst (by with_reducible assumption)) (no_snd (by with_reducible assumption))) (by k_extra "m_subD")
    · exact RetS.fin hret (by with_reducible assumption) (by with_reducible assumption) (place4 (by with_reducible assumption) (no_fst (by with_reducible assumption)) (no_fst (by with_reducible assumption))) (by k_extra "m_subD")
  case zs => show LetQ _ ?zq _; (try delta id foldQ letS2 letS hideG foldN subRN subN ltCut letAE nameRet); exact LetQ.refl
  case zf => intro _ r _; exact r
end

theorem wd_16 : True := by
  (k_with "offW2" => (skip))
  trivial
end
section -- W3
theorem c_unq_n {w : World} {mean : ExcName → Option Value} {mg mb : Str → Option Value} {word : Str} {tw : Tok} (hw : word.length ≤ 900) (h : unqO word = none) : Con w mean mg mb 190 [.str word tw] [] 60 (fun v news' => v = .none ∧ news' = []) (fun _ => False) :=
  Con.mono (c_unq hw) (fun _ _ ⟨_, h1, h2⟩ => ⟨by rw [h1, h]; rfl, h2⟩) fun _ h => h
theorem c_unq_s {w : World} {mean : ExcName → Option Value} {mg mb : Str → Option Value} {word x : Str} {tw : Tok} (hw : word.length ≤ 900) (h : unqO word = some x) : Con w mean mg mb 190 [.str word tw] [] 60 (fun v news' => ∃ t, v = .str x t ∧ news' = []) (fun _ => False) :=
  Con.mono (c_unq hw) (fun _ _ ⟨t, h1, h2⟩ => ⟨t, by rw [h1, h]; rfl, h2⟩) fun _ h => h
noncomputable def textO (word : Str) (k : Int) : Except Int Str := match unqO word with
  | none => .error (k - 1)
  | some x => .ok x
theorem wd_17 : True := by
  (k_with "execs cons" => ((fail_if_success (k_extra "offW3")); k_extra "W56"))
  (k_with "execs nil" => ((fail_if_success (k_extra "offW3")); k_extra "W57"))
  (k_with "call ref" => ((fail_if_success (k_extra "offW3")); k_extra "W50"))
  (k_with "call ref" => ((fail_if_success (k_extra "offW3")); k_extra "W58"))
  (k_with "m_len" => ((fail_if_success (k_extra "offW3")); k_extra "W59"))
  (k_with "W60" => ((k_here; (with_reducible show wpAny _ _ (call (Value.ref 190) _) _ _ _); (try (k_extra "m_foldq")); k_dflt (refine' use_con0C (by k_asm) (by k_asm) (by k_asm) (by k_asm) (by k_asm) (by exact rfl) (by exact rfl) (c_unq_n (by k_extra "m_len") (by with_reducible assumption)) (by k_room) (by k_units) ?_ ?_); rotate_left; (intro _ _ _ _ _ _ _ _ _ hX'; exact (show False from hX').elim); (intro r' news' hP'; ((refine cj2 hP' ?_); clear hP'; intro hv' hn'); (with_reducible refine subRN hv' hn' ?_); clear hv' hn'; clear news'; clear r'; intro h' tk' F' N'; (dsimp only [List.cons_append, List.nil_append] at N'); (try ((with_reducible refine foldN N' ?_); clear N'; intro n9 N')); (try k_sweep); (try dsimp only)))))
  (k_with "call ref" => ((fail_if_success (k_extra "offW3")); k_extra "W60"))
  (k_with "W61" => ((k_here; (with_reducible show wpAny _ _ (call (Value.ref 190) _) _ _ _); (try (k_extra "m_foldq")); k_dflt (refine' use_con0C (by k_asm) (by k_asm) (by k_asm) (by k_asm) (by k_asm) (by exact rfl) (by exact rfl) (c_unq_s (by k_extra "m_len") (by with_reducible assumption)) (by k_room) (by k_units) ?_ ?_); rotate_left; (intro _ _ _ _ _ _ _ _ _ hX'; exact (show False from hX').elim); (intro r' news' hP'; ((k_dflt (refine ex1 hP' ?_)); clear hP'; intro t9' hP'; (refine cj2 hP' ?_); clear hP'; intro hv' hn'); (with_reducible refine subRN hv' hn' ?_); clear hv' hn'; clear news'; clear r'; intro h' tk' F' N'; (dsimp only [List.cons_append, List.nil_append] at N'); (try ((with_reducible refine foldN N' ?_); clear N'; intro n9 N')); (try k_sweep); (try dsimp only)))))
  (k_with "call ref" => ((fail_if_success (k_extra "offW3")); k_extra "W61"))
  trivial
section
variable {w : World} {mean : ExcName → Option Value} {mg mb : Str → Option Value} {r d l : Addr} {k : Int} {a b c : Tok} {word : Str} {tw : Tok}
inductive TextP (w : World) (r d l : Addr) (k : Int) (a b c : Tok) (word : Str) (v : Value) (news' : List (Addr × Obj)) : Prop
  | mk (x : Str) (t : Tok) (h1 : textO word k = .ok x) (h2 : v = .str x t) (h3 : news' = RDs w r d l k a b c) : TextP w r d l k a b c word v news'
theorem c_text (hw : word.length ≤ 900) : Con w mean mg mb 312 [.ref r, .str word tw] (RDs w r d l k a b c) 80
   (TextP w r d l k a b c word) (fun j => textO word k = .error j) := by
  refine' (?zf : Scr _) ?zq _ ?zs
  case zq =>
    intro prog dp un gd base frs g s Q E S hdp hun hret hexn; refine nameRet hret ?_; clear hret; intro P9 hret
    dsimp only [RDs] at S
    cases hO : unqO word
    · k_extra "m_enter"
      k_steps
      exact hexn _ _ _ _ _ (by assumption) (by assumption) (by unfold textO; rw [hO])
    · k_extra "m_enter"
      k_steps
      exact RetS.fin hret (by assumption) (by assumption) ⟨_, _, (by unfold textO; rw [hO]), rfl, rfl⟩ (by k_extra "m_subD")
  case zs => show LetQ _ ?zq _; (try delta id foldQ letS2 letS hideG foldN subRN subN ltCut letAE nameRet); exact LetQ.refl
  case zf => intro _ r _; exact r
end

theorem wd_18 : True := by
  (k_with "offW3" => (skip))
  trivial
end
section -- W4
section
variable {w : World} {mean : ExcName → Option Value} {mg mb : Str → Option Value} {word : Str} {tw : Tok}
theorem c_place_in_n (hw : word.length ≤ 900) (h : placeO word = none) : Con w mean mg mb 216 [.str word tw] [] 60 (fun v news' => ∃ D, v = .ref D ∧ news' = [(D, tupOf #[.bool false, .none])]) (fun _ => False) :=
  Con.mono (c_place_in hw) (fun _ _ p => by rw [h] at p; exact p) fun _ h => h
theorem c_place_in_0 (hw : word.length ≤ 900) (h : placeO word = some none) : Con w mean mg mb 216 [.str word tw] [] 60 (fun v news' => ∃ D, v = .ref D ∧ news' = [(D, tupOf #[.bool true, .none])]) (fun _ => False) :=
  Con.mono (c_place_in hw) (fun _ _ p => by rw [h] at p; exact p) fun _ h => h
theorem c_place_in_s {p : Str × Int} (hw : word.length ≤ 900) (h : placeO word = some (some p)) : Con w mean mg mb 216 [.str word tw] [] 60 (fun v news' => ∃ D D2 t t', v = .ref D ∧ news' = [(D, tupOf #[.bool true, .ref D2]), (D2, tupOf #[.str p.1 t, .int p.2 t'])]) (fun _ => False) :=
  Con.mono (c_place_in hw) (fun _ _ q => by rw [h] at q; exact q) fun _ h => h
end
noncomputable def placeR (word : Str) (k : Int) : Except Int (Option (Str × Int)) := match placeO word with
  | none => .error (k - 1)
  | some x => .ok x
theorem wd_19 : True := by
  (k_with "execs cons" => ((fail_if_success (k_extra "offW4")); k_extra "W56"))
  (k_with "execs nil" => ((fail_if_success (k_extra "offW4")); k_extra "W57"))
  (k_with "call ref" => ((fail_if_success (k_extra "offW4")); k_extra "W50"))
  (k_with "call ref" => ((fail_if_success (k_extra "offW4")); k_extra "W58"))
  (k_with "m_len" => ((fail_if_success (k_extra "offW4")); k_extra "W59"))
  (k_with "W62" => ((k_here; (with_reducible show wpAny _ _ (call (Value.ref 216) _) _ _ _); (try (k_extra "m_foldq")); k_dflt (refine' use_conC (c_place_in_n (by k_extra "m_len") (by with_reducible assumption)) (by k_asm) (by k_asm) (by k_asm) (by k_asm) (by k_asm) (by exact rfl) (by exact rfl) (by k_room) (by k_units) (by k_extra "m_sel") ?_ ?_); rotate_left; (intro _ _ _ _ _ _ _ _ _ hX'; exact (show False from hX').elim); (intro r' news' hP'; (obtain ⟨D', hv', hn'⟩ := hP'); (with_reducible refine subRN hv' hn' ?_); clear hv' hn'; clear news'; clear r'; (try ((with_reducible rename pairNe _ => dN8); clear dN8)); intro h' tk' F' N' hne'; (dsimp only [List.cons_append, List.nil_append] at N'); (try ((with_reducible refine foldN N' ?_); clear N'; intro n9 N')); (try k_sweep); (try dsimp only)))))
  (k_with "call ref" => ((fail_if_success (k_extra "offW4")); k_extra "W62"))
  (k_with "W63" => ((k_here; (with_reducible show wpAny _ _ (call (Value.ref 216) _) _ _ _); (try (k_extra "m_foldq")); k_dflt (refine' use_conC (c_place_in_0 (by k_extra "m_len") (by with_reducible assumption)) (by k_asm) (by k_asm) (by k_asm) (by k_asm) (by k_asm) (by exact rfl) (by exact rfl) (by k_room) (by k_units) (by k_extra "m_sel") ?_ ?_); rotate_left; (intro _ _ _ _ _ _ _ _ _ hX'; exact (show False from hX').elim); (intro r' news' hP'; (obtain ⟨D', hv', hn'⟩ := hP'); (with_reducible refine subRN hv' hn' ?_); clear hv' hn'; clear news'; clear r'; (try ((with_reducible rename pairNe _ => dN8); clear dN8)); intro h' tk' F' N' hne'; (dsimp only [List.cons_append, List.nil_append] at N'); (try ((with_reducible refine foldN N' ?_); clear N'; intro n9 N')); (try k_sweep); (try dsimp only)))))
  (k_with "call ref" => ((fail_if_success (k_extra "offW4")); k_extra "W63"))
  (k_with "W64" => ((k_here; (with_reducible show wpAny _ _ (call (Value.ref 216) _) _ _ _); (try (k_extra "m_foldq")); k_dflt (refine' use_conC (c_place_in_s (by k_extra "m_len") (by with_reducible assumption)) (by k_asm) (by k_asm) (by k_asm) (by k_asm) (by k_asm) (by exact rfl) (by exact rfl) (by k_room) (by k_units) (by k_extra "m_sel") ?_ ?_); rotate_left; (intro _ _ _ _ _ _ _ _ _ hX'; exact (show False from hX').elim); (intro r' news' hP'; (obtain ⟨D', D2', t1', t2', hv', hn'⟩ := hP'); (with_reducible refine subRN hv' hn' ?_); clear hv' hn'; clear news'; clear r'; (try ((with_reducible rename pairNe _ => dN8); clear dN8)); intro h' tk' F' N' hne'; (dsimp only [List.cons_append, List.nil_append] at N'); (try ((with_reducible refine foldN N' ?_); clear N'; intro n9 N')); (try k_sweep); (try dsimp only)))))
  (k_with "call ref" => ((fail_if_success (k_extra "offW4")); k_extra "W64"))
  trivial
noncomputable def PlaceV (o : Option (Str × Int)) (v : Value) (l : List (Addr × Obj)) : Prop := match o with
  | none => v = .none ∧ l = []
  | some p => ∃ D t t', v = .ref D ∧ l = [(D, tupOf #[.str p.1 t, .int p.2 t'])]
section
variable {w : World} {mean : ExcName → Option Value} {mg mb : Str → Option Value} {r d l : Addr} {k : Int} {a b c : Tok} {word : Str} {tw : Tok}
inductive PlaceP (w : World) (r d l : Addr) (k : Int) (a b c : Tok) (word : Str) (v : Value) (news' : List (Addr × Obj)) : Prop
  | mk (o : Option (Str × Int)) (n' : List (Addr × Obj)) (h1 : placeR word k = .ok o) (h2 : PlaceV o v n') (h3 : news' = n' ++ RDs w r d l k a b c) : PlaceP w r d l k a b c word v news'
theorem c_place (hw : word.length ≤ 900) : Con w mean mg mb 319 [.ref r, .str word tw] (RDs w r d l k a b c) 80
   (PlaceP w r d l k a b c word) (fun j => placeR word k = .error j) := by
  refine' (?zf : Scr _) ?zq _ ?zs
  case zq =>
    intro prog dp un gd base frs g s Q E S hdp hun hret hexn; refine nameRet hret ?_; clear hret; intro P9 hret
    dsimp only [RDs] at S
    cases hO : placeO word with
    | none =>
      k_extra "m_enter"
      k_steps
      exact hexn _ _ _ _ _ (by assumption) (by assumption) (by unfold placeR; rw [hO])
    | some o =>
      cases o with
      | none =>
        k_extra "m_enter"
        k_steps
        exact RetS.fin hret (by assumption) (by assumption) ⟨none, [], (by unfold placeR; rw [hO]), ⟨rfl, rfl⟩, rfl⟩ (by k_extra "m_subD")
      | some p =>
        k_extra "m_enter"
        k_steps
        refine' RetS.fin hret (by assumption) (by assumption) ⟨some p, _, (by unfold placeR; rw [hO]), ⟨_, _, _, rfl, rfl⟩, rfl⟩ ?hs
        case hs => k_extra "m_subD"
  case zs => show LetQ _ ?zq _; (try delta id foldQ letS2 letS hideG foldN subRN subN ltCut letAE nameRet); exact LetQ.refl
  case zf => intro _ r _; exact r
end

theorem wd_20 : True := by
  (k_with "offW4" => (skip))
  trivial
end
section -- W5
theorem wd_21 : True := by
  (k_with "execs cons" => ((fail_if_success (k_extra "offW5")); k_extra "W56"))
  (k_with "execs nil" => ((fail_if_success (k_extra "offW5")); k_extra "W57"))
  (k_with "call ref" => ((fail_if_success (k_extra "offW5")); k_extra "W50"))
  (k_with "call ref" => ((fail_if_success (k_extra "offW5")); k_extra "W58"))
  (k_with "m_len" => ((fail_if_success (k_extra "offW5")); k_extra "W59"))
  (k_with "W65" => ((k_here; (with_reducible show wpAny _ _ (call (Value.ref 305) _) _ _ _); (try (k_extra "m_foldq")); k_dflt (refine' use_conC (c_number (by k_extra "m_len")) (by k_asm) (by k_asm) (by k_asm) (by k_asm) (by k_asm) (by exact rfl) (by exact rfl) (by k_room) (by k_units) (by k_extra "m_sel") ?_ ?_); rotate_left; (intro G' e' D' j' h' tk' FG' R' U' hX'; (try dsimp only)); rotate_left; (intro r' news' hP'; (obtain ⟨t9', ho', h0', hv', hn'⟩ := hP'); (with_reducible refine subRN hv' hn' ?_); clear hv' hn'; clear news'; clear r'; (try ((with_reducible rename pairNe _ => dN8); clear dN8)); intro h' tk' F' N' hne'; (dsimp only [List.cons_append, List.nil_append] at N'); (try ((with_reducible refine foldN N' ?_); clear N'; intro n9 N')); (try k_sweep); (try dsimp only)))))
  (k_with "call ref" => ((fail_if_success (k_extra "offW5")); k_extra "W65"))
  (k_with "W66" => ((k_here; (with_reducible show wpAny _ _ (call (Value.ref 312) _) _ _ _); (try (k_extra "m_foldq")); k_dflt (refine' use_conC (c_text (by k_extra "m_len")) (by k_asm) (by k_asm) (by k_asm) (by k_asm) (by k_asm) (by exact rfl) (by exact rfl) (by k_room) (by k_units) (by k_extra "m_sel") ?_ ?_); rotate_left; (intro G' e' D' j' h' tk' FG' R' U' hX'; (try dsimp only)); rotate_left; (intro r' news' hP'; (obtain ⟨x', t9', ho', hv', hn'⟩ := hP'); (with_reducible refine subRN hv' hn' ?_); clear hv' hn'; clear news'; clear r'; (try ((with_reducible rename pairNe _ => dN8); clear dN8)); intro h' tk' F' N' hne'; (dsimp only [List.cons_append, List.nil_append] at N'); (try ((with_reducible refine foldN N' ?_); clear N'; intro n9 N')); (try k_sweep); (try dsimp only)))))
  (k_with "call ref" => ((fail_if_success (k_extra "offW5")); k_extra "W66"))
  trivial
noncomputable def tagNum (b : Bool) (x : Except Int Int) : Except Int (Bool × Int) := match x with
  | .ok n => .ok (b, n)
  | .error j => .error j
noncomputable def captureO (word : Str) (k : Int) : Except Int (Bool × Int) :=
  if (Txt.slice word none (some ((5 : Nat) : Int)) == Str.ofString "frame") = true then tagNum (Str.ofString "frame" == Str.ofString "frame") (numO (Txt.slice word (some ((5 : Nat) : Int)) none) k)
  else if (Txt.slice word none (some ((7 : Nat) : Int)) == Str.ofString "closure") = true then tagNum (Str.ofString "closure" == Str.ofString "frame") (numO (Txt.slice word (some ((7 : Nat) : Int)) none) k)
  else .error (k - 1)
section
variable {word : Str} {k : Int}
theorem capt1 {x : Except Int Int} (h : (Txt.slice word none (some ((5 : Nat) : Int)) == Str.ofString "frame") = true) (e : numO (Txt.slice word (some ((5 : Nat) : Int)) none) k = x) : captureO word k = tagNum (Str.ofString "frame" == Str.ofString "frame") x := by
  unfold captureO; rw [if_pos h, e]
theorem capt2 {x : Except Int Int} (h : (Txt.slice word none (some ((5 : Nat) : Int)) == Str.ofString "frame") = false) (h2 : (Txt.slice word none (some ((7 : Nat) : Int)) == Str.ofString "closure") = true) (e : numO (Txt.slice word (some ((7 : Nat) : Int)) none) k = x) : captureO word k = tagNum (Str.ofString "closure" == Str.ofString "frame") x := by
  unfold captureO; rw [if_neg (by rw [h]; decide), if_pos h2, e]
theorem capt3 (h : (Txt.slice word none (some ((5 : Nat) : Int)) == Str.ofString "frame") = false) (h2 : (Txt.slice word none (some ((7 : Nat) : Int)) == Str.ofString "closure") = false) : captureO word k = .error (k - 1) := by
  unfold captureO; rw [if_neg (by rw [h]; decide), if_neg (by rw [h2]; decide)]
end
section
variable {w : World} {mean : ExcName → Option Value} {mg mb : Str → Option Value} {r d l : Addr} {k : Int} {a b c : Tok} {word : Str} {tw : Tok}
inductive CapP (w : World) (r d l : Addr) (k : Int) (a b c : Tok) (word : Str) (v : Value) (news' : List (Addr × Obj)) : Prop
  | mk (D : Addr) (x : Bool × Int) (t : Tok) (h1 : captureO word k = .ok x) (h2 : v = .ref D) (h3 : news' = (D, tupOf #[.bool x.1, .int x.2 t]) :: RDs w r d l k a b c) : CapP w r d l k a b c word v news'
theorem c_capture (hw : word.length ≤ 900) : Con w mean mg mb 338 [.ref r, .str word tw] (RDs w r d l k a b c) 80
   (CapP w r d l k a b c word) (fun j => captureO word k = .error j) := by
  refine' (?zf : Scr _) ?zq _ ?zs
  case zq =>
    intro prog dp un gd base frs g s Q E S hdp hun hret hexn; refine nameRet hret ?_; clear hret; intro P9 hret
    dsimp only [RDs] at S
    k_extra "m_enter"
    k_steps
    · refine' RetS.fin hret (by assumption) (by assumption) ⟨_, _, _, capt1 (by with_reducible assumption) (by with_reducible assumption), rfl, rfl⟩ ?hs1
      case hs1 => k_extra "m_subD"
    · exact hexn _ _ _ _ _ (by assumption) (by assumption) (capt1 (by with_reducible assumption) (by with_reducible assumption))
    · refine' RetS.fin hret (by assumption) (by assumption) ⟨_, _, _, capt2 (by with_reducible assumption) (by with_reducible assumption) (by with_reducible assumption), rfl, rfl⟩ ?hs2
      case hs2 => k_extra "m_subD"
    · exact hexn _ _ _ _ _ (by assumption) (by assumption) (capt2 (by with_reducible assumption) (by with_reducible assumption) (by with_reducible assumption))
    · exact hexn _ _ _ _ _ (by assumption) (by assumption) (capt3 (by with_reducible assumption) (by with_reducible assumption))
  case zs => show LetQ _ ?zq _; (try delta id foldQ letS2 letS hideG foldN subRN subN ltCut letAE nameRet); exact LetQ.refl
  case zf => intro _ r _; exact r
end

theorem wd_22 : True := by
  (k_with "offW5" => (skip))
  trivial
end
section -- W6
theorem wd_23 : True := by
  (k_with "execs cons" => ((fail_if_success (k_extra "offW6")); k_extra "W56"))
  (k_with "execs nil" => ((fail_if_success (k_extra "offW6")); k_extra "W57"))
  (k_with "call ref" => ((fail_if_success (k_extra "offW6")); k_extra "W50"))
  (k_with "call ref" => ((fail_if_success (k_extra "offW6")); k_extra "W58"))
  (k_with "m_len" => ((fail_if_success (k_extra "offW6")); k_extra "W59"))
  (k_with "call ref" => ((fail_if_success (k_extra "offW6")); k_extra "W65"))
  (k_with "call ref" => ((fail_if_success (k_extra "offW6")); k_extra "W66"))
  (k_with "W67" => ((k_here; (with_reducible show wpAny _ _ (call (Value.ref 326) _) _ _ _); (try (k_extra "m_foldq")); k_dflt (refine' use_conC c_need_t (by k_asm) (by k_asm) (by k_asm) (by k_asm) (by k_asm) (by exact rfl) (by exact rfl) (by k_room) (by k_units) (by k_extra "m_sel") ?_ ?_); rotate_left; (intro _ _ _ _ _ _ _ _ _ hX'; exact (show False from hX').elim); (intro r' news' hP'; ((refine cj2 hP' ?_); clear hP'; intro hv' hn'); (with_reducible refine subRN hv' hn' ?_); clear hv' hn'; clear news'; clear r'; (try ((with_reducible rename pairNe _ => dN8); clear dN8)); intro h' tk' F' N' hne'; (dsimp only [List.cons_append, List.nil_append] at N'); (try ((with_reducible refine foldN N' ?_); clear N'; intro n9 N')); (try k_sweep); (try dsimp only)))))
  (k_with "call ref" => ((fail_if_success (k_extra "offW6")); k_extra "W67"))
  (k_with "W68" => ((k_here; (with_reducible show wpAny _ _ (call (Value.ref 326) _) _ _ _); (try (k_extra "m_foldq")); k_dflt (refine' use_conC c_need_f (by k_asm) (by k_asm) (by k_asm) (by k_asm) (by k_asm) (by exact rfl) (by exact rfl) (by k_room) (by k_units) (by k_extra "m_sel") ?_ ?_); rotate_left; (intro G' e' D' j' h' tk' FG' R' U' hX'; (try dsimp only)); rotate_left; (intro r' news' hP'; exact (show False from hP').elim))))
  (k_with "call ref" => ((fail_if_success (k_extra "offW6")); k_extra "W68"))
  trivial
noncomputable def tagS (x : Except Int Str) : Except Int (Str ⊕ Int) := match x with
  | .ok y => .ok (.inl y)
  | .error j => .error j
noncomputable def tagI (x : Except Int Int) : Except Int (Str ⊕ Int) := match x with
  | .ok y => .ok (.inr y)
  | .error j => .error j
noncomputable def constO (ws : List Str) (k : Int) : Except Int (Str ⊕ Int) := match ws with
  | [x] => if (Txt.slice x none (some 1) == Str.ofString "\"") = true then tagS (textO x k) else tagI (numO x k)
  | _ => .error (k - 1)
noncomputable def ConstV (o : Str ⊕ Int) (v : Value) : Prop := match o with
  | .inl x => ∃ t, v = .str x t
  | .inr n => ∃ t, v = .int n t
theorem const1 {p : Str × Tok} {k : Int} {x : Except Int Str} (h : (Txt.slice p.1 none (some 1) == Str.ofString "\"") = true) (e : textO p.1 k = x) : constO (texts [p]) k = tagS x := by
  rw [← e]; exact if_pos h
theorem const2 {p : Str × Tok} {k : Int} {x : Except Int Int} (h : (Txt.slice p.1 none (some 1) == Str.ofString "\"") = false) (e : numO p.1 k = x) : constO (texts [p]) k = tagI x := by
  rw [← e]; exact if_neg (by rw [h]; decide)
section
variable {w : World} {mean : ExcName → Option Value} {mg mb : Str → Option Value} {r d l la : Addr} {k : Int} {a b c : Tok} {ls pl : List (Str × Tok)}
inductive ConP (w : World) (r d l : Addr) (k : Int) (a b c : Tok) (pl : List (Str × Tok)) (v : Value) (news' : List (Addr × Obj)) : Prop
  | mk (o : Str ⊕ Int) (h1 : constO (texts pl) k = .ok o) (h2 : ConstV o v) (h3 : news' = RDs w r d l k a b c) : ConP w r d l k a b c pl v news'
theorem c_constant1 {p : Str × Tok} (hR : Rows [p]) : Con w mean mg mb 345 [.ref r, .ref la] ((la, W.listOf (strValues [p]).toArray 0) :: RDs w r d l k a b c) 100
   (ConP w r d l k a b c [p]) (fun j => constO (texts [p]) k = .error j) := by
  refine' (?zf : Scr _) ?zq _ ?zs
  case zq =>
    intro prog dp un gd base frs g s Q E S hdp hun hret hexn; refine nameRet hret ?_; clear hret; intro P9 hret
    dsimp only [RDs] at S
    have hp := hR.2 _ (List.mem_singleton.mpr rfl)
    k_extra "m_enter"
    k_steps
    · exact RetS.fin hret (by assumption) (by assumption) ⟨.inl _, const1 (by with_reducible assumption) (by with_reducible assumption), ⟨_, rfl⟩, rfl⟩ (by k_extra "m_subD")
    · exact hexn _ _ _ _ _ (by assumption) (by assumption) (const1 (by with_reducible assumption) (by with_reducible assumption))
    · exact RetS.fin hret (by assumption) (by assumption) ⟨.inr _, const2 (by with_reducible assumption) (by with_reducible assumption), ⟨_, rfl⟩, rfl⟩ (by k_extra "m_subD")
    · exact hexn _ _ _ _ _ (by assumption) (by assumption) (const2 (by with_reducible assumption) (by with_reducible assumption))
  case zs => show LetQ _ ?zq _; (try delta id foldQ letS2 letS hideG foldN subRN subN ltCut letAE nameRet); exact LetQ.refl
  case zf => intro _ r _; exact r
theorem c_constant0 (hR : Rows pl) (hn : ¬ (pl.length : Int) = 1) : Con w mean mg mb 345 [.ref r, .ref la] ((la, W.listOf (strValues pl).toArray 0) :: RDs w r d l k a b c) 100
   (fun v news' => False) (fun j => j = k - 1) := by
  refine' (?zf : Scr _) ?zq _ ?zs
  case zq =>
    intro prog dp un gd base frs g s Q E S hdp hun hret hexn; refine nameRet hret ?_; clear hret; intro P9 hret
    dsimp only [RDs] at S
    have hl := hR.1
    k_extra "m_enter"
    k_steps
    all_goals first
      | (exfalso; omega)
      | exact hexn _ _ _ _ _ (by assumption) (by assumption) (by first | rfl | assumption)
  case zs => show LetQ _ ?zq _; (try delta id foldQ letS2 letS hideG foldN subRN subN ltCut letAE nameRet); exact LetQ.refl
  case zf => intro _ r _; exact r

theorem c_constant (hR : Rows pl) : Con w mean mg mb 345 [.ref r, .ref la] ((la, W.listOf (strValues pl).toArray 0) :: RDs w r d l k a b c) 100
   (ConP w r d l k a b c pl) (fun j => constO (texts pl) k = .error j) := by
  match pl, hR with
  | [], hR => exact Con.mono (c_constant0 hR (by simp)) (fun _ _ h => h.elim) fun j h => by rw [h]; rfl
  | [p], hR => exact c_constant1 hR
  | p :: q :: pl, hR => exact Con.mono (c_constant0 hR (by simp; omega)) (fun _ _ h => h.elim) fun j h => by rw [h]; rfl
end

theorem wd_24 : True := by
  (k_with "offW6" => (skip))
  trivial
end
section -- O2
noncomputable def EBPost (h₀ : Heap) (L : Addr) (s₁ : Shared) (its : List (Addr × Obj)) (J : (Str → Option Value) → Prop) (Q : Flow → Shared → Prop) (f : Flow) (s₂ : Shared) : Prop :=
  match f with
  | .ret v => Q (.ret v) s₂
  | .brk => Q .next s₂
  | _ => ∃ h' tk m', s₂ = { s₁ with heap := h', toks := tk } ∧ Fr h₀ L h' m' ∧ News h₀ L h' its ∧ J m'
section
variable {prog : Program} {w : World} {A : Around} {E : Value → Shared → Prop} {s : Shared} {env : Env} {h₀ : Heap} {elts : List Expr} {k : Nat} {pos : Pos} {body : List Stmt} {Q : Flow → Shared → Prop}
  {l : Addr} {vs : List Value} {m₀ : Str → Option Value} {J : Nat → (Str → Option Value) → Prop}
theorem enum_base (hh : A.handled = none) (F : Fr h₀ env.locals s.heap m₀) (hl₀ : h₀.IsList l vs.toArray) (J0 : J 0 m₀)
    (step : ∀ (i : Nat) (x : Value) (t T tk : Nat) (h : Heap) (m : Str → Option Value) (e it : Addr) (oe oi : Obj), vs[i]? = some x → J i m → h.IsTuple T #[.int i t, x] → Fr h₀ env.locals h m → News h₀ env.locals h [(e, oe), (it, oi)] → oe.cls = .type "enumerate" → oi.cls = .type "list_iterator" → LtA it e →
      wpAny (model prog w) A (assign (.Tuple elts k pos) env (.ref T)) (fun _ s₂ => wpAny (model prog w) A (execs body env) (EBPost h₀ env.locals s [(e, oe), (it, oi)] (J (i + 1)) Q) E s₂) E { s with heap := h, toks := tk })
    (done : ∀ h tk m, Fr h₀ env.locals h m → J vs.length m → Q .next { s with heap := h, toks := tk }) :
    wpAny (model prog w) A (call (.type "enumerate") [.ref l]) (fun xv s₁ => wpAny (model prog w) A (pyIter xv) (fun it s₂ => TurnsAt prog w A h₀ env (.Tuple elts k pos) body Q E it s₂) E s₁) E s := by
  have hl : s.heap.IsList l vs.toArray := F.lst hl₀
  obtain ⟨lo, hlo, _⟩ := hl₀
  have hlt : l < s.heap.objs.size := by obtain ⟨o, ho, _⟩ := hl; exact Heap.lt_size ho
  have hLs : env.locals < s.heap.objs.size := F.ns.lt
  have hLl : env.locals ≠ l := fun h => by
    rw [← h] at hlo; exact absurd (Heap.lt_size hlo) (Nat.not_lt_of_le F.above)
  refine call_enumerate_list hl fun h' hE hI hsz hk => ?_
  refine wpAny_pyIter_enum hE ?_
  have W := KTurns.ofWalksU (elts := elts) (k := k) (pos := pos) (WalksT.enumerate (prog := prog) (w := w) hh (s.heap.objs.size + 1) s.heap.objs.size l (Nat.succ_ne_self _) (ktu_ne 1 hlt) (Nat.ne_of_lt hlt) vs.toArray).toU
  have ne1 : h₀.get? (s.heap.objs.size + 1) = none := ktu_new F (Nat.le_add_right _ _)
  have ne0 : h₀.get? s.heap.objs.size = none := ktu_new F (Nat.le_refl _)
  refine ix10 _ _ _ _ _ _ _ m₀ [] (fun i m n => n = [] ∧ J i m) ⟨rfl, W, ?_, ?_, ?_, ?_, ?_, ?_, ?_, ?_, ?_⟩
  · intro hx
    have hb' : env.locals = s.heap.objs.size + 1 ∨ env.locals = s.heap.objs.size ∨ env.locals = l := by simpa using hx
    rcases hb' with e | e | e
    · exact ktu_ne 1 hLs e
    · exact Nat.ne_of_lt hLs e
    · exact hLl e
  · intro b hb
    have hb' : b = s.heap.objs.size + 1 ∨ b = s.heap.objs.size := by simpa using hb
    rcases hb' with rfl | rfl
    · exact ne1
    · exact ne0
  · exact fun p hp => nomatch hp
  · exact ⟨⟨.none, hE⟩, hI, hl.at fun o e => hk l o e⟩
  · exact F.keeps hk
  · exact fun p hp => nomatch hp
  · exact ⟨rfl, J0⟩
  · rintro i v m₁ news₁ h₁ tk₁ own hin ⟨T, vals, rfl, ⟨t, x, hx, rfl⟩, hT⟩ ⟨rfl, hJ⟩ _ hown hget hall ⟨⟨old, he⟩, ⟨oi, hoi, hic, _⟩, _⟩ F₁ N₁
    obtain ⟨oe, h1, h2⟩ : ∃ oe : Obj, h₁.get? (s.heap.objs.size + 1) = some oe ∧ oe.cls = .type "enumerate" := ⟨_, he, rfl⟩
    have m1 := hall _ (by simp) ne1 _ h1
    have m0 := hall _ (by simp) ne0 _ hoi
    have N₂ : News h₀ env.locals h₁ [(s.heap.objs.size + 1, oe), (s.heap.objs.size, oi)] := fun p hp => by
      rcases List.mem_cons.mp hp with rfl | hp
      · exact N₁ _ (List.mem_append_left _ m1)
      · rw [List.mem_singleton.mp hp]; exact N₁ _ (List.mem_append_left _ m0)
    refine wpAny_mono (step i x t T tk₁ h₁ m₁ _ _ oe oi (by simpa using hx) hJ hT F₁ N₂ h2 hic (Nat.lt_succ_self _)) (fun _ s₂ q => wpAny_mono q (fun f s₃ p => ?_) fun _ _ e => e) fun _ _ e => e
    have fin : (∃ h' tk m', s₃ = { s with heap := h', toks := tk } ∧ Fr h₀ env.locals h' m' ∧ News h₀ env.locals h' [(s.heap.objs.size + 1, oe), (s.heap.objs.size, oi)] ∧ J (i + 1) m') →
        LoopStepU h₀ env.locals [s.heap.objs.size + 1, s.heap.objs.size] own (fun m n => n = [] ∧ J (i + 1) m) { s with heap := h₁, toks := tk₁ } .next s₃ := by
      rintro ⟨h', tk, m', e, F', N', hJ'⟩
      refine ⟨rfl, h', tk, m', [], e, F', ?_, (fun p hp => nomatch hp), rfl, hJ'⟩
      rintro ⟨pa, po⟩ hp
      rw [List.append_nil] at hp
      have hb' : pa = s.heap.objs.size + 1 ∨ pa = s.heap.objs.size ∨ pa = l := by simpa using hown _ hp
      have hg := hget _ hp
      rcases hb' with rfl | rfl | rfl
      · have : oe = po := Option.some.inj (h1.symm.trans hg)
        subst this; exact N' _ (by simp)
      · have : oi = po := Option.some.inj (hoi.symm.trans hg)
        subst this; exact N' _ (by simp)
      · have := (N₁ _ (List.mem_append_left _ hp)).2.2
        rw [hlo] at this; cases this
    cases f with
    | ret v => exact .ret p
    | brk => exact .brk p
    | next => exact .next (fin p)
    | cont => exact .cont (fin p)
  · rintro h' tk m' news' F' _ _ ⟨_, hJ⟩
    exact done h' tk m' F' (by simpa using hJ)
end

end
section -- O3
noncomputable def opRows : List (Str × Str) := [(Str.ofString "UNDEF", Str.ofString ""), (Str.ofString "NULL", Str.ofString ""), (Str.ofString "TRUE", Str.ofString ""), (Str.ofString "FALSE", Str.ofString ""), (Str.ofString "CONST", Str.ofString "k"), (Str.ofString "THIS", Str.ofString ""), (Str.ofString "POP", Str.ofString ""), (Str.ofString "DUP", Str.ofString ""), (Str.ofString "DUP2", Str.ofString ""), (Str.ofString "SWAP", Str.ofString ""), (Str.ofString "ROT3", Str.ofString ""), (Str.ofString "GETLOC", Str.ofString "l"), (Str.ofString "SETLOC", Str.ofString "l"), (Str.ofString "GETCELL", Str.ofString "c"), (Str.ofString "SETCELL", Str.ofString "c"), (Str.ofString "GETUP", Str.ofString "u"), (Str.ofString "SETUP", Str.ofString "u"), (Str.ofString "FRESH", Str.ofString "c"), (Str.ofString "GETGLOB", Str.ofString "s"), (Str.ofString "TYPEGLOB", Str.ofString "s"), (Str.ofString "SETGLOB", Str.ofString "s"), (Str.ofString "DECLVAR", Str.ofString "s"), (Str.ofString "DECLFUN", Str.ofString "s"), (Str.ofString "GETPROP", Str.ofString "s"), (Str.ofString "SETPROP", Str.ofString "s"), (Str.ofString "GETELEM", Str.ofString ""), (Str.ofString "SETELEM", Str.ofString ""), (Str.ofString "DELPROP", Str.ofString "s"), (Str.ofString "DELELEM", Str.ofString ""), (Str.ofString "DELNAME", Str.ofString "s"), (Str.ofString "ADD", Str.ofString ""), (Str.ofString "SUB", Str.ofString ""), (Str.ofString "MUL", Str.ofString ""), (Str.ofString "DIV", Str.ofString ""), (Str.ofString "MOD", Str.ofString ""), (Str.ofString "SHL", Str.ofString ""), (Str.ofString "SHR", Str.ofString ""), (Str.ofString "USHR", Str.ofString ""), (Str.ofString "AND", Str.ofString ""), (Str.ofString "OR", Str.ofString ""), (Str.ofString "XOR", Str.ofString ""), (Str.ofString "EQ", Str.ofString ""), (Str.ofString "NE", Str.ofString ""), (Str.ofString "SEQ", Str.ofString ""), (Str.ofString "SNE", Str.ofString ""), (Str.ofString "LT", Str.ofString ""), (Str.ofString "GT", Str.ofString ""), (Str.ofString "LE", Str.ofString ""), (Str.ofString "GE", Str.ofString ""), (Str.ofString "IN", Str.ofString ""), (Str.ofString "INSTANCEOF", Str.ofString ""), (Str.ofString "NEG", Str.ofString ""), (Str.ofString "TONUM", Str.ofString ""), (Str.ofString "NOT", Str.ofString ""), (Str.ofString "BITNOT", Str.ofString ""), (Str.ofString "TYPEOF", Str.ofString ""), (Str.ofString "INC", Str.ofString ""), (Str.ofString "DEC", Str.ofString ""), (Str.ofString "JMP", Str.ofString "t"), (Str.ofString "JF", Str.ofString "t"), (Str.ofString "JT", Str.ofString "t"), (Str.ofString "JFK", Str.ofString "t"), (Str.ofString "JTK", Str.ofString "t"), (Str.ofString "CALL", Str.ofString "n"), (Str.ofString "NEW", Str.ofString "n"), (Str.ofString "RET", Str.ofString ""), (Str.ofString "THROW", Str.ofString ""), (Str.ofString "CLOSURE", Str.ofString "f"), (Str.ofString "NEWOBJ", Str.ofString ""), (Str.ofString "NEWARR", Str.ofString "n"), (Str.ofString "HOLE", Str.ofString ""), (Str.ofString "INITPROP", Str.ofString "s"), (Str.ofString "INITGET", Str.ofString "s"), (Str.ofString "INITSET", Str.ofString "s"), (Str.ofString "METHOD", Str.ofString "s"), (Str.ofString "METHODEL", Str.ofString ""), (Str.ofString "FORIN", Str.ofString ""), (Str.ofString "NEXTIN", Str.ofString "t"), (Str.ofString "GOSUB", Str.ofString "t"), (Str.ofString "RETSUB", Str.ofString ""), (Str.ofString "CHECKOBJ", Str.ofString ""), (Str.ofString "TOKEY", Str.ofString ""), (Str.ofString "ROT4", Str.ofString ""), (Str.ofString "FAILSET", Str.ofString "s"), (Str.ofString "REGEXP", Str.ofString "")]
noncomputable def OpRow (h : Heap) (x : Value) (r : Str × Str) : Prop := ∃ a t1 t2 p t3 q t4, x = .ref a ∧ h.IsTuple a #[.str r.1 t1, .str r.2 t2, .int p t3, .int q t4]
inductive AllRows (h : Heap) : List Value → List (Str × Str) → Prop
  | nil : AllRows h [] []
  | cons {x : Value} {r : Str × Str} {xs : List Value} {rs : List (Str × Str)} (a : OpRow h x r) (b : AllRows h xs rs) : AllRows h (x :: xs) (r :: rs)
theorem AllRows.len {h : Heap} {xs : List Value} {rs : List (Str × Str)} (A : AllRows h xs rs) : xs.length = rs.length := by
  induction A with
  | nil => rfl
  | cons _ _ ih => simp [ih]
theorem AllRows.at {h : Heap} {xs : List Value} {rs : List (Str × Str)} (A : AllRows h xs rs) : ∀ {i : Nat} {x : Value}, xs[i]? = some x → ∃ r, rs[i]? = some r ∧ OpRow h x r := by
  induction A with
  | nil => intro i x e; cases e
  | cons a b ih =>
    intro i x e
    cases i with
    | zero => cases e; exact ⟨_, rfl, a⟩
    | succ i => exact ih e
theorem AllRows.cons' {K : Frag} {h : Heap} (X : K.In h) {a : Addr} {n m : Str} {t1 t2 t3 t4 : Tok} {p q : Int} {k : Nat} {xs : List Value} {rs : List (Str × Str)}
    (e : K.lookup a = some { cls := .type "tuple", data := .seq #[.str n t1, .str m t2, .int p t3, .int q t4] k }) (b : AllRows h xs rs) : AllRows h (.ref a :: xs) ((n, m) :: rs) :=
  .cons ⟨a, t1, t2, p, t3, q, t4, rfl, _, X _ _ e, rfl, k, rfl⟩ b
noncomputable def opVals : List Value := (List.range 85).map fun i => .ref (15 + i)
theorem opsAll {P : Params} {h : Heap} (X : (hd0.heap_1 P).In h) : AllRows h opVals opRows := by
  show AllRows h _ _
  unfold opRows
  repeat' (refine AllRows.cons' X rfl ?_)
  exact .nil
theorem opsList {P : Params} {h : Heap} (X : (hd0.heap_1 P).In h) : h.IsList 100 opVals.toArray := ⟨_, X 100 _ rfl, rfl, _, rfl⟩

end
section -- O4
noncomputable def opGo : List (Str × Str) → Str → Int → Int
  | [], _, _ => -1
  | r :: rs, word, i => if (r.1 == word) = true then i else opGo rs word (i + 1)
noncomputable def opO (word : Str) : Int := opGo opRows word 0
theorem drop_at {α} {xs : List α} {i : Nat} {x : α} (h : xs[i]? = some x) : xs.drop i = x :: xs.drop (i + 1) := by
  obtain ⟨h1, h2⟩ := List.getElem?_eq_some_iff.mp h
  rw [List.drop_eq_getElem_cons h1, h2]
section
variable {w : World} {mean : ExcName → Option Value} {mg mb : Str → Option Value} {word : Str} {tw : Tok}
noncomputable def OpJ (word : Str) (tw : Tok) (i : Nat) (m : Str → Option Value) : Prop := m (Str.ofString "name") = some (.str word tw) ∧ opO word = opGo (opRows.drop i) word i
theorem wd_25 : True := by
  (k_with "W69" => ((k_here; (rename Fr _ _ _ _ => lF'); (with_unfolding_all refine' For_turns lF' ?_; k_whole))))
  (k_with "exec For Tuple Call" => ((fail_if_success (k_extra "offO4")); k_extra "W69"))
  trivial
theorem newsNil {h₀ h : Heap} {L : Addr} {m : Str → Option Value} (_ : Fr h₀ L h m) : News h₀ L h [] := fun _ hp => nomatch hp
theorem opAt {P : Params} {h₀ h : Heap} {L : Addr} {m : Str → Option Value} {i : Nat} {x : Value} (_ : Fr h₀ L h m) (X : (hd0.heap_1 P).In h₀) (hx : opVals[i]? = some x) : ∃ nm kd a t1 t2 p t3 q t4, opRows[i]? = some (nm, kd) ∧ x = .ref a ∧ h₀.IsTuple a #[.str nm t1, .str kd t2, .int p t3, .int q t4] := by
  refine hideG ?_; intro g9; obtain ⟨⟨nm, kd⟩, hr, a, t1, t2, p, t3, q, t4, e, h⟩ := (opsAll X).at hx; k_unfold
  exact ⟨nm, kd, a, t1, t2, p, t3, q, t4, hr, e, h⟩
theorem itemT {prog : Program} {A : Around} {E : Value → Shared → Prop} {s : Shared} {h₀ : Heap} {L : Addr} {m : Str → Option Value} {value slice : Expr} {a : Addr} {vs : Array Value} {k : Int} {u : Tok} {x : Value} {Q : Value → Shared → Prop} (F : Fr h₀ L s.heap m) (hR : h₀.IsTuple a vs) (h0 : 0 ≤ k) (hfit : k < 2 ^ 63) (hk : k < vs.size) (hx : vs[k.toNat]? = some x) (h : Q x s)
    (hs : subscripted slice false (.ref a) (.int k u) = operate [.ref a, .int k u] (getItem (.ref a) (.int k u)) := by with_unfolding_all rfl) :
    wpAny (model prog w) A (subscriptTail value slice (.ref a) (.int k u)) Q E s :=
  tail_any (IsTup.typeIs (F.tup hR)) slot_tuple_getitem.lookup (PyProof.Rows.getItem_tuple (F.tup hR) (by omega) hfit (seqIndex_of h0 hk) hx h) hs
theorem itemT0 {prog : Program} {A : Around} {E : Value → Shared → Prop} {s : Shared} {h₀ : Heap} {L : Addr} {m : Str → Option Value} {value slice : Expr} {a : Addr} {x y p q : Value} {u : Tok} {Q : Value → Shared → Prop} (F : Fr h₀ L s.heap m) (hR : h₀.IsTuple a #[x, y, p, q]) (h : Q x s)
    (hs : subscripted slice false (.ref a) (.int 0 u) = operate [.ref a, .int 0 u] (getItem (.ref a) (.int 0 u)) := by with_unfolding_all rfl) :
    wpAny (model prog w) A (subscriptTail value slice (.ref a) (.int 0 u)) Q E s := itemT F hR (by decide) (by decide) (by simp) rfl h hs
theorem itemT1 {prog : Program} {A : Around} {E : Value → Shared → Prop} {s : Shared} {h₀ : Heap} {L : Addr} {m : Str → Option Value} {value slice : Expr} {a : Addr} {x y p q : Value} {u : Tok} {Q : Value → Shared → Prop} (F : Fr h₀ L s.heap m) (hR : h₀.IsTuple a #[x, y, p, q]) (h : Q y s)
    (hs : subscripted slice false (.ref a) (.int 1 u) = operate [.ref a, .int 1 u] (getItem (.ref a) (.int 1 u)) := by with_unfolding_all rfl) :
    wpAny (model prog w) A (subscriptTail value slice (.ref a) (.int 1 u)) Q E s := itemT F hR (by decide) (by decide) (by simp) rfl h hs
theorem opJ0 {m : Str → Option Value} (h : m (Str.ofString "name") = some (.str word tw)) : OpJ word tw 0 m := ⟨h, rfl⟩
theorem opJs {i : Nat} {m m' : Str → Option Value} {n k : Str} (J : OpJ word tw i m) (hr : opRows[i]? = some (n, k)) (hne : (n == word) = false) (hm : m' (Str.ofString "name") = m (Str.ofString "name")) : OpJ word tw (i + 1) m' := by
  refine ⟨hm.trans J.1, J.2.trans ?_⟩
  rw [drop_at hr]
  show (if (n == word) = true then _ else _) = _
  rw [if_neg (by rw [hne]; decide)]
  rfl
theorem opJf {i : Nat} {m : Str → Option Value} {n k : Str} (J : OpJ word tw i m) (hr : opRows[i]? = some (n, k)) (he : (n == word) = true) : opO word = i := by
  rw [J.2, drop_at hr]; exact if_pos he
theorem opJn {m : Str → Option Value} (J : OpJ word tw opVals.length m) : opO word = -1 := by
  rw [J.2]; rfl
theorem wd_26 : True := by
  (k_with "W70" => ((k_here; refine' enum_base (J := OpJ word tw) (by exact rfl) (by k_asm) (by exact opsList (by assumption)) (by exact opJ0 rfl) ?_ ?_; intro i x t T tk h m e it oe oi hx hJ hT F' N' hoe hoi hlt; (obtain ⟨nm, kd, a, t1, t2, p, t3, q, t4, hr, hxe, hR⟩ := opAt F' (by assumption) hx); subst hxe; (have hn := hJ.1); (dsimp only [LtA] at hlt); (try dsimp only); rotate_left; intro h tk m F' hJ; (have N' := newsNil F'); (try dsimp only))))
  (k_with "call type:enumerate" => ((fail_if_success (k_extra "offO4")); k_extra "W70"))
  (k_with "W71" => ((k_here; refine' itemT0 (by k_asm) (by with_reducible assumption) ?_ (by with_unfolding_all rfl); (try dsimp only))))
  (k_with "subscriptTail" => ((fail_if_success (k_extra "offO4")); k_extra "W71"))
  (k_with "W72" => ((k_here; k_dflt (refine' ld (by k_asm) (by assumption) ?_; k_whole))))
  (k_with "eval Name" => ((fail_if_success (k_extra "offO4")); k_extra "W72"))
  (k_with "W73" => ((k_here; k_dflt (refine' ld (by k_asm) (by exact rfl) ?_; k_whole))))
  (k_with "eval Name" => ((fail_if_success (k_extra "offO4")); k_extra "W73"))
  trivial
theorem c_opof : Con w mean mg mb 142 [.str word tw] [] 60 (fun v news' => (∃ t, v = .int (opO word) t) ∧ news' = []) (fun _ => False) := by
  refine' (?zf : Scr _) ?zq _ ?zs
  case zq =>
    intro prog dp un gd base frs g s Q E S hdp hun hret hexn; refine nameRet hret ?_; clear hret; intro P9 hret
    k_extra "m_enter"
    k_steps
    · rename OpJ _ _ _ _ => hJ
      have e := opJn hJ
      exact RetS.fin hret (by assumption) (by assumption) ⟨⟨_, by rw [e]⟩, rfl⟩ (by k_extra "m_subD")
    · dsimp only [EBPost]
      k_steps
      have e := opJf (by assumption : OpJ word tw _ _) (by assumption) (by assumption)
      refine' RetS.fin hret (by assumption) (by assumption) ⟨⟨_, by rw [e]⟩, rfl⟩ ?hs1
      case hs1 => k_extra "m_subD"
    · dsimp only [EBPost]
      exact ⟨_, _, _, rfl, by assumption, by assumption, opJs (by assumption) (by assumption) (by assumption) rfl⟩
  case zs => show LetQ _ ?zq _; (try delta id foldQ letS2 letS hideG foldN subRN subN ltCut letAE nameRet); exact LetQ.refl
  case zf => intro _ r _; exact r
end

theorem wd_27 : True := by
  (k_with "offO4" => (skip))
  trivial
end
section -- R2
section
variable {prog : Program} {w : World} {A : Around} {E : Value → Shared → Prop} {s : Shared} {h₀ : Heap} {L l : Addr} {news : List (Addr × Obj)} {n : Nat} {pl : List (Str × Tok)} {Q : Value → Shared → Prop} {x : Str} {t : Tok}
theorem strsAre_lst (pl : List (Str × Tok)) : StrsAre (strValues pl) (texts pl) := strsAre_of_values pl
theorem inStrs (N : News h₀ L s.heap news) (hm : (l, W.listOf (strValues pl).toArray n) ∈ news) (h : Q (.bool ((texts pl).any (· == x))) s) : wpAny (model prog w) A (compareOp .In (.str x t) (.ref l)) Q E s :=
  in_list_strs (isList_at N hm) (strsAre_lst pl) h
theorem isStr_at (k : Str) {vs : List Value} {ns : List Str} (H : StrsAre vs ns) (j : Nat) (h1 : j < vs.length) (h2 : j < ns.length) : isStrOf k vs[j] = (ns[j] == k) := by
  induction H generalizing j with
  | nil => exact absurd h1 (Nat.not_lt_zero _)
  | cons n t r ih =>
    cases j with
    | zero => rfl
    | succ j => exact ih j (Nat.lt_of_succ_lt_succ h1) (Nat.lt_of_succ_lt_succ h2)
theorem ne_of_lt_idxOfS {k : Str} {ns : List Str} {j : Nat} (h : j < ns.idxOf k) (h2 : j < ns.length) : (ns[j] == k) = false := by
  induction ns generalizing j with
  | nil => exact absurd h2 (Nat.not_lt_zero _)
  | cons n r ih =>
    have e : n ≠ k := fun e => by subst e; simp at h
    have hb : (n == k) = false := by simpa using e
    cases j with
    | zero => exact hb
    | succ j =>
      rw [List.idxOf_cons, hb] at h
      exact ih (Nat.lt_of_succ_lt_succ h) (Nat.lt_of_succ_lt_succ h2)
theorem idxStrs (N : News h₀ L s.heap news) (hm : (l, W.listOf (strValues pl).toArray n) ∈ news) (hz : Rows pl) (hk : (texts pl).any (· == x) = true) (h : Q (.int ((texts pl).idxOf x : Nat) s.toks) { s with toks := s.toks + 1 }) :
    wpAny (model prog w) A (call (.builtin "list.index") [.ref l, .str x t]) Q E s := by
  have hl := isList_at N hm
  have hi := strsAre_lst pl
  refine hideG ?_; intro g9; obtain ⟨⟨cls, dd, data, sl⟩, ho, hc, n, hd⟩ := id hl; k_unfold
  simp only at hc hd
  subst hc hd
  have hlen := hi.length
  have hk' : x ∈ texts pl := by
    rw [List.any_eq_true] at hk
    obtain ⟨y, hy, e⟩ := hk
    rw [← eq_of_beq e]; exact hy
  have hj : (texts pl).idxOf x < (texts pl).length := List.idxOf_lt_length_iff.mpr hk'
  have hb := hz.1
  have hb2 : (texts pl).length = pl.length := List.length_map _
  refine call_meets PySem.F.slot_list_index ⟨_, ho, rfl⟩ PySem.F.entry_list_index (PySem.F.args_list_index_2 _ _)
    (PySem.SeqAt.list_indexAt l (strValues pl).toArray n dd sl (.str x t) (isStrOf x) ((texts pl).idxOf x) (by simpa [hlen] using hj) (by omega) ?_ ?_) ⟨ho, fun y hy => PySem.MeetsSeq.EqGives.at (eq_isStrOf x t hi y (by simpa using hy)) _ _, h⟩
  · show isStrOf x (strValues pl)[(texts pl).idxOf x] = true
    rw [isStr_at x hi _ (by omega) hj]
    simpa using List.getElem_idxOf hj
  · intro j hjs hlt
    show isStrOf x (strValues pl)[j] = false
    rw [isStr_at x hi j (by simpa using hjs) (by omega)]
    exact ne_of_lt_idxOfS hlt _
end
noncomputable def cutW (ws : List Str) : List Str := if ws.any (· == Str.ofString ";") = true then ws.take (ws.idxOf (Str.ofString ";")) else ws
noncomputable def CutQ (h₀ : Heap) (L : Addr) (m : Str → Option Value) (pl : List (Str × Tok)) (news : List (Addr × Obj)) (s : Shared) (v : Value) (s' : Shared) : Prop :=
  ∃ D wl h' tk, v = .ref D ∧ s' = { s with heap := h', toks := tk } ∧ Fr h₀ L h' m ∧ News h₀ L h' ((D, W.listOf (strValues wl).toArray 0) :: news) ∧ texts wl = cutW (texts pl) ∧ Rows wl ∧ pairNe ((D, W.listOf (strValues wl).toArray 0) :: news)
theorem cut_here {prog : Program} {w : World} {A : Around} {E : Value → Shared → Prop} {s : Shared} {h₀ : Heap} {L D : Addr} {news : List (Addr × Obj)} {pl : List (Str × Tok)} {Q : Value → Shared → Prop} {m : Str → Option Value} {c : Sem Value} (_ : Fr h₀ L s.heap m) (_ : News h₀ L s.heap ((D, W.listOf (strValues pl).toArray 0) :: news))
    (g : wpAny (model prog w) A c (CutQ h₀ L m pl news s) E s)
    (h : ∀ D wl h' tk, Fr h₀ L h' m → News h₀ L h' ((D, W.listOf (strValues wl).toArray 0) :: news) → texts wl = cutW (texts pl) → Rows wl → pairNe ((D, W.listOf (strValues wl).toArray 0) :: news) → Q (.ref D) { s with heap := h', toks := tk }) :
    wpAny (model prog w) A c Q E s :=
  wpAny_mono g (fun v s' q9 => by obtain ⟨D, wl, h', tk, e1, e2, a, b, c, d, e⟩ := q9; subst e1; subst e2; exact h D wl h' tk a b c d e) fun _ _ e => e
theorem len34 {α} (wl : List α) : (∃ x0 x1 x2, wl = [x0, x1, x2]) ∨ (∃ x0 x1 x2 x3, wl = [x0, x1, x2, x3]) ∨ (¬ (wl.length : Int) = 3 ∧ ¬ (wl.length : Int) = 4) := by
  rcases wl with _ | ⟨x0, _ | ⟨x1, _ | ⟨x2, _ | ⟨x3, _ | ⟨x4, wl⟩⟩⟩⟩⟩
  · exact .inr (.inr (by simp))
  · exact .inr (.inr (by simp))
  · exact .inr (.inr (by simp))
  · exact .inl ⟨_, _, _, rfl⟩
  · exact .inr (.inl ⟨_, _, _, _, rfl⟩)
  · exact .inr (.inr (by simp; omega))
noncomputable def opArg (j : Int) : Bool := match opRows[j.toNat]? with
  | some r => r.2 != Str.ofString ""
  | none => false
noncomputable def rowO (ws : List Str) (n : Int) : Option (Int × Option Int × Int) := match cutW ws with
  | [x0, x1, x2] => if plainO x0 = n ∧ 0 ≤ plainO x0 ∧ 0 ≤ opO x2 ∧ opArg (opO x2) = false ∧ 0 ≤ plainO x1 then some (opO x2, none, plainO x1) else none
  | [x0, x1, x2, x3] => if plainO x0 = n ∧ 0 ≤ plainO x0 ∧ 0 ≤ opO x2 ∧ opArg (opO x2) = true ∧ 0 ≤ plainO x3 ∧ 0 ≤ plainO x1 then some (opO x2, some (plainO x3), plainO x1) else none
  | _ => none

end
section -- R3
noncomputable def NeA (a b : Nat) : Prop := a ≠ b
theorem NeA.ne {a b : Nat} (h : NeA a b) : a ≠ b := h
theorem NeA.en {a b : Nat} (h : NeA a b) : b ≠ a := Ne.symm h
theorem allLt_ne {d : Nat} (l : List (Addr × Obj)) (h : AllLt d l) : ∀ p ∈ l, p.1 ≠ d := by
  induction l with
  | nil => intro p hp; cases hp
  | cons q r ih =>
    intro p hp
    rcases List.mem_cons.mp hp with e | hp
    · rw [e]; exact Nat.ne_of_lt h.1
    · exact ih h.2 p hp
theorem rows3 {x0 x1 x2 : Str × Tok} (h : Rows [x0, x1, x2]) : x0.1.length ≤ 900 ∧ x1.1.length ≤ 900 ∧ x2.1.length ≤ 900 := ⟨h.2 _ (by simp), h.2 _ (by simp), h.2 _ (by simp)⟩
theorem rows4 {x0 x1 x2 x3 : Str × Tok} (h : Rows [x0, x1, x2, x3]) : x0.1.length ≤ 900 ∧ x1.1.length ≤ 900 ∧ x2.1.length ≤ 900 ∧ x3.1.length ≤ 900 := ⟨h.2 _ (by simp), h.2 _ (by simp), h.2 _ (by simp), h.2 _ (by simp)⟩
theorem opGo_lt (word : Str) (rs : List (Str × Str)) (i : Int) : opGo rs word i = -1 ∨ opGo rs word i < i + rs.length := by
  induction rs generalizing i with
  | nil => exact .inl rfl
  | cons r rs ih =>
    show (if (r.1 == word) = true then i else opGo rs word (i + 1)) = -1 ∨ (if (r.1 == word) = true then i else opGo rs word (i + 1)) < _
    rw [List.length_cons]
    split
    · right; omega
    · exact (ih (i + 1)).imp id fun h => by omega
theorem opO_lt {word : Str} : opO word < 85 := by
  rcases opGo_lt word opRows 0 with h | h
  · show opGo opRows word 0 < 85
    rw [h]; decide
  · have e : opRows.length = 85 := rfl
    rw [e] at h
    exact h
theorem opsItem {prog : Program} {w : World} {A : Around} {E : Value → Shared → Prop} {s : Shared} {h₀ : Heap} {L : Addr} {m : Str → Option Value} {value slice : Expr} {u : Tok} {word : Str} {P : Params} {Q : Value → Shared → Prop} (F : Fr h₀ L s.heap m) (X : (hd0.heap_1 P).In h₀) (h0 : 0 ≤ opO word)
    (h : ∀ a nm t1 kd t2 p t3 q t4, h₀.IsTuple a #[.str nm t1, .str kd t2, .int p t3, .int q t4] → opArg (opO word) = (kd != Str.ofString "") → Q (.ref a) s)
    (hs : subscripted slice false (.ref 100) (.int (opO word) u) = operate [.ref 100, .int (opO word) u] (getItem (.ref 100) (.int (opO word) u)) := by with_unfolding_all rfl) (hg : ∀ r, letTemporaryGo value (.ref 100) r = pure () := by intro _; with_unfolding_all rfl) :
    wpAny (model prog w) A (subscriptTail value slice (.ref 100) (.int (opO word) u)) Q E s := by
  have hlt := opO_lt (word := word)
  have hlen : opVals.length = 85 := by simp [opVals]
  obtain ⟨x, hx⟩ : ∃ x, opVals[(opO word).toNat]? = some x := ⟨_, List.getElem?_eq_getElem (by omega)⟩
  refine hideG ?_; intro g9; obtain ⟨nm, kd, a, t1, t2, p, t3, q, t4, hr, e, hT⟩ := opAt F X hx; k_unfold
  subst e
  exact item_list (F.lst (opsList X)) h0 (by omega) (by simpa using hx) (h a nm t1 kd t2 p t3 q t4 hT (by unfold opArg; rw [hr])) hs hg
section
variable {prog : Program} {w : World} {A : Around} {E : Value → Shared → Prop} {s : Shared} {h₀ : Heap} {L l : Addr} {news : List (Addr × Obj)} {n : Nat} {x0 x1 x2 x3 : Str × Tok} {Q : Value → Shared → Prop}
end

end
section -- N1
theorem wd_28 : True := by
  (k_with "offg3" => (skip))
  (k_with "x_omega" => ((fail_if_success (k_extra "offg4")); k_extra "W0"))
  (k_with "x_k_steps" => ((fail_if_success (k_extra "offg4")); k_extra "W1"))
  (k_with "x_k_ne" => ((fail_if_success (k_extra "offg4")); k_extra "W2"))
  (k_with "storeName" => ((fail_if_success (k_extra "offg4")); k_extra "W3"))
  (k_with "newList" => ((fail_if_success (k_extra "offg4")); k_extra "W4"))
  (k_with "newTuple" => ((fail_if_success (k_extra "offg4")); k_extra "W5"))
  (k_with "call builtin:list.append" => ((fail_if_success (k_extra "offg4")); k_extra "W6"))
  (k_with "setAttr ref" => ((fail_if_success (k_extra "offg4")); k_extra "W7"))
  (k_with "m_objs" => ((fail_if_success (k_extra "offg4")); k_extra "W8"))
  (k_with "m_foldq" => ((fail_if_success (k_extra "offg4")); k_extra "W9"))
  (k_with "x_k_upd" => ((fail_if_success (k_extra "offg4")); k_extra "W10"))
  (k_with "m_maskS" => ((fail_if_success (k_extra "offg4")); k_extra "W11"))
  (k_with "m_keep" => ((fail_if_success (k_extra "offg4")); k_extra "W12"))
  (k_with "m_subD" => ((fail_if_success (k_extra "offg4")); k_extra "W13"))
  (k_with "m_pickS" => ((fail_if_success (k_extra "offg4")); k_extra "W14"))
  (k_with "m_selS" => ((fail_if_success (k_extra "offg4")); k_extra "W15"))
  (k_with "m_updS" => ((fail_if_success (k_extra "offg4")); k_extra "W16"))
  (k_with "m_keyS" => ((fail_if_success (k_extra "offg4")); k_extra "W17"))
  (k_with "m_neD" => ((fail_if_success (k_extra "offg4")); k_extra "W18"))
  (k_with "m_sel" => ((fail_if_success (k_extra "offg4")); k_extra "W19"))
  (k_with "m_pick" => ((fail_if_success (k_extra "offg4")); k_extra "W20"))
  (k_with "m_tailD" => ((fail_if_success (k_extra "offg4")); k_extra "W21"))
  (k_with "m_tailD1" => ((fail_if_success (k_extra "offg4")); k_extra "W22"))
  (k_with "m_foot" => ((fail_if_success (k_extra "offg4")); k_extra "W23"))
  (k_with "m_pnk" => ((fail_if_success (k_extra "offg4")); k_extra "W24"))
  (k_with "m_clrD" => ((fail_if_success (k_extra "offg4")); k_extra "W25"))
  (k_with "eval Call Attribute" => ((fail_if_success (k_extra "offg4")); k_extra "W26"))
  (k_with "eval Call Attribute" => ((fail_if_success (k_extra "offg4")); k_extra "W27"))
  (k_with "eval Call Attribute" => ((fail_if_success (k_extra "offg4")); k_extra "W28"))
  (k_with "eval Subscript" => ((fail_if_success (k_extra "offg4")); k_extra "W29"))
  (k_with "LeaveS" => ((fail_if_success (k_extra "offg4")); k_extra "W30"))
  (k_with "x_k_room" => ((fail_if_success (k_extra "offg4")); k_extra "W31"))
  (k_with "x_k_units" => ((fail_if_success (k_extra "offg4")); k_extra "W32"))
  (k_with "call builtin:str.split" => ((fail_if_success (k_extra "offg4")); k_extra "W33"))
  (k_with "m_enter" => ((fail_if_success (k_extra "offg4")); k_extra "W34"))
  (k_with "getMethod type:Exception" => ((fail_if_success (k_extra "offg4")); k_extra "W35"))
  (k_with "exec Raise some none" => ((fail_if_success (k_extra "offg4")); k_extra "W36"))
  (k_with "call ref cons nil" => ((fail_if_success (k_extra "offg4")); k_extra "W37"))
  (k_with "RBPost" => ((fail_if_success (k_extra "offg4")); k_extra "W38"))
  (k_with "leaving ref" => ((fail_if_success (k_extra "offg4")); k_extra "W39"))
  (k_with "m_exn" => ((fail_if_success (k_extra "offg4")); k_extra "W40"))
  (k_with "call builtin:len cons nil" => ((fail_if_success (k_extra "offg4")); k_extra "W41"))
  (k_with "subscriptTail Name Constant ref int" => ((fail_if_success (k_extra "offg4")); k_extra "W42"))
  (k_with "subscriptTail" => ((fail_if_success (k_extra "offg4")); k_extra "W42"))
  (k_with "W74" => ((k_here; k_dflt (refine' sliceFromStrs (by k_asm) (by k_asm) (by k_mem) (by omega) (by assumption) ?_ (by with_unfolding_all rfl) (by kmk_pure)); intro D' h' F' N' l1 z1; (try k_extra "klt"); (try simp only [Int.toNat_one, int_toNat4, List.drop_succ_cons, List.drop_zero, List.take_succ_cons, List.take_zero] at N' z1); (try ((with_reducible refine foldN N' ?_); clear N'; intro n9 N')); (try k_sweep))))
  (k_with "subscriptTail Name Slice ref ref" => ((fail_if_success (k_extra "offg4")); k_extra "W74"))
  (k_with "W75" => ((k_here; k_dflt (refine' sliceUptoStrs (by k_asm) (by k_asm) (by k_mem) (by omega) (by assumption) ?_ (by with_unfolding_all rfl) (by kmk_pure)); intro D' h' F' N' l1 z1; (try k_extra "klt"); (try simp only [Int.toNat_one, int_toNat4, List.drop_succ_cons, List.drop_zero, List.take_succ_cons, List.take_zero] at N' z1); (try ((with_reducible refine foldN N' ?_); clear N'; intro n9 N')); (try k_sweep))))
  (k_with "subscriptTail Name Slice ref ref" => ((fail_if_success (k_extra "offg4")); k_extra "W75"))
  (k_with "W76" => (try ((with_reducible rename And _ _ => hA'); (refine hideG ?_); intro g9; (repeat ((with_reducible rename And _ _ => hA'); (first | ((with_reducible refine cj32 hA' ?_); clear hA'; intro _ _ _ _ _ _ _ _ _ _ _ _ _ _ _ _ _ _ _ _ _ _ _ _ _ _ _ _ _ _ _ _) | ((with_reducible refine cj24 hA' ?_); clear hA'; intro _ _ _ _ _ _ _ _ _ _ _ _ _ _ _ _ _ _ _ _ _ _ _ _) | ((with_reducible refine cj20 hA' ?_); clear hA'; intro _ _ _ _ _ _ _ _ _ _ _ _ _ _ _ _ _ _ _ _) | ((with_reducible refine cj19 hA' ?_); clear hA'; intro _ _ _ _ _ _ _ _ _ _ _ _ _ _ _ _ _ _ _) | ((with_reducible refine cj18 hA' ?_); clear hA'; intro _ _ _ _ _ _ _ _ _ _ _ _ _ _ _ _ _ _) | ((with_reducible refine cj17 hA' ?_); clear hA'; intro _ _ _ _ _ _ _ _ _ _ _ _ _ _ _ _ _) | ((with_reducible refine cj16 hA' ?_); clear hA'; intro _ _ _ _ _ _ _ _ _ _ _ _ _ _ _ _) | ((with_reducible refine cj15 hA' ?_); clear hA'; intro _ _ _ _ _ _ _ _ _ _ _ _ _ _ _) | ((with_reducible refine cj14 hA' ?_); clear hA'; intro _ _ _ _ _ _ _ _ _ _ _ _ _ _) | ((with_reducible refine cj13 hA' ?_); clear hA'; intro _ _ _ _ _ _ _ _ _ _ _ _ _) | ((with_reducible refine cj12 hA' ?_); clear hA'; intro _ _ _ _ _ _ _ _ _ _ _ _) | ((with_reducible refine cj11 hA' ?_); clear hA'; intro _ _ _ _ _ _ _ _ _ _ _) | ((with_reducible refine cj10 hA' ?_); clear hA'; intro _ _ _ _ _ _ _ _ _ _) | ((with_reducible refine cj9 hA' ?_); clear hA'; intro _ _ _ _ _ _ _ _ _) | ((with_reducible refine cj8 hA' ?_); clear hA'; intro _ _ _ _ _ _ _ _) | ((with_reducible refine cj7 hA' ?_); clear hA'; intro _ _ _ _ _ _ _) | ((with_reducible refine cj6 hA' ?_); clear hA'; intro _ _ _ _ _ _) | ((with_reducible refine cj5 hA' ?_); clear hA'; intro _ _ _ _ _) | ((with_reducible refine cj4 hA' ?_); clear hA'; intro _ _ _ _) | ((with_reducible refine cj3 hA' ?_); clear hA'; intro _ _ _) | ((with_reducible refine cj2 hA' ?_); clear hA'; intro _ _)))); k_unfold)))
  (k_with "m_and" => ((fail_if_success (k_extra "offg4")); k_extra "W76"))
  (k_with "W77" => (first | (k_extra "m_neD") | first | (with_reducible exact NeA.ne (by assumption)) | (with_reducible exact NeA.en (by assumption)) | ((refine neN ?_); (try dsimp only); (first | (with_reducible exact NeA.ne (by assumption)) | (with_reducible exact NeA.en (by assumption)) | (exact Nat.ne_of_lt (by with_reducible assumption)) | (exact Nat.ne_of_gt (by with_reducible assumption)) | omega))))
  (k_with "x_k_ne" => ((fail_if_success (k_extra "offg4")); k_extra "W77"))
  (k_with "W78" => (first | exact List.forall_mem_nil _ | (with_reducible assumption) | (with_reducible exact neAll_iff.mp (by assumption)) | (with_reducible exact allLt_ne _ (by assumption)) | ((with_reducible refine' ch8 ?_ ?_ ?_ ?_ ?_ ?_ ?_ ?_ ?_); (focus k_extra "ne1"); (focus k_extra "ne1"); (focus k_extra "ne1"); (focus k_extra "ne1"); (focus k_extra "ne1"); (focus k_extra "ne1"); (focus k_extra "ne1"); (focus k_extra "ne1"); k_all) | ((with_reducible refine' ch4 ?_ ?_ ?_ ?_ ?_); (focus k_extra "ne1"); (focus k_extra "ne1"); (focus k_extra "ne1"); (focus k_extra "ne1"); k_all) | ((with_reducible refine' ch2 ?_ ?_ ?_); (focus k_extra "ne1"); (focus k_extra "ne1"); k_all) | ((with_reducible refine' ch1 ?_ ?_); (focus k_extra "ne1"); k_all) | ((first | refine' allNeC ?_ ?_ | refine' allC ?_ ?_); (focus k_ne); k_all)))
  (k_with "x_k_all" => ((fail_if_success (k_extra "offg4")); k_extra "W78"))
  (k_with "W79" => (with_reducible (first | assumption | exact List.mem_cons_self | exact memAt 1 rfl | exact memAt 2 rfl | exact memAt 3 rfl | exact memAt 4 rfl | exact memAt 5 rfl | exact memAt 6 rfl | exact memAt 7 rfl | exact memAt 8 rfl | exact memAt 9 rfl | exact memAt 10 rfl | exact memAt 11 rfl | exact memAt 12 rfl | exact memAt 13 rfl | exact memAt 14 rfl | exact memAt 15 rfl | exact memAt 16 rfl | exact memAt 17 rfl | exact memAt 18 rfl | exact memAt 19 rfl | exact memAt 20 rfl | exact memAt 21 rfl | exact memAt 22 rfl | exact memAt 23 rfl | exact memAt 24 rfl | exact memAt 25 rfl | exact memAt 26 rfl | exact memAt 27 rfl | exact memAt 28 rfl | exact memAt 29 rfl | exact memAt 30 rfl | exact memAt 31 rfl | exact memAt 32 rfl | exact memAt 33 rfl | exact memAt 34 rfl | exact memAt 35 rfl | exact memAt 36 rfl | exact memAt 37 rfl | exact memAt 38 rfl | exact memAt 39 rfl | exact memAt 40 rfl | exact memAt 41 rfl | exact memAt 42 rfl | exact memAt 43 rfl | exact memAt 44 rfl)))
  (k_with "x_k_mem" => ((fail_if_success (k_extra "offg4")); k_extra "W79"))
  (k_with "x_tb_rel" => ((fail_if_success (k_extra "offg4")); k_extra "W20"))
  (k_with "x_tb_start" => ((fail_if_success (k_extra "offg4")); k_extra "W19"))
  trivial
section
variable {w : World} {mean : ExcName → Option Value} {mg mb : Str → Option Value} {r d l : Addr} {k : Int} {a b c : Tok}
theorem c_need {bv : Bool} : Con w mean mg mb 326 [.ref r, .bool bv] (RDs w r d l k a b c) 15 (fun v news' => bv = true ∧ v = .none ∧ news' = RDs w r d l k a b c) (fun j => bv = false ∧ j = k - 1) := by
  refine' (?zf : Scr _) ?zq _ ?zs
  case zq =>
    cases bv
    · exact Con.mono c_need_f (fun _ _ h => h.elim) fun j h => ⟨rfl, h⟩
    · intro prog dp un gd base frs g s Q E S hdp hun hret hexn
      dsimp only [RDs] at S
      k_extra "m_enter"
      k_steps
      refine' RetS.fin hret (by assumption) (by assumption) ⟨rfl, rfl, rfl⟩ ?hs1
      case hs1 => k_extra "m_subD"
  case zs => show LetQ _ ?zq _; (try delta id foldQ letS2 letS hideG foldN subRN subN ltCut letAE nameRet); exact LetQ.refl
  case zf => intro _ r _; exact r
end

end
section -- LN
theorem lenOk {ls : List (Str × Tok)} (h : Rows ls) : (ls.length : Int) ≤ 100000 := by have := h.1; omega
noncomputable def LenIs (o : Obj) (n : Int) : Prop := ∃ vs k, o = W.listOf (List.toArray vs) k ∧ (vs.length : Int) = n
theorem lenIsV {vs : List Value} {k : Nat} : LenIs (W.listOf vs.toArray k) vs.length := ⟨_, _, rfl, rfl⟩
theorem lenIsS {ls : List (Str × Tok)} {k : Nat} : LenIs (W.listOf (strValues ls).toArray k) ls.length := ⟨_, _, rfl, by simp [strValues]⟩
theorem lenIs0 {k : Nat} : LenIs (W.listOf (strValues []).toArray k) 0 := ⟨_, _, rfl, rfl⟩
theorem lenIs1 {x0 : Str × Tok} {k : Nat} : LenIs (W.listOf (strValues [x0]).toArray k) 1 := ⟨_, _, rfl, rfl⟩
theorem lenIs2 {x0 x1 : Str × Tok} {k : Nat} : LenIs (W.listOf (strValues [x0, x1]).toArray k) 2 := ⟨_, _, rfl, rfl⟩
theorem lenIs3 {x0 x1 x2 : Str × Tok} {k : Nat} : LenIs (W.listOf (strValues [x0, x1, x2]).toArray k) 3 := ⟨_, _, rfl, rfl⟩
theorem lenIs4 {x0 x1 x2 x3 : Str × Tok} {k : Nat} : LenIs (W.listOf (strValues [x0, x1, x2, x3]).toArray k) 4 := ⟨_, _, rfl, rfl⟩
theorem lenIs5 {x0 x1 x2 x3 x4 : Str × Tok} {k : Nat} : LenIs (W.listOf (strValues [x0, x1, x2, x3, x4]).toArray k) 5 := ⟨_, _, rfl, rfl⟩
theorem lenAny {prog : Program} {w : World} {A : Around} {E : Value → Shared → Prop} {s : Shared} {h₀ : Heap} {L l : Addr} {news : List (Addr × Obj)} {o : Obj} {n : Int} {Q : Value → Shared → Prop} (N : News h₀ L s.heap news) (hm : (l, o) ∈ news) (ho : LenIs o n) (hl : n ≤ 100000)
    (h : Q (.int n (s.toks + 1)) { s with toks := s.toks + 1 + 1 }) : wpAny (model prog w) A (call (.builtin "len") [.ref l]) Q E s := by
  refine hideG ?_; intro g9; obtain ⟨vs, k, e91, hn⟩ := ho; k_unfold; subst e91
  subst hn
  exact lenVals N hm (by omega) h
noncomputable abbrev tupO (its : Array Value) (n : Nat) : Obj := { cls := .type "tuple", data := .seq its n }
section
variable {prog : Program} {w : World} {A : Around} {E : Value → Shared → Prop} {s : Shared} {h₀ : Heap} {L l : Addr} {news : List (Addr × Obj)} {n : Int} {Q : Value → Shared → Prop}
theorem in34 {a b t : Tok} {k : Nat} (r : Bool) (N : News h₀ L s.heap news) (hm : (l, tupO #[.int 3 a, .int 4 b] k) ∈ news) (hr : ((n = 3 ∨ n = 4) ∧ r = true) ∨ ((¬ n = 3 ∧ ¬ n = 4) ∧ r = false))
    (h : Q (.bool r) s) : wpAny (model prog w) A (compareOp .In (.int n t) (.ref l)) Q E s := by
  refine in_tuple_ints (ns := [3, 4]) (N.isTup hm) (IntsAre.cons 3 a (IntsAre.cons 4 b IntsAre.nil)) ?_
  have e : [3, 4].any (· == n) = r := by
    rcases hr with ⟨h1 | h1, rfl⟩ | ⟨h1, rfl⟩
    · subst h1; rfl
    · subst h1; rfl
    · simp; omega
  rw [e]; exact h
end

end
section -- R5
noncomputable def rowR (rows : List Str) (k n : Int) : Except Int (Int × Option Int × Int) := match wordsO rows k with
  | .ok ws => (match rowO ws n with
    | some x => .ok x
    | none => .error k)
  | .error j => .error j
section
variable {rows ws : List Str} {k n j : Int} {w0 x : Str} {x0 x1 x2 x3 : Str × Tok} {v : Bool}
theorem numO_err (h : numO x k = .error j) : ¬ 0 ≤ plainO x ∧ j = k - 1 := by
  unfold numO at h
  split at h
  · cases h; exact ⟨by omega, rfl⟩
  · cases h
theorem rowE0 (h : wordsO rows k = .error j) : rowR rows k n = .error j := by unfold rowR; rw [h]
theorem rowN (hw : wordsO rows k = .ok ws) (h : rowO ws n = none) (hj : j = k) : rowR rows k n = .error j := by subst hj; unfold rowR; simp only [hw, h]
theorem rowNj {p : Str × Tok} {pl : List (Str × Tok)} (hw : wordsO rows k = .ok (p.1 :: texts pl)) (h : rowO (texts (p :: pl)) n = none) (hj : j = k + 1 - 1) : rowR rows k n = .error j := rowN hw h (by omega)
theorem rowO3 (hc : texts [x0, x1, x2] = cutW ws) (h : ¬ (plainO x0.1 = n ∧ 0 ≤ plainO x0.1 ∧ 0 ≤ opO x2.1 ∧ opArg (opO x2.1) = false ∧ 0 ≤ plainO x1.1)) : rowO ws n = none := by
  unfold rowO; rw [← hc]; exact if_neg h
theorem rowO4 (hc : texts [x0, x1, x2, x3] = cutW ws) (h : ¬ (plainO x0.1 = n ∧ 0 ≤ plainO x0.1 ∧ 0 ≤ opO x2.1 ∧ opArg (opO x2.1) = true ∧ 0 ≤ plainO x3.1 ∧ 0 ≤ plainO x1.1)) : rowO ws n = none := by
  unfold rowO; rw [← hc]; exact if_neg h
theorem rowOx {wl : List (Str × Tok)} (hc : texts wl = cutW ws) (h3 : ¬ (wl.length : Int) = 3) (h4 : ¬ (wl.length : Int) = 4) : rowO ws n = none := by
  unfold rowO; rw [← hc]
  rcases wl with _ | ⟨a, _ | ⟨b, _ | ⟨c, _ | ⟨d, _ | ⟨e, l⟩⟩⟩⟩⟩
  · rfl
  · rfl
  · rfl
  · exact absurd rfl h3
  · exact absurd rfl h4
  · rfl
theorem eb1 {a b : Int} (h : (a == b) = false) : ¬ a = b := by simpa using h
theorem eb1t {a b : Int} (h : (a == b) = true) : a = b := by simpa using h
theorem eb2 {a : Int} (h : decide (0 ≤ a) = false) : ¬ 0 ≤ a := of_decide_eq_false h
theorem eb3 {o : Int} (ha : opArg o = v) (h : (((3 : Int) == 4) == v) = false) : ¬ opArg o = false := by subst ha; cases q : opArg o <;> simp_all
theorem eb3t {o : Int} (ha : opArg o = v) (h : (((3 : Int) == 4) == v) = true) : opArg o = false := by subst ha; cases q : opArg o <;> simp_all
theorem eb4 {o : Int} (ha : opArg o = v) (h : (((4 : Int) == 4) == v) = false) : ¬ opArg o = true := by subst ha; cases q : opArg o <;> simp_all
theorem eb4t {o : Int} (ha : opArg o = v) (h : (((4 : Int) == 4) == v) = true) : opArg o = true := by subst ha; cases q : opArg o <;> simp_all
theorem rowOk3 {p : Str × Tok} {pl : List (Str × Tok)} (hw : wordsO rows k = .ok (p.1 :: texts pl)) (hc : texts [x0, x1, x2] = cutW (texts (p :: pl))) (h1 : (plainO x0.1 == n) = true) (h2 : 0 ≤ plainO x0.1) (h3 : 0 ≤ opO x2.1) (ha : opArg (opO x2.1) = v) (h4 : (((3 : Int) == 4) == v) = true) (h5 : 0 ≤ plainO x1.1) :
    rowR rows k n = .ok (opO x2.1, none, plainO x1.1) := by
  have e : rowO (texts (p :: pl)) n = some (opO x2.1, none, plainO x1.1) := by unfold rowO; rw [← hc]; exact if_pos ⟨eb1t h1, h2, h3, eb3t ha h4, h5⟩
  unfold rowR; simp only [hw]; exact (by simp only [show rowO (p.1 :: texts pl) n = _ from e])
theorem rowOk4 {p : Str × Tok} {pl : List (Str × Tok)} (hw : wordsO rows k = .ok (p.1 :: texts pl)) (hc : texts [x0, x1, x2, x3] = cutW (texts (p :: pl))) (h1 : (plainO x0.1 == n) = true) (h2 : 0 ≤ plainO x0.1) (h3 : 0 ≤ opO x2.1) (ha : opArg (opO x2.1) = v) (h4 : (((4 : Int) == 4) == v) = true) (h5 : 0 ≤ plainO x3.1) (h6 : 0 ≤ plainO x1.1) :
    rowR rows k n = .ok (opO x2.1, some (plainO x3.1), plainO x1.1) := by
  have e : rowO (texts (p :: pl)) n = some (opO x2.1, some (plainO x3.1), plainO x1.1) := by unfold rowO; rw [← hc]; exact if_pos ⟨eb1t h1, h2, h3, eb4t ha h4, h5, h6⟩
  unfold rowR; simp only [hw]; exact (by simp only [show rowO (p.1 :: texts pl) n = _ from e])
end
noncomputable def ArgV (o : Option Int) (v : Value) : Prop := match o with
  | none => v = .none
  | some n => ∃ t, v = .int n t

end
section -- RW
theorem wd_29 : True := by
  (k_with "execs cons" => ((fail_if_success (k_extra "offRW")); k_extra "W56"))
  (k_with "execs nil" => ((fail_if_success (k_extra "offRW")); k_extra "W57"))
  (k_with "m_len" => ((fail_if_success (k_extra "offRW")); k_extra "W59"))
  (k_with "W80" => ((k_here; (with_reducible show wpAny _ _ (call (Value.ref 291) _) _ _ _); (try (k_extra "m_foldq")); k_dflt (refine' use_conC (c_words (by omega) (by assumption)) (by k_asm) (by k_asm) (by k_asm) (by k_asm) (by k_asm) (by exact rfl) (by exact rfl) (by k_room) (by k_units) (by tb_start) ?_ ?_); rotate_left; (intro G' e' D' j' h' tk' FG' R' U' hX'; (try dsimp only)); rotate_left; (intro r' news' hP'; (obtain ⟨D', p0', pl', ho', hv', hz', hn'⟩ := hP'); (with_reducible refine subRN hv' hn' ?_); clear hv' hn'; clear news'; clear r'; (try ((with_reducible rename pairNe _ => dN8); clear dN8)); intro h' tk' F' N' hne'; (dsimp only [List.cons_append, List.nil_append] at N'); (try ((with_reducible refine foldN N' ?_); clear N'; intro n9 N')); (try k_sweep); (try dsimp only)))))
  (k_with "call ref" => ((fail_if_success (k_extra "offRW")); k_extra "W80"))
  (k_with "W81" => ((k_here; (with_reducible show wpAny _ _ (call (Value.ref 142) _) _ _ _); (try (k_extra "m_foldq")); k_dflt (refine' use_conC c_opof (by k_asm) (by k_asm) (by k_asm) (by k_asm) (by k_asm) (by exact rfl) (by exact rfl) (by k_room) (by k_units) (by tb_start) ?_ ?_); rotate_left; (intro _ _ _ _ _ _ _ _ _ hX'; exact (show False from hX').elim); (intro r' news' hP'; (obtain ⟨⟨t9', hv'⟩, hn'⟩ := hP'); (with_reducible refine subRN hv' hn' ?_); clear hv' hn'; clear news'; clear r'; (try ((with_reducible rename pairNe _ => dN8); clear dN8)); intro h' tk' F' N' hne'; (dsimp only [List.cons_append, List.nil_append] at N'); (try ((with_reducible refine foldN N' ?_); clear N'; intro n9 N')); (try k_sweep); (try dsimp only)))))
  (k_with "call ref" => ((fail_if_success (k_extra "offRW")); k_extra "W81"))
  (k_with "W82" => ((k_here; (with_reducible show wpAny _ _ (call (Value.ref 326) _) _ _ _); (try (k_extra "m_foldq")); k_dflt (refine' use_conC c_need (by k_asm) (by k_asm) (by k_asm) (by k_asm) (by k_asm) (by exact rfl) (by exact rfl) (by k_room) (by k_units) (by tb_start) ?_ ?_); rotate_left; (intro G' e' D' j' h' tk' FG' R' U' hX'; (obtain ⟨hb', hj'⟩ := hX'); (try dsimp only)); rotate_left; (intro r' news' hP'; ((refine cj3 hP' ?_); clear hP'; intro hb' hv' hn'); (with_reducible refine subRN hv' hn' ?_); clear hv' hn'; clear news'; clear r'; (try ((with_reducible rename pairNe _ => dN8); clear dN8)); intro h' tk' F' N' hne'; (first | (with_reducible exact absurd hb' Bool.false_ne_true) | (with_reducible exact absurd (of_decide_eq_true hb') (by with_reducible assumption)) | ((dsimp only [List.cons_append, List.nil_append] at N'); (try ((with_reducible refine foldN N' ?_); clear N'; intro n9 N')); (try k_sweep); (try dsimp only)))))))
  (k_with "call ref" => ((fail_if_success (k_extra "offRW")); k_extra "W82"))
  (k_with "W83" => ((k_here; (with_reducible show wpAny _ _ (call (Value.ref 305) _) _ _ _); (try (k_extra "m_foldq")); k_dflt (refine' use_conC (c_number (by k_extra "m_len")) (by k_asm) (by k_asm) (by k_asm) (by k_asm) (by k_asm) (by exact rfl) (by exact rfl) (by k_room) (by k_units) (by tb_start) ?_ ?_); rotate_left; (intro G' e' D' j' h' tk' FG' R' U' hX'; (try dsimp only)); rotate_left; (intro r' news' hP'; (obtain ⟨t9', ho', h0', hv', hn'⟩ := hP'); (with_reducible refine subRN hv' hn' ?_); clear hv' hn'; clear news'; clear r'; (try ((with_reducible rename pairNe _ => dN8); clear dN8)); intro h' tk' F' N' hne'; (dsimp only [List.cons_append, List.nil_append] at N'); (try ((with_reducible refine foldN N' ?_); clear N'; intro n9 N')); (try k_sweep); (try dsimp only)))))
  (k_with "call ref" => ((fail_if_success (k_extra "offRW")); k_extra "W83"))
  (k_with "W84" => ((k_here; (with_reducible show wpAny _ _ (call (Value.ref 312) _) _ _ _); (try (k_extra "m_foldq")); k_dflt (refine' use_conC (c_text (by k_extra "m_len")) (by k_asm) (by k_asm) (by k_asm) (by k_asm) (by k_asm) (by exact rfl) (by exact rfl) (by k_room) (by k_units) (by tb_start) ?_ ?_); rotate_left; (intro G' e' D' j' h' tk' FG' R' U' hX'; (try dsimp only)); rotate_left; (intro r' news' hP'; (obtain ⟨x', t9', ho', hv', hn'⟩ := hP'); (with_reducible refine subRN hv' hn' ?_); clear hv' hn'; clear news'; clear r'; (try ((with_reducible rename pairNe _ => dN8); clear dN8)); intro h' tk' F' N' hne'; (dsimp only [List.cons_append, List.nil_append] at N'); (try ((with_reducible refine foldN N' ?_); clear N'; intro n9 N')); (try k_sweep); (try dsimp only)))))
  (k_with "call ref" => ((fail_if_success (k_extra "offRW")); k_extra "W84"))
  (k_with "W85" => ((k_here; (with_reducible show wpAny _ _ (compareOp CmpOp.In (Value.str _ _) (Value.ref _)) _ _ _); k_dflt (refine' inStrs (by k_asm) (by k_mem) ?_; k_whole); (try dsimp only))))
  (k_with "compareOp In" => ((fail_if_success (k_extra "offRW")); k_extra "W85"))
  (k_with "W86" => ((k_here; k_dflt (refine' idxStrs (by k_asm) (by k_mem) (by assumption) (by assumption) ?_; k_whole); (try dsimp only))))
  (k_with "call builtin:list.index" => ((fail_if_success (k_extra "offRW")); k_extra "W86"))
  (k_with "W87" => ((k_here; (with_reducible show wpAny _ _ _ (fun _ s' => wpAny _ _ (storeName _ (Str.ofString "words") _) _ _ _) _ _); k_dflt (refine' cut_here (by k_asm) (by k_asm) ?_ ?_); rotate_left; ((try ((with_reducible rename pairNe _ => dN8); clear dN8)); intro D' wl' h' tk' F' N' hc' hz' hne'; (try k_sweep); (try dsimp only)); (rcases len34 wl' with ⟨x0, x1, x2, hwl⟩ | ⟨x0, x1, x2, x3, hwl⟩ | ⟨hn3, hn4⟩ <;> (try subst hwl) <;> (try (have hl3' := rows3 hz')) <;> (try (have hl4' := rows4 hz'))); rotate_left; rotate_left; rotate_left; (with_reducible refine wpAny_IfExp ?_); (try dsimp only))))
  (k_with "eval IfExp" => ((fail_if_success (k_extra "offRW")); k_extra "W87"))
  (k_with "W88" => ((k_here; (with_reducible show wpAny _ _ (subscriptTail _ _ (Value.ref 100) _) _ _ _); k_dflt (refine' opsItem (by k_asm) (by k_asm) (by omega) ?_ (by with_unfolding_all rfl) (by (intro _; with_unfolding_all rfl))); (intro a nm t1 kd t2 p t3 q t4 hT ha; (try dsimp only)))))
  (k_with "subscriptTail Name Name ref int" => ((fail_if_success (k_extra "offRW")); k_extra "W88"))
  (k_with "subscriptTail" => ((fail_if_success (k_extra "offRW")); k_extra "W88"))
  (k_with "W89" => ((k_here; (with_reducible show wpAny _ _ (subscriptTail _ _ (Value.ref _) (Value.int 1 _)) _ _ _); refine' itemT1 (by k_asm) (by with_reducible assumption) ?_ (by with_unfolding_all rfl); (try dsimp only))))
  (k_with "subscriptTail Subscript Name Name Constant ref int" => ((fail_if_success (k_extra "offRW")); k_extra "W89"))
  (k_with "subscriptTail" => ((fail_if_success (k_extra "offRW")); k_extra "W89"))
  (k_with "W90" => ((k_here; (with_reducible show wpAny _ _ (call (Value.builtin "len") [Value.ref _]) _ _ _); k_dflt (refine' lenAny (by k_asm) (by k_mem) (by with_reducible (first | exact lenIs0 | exact lenIs1 | exact lenIs2 | exact lenIs3 | exact lenIs4 | exact lenIs5 | exact lenIsS | exact lenIsV)) (by first | omega | (with_reducible exact lenOk (by assumption)) | (simp only [List.length_append, List.length_cons, List.length_nil]; omega)) ?_; k_whole))))
  (k_with "call builtin:len cons nil" => ((fail_if_success (k_extra "offRW")); k_extra "W90"))
  (k_with "W91" => ((k_here; k_dflt (first | (refine' in34 true (by k_asm) (by k_mem) (by exact Or.inl ⟨by decide, rfl⟩) ?_) | (refine' in34 false (by k_asm) (by k_mem) (by exact Or.inr ⟨⟨by assumption, by assumption⟩, rfl⟩) ?_)))))
  (k_with "compareOp In int ref" => ((fail_if_success (k_extra "offRW")); k_extra "W91"))
  trivial
noncomputable abbrev ud (w : World) (u1 u2 u3 u4 u5 u6 u7 u8 u9 u10 u11 u12 u13 u14 u15 : Tok) (v1 v2 v3 v4 v5 v6 v7 v8 v9 v10 v11 v12 v13 v14 v15 : Value) : List DictEntry := [⟨PyData.keyHash w.params (Str.ofString "name"), .str (Str.ofString "name") u1, v1⟩, ⟨PyData.keyHash w.params (Str.ofString "params"), .str (Str.ofString "params") u2, v2⟩, ⟨PyData.keyHash w.params (Str.ofString "code"), .str (Str.ofString "code") u3, v3⟩, ⟨PyData.keyHash w.params (Str.ofString "consts"), .str (Str.ofString "consts") u4, v4⟩, ⟨PyData.keyHash w.params (Str.ofString "units"), .str (Str.ofString "units") u5, v5⟩, ⟨PyData.keyHash w.params (Str.ofString "handlers"), .str (Str.ofString "handlers") u6, v6⟩, ⟨PyData.keyHash w.params (Str.ofString "lines"), .str (Str.ofString "lines") u7, v7⟩, ⟨PyData.keyHash w.params (Str.ofString "local_count"), .str (Str.ofString "local_count") u8, v8⟩, ⟨PyData.keyHash w.params (Str.ofString "cell_count"), .str (Str.ofString "cell_count") u9, v9⟩, ⟨PyData.keyHash w.params (Str.ofString "captures"), .str (Str.ofString "captures") u10, v10⟩, ⟨PyData.keyHash w.params (Str.ofString "is_strict"), .str (Str.ofString "is_strict") u11, v11⟩, ⟨PyData.keyHash w.params (Str.ofString "uses_arguments"), .str (Str.ofString "uses_arguments") u12, v12⟩, ⟨PyData.keyHash w.params (Str.ofString "self_slot"), .str (Str.ofString "self_slot") u13, v13⟩, ⟨PyData.keyHash w.params (Str.ofString "arguments_place"), .str (Str.ofString "arguments_place") u14, v14⟩, ⟨PyData.keyHash w.params (Str.ofString "param_places"), .str (Str.ofString "param_places") u15, v15⟩]
theorem newsDrop2 {h₀ h : Heap} {L : Addr} {a b : Addr × Obj} {r : List (Addr × Obj)} (N : News h₀ L h (a :: b :: r)) : News h₀ L h (a :: r) := fun p hp => N p (by
  rcases List.mem_cons.mp hp with e | hp
  · rw [e]; exact .head _
  · exact .tail _ (.tail _ hp))
theorem cutIn {pl : List (Str × Tok)} (h : ((texts pl).any fun x => x == Str.ofString ";") = true) : texts (List.take ((((texts pl).idxOf (Str.ofString ";") : Nat) : Int)).toNat pl) = cutW (texts pl) := by
  unfold cutW
  rw [if_pos h]
  simp [texts, List.map_take]
theorem cutOut {pl : List (Str × Tok)} (h : ((texts pl).any fun x => x == Str.ofString ";") = false) : texts pl = cutW (texts pl) := by
  unfold cutW
  rw [if_neg (by rw [h]; decide)]
section
variable {w : World} {mean : ExcName → Option Value} {mg mb : Str → Option Value} {r d l u dU cl ll : Addr} {k : Int} {a b c : Tok} {ls : List (Str × Tok)} {u1 u2 u3 u4 u5 u6 u7 u8 u9 u10 u11 u12 u13 u14 u15 : Tok} {v1 v2 v4 v5 v6 v8 v9 v10 v11 v12 v13 v14 v15 : Value} {cvs lvs : List Value} {nc nl : Nat}
inductive Row0P (w : World) (r d l u dU cl ll : Addr) (k : Int) (a b : Tok) (ls : List (Str × Tok)) (o : Obj) (cvs lvs : List Value) (v : Value) (news' : List (Addr × Obj)) : Prop
  | mk (op : Int) (arg : Option Int) (ln : Int) (T : Addr) (t1 t2 : Tok) (av : Value) (nc' nl' : Nat) (c' : Tok) (h1 : rowR (texts ls) k cvs.length = .ok (op, arg, ln)) (h2 : v = .none) (h3 : ArgV arg av)
     (h5 : news' = RD w r d l (k + 1) a b c' ls ++ [(u, instObj 117 dU), (dU, o), (cl, W.listOf (cvs.toArray.push (Value.ref T)) nc'), (ll, W.listOf (lvs.toArray.push (Value.int ln t2)) nl'), (T, tupO #[Value.int op t1, av] 0)]) : Row0P w r d l u dU cl ll k a b ls o cvs lvs v news'
theorem c_row0 (h0 : 0 ≤ k) (hR : Rows ls) (hcv : cvs.length ≤ 1000) (hlv : lvs.length ≤ 1000) : Con w mean mg mb 357 [.ref r, .ref u] (RD w r d l k a b c ls ++ [(u, instObj 117 dU), (dU, dictOf (ud w u1 u2 u3 u4 u5 u6 u7 u8 u9 u10 u11 u12 u13 u14 u15 v1 v2 (.ref cl) v4 v5 v6 (.ref ll) v8 v9 v10 v11 v12 v13 v14 v15) 15), (cl, W.listOf cvs.toArray nc), (ll, W.listOf lvs.toArray nl)]) 100
   (Row0P w r d l u dU cl ll k a b ls (dictOf (ud w u1 u2 u3 u4 u5 u6 u7 u8 u9 u10 u11 u12 u13 u14 u15 v1 v2 (.ref cl) v4 v5 v6 (.ref ll) v8 v9 v10 v11 v12 v13 v14 v15) 15) cvs lvs)
   (fun j => rowR (texts ls) k cvs.length = .error j) := by
  refine' (?zf : Scr _) ?zq _ ?zs
  case zq =>
    intro prog dp un gd base frs g s Q E S hdp hun hret hexn; refine nameRet hret ?_; clear hret; intro P9 hret
    dsimp only [RD, List.cons_append, List.nil_append] at S
    k_extra "m_enter"
    k_steps
    all_goals first
      | exact hexn _ _ _ _ _ (by assumption) (by assumption) (rowE0 (by with_reducible assumption))
      | ((rename numO _ _ = Except.error _ => hx); (obtain ⟨qx, qj⟩ := numO_err hx); exact hexn _ _ _ _ _ (by assumption) (by assumption) (rowNj (by with_reducible assumption) (rowO3 (by with_reducible assumption) (by intro hh; first | exact qx hh.2.1 | exact qx hh.2.2.2.2)) qj))
      | ((rename numO _ _ = Except.error _ => hx); (obtain ⟨qx, qj⟩ := numO_err hx); exact hexn _ _ _ _ _ (by assumption) (by assumption) (rowNj (by with_reducible assumption) (rowO4 (by with_reducible assumption) (by intro hh; first | exact qx hh.2.1 | exact qx hh.2.2.2.2.1 | exact qx hh.2.2.2.2.2)) qj))
      | exact hexn _ _ _ _ _ (by assumption) (by assumption) (rowNj (by with_reducible assumption) (rowO3 (by with_reducible assumption) (by intro hh; first | exact eb1 (by with_reducible assumption) hh.1 | exact eb2 (by with_reducible assumption) hh.2.2.1 | exact eb3 (by with_reducible assumption) (by with_reducible assumption) hh.2.2.2.1)) (by with_reducible assumption))
      | exact hexn _ _ _ _ _ (by assumption) (by assumption) (rowNj (by with_reducible assumption) (rowO4 (by with_reducible assumption) (by intro hh; first | exact eb1 (by with_reducible assumption) hh.1 | exact eb2 (by with_reducible assumption) hh.2.2.1 | exact eb4 (by with_reducible assumption) (by with_reducible assumption) hh.2.2.2.1)) (by with_reducible assumption))
      | exact hexn _ _ _ _ _ (by assumption) (by assumption) (rowNj (by with_reducible assumption) (rowOx (by with_reducible assumption) (by with_reducible assumption) (by with_reducible assumption)) (by with_reducible assumption))
      | exact ⟨_, _, _, _, rfl, rfl, by assumption, newsDrop2 (by assumption), cutIn (by with_reducible assumption), by with_reducible assumption, by k_extra "m_keep"⟩
      | exact ⟨_, _, _, _, rfl, rfl, by assumption, by assumption, cutOut (by with_reducible assumption), by with_reducible assumption, by k_extra "m_keep"⟩
      | (refine' RetS.fin hret (by assumption) (by assumption) ⟨_, _, _, _, _, _, _, _, _, _, rowOk3 (by with_reducible assumption) (by with_reducible assumption) (by with_reducible assumption) (by with_reducible assumption) (by with_reducible assumption) (by with_reducible assumption) (by with_reducible assumption) (by with_reducible assumption), rfl, rfl, rfl⟩ ?hs1; (case hs1 => (dsimp only [RD, List.cons_append, List.nil_append]; k_extra "m_subD")))
      | (refine' RetS.fin hret (by assumption) (by assumption) ⟨_, _, _, _, _, _, _, _, _, _, rowOk4 (by with_reducible assumption) (by with_reducible assumption) (by with_reducible assumption) (by with_reducible assumption) (by with_reducible assumption) (by with_reducible assumption) (by with_reducible assumption) (by with_reducible assumption) (by with_reducible assumption), rfl, ⟨_, rfl⟩, rfl⟩ ?hs1; (case hs1 => (dsimp only [RD, List.cons_append, List.nil_append]; k_extra "m_subD")))
  case zs => show LetQ _ ?zq _; (try delta id foldQ letS2 letS hideG foldN subRN subN ltCut letAE nameRet); exact LetQ.refl
  case zf => intro _ r _; exact r
inductive RowP (w : World) (r d l u dU cl ll : Addr) (k : Int) (a b : Tok) (ls : List (Str × Tok)) (o : Obj) (cvs lvs : List Value) (v : Value) (news' : List (Addr × Obj)) : Prop
  | mk (op : Int) (arg : Option Int) (ln : Int) (T : Addr) (t1 t2 : Tok) (av : Value) (nc' nl' : Nat) (c' : Tok) (h1 : rowR (texts ls) k cvs.length = .ok (op, arg, ln)) (h2 : v = .none) (h3 : ArgV arg av)
     (h5 : news' = RD w r d l (k + 1) a b c' ls ++ [(u, instObj 117 dU), (dU, o), (cl, W.listOf (cvs ++ [Value.ref T]).toArray nc'), (ll, W.listOf (lvs ++ [Value.int ln t2]).toArray nl'), (T, tupO #[Value.int op t1, av] 0)]) : RowP w r d l u dU cl ll k a b ls o cvs lvs v news'
theorem c_row (h0 : 0 ≤ k) (hR : Rows ls) (hcv : cvs.length ≤ 1000) (hlv : lvs.length ≤ 1000) : Con w mean mg mb 357 [.ref r, .ref u] (RD w r d l k a b c ls ++ [(u, instObj 117 dU), (dU, dictOf (ud w u1 u2 u3 u4 u5 u6 u7 u8 u9 u10 u11 u12 u13 u14 u15 v1 v2 (.ref cl) v4 v5 v6 (.ref ll) v8 v9 v10 v11 v12 v13 v14 v15) 15), (cl, W.listOf cvs.toArray nc), (ll, W.listOf lvs.toArray nl)]) 100
   (RowP w r d l u dU cl ll k a b ls (dictOf (ud w u1 u2 u3 u4 u5 u6 u7 u8 u9 u10 u11 u12 u13 u14 u15 v1 v2 (.ref cl) v4 v5 v6 (.ref ll) v8 v9 v10 v11 v12 v13 v14 v15) 15) cvs lvs)
   (fun j => rowR (texts ls) k cvs.length = .error j) := by
  refine (c_row0 h0 hR hcv hlv).mono (fun v n h => ?_) fun _ h => h
  refine hideG ?_; intro g9; obtain ⟨op, arg, ln, T, t1, t2, av, nc', nl', c', e1, e2, e3, e5⟩ := h; k_unfold
  exact ⟨op, arg, ln, T, t1, t2, av, nc', nl', c', e1, e2, e3, by rw [e5, List.push_toArray, List.push_toArray]⟩
end

theorem wd_30 : True := by
  (k_with "offRW" => (skip))
  trivial
end
section -- V1
/-- raised, wherever its flight was last noted -/
inductive RaisedF (w : World) (base G : Heap) (l : List Env) (e D : Addr) (k : Int) (h : Heap) : Prop
  | mk (B : _) (t : _) (fl : _) (hq1 : base.StaysIn B) (hq2 : (∀ b o, G.get? b = some o → b ∉ l.filterMap (·.frame) → B.get? b = some o)) (hq3 : B.get? D = some (dictOf (atEnt w k t) 1)) (hq4 : G.get? D = none) (hq5 : G.get? e = none) (hq6 : BadFly B l e D fl h) : RaisedF w base G l e D k h
theorem Raised.toF {w : World} {base G h : Heap} {l : List Env} {e D : Addr} {k : Int} (R : Raised w base G l e D k h) : RaisedF w base G l e D k h :=
  let ⟨B, t, a, b, c, d, e, f⟩ := R; ⟨B, t, _, a, b, c, d, e, f⟩
section
variable {M : Model} {A : Around} {E : Value → Shared → Prop} {s : Shared}
theorem bad_noteF {base : Heap} {env : Env} {outer : List Env} {L e D : Addr} {fl : Value} {Q : Unit → Shared → Prop}
    (hfr : A.frames = some (env :: outer)) (hf : env.frame = some L) (x : BadFly base (env :: outer) e D fl s.heap)
    (h : ∀ h' fl', BadFly base (env :: outer) e D fl' h' → s.heap.UpToSlots h' → Q () { s with heap := h' }) : wpAny M A (noteFrame (.ref e) env) Q E s := by
  refine' (?zf : Scr _) ?zq _ ?zs
  case zq =>
    refine hideG ?_; intro g9; obtain ⟨hkb, hen, hl, oe, vs, T, oT, ts, he, hb, hd, h1, hnT, hTe, hT, hdT, h3⟩ := id x; k_unfold
    by_cases hfl : (fl == rawInt L) = true
    · unfold noteFrame
      simp only [hf]
      refine wpAny_bind (wpAny_field he hd h1 ?_)
      rw [if_pos (show (Value.ref T != Value.none) = true from by simp)]
      refine wpAny_bind (wpAny_field hT hdT h3 ?_)
      rw [if_pos hfl]
      exact wpAny_pure (h s.heap fl x fun b o hb _ => ⟨o.slots, hb⟩)
    · unfold noteFrame
      simp only [hf]
      refine wpAny_bind (wpAny_field he hd h1 ?_)
      rw [if_pos (show (Value.ref T != Value.none) = true from by simp)]
      refine wpAny_bind (wpAny_field hT hdT h3 ?_)
      rw [if_neg hfl]
      refine wpAny_bind (wpAny_setField hT hdT (Array.getElem?_eq_some_iff.mp h3).1 ?_)
      have other : ∀ b, b ≠ T → (s.heap.update T (Obj.mapFields (·.setIfInBounds 3 Value.none))).get? b = s.heap.get? b := fun b hb => Heap.get?_update_other _ _ (Ne.symm hb)
      have noRecord : ∀ b o, s.heap.get? b = some o → (∀ vs, o.data ≠ .fields vs) → b ≠ T := fun b o hb hnf q => by
        rw [q, hT] at hb; cases hb; exact hnf ts hdT
      refine bad_entry hfr (hl.of_keeps fun b o hb hnf => ⟨o, (other b (noRecord b o hb hnf)).trans hb, rfl⟩) hf ((other e (Ne.symm hTe)).trans he) hb
        (fun b o hbo => (other b fun q => by rw [q, hnT] at hbo; cases hbo).trans (hkb b o hbo)) hen hd (Array.getElem?_eq_some_iff.mp h1).1 fun h' y z => h h' _ y fun b o hb hnf => ?_
      exact z b o ((other b (noRecord b o hb hnf)).trans hb) hnf
  case zs => show LetQ _ ?zq _; (try delta id foldQ letS2 letS hideG foldN subRN subN ltCut letAE nameRet); exact LetQ.refl
  case zf => intro _ r _; exact r
theorem bad_flightF {base : Heap} {l : List Env} {e D : Addr} {fl : Value} {fr : Option Addr} {Q : Unit → Shared → Prop} (x : BadFly base l e D fl s.heap)
    (h : ∀ h' fl', BadFly base l e D fl' h' → s.heap.UpToSlots h' → Q () { s with heap := h' }) : wpAny M A (setFlight (.ref e) fr) Q E s := by
  refine hideG ?_; intro g9; obtain ⟨hkb, hen, hl, oe, vs, T, oT, ts, he, hb, hd, h1, hnT, hTe, hT, hdT, h3⟩ := x; k_unfold
  have hsz3 : 3 < ts.size := (Array.getElem?_eq_some_iff.mp h3).1
  have other : ∀ b, b ≠ T → (s.heap.update T (Obj.mapFields (·.setIfInBounds 3 (fr.elim Value.none fun f => rawInt f)))).get? b = s.heap.get? b :=
    fun b hb => Heap.get?_update_other _ _ (Ne.symm hb)
  have noRecord : ∀ b o, s.heap.get? b = some o → (∀ vs, o.data ≠ .fields vs) → b ≠ T := fun b o hb hnf q => by
    rw [q, hT] at hb; cases hb; exact hnf ts hdT
  unfold setFlight
  refine wpAny_bind (wpAny_field he hd h1 ?_)
  rw [if_pos (show (Value.ref T != Value.none) = true from by simp)]
  refine wpAny_setField hT hdT hsz3 (h _ (fr.elim Value.none fun f => rawInt f) ⟨fun b o hbo => (other b fun q => by rw [q, hnT] at hbo; cases hbo).trans (hkb b o hbo), hen, hl.of_keeps fun b o hb hnf => ⟨o, (other b (noRecord b o hb hnf)).trans hb, rfl⟩, ?_⟩ ?_)
  · exact ⟨oe, vs, T, _, _, (other e (Ne.symm hTe)).trans he, hb, hd, h1, hnT, hTe, Heap.get?_update_self _ hT (Obj.isFreed_of_fields (Obj.data_mapFields hdT _)), Obj.data_mapFields hdT _, by simp [hsz3]⟩
  · exact fun b o hb hn => ⟨o.slots, (other b (noRecord b o hb hn)).trans hb⟩
theorem bad_passOn {α : Type} {base : Heap} {l : List Env} {e D : Addr} {fl : Value} {what : String} {cenv : Env} {Q : α → Shared → Prop} (x : BadFly base l e D fl s.heap)
    (h : ∀ h' fl', BadFly base l e D fl' h' → s.heap.UpToSlots h' → E (.ref e) { s with heap := h' }) : wpAny M A (PySem.passOn what (.ref e) cenv : Sem α) Q E s := by
  refine hideG ?_; intro g9; obtain ⟨hkb, hen, hl, oe, vs, T, oT, ts, he, hb, hd, h1, hnT, hTe, hT, hdT, h3⟩ := id x; k_unfold
  unfold PySem.passOn
  refine wpAny_bind (wpAny_field he hd h1 ?_)
  rw [if_neg (show ¬ (Value.ref T == Value.none) = true from by simp)]
  exact wpAny_bind (bad_flightF x fun h' fl' a b => wpAny_throw (h h' fl' a b))
theorem bad_leaveF {base : Heap} {env : Env} {outer : List Env} {L e D : Addr} {fl : Value} {Q : Unit → Shared → Prop}
    (hfr : A.frames = some (env :: outer)) (hf : env.frame = some L) (x : BadFly base (env :: outer) e D fl s.heap)
    (h : ∀ h', BadFly base outer e D .none h' → s.heap.UpToSlots h' → Q () { s with heap := h' }) : wpAny M A (leaving env (.ref e)) Q E s := by
  unfold leaving
  refine wpAny_bind (bad_noteF hfr hf x fun h' _ x y => ?_)
  exact bad_flight x fun h'' x' y' => h h'' x'.off (y.trans y')
end
section
variable {M : Model} {w : World} {A : Around} {E : Value → Shared → Prop} {s' : Shared} {base g G : Heap} {outer : List Env} {L a e D : Addr} {k : Int} {m : Str → Option Value} {env : Env} {Q : Unit → Shared → Prop}
theorem leave_onF (K : Below A base outer g) (hf : env.frame = some L) (F : Fr g L G m) (R : RaisedF w base G (env :: outer) e D k s'.heap) (hsm : G.UpToSlots s'.heap)
    (hQ : ∀ h', Raised w base g outer e D k h' → g.UpToSlots h' → Q () { s' with heap := h' }) :
    wpAny M (A.deeper env) (leaving env (.ref e)) Q E s' := by
  refine hideG ?_; intro g9; obtain ⟨B, t, fl, hB, hBG, hD, hDG, heG, hfl⟩ := R; k_unfold
  have mem : ∀ b, b ∈ (env :: outer).filterMap (·.frame) → b = L ∨ b ∈ outer.filterMap (·.frame) := fun b hm => by
    rw [List.filterMap_cons, hf] at hm
    exact List.mem_cons.mp hm
  have self : g.get? L = none := kts_self F
  refine bad_leaveF (Around.frames_deeper K.stack) hf hfl fun h' x1 x2 => hQ h' ⟨B, t, hB, fun b o q nm => hBG b o (F.keep b o q) (fun hm => ?_), hD, kts_none F.keep hDG, kts_none F.keep heG, x1⟩ ((Heap.UpToSlots.of_keeps F.keep).trans (hsm.trans x2))
  rcases mem b hm with z | z
  · rw [z, self] at q; cases q
  · exact nm z
end
theorem funFrames_but {B h h' : Heap} {C : Addr} (hC : ∃ o, B.get? C = some o) (hs : Heap.SameBut C h h') {l : List Env} (H : h.FunFrames B l) : h'.FunFrames (hideAll B [C]) l := by
  induction l with
  | nil => exact trivial
  | cons env l ih =>
    refine hideG ?_; intro g9; obtain ⟨hk, ⟨L, o, hf, hn, ho, hd⟩, hr⟩ := H; k_unfold
    obtain ⟨oC, hoC⟩ := hC
    have hLC : L ≠ C := fun q => by rw [q, hoC] at hn; cases hn
    refine ⟨hk, ⟨L, o, hf, ?_, (hs.2 L hLC).trans ho, hd⟩, ih hr⟩
    cases q : (hideAll B [C]).get? L with
    | none => rfl
    | some o' => have := of_hideAll _ q; rw [hn] at this; cases this
theorem raisedF_but {w : World} {base G h h' : Heap} {l : List Env} {e D C : Addr} {k : Int} {oC : Obj} (R : RaisedF w base G l e D k h) (hC : G.get? C = some oC) (hCl : C ∉ l.filterMap (·.frame)) (hCb : base.get? C = none) (hs : Heap.SameBut C h h') :
    RaisedF w base (hideAll G [C]) l e D k h' := by
  refine' (?zf : Scr _) ?zq _ ?zs
  case zq =>
    refine hideG ?_; intro g9; obtain ⟨B, t, fl, hB, hBG, hD, hDG, heG, hkb, hen, hl, oe, vs, T, oT, ts, he, hb, hd, h1, hnT, hTe, hT, hdT, h3⟩ := R; k_unfold
    have hCB : B.get? C = some oC := hBG C oC hC hCl
    have ne : ∀ {b : Addr}, B.get? b = none → b ≠ C := fun hb q => by rw [q, hCB] at hb; cases hb
    have hide0 : ∀ {H : Heap} {b : Addr}, H.get? b = none → (hideAll H [C]).get? b = none := fun {H b} hb => by
      cases q : (hideAll H [C]).get? b with
      | none => rfl
      | some o' => have := of_hideAll _ q; rw [hb] at this; cases this
    have DC : D ≠ C := fun q => by rw [q, hC] at hDG; cases hDG
    refine ⟨hideAll B [C], t, fl, fun b o q => hideAll_get _ (hB b o q) (by intro hm; rw [List.mem_singleton.mp hm, hCb] at q; cases q), fun b o q nm => ?_, hideAll_get _ hD (by intro hm; exact DC (List.mem_singleton.mp hm)), hide0 hDG, hide0 heG, ?_, hide0 hen, funFrames_but ⟨oC, hCB⟩ hs hl, ?_⟩
    · refine hideAll_get _ (hBG b o (of_hideAll _ q) nm) fun hm => ?_
      rw [hideAll_none _ hm] at q; cases q
    · intro b o q
      have hbC : b ≠ C := fun z => by rw [z, hideAll_none _ (List.mem_singleton.mpr rfl)] at q; cases q
      exact (hs.2 b hbC).trans (hkb b o (of_hideAll _ q))
    · exact ⟨oe, vs, T, oT, ts, (hs.2 e (ne hen)).trans he, hb, hd, h1, hide0 hnT, hTe, (hs.2 T (ne hnT)).trans hT, hdT, h3⟩
  case zs => show LetQ _ ?zq _; (try delta id foldQ letS2 letS hideG foldN subRN subN ltCut letAE nameRet); exact LetQ.refl
  case zf => intro _ r _; exact r
theorem upTo_but {G h h' : Heap} {C : Addr} (U : G.UpToSlots h) (hs : Heap.SameBut C h h') : (hideAll G [C]).UpToSlots h' := fun b o q hn => by
  have hbC : b ≠ C := fun z => by rw [z, hideAll_none _ (List.mem_singleton.mpr rfl)] at q; cases q
  obtain ⟨sl, hsl⟩ := U b o (of_hideAll _ q) hn
  exact ⟨sl, (hs.2 b hbC).trans hsl⟩

end
section -- V2
open PyProof.Rows.LCg in
inductive TurnExn (w : World) (base h₀ : Heap) (l : List Env) (L C : Addr) (m : Str → Option Value) (oC : Obj) (s : Shared) (X : Int → Prop) (e : Value) (s' : Shared) : Prop
  | mk (ea : _) (D : _) (j : _) (h' : _) (tk' : _) (G : _) (hq1 : e = .ref ea) (hq2 : s' = { s with heap := h', toks := tk' }) (hq3 : Fr h₀ L G m) (hq4 : G.get? C = some oC) (hq5 : Raised w base G l ea D j h') (hq6 : G.UpToSlots h') (hq7 : X j) : TurnExn w base h₀ l L C m oC s X e s'
inductive TurnEnd (h₀ : Heap) (L : Addr) (m : Str → Option Value) (s : Shared) (I : Addr) (oI : Obj) (C : Addr) (oC : Obj) (D : Addr) (oD : Obj) (J : List (Addr × Obj) → Prop) (s' : Shared) : Prop
  | mk (h' : _) (tk' : _) (nw' : _) (hq1 : s' = { s with heap := h', toks := tk' }) (hq2 : Fr h₀ L h' m) (hq3 : News h₀ L h' ((I, oI) :: (C, oC) :: (D, oD) :: nw')) (hq4 : LCg.Off3 I C D nw') (hq5 : J nw') : TurnEnd h₀ L m s I oI C oC D oD J s'
inductive CompX (prog : Program) (w : World) (A : Around) (E : Value → Shared → Prop) (base h₀ : Heap) (env : Env) (outer : List Env) (L : Addr) (m : Str → Option Value) (elt : Expr) (x : Str) (scope : Scope) (cl : List (Str × Addr)) (Fin : Shared → List Value → List (Addr × Obj) → Prop) (xv : Value) (s₁ : Shared) : Prop
  | mk (ax : Addr) (its : Array Value) (news : List (Addr × Obj)) (J : Nat → List Value → List (Addr × Obj) → Prop) (X : Int → Prop) (hq1 : xv = .ref ax) (hq2 : Fr h₀ L s₁.heap m) (hq3 : News h₀ L s₁.heap news) (hq4 : its.size ≤ sizeLine) (hq5 : J 0 [] news) (hq6 : (∀ i ys nw, J i ys nw → ∃ k, (ax, W.listOf its k) ∈ nw)) (hq7 : (∀ i ys nw v I oI C oC D m₂ h tk, its[i]? = some v → J i ys nw → LCg.NsObj oC m₂ → m₂ x = some v → Fr h₀ L h m → News h₀ L h ((I, oI) :: (C, oC) :: (D, LCg.lst ys) :: nw) → LCg.Off3 I C D nw → (I ≠ C ∧ I ≠ D ∧ C ≠ D) → wpAny (model prog w) A (eval elt (compEnvC scope cl C env)) (fun y s' => TurnEnd h₀ L m { s₁ with heap := h, toks := tk } I oI C oC D (LCg.lst ys) (J (i + 1) (ys ++ [y])) s') (TurnExn w base h₀ (env :: outer) L C m oC { s₁ with heap := h, toks := tk } X) { s₁ with heap := h, toks := tk })) (hq8 : (∀ ys nw, J its.size ys nw → Fin s₁ ys nw)) (hq9 : (∀ ea D j h tk G, Fr h₀ L G m → RaisedF w base G (env :: outer) ea D j h → G.UpToSlots h → X j → E (.ref ea) { s₁ with heap := h, toks := tk })) : CompX prog w A E base h₀ env outer L m elt x scope cl Fin xv s₁
section
variable {prog : Program} {w : World} {A A₀ : Around} {E : Value → Shared → Prop} {s : Shared} {base h₀ : Heap} {L : Addr} {m : Str → Option Value} {env : Env} {outer : List Env}
theorem off_out {h : Heap} {C : Addr} (K : h.FunFrames base outer) (hC : h.get? C = none) (hf : env.frame = some L) (hL : C ≠ L) : C ∉ (env :: outer).filterMap (·.frame) := fun hm => by
  rw [List.filterMap_cons, hf] at hm
  rcases List.mem_cons.mp hm with q | q
  · exact hL q
  · refine hideG ?_; intro g9; obtain ⟨_, o, ho, _⟩ := K.mem q; k_unfold
    rw [hC] at ho; cases ho
theorem comp_any {elt iter : Expr} {x : Str} {px : Pos} {scope : Scope} {cl : List (Str × Addr)} {pos fpos : Pos} {Q : Value → Shared → Prop} {Fin : Shared → List Value → List (Addr × Obj) → Prop} (use : Option (Value → Sem Unit))
    (B : Below A₀ base outer h₀) (hh : A.handled = none) (hfr : A.frames = some (env :: outer)) (hf : env.frame = some L)
    (hclos : closureFor scope env = pure cl) (hcell : ∀ y ∈ scope.names, y.2 ≠ .cell) (hkind : scope.kind = .function)
    (hnames : ∀ y ∈ scope.names, y.2 = .local → scope.names.lookup y.1 = some .local) (hx : scope.names.lookup x = some .local)
    (h : wpAny (model prog w) A (eval iter env) (CompX prog w A E base h₀ env outer L m elt x scope cl Fin) E s)
    (hs : ∀ x, foldedSetIterable iter env x = pure x)
    (hfin : ∀ s₂ D C h tk ys nw m', Fr h₀ L h m → News h₀ L h ((D, LCg.lst ys) :: nw) → LCg.Off1 D nw → h.Ns C m' → h₀.get? C = none → h₀.get? D = none → C ≠ L → D ≠ L → C ≠ D → (∀ p ∈ nw, p.1 ≠ C) → Fin s₂ ys nw →
      compPost (model prog w) A E use Q (.ref D) C (.ok .next) { s₂ with heap := h, toks := tk }) :
    wpAny (model prog w) A (comprehension (.ListComp elt [⟨.Name x px, iter, [], 0⟩] scope pos) scope env fpos (newList []) false (eval iter env) use) Q E s := by
  refine wpAny_comprehension_free (use := use) rfl hs hclos hkind hnames (wpAny_mono h (fun xv s₁ h₁ => ?_) fun _ _ e => e)
  refine hideG ?_; intro g9; obtain ⟨ax, its, news, J, X, e91, F, N, hsz, J0, Jm, turn, fin, exn⟩ := h₁; k_unfold; subst e91
  obtain ⟨k0, hm0⟩ := Jm _ _ _ J0
  have hl : s₁.heap.IsList ax its := ⟨_, (N _ hm0).1, rfl, _, rfl⟩
  have hlt : ax < s₁.heap.objs.size := Heap.lt_size (N _ hm0).1
  refine wpAny_pyIter_list hl ?_
  refine wpAny_newObj_type (wpAny_newFunctionEnv hcell (by intro y hy; simp at hy) (fun h₁ hns₁ hsb₁ => ?_) hkind)
  dsimp only at hns₁ hsb₁ ⊢
  generalize hH1 : s₁.heap.push { cls := .type "list_iterator", dict := none, data := .fields #[.ref ax, .int 0 0] } = H1 at hns₁ hsb₁ ⊢
  have e1 : H1.objs.size = s₁.heap.objs.size + 1 := by rw [← hH1, Heap.size_push]
  have gI : H1.get? s₁.heap.objs.size = some { cls := .type "list_iterator", dict := none, data := .fields #[.ref ax, .int 0 0] } := by rw [← hH1]; exact Heap.get?_push_size _ rfl
  have up1 : ∀ b o, s₁.heap.get? b = some o → H1.get? b = some o := fun b o e => by rw [← hH1]; exact Heap.get?_push_of_some _ e
  generalize hH2 : H1.push { cls := .type "list", dict := none, data := .seq ([] : List Value).toArray } = H2 at hns₁ hsb₁ ⊢
  have e2 : H2.objs.size = s₁.heap.objs.size + 2 := by rw [← hH2, Heap.size_push, e1]
  have gD : H2.get? H1.objs.size = some (LCg.lst []) := by rw [← hH2]; exact Heap.get?_push_size _ rfl
  have up2 : ∀ b o, H1.get? b = some o → H2.get? b = some o := fun b o e => by rw [← hH2]; exact Heap.get?_push_of_some _ e
  have up3 : ∀ b o, b ≠ H2.objs.size → H2.get? b = some o → h₁.get? b = some o := fun b o hb e => hsb₁.extBut b o hb (Heap.get?_push_of_some _ e)
  generalize hI : s₁.heap.objs.size = I at *
  generalize hD : H1.objs.size = D at *
  generalize hC : H2.objs.size = C at *
  have hID : I ≠ D := by omega
  have hIC : I ≠ C := by omega
  have hCD : C ≠ D := by omega
  have ltD : @LT.lt Nat _ I D := by omega
  have ltC : @LT.lt Nat _ I C := by omega
  have old : ∀ b o, s₁.heap.get? b = some o → b ≠ I ∧ b ≠ C ∧ b ≠ D ∧ h₁.get? b = some o := fun b o e => by
    have hb : b < I := hI ▸ Heap.lt_size e
    have hb' : @LT.lt Nat _ b I := hb
    refine ⟨Nat.ne_of_lt hb', ?_, ?_, up3 b o ?_ (up2 b o (up1 b o e))⟩
    · exact Nat.ne_of_lt (Nat.lt_trans hb' ltC)
    · exact Nat.ne_of_lt (Nat.lt_trans hb' ltD)
    · exact Nat.ne_of_lt (Nat.lt_trans hb' ltC)
  have fresh₀ : ∀ b, I ≤ b → h₀.get? b = none := fun b hb => by
    cases e : h₀.get? b with
    | none => rfl
    | some o' =>
      have hlt' := Heap.lt_size (F.keep b o' e)
      rw [hI] at hlt'
      exact absurd hlt' (Nat.not_lt.mpr hb)
  have hI₀ : h₀.get? I = none := fresh₀ I (Nat.le_refl _)
  have hD₀ : h₀.get? D = none := fresh₀ D (by omega)
  have hC₀ : h₀.get? C = none := fresh₀ C (by omega)
  have hLlt : L < I := hI ▸ F.ns.lt
  have hLI : L ≠ I := Nat.ne_of_lt hLlt
  have hLC : C ≠ L := Nat.ne_of_gt (Nat.lt_trans hLlt ltC)
  have hLD : D ≠ L := Nat.ne_of_gt (Nat.lt_trans hLlt ltD)
  have F1 : Fr h₀ L h₁ m := F.keeps fun b o e => (old b o e).2.2.2
  have N1 : News h₀ L h₁ news := fun p hp => ⟨(old _ _ (N p hp).1).2.2.2, (N p hp).2⟩
  have off1 : LCg.Off3 I C D news := LCg.Off3.of fun p hp => let z := old _ _ (N p hp).1; ⟨z.1, z.2.1, z.2.2.1⟩
  have hCb : base.get? C = none := kts_none B.stays hC₀
  have hCl : C ∉ (env :: outer).filterMap (·.frame) := off_out B.frames hC₀ hf hLC
  have Wk := Walks.list (prog := prog) (w := w) hh I ax (Nat.ne_of_lt (hI ▸ hlt)) its
  have st0 : h₁.IsListIter I ax 0 := ⟨_, up3 I _ hIC (up2 I _ gI), rfl, rfl⟩
  have loop : ∀ s₃ : Shared, s₃ = { s₁ with heap := h₁, toks := s₁.toks + ([] : List (Str × Value)).length } →
      codeAny (model prog w) A (.compLoop (.ListComp elt [⟨.Name x px, iter, [], 0⟩] scope pos) 0 (.ref I) (.ref D) (compEnvC scope cl C env))
        (compPost (model prog w) A E use Q (.ref D) C) s₃ := by
    rintro s₃ rfl
    refine codeAny_compLoop_tests
      (fun k s' => ∃ h' tk i ys m' nw, s' = { s₁ with heap := h', toks := tk } ∧ i ≤ its.size ∧ k = its.size + 1 - i ∧ ys.length = i ∧ h'.IsListIter I ax i ∧ Fr h₀ L h' m ∧ h'.Ns C m' ∧ News h₀ L h' ((D, LCg.lst ys) :: nw) ∧ LCg.Off3 I C D nw ∧ J i ys nw) ?_ (its.size + 1)
      ⟨h₁, _, 0, [], _, news, rfl, Nat.zero_le _, rfl, rfl, st0, F1, hns₁, fun p hp => ?_, off1, J0⟩
    · rintro k s' ⟨h', tk, i, ys, m', nw, rfl, hi, rfl, hyl, hit, F', hn', N', off', hJ⟩
      obtain ⟨ka, hma⟩ := Jm _ _ _ hJ
      have hla : h'.IsList ax its := ⟨_, (N' _ (List.mem_cons_of_mem _ hma)).1, rfl, _, rfl⟩
      have off3 := off'.mem
      by_cases hlt2 : i < its.size
      · refine Wk.item i _ _ _ hlt2 ⟨hit, hla⟩ fun v h₂ tk₂ hPv hst₂ hk₂ => ?_
        refine wpAny_assign_Name (wpAny_storeName_local (lookup_relabel_local hx) (hn'.at' fun o e => hk₂ _ o (by simpa using Ne.symm hIC) e) (fun h₃ hn₃ hs₃ => ?_) (by simp [compEnvC, relabel, hkind]))
        refine wpAny_tests_nil ?_
        simp only [if_true]
        obtain ⟨oC, heC, hoC⟩ := LCg.ns_obj hn₃
        have F₃ : Fr h₀ L h₃ m := (LCg.fr_but F' hk₂ hLI hI₀).change hs₃ hLC hC₀
        have N₂ : News h₀ L h₂ ((D, LCg.lst ys) :: nw) := LCg.news_but N' hk₂ fun p hp => by
          rcases List.mem_cons.mp hp with rfl | hp
          · exact Ne.symm hID
          · exact (off3 p hp).1
        obtain ⟨oI, heI2, hoI2⟩ := hst₂.1
        have heI : h₃.get? I = some oI := hs₃.extBut _ _ hIC heI2
        have N₃ : News h₀ L h₃ ((I, oI) :: (C, oC) :: (D, LCg.lst ys) :: nw) := fun p hp => by
          rcases List.mem_cons.mp hp with rfl | hp
          · exact ⟨heI, Ne.symm hLI, hI₀⟩
          · rcases List.mem_cons.mp hp with rfl | hp
            · exact ⟨heC, hLC, hC₀⟩
            · have z := N₂ p hp
              refine ⟨hs₃.extBut _ _ ?_ z.1, z.2⟩
              rcases List.mem_cons.mp hp with rfl | hp
              · exact Ne.symm hCD
              · exact (off3 p hp).2.1
        refine wpAny_mono (turn i ys nw v I oI C oC D _ h₃ _ hPv hJ hoC (by simp) F₃ N₃ off' ⟨hIC, hID, hCD⟩) (fun y s₄ h₄ => ?_) (fun e s₄ h₄ => ?_)
        · refine hideG ?_; intro g9; obtain ⟨h₄, tk₄, nw₄, e91, F₄, N₄, off₄, J₄⟩ := h₄; k_unfold; subst e91
          have zI := (N₄ (I, oI) List.mem_cons_self).1
          have zC := (N₄ (C, oC) (List.mem_cons_of_mem _ List.mem_cons_self)).1
          have zD := (N₄ (D, LCg.lst ys) (List.mem_cons_of_mem _ (List.mem_cons_of_mem _ List.mem_cons_self))).1
          have N₄' : News h₀ L h₄ nw₄ := fun p hp => N₄ p (List.mem_cons_of_mem _ (List.mem_cons_of_mem _ (List.mem_cons_of_mem _ hp)))
          refine append_at (hsz := by show ys.toArray.size ≤ sizeLine; rw [List.size_toArray, hyl]; exact Nat.le_trans hi hsz) zD fun h₅ hs₅ hD₅ => ?_
          have off4 := off₄.mem
          refine ⟨its.size + 1 - (i + 1), by omega, h₅, tk₄, i + 1, ys ++ [y], _, nw₄, rfl, hlt2, rfl, by rw [List.length_append, List.length_singleton, hyl], ⟨oI, hs₅.extBut _ _ hID zI, hoI2⟩, F₄.change hs₅ hLD hD₀,
            (hoC.ns zC).sameBut hs₅ hCD, fun p hp => ?_, off₄, J₄⟩
          rcases List.mem_cons.mp hp with rfl | hp
          · exact ⟨hD₅.trans (congrArg some (LCg.lst_snoc ys y)), hLD, hD₀⟩
          · exact ⟨hs₅.extBut _ _ (off4 p hp).2.2 (N₄' p hp).1, (N₄' p hp).2⟩
        · refine hideG ?_; intro g9; obtain ⟨ea, Dx, j, h', tk', G, e91, e92, FG, hGC, R, U, hX⟩ := h₄; k_unfold; subst e91; subst e92
          refine hideG ?_; intro g9; obtain ⟨Bx, t, hB, hBG, hDx, hDG, heG, hfl⟩ := R; k_unfold
          show wpAny (model prog w) A (noteFrame (.ref ea) (compEnvC scope cl C env)) _ _ _
          have eqn : noteFrame (.ref ea) (compEnvC scope cl C env) = noteFrame (.ref ea) env := rfl
          rw [eqn]
          refine bad_noteF hfr hf hfl fun h'' fl' x1 x2 => ?_
          have U2 : G.UpToSlots h'' := U.trans x2
          have hCnf : ∀ vs, oC.data ≠ .fields vs := fun vs q => by obtain ⟨es, ep, hd, _⟩ := hoC; rw [hd] at q; cases q
          obtain ⟨sl, hsl⟩ := U2 C oC hGC hCnf
          have nsC : h''.Ns C _ := LCg.NsObj.ns (o := { oC with slots := sl }) hoC hsl
          suffices q : ∃ m, h''.Ns C m ∧ ∀ h3, Heap.SameBut C h'' h3 → ∀ cenv : Env, cenv.locals = C → wpAny (model prog w) A (PySem.passOn "comprehension.variables-let-go" (.ref ea) cenv : Sem Value) (fun _ _ => False) E { s₁ with heap := h3, toks := tk' } by
            cases use <;> exact q
          refine ⟨_, nsC, fun h3 hs3 cenv hcl => ?_⟩
          have RF : RaisedF w base G (env :: outer) ea Dx j h'' := ⟨Bx, t, fl', hB, hBG, hDx, hDG, heG, x1⟩
          have RF3 := raisedF_but RF hGC hCl hCb hs3
          have U3 := upTo_but (C := C) U2 hs3
          refine hideG ?_; intro g9; obtain ⟨B3, t3, fl3, b1, b2, b3, b4, b5, b6⟩ := RF3; k_unfold
          refine bad_passOn b6 fun h4 fl4 c1 c2 => exn ea Dx j h4 _ (hideAll G [C]) ⟨?_, fun b o q => hideAll_get _ (FG.keep b o q) (fun hm => by rw [List.mem_singleton.mp hm, hC₀] at q; cases q), FG.above⟩ ⟨B3, t3, fl4, b1, b2, b3, b4, b5, c1⟩ (U3.trans c2) hX
          refine hideG ?_; intro g9; obtain ⟨oL, a1, a2, hoL, a3⟩ := FG.ns; k_unfold
          exact ⟨oL, a1, a2, hideAll_get _ hoL (fun hm => hLC (List.mem_singleton.mp hm).symm), a3⟩
      · obtain rfl : i = its.size := Nat.le_antisymm hi (Nat.not_lt.mp hlt2)
        refine Wk.done _ _ _ ⟨hit, hla⟩ fun h₂ tk₂ hk₂ => ?_
        have N₂ : News h₀ L h₂ ((D, LCg.lst ys) :: nw) := LCg.news_but N' hk₂ fun p hp => by
          rcases List.mem_cons.mp hp with rfl | hp
          · exact Ne.symm hID
          · exact (off3 p hp).1
        exact hfin s₁ D C h₂ tk₂ ys nw _ (LCg.fr_but F' hk₂ hLI hI₀) N₂ off'.one (hn'.at' fun o e => hk₂ _ o (by simpa using Ne.symm hIC) e) hC₀ hD₀ hLC hLD hCD (fun p hp => (off3 p hp).2.1) (fin _ _ hJ)
    · rcases List.mem_cons.mp hp with rfl | hp
      · exact ⟨up3 D _ (Ne.symm hCD) gD, hLD, hD₀⟩
      · exact N1 p hp
  exact codeAny_compStart_list (loop _ rfl) (Wk.self 0 _ _ _ ⟨st0, ⟨_, (N1 _ hm0).1, rfl, _, rfl⟩⟩ (loop _ rfl))
theorem comp_list {elt iter : Expr} {x : Str} {px : Pos} {scope : Scope} {cl : List (Str × Addr)} {pos : Pos} {Q : Value → Shared → Prop}
    (_F : Fr h₀ L s.heap m) (B : Below A₀ base outer h₀) (hh : A.handled = none) (hfr : A.frames = some (env :: outer)) (hf : env.frame = some L)
    (hclos : closureFor scope env = pure cl) (hcell : ∀ y ∈ scope.names, y.2 ≠ .cell) (hkind : scope.kind = .function)
    (hnames : ∀ y ∈ scope.names, y.2 = .local → scope.names.lookup y.1 = some .local) (hx : scope.names.lookup x = some .local)
    (h : wpAny (model prog w) A (eval iter env) (CompX prog w A E base h₀ env outer L m elt x scope cl (fun s₂ => LCg.FinE h₀ L m s₂ Q)) E s)
    (hs : ∀ x, foldedSetIterable iter env x = pure x := by intro _; rfl) :
    wpAny (model prog w) A (eval (.ListComp elt [⟨.Name x px, iter, [], 0⟩] scope pos) env) Q E s := by
  rw [eval_ListComp]
  refine comp_any none B hh hfr hf hclos hcell hkind hnames hx h hs fun s₂ D C h tk ys nw m' F' N' o1 hn hC₀ hD₀ hCL hDL hCD offC fin => ⟨m', hn, fun h'' hs'' => fin D h'' tk (F'.change hs'' hCL hC₀) (fun p hp => ?_) o1⟩
  refine ⟨hs''.extBut _ _ ?_ (N' p hp).1, (N' p hp).2⟩
  rcases List.mem_cons.mp hp with rfl | hp
  · exact Ne.symm hCD
  · exact offC p hp
theorem comp_assign {elt iter : Expr} {x y : Str} {px py : Pos} {scope : Scope} {cl : List (Str × Addr)} {pos spos : Pos} {Q : Flow → Shared → Prop}
    (_F : Fr h₀ L s.heap m) (B : Below A₀ base outer h₀) (hLe : env.locals = L) (hh : A.handled = none) (hfr : A.frames = some (env :: outer)) (hf : env.frame = some L)
    (hsw : swapsWith (.ListComp elt [⟨.Name x px, iter, [], 0⟩] scope pos) (some (.Name y py)) spos.line env = pure true)
    (hclos : closureFor scope env = pure cl) (hcell : ∀ y ∈ scope.names, y.2 ≠ .cell) (hkind : scope.kind = .function)
    (hnames : ∀ y ∈ scope.names, y.2 = .local → scope.names.lookup y.1 = some .local) (hx : scope.names.lookup x = some .local)
    (hy : env.kindOf y = some .local) (hp : (env.scope.kind == .class || (env.scope.kind == .module && env.locals != env.globals)) = false)
    (h : wpAny (model prog w) A (eval iter env) (CompX prog w A E base h₀ env outer L m elt x scope cl (fun s₂ => LCg.FinA h₀ L m s₂ y Q)) E s)
    (hs : ∀ x, foldedSetIterable iter env x = pure x := by intro _; rfl) :
    wpAny (model prog w) A (exec (.Assign [.Name y py] (.ListComp elt [⟨.Name x px, iter, [], 0⟩] scope pos) spos) env) Q E s := by
  subst hLe
  rw [exec_Assign_Name_used _ _ _ _ hsw]
  refine wpAny_bind (wpAny_standAt (wpAny_bind ?_))
  show wpAny _ A (do let _ ← comprehension (.ListComp elt [⟨.Name x px, iter, [], 0⟩] scope pos) scope env _ (newList []) false (eval iter env) (some (assign (.Name y py) env))) _ _ s
  refine wpAny_bind (wpAny_mono (comp_any (some (assign (.Name y py) env)) (Q := fun _ s' => Q .next s') B hh hfr hf hclos hcell hkind hnames hx h hs ?_) (fun _ s' hq => wpAny_pure (wpAny_pure hq)) fun _ _ e => e)
  intro s₂ D C h tk ys nw m' F' N' o1 hn hC₀ hD₀ hCL hDL hCD offC fin
  show wpAny _ A (assign (.Name y py) env (.ref D)) _ _ _
  refine wpAny_assign_Name (wpAny_storeName_local hy F'.ns (fun h₂ hn₂ hs₂ => ?_) hp)
  have hL₀ : h₀.get? env.locals = none := Heap.get?_none_of_le F'.above
  have F₂ : Fr h₀ env.locals h₂ (fun z => if z = y then some (.ref D) else m z) := ⟨hn₂, fun b o e => hs₂.extBut b o (fun q => by rw [q, hL₀] at e; cases e) (F'.keep b o e), F'.above⟩
  refine ⟨m', hn.sameBut hs₂ hCL, fun h'' hs'' => fin D h'' _ (F₂.change hs'' hCL hC₀) (fun p hp => ?_) o1⟩
  have z : h₂.get? p.1 = some p.2 := hs₂.extBut _ _ (N' p hp).2.1 (N' p hp).1
  refine ⟨hs''.extBut _ _ ?_ z, (N' p hp).2⟩
  rcases List.mem_cons.mp hp with rfl | hp
  · exact Ne.symm hCD
  · exact offC p hp
end

end
section -- V3
section
variable {prog : Program} {w : World} {mean : ExcName → Option Value} {mg mb : Str → Option Value} {dp un : Nat} {gd : Option (List Code)} {base g : Heap} {frs : List Env} {s : Shared} {foot : List (Addr × Obj)}
  {R : Result → Shared → Prop} {name qual : Str} {params : Arguments} {body : List Stmt} {scope : Scope} {dV kV doc pm cdv ct oc : Value} {an od : Option Addr} {osl : Array (Option Value)} {f : Addr} {args : Args} {binds : List (Str × Value)}
theorem enterC (S : Site w mean mg mb dp un gd base frs g s foot)
    (ho : (hd0.heap_1 w.params).lookup f = some ⟨oc, od, .func (fnOf name qual params body scope dV kV doc pm an cdv ct), osl⟩) (hcd : codeIn (hd0.heap_1 w.params) cdv qual = true) (hroom : dp < recursionLimit)
    (hbind : BindsTo s (fnOf name qual params body scope dV kV doc pm an cdv ct) args binds) (hkind : (binds.all fun y => scope.names.lookup y.1 == some .local || scope.names.lookup y.1 == some .cell) = true)
    (hnd : ((cellsFrom 0 scope.names []).map (·.1)).Nodup)
    (h : ∀ L' h₁ tk cells, Fr g L' h₁ (bindL (envOfC qual scope L' f cdv).kindOf binds fun _ => none) → News g L' h₁ (cells ++ foot) → CellsAre (bindC (envOfC qual scope L' f cdv).kindOf binds fun _ => none) (cellsFrom (L' + 1) scope.names []) cells →
      Below (aro dp un gd frs) base frs g → (hd0.heap_1 w.params).In g → Top viewQ LO mean mg mb g → (∀ p ∈ foot, p.1 < L') →
      wpAny (model prog w) ((aro dp un gd frs).deeper (envOfC qual scope L' f cdv)) (execs body (envOfC qual scope L' f cdv))
        (fun fl s' => LeaveS g R (match fl with | .ret v => v | _ => .none) s')
        (fun e s' => wpAny (model prog w) ((aro dp un gd frs).deeper (envOfC qual scope L' f cdv)) (leaving (envOfC qual scope L' f cdv) e) (fun _ s'' => R (.error e) s'') (fun e' s'' => R (.error e') s'') s')
        { s with heap := h₁, toks := tk })
    (hco : scope.isCoroutine = false) (hgen : scope.isGenerator = false) (hk : scope.kind = .function) : codeAny (model prog w) (aro dp un gd frs) (.call (.ref f) args) R s := by
  have Xg : (hd0.heap_1 w.params).In g := S.X.keeps S.B.stays
  have Tg := S.T.keeps S.B.stays
  refine codeAny_call_function (fd := fnOf name qual params body scope dV kV doc pm an cdv ct) hroom (S.st _ _ (Xg _ _ ho)) rfl hco hgen rfl (codeRec_of (Xg.keeps S.st) hcd) (hbind _ _ _ _ ?_)
  refine wpAny_newFunctionEnv_cells hk (kindsX hkind _) fun env' he s' x => ?_
  subst he
  refine ⟨(Tg.nolimit.keeps S.st).keeps x.toInCall.keep, codeAny_func ?_⟩
  refine hideG ?_; intro g9; obtain ⟨h₁, tk, e91, _⟩ := x.done; k_unfold; subst e91
  have hk₁ := x.toInCall.keep
  obtain ⟨cells, NC, Y⟩ := Cl.news (h₀ := s.heap) (Nat.le_refl _) fun n c hm => ⟨x.cell n c (lookup_of_mem_nodup (cellsFrom_names scope.names 0 (s.heap.objs.size + 1) [] [] rfl ▸ hnd) hm), x.above n c hm⟩
  refine wpAny_mono (h s.heap.objs.size h₁ tk cells ⟨x.toInCall.ns, fun b o e => hk₁ b o (S.st b o e), S.sz⟩ (fun p hp => ?_) Y S.B Xg Tg (fun p hp => Heap.lt_size (S.N p hp).1)) (fun fl s' hl => ?_) fun _ _ y => y
  · rcases List.mem_append.mp hp with hp | hp
    · refine ⟨(NC p hp).1, (NC p hp).2.1, ?_⟩
      cases q : g.get? p.1 with
      | none => rfl
      | some o => have := S.st _ _ q; rw [(NC p hp).2.2] at this; cases this
    · exact ⟨hk₁ _ _ (S.N p hp).1, Nat.ne_of_lt (Heap.lt_size (S.N p hp).1), (S.N p hp).2⟩
  · refine hideG ?_; intro g9; obtain ⟨L', m', news', F', N', k⟩ := hl; k_unfold
    exact k F'.keep fun p hp => ⟨(N' p hp).1, (N' p hp).2.2⟩
end
section
variable {prog : Program} {w : World} {mean : ExcName → Option Value} {mg mb : Str → Option Value} {dp un : Nat} {gd : Option (List Code)} {base h₀ : Heap} {outer : List Env} {s : Shared} {foot news rest : List (Addr × Obj)}
  {f L : Addr} {args : List Value} {d : Nat} {P : Value → List (Addr × Obj) → Prop} {X : Int → Prop} {A₀ : Around} {m : Str → Option Value} {env : Env} {Q E : Value → Shared → Prop}
end
theorem turnExn {w : World} {base h₀ G h' : Heap} {l : List Env} {L C ea D : Addr} {m : Str → Option Value} {oC : Obj} {s : Shared} {X : Int → Prop} {rest : List (Addr × Obj)} {j : Int} {tk' : Nat}
    (FG : Fr h₀ L G m) (N : News h₀ L G rest) (hm : (C, oC) ∈ rest) (R : Raised w base G l ea D j h') (U : G.UpToSlots h') (hX : X j) : TurnExn w base h₀ l L C m oC s X (.ref ea) { s with heap := h', toks := tk' } :=
  ⟨ea, D, j, h', tk', G, rfl, rfl, FG, (N _ hm).1, R, U, hX⟩
theorem newsSub {h₀ h : Heap} {L : Addr} {l l' : List (Addr × Obj)} (N : News h₀ L h l) (hs : ∀ p ∈ l', p ∈ l) : News h₀ L h l' := fun p hp => N p (hs p hp)
theorem turnEnd {h₀ h' : Heap} {L I C D : Addr} {m : Str → Option Value} {s : Shared} {oI oC oD : Obj} {J : List (Addr × Obj) → Prop} {tk' : Nat} {all nw' : List (Addr × Obj)}
    (F : Fr h₀ L h' m) (N : News h₀ L h' all) (hs : ∀ p ∈ (I, oI) :: (C, oC) :: (D, oD) :: nw', p ∈ all) (ho : LCg.Off3 I C D nw') (hJ : J nw') : TurnEnd h₀ L m s I oI C oC D oD J { s with heap := h', toks := tk' } :=
  ⟨h', tk', nw', rfl, F, newsSub N hs, ho, hJ⟩
/-- a block of an explicit ledger: the turn leaves it as it was -/
theorem subOf {l l' : List (Addr × Obj)} (h : SubL l l') : ∀ p ∈ l, p ∈ l' := fun p hp => h.mem p hp

end
section -- V4
theorem int_toNat4 : Int.toNat 4 = 4 := rfl
theorem strAt {pl : List (Str × Tok)} {i : Nat} {v : Value} (h : (strValues pl).toArray[i]? = some v) : ∃ p, pl[i]? = some p ∧ v = .str p.1 p.2 := by
  simp [strValues] at h
  refine hideG ?_; intro g9; obtain ⟨a, b, h1, h2⟩ := h; k_unfold
  exact ⟨(a, b), h1, h2.symm⟩
theorem paired_step {R : Str × Tok → Value → Prop} {pl : List (Str × Tok)} {ys : List Value} {i : Nat} {p : Str × Tok} {v : Value} (h : Paired R (pl.take i) ys) (hp : pl[i]? = some p) (hr : R p v) : Paired R (pl.take (i + 1)) (ys ++ [v]) := by
  rw [List.take_add_one, hp]; exact h.snoc hr
theorem take_size {pl : List (Str × Tok)} : pl.take (strValues pl).toArray.size = pl := by simp [strValues]
theorem size_strs {pl : List (Str × Tok)} (h : Rows pl) : (strValues pl).toArray.size ≤ sizeLine := by
  have := h.1
  simp [strValues]; rw [sizeLine_eq]; omega
section
variable {prog : Program} {w : World} {A : Around} {E : Value → Shared → Prop} {base h₀ : Heap} {L : Addr} {m : Str → Option Value} {env : Env} {outer : List Env} {elt : Expr} {x : Str} {scope : Scope} {cl : List (Str × Addr)}
  {Fin : Shared → List Value → List (Addr × Obj) → Prop} {s₁ : Shared} {ax : Addr} {k : Nat} {news : List (Addr × Obj)} {pl : List (Str × Tok)}
theorem compX_same (R : Str × Tok → Value → Prop) (X : Int → Prop) (F : Fr h₀ L s₁.heap m) (N : News h₀ L s₁.heap news) (hm : (ax, W.listOf (strValues pl).toArray k) ∈ news) (hR : Rows pl)
    (turn : ∀ i ys p I oI C oC D m₂ h tk, pl[i]? = some p → p.1.length ≤ 900 → Paired R (pl.take i) ys → LCg.NsObj oC m₂ → m₂ x = some (.str p.1 p.2) → Fr h₀ L h m → News h₀ L h ((I, oI) :: (C, oC) :: (D, LCg.lst ys) :: news) → LCg.Off3 I C D news → NeA I C → NeA I D → NeA C D →
      wpAny (model prog w) A (eval elt (compEnvC scope cl C env)) (fun y s' => TurnEnd h₀ L m { s₁ with heap := h, toks := tk } I oI C oC D (LCg.lst ys) (fun nw => nw = news ∧ R p y) s')
        (TurnExn w base h₀ (env :: outer) L C m oC { s₁ with heap := h, toks := tk } X) { s₁ with heap := h, toks := tk })
    (fin : ∀ ys, Paired R pl ys → Fin s₁ ys news)
    (exn : ∀ ea D j h tk G, Fr h₀ L G m → RaisedF w base G (env :: outer) ea D j h → G.UpToSlots h → X j → E (.ref ea) { s₁ with heap := h, toks := tk }) :
    CompX prog w A E base h₀ env outer L m elt x scope cl Fin (.ref ax) s₁ := by
  refine' (?zf : Scr _) ?zq _ ?zs
  case zq =>
    refine ⟨ax, (strValues pl).toArray, news, fun i ys nw => nw = news ∧ Paired R (pl.take i) ys, X, rfl, F, N, size_strs hR, ⟨rfl, by simpa using Paired.nil⟩, fun i ys nw h => ⟨k, h.1 ▸ hm⟩, ?_, fun ys nw h => ?_, exn⟩
    · rintro i ys nw v I oI C oC D m₂ h tk hv ⟨rfl, hJ⟩ hC hx F' N' o3 ⟨n1, n2, n3⟩
      obtain ⟨p, hp, rfl⟩ := strAt hv
      refine wpAny_mono (turn i ys p I oI C oC D m₂ h tk hp (hR.at hp) hJ hC hx F' N' o3 n1 n2 n3) (fun y s' h' => ?_) fun _ _ e => e
      refine hideG ?_; intro g9; obtain ⟨h1, t1, nw1, e1, e2, e3, e4, e5, e6⟩ := h'; k_unfold
      exact ⟨h1, t1, nw1, e1, e2, e3, e4, e5, paired_step hJ hp e6⟩
    · obtain ⟨rfl, h⟩ := h
      rw [take_size] at h
      exact fin ys h
  case zs => show LetQ _ ?zq _; (try delta id foldQ letS2 letS hideG foldN subRN subN ltCut letAE nameRet); exact LetQ.refl
  case zf => intro _ r _; exact r
end
noncomputable def ItemIs (o : Obj) (k : Int) (v : Value) : Prop := ∃ vs n, o = W.listOf (List.toArray vs) n ∧ vs[k.toNat]? = some v
theorem itemAny {prog : Program} {w : World} {A : Around} {E : Value → Shared → Prop} {s : Shared} {h₀ : Heap} {L l : Addr} {news : List (Addr × Obj)} {o : Obj} {Q : Value → Shared → Prop} {value slice : Expr} {k : Int} {u : Tok} {v : Value} (N : News h₀ L s.heap news) (hm : (l, o) ∈ news) (ho : ItemIs o k v) (h0 : 0 ≤ k) (hfit : k < 2 ^ 63)
    (h : Q v s) (hs : subscripted slice false (.ref l) (.int k u) = operate [.ref l, .int k u] (getItem (.ref l) (.int k u))) (hg : ∀ r, letTemporaryGo value (.ref l) r = pure ()) :
    wpAny (model prog w) A (subscriptTail value slice (.ref l) (.int k u)) Q E s := by
  refine hideG ?_; intro g9; obtain ⟨vs, n, e91, hx⟩ := ho; k_unfold; subst e91
  exact item_list (isList_at N hm) h0 hfit (by simpa using hx) h hs hg

end
section -- HH
theorem wd_31 : True := by
  (k_with "offg4" => (skip))
  (k_with "x_omega" => ((fail_if_success (k_extra "offg5")); k_extra "W0"))
  (k_with "x_k_steps" => ((fail_if_success (k_extra "offg5")); k_extra "W1"))
  (k_with "x_k_ne" => ((fail_if_success (k_extra "offg5")); k_extra "W2"))
  (k_with "storeName" => ((fail_if_success (k_extra "offg5")); k_extra "W3"))
  (k_with "newList" => ((fail_if_success (k_extra "offg5")); k_extra "W4"))
  (k_with "newTuple" => ((fail_if_success (k_extra "offg5")); k_extra "W5"))
  (k_with "call builtin:list.append" => ((fail_if_success (k_extra "offg5")); k_extra "W6"))
  (k_with "setAttr ref" => ((fail_if_success (k_extra "offg5")); k_extra "W7"))
  (k_with "m_objs" => ((fail_if_success (k_extra "offg5")); k_extra "W8"))
  (k_with "m_foldq" => ((fail_if_success (k_extra "offg5")); k_extra "W9"))
  (k_with "x_k_upd" => ((fail_if_success (k_extra "offg5")); k_extra "W10"))
  (k_with "m_maskS" => ((fail_if_success (k_extra "offg5")); k_extra "W11"))
  (k_with "m_keep" => ((fail_if_success (k_extra "offg5")); k_extra "W12"))
  (k_with "m_subD" => ((fail_if_success (k_extra "offg5")); k_extra "W13"))
  (k_with "m_pickS" => ((fail_if_success (k_extra "offg5")); k_extra "W14"))
  (k_with "m_selS" => ((fail_if_success (k_extra "offg5")); k_extra "W15"))
  (k_with "m_updS" => ((fail_if_success (k_extra "offg5")); k_extra "W16"))
  (k_with "m_keyS" => ((fail_if_success (k_extra "offg5")); k_extra "W17"))
  (k_with "m_neD" => ((fail_if_success (k_extra "offg5")); k_extra "W18"))
  (k_with "m_sel" => ((fail_if_success (k_extra "offg5")); k_extra "W19"))
  (k_with "m_pick" => ((fail_if_success (k_extra "offg5")); k_extra "W20"))
  (k_with "m_tailD" => ((fail_if_success (k_extra "offg5")); k_extra "W21"))
  (k_with "m_tailD1" => ((fail_if_success (k_extra "offg5")); k_extra "W22"))
  (k_with "m_foot" => ((fail_if_success (k_extra "offg5")); k_extra "W23"))
  (k_with "m_pnk" => ((fail_if_success (k_extra "offg5")); k_extra "W24"))
  (k_with "m_clrD" => ((fail_if_success (k_extra "offg5")); k_extra "W25"))
  (k_with "eval Subscript" => ((fail_if_success (k_extra "offg5")); k_extra "W29"))
  (k_with "LeaveS" => ((fail_if_success (k_extra "offg5")); k_extra "W30"))
  (k_with "x_k_room" => ((fail_if_success (k_extra "offg5")); k_extra "W31"))
  (k_with "x_k_units" => ((fail_if_success (k_extra "offg5")); k_extra "W32"))
  (k_with "call builtin:str.split" => ((fail_if_success (k_extra "offg5")); k_extra "W33"))
  (k_with "m_enter" => ((fail_if_success (k_extra "offg5")); k_extra "W34"))
  (k_with "getMethod type:Exception" => ((fail_if_success (k_extra "offg5")); k_extra "W35"))
  (k_with "exec Raise some none" => ((fail_if_success (k_extra "offg5")); k_extra "W36"))
  (k_with "call ref cons nil" => ((fail_if_success (k_extra "offg5")); k_extra "W37"))
  (k_with "RBPost" => ((fail_if_success (k_extra "offg5")); k_extra "W38"))
  (k_with "leaving ref" => ((fail_if_success (k_extra "offg5")); k_extra "W39"))
  (k_with "m_exn" => ((fail_if_success (k_extra "offg5")); k_extra "W40"))
  (k_with "call builtin:len cons nil" => ((fail_if_success (k_extra "offg5")); k_extra "W41"))
  (k_with "subscriptTail Name Constant ref int" => ((fail_if_success (k_extra "offg5")); k_extra "W42"))
  (k_with "subscriptTail" => ((fail_if_success (k_extra "offg5")); k_extra "W42"))
  (k_with "subscriptTail Name Slice ref ref" => ((fail_if_success (k_extra "offg5")); k_extra "W74"))
  (k_with "subscriptTail Name Slice ref ref" => ((fail_if_success (k_extra "offg5")); k_extra "W75"))
  (k_with "m_and" => ((fail_if_success (k_extra "offg5")); k_extra "W76"))
  (k_with "x_k_ne" => ((fail_if_success (k_extra "offg5")); k_extra "W77"))
  (k_with "x_k_all" => ((fail_if_success (k_extra "offg5")); k_extra "W78"))
  (k_with "x_k_mem" => ((fail_if_success (k_extra "offg5")); k_extra "W79"))
  (k_with "x_tb_rel" => ((fail_if_success (k_extra "offg5")); k_extra "W20"))
  (k_with "x_tb_start" => ((fail_if_success (k_extra "offg5")); k_extra "W19"))
  (k_with "execs cons" => ((fail_if_success (k_extra "offg5")); k_extra "W56"))
  (k_with "execs nil" => ((fail_if_success (k_extra "offg5")); k_extra "W57"))
  (k_with "m_len" => ((fail_if_success (k_extra "offg5")); k_extra "W59"))
  (k_with "W92" => ((k_here; (with_reducible show wpAny _ _ (call (Value.ref 291) _) _ _ _); (try (k_extra "m_foldq")); k_dflt (refine' use_con2CD (by k_asm) (by k_asm) (by k_asm) (by k_asm) (by k_asm) (by exact rfl) (by exact rfl) (by tb_start) (c_words (by omega) (by assumption)) (by k_room) (by k_units) ?_ ?_); rotate_left; (intro G' e' D' j' h' tk' FG' NG' R' U' hX'; (try dsimp only)); rotate_left; (intro r' news' hP'; (obtain ⟨D', p0', pl', ho', hv', hz', hn'⟩ := hP'); (with_reducible refine subRN hv' hn' ?_); clear hv' hn'; clear news'; clear r'; (try ((with_reducible rename pairNe _ => dN8); clear dN8)); intro h' tk' F' N' hne'; (dsimp only [List.cons_append, List.nil_append] at N'); (try ((with_reducible refine foldN N' ?_); clear N'; intro n9 N')); (try k_sweep); (try dsimp only)))))
  (k_with "call ref" => ((fail_if_success (k_extra "offg5")); k_extra "W92"))
  (k_with "W93" => ((k_here; (with_reducible show wpAny _ _ (call (Value.ref 142) _) _ _ _); (try (k_extra "m_foldq")); k_dflt (refine' use_con2CD (by k_asm) (by k_asm) (by k_asm) (by k_asm) (by k_asm) (by exact rfl) (by exact rfl) (by tb_start) c_opof (by k_room) (by k_units) ?_ ?_); rotate_left; (intro _ _ _ _ _ _ _ _ _ _ hX'; exact (show False from hX').elim); (intro r' news' hP'; (obtain ⟨⟨t9', hv'⟩, hn'⟩ := hP'); (with_reducible refine subRN hv' hn' ?_); clear hv' hn'; clear news'; clear r'; (try ((with_reducible rename pairNe _ => dN8); clear dN8)); intro h' tk' F' N' hne'; (dsimp only [List.cons_append, List.nil_append] at N'); (try ((with_reducible refine foldN N' ?_); clear N'; intro n9 N')); (try k_sweep); (try dsimp only)))))
  (k_with "call ref" => ((fail_if_success (k_extra "offg5")); k_extra "W93"))
  (k_with "W94" => ((k_here; (with_reducible show wpAny _ _ (call (Value.ref 326) _) _ _ _); (try (k_extra "m_foldq")); k_dflt (refine' use_con2CD (by k_asm) (by k_asm) (by k_asm) (by k_asm) (by k_asm) (by exact rfl) (by exact rfl) (by tb_start) c_need (by k_room) (by k_units) ?_ ?_); rotate_left; (intro G' e' D' j' h' tk' FG' NG' R' U' hX'; (obtain ⟨hb', hj'⟩ := hX'); (try (exact absurd hb' (by decide))); (try dsimp only)); rotate_left; (intro r' news' hP'; ((refine cj3 hP' ?_); clear hP'; intro hb' hv' hn'); (with_reducible refine subRN hv' hn' ?_); clear hv' hn'; clear news'; clear r'; (try ((with_reducible rename pairNe _ => dN8); clear dN8)); intro h' tk' F' N' hne'; (first | (with_reducible exact absurd hb' Bool.false_ne_true) | (exact absurd hb' (by decide)) | (with_reducible exact absurd (of_decide_eq_true hb') (by with_reducible assumption)) | ((dsimp only [List.cons_append, List.nil_append] at N'); (try ((with_reducible refine foldN N' ?_); clear N'; intro n9 N')); (try k_sweep); (try dsimp only)))))))
  (k_with "call ref" => ((fail_if_success (k_extra "offg5")); k_extra "W94"))
  (k_with "W95" => ((k_here; (with_reducible show wpAny _ _ (call (Value.ref 202) _) _ _ _); (try (k_extra "m_foldq")); k_dflt (refine' use_con02C (by k_asm) (by k_asm) (by k_asm) (by k_asm) (by k_asm) (by exact rfl) (by exact rfl) (c_plain (by k_extra "m_len")) (by k_room) (by k_units) ?_ ?_); rotate_left; (intro _ _ _ _ _ _ _ _ _ _ hX'; exact (show False from hX').elim); (intro r' news' hP'; ((k_dflt (refine ex1 hP' ?_)); clear hP'; intro t9' hP'; (refine cj2 hP' ?_); clear hP'; intro hv' hn'); (with_reducible refine subRN hv' hn' ?_); clear hv' hn'; clear news'; clear r'; intro h' tk' F' N'; (dsimp only [List.cons_append, List.nil_append] at N'); (try ((with_reducible refine foldN N' ?_); clear N'; intro n9 N')); (try k_sweep); (try dsimp only)))))
  (k_with "call ref" => ((fail_if_success (k_extra "offg5")); k_extra "W95"))
  (k_with "W96" => ((k_here; (with_reducible show wpAny _ _ (call (Value.ref 305) _) _ _ _); (try (k_extra "m_foldq")); k_dflt (refine' use_con2CD (by k_asm) (by k_asm) (by k_asm) (by k_asm) (by k_asm) (by exact rfl) (by exact rfl) (by tb_start) (c_number (by k_extra "m_len")) (by k_room) (by k_units) ?_ ?_); rotate_left; (intro G' e' D' j' h' tk' FG' NG' R' U' hX'; (try dsimp only)); rotate_left; (intro r' news' hP'; (obtain ⟨t9', ho', h0', hv', hn'⟩ := hP'); (with_reducible refine subRN hv' hn' ?_); clear hv' hn'; clear news'; clear r'; (try ((with_reducible rename pairNe _ => dN8); clear dN8)); intro h' tk' F' N' hne'; (dsimp only [List.cons_append, List.nil_append] at N'); (try ((with_reducible refine foldN N' ?_); clear N'; intro n9 N')); (try k_sweep); (try dsimp only)))))
  (k_with "call ref" => ((fail_if_success (k_extra "offg5")); k_extra "W96"))
  (k_with "W97" => ((k_here; (with_reducible show wpAny _ _ (call (Value.ref 312) _) _ _ _); (try (k_extra "m_foldq")); k_dflt (refine' use_con2CD (by k_asm) (by k_asm) (by k_asm) (by k_asm) (by k_asm) (by exact rfl) (by exact rfl) (by tb_start) (c_text (by k_extra "m_len")) (by k_room) (by k_units) ?_ ?_); rotate_left; (intro G' e' D' j' h' tk' FG' NG' R' U' hX'; (try dsimp only)); rotate_left; (intro r' news' hP'; (obtain ⟨x', t9', ho', hv', hn'⟩ := hP'); (with_reducible refine subRN hv' hn' ?_); clear hv' hn'; clear news'; clear r'; (try ((with_reducible rename pairNe _ => dN8); clear dN8)); intro h' tk' F' N' hne'; (dsimp only [List.cons_append, List.nil_append] at N'); (try ((with_reducible refine foldN N' ?_); clear N'; intro n9 N')); (try k_sweep); (try dsimp only)))))
  (k_with "call ref" => ((fail_if_success (k_extra "offg5")); k_extra "W97"))
  (k_with "compareOp In" => ((fail_if_success (k_extra "offg5")); k_extra "W85"))
  (k_with "call builtin:list.index" => ((fail_if_success (k_extra "offg5")); k_extra "W86"))
  (k_with "subscriptTail Name Name ref int" => ((fail_if_success (k_extra "offg5")); k_extra "W88"))
  (k_with "subscriptTail" => ((fail_if_success (k_extra "offg5")); k_extra "W88"))
  (k_with "subscriptTail Subscript Name Name Constant ref int" => ((fail_if_success (k_extra "offg5")); k_extra "W89"))
  (k_with "subscriptTail" => ((fail_if_success (k_extra "offg5")); k_extra "W89"))
  (k_with "call builtin:len cons nil" => ((fail_if_success (k_extra "offg5")); k_extra "W90"))
  (k_with "compareOp In int ref" => ((fail_if_success (k_extra "offg5")); k_extra "W91"))
  (k_with "W98" => ((k_here; k_dflt (refine' leave_onF (by k_asm) (by exact rfl) (by k_asm) (by k_asm) (by k_asm) ?_; k_whole; intro h' R' U'; (try dsimp only)))))
  (k_with "leaving ref" => ((fail_if_success (k_extra "offg5")); k_extra "W98"))
  (k_with "W99" => ((refine wpAny_call ?_; k_dflt (refine' enterC (by assumption) (by k_is) (by k_is) (by k_room) (by exact BindsTo.of_eq rfl) (by exact rfl) (by decide +kernel) ?_ (by exact rfl) (by exact rfl) (by exact rfl); k_whole; intro L' h' tk' cells' F' N' Y' B' X' T' l1; k_cells Y'; (try simp only [List.cons_append, List.nil_append] at N'); (rename Site _ _ _ _ _ _ _ _ _ _ _ _ => mS); (have mXB := Site.X mS); (have mTB := Site.T mS); (have mND := Site.nd mS); (refine dCut (pnCell mND l1) ?_); clear mND; clear l1; intro mND; clear mS; (have kX' := X'); (have kT' := T'); clear X' T'; (try dsimp only); (with_reducible refine letAE ?_); intro A9 e9; (try (k_extra "m_objs")); (try k_fold)))))
  (k_with "m_enterC" => ((fail_if_success (k_extra "offg5")); k_extra "W99"))
  (k_with "W100" => ((k_here; k_dflt (refine' comp_list (by k_asm) (by k_asm) (by exact rfl) (by exact rfl) (by exact rfl) (by with_unfolding_all rfl) (by decide) (by exact rfl) (by decide) (by exact rfl) ?_ (by (intro _; with_unfolding_all rfl)); k_whole); (try dsimp only))))
  (k_with "eval ListComp" => ((fail_if_success (k_extra "offg5")); k_extra "W100"))
  (k_with "W101" => ((k_here; k_dflt (refine' comp_assign (by k_asm) (by k_asm) (by exact rfl) (by exact rfl) (by exact rfl) (by exact rfl) (by with_unfolding_all rfl) (by with_unfolding_all rfl) (by decide) (by exact rfl) (by decide) (by exact rfl) (by exact rfl) (by exact rfl) ?_ (by (intro _; with_unfolding_all rfl)); k_whole); (try dsimp only))))
  (k_with "exec Assign cons ListComp" => ((fail_if_success (k_extra "offg5")); k_extra "W101"))
  (k_with "W102" => ((k_here; k_dflt (refine' itemAny (by k_asm) (by k_mem) (by exact ⟨_, _, rfl, rfl⟩) (by decide) (by decide) ?_ (by with_unfolding_all rfl) (by (intro _; with_unfolding_all rfl)); k_whole); (try dsimp only))))
  (k_with "subscriptTail Name Constant ref int" => ((fail_if_success (k_extra "offg5")); k_extra "W102"))
  (k_with "W103" => ((intro i9 ys9 p9 I9 oI9 C9 oC9 D9 m9 h9 tk9 hp9 hl9 hP9 hC9 hx9 F9 N9 o9 n1 n2 n3; (have o9k := o9); (try ((with_reducible rename pairNe _ => dN8); (refine dCut (pn3 dN8 o9 n1 n2 n3 rfl) ?_); clear dN8; intro dN9)); (try dsimp only))))
  (k_with "m_turn" => ((fail_if_success (k_extra "offg5")); k_extra "W103"))
  (k_with "W104" => ((intro ea9 D9 j9 h9 tk9 G9 FG9 R9 U9 X9; (try dsimp only))))
  (k_with "m_exn2" => ((fail_if_success (k_extra "offg5")); k_extra "W104"))
  (k_with "W105" => ((intro ys9 hP9; (intro D9 h9 tk9 F9 N9 o9); (try ((with_reducible rename pairNe _ => dN8); (refine dCut (pn1 dN8 o9 rfl) ?_); clear dN8; intro dN9)); (try dsimp only))))
  (k_with "m_finA" => ((fail_if_success (k_extra "offg5")); k_extra "W105"))
  (k_with "W106" => ((k_dflt (refine' turnExn (by k_asm) (by k_asm) (by k_mem) (by k_asm) (by k_asm) (by first | with_reducible assumption | exact ⟨_, List.mem_of_getElem? (by with_reducible assumption), by with_reducible assumption⟩)))))
  (k_with "TurnExn" => ((fail_if_success (k_extra "offg5")); k_extra "W106"))
  (k_with "W107" => ((k_dflt (refine' turnEnd (by k_asm) (by k_asm) (by exact subOf (by k_subL)) (by with_reducible assumption) ⟨rfl, ?_⟩); (try dsimp only))))
  (k_with "TurnEnd" => ((fail_if_success (k_extra "offg5")); k_extra "W107"))
  trivial
noncomputable def NumV (p : Str × Tok) (v : Value) : Prop := 0 ≤ plainO p.1 ∧ ∃ t, v = .int (plainO p.1) t
theorem paired_cons {α β : Type} {R : α → β → Prop} {x : α} {xs : List α} {ys : List β} (h : Paired R (x :: xs) ys) : ∃ v vs, ys = v :: vs ∧ R x v ∧ Paired R xs vs := by
  cases h with | cons a h => exact ⟨_, _, rfl, a, h⟩
theorem paired_nil {α β : Type} {R : α → β → Prop} {ys : List β} (h : Paired R ([] : List α) ys) : ys = [] := by
  cases h; rfl
theorem paired4 {R : Str × Tok → Value → Prop} {x0 x1 x2 x3 : Str × Tok} {ys : List Value} (h : Paired R [x0, x1, x2, x3] ys) : ∃ v0 v1 v2 v3, ys = [v0, v1, v2, v3] ∧ R x0 v0 ∧ R x1 v1 ∧ R x2 v2 ∧ R x3 v3 := by
  refine' (?zf : Scr _) ?zq _ ?zs
  case zq =>
    refine hideG ?_; intro g9; obtain ⟨v0, y1, e0, a, h⟩ := paired_cons h; k_unfold
    refine hideG ?_; intro g9; obtain ⟨v1, y2, e1, b, h⟩ := paired_cons h; k_unfold
    refine hideG ?_; intro g9; obtain ⟨v2, y3, e2, c, h⟩ := paired_cons h; k_unfold
    refine hideG ?_; intro g9; obtain ⟨v3, y4, e3, d, h⟩ := paired_cons h; k_unfold
    exact ⟨v0, v1, v2, v3, by rw [e0, e1, e2, e3, paired_nil h], a, b, c, d⟩
  case zs => show LetQ _ ?zq _; (try delta id foldQ letS2 letS hideG foldN subRN subN ltCut letAE nameRet); exact LetQ.refl
  case zf => intro _ r _; exact r
noncomputable def catches : List Str := [Str.ofString "finally", Str.ofString "catch"]
noncomputable def handlerO (ws : List Str) : Option (Int × Int × Int × Int × Bool) := match ws with
  | [a, b, c, d, e] => if catches.any (· == e) = true ∧ 0 ≤ plainO a ∧ 0 ≤ plainO b ∧ 0 ≤ plainO c ∧ 0 ≤ plainO d then some (plainO a, plainO b, plainO c, plainO d, e == Str.ofString "finally") else none
  | _ => none
theorem hand0 {x0 x1 x2 x3 x4 : Str × Tok} {k j : Int} (h : ∃ p ∈ [x0, x1, x2, x3], numO p.1 k = .error j) : handlerO (texts [x0, x1, x2, x3, x4]) = none ∧ j = k - 1 := by
  obtain ⟨p, hp, h⟩ := h
  obtain ⟨q, hj⟩ := numO_err h
  refine ⟨if_neg fun z => q ?_, hj⟩
  simp only [List.mem_cons, List.not_mem_nil, or_false] at hp
  refine hideG ?_; intro g9; obtain ⟨_, z0, z1, z2, z3⟩ := z; k_unfold
  rcases hp with rfl | rfl | rfl | rfl <;> assumption
theorem hand1 {x0 x1 x2 x3 x4 : Str × Tok} (h : ([Str.ofString "finally", Str.ofString "catch"].any fun x => x == x4.1) = false) : handlerO (texts [x0, x1, x2, x3, x4]) = none := if_neg fun z => by
  have z1 := z.1
  unfold catches at z1
  rw [h] at z1; cases z1
theorem hand2 {x0 x1 x2 x3 x4 : Str × Tok} (h : ([Str.ofString "finally", Str.ofString "catch"].any fun x => x == x4.1) = true) (q0 : 0 ≤ plainO x0.1) (q1 : 0 ≤ plainO x1.1) (q2 : 0 ≤ plainO x2.1) (q3 : 0 ≤ plainO x3.1) :
    handlerO (texts [x0, x1, x2, x3, x4]) = some (plainO x0.1, plainO x1.1, plainO x2.1, plainO x3.1, x4.1 == Str.ofString "finally") := if_pos ⟨h, q0, q1, q2, q3⟩
section
variable {w : World} {mean : ExcName → Option Value} {mg mb : Str → Option Value} {r d l la : Addr} {k : Int} {a b c : Tok} {x0 x1 x2 x3 x4 : Str × Tok}
inductive HandP (w : World) (r d l : Addr) (k : Int) (a b c : Tok) (pl : List (Str × Tok)) (v : Value) (news' : List (Addr × Obj)) : Prop
  | mk (T : Addr) (z : Int × Int × Int × Int × Bool) (t0 t1 t2 t3 : Tok) (h1 : handlerO (texts pl) = some z) (h2 : v = .ref T) (h3 : news' = (T, tupO #[.int z.1 t0, .int z.2.1 t1, .int z.2.2.1 t2, .int z.2.2.2.1 t3, .bool z.2.2.2.2] 0) :: RDs w r d l k a b c) : HandP w r d l k a b c pl v news'
theorem c_handler5 (hR : Rows [x0, x1, x2, x3, x4]) : Con w mean mg mb 350 [.ref r, .ref la] ((la, W.listOf (strValues [x0, x1, x2, x3, x4]).toArray 0) :: RDs w r d l k a b c) 100
   (HandP w r d l k a b c [x0, x1, x2, x3, x4])
   (fun j => handlerO (texts [x0, x1, x2, x3, x4]) = none ∧ j = k - 1) := by
  refine' (?zf : Scr _) ?zq _ ?zs
  case zq =>
    intro prog dp un gd base frs g s Q E S hdp hun hret hexn; refine nameRet hret ?_; clear hret; intro P9 hret
    dsimp only [RDs] at S
    k_extra "m_enterC"
    k_steps
    · refine compX_same NumV (fun j => ∃ p ∈ [x0, x1, x2, x3], numO p.1 k = .error j) (by assumption) (by assumption) (by k_mem) (by assumption) ?turn ?fin ?exn
      case turn =>
        k_extra "m_turn"
        k_steps
        exact ⟨by assumption, _, rfl⟩
      case fin =>
        k_extra "m_finA"
        (rename Paired _ _ _ => hP9)
        refine hideG ?_; intro g9; obtain ⟨w0, w1, w2, w3, e9, ⟨q0, t0, e91⟩, ⟨q1, t1, e92⟩, ⟨q2, t2, e93⟩, ⟨q3, t3, e94⟩⟩ := paired4 hP9; k_unfold; subst e91; subst e92; subst e93; subst e94
        subst e9
        k_steps
        refine' RetS.fin hret (by assumption) (by assumption) ⟨_, (plainO x0.1, plainO x1.1, plainO x2.1, plainO x3.1, x4.1 == Str.ofString "finally"), _, _, _, _, hand2 (by assumption) (by assumption) (by assumption) (by assumption) (by assumption), rfl, rfl⟩ ?hs1
        case hs1 => (dsimp only [RDs]; k_extra "m_subD")
      case exn =>
        k_extra "m_exn2"
        k_steps
        exact hexn _ _ _ _ _ (by assumption) (by assumption) (hand0 (by assumption))
    · exact hexn _ _ _ _ _ (by assumption) (by assumption) ⟨hand1 (by assumption), by assumption⟩
  case zs => show LetQ _ ?zq _; (try delta id foldQ letS2 letS hideG foldN subRN subN ltCut letAE nameRet); exact LetQ.refl
  case zf => intro _ r _; exact r
theorem c_handlerN {pl : List (Str × Tok)} (hR : Rows pl) (hn : ¬ (pl.length : Int) = 5) : Con w mean mg mb 350 [.ref r, .ref la] ((la, W.listOf (strValues pl).toArray 0) :: RDs w r d l k a b c) 100
   (fun v news' => False) (fun j => j = k - 1) := by
  refine' (?zf : Scr _) ?zq _ ?zs
  case zq =>
    intro prog dp un gd base frs g s Q E S hdp hun hret hexn; refine nameRet hret ?_; clear hret; intro P9 hret
    dsimp only [RDs] at S
    have hl := hR.1
    k_extra "m_enterC"
    k_steps
    all_goals first
      | (exfalso; omega)
      | exact hexn _ _ _ _ _ (by assumption) (by assumption) (by first | rfl | assumption)
  case zs => show LetQ _ ?zq _; (try delta id foldQ letS2 letS hideG foldN subRN subN ltCut letAE nameRet); exact LetQ.refl
  case zf => intro _ r _; exact r

theorem c_handler {pl : List (Str × Tok)} (hR : Rows pl) : Con w mean mg mb 350 [.ref r, .ref la] ((la, W.listOf (strValues pl).toArray 0) :: RDs w r d l k a b c) 100
   (HandP w r d l k a b c pl)
   (fun j => handlerO (texts pl) = none ∧ j = k - 1) := by
  rcases pl with _ | ⟨x0, _ | ⟨x1, _ | ⟨x2, _ | ⟨x3, _ | ⟨x4, _ | ⟨x5, pl⟩⟩⟩⟩⟩⟩
  case cons.cons.cons.cons.cons.nil => exact c_handler5 hR
  all_goals exact Con.mono (c_handlerN hR (by simp; try omega)) (fun _ _ h => h.elim) fun j h => ⟨rfl, h⟩
end

end
section -- V5
theorem newsPerm {h₀ h : Heap} {L : Addr} {l l' : List (Addr × Obj)} (p : l.Perm l') : News h₀ L h l = News h₀ L h l' :=
  propext ⟨fun N q hq => N q (p.mem_iff.mpr hq), fun N q hq => N q (p.mem_iff.mp hq)⟩
theorem pairPerm {l l' : List (Addr × Obj)} (p : l.Perm l') : pairNe l = pairNe l' := propext ⟨fun h => pnPerm h p, fun h => pnPerm h p.symm⟩
/-- foot and the opaque tail sg stand in the ledger, all apart -/
structure TailD (foot sg all : List (Addr × Obj)) : Prop where
  m : ∀ p ∈ foot ++ sg, p ∈ all
  d : pairNe (foot ++ sg)
theorem TailD.of {k : Nat} {foot sg all rest : List (Addr × Obj)} (x : SelD foot all rest) (e : rest.drop k = sg) : TailD foot sg all :=
  have s : sg.Sublist rest := e ▸ List.drop_sublist k rest
  ⟨fun p hp => x.p.mem_iff.mpr (((List.Sublist.refl foot).append s).mem hp), pairNe_nd.mpr ((((List.Sublist.refl foot).append s).map Prod.fst).nodup (pairNe_nd.mp x.d))⟩
section
variable {h₀ h : Heap} {L : Addr} {n r : List (Addr × Obj)} {a x0  x1  x2  x3  x4  x5  x6  x7  x8  x9  x10  x11  x12  x13  x14  x15  x16  x17  x18  x19  x20  x21  x22  x23  x24  x25  x26  x27  x28  x29 : Addr × Obj}
theorem newsPush0 : News h₀ L h ((n ++ a :: r)) = News h₀ L h (a :: (n ++ r)) := newsPerm (List.perm_middle)
theorem pnPush0 : pairNe ((n ++ a :: r)) = pairNe (a :: (n ++ r)) := pairPerm (List.perm_middle)
theorem newsPush1 : News h₀ L h (x0 :: (n ++ a :: r)) = News h₀ L h (x0 :: a :: (n ++ r)) := newsPerm ((List.perm_middle).cons _)
theorem pnPush1 : pairNe (x0 :: (n ++ a :: r)) = pairNe (x0 :: a :: (n ++ r)) := pairPerm ((List.perm_middle).cons _)
theorem newsPush2 : News h₀ L h (x0 :: x1 :: (n ++ a :: r)) = News h₀ L h (x0 :: x1 :: a :: (n ++ r)) := newsPerm (((List.perm_middle).cons _).cons _)
theorem pnPush2 : pairNe (x0 :: x1 :: (n ++ a :: r)) = pairNe (x0 :: x1 :: a :: (n ++ r)) := pairPerm (((List.perm_middle).cons _).cons _)
theorem newsPush3 : News h₀ L h (x0 :: x1 :: x2 :: (n ++ a :: r)) = News h₀ L h (x0 :: x1 :: x2 :: a :: (n ++ r)) := newsPerm ((((List.perm_middle).cons _).cons _).cons _)
theorem pnPush3 : pairNe (x0 :: x1 :: x2 :: (n ++ a :: r)) = pairNe (x0 :: x1 :: x2 :: a :: (n ++ r)) := pairPerm ((((List.perm_middle).cons _).cons _).cons _)
theorem newsPush4 : News h₀ L h (x0 :: x1 :: x2 :: x3 :: (n ++ a :: r)) = News h₀ L h (x0 :: x1 :: x2 :: x3 :: a :: (n ++ r)) := newsPerm (((((List.perm_middle).cons _).cons _).cons _).cons _)
theorem pnPush4 : pairNe (x0 :: x1 :: x2 :: x3 :: (n ++ a :: r)) = pairNe (x0 :: x1 :: x2 :: x3 :: a :: (n ++ r)) := pairPerm (((((List.perm_middle).cons _).cons _).cons _).cons _)
theorem newsPush5 : News h₀ L h (x0 :: x1 :: x2 :: x3 :: x4 :: (n ++ a :: r)) = News h₀ L h (x0 :: x1 :: x2 :: x3 :: x4 :: a :: (n ++ r)) := newsPerm ((((((List.perm_middle).cons _).cons _).cons _).cons _).cons _)
theorem pnPush5 : pairNe (x0 :: x1 :: x2 :: x3 :: x4 :: (n ++ a :: r)) = pairNe (x0 :: x1 :: x2 :: x3 :: x4 :: a :: (n ++ r)) := pairPerm ((((((List.perm_middle).cons _).cons _).cons _).cons _).cons _)
theorem newsPush6 : News h₀ L h (x0 :: x1 :: x2 :: x3 :: x4 :: x5 :: (n ++ a :: r)) = News h₀ L h (x0 :: x1 :: x2 :: x3 :: x4 :: x5 :: a :: (n ++ r)) := newsPerm (((((((List.perm_middle).cons _).cons _).cons _).cons _).cons _).cons _)
theorem pnPush6 : pairNe (x0 :: x1 :: x2 :: x3 :: x4 :: x5 :: (n ++ a :: r)) = pairNe (x0 :: x1 :: x2 :: x3 :: x4 :: x5 :: a :: (n ++ r)) := pairPerm (((((((List.perm_middle).cons _).cons _).cons _).cons _).cons _).cons _)
theorem newsPush7 : News h₀ L h (x0 :: x1 :: x2 :: x3 :: x4 :: x5 :: x6 :: (n ++ a :: r)) = News h₀ L h (x0 :: x1 :: x2 :: x3 :: x4 :: x5 :: x6 :: a :: (n ++ r)) := newsPerm ((((((((List.perm_middle).cons _).cons _).cons _).cons _).cons _).cons _).cons _)
theorem pnPush7 : pairNe (x0 :: x1 :: x2 :: x3 :: x4 :: x5 :: x6 :: (n ++ a :: r)) = pairNe (x0 :: x1 :: x2 :: x3 :: x4 :: x5 :: x6 :: a :: (n ++ r)) := pairPerm ((((((((List.perm_middle).cons _).cons _).cons _).cons _).cons _).cons _).cons _)
theorem newsPush8 : News h₀ L h (x0 :: x1 :: x2 :: x3 :: x4 :: x5 :: x6 :: x7 :: (n ++ a :: r)) = News h₀ L h (x0 :: x1 :: x2 :: x3 :: x4 :: x5 :: x6 :: x7 :: a :: (n ++ r)) := newsPerm (((((((((List.perm_middle).cons _).cons _).cons _).cons _).cons _).cons _).cons _).cons _)
theorem pnPush8 : pairNe (x0 :: x1 :: x2 :: x3 :: x4 :: x5 :: x6 :: x7 :: (n ++ a :: r)) = pairNe (x0 :: x1 :: x2 :: x3 :: x4 :: x5 :: x6 :: x7 :: a :: (n ++ r)) := pairPerm (((((((((List.perm_middle).cons _).cons _).cons _).cons _).cons _).cons _).cons _).cons _)
theorem newsPush9 : News h₀ L h (x0 :: x1 :: x2 :: x3 :: x4 :: x5 :: x6 :: x7 :: x8 :: (n ++ a :: r)) = News h₀ L h (x0 :: x1 :: x2 :: x3 :: x4 :: x5 :: x6 :: x7 :: x8 :: a :: (n ++ r)) := newsPerm ((((((((((List.perm_middle).cons _).cons _).cons _).cons _).cons _).cons _).cons _).cons _).cons _)
theorem pnPush9 : pairNe (x0 :: x1 :: x2 :: x3 :: x4 :: x5 :: x6 :: x7 :: x8 :: (n ++ a :: r)) = pairNe (x0 :: x1 :: x2 :: x3 :: x4 :: x5 :: x6 :: x7 :: x8 :: a :: (n ++ r)) := pairPerm ((((((((((List.perm_middle).cons _).cons _).cons _).cons _).cons _).cons _).cons _).cons _).cons _)
theorem newsPush10 : News h₀ L h (x0 :: x1 :: x2 :: x3 :: x4 :: x5 :: x6 :: x7 :: x8 :: x9 :: (n ++ a :: r)) = News h₀ L h (x0 :: x1 :: x2 :: x3 :: x4 :: x5 :: x6 :: x7 :: x8 :: x9 :: a :: (n ++ r)) := newsPerm (((((((((((List.perm_middle).cons _).cons _).cons _).cons _).cons _).cons _).cons _).cons _).cons _).cons _)
theorem pnPush10 : pairNe (x0 :: x1 :: x2 :: x3 :: x4 :: x5 :: x6 :: x7 :: x8 :: x9 :: (n ++ a :: r)) = pairNe (x0 :: x1 :: x2 :: x3 :: x4 :: x5 :: x6 :: x7 :: x8 :: x9 :: a :: (n ++ r)) := pairPerm (((((((((((List.perm_middle).cons _).cons _).cons _).cons _).cons _).cons _).cons _).cons _).cons _).cons _)
theorem newsPush11 : News h₀ L h (x0 :: x1 :: x2 :: x3 :: x4 :: x5 :: x6 :: x7 :: x8 :: x9 :: x10 :: (n ++ a :: r)) = News h₀ L h (x0 :: x1 :: x2 :: x3 :: x4 :: x5 :: x6 :: x7 :: x8 :: x9 :: x10 :: a :: (n ++ r)) := newsPerm ((((((((((((List.perm_middle).cons _).cons _).cons _).cons _).cons _).cons _).cons _).cons _).cons _).cons _).cons _)
theorem pnPush11 : pairNe (x0 :: x1 :: x2 :: x3 :: x4 :: x5 :: x6 :: x7 :: x8 :: x9 :: x10 :: (n ++ a :: r)) = pairNe (x0 :: x1 :: x2 :: x3 :: x4 :: x5 :: x6 :: x7 :: x8 :: x9 :: x10 :: a :: (n ++ r)) := pairPerm ((((((((((((List.perm_middle).cons _).cons _).cons _).cons _).cons _).cons _).cons _).cons _).cons _).cons _).cons _)
theorem newsPush12 : News h₀ L h (x0 :: x1 :: x2 :: x3 :: x4 :: x5 :: x6 :: x7 :: x8 :: x9 :: x10 :: x11 :: (n ++ a :: r)) = News h₀ L h (x0 :: x1 :: x2 :: x3 :: x4 :: x5 :: x6 :: x7 :: x8 :: x9 :: x10 :: x11 :: a :: (n ++ r)) := newsPerm (((((((((((((List.perm_middle).cons _).cons _).cons _).cons _).cons _).cons _).cons _).cons _).cons _).cons _).cons _).cons _)
theorem pnPush12 : pairNe (x0 :: x1 :: x2 :: x3 :: x4 :: x5 :: x6 :: x7 :: x8 :: x9 :: x10 :: x11 :: (n ++ a :: r)) = pairNe (x0 :: x1 :: x2 :: x3 :: x4 :: x5 :: x6 :: x7 :: x8 :: x9 :: x10 :: x11 :: a :: (n ++ r)) := pairPerm (((((((((((((List.perm_middle).cons _).cons _).cons _).cons _).cons _).cons _).cons _).cons _).cons _).cons _).cons _).cons _)
theorem newsPush13 : News h₀ L h (x0 :: x1 :: x2 :: x3 :: x4 :: x5 :: x6 :: x7 :: x8 :: x9 :: x10 :: x11 :: x12 :: (n ++ a :: r)) = News h₀ L h (x0 :: x1 :: x2 :: x3 :: x4 :: x5 :: x6 :: x7 :: x8 :: x9 :: x10 :: x11 :: x12 :: a :: (n ++ r)) := newsPerm ((((((((((((((List.perm_middle).cons _).cons _).cons _).cons _).cons _).cons _).cons _).cons _).cons _).cons _).cons _).cons _).cons _)
theorem pnPush13 : pairNe (x0 :: x1 :: x2 :: x3 :: x4 :: x5 :: x6 :: x7 :: x8 :: x9 :: x10 :: x11 :: x12 :: (n ++ a :: r)) = pairNe (x0 :: x1 :: x2 :: x3 :: x4 :: x5 :: x6 :: x7 :: x8 :: x9 :: x10 :: x11 :: x12 :: a :: (n ++ r)) := pairPerm ((((((((((((((List.perm_middle).cons _).cons _).cons _).cons _).cons _).cons _).cons _).cons _).cons _).cons _).cons _).cons _).cons _)
theorem newsPush14 : News h₀ L h (x0 :: x1 :: x2 :: x3 :: x4 :: x5 :: x6 :: x7 :: x8 :: x9 :: x10 :: x11 :: x12 :: x13 :: (n ++ a :: r)) = News h₀ L h (x0 :: x1 :: x2 :: x3 :: x4 :: x5 :: x6 :: x7 :: x8 :: x9 :: x10 :: x11 :: x12 :: x13 :: a :: (n ++ r)) := newsPerm (((((((((((((((List.perm_middle).cons _).cons _).cons _).cons _).cons _).cons _).cons _).cons _).cons _).cons _).cons _).cons _).cons _).cons _)
theorem pnPush14 : pairNe (x0 :: x1 :: x2 :: x3 :: x4 :: x5 :: x6 :: x7 :: x8 :: x9 :: x10 :: x11 :: x12 :: x13 :: (n ++ a :: r)) = pairNe (x0 :: x1 :: x2 :: x3 :: x4 :: x5 :: x6 :: x7 :: x8 :: x9 :: x10 :: x11 :: x12 :: x13 :: a :: (n ++ r)) := pairPerm (((((((((((((((List.perm_middle).cons _).cons _).cons _).cons _).cons _).cons _).cons _).cons _).cons _).cons _).cons _).cons _).cons _).cons _)
theorem newsPush15 : News h₀ L h (x0 :: x1 :: x2 :: x3 :: x4 :: x5 :: x6 :: x7 :: x8 :: x9 :: x10 :: x11 :: x12 :: x13 :: x14 :: (n ++ a :: r)) = News h₀ L h (x0 :: x1 :: x2 :: x3 :: x4 :: x5 :: x6 :: x7 :: x8 :: x9 :: x10 :: x11 :: x12 :: x13 :: x14 :: a :: (n ++ r)) := newsPerm ((((((((((((((((List.perm_middle).cons _).cons _).cons _).cons _).cons _).cons _).cons _).cons _).cons _).cons _).cons _).cons _).cons _).cons _).cons _)
theorem pnPush15 : pairNe (x0 :: x1 :: x2 :: x3 :: x4 :: x5 :: x6 :: x7 :: x8 :: x9 :: x10 :: x11 :: x12 :: x13 :: x14 :: (n ++ a :: r)) = pairNe (x0 :: x1 :: x2 :: x3 :: x4 :: x5 :: x6 :: x7 :: x8 :: x9 :: x10 :: x11 :: x12 :: x13 :: x14 :: a :: (n ++ r)) := pairPerm ((((((((((((((((List.perm_middle).cons _).cons _).cons _).cons _).cons _).cons _).cons _).cons _).cons _).cons _).cons _).cons _).cons _).cons _).cons _)
theorem newsPush16 : News h₀ L h (x0 :: x1 :: x2 :: x3 :: x4 :: x5 :: x6 :: x7 :: x8 :: x9 :: x10 :: x11 :: x12 :: x13 :: x14 :: x15 :: (n ++ a :: r)) = News h₀ L h (x0 :: x1 :: x2 :: x3 :: x4 :: x5 :: x6 :: x7 :: x8 :: x9 :: x10 :: x11 :: x12 :: x13 :: x14 :: x15 :: a :: (n ++ r)) := newsPerm (((((((((((((((((List.perm_middle).cons _).cons _).cons _).cons _).cons _).cons _).cons _).cons _).cons _).cons _).cons _).cons _).cons _).cons _).cons _).cons _)
theorem pnPush16 : pairNe (x0 :: x1 :: x2 :: x3 :: x4 :: x5 :: x6 :: x7 :: x8 :: x9 :: x10 :: x11 :: x12 :: x13 :: x14 :: x15 :: (n ++ a :: r)) = pairNe (x0 :: x1 :: x2 :: x3 :: x4 :: x5 :: x6 :: x7 :: x8 :: x9 :: x10 :: x11 :: x12 :: x13 :: x14 :: x15 :: a :: (n ++ r)) := pairPerm (((((((((((((((((List.perm_middle).cons _).cons _).cons _).cons _).cons _).cons _).cons _).cons _).cons _).cons _).cons _).cons _).cons _).cons _).cons _).cons _)
end
/-- tuples alone -/
noncomputable def SegT (l : List (Addr × Obj)) : Prop := ∀ p ∈ l, p.2.cls = .type "tuple"
theorem SegT.nil : SegT [] := fun _ h => nomatch h
theorem SegT.app {a b : List (Addr × Obj)} (x : SegT a) (y : SegT b) : SegT (a ++ b) := fun p hp => (List.mem_append.mp hp).elim (x p) (y p)
theorem segNe {h₀ h : Heap} {L d : Addr} {o : Obj} {sg l : List (Addr × Obj)} (S : SegT sg) (N : News h₀ L h l) (hm : (d, o) ∈ l) (ho : o.cls ≠ .type "tuple") (hs : ∀ p ∈ sg, p ∈ l) : ∀ p ∈ sg, p.1 ≠ d := fun p hp q => by
  have h1 := (N p (hs p hp)).1
  have h2 := (N _ hm).1
  rw [q, h2] at h1
  exact ho ((congrArg Obj.cls (Option.some.inj h1)).trans (S p hp))
theorem all_app {P : Addr × Obj → Prop} {a b : List (Addr × Obj)} (x : ∀ p ∈ a, P p) (y : ∀ p ∈ b, P p) : ∀ p ∈ a ++ b, P p := fun p hp => (List.mem_append.mp hp).elim (x p) (y p)
theorem PlaceV.seg {o : Option (Str × Int)} {v : Value} {n : List (Addr × Obj)} (h : PlaceV o v n) : SegT n := by
  cases o with
  | none => rw [h.2]; exact .nil
  | some p =>
    refine hideG ?_; intro g9; obtain ⟨D, t, t', _, e⟩ := h; k_unfold
    rw [e]
    intro q hq
    rw [List.mem_singleton.mp hq]
section
variable {prog : Program} {w : World} {A : Around} {E : Value → Shared → Prop} {s : Shared} {h₀ : Heap} {L l b T D1 D2 D3 D4 : Addr} {news : List (Addr × Obj)} {pl xs ys : List (Str × Tok)} {Q : Value → Shared → Prop}
theorem strsEq (hl : s.heap.IsList l (strValues xs).toArray) (hb : s.heap.IsList b (strValues ys).toArray) (hu : A.units < cLine) : PySem.SeqAt.RcAt A s (.ref l) (.ref b) (texts xs == texts ys) := by
  by_cases hsz : xs.length = ys.length
  · have e : ((List.range (strValues xs).toArray.size).all fun j => (texts xs)[j]? == (texts ys)[j]?) = (texts xs == texts ys) := by
      rw [Bool.eq_iff_iff]
      simp only [List.all_eq_true, List.mem_range, beq_iff_eq, strValues, List.size_toArray, List.length_map]
      constructor
      · intro h
        refine List.ext_getElem? fun j => ?_
        by_cases hj : j < xs.length
        · exact h j hj
        · rw [List.getElem?_eq_none (by simp; omega), List.getElem?_eq_none (by simp; omega)]
      · intro h j _
        rw [h]
    rw [← e]
    refine PySem.SeqAt.RcAt.lists hl hb (by simp [strValues, hsz]) hu fun j h1 h2 => ?_
    have h1' : j < xs.length := by simpa [strValues] using h1
    have h2' : j < ys.length := by simpa [strValues] using h2
    have q := PySem.SeqAt.EqAt.str_str (A := A.in1) (s := s) xs[j].1 xs[j].2 ys[j].1 ys[j].2
    have e1 : (strValues xs).toArray[j] = .str xs[j].1 xs[j].2 := by simp [strValues]
    have e2 : (strValues ys).toArray[j] = .str ys[j].1 ys[j].2 := by simp [strValues]
    have e3 : ((texts xs)[j]? == (texts ys)[j]?) = (xs[j].1 == ys[j].1) := by
      rw [List.getElem?_eq_getElem (by simpa using h1'), List.getElem?_eq_getElem (by simpa using h2')]
      simp [texts]
    rw [e1, e2, e3]; exact q
  · have e : (texts xs == texts ys) = false := by
      rw [beq_eq_false_iff_ne]
      intro h
      exact hsz (by simpa using congrArg List.length h)
    rw [e]
    exact PySem.SeqAt.RcAt.lists_lengths hl hb (by simpa [strValues] using hsz) hu
noncomputable def StrsO (o : Obj) (pl : List (Str × Tok)) : Prop := ∃ n, o = W.listOf (strValues pl).toArray n
theorem StrsO.list {o : Obj} (x : StrsO o pl) (N : News h₀ L s.heap news) (hm : (l, o) ∈ news) : s.heap.IsList l (strValues pl).toArray := by
  obtain ⟨n, rfl⟩ := x
  exact isList_at N hm
theorem inFlags {o o1 o2 o3 o4 : Obj} {k : Nat} {t2 t3 t4 t5 : Tok} (N : News h₀ L s.heap news) (hT : (T, tupO #[.ref D1, .ref D2, .ref D3, .ref D4] k) ∈ news) (hl : (l, o) ∈ news) (h1 : (D1, o1) ∈ news) (h2 : (D2, o2) ∈ news) (h3 : (D3, o3) ∈ news) (h4 : (D4, o4) ∈ news)
    (x : StrsO o pl) (x1 : StrsO o1 []) (x2 : StrsO o2 [(Str.ofString "strict", t2)]) (x3 : StrsO o3 [(Str.ofString "arguments", t3)]) (x4 : StrsO o4 [(Str.ofString "strict", t4), (Str.ofString "arguments", t5)])
    (n1 : D1 ≠ l) (n2 : D2 ≠ l) (n3 : D3 ≠ l) (n4 : D4 ≠ l) (n12 : D1 ≠ D2) (n13 : D1 ≠ D3) (n14 : D1 ≠ D4) (n23 : D2 ≠ D3) (n24 : D2 ≠ D4) (n34 : D3 ≠ D4) (hu : A.units + 1 < cLine)
    (h : Q (.bool ([[], [Str.ofString "strict"], [Str.ofString "arguments"], [Str.ofString "strict", Str.ofString "arguments"]].any (· == texts pl))) s) :
    wpAny (model prog w) A (compareOp .In (.ref l) (.ref T)) Q E s := by
  have hl' := x.list N hl
  refine PySem.SeqAt.in_tupleAt (items := #[.ref D1, .ref D2, .ref D3, .ref D4]) (fun y => if y = .ref D1 then ([] == texts pl) else if y = .ref D2 then ([Str.ofString "strict"] == texts pl) else if y = .ref D3 then ([Str.ofString "arguments"] == texts pl) else ([Str.ofString "strict", Str.ofString "arguments"] == texts pl)) (N.isTup hT) (fun y hy => ?_) ?_
  · have hu' : A.in1.units < cLine := by simpa [units_in1] using hu
    have a1 := PySem.SeqAt.EqAt.of_refs n1 (strsEq (A := A.in1) (x1.list N h1) hl' hu')
    have a2 := PySem.SeqAt.EqAt.of_refs n2 (strsEq (A := A.in1) (x2.list N h2) hl' hu')
    have a3 := PySem.SeqAt.EqAt.of_refs n3 (strsEq (A := A.in1) (x3.list N h3) hl' hu')
    have a4 := PySem.SeqAt.EqAt.of_refs n4 (strsEq (A := A.in1) (x4.list N h4) hl' hu')
    have hy' : y = .ref D1 ∨ y = .ref D2 ∨ y = .ref D3 ∨ y = .ref D4 := by simpa using hy
    rcases hy' with rfl | rfl | rfl | rfl
    · simpa using a1
    · simpa [Ne.symm n12] using a2
    · simpa [Ne.symm n13, Ne.symm n23] using a3
    · simpa [Ne.symm n14, Ne.symm n24, Ne.symm n34] using a4
  · have e : ((#[Value.ref D1, .ref D2, .ref D3, .ref D4] : Array Value).any fun y => if y = .ref D1 then ([] == texts pl) else if y = .ref D2 then ([Str.ofString "strict"] == texts pl) else if y = .ref D3 then ([Str.ofString "arguments"] == texts pl) else ([Str.ofString "strict", Str.ofString "arguments"] == texts pl)) =
        ([[], [Str.ofString "strict"], [Str.ofString "arguments"], [Str.ofString "strict", Str.ofString "arguments"]].any (· == texts pl)) := by
      rw [← List.any_toArray]
      simp [Ne.symm n12, Ne.symm n13, Ne.symm n14, Ne.symm n23, Ne.symm n24, Ne.symm n34]
    rw [e]; exact h
end

end
section -- H2
structure PHead where
  name : Option Str
  params : List Str
  strict : Bool
  args : Bool
  places : List (Option (Str × Int))
  self : Option (Str × Int)
  argp : Option (Str × Int)
  locals : Int
  cells : Int
  caps : List (Bool × Int)
noncomputable def flagSets : List (List Str) := [[], [Str.ofString "strict"], [Str.ofString "arguments"], [Str.ofString "strict", Str.ofString "arguments"]]
noncomputable def nameO (w : Str) : Option (Option Str) := if (w == Str.ofString "none") = true then some none else (unqO w).map some
noncomputable def unitW (ws : List Str) : Option (Option Str × Bool × Bool) := match ws with
  | [] => none
  | w :: fl => if flagSets.any (· == fl) = true then (nameO w).map fun o => (o, fl.any (· == Str.ofString "strict"), fl.any (· == Str.ofString "arguments")) else none
noncomputable def mapW {α : Type} (f : Str → Option α) : List Str → Option (List α)
  | [] => some []
  | w :: ws => match f w, mapW f ws with
    | some x, some xs => some (x :: xs)
    | _, _ => none
noncomputable def ownW (ws : List Str) : Option (Option (Str × Int) × Option (Str × Int)) := match ws with
  | [a, b] => (match placeO a, placeO b with
    | some x, some y => some (x, y)
    | _, _ => none)
  | _ => none
noncomputable def numW (w : Str) : Option Int := if 0 ≤ plainO w then some (plainO w) else none
noncomputable def roomW (ws : List Str) : Option (Int × Int) := match ws with
  | [a, b] => (match numW a, numW b with
    | some x, some y => some (x, y)
    | _, _ => none)
  | _ => none
noncomputable def capW (w : Str) : Option (Bool × Int) := match captureO w 0 with
  | .ok x => some x
  | .error _ => none
noncomputable def rowE {α : Type} (rows : List Str) (k : Int) (word : Str) (f : List Str → Option α) : Except Int α := match restO rows k word with
  | .error j => .error j
  | .ok ws => (match f ws with
    | some x => .ok x
    | none => .error k)
noncomputable def andE {α β : Type} (x : Except Int α) (f : α → Except Int β) : Except Int β := match x with
  | .ok a => f a
  | .error j => .error j
noncomputable def headO (rows : List Str) (k : Int) : Except Int PHead :=
  andE (rowE rows k (Str.ofString "unit") unitW) fun u =>
  andE (rowE rows (k + 1) (Str.ofString "params") (mapW unqO)) fun ps =>
  andE (rowE rows (k + 1 + 1) (Str.ofString "places") (mapW placeO)) fun pc =>
  andE (rowE rows (k + 1 + 1 + 1) (Str.ofString "own") ownW) fun ow =>
  andE (rowE rows (k + 1 + 1 + 1 + 1) (Str.ofString "room") roomW) fun rm =>
  andE (rowE rows (k + 1 + 1 + 1 + 1 + 1) (Str.ofString "captures") (mapW capW)) fun cs =>
  .ok { name := u.1, params := ps, strict := u.2.1, args := u.2.2, places := pc, self := ow.1, argp := ow.2, locals := rm.1, cells := rm.2, caps := cs }
section
variable {α β : Type} {rows ws : List Str} {k j : Int} {word : Str} {f : List Str → Option α} {x : α} {g : α → Except Int β} {y : Except Int α} {z : Except Int β}
theorem rowE_err (h : restO rows k word = .error j) : rowE rows k word f = .error j := by unfold rowE; rw [h]
theorem rowE_none (h : restO rows k word = .ok ws) (hf : f ws = none) (hj : j = k) : rowE rows k word f = .error j := by unfold rowE; simp only [h, hf, hj]
theorem rowE_ok (h : restO rows k word = .ok ws) (hf : f ws = some x) : rowE rows k word f = .ok x := by unfold rowE; simp only [h, hf]
theorem andE_ok (h : y = .ok x) (hz : g x = z) : andE y g = z := by rw [h]; exact hz
theorem andE_err (h : y = .error j) : andE y g = .error j := by rw [h]; rfl
end
noncomputable def NameV (o : Option Str) (v : Value) : Prop := match o with
  | none => v = .none
  | some x => ∃ t, v = .str x t
theorem textO_ok {w : Str} {k : Int} {x : Str} (h : textO w k = .ok x) : unqO w = some x := by
  unfold textO at h; split at h
  · cases h
  · cases h; assumption
theorem textO_err {w : Str} {k j : Int} (h : textO w k = .error j) : unqO w = none ∧ j = k - 1 := by
  unfold textO at h; split at h
  · cases h; exact ⟨by assumption, rfl⟩
  · cases h
theorem placeR_ok {w : Str} {k : Int} {o : Option (Str × Int)} (h : placeR w k = .ok o) : placeO w = some o := by
  unfold placeR at h; split at h
  · cases h
  · cases h; assumption
theorem placeR_err {w : Str} {k j : Int} (h : placeR w k = .error j) : placeO w = none ∧ j = k - 1 := by
  unfold placeR at h; split at h
  · cases h; exact ⟨by assumption, rfl⟩
  · cases h
theorem numO_none {w : Str} {k j : Int} (h : numO w k = .error j) : numW w = none ∧ j = k - 1 := let ⟨a, b⟩ := numO_err h; ⟨if_neg a, b⟩
theorem captureO_k {w : Str} (k : Int) : (∀ x, captureO w k = .ok x → capW w = some x) ∧ (∀ j, captureO w k = .error j → capW w = none ∧ j = k - 1) := by
  refine' (?zf : Scr _) ?zq _ ?zs
  case zq =>
    unfold capW captureO
    by_cases h1 : (Txt.slice w none (some ((5 : Nat) : Int)) == Str.ofString "frame") = true
    · simp only [if_pos h1]
      unfold numO
      by_cases h2 : plainO (Txt.slice w (some ((5 : Nat) : Int)) none) < 0
      · simp only [if_pos h2, tagNum]; exact ⟨fun x h => (by cases h), fun j h => ⟨by first | rfl | trivial, (by cases h; rfl)⟩⟩
      · simp only [if_neg h2, tagNum]; exact ⟨fun x h => (by cases h; rfl), fun j h => (by cases h)⟩
    · simp only [if_neg h1]
      by_cases h3 : (Txt.slice w none (some ((7 : Nat) : Int)) == Str.ofString "closure") = true
      · simp only [if_pos h3]
        unfold numO
        by_cases h2 : plainO (Txt.slice w (some ((7 : Nat) : Int)) none) < 0
        · simp only [if_pos h2, tagNum]; exact ⟨fun x h => (by cases h), fun j h => ⟨by first | rfl | trivial, (by cases h; rfl)⟩⟩
        · simp only [if_neg h2, tagNum]; exact ⟨fun x h => (by cases h; rfl), fun j h => (by cases h)⟩
      · simp only [if_neg h3]; exact ⟨fun x h => (by cases h), fun j h => ⟨by first | rfl | trivial, (by cases h; rfl)⟩⟩
  case zs => show LetQ _ ?zq _; (try delta id foldQ letS2 letS hideG foldN subRN subN ltCut letAE nameRet); exact LetQ.refl
  case zf => intro _ r _; exact r
theorem mapW_none {α : Type} {f : Str → Option α} {pl : List (Str × Tok)} (h : ∃ p ∈ pl, f p.1 = none) : mapW f (texts pl) = none := by
  obtain ⟨p, hp, h⟩ := h
  induction pl with
  | nil => cases hp
  | cons q pl ih =>
    show (match f q.1, mapW f (texts pl) with
      | some x, some xs => some (x :: xs)
      | _, _ => none) = none
    rcases List.mem_cons.mp hp with rfl | hp
    · rw [h]
    · rw [ih hp]; cases f q.1 <;> rfl
theorem len2 {α} (wl : List α) : (∃ x0 x1, wl = [x0, x1]) ∨ ¬ (wl.length : Int) = 2 := by
  rcases wl with _ | ⟨x0, _ | ⟨x1, _ | ⟨x2, wl⟩⟩⟩
  · exact .inr (by simp)
  · exact .inr (by simp)
  · exact .inl ⟨_, _, rfl⟩
  · exact .inr (by simp; omega)
theorem rowsHd {p : Str × Tok} {pl : List (Str × Tok)} (h : Rows (p :: pl)) : p.1.length ≤ 900 := h.2 _ List.mem_cons_self
theorem rows2 {x0 x1 : Str × Tok} (h : Rows [x0, x1]) : x0.1.length ≤ 900 ∧ x1.1.length ≤ 900 := ⟨h.2 _ (by simp), h.2 _ (by simp)⟩
noncomputable def CutNQ (h₀ : Heap) (L : Addr) (m : Str → Option Value) (x : Str) (news : List (Addr × Obj)) (s : Shared) (v : Value) (s' : Shared) : Prop :=
  ∃ o h' tk, NameV o v ∧ nameO x = some o ∧ s' = { s with heap := h', toks := tk } ∧ Fr h₀ L h' m ∧ News h₀ L h' news
theorem cut_name {prog : Program} {w : World} {A : Around} {E : Value → Shared → Prop} {s : Shared} {h₀ : Heap} {L D : Addr} {news : List (Addr × Obj)} {p : Str × Tok} {pl : List (Str × Tok)} {Q : Value → Shared → Prop} {m : Str → Option Value} {c : Sem Value} (_ : Fr h₀ L s.heap m) (_ : News h₀ L s.heap news) (_ : (D, W.listOf (strValues (p :: pl)).toArray 0) ∈ news)
    (g : wpAny (model prog w) A c (CutNQ h₀ L m p.1 news s) E s)
    (h : ∀ v o h' tk, NameV o v → nameO p.1 = some o → Fr h₀ L h' m → News h₀ L h' news → Q v { s with heap := h', toks := tk }) :
    wpAny (model prog w) A c Q E s :=
  wpAny_mono g (fun v s' q9 => by obtain ⟨o, h', tk, a, b, e, c, d⟩ := q9; subst e; exact h v o h' tk a b c d) fun _ _ e => e

end
section -- H2B
noncomputable abbrev AnyErr {α : Type} (f : Str → Except Int α) (pl : List (Str × Tok)) (j : Int) : Prop := ∃ p ∈ pl, f p.1 = .error j
section
variable {rows : List Str} {k j : Int} {p0 : Str × Tok} {pl1 : List (Str × Tok)} {o : Option Str}
theorem unitOk (h : restO rows k (Str.ofString "unit") = .ok (texts (p0 :: pl1))) (hb : ([[], [Str.ofString "strict"], [Str.ofString "arguments"], [Str.ofString "strict", Str.ofString "arguments"]].any fun x => x == texts pl1) = true) (hn : nameO p0.1 = some o) :
    rowE rows k (Str.ofString "unit") unitW = .ok (o, (texts pl1).any (· == Str.ofString "strict"), (texts pl1).any (· == Str.ofString "arguments")) := by
  refine rowE_ok h ?_
  show (if flagSets.any (· == texts pl1) = true then (nameO p0.1).map _ else none) = _
  rw [if_pos (show flagSets.any (· == texts pl1) = true from hb), hn]; rfl
theorem unitN0 (h : restO rows k (Str.ofString "unit") = .ok (texts ([] : List (Str × Tok)))) (hj : j = k + 1 - 1) : rowE rows k (Str.ofString "unit") unitW = .error j := rowE_none h rfl (by omega)
theorem unitN1 (h : restO rows k (Str.ofString "unit") = .ok (texts (p0 :: pl1))) (hn : (p0.1 == Str.ofString "none") = false) (ht : textO p0.1 (k + 1) = .error j) : rowE rows k (Str.ofString "unit") unitW = .error j := by
  obtain ⟨h1, h2⟩ := textO_err ht
  refine rowE_none h ?_ (by omega)
  show (if flagSets.any (· == texts pl1) = true then (nameO p0.1).map _ else none) = _
  have e : nameO p0.1 = none := by unfold nameO; rw [if_neg (by rw [hn]; decide), h1]; rfl
  rw [e]; split <;> rfl
theorem unitN2 (h : restO rows k (Str.ofString "unit") = .ok (texts (p0 :: pl1))) (hb : ([[], [Str.ofString "strict"], [Str.ofString "arguments"], [Str.ofString "strict", Str.ofString "arguments"]].any fun x => x == texts pl1) = false) (hj : j = k + 1 - 1) :
    rowE rows k (Str.ofString "unit") unitW = .error j := by
  refine rowE_none h ?_ (by omega)
  show (if flagSets.any (· == texts pl1) = true then (nameO p0.1).map _ else none) = _
  exact if_neg (by unfold flagSets; rw [hb]; decide)
theorem nameN (hn : (p0.1 == Str.ofString "none") = true) : nameO p0.1 = some none := if_pos hn
theorem nameS {x : Str} (hn : (p0.1 == Str.ofString "none") = false) (ht : textO p0.1 k = .ok x) : nameO p0.1 = some (some x) := by
  unfold nameO; rw [if_neg (by rw [hn]; decide), textO_ok ht]; rfl
end
section
variable {rows : List Str} {k j : Int} {u : Option Str × Bool × Bool} {ps : List Str} {pc : List (Option (Str × Int))} {ow : Option (Str × Int) × Option (Str × Int)} {rm : Int × Int} {cs : List (Bool × Int)}
theorem hX1 (h : rowE rows k (Str.ofString "unit") unitW = .error j) : headO rows k = .error j := andE_err h
theorem hX2 (h1 : rowE rows k (Str.ofString "unit") unitW = .ok u) (h : rowE rows (k + 1) (Str.ofString "params") (mapW unqO) = .error j) : headO rows k = .error j := andE_ok h1 (andE_err h)
theorem hX3 (h1 : rowE rows k (Str.ofString "unit") unitW = .ok u) (h2 : rowE rows (k + 1) (Str.ofString "params") (mapW unqO) = .ok ps) (h : rowE rows (k + 1 + 1) (Str.ofString "places") (mapW placeO) = .error j) : headO rows k = .error j := andE_ok h1 (andE_ok h2 (andE_err h))
theorem hX4 (h1 : rowE rows k (Str.ofString "unit") unitW = .ok u) (h2 : rowE rows (k + 1) (Str.ofString "params") (mapW unqO) = .ok ps) (h3 : rowE rows (k + 1 + 1) (Str.ofString "places") (mapW placeO) = .ok pc) (h : rowE rows (k + 1 + 1 + 1) (Str.ofString "own") ownW = .error j) : headO rows k = .error j := andE_ok h1 (andE_ok h2 (andE_ok h3 (andE_err h)))
theorem hX5 (h1 : rowE rows k (Str.ofString "unit") unitW = .ok u) (h2 : rowE rows (k + 1) (Str.ofString "params") (mapW unqO) = .ok ps) (h3 : rowE rows (k + 1 + 1) (Str.ofString "places") (mapW placeO) = .ok pc) (h4 : rowE rows (k + 1 + 1 + 1) (Str.ofString "own") ownW = .ok ow) (h : rowE rows (k + 1 + 1 + 1 + 1) (Str.ofString "room") roomW = .error j) : headO rows k = .error j := andE_ok h1 (andE_ok h2 (andE_ok h3 (andE_ok h4 (andE_err h))))
theorem hX6 (h1 : rowE rows k (Str.ofString "unit") unitW = .ok u) (h2 : rowE rows (k + 1) (Str.ofString "params") (mapW unqO) = .ok ps) (h3 : rowE rows (k + 1 + 1) (Str.ofString "places") (mapW placeO) = .ok pc) (h4 : rowE rows (k + 1 + 1 + 1) (Str.ofString "own") ownW = .ok ow) (h5 : rowE rows (k + 1 + 1 + 1 + 1) (Str.ofString "room") roomW = .ok rm) (h : rowE rows (k + 1 + 1 + 1 + 1 + 1) (Str.ofString "captures") (mapW capW) = .error j) : headO rows k = .error j := andE_ok h1 (andE_ok h2 (andE_ok h3 (andE_ok h4 (andE_ok h5 (andE_err h)))))
theorem hOk (h1 : rowE rows k (Str.ofString "unit") unitW = .ok u) (h2 : rowE rows (k + 1) (Str.ofString "params") (mapW unqO) = .ok ps) (h3 : rowE rows (k + 1 + 1) (Str.ofString "places") (mapW placeO) = .ok pc) (h4 : rowE rows (k + 1 + 1 + 1) (Str.ofString "own") ownW = .ok ow) (h5 : rowE rows (k + 1 + 1 + 1 + 1) (Str.ofString "room") roomW = .ok rm) (h6 : rowE rows (k + 1 + 1 + 1 + 1 + 1) (Str.ofString "captures") (mapW capW) = .ok cs) :
    headO rows k = .ok { name := u.1, params := ps, strict := u.2.1, args := u.2.2, places := pc, self := ow.1, argp := ow.2, locals := rm.1, cells := rm.2, caps := cs } := andE_ok h1 (andE_ok h2 (andE_ok h3 (andE_ok h4 (andE_ok h5 (andE_ok h6 rfl)))))
end
/-- a list of texts -/
noncomputable def TextV (p : Str × Tok) (v : Value) : Prop := ∃ x t, unqO p.1 = some x ∧ v = .str x t
theorem mapW_cons {α : Type} {f : Str → Option α} {w : Str} {ws : List Str} {x : α} {xs : List α} (h : f w = some x) (h2 : mapW f ws = some xs) : mapW f (w :: ws) = some (x :: xs) := by
  show (match f w, mapW f ws with | some x, some xs => some (x :: xs) | _, _ => none) = _
  rw [h, h2]
theorem paired_texts {pl : List (Str × Tok)} {ys : List Value} (H : Paired TextV pl ys) : ∃ xs, mapW unqO (texts pl) = some (texts xs) ∧ ys = strValues xs := by
  induction H with
  | nil => exact ⟨[], rfl, rfl⟩
  | cons a r ih =>
    refine hideG ?_; intro g9; obtain ⟨x, t, hx, e91⟩ := a; k_unfold; subst e91
    obtain ⟨xs, h1, h2⟩ := ih
    exact ⟨(x, t) :: xs, mapW_cons hx h1, by rw [h2]; rfl⟩
theorem texts_err {pl : List (Str × Tok)} {rows : List Str} {k j : Int} {word : Str} (h : restO rows k word = .ok (texts pl)) (hx : ∃ p ∈ pl, textO p.1 (k + 1) = .error j) : rowE rows k word (mapW unqO) = .error j := by
  obtain ⟨p, hp, h1⟩ := hx
  obtain ⟨h2, h3⟩ := textO_err h1
  exact rowE_none h (mapW_none ⟨p, hp, h2⟩) (by omega)
theorem lenPos {p : Str × Tok} {pl : List (Str × Tok)} : ¬ decide ((0 : Int) < (((p :: pl).length : Nat) : Int)) = false := by
  have h : (0 : Int) < (((p :: pl).length : Nat) : Int) := by rw [List.length_cons]; omega
  rw [decide_eq_true h]; decide
section
variable {prog : Program} {w : World} {A : Around} {E : Value → Shared → Prop} {base h₀ : Heap} {L : Addr} {m : Str → Option Value} {env : Env} {outer : List Env} {elt : Expr} {x : Str} {scope : Scope} {cl : List (Str × Addr)}
  {Fin : Shared → List Value → List (Addr × Obj) → Prop} {s₁ : Shared} {ax : Addr} {k : Nat} {news : List (Addr × Obj)} {pl : List (Str × Tok)}
theorem compX_map (R : Str × Tok → Value → Prop) (X : List (Str × Tok) → Int → Prop) (F : Fr h₀ L s₁.heap m) (N : News h₀ L s₁.heap news) (hm : (ax, W.listOf (strValues pl).toArray k) ∈ news) (hR : Rows pl)
    (turn : ∀ i ys p I oI C oC D m₂ h tk, pl[i]? = some p → p.1.length ≤ 900 → Paired R (pl.take i) ys → LCg.NsObj oC m₂ → m₂ x = some (.str p.1 p.2) → Fr h₀ L h m → News h₀ L h ((I, oI) :: (C, oC) :: (D, LCg.lst ys) :: news) → LCg.Off3 I C D news → NeA I C → NeA I D → NeA C D →
      wpAny (model prog w) A (eval elt (compEnvC scope cl C env)) (fun y s' => TurnEnd h₀ L m { s₁ with heap := h, toks := tk } I oI C oC D (LCg.lst ys) (fun nw => nw = news ∧ R p y) s')
        (TurnExn w base h₀ (env :: outer) L C m oC { s₁ with heap := h, toks := tk } (X pl)) { s₁ with heap := h, toks := tk })
    (fin : ∀ ys, Paired R pl ys → Fin s₁ ys news)
    (exn : ∀ ea D j h tk G, Fr h₀ L G m → RaisedF w base G (env :: outer) ea D j h → G.UpToSlots h → X pl j → E (.ref ea) { s₁ with heap := h, toks := tk }) :
    CompX prog w A E base h₀ env outer L m elt x scope cl Fin (.ref ax) s₁ := compX_same R (X pl) F N hm hR turn fin exn
/-- elements which are tuples: the tail grows -/
theorem compX_grow (V : List (Str × Tok) → List Value → List (Addr × Obj) → Prop) (X : List (Str × Tok) → Int → Prop) {ex sg₀ : List (Addr × Obj)} (F : Fr h₀ L s₁.heap m) (N : News h₀ L s₁.heap news) (hn : news = ex ++ sg₀) (hm : (ax, W.listOf (strValues pl).toArray k) ∈ ex) (hR : Rows pl) (D0 : pairNe (ex ++ sg₀)) (V0 : V [] [] sg₀)
    (turn : ∀ i ys p sg I oI C oC D m₂ h tk, pl[i]? = some p → p.1.length ≤ 900 → pairNe (ex ++ sg) → V (pl.take i) ys sg → LCg.NsObj oC m₂ → m₂ x = some (.str p.1 p.2) → Fr h₀ L h m → News h₀ L h ((I, oI) :: (C, oC) :: (D, LCg.lst ys) :: (ex ++ sg)) → LCg.Off3 I C D (ex ++ sg) → NeA I C → NeA I D → NeA C D →
      wpAny (model prog w) A (eval elt (compEnvC scope cl C env)) (fun y s' => TurnEnd h₀ L m { s₁ with heap := h, toks := tk } I oI C oC D (LCg.lst ys) (fun nw => ∃ sg', nw = ex ++ sg' ∧ pairNe (ex ++ sg') ∧ V (pl.take i ++ [p]) (ys ++ [y]) sg') s')
        (TurnExn w base h₀ (env :: outer) L C m oC { s₁ with heap := h, toks := tk } (X pl)) { s₁ with heap := h, toks := tk })
    (fin : ∀ ys sg, pairNe (ex ++ sg) → V pl ys sg → Fin s₁ ys (ex ++ sg))
    (exn : ∀ ea D j h tk G, Fr h₀ L G m → RaisedF w base G (env :: outer) ea D j h → G.UpToSlots h → X pl j → E (.ref ea) { s₁ with heap := h, toks := tk }) :
    CompX prog w A E base h₀ env outer L m elt x scope cl Fin (.ref ax) s₁ := by
  refine' (?zf : Scr _) ?zq _ ?zs
  case zq =>
    refine ⟨ax, (strValues pl).toArray, news, fun i ys nw => ∃ sg, nw = ex ++ sg ∧ pairNe (ex ++ sg) ∧ V (pl.take i) ys sg, X pl, rfl, F, N, size_strs hR, ⟨sg₀, hn, D0, by simpa using V0⟩, fun i ys nw h => ?_, ?_, fun ys nw h => ?_, exn⟩
    · obtain ⟨sg, rfl, _⟩ := h
      exact ⟨k, List.mem_append_left _ hm⟩
    · rintro i ys nw v I oI C oC D m₂ h tk hv ⟨sg, rfl, hD, hJ⟩ hC hx F' N' o3 ⟨n1, n2, n3⟩
      obtain ⟨p, hp, rfl⟩ := strAt hv
      refine wpAny_mono (turn i ys p sg I oI C oC D m₂ h tk hp (hR.at hp) hD hJ hC hx F' N' o3 n1 n2 n3) (fun y s' h' => ?_) fun _ _ e => e
      refine hideG ?_; intro g9; obtain ⟨h1, t1, nw1, e1, e2, e3, e4, sg', e5, e7, e6⟩ := h'; k_unfold
      exact ⟨h1, t1, nw1, e1, e2, e3, e4, sg', e5, e7, by rw [List.take_add_one, hp]; exact e6⟩
    · refine hideG ?_; intro g9; obtain ⟨sg, e91, hD, h⟩ := h; k_unfold; subst e91
      rw [take_size] at h
      exact fin ys sg hD h
  case zs => show LetQ _ ?zq _; (try delta id foldQ letS2 letS hideG foldN subRN subN ltCut letAE nameRet); exact LetQ.refl
  case zf => intro _ r _; exact r
end
/-- places of a row -/
inductive PlacesV : List (Str × Tok) → List Value → List (Addr × Obj) → List (Option (Str × Int)) → Prop
  | nil : PlacesV [] [] [] []
  | snoc {pl : List (Str × Tok)} {ys : List Value} {sg n : List (Addr × Obj)} {os : List (Option (Str × Int))} {p : Str × Tok} {o : Option (Str × Int)} {v : Value} (h : PlacesV pl ys sg os) (hp : placeO p.1 = some o) (hv : PlaceV o v n) : PlacesV (pl ++ [p]) (ys ++ [v]) (n ++ sg) (os ++ [o])
theorem mapW_inv {α : Type} {f : Str → Option α} {w : Str} {ws : List Str} {xs : List α} (e : mapW f (w :: ws) = some xs) : ∃ y ys, f w = some y ∧ mapW f ws = some ys ∧ xs = y :: ys := by
  replace e : (match f w, mapW f ws with | some x, some xs => some (x :: xs) | _, _ => none) = some xs := e
  cases h1 : f w with
  | none => rw [h1] at e; cases e
  | some y =>
    cases h2 : mapW f ws with
    | none => rw [h1, h2] at e; cases e
    | some ys => rw [h1, h2] at e; exact ⟨y, ys, rfl, rfl, (Option.some.inj e).symm⟩
theorem mapW_snoc {α : Type} {f : Str → Option α} {x : α} {w : Str} (h : f w = some x) {ws : List Str} {xs : List α} (e : mapW f ws = some xs) : mapW f (ws ++ [w]) = some (xs ++ [x]) := by
  induction ws generalizing xs with
  | nil => cases Option.some.inj e; exact mapW_cons h rfl
  | cons v ws ih =>
    refine hideG ?_; intro g9; obtain ⟨y, ys, h1, h2, e91⟩ := mapW_inv e; k_unfold; subst e91
    exact mapW_cons h1 (ih h2)
theorem PlacesV.map {pl : List (Str × Tok)} {ys : List Value} {sg : List (Addr × Obj)} {os : List (Option (Str × Int))} (h : PlacesV pl ys sg os) : mapW placeO (texts pl) = some os := by
  induction h with
  | nil => rfl
  | snoc h hp hv ih => rw [show texts (_ ++ [_]) = texts _ ++ [_] from List.map_append]; exact mapW_snoc hp ih
theorem PlacesV.seg {pl : List (Str × Tok)} {ys : List Value} {sg : List (Addr × Obj)} {os : List (Option (Str × Int))} (h : PlacesV pl ys sg os) : SegT sg := by
  induction h with
  | nil => exact .nil
  | snoc h hp hv ih => exact hv.seg.app ih
theorem places_err {pl : List (Str × Tok)} {rows : List Str} {k k' j : Int} {word : Str} (h : restO rows k word = .ok (texts pl)) (hx : AnyErr (fun w => placeR w k') pl j) (hk : k' = k + 1) : rowE rows k word (mapW placeO) = .error j := by
  obtain ⟨p, hp, h1⟩ := hx
  obtain ⟨h2, h3⟩ := placeR_err h1
  exact rowE_none h (mapW_none ⟨p, hp, h2⟩) (by omega)
/-- captures of a row -/
inductive CapsV : List (Str × Tok) → List Value → List (Addr × Obj) → List (Bool × Int) → Prop
  | nil : CapsV [] [] [] []
  | snoc {pl : List (Str × Tok)} {ys : List Value} {sg : List (Addr × Obj)} {os : List (Bool × Int)} {p : Str × Tok} {o : Bool × Int} {D : Addr} {t : Tok} (h : CapsV pl ys sg os) (hp : capW p.1 = some o) : CapsV (pl ++ [p]) (ys ++ [.ref D]) ((D, tupOf #[.bool o.1, .int o.2 t]) :: sg) (os ++ [o])
theorem CapsV.map {pl : List (Str × Tok)} {ys : List Value} {sg : List (Addr × Obj)} {os : List (Bool × Int)} (h : CapsV pl ys sg os) : mapW capW (texts pl) = some os := by
  induction h with
  | nil => rfl
  | snoc h hp ih => rw [show texts (_ ++ [_]) = texts _ ++ [_] from List.map_append]; exact mapW_snoc hp ih
theorem CapsV.seg {pl : List (Str × Tok)} {ys : List Value} {sg : List (Addr × Obj)} {os : List (Bool × Int)} (h : CapsV pl ys sg os) : SegT sg := by
  induction h with
  | nil => exact .nil
  | snoc h hp ih =>
    intro q hq
    rcases List.mem_cons.mp hq with e | hq
    · rw [e]
    · exact ih q hq
theorem caps_err {pl : List (Str × Tok)} {rows : List Str} {k k' j : Int} {word : Str} (h : restO rows k word = .ok (texts pl)) (hx : AnyErr (fun w => captureO w k') pl j) (hk : k' = k + 1) : rowE rows k word (mapW capW) = .error j := by
  obtain ⟨p, hp, h1⟩ := hx
  obtain ⟨h2, h3⟩ := (captureO_k k').2 _ h1
  exact rowE_none h (mapW_none ⟨p, hp, h2⟩) (by omega)

end
section -- H2C
theorem sub_cons {q : Addr × Obj} {l all : List (Addr × Obj)} (h : q ∈ all) (t : ∀ p ∈ l, p ∈ all) : ∀ p ∈ q :: l, p ∈ all := fun p hp => (List.mem_cons.mp hp).elim (fun e => e ▸ h) (t p)
theorem turnEndG {h₀ h' : Heap} {L I C D : Addr} {m : Str → Option Value} {s : Shared} {oI oC oD : Obj} {V : List (Addr × Obj) → Prop} {tk' : Nat} {all ex sg : List (Addr × Obj)}
    (F : Fr h₀ L h' m) (N : News h₀ L h' all) (x : TailD ((I, oI) :: (C, oC) :: (D, oD) :: ex) sg all) (hV : V sg) :
    TurnEnd h₀ L m s I oI C oC D oD (fun nw => ∃ sg', nw = ex ++ sg' ∧ pairNe (ex ++ sg') ∧ V sg') { s with heap := h', toks := tk' } :=
  turnEnd F N x.m (LCg.Off3.of fun p hp => ⟨neAll_iff.mp x.d.1 p (.tail _ (.tail _ hp)), neAll_iff.mp x.d.2.1 p (.tail _ hp), neAll_iff.mp x.d.2.2.1 p hp⟩) ⟨_, rfl, x.d.2.2.2, hV⟩
noncomputable def PlacesV' (pl : List (Str × Tok)) (ys : List Value) (sg : List (Addr × Obj)) : Prop := ∃ os, PlacesV pl ys sg os
theorem sweepH {w : World} {h₀ h : Heap} {L r d l wD cL u dU a2 a3 a4 a5 a6 a7 a10 a15 : Addr} {all rest : List (Addr × Obj)} {or od ol ow oc o2 o3 o4 o5 o6 o7 o10 : Obj} {u1 u2 u3 u4 u5 u6 u7 u8 u9 u10 u11 u12 u13 u14 u15 : Tok} {v1 v8 v9 v11 v12 v13 v14 : Value} (N : News h₀ L h all)
    (x : SelD [(wD, ow), (r, or), (d, od), (l, ol), (cL, oc), (u, instObj 117 dU), (dU, dictOf (ud w u1 u2 u3 u4 u5 u6 u7 u8 u9 u10 u11 u12 u13 u14 u15 v1 (.ref a2) (.ref a3) (.ref a4) (.ref a5) (.ref a6) (.ref a7) v8 v9 (.ref a10) v11 v12 v13 v14 (.ref a15)) 15), (a2, o2), (a3, o3), (a4, o4), (a5, o5), (a6, o6), (a7, o7), (a10, o10)] all rest) :
    News h₀ L h [(wD, ow), (r, or), (d, od), (l, ol), (cL, oc), (u, instObj 117 dU), (dU, dictOf (ud w u1 u2 u3 u4 u5 u6 u7 u8 u9 u10 u11 u12 u13 u14 u15 v1 (.ref a2) (.ref a3) (.ref a4) (.ref a5) (.ref a6) (.ref a7) v8 v9 (.ref a10) v11 v12 v13 v14 (.ref a15)) 15), (a2, o2), (a3, o3), (a4, o4), (a5, o5), (a6, o6), (a7, o7), (a10, o10)] ∧ pairNe [(wD, ow), (r, or), (d, od), (l, ol), (cL, oc), (u, instObj 117 dU), (dU, dictOf (ud w u1 u2 u3 u4 u5 u6 u7 u8 u9 u10 u11 u12 u13 u14 u15 v1 (.ref a2) (.ref a3) (.ref a4) (.ref a5) (.ref a6) (.ref a7) v8 v9 (.ref a10) v11 v12 v13 v14 (.ref a15)) 15), (a2, o2), (a3, o3), (a4, o4), (a5, o5), (a6, o6), (a7, o7), (a10, o10)] := ⟨newsSub N x.mem.1, x.mem.2.2.2.1⟩
theorem tupNe0 {n : Addr} : (Value.ref n) ≠ .type "tuple" := nofun
theorem tupNe1 : (Value.type "dict") ≠ .type "tuple" := by decide
theorem tupNe2 : (Value.type "list") ≠ .type "tuple" := by decide
theorem tail_cons {l all : List (Addr × Obj)} {q : Addr × Obj} (h : ∀ p ∈ l, p ∈ all) : ∀ p ∈ l, p ∈ q :: all := fun p hp => List.mem_cons_of_mem _ (h p hp)
section
variable {rows : List Str} {k k' j : Int} {x0 x1 : Str × Tok} {pl : List (Str × Tok)} {o1 o2 : Option (Str × Int)}
theorem own2 {a b : Str} : ownW [a, b] = (match placeO a, placeO b with
    | some x, some y => some (x, y)
    | _, _ => none) := rfl
theorem room2 {a b : Str} : roomW [a, b] = (match numW a, numW b with
    | some x, some y => some (x, y)
    | _, _ => none) := rfl
theorem ownOk (h : restO rows k (Str.ofString "own") = .ok (texts [x0, x1])) (h1 : placeR x0.1 k' = .ok o1) (h2 : placeR x1.1 k' = .ok o2) : rowE rows k (Str.ofString "own") ownW = .ok (o1, o2) := by
  refine rowE_ok h ?_
  show ownW [x0.1, x1.1] = _
  rw [own2, placeR_ok h1, placeR_ok h2]
theorem ownN (h : restO rows k (Str.ofString "own") = .ok (texts pl)) (hn : ((pl.length : Int) == 2) = false) (hj : j = k + 1 - 1) : rowE rows k (Str.ofString "own") ownW = .error j := by
  refine rowE_none h ?_ (by omega)
  rcases pl with _ | ⟨a, _ | ⟨b, _ | ⟨c, r⟩⟩⟩
  · rfl
  · rfl
  · simp at hn
  · rfl
theorem ownN1 (h : restO rows k (Str.ofString "own") = .ok (texts [x0, x1])) (h1 : placeR x0.1 (k + 1) = .error j) : rowE rows k (Str.ofString "own") ownW = .error j := by
  obtain ⟨a, b⟩ := placeR_err h1
  refine rowE_none h ?_ (by omega)
  show ownW [x0.1, x1.1] = _
  rw [own2, a]
theorem ownN2 (h : restO rows k (Str.ofString "own") = .ok (texts [x0, x1])) (h1 : placeR x1.1 (k + 1) = .error j) : rowE rows k (Str.ofString "own") ownW = .error j := by
  obtain ⟨a, b⟩ := placeR_err h1
  refine rowE_none h ?_ (by omega)
  show ownW [x0.1, x1.1] = _
  rw [own2, a]
  cases placeO x0.1 <;> rfl
theorem roomOk (h : restO rows k (Str.ofString "room") = .ok (texts [x0, x1])) (h1 : 0 ≤ plainO x0.1) (h2 : 0 ≤ plainO x1.1) : rowE rows k (Str.ofString "room") roomW = .ok (plainO x0.1, plainO x1.1) := by
  refine rowE_ok h ?_
  show roomW [x0.1, x1.1] = _
  rw [room2]; unfold numW; rw [if_pos h1, if_pos h2]
theorem roomN (h : restO rows k (Str.ofString "room") = .ok (texts pl)) (hn : ((pl.length : Int) == 2) = false) (hj : j = k + 1 - 1) : rowE rows k (Str.ofString "room") roomW = .error j := by
  refine rowE_none h ?_ (by omega)
  rcases pl with _ | ⟨a, _ | ⟨b, _ | ⟨c, r⟩⟩⟩
  · rfl
  · rfl
  · simp at hn
  · rfl
theorem roomN1 (h : restO rows k (Str.ofString "room") = .ok (texts [x0, x1])) (h1 : numO x0.1 (k + 1) = .error j) : rowE rows k (Str.ofString "room") roomW = .error j := by
  obtain ⟨a, b⟩ := numO_none h1
  refine rowE_none h ?_ (by omega)
  show roomW [x0.1, x1.1] = _
  rw [room2, a]
theorem roomN2 (h : restO rows k (Str.ofString "room") = .ok (texts [x0, x1])) (h1 : numO x1.1 (k + 1) = .error j) : rowE rows k (Str.ofString "room") roomW = .error j := by
  obtain ⟨a, b⟩ := numO_none h1
  refine rowE_none h ?_ (by omega)
  show roomW [x0.1, x1.1] = _
  rw [room2, a]
  cases numW x0.1 <;> rfl
end

end
section -- H2D
noncomputable def PlaceM (sg : List (Addr × Obj)) (o : Option (Str × Int)) (v : Value) : Prop := match o with
  | none => v = .none
  | some p => ∃ D t t', v = .ref D ∧ (D, tupOf #[.str p.1 t, .int p.2 t']) ∈ sg
inductive CapM (sg : List (Addr × Obj)) (o : Bool × Int) (v : Value) : Prop
  | mk (D : _) (t : _) (hq1 : v = .ref D) (hq2 : (D, tupOf #[.bool o.1, .int o.2 t]) ∈ sg) : CapM sg o v
theorem PlaceM.mono {sg sg' : List (Addr × Obj)} {o : Option (Str × Int)} {v : Value} (h : PlaceM sg o v) (hs : ∀ p ∈ sg, p ∈ sg') : PlaceM sg' o v := by
  cases o with
  | none => exact h
  | some p => obtain ⟨D, t, t', e, hm⟩ := h; exact ⟨D, t, t', e, hs _ hm⟩
theorem CapM.mono {sg sg' : List (Addr × Obj)} {o : Bool × Int} {v : Value} (h : CapM sg o v) (hs : ∀ p ∈ sg, p ∈ sg') : CapM sg' o v := by
  obtain ⟨D, t, e, hm⟩ := h; exact ⟨D, t, e, hs _ hm⟩
theorem PlaceV.toM {n : List (Addr × Obj)} {o : Option (Str × Int)} {v : Value} (h : PlaceV o v n) : PlaceM n o v := by
  cases o with
  | none => exact h.1
  | some p => obtain ⟨D, t, t', e, hn⟩ := h; exact ⟨D, t, t', e, hn ▸ List.mem_singleton.mpr rfl⟩
theorem paired_mono {α β : Type} {F G : α → β → Prop} (h : ∀ a b, F a b → G a b) {l : List α} {m : List β} (H : Paired F l m) : Paired G l m := by
  induction H with
  | nil => exact .nil
  | cons a _ ih => exact .cons (h _ _ a) ih
theorem PlacesV.toM {pl : List (Str × Tok)} {ys : List Value} {sg : List (Addr × Obj)} {os : List (Option (Str × Int))} (h : PlacesV pl ys sg os) : Paired (PlaceM sg) os ys := by
  induction h with
  | nil => exact .nil
  | snoc h hp hv ih => exact (paired_mono (fun _ _ x => x.mono fun _ hp => List.mem_append_right _ hp) ih).snoc (hv.toM.mono fun _ hp => List.mem_append_left _ hp)
/-- captures, with the tail so far -/
noncomputable def CapsM (sg0 : List (Addr × Obj)) (pl : List (Str × Tok)) (ys : List Value) (sg : List (Addr × Obj)) : Prop := (∀ p ∈ sg0, p ∈ sg) ∧ ∃ os, mapW capW (texts pl) = some os ∧ Paired (CapM sg) os ys
theorem CapsM.nil {sg0 : List (Addr × Obj)} : CapsM sg0 [] [] sg0 := ⟨fun _ h => h, [], rfl, .nil⟩
theorem CapsM.snoc {sg0 sg : List (Addr × Obj)} {pl : List (Str × Tok)} {ys : List Value} {p : Str × Tok} {o : Bool × Int} {D : Addr} {t : Tok} {k : Int} (h : CapsM sg0 pl ys sg) (hp : captureO p.1 k = .ok o) :
    CapsM sg0 (pl ++ [p]) (ys ++ [.ref D]) ([(D, tupOf #[.bool o.1, .int o.2 t])] ++ sg) := by
  refine hideG ?_; intro g9; obtain ⟨hs, os, h1, h2⟩ := h; k_unfold
  refine ⟨fun q hq => List.mem_cons_of_mem _ (hs q hq), os ++ [o], ?_, ?_⟩
  · rw [show texts (pl ++ [p]) = texts pl ++ [p.1] from List.map_append]; exact mapW_snoc ((captureO_k k).1 _ hp) h1
  · exact (paired_mono (fun _ _ x => x.mono fun _ hq => List.mem_cons_of_mem _ hq) h2).snoc ⟨D, t, rfl, List.mem_cons_self⟩
theorem sweepG {w : World} {h₀ h : Heap} {L r d l wD cL u dU a2 a3 a4 a5 a6 a7 a10 a15 : Addr} {all sg9 n1 n2 : List (Addr × Obj)} {or od ol ow oc o2 o3 o4 o5 o6 o7 o15 : Obj} {u1 u2 u3 u4 u5 u6 u7 u8 u9 u10 u11 u12 u13 u14 u15 : Tok} {v1 v8 v9 v11 v12 v13 v14 : Value}
    {p1 p2 : Option (Str × Int)} {rows : List Str} {k : Int} {pl : List (Str × Tok)} {ys : List Value} {os : List (Option (Str × Int))} {x0 x1 : Str × Tok} {k' : Int}
    (N : News h₀ L h all) (_ : restO rows k (Str.ofString "own") = .ok (texts [x0, x1])) (hp1 : placeR x0.1 k' = .ok p1) (hp2 : placeR x1.1 k' = .ok p2) (hA : PlaceV p1 v13 n1) (hB : PlaceV p2 v14 n2) (hP : PlacesV pl ys sg9 os)
    (x : TailD [(wD, ow), (r, or), (d, od), (l, ol), (cL, oc), (u, instObj 117 dU), (dU, dictOf (ud w u1 u2 u3 u4 u5 u6 u7 u8 u9 u10 u11 u12 u13 u14 u15 v1 (.ref a2) (.ref a3) (.ref a4) (.ref a5) (.ref a6) (.ref a7) v8 v9 (.ref a10) v11 v12 v13 v14 (.ref a15)) 15), (a2, o2), (a3, o3), (a4, o4), (a5, o5), (a6, o6), (a7, o7), (a15, o15)] (n2 ++ (n1 ++ sg9)) all) :
    ∃ sg, PlaceM sg p1 v13 ∧ PlaceM sg p2 v14 ∧ Paired (PlaceM sg) os ys ∧
      News h₀ L h ([(wD, ow), (r, or), (d, od), (l, ol), (cL, oc), (u, instObj 117 dU), (dU, dictOf (ud w u1 u2 u3 u4 u5 u6 u7 u8 u9 u10 u11 u12 u13 u14 u15 v1 (.ref a2) (.ref a3) (.ref a4) (.ref a5) (.ref a6) (.ref a7) v8 v9 (.ref a10) v11 v12 v13 v14 (.ref a15)) 15), (a2, o2), (a3, o3), (a4, o4), (a5, o5), (a6, o6), (a7, o7), (a15, o15)] ++ sg) ∧ pairNe ([(wD, ow), (r, or), (d, od), (l, ol), (cL, oc), (u, instObj 117 dU), (dU, dictOf (ud w u1 u2 u3 u4 u5 u6 u7 u8 u9 u10 u11 u12 u13 u14 u15 v1 (.ref a2) (.ref a3) (.ref a4) (.ref a5) (.ref a6) (.ref a7) v8 v9 (.ref a10) v11 v12 v13 v14 (.ref a15)) 15), (a2, o2), (a3, o3), (a4, o4), (a5, o5), (a6, o6), (a7, o7), (a15, o15)] ++ sg) :=
  ⟨n2 ++ (n1 ++ sg9), hA.toM.mono fun _ h => List.mem_append_right _ (List.mem_append_left _ h), hB.toM.mono fun _ h => List.mem_append_left _ h,
    paired_mono (fun _ _ x => x.mono fun _ h => List.mem_append_right _ (List.mem_append_right _ h)) hP.toM, newsSub N x.m, x.d⟩

end
section -- H2E
theorem pnNew2 {m n : List (Addr × Obj)} {o x : Addr} (D : pairNe m) (k : ∀ p ∈ n, p.1 < o) (l : o < x) (e : m.map Prod.fst = n.map Prod.fst) : pairNe ((x, dumO) :: (o, dumO) :: n) :=
  And.intro (And.intro (Nat.ne_of_lt l) (neAll_iff.mpr fun p hp => Nat.ne_of_lt (Nat.lt_trans (k p hp) l))) (pnNew D k e)
noncomputable def HeadM (sg : List (Addr × Obj)) (h : PHead) (v1 v2 v8 v9 v10 v11 v12 v13 v14 v15 : Value) : Prop :=
  NameV h.name v1 ∧ (∃ a xs, v2 = .ref a ∧ (a, LCg.lst (strValues xs)) ∈ sg ∧ texts xs = h.params) ∧ (∃ t, v8 = .int h.locals t) ∧ (∃ t, v9 = .int h.cells t) ∧
  (∃ a ys, v10 = .ref a ∧ (a, LCg.lst ys) ∈ sg ∧ Paired (CapM sg) h.caps ys) ∧ v11 = .bool h.strict ∧ v12 = .bool h.args ∧ PlaceM sg h.self v13 ∧ PlaceM sg h.argp v14 ∧
  ∃ a ys, v15 = .ref a ∧ (a, LCg.lst ys) ∈ sg ∧ Paired (PlaceM sg) h.places ys
theorem HeadM.mono {sg sg' : List (Addr × Obj)} {h : PHead} {v1 v2 v8 v9 v10 v11 v12 v13 v14 v15 : Value} (x : HeadM sg h v1 v2 v8 v9 v10 v11 v12 v13 v14 v15) (hs : ∀ p ∈ sg, p ∈ sg') : HeadM sg' h v1 v2 v8 v9 v10 v11 v12 v13 v14 v15 := by
  refine hideG ?_; intro g9; obtain ⟨a1, ⟨a, xs, e1, e2, e3⟩, a3, a4, ⟨b, ys, f1, f2, f3⟩, a6, a7, a8, a9, c, zs, g1, g2, g3⟩ := x; k_unfold
  exact ⟨a1, ⟨a, xs, e1, hs _ e2, e3⟩, a3, a4, ⟨b, ys, f1, hs _ f2, paired_mono (fun _ _ q => q.mono hs) f3⟩, a6, a7, a8.mono hs, a9.mono hs, c, zs, g1, hs _ g2, paired_mono (fun _ _ q => q.mono hs) g3⟩
noncomputable abbrev unitL (w : World) (u1 u2 u3 u4 u5 u6 u7 u8 u9 u10 u11 u12 u13 u14 u15 : Tok) (v1 v2 v8 v9 v10 v11 v12 v13 v14 v15 : Value) (U dU aC aK aU aH aL : Addr) (oC oK oU oH oL : Obj) : List (Addr × Obj) :=
  [(U, instObj 117 dU), (dU, dictOf (ud w u1 u2 u3 u4 u5 u6 u7 u8 u9 u10 u11 u12 u13 u14 u15 v1 v2 (.ref aC) (.ref aK) (.ref aU) (.ref aH) (.ref aL) v8 v9 v10 v11 v12 v13 v14 v15) 15), (aC, oC), (aK, oK), (aU, oU), (aH, oH), (aL, oL)]
inductive HeadP (w : World) (r d l : Addr) (ls : List (Str × Tok)) (k : Int) (h : PHead) (v : Value) (news' : List (Addr × Obj)) : Prop
  | mk (a' b' c' : Tok) (U dU aC aK aU aH aL : Addr) (sg : List (Addr × Obj)) (u1 u2 u3 u4 u5 u6 u7 u8 u9 u10 u11 u12 u13 u14 u15 : Tok) (v1 v2 v8 v9 v10 v11 v12 v13 v14 v15 : Value) (h1 : v = .ref U) (h2 : HeadM sg h v1 v2 v8 v9 v10 v11 v12 v13 v14 v15) (h3 : news' = (RD w r d l k a' b' c' ls ++ unitL w u1 u2 u3 u4 u5 u6 u7 u8 u9 u10 u11 u12 u13 u14 u15 v1 v2 v8 v9 v10 v11 v12 v13 v14 v15 U dU aC aK aU aH aL (W.listOf #[] 0) (W.listOf #[] 0) (W.listOf #[] 0) (W.listOf #[] 0) (W.listOf #[] 0)) ++ sg) : HeadP w r d l ls k h v news'
theorem head_ret {w : World} {g h' : Heap} {s : Shared} {Q : Value → Shared → Prop} {r d l : Addr} {ls : List (Str × Tok)} {k k' : Int} {U dU aC aK aU aH aL aP aCap aPl : Addr} {a' b' c' u1 u2 u3 u4 u5 u6 u7 u8 u9 u10 u11 u12 u13 u14 u15 t8 t9 : Tok} {tk' : Nat}
    {v1 v13 v14 : Value} {all sg0 sg : List (Addr × Obj)} {xs pcap : List (Str × Tok)} {ys zs : List Value} {name : Option Str} {st ar : Bool} {pc : List (Option (Str × Int))} {o1 o2 : Option (Str × Int)} {lc cc : Int}
    (R : RetS g s (fun v news' => ∃ h, headO (texts ls) k = .ok h ∧ HeadP w r d l ls k' h v news') Q) (st' : g.StaysIn h') (N : NewsG g h' all)
    (x : TailD [(r, instObj 374 d), (d, dictOf (rd w l k' a' b' c') 2), (l, W.listOf (strValues ls).toArray 0), (U, instObj 117 dU), (dU, dictOf (ud w u1 u2 u3 u4 u5 u6 u7 u8 u9 u10 u11 u12 u13 u14 u15 v1 (.ref aP) (.ref aC) (.ref aK) (.ref aU) (.ref aH) (.ref aL) (.int lc t8) (.int cc t9) (.ref aCap) (.bool st) (.bool ar) v13 v14 (.ref aPl)) 15), (aC, W.listOf #[] 0), (aK, W.listOf #[] 0), (aU, W.listOf #[] 0), (aH, W.listOf #[] 0), (aL, W.listOf #[] 0), (aP, LCg.lst (strValues xs)), (aCap, LCg.lst ys), (aPl, LCg.lst zs)] sg all)
    (hsub : ∀ p ∈ sg0, p ∈ sg) (hN : NameV name v1) (hM1 : PlaceM sg0 o1 v13) (hM2 : PlaceM sg0 o2 v14) (hMP : Paired (PlaceM sg0) pc zs) (hMC : ∃ cs, mapW capW (texts pcap) = some cs ∧ Paired (CapM sg) cs ys)
    (he : ∀ cs, mapW capW (texts pcap) = some cs → headO (texts ls) k = .ok { name := name, params := texts xs, strict := st, args := ar, places := pc, self := o1, argp := o2, locals := lc, cells := cc, caps := cs }) :
    Q (.ref U) { s with heap := h', toks := tk' } := by
  obtain ⟨cs, hcs, hMC⟩ := hMC
  have up : ∀ p ∈ sg, p ∈ (aP, LCg.lst (strValues xs)) :: (aCap, LCg.lst ys) :: (aPl, LCg.lst zs) :: sg := fun p hp => .tail _ (.tail _ (.tail _ hp))
  exact R _ _ _ _ st' (fun p hp => N p (x.m p hp)) x.d ⟨_, he cs hcs, a', b', c', U, dU, aC, aK, aU, aH, aL, (aP, LCg.lst (strValues xs)) :: (aCap, LCg.lst ys) :: (aPl, LCg.lst zs) :: sg, u1, u2, u3, u4, u5, u6, u7, u8, u9, u10, u11, u12, u13, u14, u15, v1, .ref aP, .int lc t8, .int cc t9, .ref aCap, .bool st, .bool ar, v13, v14, .ref aPl,
    rfl, ⟨hN, ⟨_, xs, rfl, .head _, rfl⟩, ⟨_, rfl⟩, ⟨_, rfl⟩, ⟨_, ys, rfl, .tail _ (.head _), paired_mono (fun _ _ q => q.mono up) hMC⟩, rfl, rfl, hM1.mono fun p hp => up p (hsub p hp), hM2.mono fun p hp => up p (hsub p hp), _, zs, rfl, .tail _ (.tail _ (.head _)), paired_mono (fun _ _ q => q.mono fun p hp => up p (hsub p hp)) hMP⟩,
    rfl⟩

end
section -- H3
theorem wd_32 : True := by
  (k_with "W108" => ((k_here; (with_reducible show wpAny _ _ (call (Value.ref 298) _) _ _ _); (try (k_extra "m_foldq")); k_dflt (refine' use_con2CD (by k_asm) (by k_asm) (by k_asm) (by k_asm) (by k_asm) (by exact rfl) (by exact rfl) (by tb_start) (c_rest (by omega) (by assumption)) (by k_room) (by k_units) ?_ ?_); rotate_left; (intro G' e' D' j' h' tk' FG' NG' R' U' hX'; (try dsimp only)); rotate_left; (intro r' news' hP'; (obtain ⟨D', pl', a', b', c', ho', hv', hz', hn'⟩ := hP'); (with_reducible refine subRN hv' hn' ?_); clear hv' hn'; clear news'; clear r'; (try ((with_reducible rename pairNe _ => dN8); clear dN8)); intro h' tk' F' N' hne'; (dsimp only [List.cons_append, List.nil_append] at N'); (try ((with_reducible refine foldN N' ?_); clear N'; intro n9 N')); (try k_sweep); (try dsimp only)))))
  (k_with "call ref" => ((fail_if_success (k_extra "offH3")); k_extra "W108"))
  (k_with "W109" => ((k_here; (with_reducible show wpAny _ _ (call (Value.ref 298) [_, Value.str (Str.ofString "unit") _]) _ _ _); (try (k_extra "m_foldq")); k_dflt (refine' use_con2CD (by k_asm) (by k_asm) (by k_asm) (by k_asm) (by k_asm) (by exact rfl) (by exact rfl) (by tb_start) (c_rest (by omega) (by assumption)) (by k_room) (by k_units) ?_ ?_); rotate_left; (intro G' e' D' j' h' tk' FG' NG' R' U' hX'; (try dsimp only)); rotate_left; (intro r' news' hP'; (obtain ⟨D', pl', a', b', c', ho', hv', hz', hn'⟩ := hP'); (with_reducible refine subRN hv' hn' ?_); clear hv' hn'; clear news'; clear r'; (try ((with_reducible rename pairNe _ => dN8); clear dN8)); intro h' tk' F' N' hne'; (dsimp only [List.cons_append, List.nil_append] at N'); (try ((with_reducible refine foldN N' ?_); clear N'; intro n9 N')); (try k_sweep); (try dsimp only)); (rcases pl' with _ | ⟨p0', pl1'⟩))))
  (k_with "call ref" => ((fail_if_success (k_extra "offH3")); k_extra "W109"))
  (k_with "W110" => ((k_here; (with_reducible show wpAny _ _ (call (Value.ref 298) [_, Value.str (Str.ofString "own") _]) _ _ _); (try (k_extra "m_foldq")); k_dflt (refine' use_con2CD (by k_asm) (by k_asm) (by k_asm) (by k_asm) (by k_asm) (by exact rfl) (by exact rfl) (by tb_start) (c_rest (by omega) (by assumption)) (by k_room) (by k_units) ?_ ?_); rotate_left; (intro G' e' D' j' h' tk' FG' NG' R' U' hX'; (try dsimp only)); rotate_left; (intro r' news' hP'; (obtain ⟨D', pl', a', b', c', ho', hv', hz', hn'⟩ := hP'); (with_reducible refine subRN hv' hn' ?_); clear hv' hn'; clear news'; clear r'; (try ((with_reducible rename pairNe _ => dN8); clear dN8)); intro h' tk' F' N' hne'; (dsimp only [List.cons_append, List.nil_append] at N'); (try ((with_reducible refine foldN N' ?_); clear N'; intro n9 N')); (try k_sweep); (try dsimp only)); (rcases len2 pl' with ⟨x0', x1', hp2'⟩ | hp2'); (try subst hp2'))))
  (k_with "call ref" => ((fail_if_success (k_extra "offH3")); k_extra "W110"))
  (k_with "W111" => ((k_here; (with_reducible show wpAny _ _ (call (Value.ref 298) [_, Value.str (Str.ofString "room") _]) _ _ _); (try (k_extra "m_foldq")); k_dflt (refine' use_con2CD (by k_asm) (by k_asm) (by k_asm) (by k_asm) (by k_asm) (by exact rfl) (by exact rfl) (by tb_start) (c_rest (by omega) (by assumption)) (by k_room) (by k_units) ?_ ?_); rotate_left; (intro G' e' D' j' h' tk' FG' NG' R' U' hX'; (try dsimp only)); rotate_left; (intro r' news' hP'; (obtain ⟨D', pl', a', b', c', ho', hv', hz', hn'⟩ := hP'); (with_reducible refine subRN hv' hn' ?_); clear hv' hn'; clear news'; clear r'; (try ((with_reducible rename pairNe _ => dN8); clear dN8)); intro h' tk' F' N' hne'; (dsimp only [List.cons_append, List.nil_append] at N'); (try ((with_reducible refine foldN N' ?_); clear N'; intro n9 N')); (try k_sweep); (try dsimp only)); (rcases len2 pl' with ⟨x0', x1', hp2'⟩ | hp2'); (try subst hp2'))))
  (k_with "call ref" => ((fail_if_success (k_extra "offH3")); k_extra "W111"))
  (k_with "W112" => ((k_here; (with_reducible show wpAny _ _ (call (Value.ref 319) _) _ _ _); (try (k_extra "m_foldq")); k_dflt (refine' use_con2CD (by k_asm) (by k_asm) (by k_asm) (by k_asm) (by k_asm) (by exact rfl) (by exact rfl) (by tb_start) (c_place (by k_extra "m_len")) (by k_room) (by k_units) ?_ ?_); rotate_left; (intro G' e' D' j' h' tk' FG' NG' R' U' hX'; (try dsimp only)); rotate_left; (intro r' news' hP'; (obtain ⟨o', n', ho', hpv', hn'⟩ := hP'); (have hsg' := PlaceV.seg hpv'); (with_reducible refine subN hn' ?_); clear hn'; clear news'; (try ((with_reducible rename pairNe _ => dN8); clear dN8)); intro h' tk' F' N' hne'; (try simp only [List.append_assoc, List.cons_append, List.nil_append, List.append_nil] at N'); (try simp only [newsPush0, newsPush1, newsPush2, newsPush3, newsPush4, newsPush5, newsPush6, newsPush7, newsPush8, newsPush9, newsPush10, newsPush11, newsPush12, newsPush13, newsPush14, newsPush15, newsPush16] at N'); (try simp only [List.append_nil] at N'); (try simp only [List.append_assoc, List.cons_append, List.nil_append, List.append_nil] at hne'); (try simp only [pnPush0, pnPush1, pnPush2, pnPush3, pnPush4, pnPush5, pnPush6, pnPush7, pnPush8, pnPush9, pnPush10, pnPush11, pnPush12, pnPush13, pnPush14, pnPush15, pnPush16] at hne'); (try simp only [List.append_nil] at hne'); (try ((with_reducible refine foldN N' ?_); clear N'; intro n9 N')); (try k_sweep); (try dsimp only)))))
  (k_with "call ref" => ((fail_if_success (k_extra "offH3")); k_extra "W112"))
  (k_with "W113" => ((k_here; (with_reducible show wpAny _ _ (call (Value.ref 338) _) _ _ _); (try (k_extra "m_foldq")); k_dflt (refine' use_con2CD (by k_asm) (by k_asm) (by k_asm) (by k_asm) (by k_asm) (by exact rfl) (by exact rfl) (by tb_start) (c_capture (by k_extra "m_len")) (by k_room) (by k_units) ?_ ?_); rotate_left; (intro G' e' D' j' h' tk' FG' NG' R' U' hX'; (try dsimp only)); rotate_left; (intro r' news' hP'; (obtain ⟨D', x', t', ho', hv', hn'⟩ := hP'); (with_reducible refine subRN hv' hn' ?_); clear hv' hn'; clear news'; clear r'; (try ((with_reducible rename pairNe _ => dN8); clear dN8)); intro h' tk' F' N' hne'; (dsimp only [List.cons_append, List.nil_append] at N'); (try ((with_reducible refine foldN N' ?_); clear N'; intro n9 N')); (try k_sweep); (try dsimp only)))))
  (k_with "call ref" => ((fail_if_success (k_extra "offH3")); k_extra "W113"))
  (k_with "W114" => ((k_here; (with_reducible show wpAny _ _ _ (fun _ s' => wpAny _ _ (storeName _ (Str.ofString "name") _) _ _ _) _ _); k_dflt (refine' cut_name (by k_asm) (by k_asm) (by k_mem) ?_ ?_); rotate_left; (intro v' o' h' tk' hv' ho' F' N'; (try k_sweep); (try dsimp only)); rotate_left; (with_reducible refine wpAny_IfExp ?_); (try dsimp only))))
  (k_with "eval IfExp" => ((fail_if_success (k_extra "offH3")); k_extra "W114"))
  (k_with "W115" => ((k_here; k_dflt (refine' inFlags (by k_asm) (by k_mem) (by k_mem) (by k_mem) (by k_mem) (by k_mem) (by k_mem) (by exact ⟨_, rfl⟩) (by exact ⟨_, rfl⟩) (by exact ⟨_, rfl⟩) (by exact ⟨_, rfl⟩) (by exact ⟨_, rfl⟩) (by k_ne) (by k_ne) (by k_ne) (by k_ne) (by k_ne) (by k_ne) (by k_ne) (by k_ne) (by k_ne) (by k_ne) (by k_units) ?_; k_whole))))
  (k_with "compareOp In ref ref" => ((fail_if_success (k_extra "offH3")); k_extra "W115"))
  (k_with "W116" => (first | with_reducible assumption | exact rowsHd (by with_reducible assumption) | exact (rows2 (by with_reducible assumption)).1 | exact (rows2 (by with_reducible assumption)).2))
  (k_with "m_len" => ((fail_if_success (k_extra "offH3")); k_extra "W116"))
  (k_with "m_finE" => ((fail_if_success (k_extra "offH3")); k_extra "W105"))
  (k_with "W117" => (((rename ExnS _ _ _ _ _ _ _ => mE); (first | exact mE _ _ _ _ _ (by assumption) (by assumption) (hX1 (rowE_err (by with_reducible assumption))) | exact mE _ _ _ _ _ (by assumption) (by assumption) (hX1 (unitN0 (by with_reducible assumption) (by with_reducible assumption))) | exact mE _ _ _ _ _ (by assumption) (by assumption) (hX1 (unitN1 (by with_reducible assumption) (by with_reducible assumption) (by with_reducible assumption))) | exact mE _ _ _ _ _ (by assumption) (by assumption) (hX1 (unitN2 (by with_reducible assumption) (by with_reducible assumption) (by with_reducible assumption))) | exact ⟨none, _, _, rfl, nameN (by with_reducible assumption), rfl, by assumption, newsSub (by assumption) (by first | (with_reducible exact fun _ h => h) | exact (SelD.mem (by k_extra "m_sel")).1)⟩ | exact ⟨some _, _, _, ⟨_, rfl⟩, nameS (by with_reducible assumption) (by with_reducible assumption), rfl, by assumption, newsSub (by assumption) (by first | (with_reducible exact fun _ h => h) | exact (SelD.mem (by k_extra "m_sel")).1)⟩ | (exfalso; exact lenPos (by with_reducible assumption)) | exact mE _ _ _ _ _ (by assumption) (by assumption) (hX2 (unitOk (by with_reducible assumption) (by with_reducible assumption) (by with_reducible assumption)) (rowE_err (by with_reducible assumption)))))))
  (k_with "m_h1" => ((fail_if_success (k_extra "offH3")); k_extra "W117"))
  (k_with "W118" => ((k_here; (with_reducible show wpAny _ _ (exec (Stmt.Assign [Expr.Attribute _ _ _] _ _) _) _ _ _); (with_reducible refine plainObj_wpAny_Assign_Attribute ?_ ?_); rotate_left; with_unfolding_all rfl)))
  (k_with "exec Assign cons ListComp" => ((fail_if_success (k_extra "offH3")); k_extra "W118"))
  (k_with "eval ListComp Call cons" => ((fail_if_success (k_extra "offH3")); k_extra "W100"))
  (k_with "W119" => (with_reducible (first | exact fun _ h => h | exact fun _ h => List.mem_append_left _ h | exact fun _ h => List.mem_append_right _ h | exact fun _ h => List.mem_append_right _ (List.mem_append_left _ h) | exact fun _ h => List.mem_append_right _ (List.mem_append_right _ h) | (refine tail_cons ?_; kwd_rel))))
  (k_with "x_kwd_rel" => ((fail_if_success (k_extra "offH3")); k_extra "W119"))
  (k_with "W120" => (exact segNe (by with_reducible assumption) (by with_reducible assumption) (by k_mem) (by first | exact tupNe0 | exact tupNe1 | exact tupNe2) (by kwd_rel)))
  (k_with "x_k_all" => ((fail_if_success (k_extra "offH3")); k_extra "W120"))
  (k_with "W121" => (first | exact List.forall_mem_nil _ | (with_reducible assumption) | (with_reducible exact neAll_iff.mp (by assumption)) | (with_reducible exact allLt_ne _ (by assumption)) | ((with_reducible refine' ch8 ?_ ?_ ?_ ?_ ?_ ?_ ?_ ?_ ?_); (focus k_extra "ne1"); (focus k_extra "ne1"); (focus k_extra "ne1"); (focus k_extra "ne1"); (focus k_extra "ne1"); (focus k_extra "ne1"); (focus k_extra "ne1"); (focus k_extra "ne1"); k_all) | ((with_reducible refine' ch4 ?_ ?_ ?_ ?_ ?_); (focus k_extra "ne1"); (focus k_extra "ne1"); (focus k_extra "ne1"); (focus k_extra "ne1"); k_all) | ((with_reducible refine' ch2 ?_ ?_ ?_); (focus k_extra "ne1"); (focus k_extra "ne1"); k_all) | ((with_reducible refine' ch1 ?_ ?_); (focus k_extra "ne1"); k_all) | ((first | refine' allNeC ?_ ?_ | refine' allC ?_ ?_); (focus k_ne); k_all) | (refine' all_app ?_ ?_; (focus k_all); k_all) | fail "k_all"))
  (k_with "x_k_all" => ((fail_if_success (k_extra "offH3")); k_extra "W121"))
  (k_with "W122" => (first | kwd_rel | (refine' sub_cons ?_ ?_; (focus k_mem); kwd_inv)))
  (k_with "x_kwd_inv" => ((fail_if_success (k_extra "offH3")); k_extra "W122"))
  (k_with "W123" => ((intro i9 ys9 p9 sg9 I9 oI9 C9 oC9 D9 m9 h9 tk9 hp9 hl9 dN8 hV9 hC9 hx9 F9 N9 o9 n1 n2 n3; (simp only [List.cons_append, List.nil_append] at N9); (try ((with_reducible rename pairNe _ => dN8); (refine dCut (pn3 dN8 o9 n1 n2 n3 rfl) ?_); clear dN8; intro dN9)); (try dsimp only))))
  (k_with "m_turnG" => ((fail_if_success (k_extra "offH3")); k_extra "W123"))
  (k_with "W124" => ((intro ys9 sg9 dN8 hV9; (intro D9 h9 tk9 F9 N9 o9); (simp only [List.cons_append, List.nil_append] at N9); (try ((with_reducible rename pairNe _ => dN8); (refine dCut (pn1 dN8 o9 rfl) ?_); clear dN8; intro dN9)); (try dsimp only))))
  (k_with "m_finEG" => ((fail_if_success (k_extra "offH3")); k_extra "W124"))
  (k_with "W125" => ((repeat' (first | exact trivial | (refine And.intro (neAll_iff.mpr (by k_all)) ?_)))))
  (k_with "m_pair" => ((fail_if_success (k_extra "offH3")); k_extra "W125"))
  (k_with "W126" => (((repeat ((with_reducible rename @LT.lt Nat _ _ _ => hz9); clear hz9)); (repeat ((with_reducible rename NeA _ _ => hz9); clear hz9)); (repeat ((with_reducible rename @Ne Nat _ _ => hz9); clear hz9)))))
  (k_with "m_clear" => ((fail_if_success (k_extra "offH3")); k_extra "W126"))
  trivial
section
variable {w : World} {mean : ExcName → Option Value} {mg mb : Str → Option Value} {r d l : Addr} {k : Int} {a b c : Tok} {ls : List (Str × Tok)}
theorem c_head (h0 : 0 ≤ k) (hR : Rows ls) : Con w mean mg mb 331 [.ref r] (RD w r d l k a b c ls) 140
   (fun v news' => ∃ h, headO (texts ls) k = .ok h ∧ HeadP w r d l ls (k + 1 + 1 + 1 + 1 + 1 + 1) h v news') (fun j => headO (texts ls) k = .error j) := by
  refine' (?zf : Scr _) ?zq _ ?zs
  case zq =>
    intro prog dp un gd base frs g s Q E S hdp hun hret hexn; refine nameRet hret ?_; clear hret; intro P9 hret
    dsimp only [RD] at S
    k_extra "m_enterC"
    k_steps
    all_goals try (solve | k_extra "m_h1")
    refine compX_map TextV (AnyErr (fun w => textO w (k + 1 + 1))) (by assumption) (by assumption) (by k_mem) (by with_reducible assumption) ?turn ?fin ?exn
    case turn =>
      k_extra "m_turn"
      k_steps
      exact ⟨_, _, textO_ok (by with_reducible assumption), rfl⟩
    case exn =>
      k_extra "m_exn2"
      k_steps
      exact hexn _ _ _ _ _ (by assumption) (by assumption) (hX2 (unitOk (by with_reducible assumption) (by with_reducible assumption) (by with_reducible assumption)) (texts_err (by with_reducible assumption) (by with_reducible assumption)))
    case fin =>
      k_extra "m_finE"
      have hU := unitOk (by with_reducible assumption) (by with_reducible assumption) (by with_reducible assumption)
      (rename Paired _ _ _ => hP9)
      obtain ⟨xs, hxs, rfl⟩ := paired_texts hP9
      have hPs := rowE_ok (by with_reducible assumption) hxs
      k_steps
      all_goals try (solve | exact hexn _ _ _ _ _ (by assumption) (by assumption) (hX3 hU hPs (by have hj := rowE_err (f := mapW placeO) (by with_reducible assumption); exact hj)))
      (rename News _ _ _ _ => N1)
      (rename @Eq PySem.Data _ (PySem.Data.cell _) => hd9)
      have N2 := sweepH (w := w) (r := r) (d := d) (l := l) (oc := objOf hd9) (ow := W.listOf (strValues _).toArray 0) N1 (by k_extra "m_sel")
      (rename pairNe _ => dN8); clear dN8
      obtain ⟨N2, dN8⟩ := N2
      dsimp only [objOf] at N2 dN8
      clear N1
      have hdp2 : dp + 141 ≤ recursionLimit := hdp
      have hun2 : un + 10 * 140 + 1 ≤ cLine := hun
      k_extra "m_clear"
      refine compX_grow PlacesV' (AnyErr (fun w => placeR w (k + 1 + 1 + 1))) (sg₀ := []) (by assumption) N2 (List.append_nil _).symm (by k_mem) (by with_reducible assumption) (by exact pnKeys dN8 rfl) ⟨[], .nil⟩ ?turn ?fin ?exn
      case turn =>
        clear N2
        k_extra "m_turnG"
        (rename PlacesV' _ _ _ => hV9)
        obtain ⟨os9, hV9⟩ := hV9
        k_steps
        · refine' turnEndG ?F ?N ?x ⟨_, PlacesV.snoc ?h1 ?h2 ?h3⟩
          case h1 => with_reducible assumption
          case h3 => with_reducible assumption
          case h2 => exact placeR_ok (by with_reducible assumption)
          case F => k_asm
          case N => k_asm
          case x => k_extra "m_tailD"
      case exn =>
        k_extra "m_exn2"
        k_steps
        exact hexn _ _ _ _ _ (by assumption) (by assumption) (hX3 hU hPs (places_err (by with_reducible assumption) (by with_reducible assumption) (by omega)))
      case fin =>
        clear N2
        k_extra "m_finEG"
        (rename PlacesV' _ _ _ => hV9)
        obtain ⟨os9, hV9⟩ := hV9
        have hPc := rowE_ok (by with_reducible assumption) hV9.map
        k_steps
        all_goals try (solve | exact hexn _ _ _ _ _ (by assumption) (by assumption) (hX4 hU hPs hPc (by first
          | exact rowE_err (by with_reducible assumption)
          | exact ownN (by with_reducible assumption) (by with_reducible assumption) (by with_reducible assumption)
          | exact ownN1 (by with_reducible assumption) (by with_reducible assumption)
          | exact ownN2 (by with_reducible assumption) (by with_reducible assumption))))
        all_goals (have hOw := ownOk (by with_reducible assumption) (by with_reducible assumption) (by with_reducible assumption))
        all_goals try (solve | exact hexn _ _ _ _ _ (by assumption) (by assumption) (hX5 hU hPs hPc hOw (by first
          | exact rowE_err (by with_reducible assumption)
          | exact roomN (by with_reducible assumption) (by with_reducible assumption) (by with_reducible assumption)
          | exact roomN1 (by with_reducible assumption) (by with_reducible assumption)
          | exact roomN2 (by with_reducible assumption) (by with_reducible assumption))))
        all_goals (have hRm := roomOk (by with_reducible assumption) (by with_reducible assumption) (by with_reducible assumption))
        all_goals try (solve | exact hexn _ _ _ _ _ (by assumption) (by assumption) (hX6 hU hPs hPc hOw hRm (rowE_err (by with_reducible assumption))))
        (rename News _ _ _ _ => N1)
        refine hideG ?_; intro g9; obtain ⟨sg, hM1, hM2, hMP, N2, dN9⟩ := sweepG (w := w) (r := r) (d := d) (l := l) (oc := objOf hd9) (ow := W.listOf (strValues _).toArray 0) N1 (by with_reducible assumption) (by with_reducible assumption) (by with_reducible assumption) (by with_reducible assumption) (by with_reducible assumption) hV9 (by k_extra "m_tailD"); k_unfold
        dsimp only [objOf] at N2 dN9
        k_extra "m_clear"
        clear N1
        refine compX_grow (CapsM sg) (AnyErr (fun w => captureO w (k + 1 + 1 + 1 + 1 + 1 + 1))) (sg₀ := sg) (by assumption) N2 rfl (by k_mem) (by with_reducible assumption) dN9 CapsM.nil ?turn ?fin ?exn
        case turn =>
          clear N2
          k_extra "m_turnG"
          k_steps
          refine' turnEndG ?F ?N ?x (CapsM.snoc ?h1 ?hp)
          case hp => with_reducible assumption
          case h1 => with_reducible assumption
          case F => k_asm
          case N => k_asm
          case x => k_extra "m_tailD"
        case exn =>
          k_extra "m_exn2"
          k_steps
          exact hexn _ _ _ _ _ (by assumption) (by assumption) (hX6 hU hPs hPc hOw hRm (caps_err (by with_reducible assumption) (by with_reducible assumption) (by omega)))
        case fin =>
          clear N2
          k_extra "m_finEG"
          k_steps
          (rename CapsM _ _ _ _ => hC9)
          obtain ⟨hs9, hC9⟩ := hC9
          refine' head_ret hret ?st ?N ?x hs9 ?hN ?hM1 ?hM2 hMP hC9 (fun cs hcs => hOk hU hPs hPc hOw hRm (rowE_ok (by with_reducible assumption) hcs))
          case st => assumption
          case N => assumption
          case x => k_extra "m_tailD"
          case hN => with_reducible assumption
          case hM1 => with_reducible assumption
          case hM2 => with_reducible assumption
  case zs => show LetQ _ ?zq _; (try delta id foldQ letS2 letS hideG foldN subRN subN ltCut letAE nameRet); exact LetQ.refl
  case zf => intro _ r _; exact r
end

theorem wd_33 : True := by
  (k_with "offH3" => (skip))
  trivial
end
section -- NE
section
variable {A : Around} {s : Shared} {l b : Addr} {xs ys : List (Str × Tok)}
theorem strsNe (hl : s.heap.IsList l (strValues xs).toArray) (hb : s.heap.IsList b (strValues ys).toArray) (hu : A.units < cLine) : PySem.SeqAt.RcNeAt A s (.ref l) (.ref b) (!(texts xs == texts ys)) := by
  by_cases hsz : xs.length = ys.length
  · have e : ((List.range (strValues xs).toArray.size).all fun j => (texts xs)[j]? == (texts ys)[j]?) = (texts xs == texts ys) := by
      rw [Bool.eq_iff_iff]
      simp only [List.all_eq_true, List.mem_range, beq_iff_eq, strValues, List.size_toArray, List.length_map]
      constructor
      · intro h
        refine List.ext_getElem? fun j => ?_
        by_cases hj : j < xs.length
        · exact h j hj
        · rw [List.getElem?_eq_none (by simp; omega), List.getElem?_eq_none (by simp; omega)]
      · intro h j _
        rw [h]
    rw [← e]
    refine PySem.SeqAt.RcNeAt.lists hl hb (by simp [strValues, hsz]) hu fun j h1 h2 => ?_
    have h1' : j < xs.length := by simpa [strValues] using h1
    have h2' : j < ys.length := by simpa [strValues] using h2
    have q := PySem.SeqAt.EqAt.str_str (A := A.in1) (s := s) xs[j].1 xs[j].2 ys[j].1 ys[j].2
    have e1 : (strValues xs).toArray[j] = .str xs[j].1 xs[j].2 := by simp [strValues]
    have e2 : (strValues ys).toArray[j] = .str ys[j].1 ys[j].2 := by simp [strValues]
    have e3 : ((texts xs)[j]? == (texts ys)[j]?) = (xs[j].1 == ys[j].1) := by
      rw [List.getElem?_eq_getElem (by simpa using h1'), List.getElem?_eq_getElem (by simpa using h2')]
      simp [texts]
    rw [e1, e2, e3]; exact q
  · have e : (texts xs == texts ys) = false := by
      rw [beq_eq_false_iff_ne]
      intro h
      exact hsz (by simpa using congrArg List.length h)
    rw [e]
    exact PySem.SeqAt.RcNeAt.lists_lengths hl hb (by simpa [strValues] using hsz) hu
theorem neStrs {prog : Program} {w : World} {E : Value → Shared → Prop} {h₀ : Heap} {L : Addr} {news : List (Addr × Obj)} {n k : Nat} {Q : Value → Shared → Prop} (N : News h₀ L s.heap news) (h1 : (l, W.listOf (strValues xs).toArray n) ∈ news) (h2 : (b, W.listOf (strValues ys).toArray k) ∈ news) (hu : A.units < cLine)
    (h : Q (.bool (!(texts xs == texts ys))) s) : wpAny (model prog w) A (compareOp .NotEq (.ref l) (.ref b)) Q E s := strsNe (isList_at N h1) (isList_at N h2) hu prog w E Q h
theorem neWord {prog : Program} {w : World} {E : Value → Shared → Prop} {h₀ : Heap} {L : Addr} {news : List (Addr × Obj)} {n : Nat} {o : Obj} {z : Str} {Q : Value → Shared → Prop} (N : News h₀ L s.heap news) (h1 : (l, W.listOf (strValues xs).toArray n) ∈ news) (h2 : (b, o) ∈ news) (x2 : ∃ t, o = W.listOf #[.str z t] 0) (hu : A.units < cLine)
    (h : Q (.bool (!(texts xs == [z]))) s) : wpAny (model prog w) A (compareOp .NotEq (.ref l) (.ref b)) Q E s := by
  obtain ⟨t, rfl⟩ := x2
  exact strsNe (ys := [(z, t)]) (isList_at N h1) (isList_at (vs := [.str z t]) N h2) hu prog w E Q h
end

end
section -- WH
/-- raised in the frame L, wherever noted -/
inductive ExnF (w : World) (base h₀ : Heap) (l : List Env) (L : Addr) (s : Shared) (X : Int → Prop) (e : Value) (s' : Shared) : Prop
  | mk (ea : _) (D : _) (j : _) (h : _) (tk : _) (G : _) (m : _) (hq1 : e = .ref ea) (hq2 : s' = { s with heap := h, toks := tk }) (hq3 : Fr h₀ L G m) (hq4 : RaisedF w base G l ea D j h) (hq5 : G.UpToSlots h) (hq6 : X j) : ExnF w base h₀ l L s X e s'
theorem exnF {w : World} {base h₀ G h' : Heap} {l : List Env} {L ea D : Addr} {s : Shared} {X : Int → Prop} {j : Int} {tk' : Nat} {m : Str → Option Value}
    (FG : Fr h₀ L G m) (R : Raised w base G l ea D j h') (U : G.UpToSlots h') (hX : X j) : ExnF w base h₀ l L s X (.ref ea) { s with heap := h', toks := tk' } :=
  ⟨ea, D, j, h', tk', G, m, rfl, rfl, FG, R.toF, U, hX⟩
section
variable {M : Model} {A : Around} {E : Value → Shared → Prop} {s : Shared}
theorem bad_cameBack {base : Heap} {l : List Env} {e D : Addr} {fl : Value} {env : Env} (x : BadFly base l e D fl s.heap)
    (h : ∀ h' fl', BadFly base l e D fl' h' → s.heap.UpToSlots h' → E (.ref e) { s with heap := h' }) : cameBackBy M A env E (.ref e) s := by
  refine hideG ?_; intro g9; obtain ⟨hkb, hen, hl, oe, vs, T, oT, ts, he, hb, hd, h1, hnT, hTe, hT, hdT, h3⟩ := id x; k_unfold
  unfold cameBackBy
  refine wpAny_bind (wpAny_field he hd h1 ?_)
  rw [if_neg (show ¬ (Value.ref T == Value.none) = true from by simp)]
  exact bad_flightF x fun h' fl' a b => h h' fl' a b
theorem exnF_passes {w : World} {base h₀ : Heap} {env : Env} {outer : List Env} {L : Addr} {s₀ : Shared} {X : Int → Prop} (hfr : A.frames = some (env :: outer)) (hf : env.frame = some L)
    (hE : ∀ e s', ExnF w base h₀ (env :: outer) L s₀ X e s' → E e s') : ∀ e s', ExnF w base h₀ (env :: outer) L s₀ X e s' → notedBy M A env (cameBackBy M A env E) e s' := by
  rintro e s' ⟨ea, D, j, h, tk, G, m, rfl, rfl, FG, ⟨B, t, fl, hB, hBG, hD, hDG, heG, hfl⟩, U, hX⟩
  unfold notedBy
  refine bad_noteF hfr hf hfl fun h1 fl1 x1 u1 => ?_
  refine bad_cameBack x1 fun h2 fl2 x2 u2 => ?_
  exact hE _ _ ⟨ea, D, j, h2, tk, G, m, rfl, rfl, FG, ⟨B, t, fl2, hB, hBG, hD, hDG, heG, x2⟩, (U.trans u1).trans u2, hX⟩
end
section
variable {prog : Program} {w : World} {A₀ : Around} {E : Value → Shared → Prop} {s s₀ : Shared} {base h₀ : Heap} {env : Env} {outer : List Env} {L : Addr} {X : Int → Prop} {test : Expr} {body : List Stmt} {pos : Pos} {Q : Flow → Shared → Prop}
noncomputable def TurnOn (I : Nat → Shared → Prop) (n : Nat) (f : Flow) (s : Shared) : Prop := f = .next ∧ ∃ m, m < n ∧ I m s
theorem while_any (I : Nat → Shared → Prop) (K : Below A₀ base outer h₀) (hf : env.frame = some L) (hE : ∀ e s', ExnF w base h₀ (env :: outer) L s₀ X e s' → E e s')
    (turn : ∀ n s, I n s → wpAny (model prog w) (A₀.deeper env) (isTrue test env (eval test env)) (fun b s₂ => WhlIf b (wpAny (model prog w) (A₀.deeper env) (execs body env) (TurnOn I n) (ExnF w base h₀ (env :: outer) L s₀ X) s₂)
      (Q .next s₂)) (ExnF w base h₀ (env :: outer) L s₀ X) s) {n : Nat} (h : I n s) : wpAny (model prog w) (A₀.deeper env) (exec (.While test body [] pos) env) Q E s := by
  have pass := exnF_passes (M := model prog w) (E := E) (Around.frames_deeper K.stack) hf hE
  refine wpAny_While (codeAny_whileLoop I (fun n s hI => ?_) n h)
  refine wpAny_mono (turn n s hI) (fun b s₂ h₂ => ?_) pass
  cases b with
  | false =>
    unfold WhlIf at h₂
    rw [if_neg Bool.false_ne_true] at h₂
    exact wpAny_execs_nil h₂
  | true =>
    unfold WhlIf at h₂
    rw [if_pos rfl] at h₂
    refine wpAny_mono h₂ (fun f s₃ h₃ => ?_) pass
    obtain ⟨rfl, h₃⟩ := h₃
    exact h₃
end

end
section -- M1
/-- a unit's own rows -/
structure PBody where
  head : PHead
  consts : List (Str ⊕ Int)
  handlers : List (Int × Int × Int × Int × Bool)
  code : List (Int × Option Int)
  lines : List Int
inductive UTree
  | mk (b : PBody) (us : List UTree)
inductive St
  | head (i : Nat) (h : PHead)
  | body (ph : Nat) (b : PBody) (us : List UTree)
noncomputable abbrev Stack := List (PBody × List UTree)
inductive Out
  | bad
  | go (s : St) (st : Stack)
  | fin (t : UTree)
noncomputable def head0 : PHead := ⟨none, [], false, false, [], none, none, 0, 0, []⟩
noncomputable def headStep (i : Nat) (h : PHead) (ws : List Str) : Option PHead := match i, ws with
  | 0, w :: r => if w = Str.ofString "unit" then (unitW r).map fun u => { h with name := u.1, strict := u.2.1, args := u.2.2 } else none
  | 1, w :: r => if w = Str.ofString "params" then (mapW unqO r).map fun u => { h with params := u } else none
  | 2, w :: r => if w = Str.ofString "places" then (mapW placeO r).map fun u => { h with places := u } else none
  | 3, w :: r => if w = Str.ofString "own" then (ownW r).map fun u => { h with self := u.1, argp := u.2 } else none
  | 4, w :: r => if w = Str.ofString "room" then (roomW r).map fun u => { h with locals := u.1, cells := u.2 } else none
  | 5, w :: r => if w = Str.ofString "captures" then (mapW capW r).map fun u => { h with caps := u } else none
  | _, _ => none
section
variable {h : PHead} {w : Str} {r : List Str}
theorem hq0 : headStep 0 h (w :: r) = if w = Str.ofString "unit" then (unitW r).map fun u => { h with name := u.1, strict := u.2.1, args := u.2.2 } else none := rfl
theorem hq1 : headStep 1 h (w :: r) = if w = Str.ofString "params" then (mapW unqO r).map fun u => { h with params := u } else none := rfl
theorem hq2 : headStep 2 h (w :: r) = if w = Str.ofString "places" then (mapW placeO r).map fun u => { h with places := u } else none := rfl
theorem hq3 : headStep 3 h (w :: r) = if w = Str.ofString "own" then (ownW r).map fun u => { h with self := u.1, argp := u.2 } else none := rfl
theorem hq4 : headStep 4 h (w :: r) = if w = Str.ofString "room" then (roomW r).map fun u => { h with locals := u.1, cells := u.2 } else none := rfl
theorem hq5 : headStep 5 h (w :: r) = if w = Str.ofString "captures" then (mapW capW r).map fun u => { h with caps := u } else none := rfl
theorem hqG {α : Type} {W : Str} {x : Option α} {g : α → PHead} {h' : PHead} (e : (if w = W then x.map g else none) = some h') : w = W ∧ ∃ u, x = some u ∧ g u = h' := by
  by_cases z : w = W
  · rw [if_pos z] at e
    cases x with
    | none => cases e
    | some u => exact ⟨z, u, rfl, Option.some.inj e⟩
  · rw [if_neg z] at e; cases e
theorem hqI {α : Type} {W : Str} {x : Option α} {g : α → PHead} {u : α} (z : w = W) (e : x = some u) : (if w = W then x.map g else none) = some (g u) := by rw [if_pos z, e]; rfl
end
noncomputable def body0 (h : PHead) : PBody := ⟨h, [], [], [], []⟩
noncomputable def constW (ws : List Str) : Option (Str ⊕ Int) := match constO ws 0 with
  | .ok c => some c
  | .error _ => none
noncomputable def bodyStep (ph : Nat) (b : PBody) (us : List UTree) (st : Stack) (ws : List Str) : Out := match ws with
  | [] => .bad
  | w :: r =>
    if ph ≤ 0 ∧ w = Str.ofString "const" then (match constW r with
      | some c => .go (.body 0 { b with consts := b.consts ++ [c] } us) st
      | none => .bad)
    else if ph ≤ 1 ∧ w = Str.ofString "handler" then (match handlerO r with
      | some c => .go (.body 1 { b with handlers := b.handlers ++ [c] } us) st
      | none => .bad)
    else if ph ≤ 2 ∧ 0 ≤ plainO w then (match rowO (w :: r) b.code.length with
      | some (op, arg, ln) => .go (.body 2 { b with code := b.code ++ [(op, arg)], lines := b.lines ++ [ln] } us) st
      | none => .bad)
    else if ph ≤ 3 ∧ w = Str.ofString "unit" then (match headStep 0 head0 (w :: r) with
      | some h => .go (.head 1 h) ((b, us) :: st)
      | none => .bad)
    else if w :: r = [Str.ofString "end"] then (match st with
      | [] => .fin (.mk b us)
      | o :: st => .go (.body 3 o.1 (o.2 ++ [.mk b us])) st)
    else .bad
noncomputable def stepW (s : St) (st : Stack) (ws : List Str) : Out := match s with
  | .head i h => (match headStep i h ws with
    | some h' => if i = 5 then .go (.body 0 (body0 h') []) st else .go (.head (i + 1) h') st
    | none => .bad)
  | .body ph b us => bodyStep ph b us st ws
noncomputable def stepR (s : St) (st : Stack) (row : Str) : Out := stepW s st (Txt.split row (Str.ofString " "))
noncomputable def run : List Str → Int → St → Stack → Except Int (UTree × List Str × Int)
  | [], k, _, _ => .error k
  | row :: rs, k, s, st => match stepR s st row with
    | .bad => .error k
    | .go s' st' => run rs (k + 1) s' st'
    | .fin t => .ok (t, rs, k + 1)
noncomputable def unitO (rows : List Str) (k : Int) : Except Int (UTree × List Str × Int) := run (rows.drop k.toNat) k (.head 0 head0) []
section
variable {rs rows : List Str} {row : Str} {k : Int} {s s' : St} {st st' : Stack} {t : UTree}
theorem run_cons {o : Out} (h : stepR s st row = o) : run (row :: rs) k s st = (match (generalizing := false) o with
    | .bad => .error k
    | .go s' st' => run rs (k + 1) s' st'
    | .fin t => .ok (t, rs, k + 1)) := h ▸ rfl
theorem run_bad (h : stepR s st row = .bad) : run (row :: rs) k s st = .error k := run_cons h
theorem run_go (h : stepR s st row = .go s' st') : run (row :: rs) k s st = run rs (k + 1) s' st' := run_cons h
theorem run_fin (h : stepR s st row = .fin t) : run (row :: rs) k s st = .ok (t, rs, k + 1) := run_cons h
/-- more units about it -/
noncomputable def upO (o : PBody × List UTree) (st : Stack) : Except Int (UTree × List Str × Int) → Except Int (UTree × List Str × Int)
  | .error j => .error j
  | .ok (t, rs, k) => run rs k (.body 3 o.1 (o.2 ++ [t])) st
theorem bodyStep_stack {ph : Nat} {b : PBody} {us : List UTree} {ws : List Str} {o : PBody × List UTree} : bodyStep ph b us (st ++ o :: st') ws = (match bodyStep ph b us st ws with
    | .bad => .bad
    | .go s1 st1 => .go s1 (st1 ++ o :: st')
    | .fin t => .go (.body 3 o.1 (o.2 ++ [t])) st') := by
  refine' (?zf : Scr _) ?zq _ ?zs
  case zq =>
    cases ws with
    | nil => rfl
    | cons w r =>
      simp only [bodyStep]
      split
      · cases constW r <;> rfl
      · split
        · cases handlerO r <;> rfl
        · split
          · cases rowO (w :: r) b.code.length <;> rfl
          · split
            · cases headStep 0 head0 (w :: r) <;> rfl
            · split
              · cases st <;> rfl
              · rfl
  case zs => show LetQ _ ?zq _; (try delta id foldQ letS2 letS hideG foldN subRN subN ltCut letAE nameRet); exact LetQ.refl
  case zf => intro _ r _; exact r
theorem stepW_stack {ws : List Str} {o : PBody × List UTree} : stepW s (st ++ o :: st') ws = (match stepW s st ws with
    | .bad => .bad
    | .go s1 st1 => .go s1 (st1 ++ o :: st')
    | .fin t => .go (.body 3 o.1 (o.2 ++ [t])) st') := by
  refine' (?zf : Scr _) ?zq _ ?zs
  case zq =>
    cases s with
    | head i h =>
      simp only [stepW]
      cases headStep i h ws with
      | none => rfl
      | some h' => dsimp only; split <;> rfl
    | body ph b us => exact bodyStep_stack
  case zs => show LetQ _ ?zq _; (try delta id foldQ letS2 letS hideG foldN subRN subN ltCut letAE nameRet); exact LetQ.refl
  case zf => intro _ r _; exact r
theorem run_stack {o : PBody × List UTree} {rs : List Str} {k : Int} {s : St} {st : Stack} : run rs k s (st ++ o :: st') = upO o st' (run rs k s st) := by
  induction rs generalizing k s st with
  | nil => rfl
  | cons row rs ih =>
    have h := stepW_stack (s := s) (st := st) (st' := st') (ws := Txt.split row (Str.ofString " ")) (o := o)
    cases e : stepW s st (Txt.split row (Str.ofString " ")) with
    | bad => rw [e] at h; rw [run_bad (s := s) h, run_bad (s := s) e]; rfl
    | go s1 st1 => rw [e] at h; rw [run_go (s := s) h, run_go (s := s) e]; exact ih
    | fin t => rw [e] at h; rw [run_go (s := s) h, run_fin (s := s) e]; rfl
theorem run_drop {rs rs' : List Str} {k k' : Int} {s : St} {st : Stack} {t : UTree} (h : run rs k s st = .ok (t, rs', k')) : ∃ n : Nat, rs' = rs.drop n ∧ k' = k + n ∧ 0 < n := by
  induction rs generalizing k s st with
  | nil => exact nomatch h
  | cons row rs ih =>
    cases e : stepR s st row with
    | bad => rw [run_bad e] at h; cases h
    | go s1 st1 =>
      rw [run_go e] at h
      refine hideG ?_; intro g9; obtain ⟨n, h1, h2, h3⟩ := ih h; k_unfold
      exact ⟨n + 1, by simpa using h1, by rw [h2]; clear h h1 h2 ih e; omega, Nat.succ_pos _⟩
    | fin t => rw [run_fin e] at h; cases h; exact ⟨1, rfl, rfl, Nat.one_pos⟩
theorem unitO_drop (h0 : 0 ≤ k) {k' : Int} {rs' : List Str} (h : unitO rows k = .ok (t, rs', k')) : rs' = rows.drop k'.toNat ∧ k < k' := by
  refine hideG ?_; intro g9; obtain ⟨n, h1, h2, h3⟩ := run_drop h; k_unfold
  rw [List.drop_drop] at h1
  refine ⟨?_, by omega⟩
  rw [h1, h2]; congr 1; omega
end
section
variable {rows ws : List Str} {k j : Int} {s s' : St} {st st' : Stack} {t : UTree} {α : Type} {word : Str} {f : List Str → Option α}
theorem drop_next (h0 : 0 ≤ k) : rows.drop (k + 1).toNat = (rows.drop k.toNat).tail := by
  rw [List.tail_drop]; congr 1; omega
theorem run_words (h0 : 0 ≤ k) : run (rows.drop k.toNat) k s st = (match wordsO rows k with
    | .error j => .error j
    | .ok ws => (match stepW s st ws with
      | .bad => .error k
      | .go s' st' => run (rows.drop (k + 1).toNat) (k + 1) s' st'
      | .fin t => .ok (t, rows.drop (k + 1).toNat, k + 1))) := by
  unfold wordsO
  rw [drop_next h0]
  cases e : rows.drop k.toNat with
  | nil =>
    have : rows[k.toNat]? = none := List.getElem?_eq_none (List.drop_eq_nil_iff.mp e)
    rw [this]; rfl
  | cons row rs =>
    have : rows[k.toNat]? = some row := by
      have := congrArg (fun l => l[0]?) e
      simpa using this
    rw [this]; rfl
theorem run_end (h0 : 0 ≤ k) (h : wordsO rows k = .error j) : run (rows.drop k.toNat) k s st = .error j := by rw [run_words h0, h]
theorem run_no (h0 : 0 ≤ k) (h : wordsO rows k = .ok ws) (hs : stepW s st ws = .bad) : run (rows.drop k.toNat) k s st = .error k := by rw [run_words h0, h]; simp only [hs]
theorem run_on (h0 : 0 ≤ k) (h : wordsO rows k = .ok ws) (hs : stepW s st ws = .go s' st') : run (rows.drop k.toNat) k s st = run (rows.drop (k + 1).toNat) (k + 1) s' st' := by rw [run_words h0, h]; simp only [hs]
theorem run_done (h0 : 0 ≤ k) (h : wordsO rows k = .ok ws) (hs : stepW s st ws = .fin t) : run (rows.drop k.toNat) k s st = .ok (t, rows.drop (k + 1).toNat, k + 1) := by rw [run_words h0, h]; simp only [hs]
theorem head_row (h0 : 0 ≤ k) {i : Nat} {h : PHead} {up : α → PHead} (hs : ∀ w r, headStep i h (w :: r) = if w = word then (f r).map up else none) (hn : headStep i h [] = none) :
    run (rows.drop k.toNat) k (.head i h) st = (match rowE rows k word f with
      | .error j => .error j
      | .ok u => run (rows.drop (k + 1).toNat) (k + 1) (if i = 5 then .body 0 (body0 (up u)) [] else .head (i + 1) (up u)) st) := by
  rw [run_words h0]
  unfold rowE restO
  cases e : wordsO rows k with
  | error j => rfl
  | ok ws =>
    cases ws with
    | nil => simp only [stepW, hn]
    | cons w r =>
      by_cases hw : w = word
      · simp only [stepW, hs, if_pos hw]
        cases e2 : f r with
        | none => simp
        | some u =>
          simp only [Option.map_some]
          by_cases hi : i = 5
          · simp only [if_pos hi]
          · simp only [if_neg hi]
      · simp only [stepW, hs, if_neg hw]
theorem run_head (h0 : 0 ≤ k) : run (rows.drop k.toNat) k (.head 0 head0) st = (match headO rows k with
    | .error j => .error j
    | .ok h => run (rows.drop (k + 1 + 1 + 1 + 1 + 1 + 1).toNat) (k + 1 + 1 + 1 + 1 + 1 + 1) (.body 0 (body0 h) []) st) := by
  refine' (?zf : Scr _) ?zq _ ?zs
  case zq =>
    unfold headO andE
    rw [head_row (word := Str.ofString "unit") (f := unitW) (up := fun u => { head0 with name := u.1, strict := u.2.1, args := u.2.2 }) h0 (fun _ _ => rfl) rfl]
    cases rowE rows k (Str.ofString "unit") unitW with
    | error j => rfl
    | ok u1 =>
      dsimp only
      rw [if_neg (by decide), head_row (word := Str.ofString "params") (f := mapW unqO) (up := fun u => { { head0 with name := u1.1, strict := u1.2.1, args := u1.2.2 } with params := u }) (by omega) (fun _ _ => rfl) rfl]
      cases rowE rows (k + 1) (Str.ofString "params") (mapW unqO) with
      | error j => rfl
      | ok u2 =>
        dsimp only
        rw [if_neg (by decide), head_row (word := Str.ofString "places") (f := mapW placeO) (up := fun u => { { { head0 with name := u1.1, strict := u1.2.1, args := u1.2.2 } with params := u2 } with places := u }) (by omega) (fun _ _ => rfl) rfl]
        cases rowE rows (k + 1 + 1) (Str.ofString "places") (mapW placeO) with
        | error j => rfl
        | ok u3 =>
          dsimp only
          rw [if_neg (by decide), head_row (word := Str.ofString "own") (f := ownW) (up := fun u => { { { { head0 with name := u1.1, strict := u1.2.1, args := u1.2.2 } with params := u2 } with places := u3 } with self := u.1, argp := u.2 }) (by omega) (fun _ _ => rfl) rfl]
          cases rowE rows (k + 1 + 1 + 1) (Str.ofString "own") ownW with
          | error j => rfl
          | ok u4 =>
            dsimp only
            rw [if_neg (by decide), head_row (word := Str.ofString "room") (f := roomW) (up := fun u => { { { { { head0 with name := u1.1, strict := u1.2.1, args := u1.2.2 } with params := u2 } with places := u3 } with self := u4.1, argp := u4.2 } with locals := u.1, cells := u.2 }) (by omega) (fun _ _ => rfl) rfl]
            cases rowE rows (k + 1 + 1 + 1 + 1) (Str.ofString "room") roomW with
            | error j => rfl
            | ok u5 =>
              dsimp only
              rw [if_neg (by decide), head_row (word := Str.ofString "captures") (f := mapW capW) (up := fun u => { { { { { { head0 with name := u1.1, strict := u1.2.1, args := u1.2.2 } with params := u2 } with places := u3 } with self := u4.1, argp := u4.2 } with locals := u5.1, cells := u5.2 } with caps := u }) (by omega) (fun _ _ => rfl) rfl]
              cases rowE rows (k + 1 + 1 + 1 + 1 + 1) (Str.ofString "captures") (mapW capW) with
              | error j => rfl
              | ok u6 => rfl
  case zs => show LetQ _ ?zq _; (try delta id foldQ letS2 letS hideG foldN subRN subN ltCut letAE nameRet); exact LetQ.refl
  case zf => intro _ r _; exact r
end

end
section -- NE2
theorem wd_34 : True := by
  (k_with "offg5" => (skip))
  (k_with "x_omega" => ((fail_if_success (k_extra "offg6")); k_extra "W0"))
  (k_with "x_k_steps" => ((fail_if_success (k_extra "offg6")); k_extra "W1"))
  (k_with "x_k_ne" => ((fail_if_success (k_extra "offg6")); k_extra "W2"))
  (k_with "storeName" => ((fail_if_success (k_extra "offg6")); k_extra "W3"))
  (k_with "newList" => ((fail_if_success (k_extra "offg6")); k_extra "W4"))
  (k_with "newTuple" => ((fail_if_success (k_extra "offg6")); k_extra "W5"))
  (k_with "call builtin:list.append" => ((fail_if_success (k_extra "offg6")); k_extra "W6"))
  (k_with "setAttr ref" => ((fail_if_success (k_extra "offg6")); k_extra "W7"))
  (k_with "m_objs" => ((fail_if_success (k_extra "offg6")); k_extra "W8"))
  (k_with "m_foldq" => ((fail_if_success (k_extra "offg6")); k_extra "W9"))
  (k_with "x_k_upd" => ((fail_if_success (k_extra "offg6")); k_extra "W10"))
  (k_with "m_maskS" => ((fail_if_success (k_extra "offg6")); k_extra "W11"))
  (k_with "m_keep" => ((fail_if_success (k_extra "offg6")); k_extra "W12"))
  (k_with "m_subD" => ((fail_if_success (k_extra "offg6")); k_extra "W13"))
  (k_with "m_pickS" => ((fail_if_success (k_extra "offg6")); k_extra "W14"))
  (k_with "m_selS" => ((fail_if_success (k_extra "offg6")); k_extra "W15"))
  (k_with "m_updS" => ((fail_if_success (k_extra "offg6")); k_extra "W16"))
  (k_with "m_keyS" => ((fail_if_success (k_extra "offg6")); k_extra "W17"))
  (k_with "m_neD" => ((fail_if_success (k_extra "offg6")); k_extra "W18"))
  (k_with "m_sel" => ((fail_if_success (k_extra "offg6")); k_extra "W19"))
  (k_with "m_pick" => ((fail_if_success (k_extra "offg6")); k_extra "W20"))
  (k_with "m_tailD" => ((fail_if_success (k_extra "offg6")); k_extra "W21"))
  (k_with "m_tailD1" => ((fail_if_success (k_extra "offg6")); k_extra "W22"))
  (k_with "m_foot" => ((fail_if_success (k_extra "offg6")); k_extra "W23"))
  (k_with "m_pnk" => ((fail_if_success (k_extra "offg6")); k_extra "W24"))
  (k_with "m_clrD" => ((fail_if_success (k_extra "offg6")); k_extra "W25"))
  (k_with "eval Call Attribute" => ((fail_if_success (k_extra "offg6")); k_extra "W26"))
  (k_with "eval Call Attribute" => ((fail_if_success (k_extra "offg6")); k_extra "W27"))
  (k_with "eval Call Attribute" => ((fail_if_success (k_extra "offg6")); k_extra "W28"))
  (k_with "eval Subscript" => ((fail_if_success (k_extra "offg6")); k_extra "W29"))
  (k_with "LeaveS" => ((fail_if_success (k_extra "offg6")); k_extra "W30"))
  (k_with "x_k_room" => ((fail_if_success (k_extra "offg6")); k_extra "W31"))
  (k_with "x_k_units" => ((fail_if_success (k_extra "offg6")); k_extra "W32"))
  (k_with "call builtin:str.split" => ((fail_if_success (k_extra "offg6")); k_extra "W33"))
  (k_with "m_enter" => ((fail_if_success (k_extra "offg6")); k_extra "W34"))
  (k_with "getMethod type:Exception" => ((fail_if_success (k_extra "offg6")); k_extra "W35"))
  (k_with "exec Raise some none" => ((fail_if_success (k_extra "offg6")); k_extra "W36"))
  (k_with "call ref cons nil" => ((fail_if_success (k_extra "offg6")); k_extra "W37"))
  (k_with "RBPost" => ((fail_if_success (k_extra "offg6")); k_extra "W38"))
  (k_with "leaving ref" => ((fail_if_success (k_extra "offg6")); k_extra "W39"))
  (k_with "m_exn" => ((fail_if_success (k_extra "offg6")); k_extra "W40"))
  (k_with "call builtin:len cons nil" => ((fail_if_success (k_extra "offg6")); k_extra "W41"))
  (k_with "subscriptTail Name Constant ref int" => ((fail_if_success (k_extra "offg6")); k_extra "W42"))
  (k_with "subscriptTail" => ((fail_if_success (k_extra "offg6")); k_extra "W42"))
  (k_with "subscriptTail Name Slice ref ref" => ((fail_if_success (k_extra "offg6")); k_extra "W74"))
  (k_with "subscriptTail Name Slice ref ref" => ((fail_if_success (k_extra "offg6")); k_extra "W75"))
  (k_with "m_and" => ((fail_if_success (k_extra "offg6")); k_extra "W76"))
  (k_with "x_k_ne" => ((fail_if_success (k_extra "offg6")); k_extra "W77"))
  (k_with "x_k_all" => ((fail_if_success (k_extra "offg6")); k_extra "W78"))
  (k_with "x_k_mem" => ((fail_if_success (k_extra "offg6")); k_extra "W79"))
  (k_with "x_tb_rel" => ((fail_if_success (k_extra "offg6")); k_extra "W20"))
  (k_with "x_tb_start" => ((fail_if_success (k_extra "offg6")); k_extra "W19"))
  (k_with "execs cons" => ((fail_if_success (k_extra "offg6")); k_extra "W56"))
  (k_with "execs nil" => ((fail_if_success (k_extra "offg6")); k_extra "W57"))
  (k_with "m_len" => ((fail_if_success (k_extra "offg6")); k_extra "W59"))
  (k_with "call ref" => ((fail_if_success (k_extra "offg6")); k_extra "W92"))
  (k_with "call ref" => ((fail_if_success (k_extra "offg6")); k_extra "W93"))
  (k_with "call ref" => ((fail_if_success (k_extra "offg6")); k_extra "W94"))
  (k_with "call ref" => ((fail_if_success (k_extra "offg6")); k_extra "W95"))
  (k_with "call ref" => ((fail_if_success (k_extra "offg6")); k_extra "W96"))
  (k_with "call ref" => ((fail_if_success (k_extra "offg6")); k_extra "W97"))
  (k_with "compareOp In" => ((fail_if_success (k_extra "offg6")); k_extra "W85"))
  (k_with "call builtin:list.index" => ((fail_if_success (k_extra "offg6")); k_extra "W86"))
  (k_with "subscriptTail Name Name ref int" => ((fail_if_success (k_extra "offg6")); k_extra "W88"))
  (k_with "subscriptTail" => ((fail_if_success (k_extra "offg6")); k_extra "W88"))
  (k_with "subscriptTail Subscript Name Name Constant ref int" => ((fail_if_success (k_extra "offg6")); k_extra "W89"))
  (k_with "subscriptTail" => ((fail_if_success (k_extra "offg6")); k_extra "W89"))
  (k_with "call builtin:len cons nil" => ((fail_if_success (k_extra "offg6")); k_extra "W90"))
  (k_with "compareOp In int ref" => ((fail_if_success (k_extra "offg6")); k_extra "W91"))
  (k_with "leaving ref" => ((fail_if_success (k_extra "offg6")); k_extra "W98"))
  (k_with "m_enterC" => ((fail_if_success (k_extra "offg6")); k_extra "W99"))
  (k_with "eval ListComp" => ((fail_if_success (k_extra "offg6")); k_extra "W100"))
  (k_with "exec Assign cons ListComp" => ((fail_if_success (k_extra "offg6")); k_extra "W101"))
  (k_with "subscriptTail Name Constant ref int" => ((fail_if_success (k_extra "offg6")); k_extra "W102"))
  (k_with "m_turn" => ((fail_if_success (k_extra "offg6")); k_extra "W103"))
  (k_with "m_exn2" => ((fail_if_success (k_extra "offg6")); k_extra "W104"))
  (k_with "m_finA" => ((fail_if_success (k_extra "offg6")); k_extra "W105"))
  (k_with "TurnExn" => ((fail_if_success (k_extra "offg6")); k_extra "W106"))
  (k_with "TurnEnd" => ((fail_if_success (k_extra "offg6")); k_extra "W107"))
  trivial
theorem wd_35 : True := by
  (k_with "W127" => ((k_here; (with_reducible show wpAny _ _ (call (Value.ref 284) _) _ _ _); (try (k_extra "m_foldq")); k_dflt (refine' use_con2CD (by k_asm) (by k_asm) (by k_asm) (by k_asm) (by k_asm) (by exact rfl) (by exact rfl) (by tb_start) c_fail (by k_room) (by k_units) ?_ ?_); rotate_left; (intro G' e' D' j' h' tk' FG' NG' R' U' hX'; (try dsimp only)); rotate_left; (intro r' news' hP'; exact (show False from hP').elim))))
  (k_with "call ref" => ((fail_if_success (k_extra "offNE2")); k_extra "W127"))
  (k_with "W128" => ((k_here; k_dflt (refine' neWord (by k_asm) (by k_mem) (by k_mem) (by exact ⟨_, rfl⟩) (by k_units) ?_; k_whole))))
  (k_with "compareOp NotEq ref ref" => ((fail_if_success (k_extra "offNE2")); k_extra "W128"))
  trivial
theorem endEq {p : Str × Tok} {pl : List (Str × Tok)} {z : Str} (h : (texts (p :: pl) == [z]) = true) : p.1 :: texts pl = [z] := by simpa [texts] using h
theorem endNe {p : Str × Tok} {pl : List (Str × Tok)} {z : Str} (h : (texts (p :: pl) == [z]) = false) : p.1 :: texts pl ≠ [z] := by simpa [texts] using h
section
variable {w : World} {mean : ExcName → Option Value} {mg mb : Str → Option Value} {r d l : Addr} {k : Int} {a b c : Tok} {ls : List (Str × Tok)}
theorem c_need_end (h0 : 0 ≤ k) (hR : Rows ls) : Con w mean mg mb 371 [.ref r] (RD w r d l k a b c ls) 60
   (fun v news' => ∃ c', wordsO (texts ls) k = .ok [Str.ofString "end"] ∧ v = .none ∧ news' = RD w r d l (k + 1) a b c' ls)
   (fun j => wordsO (texts ls) k = .error j ∨ ∃ ws, wordsO (texts ls) k = .ok ws ∧ ws ≠ [Str.ofString "end"] ∧ j = k) := by
  refine' (?zf : Scr _) ?zq _ ?zs
  case zq =>
    intro prog dp un gd base frs g s Q E S hdp hun hret hexn; refine nameRet hret ?_; clear hret; intro P9 hret
    dsimp only [RD] at S
    k_extra "m_enter"
    k_steps
    · refine' RetS.fin hret (by assumption) (by assumption) ⟨_, (by rename wordsO _ _ = _ => hw; rw [hw]; exact congrArg _ (endEq (by with_reducible assumption))), rfl, rfl⟩ ?hs
      case hs => k_extra "m_subD"
    · exact hexn _ _ _ _ _ (by assumption) (by assumption) (.inr ⟨_, (by with_reducible assumption), endNe (by with_reducible assumption), by assumption⟩)
    · exact hexn _ _ _ _ _ (by assumption) (by assumption) (.inl (by assumption))
  case zs => show LetQ _ ?zq _; (try delta id foldQ letS2 letS hideG foldN subRN subN ltCut letAE nameRet); exact LetQ.refl
  case zf => intro _ r _; exact r
end

theorem wd_36 : True := by
  (k_with "offNE2" => (skip))
  trivial
end
section -- UJ
theorem TailD.one {foot sg all : List (Addr × Obj)} {q : Addr × Obj} (x : TailD (foot ++ [q]) sg all) : TailD foot (q :: sg) all := by
  obtain ⟨m, d⟩ := x
  rw [List.append_assoc] at m d
  exact ⟨m, d⟩
inductive HandM (sg : List (Addr × Obj)) (z : Int × Int × Int × Int × Bool) (v : Value) : Prop
  | mk (T : _) (t0 : _) (t1 : _) (t2 : _) (t3 : _) (hq1 : v = .ref T) (hq2 : (T, tupO #[.int z.1 t0, .int z.2.1 t1, .int z.2.2.1 t2, .int z.2.2.2.1 t3, .bool z.2.2.2.2] 0) ∈ sg) : HandM sg z v
inductive CodeM (sg : List (Addr × Obj)) (c : Int × Option Int) (v : Value) : Prop
  | mk (T : _) (t1 : _) (av : _) (hq1 : v = .ref T) (hq2 : ArgV c.2 av) (hq3 : (T, tupO #[.int c.1 t1, av] 0) ∈ sg) : CodeM sg c v
noncomputable def LineV (n : Int) (v : Value) : Prop := ∃ t, v = .int n t
noncomputable def UTree.body : UTree → PBody
  | .mk b _ => b
noncomputable def UTree.us : UTree → List UTree
  | .mk _ us => us
noncomputable def BodyM (sg : List (Addr × Obj)) (b : PBody) (kvs hvs cvs lvs : List Value) : Prop := Paired ConstV b.consts kvs ∧ Paired (HandM sg) b.handlers hvs ∧ Paired (CodeM sg) b.code cvs ∧ Paired LineV b.lines lvs
inductive UAtS (w : World) (sg : List (Addr × Obj)) (P : UTree → Value → Prop) (t : UTree) (v : Value) : Prop
  | mk (U dU aC aK aU aH aL : Addr) (u1 u2 u3 u4 u5 u6 u7 u8 u9 u10 u11 u12 u13 u14 u15 : Tok) (v1 v2 v8 v9 v10 v11 v12 v13 v14 v15 : Value) (kvs hvs cvs lvs uvs : List Value) (nC nK nU nH nL : Nat) (hq1 : v = .ref U) (hq2 : HeadM sg t.body.head v1 v2 v8 v9 v10 v11 v12 v13 v14 v15) (hq3 : BodyM sg t.body kvs hvs cvs lvs) (hq4 : Paired P t.us uvs) (hq5 : ∀ p ∈ unitL w u1 u2 u3 u4 u5 u6 u7 u8 u9 u10 u11 u12 u13 u14 u15 v1 v2 v8 v9 v10 v11 v12 v13 v14 v15 U dU aC aK aU aH aL (W.listOf cvs.toArray nC) (W.listOf kvs.toArray nK) (W.listOf uvs.toArray nU) (W.listOf hvs.toArray nH) (W.listOf lvs.toArray nL), p ∈ sg) : UAtS w sg P t v
noncomputable def UAt (w : World) (sg : List (Addr × Obj)) : Nat → UTree → Value → Prop
  | 0, _, _ => False
  | n + 1, t, v => UAtS w sg (UAt w sg n) t v
section
variable {sg sg' : List (Addr × Obj)} {w : World}
theorem HandM.mono {z : Int × Int × Int × Int × Bool} {v : Value} (x : HandM sg z v) (hs : ∀ p ∈ sg, p ∈ sg') : HandM sg' z v := let ⟨T, a, b, c, d, e, h⟩ := x; ⟨T, a, b, c, d, e, hs _ h⟩
theorem CodeM.mono {z : Int × Option Int} {v : Value} (x : CodeM sg z v) (hs : ∀ p ∈ sg, p ∈ sg') : CodeM sg' z v := let ⟨T, a, b, c, d, h⟩ := x; ⟨T, a, b, c, d, hs _ h⟩
theorem BodyM.mono {b : PBody} {kvs hvs cvs lvs : List Value} (x : BodyM sg b kvs hvs cvs lvs) (hs : ∀ p ∈ sg, p ∈ sg') : BodyM sg' b kvs hvs cvs lvs :=
  ⟨x.1, paired_mono (fun _ _ q => q.mono hs) x.2.1, paired_mono (fun _ _ q => q.mono hs) x.2.2.1, x.2.2.2⟩
theorem UAt.mono (hs : ∀ p ∈ sg, p ∈ sg') {n n' : Nat} {t : UTree} {v : Value} (hn : n ≤ n') (h : UAt w sg n t v) : UAt w sg' n' t v := by
  induction n generalizing n' t v with
  | zero => exact h.elim
  | succ n ih =>
    cases n' with
    | zero => exact absurd hn (Nat.not_succ_le_zero _)
    | succ n' =>
      refine hideG ?_; intro g9; obtain ⟨U, dU, aC, aK, aU, aH, aL, u1, u2, u3, u4, u5, u6, u7, u8, u9, u10, u11, u12, u13, u14, u15, v1, v2, v8, v9, v10, v11, v12, v13, v14, v15, kvs, hvs, cvs, lvs, uvs, nC, nK, nU, nH, nL, h1, h2, h3, h4, h5⟩ := h; k_unfold
      exact ⟨U, dU, aC, aK, aU, aH, aL, u1, u2, u3, u4, u5, u6, u7, u8, u9, u10, u11, u12, u13, u14, u15, v1, v2, v8, v9, v10, v11, v12, v13, v14, v15, kvs, hvs, cvs, lvs, uvs, nC, nK, nU, nH, nL, h1, h2.mono hs, h3.mono hs, paired_mono (fun _ _ q => ih (Nat.le_of_succ_le_succ hn) q) h4, fun p hp => hs p (h5 p hp)⟩
end
inductive UJ (w : World) (r d l : Addr) (ls : List (Str × Tok)) (g : Heap) (L : Addr) (m : Str → Option Value) (s₀ : Shared) (k : Int) (n : Nat) (U dU aC aK aU aH aL : Addr) (u1 u2 u3 u4 u5 u6 u7 u8 u9 u10 u11 u12 u13 u14 u15 : Tok) (v1 v2 v8 v9 v10 v11 v12 v13 v14 v15 : Value) (ph cnt : Nat) (s' : Shared) : Prop
  | mk (k' : Int) (a' b' c' : Tok) (b : PBody) (us : List UTree) (kvs hvs cvs lvs uvs : List Value) (nC nK nU nH nL : Nat) (sg : List (Addr × Obj)) (h' : Heap) (tk' : Nat) (h1 : s' = { s₀ with heap := h', toks := tk' }) (h2 : Fr g L h' m) (h3 : News g L h' ((RD w r d l k' a' b' c' ls ++ unitL w u1 u2 u3 u4 u5 u6 u7 u8 u9 u10 u11 u12 u13 u14 u15 v1 v2 v8 v9 v10 v11 v12 v13 v14 v15 U dU aC aK aU aH aL (W.listOf cvs.toArray nC) (W.listOf kvs.toArray nK) (W.listOf uvs.toArray nU) (W.listOf hvs.toArray nH) (W.listOf lvs.toArray nL)) ++ sg)) (h4 : pairNe ((RD w r d l k' a' b' c' ls ++ unitL w u1 u2 u3 u4 u5 u6 u7 u8 u9 u10 u11 u12 u13 u14 u15 v1 v2 v8 v9 v10 v11 v12 v13 v14 v15 U dU aC aK aU aH aL (W.listOf cvs.toArray nC) (W.listOf kvs.toArray nK) (W.listOf uvs.toArray nU) (W.listOf hvs.toArray nH) (W.listOf lvs.toArray nL)) ++ sg)) (h5 : HeadM sg b.head v1 v2 v8 v9 v10 v11 v12 v13 v14 v15) (h6 : BodyM sg b kvs hvs cvs lvs) (h7 : Paired (UAt w sg n) us uvs) (h8 : unitO (texts ls) k = run ((texts ls).drop k'.toNat) k' (.body ph b us) []) (h9 : k < k') (h10 : (kvs.length : Int) ≤ k') (h11 : (hvs.length : Int) ≤ k') (h12 : (cvs.length : Int) ≤ k') (h13 : (lvs.length : Int) ≤ k') (h14 : (uvs.length : Int) ≤ k') (h15 : cnt = ls.length + 1 - k'.toNat) : UJ w r d l ls g L m s₀ k n U dU aC aK aU aH aL u1 u2 u3 u4 u5 u6 u7 u8 u9 u10 u11 u12 u13 u14 u15 v1 v2 v8 v9 v10 v11 v12 v13 v14 v15 ph cnt s'
inductive UnitP (w : World) (r d l : Addr) (ls : List (Str × Tok)) (k : Int) (n : Nat) (v : Value) (news' : List (Addr × Obj)) : Prop
  | mk (t : UTree) (rs' : List Str) (k' : Int) (a' b' c' : Tok) (sg : List (Addr × Obj)) (h1 : unitO (texts ls) k = .ok (t, rs', k')) (h2 : UAt w sg n t v) (h3 : news' = RD w r d l k' a' b' c' ls ++ sg) : UnitP w r d l ls k n v news'
section
variable {rows ws r : List Str} {k k' j : Int} {s s' : St} {st st' : Stack} {t : UTree} {w0 : Str} {b : PBody} {us : List UTree}
theorem wordsO_lt {ls : List (Str × Tok)} (h0 : 0 ≤ k) (h : wordsO (texts ls) k = .ok ws) : k < ls.length := by
  unfold wordsO at h
  split at h
  · rename_i row e
    have := (List.getElem?_eq_some_iff.mp e).1
    simp at this; omega
  · cases h
theorem run_phase (h0 : 0 ≤ k) (hw : wordsO rows k = .ok ws) (e : stepW s st ws = stepW s' st ws) : run (rows.drop k.toNat) k s st = run (rows.drop k.toNat) k s' st := by
  rw [run_words h0, run_words h0, hw]; simp only [e]
theorem rest_ok (hw : wordsO rows k = .ok (w0 :: r)) {word : Str} {x : List Str} (h : restO rows k word = .ok x) : w0 = word ∧ x = r := by
  unfold restO at h; rw [hw] at h; dsimp only at h
  split at h
  · cases h; exact ⟨by assumption, rfl⟩
  · cases h
theorem constW_ok {x : Str ⊕ Int} (h : constO r k = .ok x) : constW r = some x := by
  refine' (?zf : Scr _) ?zq _ ?zs
  case zq =>
    unfold constW
    unfold constO at h ⊢
    split at h
    · split at h
      · rename_i y hy
        simp only [if_pos hy]
        unfold tagS textO at h ⊢
        cases e : unqO y <;> simp_all
      · rename_i y hy
        simp only [if_neg hy]
        unfold tagI numO at h ⊢
        by_cases e : plainO y < 0
        · simp [e] at h
        · simp only [if_neg e] at h ⊢; cases h; rfl
    · cases h
  case zs => show LetQ _ ?zq _; (try delta id foldQ letS2 letS hideG foldN subRN subN ltCut letAE nameRet); exact LetQ.refl
  case zf => intro _ r _; exact r
theorem constW_err (h : constO r k = .error j) : constW r = none ∧ j = k - 1 := by
  refine' (?zf : Scr _) ?zq _ ?zs
  case zq =>
    unfold constW
    unfold constO at h ⊢
    split at h
    · split at h
      · rename_i y hy
        simp only [if_pos hy]
        unfold tagS textO at h ⊢
        cases e : unqO y <;> simp_all
      · rename_i y hy
        simp only [if_neg hy]
        unfold tagI numO at h ⊢
        by_cases e : plainO y < 0
        · simp only [if_pos e] at h ⊢; cases h; exact ⟨by first | rfl | trivial, rfl⟩
        · simp [if_neg e] at h
    · cases h; exact ⟨rfl, rfl⟩
  case zs => show LetQ _ ?zq _; (try delta id foldQ letS2 letS hideG foldN subRN subN ltCut letAE nameRet); exact LetQ.refl
  case zf => intro _ r _; exact r
theorem ph_const (h : ¬ w0 = Str.ofString "const") : stepW (.body 0 b us) st (w0 :: r) = stepW (.body 1 b us) st (w0 :: r) := by
  simp only [stepW, bodyStep]
  rw [if_neg (fun x => h x.2), if_neg (c := _ ∧ _) (fun x => h x.2)]
  simp
theorem ph_hand (h : ¬ w0 = Str.ofString "handler") : stepW (.body 1 b us) st (w0 :: r) = stepW (.body 2 b us) st (w0 :: r) := by
  simp only [stepW, bodyStep]
  rw [if_neg (c := 1 ≤ 0 ∧ _) (fun x => absurd x.1 (by decide)), if_neg (c := 2 ≤ 0 ∧ _) (fun x => absurd x.1 (by decide)), if_neg (fun x => h x.2), if_neg (c := 2 ≤ 1 ∧ _) (fun x => h x.2)]
  simp
theorem ph_row (h : ¬ 0 ≤ plainO w0) : stepW (.body 2 b us) st (w0 :: r) = stepW (.body 3 b us) st (w0 :: r) := by
  simp only [stepW, bodyStep]
  rw [if_neg (c := 2 ≤ 0 ∧ _) (fun x => absurd x.1 (by decide)), if_neg (c := 3 ≤ 0 ∧ _) (fun x => absurd x.1 (by decide)), if_neg (c := 2 ≤ 1 ∧ _) (fun x => absurd x.1 (by decide)), if_neg (c := 3 ≤ 1 ∧ _) (fun x => absurd x.1 (by decide)), if_neg (fun x => h x.2), if_neg (c := 3 ≤ 2 ∧ _) (fun x => h x.2)]
  simp only [show (2 ≤ 3) = True from by simp, show (3 ≤ 3) = True from by simp]
theorem st_const (h : w0 = Str.ofString "const") : stepW (.body 0 b us) st (w0 :: r) = (match constW r with
    | some c => .go (.body 0 { b with consts := b.consts ++ [c] } us) st
    | none => .bad) := by
  simp only [stepW, bodyStep]; rw [if_pos ⟨Nat.le_refl _, h⟩]; try (cases constW r <;> rfl)
theorem st_hand (h : w0 = Str.ofString "handler") : stepW (.body 1 b us) st (w0 :: r) = (match handlerO r with
    | some c => .go (.body 1 { b with handlers := b.handlers ++ [c] } us) st
    | none => .bad) := by
  simp only [stepW, bodyStep]; rw [if_neg (c := 1 ≤ 0 ∧ _) (fun x => absurd x.1 (by decide)), if_pos ⟨Nat.le_refl _, h⟩]; try (cases handlerO r <;> rfl)
theorem st_row (h : 0 ≤ plainO w0) : stepW (.body 2 b us) st (w0 :: r) = (match rowO (w0 :: r) b.code.length with
    | some (op, arg, ln) => .go (.body 2 { b with code := b.code ++ [(op, arg)], lines := b.lines ++ [ln] } us) st
    | none => .bad) := by
  simp only [stepW, bodyStep]; rw [if_neg (c := 2 ≤ 0 ∧ _) (fun x => absurd x.1 (by decide)), if_neg (c := 2 ≤ 1 ∧ _) (fun x => absurd x.1 (by decide)), if_pos ⟨Nat.le_refl _, h⟩]; try (cases rowO (w0 :: r) b.code.length <;> rfl)
theorem st_unit (h : w0 = Str.ofString "unit") : stepW (.body 3 b us) st (w0 :: r) = stepW (.head 0 head0) ((b, us) :: st) (w0 :: r) := by
  simp only [stepW, bodyStep]; rw [if_neg (c := 3 ≤ 0 ∧ _) (fun x => absurd x.1 (by decide)), if_neg (c := 3 ≤ 1 ∧ _) (fun x => absurd x.1 (by decide)), if_neg (c := 3 ≤ 2 ∧ _) (fun x => absurd x.1 (by decide)), if_pos ⟨Nat.le_refl _, h⟩]
  cases headStep 0 head0 (w0 :: r) <;> rfl
theorem ph_unit (h : ¬ w0 = Str.ofString "unit") : stepW (.body 3 b us) st (w0 :: r) = stepW (.body 4 b us) st (w0 :: r) := by
  refine' (?zf : Scr _) ?zq _ ?zs
  case zq =>
    simp only [stepW, bodyStep]
    rw [if_neg (c := 3 ≤ 0 ∧ _) (fun x => absurd x.1 (by decide)), if_neg (c := 4 ≤ 0 ∧ _) (fun x => absurd x.1 (by decide)), if_neg (c := 3 ≤ 1 ∧ _) (fun x => absurd x.1 (by decide)), if_neg (c := 4 ≤ 1 ∧ _) (fun x => absurd x.1 (by decide)), if_neg (c := 3 ≤ 2 ∧ _) (fun x => absurd x.1 (by decide)), if_neg (c := 4 ≤ 2 ∧ _) (fun x => absurd x.1 (by decide)),
      if_neg (c := 3 ≤ 3 ∧ _) (fun x => h x.2), if_neg (c := 4 ≤ 3 ∧ _) (fun x => h x.2)]
  case zs => show LetQ _ ?zq _; (try delta id foldQ letS2 letS hideG foldN subRN subN ltCut letAE nameRet); exact LetQ.refl
  case zf => intro _ r _; exact r
theorem st_end : stepW (.body 4 b us) [] (w0 :: r) = if w0 :: r = [Str.ofString "end"] then .fin (.mk b us) else .bad := by
  simp only [stepW, bodyStep]; rw [if_neg (c := 4 ≤ 0 ∧ _) (fun x => absurd x.1 (by decide)), if_neg (c := 4 ≤ 1 ∧ _) (fun x => absurd x.1 (by decide)), if_neg (c := 4 ≤ 2 ∧ _) (fun x => absurd x.1 (by decide)), if_neg (c := 4 ≤ 3 ∧ _) (fun x => absurd x.1 (by decide))]
theorem run_unit (h0 : 0 ≤ k) (hw : wordsO rows k = .ok (w0 :: r)) (h : w0 = Str.ofString "unit") : run (rows.drop k.toNat) k (.body 3 b us) [] = upO (b, us) [] (unitO rows k) := by
  rw [unitO, ← run_stack, run_words h0, run_words h0, hw]
  simp only [List.nil_append, st_unit h]
end

end
section -- UJ2
noncomputable def OnUJ (I : Nat → Shared → Prop) (s : Shared) : Prop := ∃ cnt, I cnt s
section
variable {prog : Program} {w : World} {A₀ : Around} {E : Value → Shared → Prop} {s s₀ : Shared} {base h₀ : Heap} {env : Env} {outer : List Env} {L : Addr} {X : Int → Prop} {test : Expr} {body : List Stmt} {pos : Pos} {Q : Flow → Shared → Prop}
theorem while_fin (I : Nat → Shared → Prop) (Fin : Shared → Prop) (K : Below A₀ base outer h₀) (hf : env.frame = some L) (hE : ∀ e s', ExnF w base h₀ (env :: outer) L s₀ X e s' → E e s')
    (turn : ∀ n s, I n s → wpAny (model prog w) (A₀.deeper env) (isTrue test env (eval test env)) (fun b s₂ => WhlIf b (wpAny (model prog w) (A₀.deeper env) (execs body env) (TurnOn I n) (ExnF w base h₀ (env :: outer) L s₀ X) s₂)
      (Fin s₂)) (ExnF w base h₀ (env :: outer) L s₀ X) s) (fin : ∀ s, Fin s → Q .next s) {n : Nat} (h : I n s) : wpAny (model prog w) (A₀.deeper env) (exec (.While test body [] pos) env) Q E s := by
  refine while_any I K hf hE (fun n s hI => wpAny_mono (turn n s hI) (fun b s₂ h₂ => ?_) fun _ _ e => e) h
  cases b with
  | false =>
    unfold WhlIf at h₂ ⊢
    rw [if_neg Bool.false_ne_true] at h₂ ⊢
    exact fin _ h₂
  | true =>
    unfold WhlIf at h₂ ⊢
    rw [if_pos rfl] at h₂ ⊢
    exact h₂
theorem while_uj {r d l : Addr} {ls : List (Str × Tok)} {g : Heap} {m : Str → Option Value} {k : Int} {n : Nat} {U dU aC aK aU aH aL : Addr} {u1 u2 u3 u4 u5 u6 u7 u8 u9 u10 u11 u12 u13 u14 u15 : Tok} {v1 v2 v8 v9 v10 v11 v12 v13 v14 v15 : Value} {ph cnt : Nat}
    (J0 : UJ w r d l ls g L m s₀ k n U dU aC aK aU aH aL u1 u2 u3 u4 u5 u6 u7 u8 u9 u10 u11 u12 u13 u14 u15 v1 v2 v8 v9 v10 v11 v12 v13 v14 v15 ph cnt s) (K : Below A₀ base outer g) (hf : env.frame = some L)
    (hE : ∀ e s', ExnF w base g (env :: outer) L s₀ (fun j => unitO (texts ls) k = .error j) e s' → E e s')
    (turn : ∀ cnt s, UJ w r d l ls g L m s₀ k n U dU aC aK aU aH aL u1 u2 u3 u4 u5 u6 u7 u8 u9 u10 u11 u12 u13 u14 u15 v1 v2 v8 v9 v10 v11 v12 v13 v14 v15 ph cnt s → wpAny (model prog w) (A₀.deeper env) (isTrue test env (eval test env)) (fun b s₂ => WhlIf b (wpAny (model prog w) (A₀.deeper env) (execs body env)
      (TurnOn (fun cnt s => UJ w r d l ls g L m s₀ k n U dU aC aK aU aH aL u1 u2 u3 u4 u5 u6 u7 u8 u9 u10 u11 u12 u13 u14 u15 v1 v2 v8 v9 v10 v11 v12 v13 v14 v15 ph cnt s) cnt) (ExnF w base g (env :: outer) L s₀ (fun j => unitO (texts ls) k = .error j)) s₂)
      (OnUJ (fun cnt s => UJ w r d l ls g L m s₀ k n U dU aC aK aU aH aL u1 u2 u3 u4 u5 u6 u7 u8 u9 u10 u11 u12 u13 u14 u15 v1 v2 v8 v9 v10 v11 v12 v13 v14 v15 (ph + 1) cnt s) s₂)) (ExnF w base g (env :: outer) L s₀ (fun j => unitO (texts ls) k = .error j)) s)
    (fin : ∀ s, OnUJ (fun cnt s => UJ w r d l ls g L m s₀ k n U dU aC aK aU aH aL u1 u2 u3 u4 u5 u6 u7 u8 u9 u10 u11 u12 u13 u14 u15 v1 v2 v8 v9 v10 v11 v12 v13 v14 v15 (ph + 1) cnt s) s → Q .next s) : wpAny (model prog w) (A₀.deeper env) (exec (.While test body [] pos) env) Q E s :=
  while_fin (fun cnt s => UJ w r d l ls g L m s₀ k n U dU aC aK aU aH aL u1 u2 u3 u4 u5 u6 u7 u8 u9 u10 u11 u12 u13 u14 u15 v1 v2 v8 v9 v10 v11 v12 v13 v14 v15 ph cnt s) (OnUJ (fun cnt s => UJ w r d l ls g L m s₀ k n U dU aC aK aU aH aL u1 u2 u3 u4 u5 u6 u7 u8 u9 u10 u11 u12 u13 u14 u15 v1 v2 v8 v9 v10 v11 v12 v13 v14 v15 (ph + 1) cnt s)) K hf hE turn fin J0
end
noncomputable def ListO (o : Obj) (vs : List Value) : Prop := ∃ n, o = W.listOf vs.toArray n
theorem ListO.rfl {vs : List Value} {n : Nat} : ListO (W.listOf vs.toArray n) vs := ⟨n, Eq.refl _⟩
theorem ListO.push {vs : List Value} {v : Value} {n : Nat} : ListO (W.listOf (vs.toArray.push v) n) (vs ++ [v]) := ⟨n, by rw [List.push_toArray]⟩
theorem uj_mk {w : World} {s₀ : Shared} {L : Addr} {r d l : Addr} {ls : List (Str × Tok)} {g h' : Heap} {m : Str → Option Value} {k k' : Int} {n tk' : Nat} {U dU aC aK aU aH aL : Addr} {u1 u2 u3 u4 u5 u6 u7 u8 u9 u10 u11 u12 u13 u14 u15 : Tok} {v1 v2 v8 v9 v10 v11 v12 v13 v14 v15 : Value} {ph : Nat}
    {all sg : List (Addr × Obj)} {a' b' c' : Tok} {b : PBody} {us : List UTree} {kvs hvs cvs lvs uvs : List Value} {oC oK oU oH oL : Obj}
    (F : Fr g L h' m) (N : News g L h' all) (hrun : unitO (texts ls) k = run ((texts ls).drop k'.toNat) k' (.body ph b us) []) (hH : HeadM sg b.head v1 v2 v8 v9 v10 v11 v12 v13 v14 v15) (hB : BodyM sg b kvs hvs cvs lvs) (hUs : Paired (UAt w sg n) us uvs)
    (x : TailD [(r, instObj 374 d), (d, dictOf (rd w l k' a' b' c') 2), (l, W.listOf (strValues ls).toArray 0), (U, instObj 117 dU), (dU, dictOf (ud w u1 u2 u3 u4 u5 u6 u7 u8 u9 u10 u11 u12 u13 u14 u15 v1 v2 (.ref aC) (.ref aK) (.ref aU) (.ref aH) (.ref aL) v8 v9 v10 v11 v12 v13 v14 v15) 15), (aC, oC), (aK, oK), (aU, oU), (aH, oH), (aL, oL)] sg all)
    (eC : ListO oC cvs) (eK : ListO oK kvs) (eU : ListO oU uvs) (eH : ListO oH hvs) (eL : ListO oL lvs)
    (hk : k < k')
    (l1 : (kvs.length : Int) ≤ k') (l2 : (hvs.length : Int) ≤ k') (l3 : (cvs.length : Int) ≤ k') (l4 : (lvs.length : Int) ≤ k') (l5 : (uvs.length : Int) ≤ k') : UJ w r d l ls g L m s₀ k n U dU aC aK aU aH aL u1 u2 u3 u4 u5 u6 u7 u8 u9 u10 u11 u12 u13 u14 u15 v1 v2 v8 v9 v10 v11 v12 v13 v14 v15 ph (ls.length + 1 - k'.toNat) { s₀ with heap := h', toks := tk' } := by
  obtain ⟨nC, rfl⟩ := eC
  obtain ⟨nK, rfl⟩ := eK
  obtain ⟨nU, rfl⟩ := eU
  obtain ⟨nH, rfl⟩ := eH
  obtain ⟨nL, rfl⟩ := eL
  refine ⟨k', a', b', c', b, us, kvs, hvs, cvs, lvs, uvs, nC, nK, nU, nH, nL, sg, h', tk', Eq.refl _, F, newsSub N x.m, x.d, hH, hB, hUs, hrun, hk, l1, l2, l3, l4, l5, Eq.refl _⟩
theorem UJ.up {w : World} {s s₀ : Shared} {L : Addr} {r d l : Addr} {ls : List (Str × Tok)} {g : Heap} {m : Str → Option Value} {k : Int} {n tk' cnt : Nat} {U dU aC aK aU aH aL : Addr} {u1 u2 u3 u4 u5 u6 u7 u8 u9 u10 u11 u12 u13 u14 u15 : Tok} {v1 v2 v8 v9 v10 v11 v12 v13 v14 v15 : Value} {ph : Nat} (x : UJ w r d l ls g L m s₀ k n U dU aC aK aU aH aL u1 u2 u3 u4 u5 u6 u7 u8 u9 u10 u11 u12 u13 u14 u15 v1 v2 v8 v9 v10 v11 v12 v13 v14 v15 ph cnt s) : UJ w r d l ls g L m s₀ k n U dU aC aK aU aH aL u1 u2 u3 u4 u5 u6 u7 u8 u9 u10 u11 u12 u13 u14 u15 v1 v2 v8 v9 v10 v11 v12 v13 v14 v15 ph cnt { s with toks := tk' } := by
  refine hideG ?_; intro g9; obtain ⟨k', a', b', c', b, us, kvs, hvs, cvs, lvs, uvs, nC, nK, nU, nH, nL, sg, h', tk, e91, x1, x2, x3, x4, x5, x6, x7, x8, x9, x10, x11, x12, x13, x14⟩ := x; k_unfold; subst e91
  exact ⟨k', a', b', c', b, us, kvs, hvs, cvs, lvs, uvs, nC, nK, nU, nH, nL, sg, h', tk', rfl, x1, x2, x3, x4, x5, x6, x7, x8, x9, x10, x11, x12, x13, x14⟩
theorem exnF_leave {prog : Program} {w : World} {A₀ : Around} {base g : Heap} {env : Env} {outer : List Env} {L : Addr} {s : Shared} {X : Int → Prop} {E : Value → Shared → Prop} (K : Below A₀ base outer g) (hf : env.frame = some L) (hexn : ExnS w base g outer s X E) :
    ∀ e s', ExnF w base g (env :: outer) L s X e s' → wpAny (model prog w) (A₀.deeper env) (leaving env e) (fun _ s'' => E e s'') (fun e' s'' => E e' s'') s' := by
  rintro e s' ⟨ea, D, j, h, tk, G, m, rfl, rfl, FG, R, U, hX⟩
  exact leave_onF K hf FG R U fun h' R' U' => hexn _ _ _ _ _ R' U' hX
theorem rest_err {rows r : List Str} {k j : Int} {w0 word : Str} (hw : wordsO rows k = .ok (w0 :: r)) (h : w0 = word) (hx : restO rows k word = .error j) : False := by
  unfold restO at hx; rw [hw] at hx; dsimp only at hx; rw [if_pos h] at hx; cases hx
theorem run_upto {rows r : List Str} {k k' : Int} {w0 : Str} {b : PBody} {us : List UTree} (hr : unitO rows k = run (rows.drop k'.toNat) k' (.body 0 b us) []) (h0 : 0 ≤ k') (hw : wordsO rows k' = .ok (w0 :: r)) (h : (w0 == Str.ofString "const") = false) : unitO rows k = run (rows.drop k'.toNat) k' (.body (0 + 1) b us) [] :=
  hr.trans (run_phase h0 hw (ph_const (by simpa using h)))
theorem run_const {rows r x : List Str} {k k' : Int} {w0 : Str} {b : PBody} {us : List UTree} {o : Str ⊕ Int} (hr : unitO rows k = run (rows.drop k'.toNat) k' (.body 0 b us) []) (h0 : 0 ≤ k') (hw : wordsO rows k' = .ok (w0 :: r)) (h : (w0 == Str.ofString "const") = true)
    (hx : restO rows k' (Str.ofString "const") = .ok x) (hc : constO x (k' + 1) = .ok o) : unitO rows k = run (rows.drop (k' + 1).toNat) (k' + 1) (.body 0 { b with consts := b.consts ++ [o] } us) [] := by
  obtain ⟨_, rfl⟩ := rest_ok hw hx
  exact hr.trans (run_on h0 hw (by rw [st_const (by simpa using h), constW_ok hc]))
theorem run_constE {rows r x : List Str} {k k' j : Int} {w0 : Str} {b : PBody} {us : List UTree} (hr : unitO rows k = run (rows.drop k'.toNat) k' (.body 0 b us) []) (h0 : 0 ≤ k') (hw : wordsO rows k' = .ok (w0 :: r)) (h : (w0 == Str.ofString "const") = true)
    (hx : restO rows k' (Str.ofString "const") = .ok x) (hc : constO x (k' + 1) = .error j) : unitO rows k = .error j := by
  obtain ⟨_, rfl⟩ := rest_ok hw hx
  obtain ⟨h1, h2⟩ := constW_err hc
  rw [show j = k' by omega]
  exact hr.trans (run_no h0 hw (by rw [st_const (by simpa using h), h1]))
theorem run_hand {rows r x : List Str} {k k' : Int} {w0 : Str} {b : PBody} {us : List UTree} {o : Int × Int × Int × Int × Bool} (hr : unitO rows k = run (rows.drop k'.toNat) k' (.body 1 b us) []) (h0 : 0 ≤ k') (hw : wordsO rows k' = .ok (w0 :: r)) (h : (w0 == Str.ofString "handler") = true)
    (hx : restO rows k' (Str.ofString "handler") = .ok x) (hc : handlerO x = some o) : unitO rows k = run (rows.drop (k' + 1).toNat) (k' + 1) (.body 1 { b with handlers := b.handlers ++ [o] } us) [] := by
  obtain ⟨_, rfl⟩ := rest_ok hw hx
  exact hr.trans (run_on h0 hw (by rw [st_hand (by simpa using h), hc]))
theorem run_handE {rows r x : List Str} {k k' j : Int} {w0 : Str} {b : PBody} {us : List UTree} (hr : unitO rows k = run (rows.drop k'.toNat) k' (.body 1 b us) []) (h0 : 0 ≤ k') (hw : wordsO rows k' = .ok (w0 :: r)) (h : (w0 == Str.ofString "handler") = true)
    (hx : restO rows k' (Str.ofString "handler") = .ok x) (hc : handlerO x = none ∧ j = k' + 1 - 1) : unitO rows k = .error j := by
  obtain ⟨_, rfl⟩ := rest_ok hw hx
  rw [show j = k' by omega]
  exact hr.trans (run_no h0 hw (by rw [st_hand (by simpa using h), hc.1]))
theorem run_upto1 {rows r : List Str} {k k' : Int} {w0 : Str} {b : PBody} {us : List UTree} (hr : unitO rows k = run (rows.drop k'.toNat) k' (.body 1 b us) []) (h0 : 0 ≤ k') (hw : wordsO rows k' = .ok (w0 :: r)) (h : (w0 == Str.ofString "handler") = false) : unitO rows k = run (rows.drop k'.toNat) k' (.body (1 + 1) b us) [] :=
  hr.trans (run_phase h0 hw (ph_hand (by simpa using h)))
theorem run_upto2 {rows r : List Str} {k k' : Int} {w0 : Str} {b : PBody} {us : List UTree} (hr : unitO rows k = run (rows.drop k'.toNat) k' (.body 2 b us) []) (h0 : 0 ≤ k') (hw : wordsO rows k' = .ok (w0 :: r)) (h : ¬ 0 ≤ plainO w0) : unitO rows k = run (rows.drop k'.toNat) k' (.body (2 + 1) b us) [] :=
  hr.trans (run_phase h0 hw (ph_row h))
theorem run_row {rows r : List Str} {k k' : Int} {w0 : Str} {b : PBody} {us : List UTree} {op ln : Int} {arg : Option Int} {cvs : List Value} {sg : List (Addr × Obj)} (hr : unitO rows k = run (rows.drop k'.toNat) k' (.body 2 b us) []) (h0 : 0 ≤ k') (hw : wordsO rows k' = .ok (w0 :: r)) (h : 0 ≤ plainO w0)
    (hc : rowR rows k' cvs.length = .ok (op, arg, ln)) (hp : Paired (CodeM sg) b.code cvs) : unitO rows k = run (rows.drop (k' + 1).toNat) (k' + 1) (.body 2 { b with code := b.code ++ [(op, arg)], lines := b.lines ++ [ln] } us) [] := by
  refine' (?zf : Scr _) ?zq _ ?zs
  case zq =>
    unfold rowR at hc; rw [hw] at hc; dsimp only at hc
    rw [← hp.length] at hc
    split at hc
    · cases hc
      rename_i e
      exact hr.trans (run_on h0 hw (by rw [st_row h, e]))
    · cases hc
  case zs => show LetQ _ ?zq _; (try delta id foldQ letS2 letS hideG foldN subRN subN ltCut letAE nameRet); exact LetQ.refl
  case zf => intro _ r _; exact r
theorem run_rowE {rows r : List Str} {k k' j : Int} {w0 : Str} {b : PBody} {us : List UTree} {cvs : List Value} {sg : List (Addr × Obj)} (hr : unitO rows k = run (rows.drop k'.toNat) k' (.body 2 b us) []) (h0 : 0 ≤ k') (hw : wordsO rows k' = .ok (w0 :: r)) (h : 0 ≤ plainO w0)
    (hc : rowR rows k' cvs.length = .error j) (hp : Paired (CodeM sg) b.code cvs) : unitO rows k = .error j := by
  unfold rowR at hc; rw [hw] at hc; dsimp only at hc
  rw [← hp.length] at hc
  split at hc
  · cases hc
  · cases hc
    rename_i e
    exact hr.trans (run_no h0 hw (by rw [st_row h, e]))
theorem run_upto3 {rows r : List Str} {k k' : Int} {w0 : Str} {b : PBody} {us : List UTree} (hr : unitO rows k = run (rows.drop k'.toNat) k' (.body 3 b us) []) (h0 : 0 ≤ k') (hw : wordsO rows k' = .ok (w0 :: r)) (h : (w0 == Str.ofString "unit") = false) : unitO rows k = run (rows.drop k'.toNat) k' (.body (3 + 1) b us) [] :=
  hr.trans (run_phase h0 hw (ph_unit (by simpa using h)))
theorem run_sub {rows r rs' : List Str} {k k' k'' : Int} {w0 : Str} {b : PBody} {us : List UTree} {t : UTree} (hr : unitO rows k = run (rows.drop k'.toNat) k' (.body 3 b us) []) (h0 : 0 ≤ k') (hw : wordsO rows k' = .ok (w0 :: r)) (h : (w0 == Str.ofString "unit") = true)
    (hu : unitO rows k' = .ok (t, rs', k'')) : unitO rows k = run (rows.drop k''.toNat) k'' (.body 3 b (us ++ [t])) [] ∧ k' < k'' := by
  obtain ⟨rfl, h2⟩ := unitO_drop h0 hu
  exact ⟨hr.trans ((run_unit h0 hw (by simpa using h)).trans (by rw [hu]; rfl)), h2⟩
theorem run_subE {rows r : List Str} {k k' j : Int} {w0 : Str} {b : PBody} {us : List UTree} (hr : unitO rows k = run (rows.drop k'.toNat) k' (.body 3 b us) []) (h0 : 0 ≤ k') (hw : wordsO rows k' = .ok (w0 :: r)) (h : (w0 == Str.ofString "unit") = true)
    (hu : unitO rows k' = .error j) : unitO rows k = .error j := hr.trans ((run_unit h0 hw (by simpa using h)).trans (by rw [hu]; rfl))
theorem run_fine {rows : List Str} {k k' : Int} {b : PBody} {us : List UTree} (hr : unitO rows k = run (rows.drop k'.toNat) k' (.body (3 + 1) b us) []) (h0 : 0 ≤ k') (hw : wordsO rows k' = .ok [Str.ofString "end"]) : unitO rows k = .ok (.mk b us, rows.drop (k' + 1).toNat, k' + 1) :=
  hr.trans (run_done h0 hw (by rw [st_end, if_pos rfl]))
theorem wordsO_ne {rows ws : List Str} {k : Int} (h : wordsO rows k = .ok ws) : ws ≠ [] := by
  unfold wordsO at h
  split at h
  · cases h
    intro e
    have := PyProof.Rows.split_pos (by assumption) (Str.ofString " ")
    rw [e] at this; cases this
  · cases h
theorem run_fineE {rows : List Str} {k k' j : Int} {b : PBody} {us : List UTree} (hr : unitO rows k = run (rows.drop k'.toNat) k' (.body (3 + 1) b us) []) (h0 : 0 ≤ k') (hw : wordsO rows k' = .error j ∨ ∃ ws, wordsO rows k' = .ok ws ∧ ws ≠ [Str.ofString "end"] ∧ j = k') : unitO rows k = .error j := by
  rcases hw with hw | ⟨ws, hw, hn, rfl⟩
  · exact hr.trans (run_end h0 hw)
  · cases ws with
    | nil => exact absurd rfl (wordsO_ne hw)
    | cons w0 r => exact hr.trans (run_no h0 hw (by rw [st_end, if_neg hn]))

end
section -- L1
theorem seqIdx {k : Int} {n : Nat} (h0 : 0 ≤ k) (h1 : k < n) : seqIndex? k n = some k.toNat := by
  unfold seqIndex?
  simp only [if_neg (show ¬ k < 0 by omega)]
  rw [if_pos (by simp only [Bool.and_eq_true, decide_eq_true_eq]; exact ⟨h0, h1⟩)]
theorem itemTupN {prog : Program} {w : World} {A : Around} {E : Value → Shared → Prop} {s : Shared} {h₀ : Heap} {L l : Addr} {news : List (Addr × Obj)} {k : Int} {o : Obj} {v : Value} {Q : Value → Shared → Prop} {value slice : Expr} {u : Tok} (N : News h₀ L s.heap news) (hm : (l, o) ∈ news)
    (ho : ∃ vs n, o = { cls := .type "tuple", data := .seq (List.toArray vs) n } ∧ 0 ≤ k ∧ k < 1000 ∧ vs[k.toNat]? = some v) (h : Q v s)
    (hs : subscripted slice false (.ref l) (.int k u) = operate [.ref l, .int k u] (getItem (.ref l) (.int k u))) :
    wpAny (model prog w) A (subscriptTail value slice (.ref l) (.int k u)) Q E s := by
  refine hideG ?_; intro g9; obtain ⟨vs, n, e91, h0, h1, hx⟩ := ho; k_unfold; subst e91
  have hlt := (List.getElem?_eq_some_iff.mp hx).1
  exact item_tupleT (l := vs) (j := k.toNat) ⟨_, (N _ hm).1, rfl, _, rfl⟩ (by omega) (by omega) (by
    exact seqIdx h0 (by omega)) hx h hs
theorem itemTup0 {prog : Program} {w : World} {A : Around} {E : Value → Shared → Prop} {s : Shared} {h₀ : Heap} {L l : Addr} {m : Str → Option Value} {vs : List Value} {k : Int} {v : Value} {Q : Value → Shared → Prop} {value slice : Expr} {u : Tok} (F : Fr h₀ L s.heap m) (hT : h₀.IsTuple l vs.toArray)
    (ho : 0 ≤ k ∧ k < 1000 ∧ vs[k.toNat]? = some v) (h : Q v s)
    (hs : subscripted slice false (.ref l) (.int k u) = operate [.ref l, .int k u] (getItem (.ref l) (.int k u))) :
    wpAny (model prog w) A (subscriptTail value slice (.ref l) (.int k u)) Q E s := by
  obtain ⟨h0, h1, hx⟩ := ho
  have hlt := (List.getElem?_eq_some_iff.mp hx).1
  refine hideG ?_; intro g9; obtain ⟨o, e1, e2, e3⟩ := hT; k_unfold
  exact item_tupleT (l := vs) (j := k.toNat) ⟨o, F.keep _ _ e1, e2, e3⟩ (by omega) (by omega) (by
    exact seqIdx h0 (by omega)) hx h hs
theorem wd_37 : True := by
  (k_with "W129" => ((k_here; k_dflt (first | (refine' itemTupN (by k_asm) (by k_mem) (by with_unfolding_all exact ⟨_, _, rfl, by decide, by decide, rfl⟩) ?_ (by with_unfolding_all rfl)) | (refine' itemTup0 (by k_asm) (by assumption) (by with_unfolding_all exact ⟨by decide, by decide, rfl⟩) ?_ (by with_unfolding_all rfl))); (try dsimp only))))
  (k_with "subscriptTail Name Constant ref int" => ((fail_if_success (k_extra "offL1")); k_extra "W129"))
  (k_with "subscriptTail Subscript Name Name Constant ref int" => ((fail_if_success (k_extra "offL1")); k_extra "W129"))
  trivial
noncomputable def opNm (op : Int) : Str := match opRows[op.toNat]? with
  | some r => r.1
  | none => Str.ofString ""
noncomputable def opKd (op : Int) : Str := match opRows[op.toNat]? with
  | some r => r.2
  | none => Str.ofString ""
noncomputable def intS (n : Int) : Str := Str.ofString (toString n)
theorem opsItem2 {prog : Program} {w : World} {A : Around} {E : Value → Shared → Prop} {s : Shared} {h₀ : Heap} {L : Addr} {m : Str → Option Value} {value slice : Expr} {u : Tok} {op : Int} {P : Params} {Q : Value → Shared → Prop} (F : Fr h₀ L s.heap m) (X : (hd0.heap_1 P).In h₀) (h0 : 0 ≤ op) (hlt : op < 85)
    (h : ∀ a t1 t2 p t3 q t4, h₀.IsTuple a #[.str (opNm op) t1, .str (opKd op) t2, .int p t3, .int q t4] → Q (.ref a) s)
    (hs : subscripted slice false (.ref 100) (.int op u) = operate [.ref 100, .int op u] (getItem (.ref 100) (.int op u))) (hg : ∀ r, letTemporaryGo value (.ref 100) r = pure ()) :
    wpAny (model prog w) A (subscriptTail value slice (.ref 100) (.int op u)) Q E s := by
  refine' (?zf : Scr _) ?zq _ ?zs
  case zq =>
    have hlen : opVals.length = 85 := by simp [opVals]
    obtain ⟨x, hx⟩ : ∃ x, opVals[op.toNat]? = some x := ⟨_, List.getElem?_eq_getElem (by omega)⟩
    refine hideG ?_; intro g9; obtain ⟨nm, kd, a, t1, t2, p, t3, q, t4, hr, e, hT⟩ := opAt F X hx; k_unfold
    subst e
    exact item_list (F.lst (opsList X)) h0 (by omega) (by simpa using hx) (h a t1 t2 p t3 q t4 (by unfold opNm opKd; rw [hr]; exact hT)) hs hg
  case zs => show LetQ _ ?zq _; (try delta id foldQ letS2 letS hideG foldN subRN subN ltCut letAE nameRet); exact LetQ.refl
  case zf => intro _ r _; exact r
theorem wd_38 : True := by
  (k_with "W130" => ((k_here; (with_reducible show wpAny _ _ (subscriptTail _ _ (Value.ref 100) _) _ _ _); k_dflt (refine' opsItem2 (by k_asm) (by k_asm) (by assumption) (by assumption) ?_ (by with_unfolding_all rfl) (by (intro _; with_unfolding_all rfl))); (intro a t1 t2 p t3 q t4 hT; (try dsimp only)))))
  (k_with "subscriptTail Name Name ref int" => ((fail_if_success (k_extra "offL1")); k_extra "W130"))
  trivial
section
variable {w : World} {mean : ExcName → Option Value} {mg mb : Str → Option Value} {op : Int} {tw : Tok}
theorem c_op_name (h0 : 0 ≤ op) (h1 : op < 85) : Con w mean mg mb 128 [.int op tw] [] 10 (fun v news' => ∃ t, v = .str (opNm op) t ∧ news' = []) (fun _ => False) := by
  refine' (?zf : Scr _) ?zq _ ?zs
  case zq =>
    intro prog dp un gd base frs g s Q E S hdp hun hret hexn; refine nameRet hret ?_; clear hret; intro P9 hret
    k_extra "m_enter"
    k_steps
    exact RetS.fin hret (by assumption) (by assumption) ⟨_, rfl, rfl⟩ SubD.nil
  case zs => show LetQ _ ?zq _; (try delta id foldQ letS2 letS hideG foldN subRN subN ltCut letAE nameRet); exact LetQ.refl
  case zf => intro _ r _; exact r
theorem c_arg_kind (h0 : 0 ≤ op) (h1 : op < 85) : Con w mean mg mb 135 [.int op tw] [] 10 (fun v news' => ∃ t, v = .str (opKd op) t ∧ news' = []) (fun _ => False) := by
  refine' (?zf : Scr _) ?zq _ ?zs
  case zq =>
    intro prog dp un gd base frs g s Q E S hdp hun hret hexn; refine nameRet hret ?_; clear hret; intro P9 hret
    k_extra "m_enter"
    k_steps
    exact RetS.fin hret (by assumption) (by assumption) ⟨_, rfl, rfl⟩ SubD.nil
  case zs => show LetQ _ ?zq _; (try delta id foldQ letS2 letS hideG foldN subRN subN ltCut letAE nameRet); exact LetQ.refl
  case zf => intro _ r _; exact r
noncomputable def placeS : Option (Str × Int) → Str
  | none => Str.ofString "none"
  | some p => p.1 ++ intS p.2
end

theorem wd_39 : True := by
  (k_with "offL1" => (skip))
  trivial
end
section -- UN
noncomputable def StopW (p : Prop) : Prop := p
theorem stopW {p : Prop} (h : StopW p) : p := h
noncomputable def UnitCon (w : World) (mean : ExcName → Option Value) (mg mb : Str → Option Value) (r d l : Addr) (ls : List (Str × Tok)) (n : Nat) : Prop :=
  ∀ (k : Int) (a b c : Tok), 0 ≤ k → (ls.length : Int) - k ≤ n → Con w mean mg mb 364 [.ref r] (RD w r d l k a b c ls) (150 + n) (UnitP w r d l ls k (n + 1)) (fun j => unitO (texts ls) k = .error j)
theorem unitUse {w : World} {mean : ExcName → Option Value} {mg mb : Str → Option Value} {r d l : Addr} {ls : List (Str × Tok)} {n : Nat} {k : Int} {a b c : Tok} (IH : ∀ n' < n, UnitCon w mean mg mb r d l ls n') (h0 : 0 ≤ k) (hk : k < ls.length) (hn : (ls.length : Int) - k + 1 ≤ n) :
    Con w mean mg mb 364 [.ref r] (RD w r d l k a b c ls) (149 + n) (UnitP w r d l ls k n) (fun j => unitO (texts ls) k = .error j) := by
  cases n with
  | zero => omega
  | succ n => exact Con.mono (IH n (Nat.lt_succ_self n) k a b c h0 (by omega)) (fun _ _ h => h) (fun _ h => h) (by omega)
theorem unit_headE {rows : List Str} {k j : Int} (h0 : 0 ≤ k) (h : headO rows k = .error j) : unitO rows k = .error j := by
  unfold unitO; rw [run_head h0, h]
theorem unit_headO {rows : List Str} {k : Int} {p : PHead} (h0 : 0 ≤ k) (h : headO rows k = .ok p) : unitO rows k = run (rows.drop (k + 1 + 1 + 1 + 1 + 1 + 1).toNat) (k + 1 + 1 + 1 + 1 + 1 + 1) (.body 0 (body0 p) []) [] := by
  unfold unitO; rw [run_head h0, h]
theorem whlIf_split {b : Bool} {T F : Prop} (y : b = true → T) (n : b = false → F) : WhlIf b T F := by
  cases b with
  | true => exact WhlIf.yes rfl (y rfl)
  | false => exact WhlIf.no rfl (n rfl)
theorem itemStr0 {prog : Program} {w : World} {A : Around} {E : Value → Shared → Prop} {s : Shared} {h₀ : Heap} {L l : Addr} {news : List (Addr × Obj)} {n : Nat} {k : Int} {p : Str × Tok} {ls : List (Str × Tok)} {Q : Value → Shared → Prop} {value slice : Expr} {u : Tok} (N : News h₀ L s.heap news) (hm : (l, W.listOf (strValues (p :: ls)).toArray n) ∈ news)
    (hk : k = 0) (h : Q (.str p.1 p.2) s)
    (hs : subscripted slice false (.ref l) (.int k u) = operate [.ref l, .int k u] (getItem (.ref l) (.int k u))) :
    wpAny (model prog w) A (subscriptTail value slice (.ref l) (.int k u)) Q E s := by
  subst hk
  exact item_listR (isList_at N hm) (Int.le_refl 0) (by decide) rfl h hs
theorem appendNews {prog : Program} {w : World} {A : Around} {E : Value → Shared → Prop} {s : Shared} {h₀ : Heap} {L D : Addr} {m : Str → Option Value} {news nw : List (Addr × Obj)} {vs : List Value} {n : Nat} {x : Value} {Q : Value → Shared → Prop}
    (F : Fr h₀ L s.heap m) (N : News h₀ L s.heap news) (U : Upd D (W.listOf vs.toArray n) (W.listOf (vs ++ [x]).toArray (n + 1)) news nw) (hsz : (vs.length : Int) ≤ 1000)
    (h : ∀ h', Fr h₀ L h' m → News h₀ L h' nw → Q .none { s with heap := h' }) : wpAny (model prog w) A (call (.builtin "list.append") [.ref D, x]) Q E s :=
  append_K F N (by rw [List.push_toArray]; exact U) h (by rw [List.size_toArray, sizeLine_eq]; omega)
theorem unit_ret {w : World} {g h' : Heap} {s : Shared} {Q : Value → Shared → Prop} {r d l : Addr} {ls : List (Str × Tok)} {k k' : Int} {n : Nat} {U dU aC aK aU aH aL : Addr} {a' b' c' u1 u2 u3 u4 u5 u6 u7 u8 u9 u10 u11 u12 u13 u14 u15 : Tok} {tk' : Nat} {v1 v2 v8 v9 v10 v11 v12 v13 v14 v15 : Value} {all sg : List (Addr × Obj)}
    {b : PBody} {us : List UTree} {kvs hvs cvs lvs uvs : List Value} {nC nK nU nH nL : Nat} {rs' : List Str}
    (R : RetS g s (UnitP w r d l ls k (n + 1)) Q) (st' : g.StaysIn h') (N : NewsG g h' all) (hH : HeadM sg b.head v1 v2 v8 v9 v10 v11 v12 v13 v14 v15) (hB : BodyM sg b kvs hvs cvs lvs) (hUs : Paired (UAt w sg n) us uvs) (hrun : unitO (texts ls) k = .ok (.mk b us, rs', k'))
    (x : TailD [(r, instObj 374 d), (d, dictOf (rd w l k' a' b' c') 2), (l, W.listOf (strValues ls).toArray 0), (U, instObj 117 dU), (dU, dictOf (ud w u1 u2 u3 u4 u5 u6 u7 u8 u9 u10 u11 u12 u13 u14 u15 v1 v2 (.ref aC) (.ref aK) (.ref aU) (.ref aH) (.ref aL) v8 v9 v10 v11 v12 v13 v14 v15) 15), (aC, W.listOf cvs.toArray nC), (aK, W.listOf kvs.toArray nK), (aU, W.listOf uvs.toArray nU), (aH, W.listOf hvs.toArray nH), (aL, W.listOf lvs.toArray nL)] sg all) : Q (.ref U) { s with heap := h', toks := tk' } :=
  R _ _ _ _ st' (fun p hp => N p (x.m p hp)) x.d ⟨.mk b us, rs', k', a', b', c', unitL w u1 u2 u3 u4 u5 u6 u7 u8 u9 u10 u11 u12 u13 u14 u15 v1 v2 v8 v9 v10 v11 v12 v13 v14 v15 U dU aC aK aU aH aL (W.listOf cvs.toArray nC) (W.listOf kvs.toArray nK) (W.listOf uvs.toArray nU) (W.listOf hvs.toArray nH) (W.listOf lvs.toArray nL) ++ sg, hrun, ⟨U, dU, aC, aK, aU, aH, aL, u1, u2, u3, u4, u5, u6, u7, u8, u9, u10, u11, u12, u13, u14, u15, v1, v2, v8, v9, v10, v11, v12, v13, v14, v15, kvs, hvs, cvs, lvs, uvs, nC, nK, nU, nH, nL, rfl,
    hH.mono fun _ h => List.mem_append_right _ h, hB.mono fun _ h => List.mem_append_right _ h, paired_mono (fun _ _ q => q.mono (fun _ h => List.mem_append_right _ h) (Nat.le_refl _)) hUs, fun p hp => List.mem_append_left _ hp⟩, rfl⟩
theorem wd_40 : True := by
  (k_with "call ref" => ((fail_if_success (k_extra "offUN")); k_extra "W108"))
  (k_with "call ref" => ((fail_if_success (k_extra "offUN")); k_extra "W109"))
  (k_with "call ref" => ((fail_if_success (k_extra "offUN")); k_extra "W110"))
  (k_with "call ref" => ((fail_if_success (k_extra "offUN")); k_extra "W111"))
  (k_with "call ref" => ((fail_if_success (k_extra "offUN")); k_extra "W112"))
  (k_with "call ref" => ((fail_if_success (k_extra "offUN")); k_extra "W113"))
  (k_with "x_kwd_rel" => ((fail_if_success (k_extra "offUN")); k_extra "W119"))
  (k_with "x_k_all" => ((fail_if_success (k_extra "offUN")); k_extra "W120"))
  (k_with "x_k_all" => ((fail_if_success (k_extra "offUN")); k_extra "W121"))
  (k_with "x_kwd_inv" => ((fail_if_success (k_extra "offUN")); k_extra "W122"))
  (k_with "m_turnG" => ((fail_if_success (k_extra "offUN")); k_extra "W123"))
  (k_with "m_finEG" => ((fail_if_success (k_extra "offUN")); k_extra "W124"))
  (k_with "m_pair" => ((fail_if_success (k_extra "offUN")); k_extra "W125"))
  (k_with "m_clear" => ((fail_if_success (k_extra "offUN")); k_extra "W126"))
  (k_with "W131" => ((k_here; (with_reducible show wpAny _ _ (call (Value.ref 291) _) _ _ _); (try (k_extra "m_foldq")); k_dflt (refine' use_con2CD (by k_asm) (by k_asm) (by k_asm) (by k_asm) (by k_asm) (by exact rfl) (by exact rfl) (by tb_start) (c_words (by omega) (by assumption)) (by k_room) (by k_units) ?_ ?_); rotate_left; (intro G' e' D' j' h' tk' FG' NG' R' U' hX'; (try dsimp only)); rotate_left; (intro r' news' hP'; (obtain ⟨D', p0', pl', ho', hv', hz', hn'⟩ := hP'); (with_reducible refine subRN hv' hn' ?_); clear hv' hn'; clear news'; clear r'; (try ((with_reducible rename pairNe _ => dN8); clear dN8)); intro h' tk' F' N' hne'; (dsimp only [RD] at N' hne'); (have hlt' := wordsO_lt (by omega) ho'); (dsimp only [List.cons_append, List.nil_append] at N'); (try ((with_reducible refine foldN N' ?_); clear N'; intro n9 N')); (try k_sweep); (try dsimp only)))))
  (k_with "call ref" => ((fail_if_success (k_extra "offUN")); k_extra "W131"))
  (k_with "call ref nil" => ((fail_if_success (k_extra "offUN")); k_extra "W131"))
  (k_with "W132" => ((k_here; (with_reducible show wpAny _ _ (call (Value.ref 331) _) _ _ _); (try (k_extra "m_foldq")); k_dflt (refine' use_con2CD (by k_asm) (by k_asm) (by k_asm) (by k_asm) (by k_asm) (by exact rfl) (by exact rfl) (by tb_start) (c_head (by omega) (by assumption)) (by k_room) (by k_units) ?_ ?_); rotate_left; (intro G' e' D' j' h' tk' FG' NG' R' U' hX'; (try dsimp only)); rotate_left; (intro r' news' hP'; (obtain ⟨ph', hhd', a', b', c', U', dU', aC', aK', aU', aH', aL', sg', u1', u2', u3', u4', u5', u6', u7', u8', u9', u10', u11', u12', u13', u14', u15', v1', v2', v8', v9', v10', v11', v12', v13', v14', v15', hv', hHM', hn'⟩ := hP'); (with_reducible refine subRN hv' hn' ?_); clear hv' hn'; clear news'; clear r'; (try ((with_reducible rename pairNe _ => dN8); clear dN8)); intro h' tk' F' N' hne'; (dsimp only [RD, unitL] at N' hne'); (try simp only [List.append_assoc, List.cons_append, List.nil_append, List.append_nil] at N'); (try simp only [newsPush0, newsPush1, newsPush2, newsPush3, newsPush4, newsPush5, newsPush6, newsPush7, newsPush8, newsPush9, newsPush10, newsPush11, newsPush12, newsPush13, newsPush14, newsPush15, newsPush16] at N'); (try simp only [List.append_nil] at N'); (try simp only [List.append_assoc, List.cons_append, List.nil_append, List.append_nil] at hne'); (try simp only [pnPush0, pnPush1, pnPush2, pnPush3, pnPush4, pnPush5, pnPush6, pnPush7, pnPush8, pnPush9, pnPush10, pnPush11, pnPush12, pnPush13, pnPush14, pnPush15, pnPush16] at hne'); (try simp only [List.append_nil] at hne'); (try ((with_reducible refine foldN N' ?_); clear N'; intro n9 N')); (try k_sweep); (try dsimp only)))))
  (k_with "call ref" => ((fail_if_success (k_extra "offUN")); k_extra "W132"))
  (k_with "call ref nil" => ((fail_if_success (k_extra "offUN")); k_extra "W132"))
  (k_with "W133" => ((k_here; (with_reducible show wpAny _ _ (call (Value.ref 345) _) _ _ _); (try (k_extra "m_foldq")); k_dflt (refine' use_con2CD (by k_asm) (by k_asm) (by k_asm) (by k_asm) (by k_asm) (by exact rfl) (by exact rfl) (by tb_start) (c_constant (by assumption)) (by k_room) (by k_units) ?_ ?_); rotate_left; (intro G' e' D' j' h' tk' FG' NG' R' U' hX'; (try dsimp only)); rotate_left; (intro r' news' hP'; (obtain ⟨o', ho', hcv', hn'⟩ := hP'); (with_reducible refine subN hn' ?_); clear hn'; clear news'; (try ((with_reducible rename pairNe _ => dN8); clear dN8)); intro h' tk' F' N' hne'; (dsimp only [RDs] at N' hne'); (dsimp only [List.cons_append, List.nil_append] at N'); (try ((with_reducible refine foldN N' ?_); clear N'; intro n9 N')); (try k_sweep); (try dsimp only)))))
  (k_with "call ref" => ((fail_if_success (k_extra "offUN")); k_extra "W133"))
  (k_with "call ref cons nil" => ((fail_if_success (k_extra "offUN")); k_extra "W133"))
  (k_with "W134" => ((k_here; (with_reducible show wpAny _ _ (call (Value.ref 350) _) _ _ _); (try (k_extra "m_foldq")); k_dflt (refine' use_con2CD (by k_asm) (by k_asm) (by k_asm) (by k_asm) (by k_asm) (by exact rfl) (by exact rfl) (by tb_start) (c_handler (by assumption)) (by k_room) (by k_units) ?_ ?_); rotate_left; (intro G' e' D' j' h' tk' FG' NG' R' U' hX'; (try dsimp only)); rotate_left; (intro r' news' hP'; (obtain ⟨T', z', t0', t1', t2', t3', ho', hv', hn'⟩ := hP'); (with_reducible refine subRN hv' hn' ?_); clear hv' hn'; clear news'; clear r'; (try ((with_reducible rename pairNe _ => dN8); clear dN8)); intro h' tk' F' N' hne'; (dsimp only [RDs] at N' hne'); (dsimp only [List.cons_append, List.nil_append] at N'); (try ((with_reducible refine foldN N' ?_); clear N'; intro n9 N')); (try k_sweep); (try dsimp only)))))
  (k_with "call ref" => ((fail_if_success (k_extra "offUN")); k_extra "W134"))
  (k_with "call ref cons nil" => ((fail_if_success (k_extra "offUN")); k_extra "W134"))
  (k_with "W135" => ((k_here; (with_reducible show wpAny _ _ (call (Value.ref 357) _) _ _ _); (try (k_extra "m_foldq")); k_dflt (refine' use_con2CD (by k_asm) (by k_asm) (by k_asm) (by k_asm) (by k_asm) (by exact rfl) (by exact rfl) (by tb_start) (c_row (by omega) (by assumption) (by omega) (by omega)) (by k_room) (by k_units) ?_ ?_); rotate_left; (intro G' e' D' j' h' tk' FG' NG' R' U' hX'; (try dsimp only); (try dsimp only)); rotate_left; (intro r' news' hP'; (obtain ⟨op', arg', ln', T', t1', t2', av', nc', nl', c', ho', hv', hav', hn'⟩ := hP'); (with_reducible refine subRN hv' hn' ?_); clear hv' hn'; clear news'; clear r'; (try ((with_reducible rename pairNe _ => dN8); clear dN8)); intro h' tk' F' N' hne'; (dsimp only [RD] at N' hne'); (simp only [List.cons_append, List.nil_append] at hne'); (dsimp only [List.cons_append, List.nil_append] at N'); (try ((with_reducible refine foldN N' ?_); clear N'; intro n9 N')); (try k_sweep); (try dsimp only)))))
  (k_with "call ref" => ((fail_if_success (k_extra "offUN")); k_extra "W135"))
  (k_with "call ref cons nil" => ((fail_if_success (k_extra "offUN")); k_extra "W135"))
  (k_with "call ref" => ((fail_if_success (k_extra "offUN")); k_extra "W95"))
  (k_with "call ref cons nil" => ((fail_if_success (k_extra "offUN")); k_extra "W95"))
  (k_with "W136" => ((k_here; (with_reducible show wpAny _ _ (call (Value.ref 371) _) _ _ _); (try (k_extra "m_foldq")); k_dflt (refine' use_con2CD (by k_asm) (by k_asm) (by k_asm) (by k_asm) (by k_asm) (by exact rfl) (by exact rfl) (by tb_start) (c_need_end (by omega) (by assumption)) (by k_room) (by k_units) ?_ ?_); rotate_left; (intro G' e' D' j' h' tk' FG' NG' R' U' hX'; (try dsimp only)); rotate_left; (intro r' news' hP'; ((k_dflt (refine ex1 hP' ?_)); clear hP'; intro c' hP'; (refine cj3 hP' ?_); clear hP'; intro ho' hv' hn'); (with_reducible refine subRN hv' hn' ?_); clear hv' hn'; clear news'; clear r'; (try ((with_reducible rename pairNe _ => dN8); clear dN8)); intro h' tk' F' N' hne'; (dsimp only [RD] at N' hne'); (dsimp only [List.cons_append, List.nil_append] at N'); (try ((with_reducible refine foldN N' ?_); clear N'; intro n9 N')); (try k_sweep); (try dsimp only)))))
  (k_with "call ref" => ((fail_if_success (k_extra "offUN")); k_extra "W136"))
  (k_with "call ref nil" => ((fail_if_success (k_extra "offUN")); k_extra "W136"))
  (k_with "W137" => ((k_here; (with_reducible show wpAny _ _ (call (Value.ref 364) _) _ _ _); (try (k_extra "m_foldq")); k_dflt (refine' use_con2CD (by k_asm) (by k_asm) (by k_asm) (by k_asm) (by k_asm) (by exact rfl) (by exact rfl) (by tb_start) (unitUse (by assumption) (by omega) (by omega) (by omega)) (by k_room) (by k_units) ?_ ?_); rotate_left; (intro G' e' D' j' h' tk' FG' NG' R' U' hX'; (try dsimp only)); rotate_left; (intro r' news' hP'; (obtain ⟨t', rs', k', a', b', c', sg', ho', hua', hn'⟩ := hP'); (with_reducible refine subN hn' ?_); clear hn'; clear news'; (try ((with_reducible rename pairNe _ => dN8); clear dN8)); intro h' tk' F' N' hne'; (dsimp only [RD] at N' hne'); (try simp only [List.append_assoc, List.cons_append, List.nil_append, List.append_nil] at N'); (try simp only [newsPush0, newsPush1, newsPush2, newsPush3, newsPush4, newsPush5, newsPush6, newsPush7, newsPush8, newsPush9, newsPush10, newsPush11, newsPush12, newsPush13, newsPush14, newsPush15, newsPush16] at N'); (try simp only [List.append_nil] at N'); (try simp only [List.append_assoc, List.cons_append, List.nil_append, List.append_nil] at hne'); (try simp only [pnPush0, pnPush1, pnPush2, pnPush3, pnPush4, pnPush5, pnPush6, pnPush7, pnPush8, pnPush9, pnPush10, pnPush11, pnPush12, pnPush13, pnPush14, pnPush15, pnPush16] at hne'); (try simp only [List.append_nil] at hne'); (try ((with_reducible refine foldN N' ?_); clear N'; intro n9 N')); (try k_sweep); (try dsimp only)))))
  (k_with "call ref" => ((fail_if_success (k_extra "offUN")); k_extra "W137"))
  (k_with "call ref nil" => ((fail_if_success (k_extra "offUN")); k_extra "W137"))
  (k_with "W138" => ((k_here; (refine stopW ?_))))
  (k_with "exec While Compare cons nil" => ((fail_if_success (k_extra "offUN")); k_extra "W138"))
  (k_with "W139" => ((intro n9 s9 J9; (obtain ⟨k', a', b', c', bd', us', kvs', hvs', cvs', lvs', uvs', nC', nK', nU', nH', nL', sg', h', tk', hs', F', N', dN8, hHM', hB', hUs', hrun', hk', l1', l2', l3', l4', l5', hc'⟩ := J9); (subst hs'); (dsimp only [RD, unitL] at N'); (dsimp only [List.cons_append, List.nil_append] at N'); (have hk0' : 0 ≤ k' := by omega); (try dsimp only))))
  (k_with "m_uj" => ((fail_if_success (k_extra "offUN")); k_extra "W139"))
  (k_with "W140" => ((intro s9 n9 J9; (obtain ⟨k', a', b', c', bd', us', kvs', hvs', cvs', lvs', uvs', nC', nK', nU', nH', nL', sg', h', tk', hs', F', N', dN8, hHM', hB', hUs', hrun', hk', l1', l2', l3', l4', l5', hc'⟩ := J9); (subst hs'); (dsimp only [RD, unitL] at N'); (dsimp only [List.cons_append, List.nil_append] at N'); (have hk0' : 0 ≤ k' := by omega); (try dsimp only))))
  (k_with "m_ujX" => ((fail_if_success (k_extra "offUN")); k_extra "W140"))
  (k_with "W141" => (((case' hU => k_mem); (case' hu => k_mem); (case' hr => k_mem); (case' hd => k_mem); (case' hl => k_mem); (case' hC => k_mem); (case' hK => k_mem); (case' hUn => k_mem); (case' hHn => k_mem); (case' hL => k_mem))))
  (k_with "m_ujm" => ((fail_if_success (k_extra "offUN")); k_extra "W141"))
  (k_with "W142" => ((k_here; (refine whlIf_split (fun hw9 => ?_) (fun hw9 => ?_)))))
  (k_with "WhlIf" => ((fail_if_success (k_extra "offUN")); k_extra "W142"))
  (k_with "W143" => ((k_here; k_dflt (refine' itemStr0 (by k_asm) (by k_mem) (by with_unfolding_all rfl) ?_ (by with_unfolding_all rfl); k_whole); (try dsimp only))))
  (k_with "subscriptTail Call Attribute nil nil Constant ref int" => ((fail_if_success (k_extra "offUN")); k_extra "W143"))
  (k_with "W144" => ((k_here; k_dflt (refine' appendNews (by k_asm) (by k_asm) (by k_upd) (by omega) ?_); intro h9 F9 N9; (try dsimp only))))
  (k_with "call builtin:list.append cons nil" => ((fail_if_success (k_extra "offUN")); k_extra "W144"))
  (k_with "W145" => (fail))
  (k_with "OnUJ" => ((fail_if_success (k_extra "offUN")); k_extra "W145"))
  (k_with "TurnOn" => ((fail_if_success (k_extra "offUN")); k_extra "W145"))
  (k_with "W146" => ((first | with_reducible assumption | exact neAll_iff.mpr (by k_all))))
  (k_with "m_nea" => ((fail_if_success (k_extra "offUN")); k_extra "W146"))
  (k_with "W147" => ((first | omega | ((try simp only [List.length_append, List.length_singleton, List.length_nil]); omega))))
  (k_with "m_len9" => ((fail_if_success (k_extra "offUN")); k_extra "W147"))
  (k_with "W148" => ((rename Fr _ _ _ _ => FG'; rename Raised _ _ _ _ _ _ _ _ => R'; rename Heap.UpToSlots _ _ => U'; refine' exnF FG' R' U' ?_)))
  (k_with "m_ujE" => ((fail_if_success (k_extra "offUN")); k_extra "W148"))
  (k_with "W149" => (first | with_reducible assumption | exact rowsHd (by with_reducible assumption)))
  (k_with "m_len" => ((fail_if_success (k_extra "offUN")); k_extra "W149"))
  trivial
section
variable {w : World} {mean : ExcName → Option Value} {mg mb : Str → Option Value} {r d l : Addr} {ls : List (Str × Tok)}
theorem c_unit (hR : Rows ls) (n : Nat) (IH : ∀ n' < n, UnitCon w mean mg mb r d l ls n') : UnitCon w mean mg mb r d l ls n := by
  refine' (?zf : Scr _) ?zq _ ?zs
  case zq =>
    intro k a b c h0 hn
    intro prog dp un gd base frs g s Q E S hdp hun hret hexn; refine nameRet hret ?_; clear hret; intro P9 hret
    dsimp only [RD] at S
    have hRl := hR.1
    k_extra "m_enter"
    k_steps
    · unfold StopW
      (rename headO _ _ = Except.ok _ => hhd)
      (rename HeadM _ _ _ _ _ _ _ _ _ _ _ _ => hHM)
      (rename News _ _ _ _ => N1)
      (rename Fr _ _ _ _ => F1)
      have hrn := unit_headO h0 hhd
      refine while_uj (ph := 0) (n := n) (uj_mk  F1 N1 hrn hHM ⟨.nil, .nil, .nil, .nil⟩ .nil (by k_extra "m_tailD") (by exact ListO.rfl) (by exact ListO.rfl) (by exact ListO.rfl) (by exact ListO.rfl) (by exact ListO.rfl) (by omega) (by k_extra "m_len9") (by k_extra "m_len9") (by k_extra "m_len9") (by k_extra "m_len9") (by k_extra "m_len9")) (by k_asm) rfl (exnF_leave (by assumption) rfl hexn) ?turn0 ?fin0
      case turn0 =>
        clear hexn hret
        (try clear hhd hrn hHM N1 F1)
        k_extra "m_uj"
        k_steps
        · (rename BodyM _ _ _ _ _ _ => hB)
          (rename HeadM _ _ _ _ _ _ _ _ _ _ _ _ => hHM)
          (rename Paired (UAt _ _ _) _ _ => hUs)
          (rename News _ _ _ _ => N1)
          (rename Fr _ _ _ _ => F1)
          (rename ConstV _ _ => hcv)
          have hrn := run_const (by with_reducible assumption) (by with_reducible assumption) (by with_reducible assumption) (by with_reducible assumption) (by with_reducible assumption) (by with_reducible assumption)
          refine ⟨rfl, _, ?lt0, uj_mk  F1 N1 hrn hHM ⟨hB.1.snoc hcv, hB.2.1, hB.2.2.1, hB.2.2.2⟩ hUs (by k_extra "m_tailD") (by exact ListO.rfl) (by exact ListO.rfl) (by exact ListO.rfl) (by exact ListO.rfl) (by exact ListO.rfl) (by omega) (by k_extra "m_len9") (by k_extra "m_len9") (by k_extra "m_len9") (by k_extra "m_len9") (by k_extra "m_len9")⟩
          case lt0 => omega
        · k_extra "m_ujE"
          exact run_constE (by with_reducible assumption) (by with_reducible assumption) (by with_reducible assumption) (by with_reducible assumption) (by with_reducible assumption) (by with_reducible assumption)
        · exact (rest_err (by with_reducible assumption) (eq_of_beq (by with_reducible assumption)) (by with_reducible assumption)).elim
        · (rename BodyM _ _ _ _ _ _ => hB)
          (rename HeadM _ _ _ _ _ _ _ _ _ _ _ _ => hHM)
          (rename Paired (UAt _ _ _) _ _ => hUs)
          (rename News _ _ _ _ => N1)
          (rename Fr _ _ _ _ => F1)
          have hrn := run_upto (by with_reducible assumption) (by with_reducible assumption) (by with_reducible assumption) (by with_reducible assumption)
          exact ⟨_, uj_mk  F1 N1 hrn hHM hB hUs (by k_extra "m_tailD") (by exact ListO.rfl) (by exact ListO.rfl) (by exact ListO.rfl) (by exact ListO.rfl) (by exact ListO.rfl) (by omega) (by k_extra "m_len9") (by k_extra "m_len9") (by k_extra "m_len9") (by k_extra "m_len9") (by k_extra "m_len9")⟩
        · k_extra "m_ujE"
          exact Eq.trans (by with_reducible assumption) (run_end (by with_reducible assumption) (by with_reducible assumption))
      (try clear hhd hrn hHM N1 F1)
      intro s9 J9
      obtain ⟨c9, J9⟩ := J9
      try dsimp only
      k_steps
      unfold StopW
      refine while_uj (ph := 1) (n := n) (UJ.up J9) (by k_asm) rfl (exnF_leave (by assumption) rfl hexn) ?turn1 ?fin1
      case turn1 =>
        clear hexn hret
        (try clear hhd hrn hHM N1 F1)
        k_extra "m_uj"
        k_steps
        · (rename BodyM _ _ _ _ _ _ => hB)
          (rename HeadM _ _ _ _ _ _ _ _ _ _ _ _ => hHM)
          (rename Paired (UAt _ _ _) _ _ => hUs)
          (rename News _ _ _ _ => N1)
          (rename Fr _ _ _ _ => F1)
          (rename handlerO _ = some _ => hho)
          have hrn := run_hand (by with_reducible assumption) (by with_reducible assumption) (by with_reducible assumption) (by with_reducible assumption) (by with_reducible assumption) hho
          refine ⟨rfl, _, ?lt0, uj_mk  F1 N1 hrn (hHM.mono (fun _ hp => List.mem_cons_of_mem _ hp)) ⟨hB.1, (paired_mono (fun _ _ q => q.mono (fun _ hp => List.mem_cons_of_mem _ hp)) hB.2.1).snoc ⟨_, _, _, _, _, rfl, .head _⟩, paired_mono (fun _ _ q => q.mono (fun _ hp => List.mem_cons_of_mem _ hp)) hB.2.2.1, hB.2.2.2⟩ (paired_mono (fun _ _ q => q.mono (fun _ hp => List.mem_cons_of_mem _ hp) (Nat.le_refl _)) hUs) (by k_extra "m_tailD1") (by exact ListO.rfl) (by exact ListO.rfl) (by exact ListO.rfl) (by exact ListO.rfl) (by exact ListO.rfl) (by omega) (by k_extra "m_len9") (by k_extra "m_len9") (by k_extra "m_len9") (by k_extra "m_len9") (by k_extra "m_len9")⟩
          case lt0 => omega
        · k_extra "m_ujE"
          exact run_handE (by with_reducible assumption) (by with_reducible assumption) (by with_reducible assumption) (by with_reducible assumption) (by with_reducible assumption) (by with_reducible assumption)
        · exact (rest_err (by with_reducible assumption) (eq_of_beq (by with_reducible assumption)) (by with_reducible assumption)).elim
        · (rename BodyM _ _ _ _ _ _ => hB)
          (rename HeadM _ _ _ _ _ _ _ _ _ _ _ _ => hHM)
          (rename Paired (UAt _ _ _) _ _ => hUs)
          (rename News _ _ _ _ => N1)
          (rename Fr _ _ _ _ => F1)
          have hrn := run_upto1 (by with_reducible assumption) (by with_reducible assumption) (by with_reducible assumption) (by with_reducible assumption)
          exact ⟨_, uj_mk  F1 N1 hrn hHM hB hUs (by k_extra "m_tailD") (by exact ListO.rfl) (by exact ListO.rfl) (by exact ListO.rfl) (by exact ListO.rfl) (by exact ListO.rfl) (by omega) (by k_extra "m_len9") (by k_extra "m_len9") (by k_extra "m_len9") (by k_extra "m_len9") (by k_extra "m_len9")⟩
        · k_extra "m_ujE"
          exact Eq.trans (by with_reducible assumption) (run_end (by with_reducible assumption) (by with_reducible assumption))
      (try clear hhd hrn hHM N1 F1)
      intro s9 J9
      obtain ⟨c9, J9⟩ := J9
      try dsimp only
      k_steps
      unfold StopW
      refine while_uj (ph := 2) (n := n) (UJ.up J9) (by k_asm) rfl (exnF_leave (by assumption) rfl hexn) ?turn2 ?fin2
      case turn2 =>
        clear hexn hret
        (try clear hhd hrn hHM N1 F1)
        k_extra "m_uj"
        k_steps
        · (rename BodyM _ _ _ _ _ _ => hB)
          (rename HeadM _ _ _ _ _ _ _ _ _ _ _ _ => hHM)
          (rename Paired (UAt _ _ _) _ _ => hUs)
          (rename News _ _ _ _ => N1)
          (rename Fr _ _ _ _ => F1)
          (rename ArgV _ _ => hav)
          have hrn := run_row (by with_reducible assumption) (by with_reducible assumption) (by with_reducible assumption) (of_decide_eq_true (by with_reducible assumption)) (by with_reducible assumption) hB.2.2.1
          refine ⟨rfl, _, ?lt0, uj_mk  F1 N1 hrn (hHM.mono (fun _ hp => List.mem_cons_of_mem _ hp)) ⟨hB.1, paired_mono (fun _ _ q => q.mono (fun _ hp => List.mem_cons_of_mem _ hp)) hB.2.1, (paired_mono (fun _ _ q => q.mono (fun _ hp => List.mem_cons_of_mem _ hp)) hB.2.2.1).snoc ⟨_, _, _, rfl, hav, .head _⟩, hB.2.2.2.snoc ⟨_, rfl⟩⟩ (paired_mono (fun _ _ q => q.mono (fun _ hp => List.mem_cons_of_mem _ hp) (Nat.le_refl _)) hUs) (by k_extra "m_tailD1") (by exact ListO.rfl) (by exact ListO.rfl) (by exact ListO.rfl) (by exact ListO.rfl) (by exact ListO.rfl) (by omega) (by k_extra "m_len9") (by k_extra "m_len9") (by k_extra "m_len9") (by k_extra "m_len9") (by k_extra "m_len9")⟩
          case lt0 => omega
        · (rename BodyM _ _ _ _ _ _ => hB)
          k_extra "m_ujE"
          exact run_rowE (by with_reducible assumption) (by with_reducible assumption) (by with_reducible assumption) (of_decide_eq_true (by with_reducible assumption)) (by with_reducible assumption) hB.2.2.1
        · (rename BodyM _ _ _ _ _ _ => hB)
          (rename HeadM _ _ _ _ _ _ _ _ _ _ _ _ => hHM)
          (rename Paired (UAt _ _ _) _ _ => hUs)
          (rename News _ _ _ _ => N1)
          (rename Fr _ _ _ _ => F1)
          have hrn := run_upto2 (by with_reducible assumption) (by with_reducible assumption) (by with_reducible assumption) (of_decide_eq_false (by with_reducible assumption))
          exact ⟨_, uj_mk  F1 N1 hrn hHM hB hUs (by k_extra "m_tailD") (by exact ListO.rfl) (by exact ListO.rfl) (by exact ListO.rfl) (by exact ListO.rfl) (by exact ListO.rfl) (by omega) (by k_extra "m_len9") (by k_extra "m_len9") (by k_extra "m_len9") (by k_extra "m_len9") (by k_extra "m_len9")⟩
        · k_extra "m_ujE"
          exact Eq.trans (by with_reducible assumption) (run_end (by with_reducible assumption) (by with_reducible assumption))
      (try clear hhd hrn hHM N1 F1)
      intro s9 J9
      obtain ⟨c9, J9⟩ := J9
      try dsimp only
      k_steps
      unfold StopW
      refine while_uj (ph := 3) (n := n) (UJ.up J9) (by k_asm) rfl (exnF_leave (by assumption) rfl hexn) ?turn3 ?fin3
      case turn3 =>
        clear hexn hret
        (try clear hhd hrn hHM N1 F1)
        k_extra "m_uj"
        k_steps
        · (rename BodyM _ _ _ _ _ _ => hB)
          (rename HeadM _ _ _ _ _ _ _ _ _ _ _ _ => hHM)
          (rename Paired (UAt _ _ _) _ _ => hUs)
          (rename News _ _ _ _ => N1)
          (rename Fr _ _ _ _ => F1)
          (rename UAt _ _ _ _ _ => hua)
          (rename unitO _ _ = Except.ok _ => huo)
          obtain ⟨hrn, hlt⟩ := run_sub (by with_reducible assumption) (by with_reducible assumption) (by with_reducible assumption) (by with_reducible assumption) huo
          refine ⟨rfl, _, ?lt0, uj_mk  F1 N1 hrn (hHM.mono (fun _ hp => List.mem_append_right _ hp)) ⟨hB.1, paired_mono (fun _ _ q => q.mono (fun _ hp => List.mem_append_right _ hp)) hB.2.1, paired_mono (fun _ _ q => q.mono (fun _ hp => List.mem_append_right _ hp)) hB.2.2.1, hB.2.2.2⟩ ((paired_mono (fun _ _ q => q.mono (fun _ hp => List.mem_append_right _ hp) (Nat.le_refl _)) hUs).snoc (hua.mono (fun _ hp => List.mem_append_left _ hp) (Nat.le_refl _))) (by k_extra "m_tailD") (by exact ListO.rfl) (by exact ListO.rfl) (by exact ListO.rfl) (by exact ListO.rfl) (by exact ListO.rfl) (by omega) (by k_extra "m_len9") (by k_extra "m_len9") (by k_extra "m_len9") (by k_extra "m_len9") (by k_extra "m_len9")⟩
          case lt0 => omega
        · k_extra "m_ujE"
          exact run_subE (by with_reducible assumption) (by with_reducible assumption) (by with_reducible assumption) (by with_reducible assumption) (by with_reducible assumption)
        · (rename BodyM _ _ _ _ _ _ => hB)
          (rename HeadM _ _ _ _ _ _ _ _ _ _ _ _ => hHM)
          (rename Paired (UAt _ _ _) _ _ => hUs)
          (rename News _ _ _ _ => N1)
          (rename Fr _ _ _ _ => F1)
          have hrn := run_upto3 (by with_reducible assumption) (by with_reducible assumption) (by with_reducible assumption) (by with_reducible assumption)
          exact ⟨_, uj_mk  F1 N1 hrn hHM hB hUs (by k_extra "m_tailD") (by exact ListO.rfl) (by exact ListO.rfl) (by exact ListO.rfl) (by exact ListO.rfl) (by exact ListO.rfl) (by omega) (by k_extra "m_len9") (by k_extra "m_len9") (by k_extra "m_len9") (by k_extra "m_len9") (by k_extra "m_len9")⟩
        · k_extra "m_ujE"
          exact Eq.trans (by with_reducible assumption) (run_end (by with_reducible assumption) (by with_reducible assumption))
      intro s9 J9
      obtain ⟨c9, J9⟩ := J9
      revert J9
      revert c9 s9
      k_extra "m_ujX"
      k_steps
      · (rename BodyM _ _ _ _ _ _ => hB)
        (rename HeadM _ _ _ _ _ _ _ _ _ _ _ _ => hHM)
        (rename Paired (UAt _ _ _) _ _ => hUs)
        (rename NewsG _ _ _ => N1)
        (rename Heap.StaysIn _ _ => st1)
        have hrn := run_fine (by with_reducible assumption) (by with_reducible assumption) (by with_reducible assumption)
        exact unit_ret hret st1 N1 hHM hB hUs hrn (by k_extra "m_tailD")
      · exact hexn _ _ _ _ _ (by assumption) (by assumption) (run_fineE (by with_reducible assumption) (by with_reducible assumption) (by with_reducible assumption))
    · exact hexn _ _ _ _ _ (by assumption) (by assumption) (unit_headE h0 (by with_reducible assumption))
  case zs => show LetQ _ ?zq _; (try delta id foldQ letS2 letS hideG foldN subRN subN ltCut letAE nameRet); exact LetQ.refl
  case zf => intro _ r _; exact r
end

theorem wd_41 : True := by
  (k_with "offUN" => (skip))
  trivial
end
section -- RU
theorem unitAll {w : World} {mean : ExcName → Option Value} {mg mb : Str → Option Value} {r d l : Addr} {ls : List (Str × Tok)} (hR : Rows ls) (n : Nat) : UnitCon w mean mg mb r d l ls n := by
  induction n using Nat.strongRecOn with
  | ind n ih => exact c_unit hR n ih
noncomputable def readO (rows : List Str) : Except Int UTree := match unitO rows 0 with
  | .error j => .error j
  | .ok (t, _, k) => if k = rows.length then .ok t else .error k
theorem unitTop {w : World} {mean : ExcName → Option Value} {mg mb : Str → Option Value} {r d l : Addr} {ls : List (Str × Tok)} {a b c : Tok} (hR : Rows ls) (hl : ls.length ≤ 100) :
    Con w mean mg mb 364 [.ref r] (RD w r d l 0 a b c ls) 250 (fun v news' => ∃ t rs' k' a' b' c' sg, unitO (texts ls) 0 = .ok (t, rs', k') ∧ UAt w sg 101 t v ∧ news' = RD w r d l k' a' b' c' ls ++ sg ∧ Rows ls) (fun j => unitO (texts ls) 0 = .error j) :=
  Con.mono (unitAll hR 100 0 a b c (Int.le_refl 0) (by omega)) (fun v n h => by
    refine hideG ?_; intro g9; obtain ⟨t, rs', k', a', b', c', sg, h1, h2, h4⟩ := h; k_unfold
    exact ⟨t, rs', k', a', b', c', sg, h1, h2, h4, hR⟩) (fun _ h => h) (by omega)
theorem read_err1 {ls : List (Str × Tok)} {t : UTree} {rs : List Str} {k j : Int} (h : unitO (texts ls) 0 = .ok (t, rs, k)) (hb : k ≠ (ls.length : Int)) (hj : j = k) : readO (texts ls) = .error j := by
  unfold readO; rw [h]; dsimp only; rw [if_neg (by simpa [texts] using hb), hj]
theorem read_err2 {ls : List (Str × Tok)} {j : Int} (h : unitO (texts ls) 0 = .error j) : readO (texts ls) = .error j := by
  unfold readO; rw [h]
theorem read_okay {ls : List (Str × Tok)} {t : UTree} {rs : List Str} {k : Int} (h : unitO (texts ls) 0 = .ok (t, rs, k)) (hb : k = (ls.length : Int)) : readO (texts ls) = .ok t := by
  unfold readO; rw [h]; dsimp only; rw [if_pos (by simpa [texts] using hb)]
theorem rowsOf {pl : List (Str × Tok)} {xs : List Str} (e : pl.map (·.1) = xs) (h1 : xs.length ≤ 100) (h2 : ∀ p ∈ xs, p.length ≤ 900) : Rows pl := by
  subst e
  exact ⟨by simp at h1; omega, fun p hp => h2 _ (List.mem_map_of_mem hp)⟩
theorem lenOf {pl : List (Str × Tok)} {xs : List Str} (e : pl.map (·.1) = xs) (h1 : xs.length ≤ 100) : pl.length ≤ 100 := by
  subst e; simpa using h1
theorem RetS.tail0 {g : Heap} {s : Shared} {P : Value → List (Addr × Obj) → Prop} {Q : Value → Shared → Prop} (R : RetS g s P Q) {v : Value} {h' : Heap} {tk' : Nat} {all sg : List (Addr × Obj)} (st : g.StaysIn h') (N : NewsG g h' all) (x : TailD [] sg all) (hP : P v sg) :
    Q v { s with heap := h', toks := tk' } := R _ _ _ _ st (fun p hp => N p (x.m p hp)) x.d hP
theorem wd_42 : True := by
  (k_with "W150" => ((k_here; (with_reducible show wpAny _ _ (call (Value.ref 364) _) _ _ _); (try (k_extra "m_foldq")); k_dflt (refine' use_con2CD (by k_asm) (by k_asm) (by k_asm) (by k_asm) (by k_asm) (by exact rfl) (by exact rfl) (by tb_start) (unitTop (by exact rowsOf (by assumption) (by assumption) (by assumption)) (by exact lenOf (by assumption) (by assumption))) (by k_room) (by k_units) ?_ ?_); rotate_left; (intro G' e' D' j' h' tk' FG' NG' R' U' hX'; (try dsimp only)); rotate_left; (intro r' news' hP'; ((k_dflt (refine ex7 hP' ?_)); clear hP'; intro t' rs' k' a' b' c' sg' hP'; (refine cj4 hP' ?_); clear hP'; intro ho' hua' hn' hk9'); (with_reducible refine subN hn' ?_); clear hn'; clear news'; (try ((with_reducible rename pairNe _ => dN8); clear dN8)); intro h' tk' F' N' hne'; (dsimp only [RD] at N' hne'); (try simp only [List.append_assoc, List.cons_append, List.nil_append, List.append_nil] at N'); (try simp only [newsPush0, newsPush1, newsPush2, newsPush3, newsPush4, newsPush5, newsPush6, newsPush7, newsPush8, newsPush9, newsPush10, newsPush11, newsPush12, newsPush13, newsPush14, newsPush15, newsPush16] at N'); (try simp only [List.append_nil] at N'); (try simp only [List.append_assoc, List.cons_append, List.nil_append, List.append_nil] at hne'); (try simp only [pnPush0, pnPush1, pnPush2, pnPush3, pnPush4, pnPush5, pnPush6, pnPush7, pnPush8, pnPush9, pnPush10, pnPush11, pnPush12, pnPush13, pnPush14, pnPush15, pnPush16] at hne'); (try simp only [List.append_nil] at hne'); (try ((with_reducible refine foldN N' ?_); clear N'; intro n9 N')); (try k_sweep); (try dsimp only)))))
  (k_with "call ref" => ((fail_if_success (k_extra "offRU")); k_extra "W150"))
  (k_with "call ref nil" => ((fail_if_success (k_extra "offRU")); k_extra "W150"))
  (k_with "call ref" => ((fail_if_success (k_extra "offRU")); k_extra "W127"))
  (k_with "x_kwd_rel" => ((fail_if_success (k_extra "offRU")); k_extra "W119"))
  (k_with "x_k_all" => ((fail_if_success (k_extra "offRU")); k_extra "W120"))
  (k_with "x_k_all" => ((fail_if_success (k_extra "offRU")); k_extra "W121"))
  (k_with "x_kwd_inv" => ((fail_if_success (k_extra "offRU")); k_extra "W122"))
  (k_with "m_turnG" => ((fail_if_success (k_extra "offRU")); k_extra "W123"))
  (k_with "m_finEG" => ((fail_if_success (k_extra "offRU")); k_extra "W124"))
  (k_with "m_pair" => ((fail_if_success (k_extra "offRU")); k_extra "W125"))
  (k_with "m_clear" => ((fail_if_success (k_extra "offRU")); k_extra "W126"))
  trivial
section
variable {w : World} {mean : ExcName → Option Value} {mg mb : Str → Option Value} {text : Str} {tt : Tok}
theorem c_read (h1 : (Txt.split text (Str.ofString "\n")).length ≤ 100) (h2 : ∀ p ∈ Txt.split text (Str.ofString "\n"), p.length ≤ 900) (h3 : text.length ≤ 100000) : Con w mean mg mb 385 [.str text tt] [] 300
   (fun v news' => ∃ t sg, readO (Txt.split text (Str.ofString "\n")) = .ok t ∧ UAt w sg 101 t v ∧ news' = sg) (fun j => readO (Txt.split text (Str.ofString "\n")) = .error j) := by
  refine' (?zf : Scr _) ?zq _ ?zs
  case zq =>
    intro prog dp un gd base frs g s Q E S hdp hun hret hexn; refine nameRet hret ?_; clear hret; intro P9 hret
    k_extra "m_enter"
    k_steps
    all_goals (rename List.map _ _ = Txt.split _ _ => he)
    · exact hexn _ _ _ _ _ (by assumption) (by assumption) ((congrArg readO he.symm).trans (read_err1 (by with_reducible assumption) (by with_reducible assumption) (by first | rfl | assumption)))
    · refine' RetS.tail0 hret (by assumption) (by assumption) ?x ⟨_, _, (congrArg readO he.symm).trans (read_okay (by with_reducible assumption) (by with_reducible assumption)), by with_reducible assumption, rfl⟩
      case x => k_extra "m_tailD"
    · exact hexn _ _ _ _ _ (by assumption) (by assumption) ((congrArg readO he.symm).trans (read_err2 (by with_reducible assumption)))
  case zs => show LetQ _ ?zq _; (try delta id foldQ letS2 letS hideG foldN subRN subN ltCut letAE nameRet); exact LetQ.refl
  case zf => intro _ r _; exact r
end

theorem wd_43 : True := by
  (k_with "offRU" => (skip))
  trivial
end
section -- L2
/-- foot stands in the ledger, apart from what else stands there -/
structure FootIn (foot news : List (Addr × Obj)) : Prop where
  s : ∃ rest, SelD foot news rest
theorem FootIn.of {foot news rest : List (Addr × Obj)} (x : SelD foot news rest) : FootIn foot news := ⟨_, x⟩
theorem footDrop {k : Nat} {m news foot : List (Addr × Obj)} (h : news.drop k = foot) (D : pairNe m) (e : m.map Prod.fst = news.map Prod.fst) : FootIn foot news := by
  subst h
  have p : news.Perm (news.drop k ++ news.take k) := by
    have q : (news.take k ++ news.drop k).Perm (news.drop k ++ news.take k) := List.perm_append_comm
    rwa [List.take_append_drop] at q
  exact ⟨_, p, pnPerm (pnKeys D e) p⟩
/-- a function that leaves its foot as it was -/
noncomputable def SameP {α : Type} (mk : α → Value) (R : α → Prop) (sg : List (Addr × Obj)) (v : Value) (news' : List (Addr × Obj)) : Prop := ∃ a, v = mk a ∧ news' = sg ∧ R a
noncomputable abbrev StrP (x : Str) (b : Nat) (sg : List (Addr × Obj)) : Value → List (Addr × Obj) → Prop := SameP (fun t : Tok => Value.str x t) (fun _ => x.length ≤ b) sg
/-- a function that leaves its foot as it was and gives a new list of texts -/
noncomputable def LinesR (R : List Str → Prop) (sg : List (Addr × Obj)) (v : Value) (news' : List (Addr × Obj)) : Prop := ∃ pl k D, v = .ref D ∧ news' = (D, W.listOf (strValues pl).toArray k) :: sg ∧ R (texts pl)
noncomputable abbrev LinesP (xs : List Str) (sg : List (Addr × Obj)) : Value → List (Addr × Obj) → Prop := LinesR (fun ys => ys = xs) sg
section
variable {prog : Program} {w : World} {mean : ExcName → Option Value} {mg mb : Str → Option Value} {dp un : Nat} {gd : Option (List Code)} {base h₀ : Heap} {outer : List Env} {s : Shared} {foot news : List (Addr × Obj)}
  {f L : Addr} {args : List Value} {d : Nat} {A₀ : Around} {m : Str → Option Value} {env : Env} {Q E : Value → Shared → Prop} {α : Type} {mk : α → Value} {R : α → Prop} {Rl : List Str → Prop}
theorem conU (F : Fr h₀ L s.heap m) (B : Below A₀ base outer h₀) (N : News h₀ L s.heap news) (XB : (hd0.heap_1 w.params).In base) (TB : Top viewQ LO mean mg mb base) (hf : env.frame = some L) (hke : env.scope.kind = .function)
    (C : Con w mean mg mb f args foot d (SameP mk R foot) (fun _ => False)) (hS : FootIn foot news) (hd' : dp + d < recursionLimit) (hu : un + 10 * d < cLine)
    (hret : ∀ a h' tk', R a → Fr h₀ L h' m → News h₀ L h' news → Q (mk a) { s with heap := h', toks := tk' }) :
    wpAny (model prog w) (aro dp un gd (env :: outer)) (call (.ref f) args) Q E s := by
  obtain ⟨rest, hS⟩ := hS.s
  refine use_con2 C B F N XB TB hf hke hd' hu hS (fun r h' tk' n hP F N _ => ?_) fun _ _ _ _ _ _ _ _ _ _ h => h.elim
  refine hideG ?_; intro g9; obtain ⟨a, e1, e2, hR⟩ := hP; k_unfold
  subst e1; subst e2
  exact hret a h' tk' hR F fun p hp => N p (hS.p.mem_iff.mp hp)
theorem conL (F : Fr h₀ L s.heap m) (B : Below A₀ base outer h₀) (N : News h₀ L s.heap news) (XB : (hd0.heap_1 w.params).In base) (TB : Top viewQ LO mean mg mb base) (hf : env.frame = some L) (hke : env.scope.kind = .function)
    (C : Con w mean mg mb f args foot d (LinesR Rl foot) (fun _ => False)) (hS : FootIn foot news) (hd' : dp + d < recursionLimit) (hu : un + 10 * d < cLine)
    (hret : ∀ pl k D h' tk', Rl (texts pl) → Fr h₀ L h' m → News h₀ L h' ((D, W.listOf (strValues pl).toArray k) :: news) → pairNe ((D, dumO) :: news) → Q (.ref D) { s with heap := h', toks := tk' }) :
    wpAny (model prog w) (aro dp un gd (env :: outer)) (call (.ref f) args) Q E s := by
  obtain ⟨rest, hS⟩ := hS.s
  refine use_con2 C B F N XB TB hf hke hd' hu hS (fun r h' tk' n hP F N d => ?_) fun _ _ _ _ _ _ _ _ _ _ h => h.elim
  refine hideG ?_; intro g9; obtain ⟨pl, k, D, e1, e2, hx⟩ := hP; k_unfold
  subst e1; subst e2
  exact hret pl k D h' tk' hx F (fun p hp => N p (((hS.p.cons (D, W.listOf (strValues pl).toArray k)).mem_iff).mp hp)) (pnPerm (m := (D, dumO) :: (foot ++ rest)) (pnKeys d rfl) (hS.p.cons (D, dumO)).symm)
end
theorem same_ret {α : Type} {mk : α → Value} {Rr : α → Prop} {g h' : Heap} {s : Shared} {Q : Value → Shared → Prop} {all sg : List (Addr × Obj)} {a : α} {tk' : Nat} (R : RetS g s (SameP mk Rr sg) Q) (st : g.StaysIn h') (N : NewsG g h' all) (x : TailD [] sg all) (h : Rr a) :
    Q (mk a) { s with heap := h', toks := tk' } := R _ _ _ _ st (fun p hp => N p (x.m p hp)) x.d ⟨a, rfl, rfl, h⟩
theorem list_ret {g h' : Heap} {s : Shared} {Q : Value → Shared → Prop} {D : Addr} {o : Obj} {all sg : List (Addr × Obj)} {xs : List Str} {tk' : Nat} (R : RetS g s (LinesP xs sg) Q) (st : g.StaysIn h') (N : NewsG g h' all) (x : TailD [(D, o)] sg all) (ho : ∃ pl n, o = W.listOf (strValues pl).toArray n ∧ texts pl = xs) :
    Q (.ref D) { s with heap := h', toks := tk' } := by
  refine hideG ?_; intro g9; obtain ⟨pl, n, e91, e⟩ := ho; k_unfold; subst e91
  exact R _ _ _ _ st (fun p hp => N p (x.m p hp)) x.d ⟨pl, n, D, rfl, rfl, e⟩
noncomputable def constS : Str ⊕ Int → Str
  | .inl x => quotedO x
  | .inr n => intS n
noncomputable def flagS (st ar : Bool) : List Str := (if st = true then [Str.ofString "strict"] else []) ++ (if ar = true then [Str.ofString "arguments"] else [])
theorem intS_len {n : Int} (h0 : 0 ≤ n) (h1 : n < 1000000000) : (intS n).length ≤ 9 := toString_length_le h0 (by decide) (by omega)
theorem wd_44 : True := by
  (k_with "x_kwd_rel" => ((fail_if_success (k_extra "offL2")); k_extra "W119"))
  (k_with "x_k_all" => ((fail_if_success (k_extra "offL2")); k_extra "W120"))
  (k_with "x_k_all" => ((fail_if_success (k_extra "offL2")); k_extra "W121"))
  (k_with "x_kwd_inv" => ((fail_if_success (k_extra "offL2")); k_extra "W122"))
  (k_with "m_turnG" => ((fail_if_success (k_extra "offL2")); k_extra "W123"))
  (k_with "m_finEG" => ((fail_if_success (k_extra "offL2")); k_extra "W124"))
  (k_with "m_pair" => ((fail_if_success (k_extra "offL2")); k_extra "W125"))
  (k_with "m_clear" => ((fail_if_success (k_extra "offL2")); k_extra "W126"))
  (k_with "W151" => (with_reducible (first | assumption | exact memIn 1 (by assumption) | exact memIn 2 (by assumption) | exact memIn 3 (by assumption) | exact memIn 4 (by assumption) | exact memIn 5 (by assumption) | exact memIn 6 (by assumption) | exact memIn 7 (by assumption) | exact memIn 8 (by assumption) | exact memIn 9 (by assumption) | exact memIn 10 (by assumption) | exact memIn 11 (by assumption) | exact memIn 12 (by assumption) | exact memIn 13 (by assumption) | fail "mem")))
  (k_with "x_k_mem" => ((fail_if_success (k_extra "offL2")); k_extra "W151"))
  (k_with "W152" => ((k_here; (with_reducible show wpAny _ _ (call (Value.ref 128) _) _ _ _); (try (k_extra "m_foldq")); k_dflt (refine' use_con2CD (by k_asm) (by k_asm) (by k_asm) (by k_asm) (by k_asm) (by exact rfl) (by exact rfl) (by tb_start) (c_op_name (by assumption) (by assumption)) (by k_room) (by k_units) ?_ ?_); rotate_left; (intro _ _ _ _ _ _ _ _ _ _ hX'; exact (show False from hX').elim); (intro r' news' hP'; ((k_dflt (refine ex1 hP' ?_)); clear hP'; intro t9' hP'; (refine cj2 hP' ?_); clear hP'; intro hv' hn'); (with_reducible refine subRN hv' hn' ?_); clear hv' hn'; clear news'; clear r'; (try ((with_reducible rename pairNe _ => dN8); clear dN8)); intro h' tk' F' N' hne'; (dsimp only [List.cons_append, List.nil_append] at N'); (try ((with_reducible refine foldN N' ?_); clear N'; intro n9 N')); (try k_sweep); (try dsimp only)))))
  (k_with "call ref" => ((fail_if_success (k_extra "offL2")); k_extra "W152"))
  (k_with "call ref nil" => ((fail_if_success (k_extra "offL2")); k_extra "W152"))
  (k_with "W153" => ((k_here; (with_reducible show wpAny _ _ (call (Value.ref 135) _) _ _ _); (try (k_extra "m_foldq")); k_dflt (refine' use_con2CD (by k_asm) (by k_asm) (by k_asm) (by k_asm) (by k_asm) (by exact rfl) (by exact rfl) (by tb_start) (c_arg_kind (by assumption) (by assumption)) (by k_room) (by k_units) ?_ ?_); rotate_left; (intro _ _ _ _ _ _ _ _ _ _ hX'; exact (show False from hX').elim); (intro r' news' hP'; ((k_dflt (refine ex1 hP' ?_)); clear hP'; intro t9' hP'; (refine cj2 hP' ?_); clear hP'; intro hv' hn'); (with_reducible refine subRN hv' hn' ?_); clear hv' hn'; clear news'; clear r'; (try ((with_reducible rename pairNe _ => dN8); clear dN8)); intro h' tk' F' N' hne'; (dsimp only [List.cons_append, List.nil_append] at N'); (try ((with_reducible refine foldN N' ?_); clear N'; intro n9 N')); (try k_sweep); (try dsimp only)))))
  (k_with "call ref" => ((fail_if_success (k_extra "offL2")); k_extra "W153"))
  (k_with "call ref nil" => ((fail_if_success (k_extra "offL2")); k_extra "W153"))
  (k_with "W154" => ((k_here; (with_reducible show wpAny _ _ (call (Value.ref 183) _) _ _ _); (try (k_extra "m_foldq")); k_dflt (refine' use_con02C (by k_asm) (by k_asm) (by k_asm) (by k_asm) (by k_asm) (by exact rfl) (by exact rfl) (c_quoted (by k_extra "m_len") (by k_extra "m_cod")) (by k_room) (by k_units) ?_ ?_); rotate_left; (intro _ _ _ _ _ _ _ _ _ _ hX'; exact (show False from hX').elim); (intro r' news' hP'; ((k_dflt (refine ex1 hP' ?_)); clear hP'; intro t9' hP'; (refine cj3 hP' ?_); clear hP'; intro hv' hn' hq'); (with_reducible refine subRN hv' hn' ?_); clear hv' hn'; clear news'; clear r'; intro h' tk' F' N'; (dsimp only [List.cons_append, List.nil_append] at N'); (try ((with_reducible refine foldN N' ?_); clear N'; intro n9 N')); (try k_sweep); (try dsimp only)))))
  (k_with "call ref" => ((fail_if_success (k_extra "offL2")); k_extra "W154"))
  (k_with "call ref nil" => ((fail_if_success (k_extra "offL2")); k_extra "W154"))
  (k_with "W155" => (assumption))
  (k_with "m_cod" => ((fail_if_success (k_extra "offL2")); k_extra "W155"))
  (k_with "W156" => (first | assumption | omega))
  (k_with "m_len" => ((fail_if_success (k_extra "offL2")); k_extra "W156"))
  trivial
section
variable {w : World} {mean : ExcName → Option Value} {mg mb : Str → Option Value} {x : Str} {n : Int} {tw : Tok}
theorem c_const_word_s (hw : x.length ≤ 300) (hb : ∀ c ∈ KStt.codes x, c < 65536) : Con w mean mg mb 235 [.str x tw] [] 80 (fun v news' => ∃ t, v = .str (constS (.inl x)) t ∧ news' = [] ∧ (constS (.inl x)).length ≤ 2000) (fun _ => False) := by
  refine' (?zf : Scr _) ?zq _ ?zs
  case zq =>
    intro prog dp un gd base frs g s Q E S hdp hun hret hexn; refine nameRet hret ?_; clear hret; intro P9 hret
    k_extra "m_enter"
    k_steps
    exact RetS.fin hret (by assumption) (by assumption) ⟨_, rfl, rfl, (by show (quotedO x).length ≤ 2000; omega)⟩ SubD.nil
  case zs => show LetQ _ ?zq _; (try delta id foldQ letS2 letS hideG foldN subRN subN ltCut letAE nameRet); exact LetQ.refl
  case zf => intro _ r _; exact r
theorem c_const_word_i (h0 : 0 ≤ n) (h1 : n < 1000000000) : Con w mean mg mb 235 [.int n tw] [] 80 (fun v news' => ∃ t, v = .str (constS (.inr n)) t ∧ news' = [] ∧ (constS (.inr n)).length ≤ 2000) (fun _ => False) := by
  refine' (?zf : Scr _) ?zq _ ?zs
  case zq =>
    intro prog dp un gd base frs g s Q E S hdp hun hret hexn; refine nameRet hret ?_; clear hret; intro P9 hret
    k_extra "m_enter"
    k_steps
    exact RetS.fin hret (by assumption) (by assumption) ⟨_, rfl, rfl, Nat.le_trans (intS_len h0 h1) (by decide)⟩ SubD.nil
  case zs => show LetQ _ ?zq _; (try delta id foldQ letS2 letS hideG foldN subRN subN ltCut letAE nameRet); exact LetQ.refl
  case zf => intro _ r _; exact r
end
section
variable {w : World} {mean : ExcName → Option Value} {mg mb : Str → Option Value} {sg : List (Addr × Obj)} {U dU a3 a4 a5 a6 a7 : Addr} {u1 u2 u3 u4 u5 u6 u7 u8 u9 u10 u11 u12 u13 u14 u15 : Tok} {v1 v2 v8 v9 v10 v13 v14 v15 : Value} {st ar : Bool}
theorem c_flag_words (hU : (U, instObj 117 dU) ∈ sg) (hD : (dU, dictOf (ud w u1 u2 u3 u4 u5 u6 u7 u8 u9 u10 u11 u12 u13 u14 u15 v1 v2 (.ref a3) (.ref a4) (.ref a5) (.ref a6) (.ref a7) v8 v9 v10 (.bool st) (.bool ar) v13 v14 v15) 15) ∈ sg) :
   Con w mean mg mb 223 [.ref U] sg 20 (LinesP (flagS st ar) sg) (fun _ => False) := by
  refine' (?zf : Scr _) ?zq _ ?zs
  case zq =>
    intro prog dp un gd base frs g s Q E S hdp hun hret hexn; refine nameRet hret ?_; clear hret; intro P9 hret
    k_extra "m_enter"
    k_steps
    all_goals subst_vars
    all_goals (k_extra "m_and")
    all_goals first
      | exact list_ret hret (by assumption) (by assumption) (by k_extra "m_tailD") (by exact ⟨[(_, _), (_, _)], _, rfl, rfl⟩)
      | exact list_ret hret (by assumption) (by assumption) (by k_extra "m_tailD") (by exact ⟨[(_, _)], _, rfl, rfl⟩)
      | exact list_ret hret (by assumption) (by assumption) (by k_extra "m_tailD") (by exact ⟨[], _, rfl, rfl⟩)
  case zs => show LetQ _ ?zq _; (try delta id foldQ letS2 letS hideG foldN subRN subN ltCut letAE nameRet); exact LetQ.refl
  case zf => intro _ r _; exact r
end

theorem wd_45 : True := by
  (k_with "offL2" => (skip))
  trivial
end
section -- L3
theorem itemVals {prog : Program} {w : World} {A : Around} {E : Value → Shared → Prop} {s : Shared} {h₀ : Heap} {L l : Addr} {news : List (Addr × Obj)} {vs : List Value} {n : Nat} {k : Int} {v : Value} {Q : Value → Shared → Prop} {value slice : Expr} {u : Tok} (N : News h₀ L s.heap news) (hm : (l, W.listOf vs.toArray n) ∈ news)
    (h0 : 0 ≤ k) (h1 : k < 1000) (hx : vs[k.toNat]? = some v) (h : Q v s)
    (hs : subscripted slice false (.ref l) (.int k u) = operate [.ref l, .int k u] (getItem (.ref l) (.int k u))) :
    wpAny (model prog w) A (subscriptTail value slice (.ref l) (.int k u)) Q E s :=
  item_listR (isList_at N hm) h0 (by omega) (by simpa using hx) h hs
noncomputable def remS (consts : List (Str ⊕ Int)) (op : Int) : Option Int → Str
  | none => Str.ofString ""
  | some a => if [Str.ofString "k", Str.ofString "s"].any (· == opKd op) = true ∧ 0 ≤ a ∧ a < (consts.length : Int) then Str.ofString " ; " ++ constS (consts.getD a.toNat (.inr 0)) else Str.ofString ""
noncomputable def argL : Option Int → List Str
  | none => []
  | some a => [intS a]
noncomputable def codeS (consts : List (Str ⊕ Int)) (pc op : Int) (arg : Option Int) (ln : Int) : Str := Txt.join (Str.ofString " ") ([intS pc, intS ln, opNm op] ++ argL arg) ++ remS consts op arg
theorem ltOf {vs : List Value} {k : Int} {v : Value} (hx : vs[k.toNat]? = some v) (h0 : 0 ≤ k) : k < (vs.length : Int) := by
  have := (List.getElem?_eq_some_iff.mp hx).1
  omega
noncomputable def SmallC : Str ⊕ Int → Prop
  | .inl x => x.length ≤ 300 ∧ ∀ c ∈ KStt.codes x, c < 65536
  | .inr n => 0 ≤ n ∧ n < 1000000000
theorem paired_at {α β : Type} {F : α → β → Prop} {xs : List α} {ys : List β} {i : Nat} {y : β} (H : Paired F xs ys) (h : ys[i]? = some y) : ∃ x, xs[i]? = some x ∧ F x y := by
  induction H generalizing i with
  | nil => cases h
  | cons a r ih =>
    cases i with
    | zero => cases h; exact ⟨_, rfl, a⟩
    | succ i => exact ih h
theorem itemConst {prog : Program} {w : World} {A : Around} {E : Value → Shared → Prop} {s : Shared} {h₀ : Heap} {L l : Addr} {news : List (Addr × Obj)} {vs : List Value} {ks : List (Str ⊕ Int)} {n : Nat} {k : Int} {Q : Value → Shared → Prop} {value slice : Expr} {u : Tok} (N : News h₀ L s.heap news) (hm : (l, W.listOf vs.toArray n) ∈ news)
    (hp : Paired ConstV ks vs) (hsm : ∀ c ∈ ks, SmallC c) (hl : (vs.length : Int) ≤ 500) (h0 : 0 ≤ k) (h1 : k < (vs.length : Int))
    (hs : subscripted slice false (.ref l) (.int k u) = operate [.ref l, .int k u] (getItem (.ref l) (.int k u)))
    (ha : ∀ x t, ks.getD k.toNat (.inr 0) = .inl x → x.length ≤ 300 → (∀ c ∈ KStt.codes x, c < 65536) → Q (.str x t) s)
    (hb : ∀ n t, ks.getD k.toNat (.inr 0) = .inr n → 0 ≤ n → n < 1000000000 → Q (.int n t) s) :
    wpAny (model prog w) A (subscriptTail value slice (.ref l) (.int k u)) Q E s := by
  have hx : vs[k.toNat]? = some vs[k.toNat] := List.getElem?_eq_getElem (by omega)
  obtain ⟨c, hc, hv⟩ := paired_at hp hx
  have hm' := hsm c (List.mem_of_getElem? hc)
  refine itemVals N hm h0 (by omega) hx ?_ hs
  have hd : ks.getD k.toNat (.inr 0) = c := by rw [List.getD_eq_getElem?_getD, hc]; rfl
  cases c with
  | inl x => obtain ⟨t, e⟩ := hv; rw [e]; exact ha x t hd hm'.1 hm'.2
  | inr m => obtain ⟨t, e⟩ := hv; rw [e]; exact hb m t hd hm'.1 hm'.2
theorem strRet {g h' : Heap} {s : Shared} {Q : Value → Shared → Prop} {all sg : List (Addr × Obj)} {x y : Str} {t : Tok} {b tk' : Nat} (R : RetS g s (StrP y b sg) Q) (st : g.StaysIn h') (N : NewsG g h' all) (d : TailD [] sg all) (e : x = y ∧ y.length ≤ b) :
    Q (.str x t) { s with heap := h', toks := tk' } := by rw [e.1]; exact same_ret (a := t) R st N d e.2
theorem remNo {ks : List (Str ⊕ Int)} {op : Int} {a : Option Int} (h : ([Str.ofString "k", Str.ofString "s"].any fun x => x == opKd op) = false) : Str.ofString "" = remS ks op a ∧ (remS ks op a).length ≤ 2010 := by
  have e : remS ks op a = Str.ofString "" := by
    cases a with
    | none => rfl
    | some a => exact if_neg (fun z => by rw [h] at z; exact absurd z.1 (by decide))
  rw [e]; exact ⟨rfl, by decide⟩
theorem remOut {ks : List (Str ⊕ Int)} {op a : Int} {kvs : List Value} (hp : Paired ConstV ks kvs) (h : ¬ a < (kvs.length : Int)) : Str.ofString "" = remS ks op (some a) ∧ (remS ks op (some a)).length ≤ 2010 := by
  have e : remS ks op (some a) = Str.ofString "" := if_neg (fun z => h (by rw [← hp.length]; exact z.2.2))
  rw [e]; exact ⟨rfl, by decide⟩
theorem remYes {ks : List (Str ⊕ Int)} {op a : Int} {kvs : List Value} {c : Str ⊕ Int} (hp : Paired ConstV ks kvs) (h : ([Str.ofString "k", Str.ofString "s"].any fun x => x == opKd op) = true) (h0 : 0 ≤ a) (h1 : a < (kvs.length : Int)) (e : ks.getD a.toNat (.inr 0) = c) (hl : (constS c).length ≤ 2000) :
    Str.ofString " ; " ++ constS c = remS ks op (some a) ∧ (remS ks op (some a)).length ≤ 2010 := by
  have e : remS ks op (some a) = Str.ofString " ; " ++ constS c := by
    exact (if_pos ⟨h, h0, by rw [hp.length]; exact h1⟩).trans (by rw [e])
  rw [e]; refine ⟨rfl, ?_⟩
  rw [Str.length_append, show (Str.ofString " ; ").length = 3 from by decide]; omega
theorem wd_46 : True := by
  (k_with "x_kwd_rel" => ((fail_if_success (k_extra "offL3")); k_extra "W119"))
  (k_with "x_k_all" => ((fail_if_success (k_extra "offL3")); k_extra "W120"))
  (k_with "x_k_all" => ((fail_if_success (k_extra "offL3")); k_extra "W121"))
  (k_with "x_kwd_inv" => ((fail_if_success (k_extra "offL3")); k_extra "W122"))
  (k_with "m_turnG" => ((fail_if_success (k_extra "offL3")); k_extra "W123"))
  (k_with "m_finEG" => ((fail_if_success (k_extra "offL3")); k_extra "W124"))
  (k_with "m_pair" => ((fail_if_success (k_extra "offL3")); k_extra "W125"))
  (k_with "m_clear" => ((fail_if_success (k_extra "offL3")); k_extra "W126"))
  (k_with "x_k_mem" => ((fail_if_success (k_extra "offL3")); k_extra "W151"))
  (k_with "call ref" => ((fail_if_success (k_extra "offL3")); k_extra "W152"))
  (k_with "call ref nil" => ((fail_if_success (k_extra "offL3")); k_extra "W152"))
  (k_with "call ref" => ((fail_if_success (k_extra "offL3")); k_extra "W153"))
  (k_with "call ref nil" => ((fail_if_success (k_extra "offL3")); k_extra "W153"))
  (k_with "call ref" => ((fail_if_success (k_extra "offL3")); k_extra "W154"))
  (k_with "call ref nil" => ((fail_if_success (k_extra "offL3")); k_extra "W154"))
  (k_with "m_cod" => ((fail_if_success (k_extra "offL3")); k_extra "W155"))
  (k_with "m_len" => ((fail_if_success (k_extra "offL3")); k_extra "W156"))
  (k_with "W157" => ((k_here; (with_reducible show wpAny _ _ (call (Value.ref 235) [Value.str _ _]) _ _ _); (try (k_extra "m_foldq")); k_dflt (refine' use_con2CD (by k_asm) (by k_asm) (by k_asm) (by k_asm) (by k_asm) (by exact rfl) (by exact rfl) (by tb_start) (c_const_word_s (by k_extra "m_len") (by k_extra "m_cod")) (by k_room) (by k_units) ?_ ?_); rotate_left; (intro _ _ _ _ _ _ _ _ _ _ hX'; exact (show False from hX').elim); (intro r' news' hP'; ((k_dflt (refine ex1 hP' ?_)); clear hP'; intro t9' hP'; (refine cj3 hP' ?_); clear hP'; intro hv' hn' hq'); (with_reducible refine subRN hv' hn' ?_); clear hv' hn'; clear news'; clear r'; (try ((with_reducible rename pairNe _ => dN8); clear dN8)); intro h' tk' F' N' hne'; (dsimp only [List.cons_append, List.nil_append] at N'); (try ((with_reducible refine foldN N' ?_); clear N'; intro n9 N')); (try k_sweep); (try dsimp only)))))
  (k_with "call ref" => ((fail_if_success (k_extra "offL3")); k_extra "W157"))
  (k_with "call ref cons nil" => ((fail_if_success (k_extra "offL3")); k_extra "W157"))
  (k_with "W158" => ((k_here; (with_reducible show wpAny _ _ (call (Value.ref 235) [Value.int _ _]) _ _ _); (try (k_extra "m_foldq")); k_dflt (refine' use_con2CD (by k_asm) (by k_asm) (by k_asm) (by k_asm) (by k_asm) (by exact rfl) (by exact rfl) (by tb_start) (c_const_word_i (by assumption) (by assumption)) (by k_room) (by k_units) ?_ ?_); rotate_left; (intro _ _ _ _ _ _ _ _ _ _ hX'; exact (show False from hX').elim); (intro r' news' hP'; ((k_dflt (refine ex1 hP' ?_)); clear hP'; intro t9' hP'; (refine cj3 hP' ?_); clear hP'; intro hv' hn' hq'); (with_reducible refine subRN hv' hn' ?_); clear hv' hn'; clear news'; clear r'; (try ((with_reducible rename pairNe _ => dN8); clear dN8)); intro h' tk' F' N' hne'; (dsimp only [List.cons_append, List.nil_append] at N'); (try ((with_reducible refine foldN N' ?_); clear N'; intro n9 N')); (try k_sweep); (try dsimp only)))))
  (k_with "call ref" => ((fail_if_success (k_extra "offL3")); k_extra "W158"))
  (k_with "call ref cons nil" => ((fail_if_success (k_extra "offL3")); k_extra "W158"))
  (k_with "W159" => ((k_here; k_dflt (refine' itemVals (by k_asm) (by k_mem) (by omega) (by omega) (by with_reducible assumption) ?_ (by with_unfolding_all rfl)); (try dsimp only))))
  (k_with "subscriptTail Attribute Name Name ref int" => ((fail_if_success (k_extra "offL3")); k_extra "W159"))
  (k_with "W160" => ((k_here; k_dflt (refine' itemConst (by k_asm) (by k_mem) (by with_reducible assumption) (by assumption) (by assumption) (by omega) (by omega) (by with_unfolding_all rfl) ?_ ?_); (intro x9 t9 e9 z1 z2; (try dsimp only)); rotate_left; (intro x9 t9 e9 z1 z2; (try dsimp only)); rotate_left)))
  (k_with "subscriptTail Attribute Name Name ref int" => ((fail_if_success (k_extra "offL3")); k_extra "W160"))
  trivial
section
variable {w : World} {mean : ExcName → Option Value} {mg mb : Str → Option Value} {sg : List (Addr × Obj)} {U dU aC aK aU aH aL : Addr} {u1 u2 u3 u4 u5 u6 u7 u8 u9 u10 u11 u12 u13 u14 u15 : Tok} {v1 v2 v8 v9 v10 v11 v12 v13 v14 v15 : Value}
  {cvs kvs lvs : List Value} {nC nK nL : Nat} {pc ln op a : Int} {t t' t1 t2 : Tok}
theorem c_line_of (hU : (U, instObj 117 dU) ∈ sg) (hD : (dU, dictOf (ud w u1 u2 u3 u4 u5 u6 u7 u8 u9 u10 u11 u12 u13 u14 u15 v1 v2 (.ref aC) (.ref aK) (.ref aU) (.ref aH) (.ref aL) v8 v9 v10 v11 v12 v13 v14 v15) 15) ∈ sg)
    (hL : (aL, W.listOf lvs.toArray nL) ∈ sg) (h0 : 0 ≤ pc) (hx : lvs[pc.toNat]? = some (.int ln t')) (hl : (lvs.length : Int) ≤ 500) :
   Con w mean mg mb 149 [.ref U, .int pc t] sg 20 (SameP (fun t : Tok => Value.int ln t) (fun _ => True) sg) (fun _ => False) := by
  refine' (?zf : Scr _) ?zq _ ?zs
  case zq =>
    intro prog dp un gd base frs g s Q E S hdp hun hret hexn; refine nameRet hret ?_; clear hret; intro P9 hret
    have hlt := ltOf hx h0
    k_extra "m_enter"
    k_steps
    exact same_ret hret (by assumption) (by assumption) (by k_extra "m_tailD") trivial
  case zs => show LetQ _ ?zq _; (try delta id foldQ letS2 letS hideG foldN subRN subN ltCut letAE nameRet); exact LetQ.refl
  case zf => intro _ r _; exact r
theorem c_remark0 (hU : (U, instObj 117 dU) ∈ sg) (hD : (dU, dictOf (ud w u1 u2 u3 u4 u5 u6 u7 u8 u9 u10 u11 u12 u13 u14 u15 v1 v2 (.ref aC) (.ref aK) (.ref aU) (.ref aH) (.ref aL) v8 v9 v10 v11 v12 v13 v14 v15) 15) ∈ sg)
    (h0 : 0 ≤ op) (h1 : op < 85) :
   Con w mean mg mb 242 [.ref U, .int op t, .none] sg 100 (StrP (Str.ofString "") 2010 sg) (fun _ => False) := by
  refine' (?zf : Scr _) ?zq _ ?zs
  case zq =>
    intro prog dp un gd base frs g s Q E S hdp hun hret hexn; refine nameRet hret ?_; clear hret; intro P9 hret
    k_extra "m_enter"
    k_steps
    all_goals exact strRet hret (by assumption) (by assumption) (by k_extra "m_tailD") ⟨rfl, by decide⟩
  case zs => show LetQ _ ?zq _; (try delta id foldQ letS2 letS hideG foldN subRN subN ltCut letAE nameRet); exact LetQ.refl
  case zf => intro _ r _; exact r
theorem c_remark1 (hU : (U, instObj 117 dU) ∈ sg) (hD : (dU, dictOf (ud w u1 u2 u3 u4 u5 u6 u7 u8 u9 u10 u11 u12 u13 u14 u15 v1 v2 (.ref aC) (.ref aK) (.ref aU) (.ref aH) (.ref aL) v8 v9 v10 v11 v12 v13 v14 v15) 15) ∈ sg)
    (hK : (aK, W.listOf kvs.toArray nK) ∈ sg) (h0 : 0 ≤ op) (h1 : op < 85) (ha : 0 ≤ a) {ks : List (Str ⊕ Int)} (hks : Paired ConstV ks kvs) (hsm : ∀ c ∈ ks, SmallC c) (hl : (kvs.length : Int) ≤ 500) :
   Con w mean mg mb 242 [.ref U, .int op t, .int a t'] sg 100 (StrP (remS ks op (some a)) 2010 sg) (fun _ => False) := by
  refine' (?zf : Scr _) ?zq _ ?zs
  case zq =>
    intro prog dp un gd base frs g s Q E S hdp hun hret hexn; refine nameRet hret ?_; clear hret; intro P9 hret
    k_extra "m_enter"
    k_steps
    · exact strRet hret (by assumption) (by assumption) (by k_extra "m_tailD") (remYes (by with_reducible assumption) (by with_reducible assumption) (by assumption) (by assumption) (by with_reducible assumption) (by with_reducible assumption))
    · exact strRet hret (by assumption) (by assumption) (by k_extra "m_tailD") (remYes (by with_reducible assumption) (by with_reducible assumption) (by assumption) (by assumption) (by with_reducible assumption) (by with_reducible assumption))
    · exact strRet hret (by assumption) (by assumption) (by k_extra "m_tailD") (remOut (by with_reducible assumption) (by with_reducible assumption))
    · exact strRet hret (by assumption) (by assumption) (by k_extra "m_tailD") (remNo (by with_reducible assumption))
  case zs => show LetQ _ ?zq _; (try delta id foldQ letS2 letS hideG foldN subRN subN ltCut letAE nameRet); exact LetQ.refl
  case zf => intro _ r _; exact r
end

theorem wd_47 : True := by
  (k_with "offL3" => (skip))
  trivial
end
section -- JN
theorem txtJoin (sep : Str) (l : List Str) : Txt.join sep l = Str.join sep l := by
  have := PyProof.Rows.join_plain_closes sep l
  simpa using this
theorem joinSum {ys : List Str} {b : Nat} (h : ∀ y ∈ ys, y.length ≤ b) : (ys.map (·.length)).sum ≤ ys.length * b := by
  induction ys with
  | nil => simp
  | cons y r ih =>
    have h1 := h y (.head _)
    have h2 := ih fun z hz => h z (.tail _ hz)
    simp only [List.map_cons, List.sum_cons, List.length_cons, Nat.succ_mul]
    omega
theorem joinLen {sep : Str} {ys : List Str} {b : Nat} (h : ∀ y ∈ ys, y.length ≤ b) (hs : sep.length ≤ 16) : (Txt.join sep ys).length ≤ ys.length * (b + 16) := by
  rw [txtJoin]
  have h1 := StrLaws.join_length_le sep ys
  have h2 := joinSum h
  have h3 : ys.length * sep.length ≤ ys.length * 16 := Nat.mul_le_mul_left _ hs
  rw [Nat.mul_add]; omega
theorem joinN {prog : Program} {w : World} {A : Around} {E : Value → Shared → Prop} {s : Shared} {h₀ : Heap} {L l : Addr} {news : List (Addr × Obj)} {o : Obj} {sep : Str} {t : Tok} {ys : List Str} {b : Nat} {Q : Value → Shared → Prop} (N : News h₀ L s.heap news) (hm : (l, o) ∈ news)
    (ho : ∃ vs k, o = W.listOf (List.toArray vs) k ∧ StrsAre vs ys) (hs : sep.length ≤ 16) (hall : ∀ y ∈ ys, y.length ≤ b) (hb : b ≤ 15000) (hn : ys.length ≤ 1000)
    (h : ∀ t' k, (Txt.join sep ys).length ≤ ys.length * (b + 16) → Q (.str (Txt.join sep ys) t') { s with toks := k }) : wpAny (model prog w) A (call (.builtin "str.join") [.str sep t, .ref l]) Q E s := by
  refine hideG ?_; intro g9; obtain ⟨vs, k, e91, hi⟩ := ho; k_unfold; subst e91
  have h1 := joinSum hall
  have h2 : ys.length * b ≤ 1000 * 15000 := Nat.mul_le_mul hn hb
  have h3 : ys.length * sep.length ≤ 1000 * 16 := Nat.mul_le_mul hn hs
  exact join_list (isList_at N hm) hi (by omega) fun t' k => h t' k (joinLen hall hs)
theorem all_cons {b : Nat} {y : Str} {r : List Str} (h : y.length ≤ b) (x : ∀ y ∈ r, y.length ≤ b) : ∀ z ∈ y :: r, z.length ≤ b := List.forall_mem_cons.mpr ⟨h, x⟩
theorem all_nil {b : Nat} : ∀ z ∈ ([] : List Str), z.length ≤ b := fun _ h => absurd h List.not_mem_nil
theorem strsAre_vals : ∀ {pl : List (Str × Tok)}, StrsAre (strValues pl) (texts pl)
  | [] => .nil
  | p :: pl => .cons p.1 p.2 strsAre_vals

end
section -- L4
theorem opNm_len {op : Int} : (opNm op).length ≤ 20 := by
  refine' (?zf : Scr _) ?zq _ ?zs
  case zq =>
    unfold opNm
    split
    · rename_i r h
      have hm := List.mem_of_getElem? h
      have : ∀ r ∈ opRows, r.1.length ≤ 20 := by decide +kernel
      exact this r hm
    · decide
  case zs => show LetQ _ ?zq _; (try delta id foldQ letS2 letS hideG foldN subRN subN ltCut letAE nameRet); exact LetQ.refl
  case zf => intro _ r _; exact r
theorem codeEq0 {ks : List (Str ⊕ Int)} {pc op ln : Int} (h : (Txt.join (Str.ofString " ") [Str.ofString (toString pc), Str.ofString (toString ln), opNm op]).length ≤ [Str.ofString (toString pc), Str.ofString (toString ln), opNm op].length * (20 + 16)) :
    Txt.join (Str.ofString " ") [Str.ofString (toString pc), Str.ofString (toString ln), opNm op] ++ Str.ofString "" = codeS ks pc op none ln ∧ (codeS ks pc op none ln).length ≤ 3000 := by
  refine ⟨rfl, ?_⟩
  show (Txt.join (Str.ofString " ") [Str.ofString (toString pc), Str.ofString (toString ln), opNm op] ++ Str.ofString "").length ≤ 3000
  rw [Str.length_append, show (Str.ofString "").length = 0 from by decide]
  simp only [List.length_cons, List.length_nil] at h
  omega
theorem codeEq1 {ks : List (Str ⊕ Int)} {pc op ln a : Int} (h : (Txt.join (Str.ofString " ") [Str.ofString (toString pc), Str.ofString (toString ln), opNm op, Str.ofString (toString a)]).length ≤ [Str.ofString (toString pc), Str.ofString (toString ln), opNm op, Str.ofString (toString a)].length * (20 + 16)) (hr : (remS ks op (some a)).length ≤ 2010) :
    Txt.join (Str.ofString " ") [Str.ofString (toString pc), Str.ofString (toString ln), opNm op, Str.ofString (toString a)] ++ remS ks op (some a) = codeS ks pc op (some a) ln ∧ (codeS ks pc op (some a) ln).length ≤ 3000 := by
  refine ⟨rfl, ?_⟩
  show (Txt.join (Str.ofString " ") [Str.ofString (toString pc), Str.ofString (toString ln), opNm op, Str.ofString (toString a)] ++ remS ks op (some a)).length ≤ 3000
  rw [Str.length_append]
  simp only [List.length_cons, List.length_nil] at h
  omega
theorem wd_48 : True := by
  (k_with "x_kwd_rel" => ((fail_if_success (k_extra "offL4")); k_extra "W119"))
  (k_with "x_k_all" => ((fail_if_success (k_extra "offL4")); k_extra "W120"))
  (k_with "x_k_all" => ((fail_if_success (k_extra "offL4")); k_extra "W121"))
  (k_with "x_kwd_inv" => ((fail_if_success (k_extra "offL4")); k_extra "W122"))
  (k_with "m_turnG" => ((fail_if_success (k_extra "offL4")); k_extra "W123"))
  (k_with "m_finEG" => ((fail_if_success (k_extra "offL4")); k_extra "W124"))
  (k_with "m_pair" => ((fail_if_success (k_extra "offL4")); k_extra "W125"))
  (k_with "m_clear" => ((fail_if_success (k_extra "offL4")); k_extra "W126"))
  (k_with "x_k_mem" => ((fail_if_success (k_extra "offL4")); k_extra "W151"))
  (k_with "call ref" => ((fail_if_success (k_extra "offL4")); k_extra "W152"))
  (k_with "call ref nil" => ((fail_if_success (k_extra "offL4")); k_extra "W152"))
  (k_with "call ref" => ((fail_if_success (k_extra "offL4")); k_extra "W153"))
  (k_with "call ref nil" => ((fail_if_success (k_extra "offL4")); k_extra "W153"))
  (k_with "call ref" => ((fail_if_success (k_extra "offL4")); k_extra "W154"))
  (k_with "call ref nil" => ((fail_if_success (k_extra "offL4")); k_extra "W154"))
  (k_with "m_cod" => ((fail_if_success (k_extra "offL4")); k_extra "W155"))
  (k_with "m_len" => ((fail_if_success (k_extra "offL4")); k_extra "W156"))
  (k_with "call ref" => ((fail_if_success (k_extra "offL4")); k_extra "W157"))
  (k_with "call ref cons nil" => ((fail_if_success (k_extra "offL4")); k_extra "W157"))
  (k_with "call ref" => ((fail_if_success (k_extra "offL4")); k_extra "W158"))
  (k_with "call ref cons nil" => ((fail_if_success (k_extra "offL4")); k_extra "W158"))
  (k_with "W161" => ((k_here; (with_reducible show wpAny _ _ (call (Value.ref 149) _) _ _ _); (try (k_extra "m_foldq")); k_dflt (refine' conU (by k_asm) (by k_asm) (by k_asm) (by k_asm) (by k_asm) (by exact rfl) (by exact rfl) (c_line_of (by k_mem) (by k_mem) (by k_mem) (by omega) (by assumption) (by assumption)) (by k_extra "m_foot") (by k_room) (by k_units) ?_); (intro t9' h' tk' hq' F' N'; (try k_sweep); (try dsimp only)))))
  (k_with "call ref" => ((fail_if_success (k_extra "offL4")); k_extra "W161"))
  (k_with "call ref cons nil" => ((fail_if_success (k_extra "offL4")); k_extra "W161"))
  (k_with "W162" => ((k_here; (with_reducible show wpAny _ _ (call (Value.ref 242) [_, _, Value.none]) _ _ _); (try (k_extra "m_foldq")); k_dflt (refine' conU (by k_asm) (by k_asm) (by k_asm) (by k_asm) (by k_asm) (by exact rfl) (by exact rfl) (c_remark0 (by k_mem) (by k_mem) (by assumption) (by assumption)) (by k_extra "m_foot") (by k_room) (by k_units) ?_); (intro t9' h' tk' hq' F' N'; (try k_sweep); (try dsimp only)))))
  (k_with "call ref" => ((fail_if_success (k_extra "offL4")); k_extra "W162"))
  (k_with "call ref cons nil" => ((fail_if_success (k_extra "offL4")); k_extra "W162"))
  (k_with "W163" => ((k_here; (with_reducible show wpAny _ _ (call (Value.ref 242) [_, _, Value.int _ _]) _ _ _); (try (k_extra "m_foldq")); k_dflt (refine' conU (by k_asm) (by k_asm) (by k_asm) (by k_asm) (by k_asm) (by exact rfl) (by exact rfl) (c_remark1 (by k_mem) (by k_mem) (by k_mem) (by assumption) (by assumption) (by assumption) (by assumption) (by assumption) (by assumption)) (by k_extra "m_foot") (by k_room) (by k_units) ?_); (intro t9' h' tk' hq' F' N'; (try k_sweep); (try dsimp only)))))
  (k_with "call ref" => ((fail_if_success (k_extra "offL4")); k_extra "W163"))
  (k_with "call ref cons nil" => ((fail_if_success (k_extra "offL4")); k_extra "W163"))
  (k_with "W164" => ((repeat (first | exact all_nil | assumption | refine all_cons (by k_extra "m_word") ?_))))
  (k_with "m_words" => ((fail_if_success (k_extra "offL4")); k_extra "W164"))
  (k_with "W165" => (first | assumption | decide | exact Nat.le_trans (intS_len (by assumption) (by omega)) (by decide) | omega))
  (k_with "m_word" => ((fail_if_success (k_extra "offL4")); k_extra "W165"))
  (k_with "W166" => ((k_here; k_dflt (refine' joinN (b := 20) (by k_asm) (by k_mem) (by (refine' ⟨_, _, rfl, (by first | exact StrsAre.nil | exact strsAre_vals | exact StrsAre.cons _ _ (StrsAre.nil) | exact StrsAre.cons _ _ (strsAre_vals) | exact StrsAre.cons _ _ (StrsAre.cons _ _ (StrsAre.nil)) | exact StrsAre.cons _ _ (StrsAre.cons _ _ (strsAre_vals)) | exact StrsAre.cons _ _ (StrsAre.cons _ _ (StrsAre.cons _ _ (StrsAre.nil))) | exact StrsAre.cons _ _ (StrsAre.cons _ _ (StrsAre.cons _ _ (strsAre_vals))) | exact StrsAre.cons _ _ (StrsAre.cons _ _ (StrsAre.cons _ _ (StrsAre.cons _ _ (StrsAre.nil)))) | exact StrsAre.cons _ _ (StrsAre.cons _ _ (StrsAre.cons _ _ (StrsAre.cons _ _ (strsAre_vals)))) | exact StrsAre.cons _ _ (StrsAre.cons _ _ (StrsAre.cons _ _ (StrsAre.cons _ _ (StrsAre.cons _ _ (StrsAre.nil))))) | exact StrsAre.cons _ _ (StrsAre.cons _ _ (StrsAre.cons _ _ (StrsAre.cons _ _ (StrsAre.cons _ _ (strsAre_vals))))) | exact StrsAre.cons _ _ (StrsAre.cons _ _ (StrsAre.cons _ _ (StrsAre.cons _ _ (StrsAre.cons _ _ (StrsAre.cons _ _ (StrsAre.nil)))))) | exact StrsAre.cons _ _ (StrsAre.cons _ _ (StrsAre.cons _ _ (StrsAre.cons _ _ (StrsAre.cons _ _ (StrsAre.cons _ _ (strsAre_vals)))))))⟩)) (by decide) (by k_extra "m_words") (by decide) (by first | omega | (simp only [List.length_cons, List.length_nil, List.length_append, List.length_map]; omega)) ?_); (intro t9 k9 z9; (try dsimp only)))))
  (k_with "call builtin:str.join cons nil" => ((fail_if_success (k_extra "offL4")); k_extra "W166"))
  (k_with "subscriptTail Attribute Name Name ref int" => ((fail_if_success (k_extra "offL4")); k_extra "W159"))
  (k_with "subscriptTail Attribute Name Name ref int" => ((fail_if_success (k_extra "offL4")); k_extra "W160"))
  trivial
section
variable {w : World} {mean : ExcName → Option Value} {mg mb : Str → Option Value} {sg : List (Addr × Obj)} {U dU aC aK aU aH aL T : Addr} {u1 u2 u3 u4 u5 u6 u7 u8 u9 u10 u11 u12 u13 u14 u15 : Tok} {v1 v2 v8 v9 v10 v11 v12 v13 v14 v15 : Value}
  {cvs kvs lvs : List Value} {nC nK nL : Nat} {pc ln op a : Int} {t t' t1 t2 : Tok} {ks : List (Str ⊕ Int)}
theorem c_code0 (hU : (U, instObj 117 dU) ∈ sg) (hD : (dU, dictOf (ud w u1 u2 u3 u4 u5 u6 u7 u8 u9 u10 u11 u12 u13 u14 u15 v1 v2 (.ref aC) (.ref aK) (.ref aU) (.ref aH) (.ref aL) v8 v9 v10 v11 v12 v13 v14 v15) 15) ∈ sg)
    (hC : (aC, W.listOf cvs.toArray nC) ∈ sg) (hL : (aL, W.listOf lvs.toArray nL) ∈ sg) (hT : (T, tupO #[.int op t1, .none] 0) ∈ sg) (h0 : 0 ≤ pc) (hx : lvs[pc.toNat]? = some (.int ln t')) (hy : cvs[pc.toNat]? = some (.ref T)) (hl : (lvs.length : Int) ≤ 500) (hc : (cvs.length : Int) ≤ 500)
    (h1 : 0 ≤ op) (h2 : op < 85) (h3 : 0 ≤ ln) (h4 : ln < 1000000000) :
   Con w mean mg mb 249 [.ref U, .int pc t] sg 120 (StrP (codeS ks pc op none ln) 3000 sg) (fun _ => False) := by
  refine' (?zf : Scr _) ?zq _ ?zs
  case zq =>
    intro prog dp un gd base frs g s Q E S hdp hun hret hexn; refine nameRet hret ?_; clear hret; intro P9 hret
    have hlt := ltOf hx h0
    have hlt2 := ltOf hy h0
    have hnm := opNm_len (op := op)
    k_extra "m_enter"
    k_steps
    all_goals exact strRet hret (by assumption) (by assumption) (by k_extra "m_tailD") (codeEq0 (by with_reducible assumption))
  case zs => show LetQ _ ?zq _; (try delta id foldQ letS2 letS hideG foldN subRN subN ltCut letAE nameRet); exact LetQ.refl
  case zf => intro _ r _; exact r
theorem c_code1 (hU : (U, instObj 117 dU) ∈ sg) (hD : (dU, dictOf (ud w u1 u2 u3 u4 u5 u6 u7 u8 u9 u10 u11 u12 u13 u14 u15 v1 v2 (.ref aC) (.ref aK) (.ref aU) (.ref aH) (.ref aL) v8 v9 v10 v11 v12 v13 v14 v15) 15) ∈ sg)
    (hC : (aC, W.listOf cvs.toArray nC) ∈ sg) (hK : (aK, W.listOf kvs.toArray nK) ∈ sg) (hL : (aL, W.listOf lvs.toArray nL) ∈ sg) (hT : (T, tupO #[.int op t1, .int a t2] 0) ∈ sg) (h0 : 0 ≤ pc) (hx : lvs[pc.toNat]? = some (.int ln t')) (hy : cvs[pc.toNat]? = some (.ref T)) (hl : (lvs.length : Int) ≤ 500) (hc : (cvs.length : Int) ≤ 500)
    (h1 : 0 ≤ op) (h2 : op < 85) (h3 : 0 ≤ ln) (h4 : ln < 1000000000) (h5 : 0 ≤ a) (h6 : a < 1000000000) (hks : Paired ConstV ks kvs) (hsm : ∀ c ∈ ks, SmallC c) (hkl : (kvs.length : Int) ≤ 500) :
   Con w mean mg mb 249 [.ref U, .int pc t] sg 120 (StrP (codeS ks pc op (some a) ln) 3000 sg) (fun _ => False) := by
  refine' (?zf : Scr _) ?zq _ ?zs
  case zq =>
    intro prog dp un gd base frs g s Q E S hdp hun hret hexn; refine nameRet hret ?_; clear hret; intro P9 hret
    have hlt := ltOf hx h0
    have hlt2 := ltOf hy h0
    have hnm := opNm_len (op := op)
    k_extra "m_enter"
    k_steps
    all_goals exact strRet hret (by assumption) (by assumption) (by k_extra "m_tailD") (codeEq1 (by with_reducible assumption) (by with_reducible assumption))
  case zs => show LetQ _ ?zq _; (try delta id foldQ letS2 letS hideG foldN subRN subN ltCut letAE nameRet); exact LetQ.refl
  case zf => intro _ r _; exact r
end

theorem wd_49 : True := by
  (k_with "offL4" => (skip))
  trivial
end
section -- HL1
section
variable {prog : Program} {w : World} {A : Around} {E : Value → Shared → Prop} {base h₀ : Heap} {L : Addr} {m : Str → Option Value} {env : Env} {outer : List Env} {elt : Expr} {x x₂ : Str} {scope : Scope} {cl : List (Str × Addr)}
  {s₁ : Shared} {ax : Addr} {k : Nat} {news : List (Addr × Obj)} {α : Type} {as : List α} {vs : List Value}
theorem paired_take {V : α → Value → Prop} {ys : List Value} {i : Nat} {a : α} {y : Value} (h : Paired V (as.take i) ys) (ha : as[i]? = some a) (hv : V a y) : Paired V (as.take (i + 1)) (ys ++ [y]) := by
  rw [List.take_add_one, ha]; exact h.snoc hv
theorem compX_vals {Fin : Shared → List Value → List (Addr × Obj) → Prop} (V R : α → Value → Prop) (F : Fr h₀ L s₁.heap m) (N : News h₀ L s₁.heap news) (hm : (ax, W.listOf vs.toArray k) ∈ news) (hV : Paired V as vs) (hsz : (vs.length : Int) ≤ 1000)
    (turn : ∀ i ys a v I oI C oC D m₂ h tk, as[i]? = some a → V a v → Paired R (as.take i) ys → LCg.NsObj oC m₂ → m₂ x = some v → Fr h₀ L h m → News h₀ L h ((I, oI) :: (C, oC) :: (D, LCg.lst ys) :: news) → LCg.Off3 I C D news → NeA I C → NeA I D → NeA C D →
      wpAny (model prog w) A (eval elt (compEnvC scope cl C env)) (fun y s' => TurnEnd h₀ L m { s₁ with heap := h, toks := tk } I oI C oC D (LCg.lst ys) (fun nw => nw = news ∧ R a y) s')
        (TurnExn w base h₀ (env :: outer) L C m oC { s₁ with heap := h, toks := tk } (fun _ => False)) { s₁ with heap := h, toks := tk })
    (fin : ∀ ys, Paired R as ys → Fin s₁ ys news) :
    CompX prog w A E base h₀ env outer L m elt x scope cl Fin (.ref ax) s₁ := by
  refine' (?zf : Scr _) ?zq _ ?zs
  case zq =>
    have hz : vs.toArray.size ≤ sizeLine := by rw [List.size_toArray, sizeLine_eq]; omega
    refine ⟨ax, vs.toArray, news, fun i ys nw => nw = news ∧ Paired R (as.take i) ys, fun _ => False, rfl, F, N, hz, ⟨rfl, by simpa using Paired.nil⟩, fun i ys nw h => ⟨k, h.1 ▸ hm⟩, ?_, fun ys nw h => ?_, fun _ _ _ _ _ _ _ _ _ h => h.elim⟩
    · rintro i ys nw v I oI C oC D m₂ h tk hv ⟨rfl, hJ⟩ hC hx F' N' o3 ⟨n1, n2, n3⟩
      obtain ⟨a, ha, hav⟩ := paired_at hV (by simpa using hv)
      refine wpAny_mono (turn i ys a v I oI C oC D m₂ h tk ha hav hJ hC hx F' N' o3 n1 n2 n3) (fun y s' h' => ?_) fun _ _ e => e
      refine hideG ?_; intro g9; obtain ⟨h1, t1, nw1, e1, e2, e3, e4, e5, e6⟩ := h'; k_unfold
      exact ⟨h1, t1, nw1, e1, e2, e3, e4, e5, paired_take hJ ha e6⟩
    · obtain ⟨rfl, h⟩ := h
      rw [List.size_toArray, ← hV.length, List.take_length] at h
      exact fin ys h
  case zs => show LetQ _ ?zq _; (try delta id foldQ letS2 letS hideG foldN subRN subN ltCut letAE nameRet); exact LetQ.refl
  case zf => intro _ r _; exact r
theorem srcLP_vals {Fin : Shared → List Value → List (Addr × Obj) → Prop} (V : α → Value → Prop) (R : α → Value → Prop) (hh : A.handled = none) (F : Fr h₀ L s₁.heap m) (N : News h₀ L s₁.heap news) (hm : (ax, W.listOf vs.toArray k) ∈ news) (hV : Paired V as vs) (hsz : (vs.length : Int) ≤ 1000)
    (hT : ∀ a v, V a v → ∃ (t : Addr) (ot : Obj) (v₁ v₂ : Value) (nt : Nat), v = .ref t ∧ (t, ot) ∈ news ∧ ot.cls = .type "tuple" ∧ ot.data = .seq #[v₁, v₂] nt ∧
      ∀ I oI C oC D ys m₂ h tk (E' : Value → Shared → Prop), LCg.NsObj oC m₂ → m₂ x = some v₁ → m₂ x₂ = some v₂ → Fr h₀ L h m → News h₀ L h ((I, oI) :: (C, oC) :: (D, LCg.lst ys) :: news) → LCg.Off3 I C D news → NeA I C → NeA I D → NeA C D →
        wpAny (model prog w) A (eval elt (compEnvC scope cl C env)) (fun y s' => TurnEnd h₀ L m { s₁ with heap := h, toks := tk } I oI C oC D (LCg.lst ys) (fun nw => nw = news ∧ R a y) s') E' { s₁ with heap := h, toks := tk })
    (fin : ∀ g ys, Paired R as ys → Fin { s₁ with heap := g } ys news) : LCp.SrcLP prog w A h₀ L m env elt x x₂ scope cl Fin (.ref ax) s₁ := by
  refine LCp.SrcLP.ledger hh F N hm (by rw [List.size_toArray, sizeLine_eq]; omega) fun g => ?_
  have go : ∀ (j i : Nat) (ys : List Value), i + j = vs.length → Paired R (as.take i) ys →
      LCp.CompRestP prog w A h₀ L m env elt x x₂ scope cl { s₁ with heap := g } (LCg.SrcAt h₀ ax vs.toArray) (fun i v => vs.toArray[i]? = some v) (Fin { s₁ with heap := g }) j i ys news := by
    intro j
    induction j with
    | zero =>
      intro i ys e h
      refine LCp.CompRestP.zero (fin g ys ?_)
      rw [show i = as.length by rw [hV.length]; omega, List.take_length] at h
      exact h
    | succ j ih =>
      intro i ys e h
      refine LCp.CompRestP.succ fun v hv => ?_
      obtain ⟨a, ha, hav⟩ := paired_at hV (by simpa using hv)
      refine hideG ?_; intro g9; obtain ⟨t, ot, v₁, v₂, nt, e1, e2, e3, e4, e5⟩ := hT a v hav; k_unfold
      refine ⟨t, ot, v₁, v₂, nt, e1, e2, e3, e4, fun I oI C oC D m₂ h' tk E' q1 q2 q3 q4 q5 q6 q7 => ?_⟩
      refine wpAny_mono (e5 I oI C oC D ys m₂ h' tk E' q1 q2 q3 q4 q5 q6 q7.1 q7.2.1 q7.2.2) (fun y s' hy => ?_) fun _ _ e => e
      refine hideG ?_; intro g9; obtain ⟨h1, t1, nw1, z1, z2, z3, z4, e91, z6⟩ := hy; k_unfold; subst e91
      exact ⟨h1, t1, _, z1, z2, z3, z4, .inr ⟨_, hm, rfl, _, rfl⟩, ih (i + 1) (ys ++ [y]) (by omega) (paired_take h ha z6)⟩
  have := go vs.toArray.size 0 [] (by simp) (by simpa using Paired.nil)
  exact this
end
theorem paired_all {α : Type} {V : α → Value → Prop} {p : α → Prop} {as : List α} {vs : List Value} (h : Paired V as vs) (hp : ∀ a ∈ as, p a) : Paired (fun a v => V a v ∧ p a) as vs := by
  induction h with
  | nil => exact .nil
  | cons a r ih => exact .cons ⟨a, hp _ (.head _)⟩ (ih fun a ha => hp a (.tail _ ha))

end
section -- HL2
noncomputable def SmallP : Option (Str × Int) → Prop
  | none => True
  | some p => p.1.length ≤ 100 ∧ 0 ≤ p.2 ∧ p.2 < 1000000000
noncomputable def SmallS (x : Str) : Prop := x.length ≤ 300 ∧ ∀ c ∈ KStt.codes x, c < 65536
theorem placeS_len {o : Option (Str × Int)} (h : SmallP o) : (placeS o).length ≤ 200 := by
  cases o with
  | none => decide
  | some p =>
    have := intS_len h.2.1 h.2.2
    show (p.1 ++ intS p.2).length ≤ 200
    rw [Str.length_append]; have := h.1; omega
noncomputable def nmS : Option Str → Str
  | none => Str.ofString "none"
  | some x => quotedO x
noncomputable def capS (c : Bool × Int) : Str := (if c.1 = true then Str.ofString "frame" else Str.ofString "closure") ++ intS c.2
noncomputable def headS (h : PHead) : List Str := [Txt.join (Str.ofString " ") ([Str.ofString "unit", nmS h.name] ++ flagS h.strict h.args), Txt.join (Str.ofString " ") ([Str.ofString "params"] ++ h.params.map quotedO), Txt.join (Str.ofString " ") ([Str.ofString "places"] ++ h.places.map placeS),
  Str.ofString "own " ++ placeS h.self ++ Str.ofString " " ++ placeS h.argp, Str.ofString "room " ++ intS h.locals ++ Str.ofString " " ++ intS h.cells, Txt.join (Str.ofString " ") ([Str.ofString "captures"] ++ h.caps.map capS)]
noncomputable def SmallH (h : PHead) : Prop := (∀ x, h.name = some x → SmallS x) ∧ (h.params.length ≤ 5 ∧ ∀ x ∈ h.params, SmallS x) ∧ (h.places.length ≤ 5 ∧ ∀ o ∈ h.places, SmallP o) ∧ SmallP h.self ∧ SmallP h.argp ∧ (0 ≤ h.locals ∧ h.locals < 1000000000) ∧ (0 ≤ h.cells ∧ h.cells < 1000000000) ∧
  (h.caps.length ≤ 5 ∧ ∀ c ∈ h.caps, 0 ≤ c.2 ∧ c.2 < 1000000000)
theorem wd_50 : True := by
  (k_with "x_kwd_rel" => ((fail_if_success (k_extra "offHL2")); k_extra "W119"))
  (k_with "x_k_all" => ((fail_if_success (k_extra "offHL2")); k_extra "W120"))
  (k_with "x_k_all" => ((fail_if_success (k_extra "offHL2")); k_extra "W121"))
  (k_with "x_kwd_inv" => ((fail_if_success (k_extra "offHL2")); k_extra "W122"))
  (k_with "m_turnG" => ((fail_if_success (k_extra "offHL2")); k_extra "W123"))
  (k_with "m_finEG" => ((fail_if_success (k_extra "offHL2")); k_extra "W124"))
  (k_with "m_pair" => ((fail_if_success (k_extra "offHL2")); k_extra "W125"))
  (k_with "m_clear" => ((fail_if_success (k_extra "offHL2")); k_extra "W126"))
  (k_with "x_k_mem" => ((fail_if_success (k_extra "offHL2")); k_extra "W151"))
  (k_with "call ref" => ((fail_if_success (k_extra "offHL2")); k_extra "W152"))
  (k_with "call ref nil" => ((fail_if_success (k_extra "offHL2")); k_extra "W152"))
  (k_with "call ref" => ((fail_if_success (k_extra "offHL2")); k_extra "W153"))
  (k_with "call ref nil" => ((fail_if_success (k_extra "offHL2")); k_extra "W153"))
  (k_with "call ref" => ((fail_if_success (k_extra "offHL2")); k_extra "W154"))
  (k_with "call ref nil" => ((fail_if_success (k_extra "offHL2")); k_extra "W154"))
  (k_with "m_cod" => ((fail_if_success (k_extra "offHL2")); k_extra "W155"))
  (k_with "m_len" => ((fail_if_success (k_extra "offHL2")); k_extra "W156"))
  (k_with "subscriptTail Name Constant ref int" => ((fail_if_success (k_extra "offHL2")); k_extra "W129"))
  (k_with "subscriptTail Subscript Name Name Constant ref int" => ((fail_if_success (k_extra "offHL2")); k_extra "W129"))
  trivial
section
variable {w : World} {mean : ExcName → Option Value} {mg mb : Str → Option Value} {sg : List (Addr × Obj)} {v : Value}
theorem c_place_word {o : Option (Str × Int)} (hv : PlaceM sg o v) (hs : SmallP o) : Con w mean mg mb 209 [v] sg 20 (StrP (placeS o) 200 sg) (fun _ => False) := by
  refine' (?zf : Scr _) ?zq _ ?zs
  case zq =>
    have hlen := placeS_len hs
    cases o with
    | none =>
      obtain rfl := hv
      intro prog dp un gd base frs g s Q E S hdp hun hret hexn
      k_extra "m_enter"
      k_steps
      exact strRet hret (by assumption) (by assumption) (by k_extra "m_tailD") ⟨rfl, hlen⟩
    | some p =>
      refine hideG ?_; intro g9; obtain ⟨D, t, t', e91, hm⟩ := hv; k_unfold; subst e91
      obtain ⟨h1, h2, h3⟩ := hs
      obtain ⟨x, n⟩ := p
      dsimp only at h1 h2 h3 hm
      intro prog dp un gd base frs g s Q E S hdp hun hret hexn
      k_extra "m_enter"
      k_steps
      exact strRet hret (by assumption) (by assumption) (by k_extra "m_tailD") ⟨rfl, hlen⟩
  case zs => show LetQ _ ?zq _; (try delta id foldQ letS2 letS hideG foldN subRN subN ltCut letAE nameRet); exact LetQ.refl
  case zf => intro _ r _; exact r
end

theorem wd_51 : True := by
  (k_with "offHL2" => (skip))
  trivial
end
section -- HL3
theorem handName {o : Option Str} {v : Value} (h : NameV o v) : handedIn v = true := by
  cases o with
  | none => obtain rfl := h; rfl
  | some x => obtain ⟨t, rfl⟩ := h; rfl
theorem handPlace {sg : List (Addr × Obj)} {o : Option (Str × Int)} {v : Value} (h : PlaceM sg o v) : handedIn v = true := by
  cases o with
  | none => obtain rfl := h; rfl
  | some x => obtain ⟨D, t, t', rfl, _⟩ := h; rfl
noncomputable def CutNm (h₀ : Heap) (L : Addr) (m : Str → Option Value) (news : List (Addr × Obj)) (s : Shared) (x : Str) (v : Value) (s' : Shared) : Prop :=
  ∃ t h' tk, v = .str x t ∧ s' = { s with heap := h', toks := tk } ∧ Fr h₀ L h' m ∧ News h₀ L h' news ∧ x.length ≤ 1802
theorem cutNm {prog : Program} {w : World} {A : Around} {E : Value → Shared → Prop} {s : Shared} {h₀ : Heap} {L : Addr} {news : List (Addr × Obj)} {Q : Value → Shared → Prop} {m : Str → Option Value} {o : Option Str} {v1 : Value} {c : Sem Value} (_ : Fr h₀ L s.heap m) (_ : News h₀ L s.heap news)
    (hv : NameV o v1) (hs : ∀ x, o = some x → SmallS x)
    (g0 : v1 = .none → wpAny (model prog w) A c (CutNm h₀ L m news s (Str.ofString "none")) E s)
    (g1 : ∀ x t, v1 = .str x t → x.length ≤ 300 → (∀ c ∈ KStt.codes x, c < 65536) → wpAny (model prog w) A c (CutNm h₀ L m news s (quotedO x)) E s)
    (h : ∀ t h' tk, Fr h₀ L h' m → News h₀ L h' news → (nmS o).length ≤ 1802 → Q (.str (nmS o) t) { s with heap := h', toks := tk }) : wpAny (model prog w) A c Q E s := by
  cases o with
  | none => exact wpAny_mono (g0 hv) (fun v s' q9 => by obtain ⟨t, h', tk, a, b, c, d, e⟩ := q9; subst a; subst b; exact h t h' tk c d e) fun _ _ e => e
  | some x =>
    obtain ⟨t, e⟩ := hv
    obtain ⟨z1, z2⟩ := hs x rfl
    exact wpAny_mono (g1 x t e z1 z2) (fun v s' q9 => by obtain ⟨t, h', tk, a, b, c, d, e⟩ := q9; subst a; subst b; exact h t h' tk c d e) fun _ _ e => e
theorem addStrs {prog : Program} {w : World} {A : Around} {E : Value → Shared → Prop} {s : Shared} {h₀ : Heap} {L l b : Addr} {m : Str → Option Value} {news : List (Addr × Obj)} {o1 o2 : Obj} {p1 p2 : List (Str × Tok)} {Q : Value → Shared → Prop} (F : Fr h₀ L s.heap m) (N : News h₀ L s.heap news) (h1 : (l, o1) ∈ news) (h2 : (b, o2) ∈ news)
    (e1 : ∃ n, o1 = W.listOf (strValues p1).toArray n) (e2 : ∃ n, o2 = W.listOf (strValues p2).toArray n) (hz : p1.length + p2.length ≤ 1000)
    (h : ∀ D h', Fr h₀ L h' m → News h₀ L h' ((D, W.listOf (strValues (p1 ++ p2)).toArray 0) :: news) → (∀ p ∈ news, p.1 < D) → Q (.ref D) { s with heap := h' }) : wpAny (model prog w) A (binaryOp .Add (.ref l) (.ref b)) Q E s := by
  obtain ⟨n1, rfl⟩ := e1
  obtain ⟨n2, rfl⟩ := e2
  refine add_lists F N (isList_at N h1) (isList_at N h2) (fun h' a b => h _ h' a (by simpa [strValues] using b) fun p hp => Heap.lt_size (N p hp).1) (by simp [strValues]; rw [sizeLine_eq]; omega)
theorem all_texts {b : Nat} {p1 p2 : List (Str × Tok)} (h1 : ∀ y ∈ texts p1, y.length ≤ b) (h2 : ∀ y ∈ texts p2, y.length ≤ b) : ∀ y ∈ texts (p1 ++ p2), y.length ≤ b := by
  intro y hy
  rw [texts, List.map_append] at hy
  exact (List.mem_append.mp hy).elim (h1 y) (h2 y)
theorem flag_len {st ar : Bool} : ∀ y ∈ flagS st ar, y.length ≤ 1802 := by
  cases st <;> cases ar <;> decide
theorem addStrs1 {prog : Program} {w : World} {A : Around} {E : Value → Shared → Prop} {s : Shared} {h₀ : Heap} {L l b : Addr} {m : Str → Option Value} {news : List (Addr × Obj)} {x0 : Str} {t0 : Tok} {k1 k2 : Nat} {p2 : List (Str × Tok)} {Q : Value → Shared → Prop} (F : Fr h₀ L s.heap m) (N : News h₀ L s.heap news) (h1 : (l, W.listOf #[.str x0 t0] k1) ∈ news) (h2 : (b, W.listOf (strValues p2).toArray k2) ∈ news)
    (hz : p2.length ≤ 900)
    (h : ∀ D h', Fr h₀ L h' m → News h₀ L h' ((D, W.listOf (strValues ([(x0, t0)] ++ p2)).toArray 0) :: news) → (∀ p ∈ news, p.1 < D) → Q (.ref D) { s with heap := h' }) : wpAny (model prog w) A (binaryOp .Add (.ref l) (.ref b)) Q E s :=
  addStrs (p1 := [(x0, t0)]) F N h1 h2 ⟨k1, rfl⟩ ⟨k2, rfl⟩ (by simp only [List.length_cons, List.length_nil]; omega) h
theorem addStrs2 {prog : Program} {w : World} {A : Around} {E : Value → Shared → Prop} {s : Shared} {h₀ : Heap} {L l b : Addr} {m : Str → Option Value} {news : List (Addr × Obj)} {x0 x1 : Str} {t0 t1 : Tok} {k1 k2 : Nat} {p2 : List (Str × Tok)} {Q : Value → Shared → Prop} (F : Fr h₀ L s.heap m) (N : News h₀ L s.heap news) (h1 : (l, W.listOf #[.str x0 t0, .str x1 t1] k1) ∈ news) (h2 : (b, W.listOf (strValues p2).toArray k2) ∈ news)
    (hz : p2.length ≤ 900)
    (h : ∀ D h', Fr h₀ L h' m → News h₀ L h' ((D, W.listOf (strValues ([(x0, t0), (x1, t1)] ++ p2)).toArray 0) :: news) → (∀ p ∈ news, p.1 < D) → Q (.ref D) { s with heap := h' }) : wpAny (model prog w) A (binaryOp .Add (.ref l) (.ref b)) Q E s :=
  addStrs (p1 := [(x0, t0), (x1, t1)]) F N h1 h2 ⟨k1, rfl⟩ ⟨k2, rfl⟩ (by simp only [List.length_cons, List.length_nil]; omega) h
theorem flagsz {st ar : Bool} {pl : List (Str × Tok)} (h : texts pl = flagS st ar) : pl.length ≤ 900 := by
  have := congrArg List.length h
  rw [texts, List.length_map] at this
  rw [this]
  cases st <;> cases ar <;> decide
theorem flagsl {st ar : Bool} {pl : List (Str × Tok)} (h : texts pl = flagS st ar) : ∀ y ∈ texts pl, y.length ≤ 2500 := fun y hy => by
  rw [h] at hy
  exact Nat.le_trans (flag_len y hy) (by decide)
theorem joinT {prog : Program} {w : World} {A : Around} {E : Value → Shared → Prop} {s : Shared} {h₀ : Heap} {L l : Addr} {news : List (Addr × Obj)} {sep : Str} {t : Tok} {pl : List (Str × Tok)} {k : Nat} {Q : Value → Shared → Prop} (N : News h₀ L s.heap news) (hm : (l, W.listOf (strValues pl).toArray k) ∈ news)
    (hs : sep.length ≤ 16) (hall : ∀ y ∈ texts pl, y.length ≤ 2500) (hn : pl.length ≤ 1000)
    (h : ∀ t' k, (Txt.join sep (texts pl)).length ≤ pl.length * 2516 → Q (.str (Txt.join sep (texts pl)) t') { s with toks := k }) : wpAny (model prog w) A (call (.builtin "str.join") [.str sep t, .ref l]) Q E s :=
  joinN (b := 2500) N hm ⟨_, _, rfl, strsAre_vals⟩ hs hall (by decide) (by simpa [texts] using hn) fun t' k z => h t' k (by simpa [texts] using z)
theorem all_texts1 {b : Nat} {x0 : Str} {t0 : Tok} (h0 : x0.length ≤ b) : ∀ y ∈ texts [(x0, t0)], y.length ≤ b := all_cons h0 all_nil
theorem all_texts2 {b : Nat} {x0 x1 : Str} {t0 t1 : Tok} (h0 : x0.length ≤ b) (h1 : x1.length ≤ b) : ∀ y ∈ texts [(x0, t0), (x1, t1)], y.length ≤ b := all_cons h0 (all_cons h1 all_nil)
theorem app_len {p1 p2 : List (Str × Tok)} {n : Nat} (h : p1.length + p2.length ≤ n) : (p1 ++ p2).length ≤ n := by rw [List.length_append]; exact h
theorem strs_self : ∀ {xs : List (Str × Tok)}, Paired (fun (p : Str × Tok) v => v = Value.str p.1 p.2) xs (strValues xs)
  | [] => .nil
  | _ :: _ => .cons rfl strs_self
theorem strs_of2 {xs : List (Str × Tok)} {ys : List Value} (h : Paired (fun (p : Str × Tok) y => ∃ t, y = Value.str (quotedO p.1) t ∧ (quotedO p.1).length ≤ 1802) xs ys) : ∃ ql, ys = strValues ql ∧ texts ql = (texts xs).map quotedO ∧ (∀ y ∈ texts ql, y.length ≤ 2500) ∧ ql.length = xs.length := by
  induction h with
  | nil => exact ⟨[], rfl, rfl, all_nil, rfl⟩
  | @cons p y xs ys a r ih =>
    refine hideG ?_; intro g9; obtain ⟨ql, h1, h2, h3, h4⟩ := ih; k_unfold
    obtain ⟨t, e, hl⟩ := a
    exact ⟨(quotedO p.1, t) :: ql, by rw [e, h1]; rfl, by rw [texts, List.map_cons, texts, List.map_cons, List.map_cons, ← texts, ← texts, h2], all_cons (Nat.le_trans hl (by decide)) h3, by rw [List.length_cons, h4, List.length_cons]⟩
theorem strs_of3 {α : Type} {f : α → Str} {b : Nat} (hb : b ≤ 2500) {as : List α} {ys : List Value} (h : Paired (fun a y => ∃ t, y = Value.str (f a) t ∧ (f a).length ≤ b) as ys) : ∃ ql, ys = strValues ql ∧ texts ql = as.map f ∧ (∀ y ∈ texts ql, y.length ≤ 2500) ∧ ql.length = as.length := by
  induction h with
  | nil => exact ⟨[], rfl, rfl, all_nil, rfl⟩
  | @cons p y xs ys a r ih =>
    refine hideG ?_; intro g9; obtain ⟨ql, h1, h2, h3, h4⟩ := ih; k_unfold
    obtain ⟨t, e, hl⟩ := a
    exact ⟨(f p, t) :: ql, by rw [e, h1]; rfl, by rw [texts, List.map_cons, List.map_cons, ← texts, h2], all_cons (Nat.le_trans hl hb) h3, by rw [List.length_cons, h4, List.length_cons]⟩
theorem off3pI {I C D : Addr} {sg : List (Addr × Obj)} (h : LCg.Off3 I C D sg) : ∀ p ∈ sg, p.1 ≠ I := fun p hp => (h.mem p hp).1
theorem off3pC {I C D : Addr} {sg : List (Addr × Obj)} (h : LCg.Off3 I C D sg) : ∀ p ∈ sg, p.1 ≠ C := fun p hp => (h.mem p hp).2.1
theorem off3pD {I C D : Addr} {sg : List (Addr × Obj)} (h : LCg.Off3 I C D sg) : ∀ p ∈ sg, p.1 ≠ D := fun p hp => (h.mem p hp).2.2
theorem off1p {D : Addr} {l : List (Addr × Obj)} (h : LCg.Off1 D l) : ∀ p ∈ l, p.1 ≠ D := by
  induction l with
  | nil => intro p hp; exact absurd hp List.not_mem_nil
  | cons q r ih =>
    intro p hp
    have h' : NeA q.1 D ∧ LCg.Off1 D r := h
    rcases List.mem_cons.mp hp with e | hp
    · rw [e]; exact h'.1
    · exact ih h'.2 p hp
theorem capS_len {b : Bool} {n : Int} (h0 : 0 ≤ n) (h1 : n < 1000000000) : (capS (b, n)).length ≤ 20 := by
  refine' (?zf : Scr _) ?zq _ ?zs
  case zq =>
    have := intS_len h0 h1
    have e1 : (Str.ofString "closure").length = 7 := by decide
    have e2 : (Str.ofString "frame").length = 5 := by decide
    unfold capS
    rw [Str.length_append]
    cases b
    · show (Str.ofString "closure").length + _ ≤ 20
      rw [e1]; show 7 + (intS n).length ≤ 20; omega
    · show (Str.ofString "frame").length + _ ≤ 20
      rw [e2]; show 5 + (intS n).length ≤ 20; omega
  case zs => show LetQ _ ?zq _; (try delta id foldQ letS2 letS hideG foldN subRN subN ltCut letAE nameRet); exact LetQ.refl
  case zf => intro _ r _; exact r
theorem head_eq {h : PHead} {x1 x2 x3 x4 x5 x6 : Str} {t1 t2 t3 t4 t5 t6 : Tok}
    (e1 : x1 = Txt.join (Str.ofString " ") ([Str.ofString "unit", nmS h.name] ++ flagS h.strict h.args)) (e2 : x2 = Txt.join (Str.ofString " ") ([Str.ofString "params"] ++ h.params.map quotedO)) (e3 : x3 = Txt.join (Str.ofString " ") ([Str.ofString "places"] ++ h.places.map placeS))
    (e4 : x4 = Str.ofString "own " ++ placeS h.self ++ Str.ofString " " ++ placeS h.argp) (e5 : x5 = Str.ofString "room " ++ intS h.locals ++ Str.ofString " " ++ intS h.cells) (e6 : x6 = Txt.join (Str.ofString " ") ([Str.ofString "captures"] ++ h.caps.map capS)) :
    texts [(x1, t1), (x2, t2), (x3, t3), (x4, t4), (x5, t5), (x6, t6)] = headS h := by
  subst e1; subst e2; subst e3; subst e4; subst e5; subst e6; rfl
theorem join1 {x : Str} {t : Tok} {pl : List (Str × Tok)} {ys : List Str} (h : texts pl = ys) : Txt.join (Str.ofString " ") (texts ([(x, t)] ++ pl)) = Txt.join (Str.ofString " ") ([x] ++ ys) := by rw [← h]; rfl
theorem join2 {x y : Str} {t t' : Tok} {pl : List (Str × Tok)} {ys : List Str} (h : texts pl = ys) : Txt.join (Str.ofString " ") (texts ([(x, t), (y, t')] ++ pl)) = Txt.join (Str.ofString " ") ([x, y] ++ ys) := by rw [← h]; rfl
theorem wd_52 : True := by
  (k_with "x_kwd_rel" => ((fail_if_success (k_extra "offHL3")); k_extra "W119"))
  (k_with "x_k_all" => ((fail_if_success (k_extra "offHL3")); k_extra "W120"))
  (k_with "x_k_all" => ((fail_if_success (k_extra "offHL3")); k_extra "W121"))
  (k_with "x_kwd_inv" => ((fail_if_success (k_extra "offHL3")); k_extra "W122"))
  (k_with "m_turnG" => ((fail_if_success (k_extra "offHL3")); k_extra "W123"))
  (k_with "m_finEG" => ((fail_if_success (k_extra "offHL3")); k_extra "W124"))
  (k_with "m_pair" => ((fail_if_success (k_extra "offHL3")); k_extra "W125"))
  (k_with "m_clear" => ((fail_if_success (k_extra "offHL3")); k_extra "W126"))
  (k_with "x_k_mem" => ((fail_if_success (k_extra "offHL3")); k_extra "W151"))
  (k_with "call ref" => ((fail_if_success (k_extra "offHL3")); k_extra "W152"))
  (k_with "call ref nil" => ((fail_if_success (k_extra "offHL3")); k_extra "W152"))
  (k_with "call ref" => ((fail_if_success (k_extra "offHL3")); k_extra "W153"))
  (k_with "call ref nil" => ((fail_if_success (k_extra "offHL3")); k_extra "W153"))
  (k_with "call ref" => ((fail_if_success (k_extra "offHL3")); k_extra "W154"))
  (k_with "call ref nil" => ((fail_if_success (k_extra "offHL3")); k_extra "W154"))
  (k_with "m_cod" => ((fail_if_success (k_extra "offHL3")); k_extra "W155"))
  (k_with "m_len" => ((fail_if_success (k_extra "offHL3")); k_extra "W156"))
  (k_with "subscriptTail Name Constant ref int" => ((fail_if_success (k_extra "offHL3")); k_extra "W129"))
  (k_with "subscriptTail Subscript Name Name Constant ref int" => ((fail_if_success (k_extra "offHL3")); k_extra "W129"))
  (k_with "call ref" => ((fail_if_success (k_extra "offHL3")); k_extra "W157"))
  (k_with "call ref cons nil" => ((fail_if_success (k_extra "offHL3")); k_extra "W157"))
  (k_with "call ref" => ((fail_if_success (k_extra "offHL3")); k_extra "W158"))
  (k_with "call ref cons nil" => ((fail_if_success (k_extra "offHL3")); k_extra "W158"))
  (k_with "call ref" => ((fail_if_success (k_extra "offHL3")); k_extra "W161"))
  (k_with "call ref cons nil" => ((fail_if_success (k_extra "offHL3")); k_extra "W161"))
  (k_with "W167" => ((k_here; (with_reducible show wpAny _ _ (call (Value.ref 209) _) _ _ _); (try (k_extra "m_foldq")); k_dflt (refine' conU (by k_asm) (by k_asm) (by k_asm) (by k_asm) (by k_asm) (by exact rfl) (by exact rfl) (c_place_word (by k_extra "m_plm") (by k_extra "m_pls")) (by k_extra "m_foot") (by k_room) (by k_units) ?_); (intro t9' h' tk' hq' F' N'; (try k_sweep); (try dsimp only)))))
  (k_with "call ref" => ((fail_if_success (k_extra "offHL3")); k_extra "W167"))
  (k_with "call ref nil" => ((fail_if_success (k_extra "offHL3")); k_extra "W167"))
  (k_with "call ref cons nil" => ((fail_if_success (k_extra "offHL3")); k_extra "W167"))
  (k_with "W168" => ((k_here; (with_reducible show wpAny _ _ (call (Value.ref 223) _) _ _ _); (try (k_extra "m_foldq")); k_dflt (refine' conL (by k_asm) (by k_asm) (by k_asm) (by k_asm) (by k_asm) (by exact rfl) (by exact rfl) (c_flag_words (by k_mem) (by k_mem)) (by k_extra "m_foot") (by k_room) (by k_units) ?_); (try ((with_reducible rename pairNe _ => dN8); clear dN8)); (intro pl' k' D' h' tk' hpl' F' N' dN9; (have hz9 := flagsz hpl'); (with_reducible refine foldN N' ?_); clear N'; intro n9 N'; (try k_sweep); (try dsimp only)))))
  (k_with "call ref" => ((fail_if_success (k_extra "offHL3")); k_extra "W168"))
  (k_with "call ref nil" => ((fail_if_success (k_extra "offHL3")); k_extra "W168"))
  (k_with "call ref cons nil" => ((fail_if_success (k_extra "offHL3")); k_extra "W168"))
  (k_with "W169" => (with_reducible assumption))
  (k_with "m_plm" => ((fail_if_success (k_extra "offHL3")); k_extra "W169"))
  (k_with "m_pls" => ((fail_if_success (k_extra "offHL3")); k_extra "W169"))
  (k_with "m_words" => ((fail_if_success (k_extra "offHL3")); k_extra "W164"))
  (k_with "m_word" => ((fail_if_success (k_extra "offHL3")); k_extra "W165"))
  (k_with "W170" => ((k_here; k_dflt (refine' joinN (b := 2500) (by k_asm) (by k_mem) (by (refine' ⟨_, _, rfl, (by first | exact StrsAre.nil | exact strsAre_vals | exact StrsAre.cons _ _ (StrsAre.nil) | exact StrsAre.cons _ _ (strsAre_vals) | exact StrsAre.cons _ _ (StrsAre.cons _ _ (StrsAre.nil)) | exact StrsAre.cons _ _ (StrsAre.cons _ _ (strsAre_vals)) | exact StrsAre.cons _ _ (StrsAre.cons _ _ (StrsAre.cons _ _ (StrsAre.nil))) | exact StrsAre.cons _ _ (StrsAre.cons _ _ (StrsAre.cons _ _ (strsAre_vals))) | exact StrsAre.cons _ _ (StrsAre.cons _ _ (StrsAre.cons _ _ (StrsAre.cons _ _ (StrsAre.nil)))) | exact StrsAre.cons _ _ (StrsAre.cons _ _ (StrsAre.cons _ _ (StrsAre.cons _ _ (strsAre_vals)))) | exact StrsAre.cons _ _ (StrsAre.cons _ _ (StrsAre.cons _ _ (StrsAre.cons _ _ (StrsAre.cons _ _ (StrsAre.nil))))) | exact StrsAre.cons _ _ (StrsAre.cons _ _ (StrsAre.cons _ _ (StrsAre.cons _ _ (StrsAre.cons _ _ (strsAre_vals))))) | exact StrsAre.cons _ _ (StrsAre.cons _ _ (StrsAre.cons _ _ (StrsAre.cons _ _ (StrsAre.cons _ _ (StrsAre.cons _ _ (StrsAre.nil)))))) | exact StrsAre.cons _ _ (StrsAre.cons _ _ (StrsAre.cons _ _ (StrsAre.cons _ _ (StrsAre.cons _ _ (StrsAre.cons _ _ (strsAre_vals)))))))⟩)) (by decide) (by k_extra "m_words") (by decide) (by first | omega | (simp only [List.length_cons, List.length_nil, List.length_append, List.length_map]; omega)) ?_); (intro t9 k9 z9; (try dsimp only)))))
  (k_with "call builtin:str.join cons nil" => ((fail_if_success (k_extra "offHL3")); k_extra "W170"))
  (k_with "x_k_handed" => ((fail_if_success (k_extra "offHL3")); k_extra "W169"))
  (k_with "W171" => ((k_here; k_dflt (refine' cutNm (by k_asm) (by k_asm) (by with_reducible assumption) (by assumption) ?_ ?_ ?_); rotate_left; rotate_left; (intro t9 h9 k9 F9 N9 z9; (try dsimp only)); rotate_left; (intro e9; subst e9; (try dsimp only)); rotate_left; (intro x9 t9 e9 z8 z7; subst e9; (try dsimp only)); rotate_left)))
  (k_with "eval IfExp Compare Constant Call" => ((fail_if_success (k_extra "offHL3")); k_extra "W171"))
  (k_with "eval ListComp Call cons" => ((fail_if_success (k_extra "offHL3")); k_extra "W100"))
  (k_with "W172" => ((k_here; (try (k_extra "m_and")); k_dflt (first | (refine' addStrs2 (by k_asm) (by k_asm) (by k_mem) (by k_mem) (by k_extra "m_sz") ?_) | (refine' addStrs1 (by k_asm) (by k_asm) (by k_mem) (by k_mem) (by k_extra "m_sz") ?_)); (intro D' h' F' N' l1; (try k_extra "klt"); (try dsimp only)))))
  (k_with "binaryOp Add ref ref" => ((fail_if_success (k_extra "offHL3")); k_extra "W172"))
  (k_with "W173" => (first | omega | exact flagsz (by with_reducible assumption)))
  (k_with "m_sz" => ((fail_if_success (k_extra "offHL3")); k_extra "W173"))
  (k_with "W174" => (first | assumption | decide | omega))
  (k_with "m_wd" => ((fail_if_success (k_extra "offHL3")); k_extra "W174"))
  (k_with "W175" => (first | exact flagsl (by with_reducible assumption) | with_reducible assumption | exact all_texts2 (by k_extra "m_wd") (by k_extra "m_wd") | exact all_texts1 (by k_extra "m_wd")))
  (k_with "m_wds" => ((fail_if_success (k_extra "offHL3")); k_extra "W175"))
  (k_with "W176" => ((k_here; k_dflt (refine' joinT (by k_asm) (by k_mem) (by decide) (by exact all_texts (by k_extra "m_wds") (by k_extra "m_wds")) (by refine app_len ?_; (simp only [List.length_cons, List.length_nil]); first | omega | (have z9 := flagsz (by with_reducible assumption); omega)) ?_); (intro t9 k9 z9; (try dsimp only)))))
  (k_with "call builtin:str.join cons nil" => ((fail_if_success (k_extra "offHL3")); k_extra "W176"))
  (k_with "W177" => ((k_here; k_dflt (refine' appendNews (by k_asm) (by k_asm) (by k_upd) (by first | omega | (simp only [List.length_append, List.length_cons, List.length_nil]; omega)) ?_); intro h9 F9 N9; (try dsimp only))))
  (k_with "call builtin:list.append cons nil" => ((fail_if_success (k_extra "offHL3")); k_extra "W177"))
  (k_with "W178" => ((k_dflt (refine' turnEnd (by k_asm) (by k_asm) (by ((try simp only [List.cons_append, List.nil_append]); kwd_inv)) (by first | with_reducible assumption | assumption) ⟨rfl, ?_⟩); (try dsimp only))))
  (k_with "TurnEnd" => ((fail_if_success (k_extra "offHL3")); k_extra "W178"))
  (k_with "W179" => ((intro i9 ys9 a9 v9 I9 oI9 C9 oC9 D9 m9 h9 tk9 hp9 hv9 hP9 hC9 hx9 F9 N9 o9 n1 n2 n3; (have o9k := o9); (try ((with_reducible rename pairNe _ => dN8); (refine dCut (pn3 dN8 o9 n1 n2 n3 rfl) ?_); clear dN8; intro dN9)); (try dsimp only))))
  (k_with "m_turnV" => ((fail_if_success (k_extra "offHL3")); k_extra "W179"))
  (k_with "m_finE" => ((fail_if_success (k_extra "offHL3")); k_extra "W105"))
  (k_with "W180" => (first | (with_reducible exact off3pI (by assumption)) | (with_reducible exact off3pC (by assumption)) | (with_reducible exact off3pD (by assumption)) | (with_reducible exact off1p (by assumption))))
  (k_with "x_k_all" => ((fail_if_success (k_extra "offHL3")); k_extra "W180"))
  (k_with "W181" => ((k_here; (with_reducible show wpAny _ _ (exec (Stmt.Assign _ (Expr.ListComp _ [⟨.Tuple _ _ _, _, _, _⟩] _ _) _) _) _ _ _); k_dflt (refine LCp.Assign_ListComp_P (F₀ := by k_asm) (by rfl) (by with_unfolding_all rfl) (by with_unfolding_all rfl) (by decide) (by rfl) (by decide) (by rfl) (by rfl) (by decide) (by rfl) (by rfl) ?_); (try dsimp only))))
  (k_with "exec Assign cons ListComp" => ((fail_if_success (k_extra "offHL3")); k_extra "W181"))
  (k_with "W182" => ((k_here; k_extra "m_srcP")))
  (k_with "SrcLP" => ((fail_if_success (k_extra "offHL3")); k_extra "W182"))
  (k_with "W183" => ((intro I9 oI9 C9 oC9 D9 ys9 m9 h9 tk9 E9 hC9 hx9 hy9 F9 N9 o9 n1 n2 n3; (have o9k := o9); (try ((with_reducible rename pairNe _ => dN8); (refine dCut (pn3 dN8 o9 n1 n2 n3 rfl) ?_); clear dN8; intro dN9)); (try dsimp only))))
  (k_with "m_turnP" => ((fail_if_success (k_extra "offHL3")); k_extra "W183"))
  (k_with "W184" => (((unfold LCg.FinA); intro D' h' tk' F' N' o1'; ((with_reducible rename pairNe _ => dN8); (refine dCut (pn1 dN8 o1' rfl) ?_); clear dN8; clear o1'; intro dN9); (try simp only [List.nil_append, List.cons_append] at N'); (try dsimp only))))
  (k_with "FinA" => ((fail_if_success (k_extra "offHL3")); k_extra "W184"))
  (k_with "W185" => (refine callWith_method1 ?_))
  (k_with "callWith builtin:list.append cons nil" => ((fail_if_success (k_extra "offHL3")); k_extra "W185"))
  (k_with "callWith builtin:str.join cons nil" => ((fail_if_success (k_extra "offHL3")); k_extra "W185"))
  (k_with "W186" => (first | exact List.mem_cons_self | (refine List.mem_cons_of_mem _ ?_; k_extra "m_mem") | ((fail_if_success refine List.mem_cons_of_mem _ ?_); assumption)))
  (k_with "m_mem" => ((fail_if_success (k_extra "offHL3")); k_extra "W186"))
  (k_with "W187" => (first | with_reducible (k_extra "m_mem") | k_extra "m_mem"))
  (k_with "x_k_mem" => ((fail_if_success (k_extra "offHL3")); k_extra "W187"))
  (k_with "W188" => ((k_here; (try (k_extra "m_and")); k_dflt (first | (refine' addStrs2 (by k_asm) (by k_asm) (by with_reducible (k_extra "m_mem")) (by k_extra "m_mem") (by k_extra "m_sz") ?_) | (refine' addStrs1 (by k_asm) (by k_asm) (by k_extra "m_mem") (by k_extra "m_mem") (by k_extra "m_sz") ?_)); (intro D' h' F' N' l1; (try k_extra "klt"); (try dsimp only)))))
  (k_with "binaryOp Add ref ref" => ((fail_if_success (k_extra "offHL3")); k_extra "W188"))
  trivial
section
variable {w : World} {mean : ExcName → Option Value} {mg mb : Str → Option Value} {sg : List (Addr × Obj)} {U dU aC aK aU aH aL : Addr} {u1 u2 u3 u4 u5 u6 u7 u8 u9 u10 u11 u12 u13 u14 u15 : Tok} {v1 v2 v8 v9 v10 v11 v12 v13 v14 v15 : Value} {h : PHead}
theorem c_head_lines (hU : (U, instObj 117 dU) ∈ sg) (hD : (dU, dictOf (ud w u1 u2 u3 u4 u5 u6 u7 u8 u9 u10 u11 u12 u13 u14 u15 v1 v2 (.ref aC) (.ref aK) (.ref aU) (.ref aH) (.ref aL) v8 v9 v10 v11 v12 v13 v14 v15) 15) ∈ sg) (hH : HeadM sg h v1 v2 v8 v9 v10 v11 v12 v13 v14 v15) (hS : SmallH h) :
   Con w mean mg mb 228 [.ref U] sg 150 (LinesP (headS h) sg) (fun _ => False) := by
  refine' (?zf : Scr _) ?zq _ ?zs
  case zq =>
    refine hideG ?_; intro g9; obtain ⟨hS1, ⟨hS2, hS3⟩, ⟨hS4, hS5⟩, hS6, hS7, ⟨hS8, hS9⟩, ⟨hSa, hSb⟩, hSc, hSd⟩ := hS; k_unfold
    refine hideG ?_; intro g9; obtain ⟨hH1, ⟨aP, xs, e91, hP1, hP2⟩, ⟨t8, e92⟩, ⟨t9, e93⟩, ⟨aX, ys, e94, hX1, hX2⟩, e95, e96, hM1, hM2, aZ, zs, e97, hZ1, hZ2⟩ := hH; k_unfold; subst e91; subst e92; subst e93; subst e94; subst e95; subst e96; subst e97
    refine hideG ?_; intro g9; obtain ⟨hname, hparams, hst, har, hplaces, hself, hargp, hloc, hcel, hcaps⟩ := h; k_unfold
    dsimp only at hS1 hS2 hS3 hS4 hS5 hS6 hS7 hS8 hS9 hSa hSb hSc hSd hH1 hP2 hX2 hM1 hM2 hZ2 hD
    have hd1 := handName hH1
    have hd13 := handPlace hM1
    have hd14 := handPlace hM2
    replace hP1 : (aP, W.listOf (strValues xs).toArray (strValues xs).length) ∈ sg := hP1
    replace hX1 : (aX, W.listOf ys.toArray ys.length) ∈ sg := hX1
    replace hZ1 : (aZ, W.listOf zs.toArray zs.length) ∈ sg := hZ1
    intro prog dp un gd base frs g s Q E S hdp hun hret hexn; refine nameRet hret ?_; clear hret; intro P9 hret
    k_extra "m_enter"
    have hq3 : ∀ (i : Nat) (p : Str × Tok), xs[i]? = some p → p.1.length ≤ 300 ∧ ∀ c ∈ KStt.codes p.1, c < 65536 := fun i p hp => hS3 _ (by rw [← hP2]; exact List.mem_map_of_mem (List.mem_of_getElem? hp))
    have hql : xs.length ≤ 5 := by rw [← hP2, texts, List.length_map] at hS2; exact hS2
    k_steps
    · refine compX_vals (as := xs) (fun p v => v = Value.str p.1 p.2) (fun p y => ∃ t, y = Value.str (quotedO p.1) t ∧ (quotedO p.1).length ≤ 1802) (by k_asm) (by k_asm) (by k_mem) strs_self (by simp [strValues]; omega) ?turn1 ?fin1
      case turn1 =>
        k_extra "m_turnV"
        obtain ⟨hqa, hqb⟩ := hq3 _ _ (by assumption)
        subst_vars
        k_steps
      case fin1 =>
        k_extra "m_finE"
        (rename Paired _ _ _ => hPy)
        refine hideG ?_; intro g9; obtain ⟨ql, e91, hq1, hq2, hq4⟩ := strs_of2 hPy; k_unfold; subst e91
        k_steps
        refine compX_vals (as := hplaces) (PlaceM sg) (fun o y => ∃ t, y = Value.str (placeS o) t ∧ (placeS o).length ≤ 200) (by k_asm) (by k_asm) (by k_mem) hZ2 (by rw [← hZ2.length]; omega) ?turn2 ?fin2
        case turn2 =>
          k_extra "m_turnV"
          have hq5 := hS5 _ (List.mem_of_getElem? (by assumption))
          k_steps
        case fin2 =>
          k_extra "m_finE"
          (rename Paired _ _ _ => hPy)
          refine hideG ?_; intro g9; obtain ⟨qp, e91, hq5, hq6, hq7⟩ := strs_of3 (by decide) hPy; k_unfold; subst e91
          k_steps
          · refine srcLP_vals (as := hcaps) (fun c v => CapM sg c v ∧ 0 ≤ c.2 ∧ c.2 < 1000000000) (fun c y => ∃ t, y = Value.str (capS c) t ∧ (capS c).length ≤ 20) rfl (by k_asm) (by k_asm) (by k_mem) (paired_all hX2 hSd) (by rw [← hX2.length]; omega) ?turn3 ?fin3
            case turn3 =>
              rintro ⟨b, n⟩ v ⟨⟨D, t, rfl, hm⟩, hn0, hn1⟩
              dsimp only at hn0 hn1 hm
              cases b
              all_goals refine ⟨_, _, _, _, _, rfl, by k_mem, rfl, rfl, ?_⟩
              all_goals k_extra "m_turnP"
              all_goals k_steps
              all_goals first | exact capS_len hn0 hn1 | exact ⟨_, rfl, capS_len hn0 hn1⟩
            case fin3 =>
              intro g ys hPy
              refine hideG ?_; intro g9; obtain ⟨qc, e91, hqe, hqf, hqg⟩ := strs_of3 (by decide) hPy; k_unfold; subst e91
              k_steps
              refine' list_ret hret ?S9 ?N9 ?x9 ?o9
              case S9 => assumption
              case N9 => assumption
              case x9 => k_extra "m_tailD"
              case o9 =>
                refine ⟨[(_, _), (_, _), (_, _), (_, _), (_, _), (_, _)], _, rfl, ?_⟩
                exact head_eq (join2 (by assumption)) (join1 (hq1.trans (by rw [hP2]))) (join1 hq5) rfl rfl (join1 hqe)
    · exact ⟨_, _, _, rfl, rfl, by assumption, by assumption, by decide⟩
    · exact ⟨_, _, _, rfl, rfl, by assumption, by assumption, by omega⟩
  case zs => show LetQ _ ?zq _; (try delta id foldQ letS2 letS hideG foldN subRN subN ltCut letAE nameRet); exact LetQ.refl
  case zf => intro _ r _; exact r
end

theorem wd_53 : True := by
  (k_with "offHL3" => (skip))
  trivial
end
section -- FO
noncomputable def TurnF (h₀ : Heap) (L : Addr) (s₁ : Shared) (I : Addr) (oI : Obj) (J : (Str → Option Value) → List (Addr × Obj) → Prop) (Q : Flow → Shared → Prop) (f : Flow) (s' : Shared) : Prop :=
  match f with
  | .ret v => Q (.ret v) s'
  | .brk => Q .next s'
  | _ => ∃ h' tk m nw, s' = { s₁ with heap := h', toks := tk } ∧ Fr h₀ L h' m ∧ News h₀ L h' ((I, oI) :: nw) ∧ (∀ p ∈ nw, p.1 ≠ I) ∧ J m nw
noncomputable def IterS (prog : Program) (w : World) (A : Around) (I : Addr) (n : Nat) (P : Nat → Value → Prop) (St : Nat → Obj → Heap → Prop) : Prop :=
  (∀ i (s : Shared) oI (Q : Option Value → Shared → Prop) (E : Value → Shared → Prop), i < n → s.heap.get? I = some oI → St i oI s.heap → (∀ v h' tk oI', P i v → h'.get? I = some oI' → (∀ b o, b ≠ I → s.heap.get? b = some o → h'.get? b = some o) → St (i + 1) oI' h' → Q (some v) { s with heap := h', toks := tk }) → wpAny (model prog w) A (pyNext (.ref I)) Q E s) ∧
  (∀ (s : Shared) oI (Q : Option Value → Shared → Prop) (E : Value → Shared → Prop), s.heap.get? I = some oI → St n oI s.heap → (∀ h' tk, (∀ b o, b ≠ I → s.heap.get? b = some o → h'.get? b = some o) → Q none { s with heap := h', toks := tk }) → wpAny (model prog w) A (pyNext (.ref I)) Q E s)
section
variable {prog : Program} {w : World} {A : Around} {E : Value → Shared → Prop} {s : Shared} {env : Env} {h₀ : Heap} {target iter : Expr} {body : List Stmt} {pos : Pos} {Q : Flow → Shared → Prop}
/-- the loop behind its iterator -/
theorem for_core {R : Result → Shared → Prop} {I : Addr} {oI : Obj} {n : Nat} {P : Nat → Value → Prop} {St : Nat → Obj → Heap → Prop} {m : Str → Option Value} {news : List (Addr × Obj)} (J : Nat → (Str → Option Value) → List (Addr × Obj) → Prop) (Dep : List (Addr × Obj) → Prop)
    (W : IterS prog w A I n P St) (hgo : ∀ i oI v s' (Q' : Unit → Shared → Prop), s'.heap.get? I = some oI → St i oI s'.heap → P (i - 1) v → 0 < i → Q' () s' → wpAny (model prog w) A (letOwnedTupleGo target (.ref I) v) Q' (fun _ _ => False) s')
    (hJD : ∀ i m nw, J i m nw → Dep nw) (hst0 : St 0 oI s.heap)
    (F : Fr h₀ env.locals s.heap m) (N : News h₀ env.locals s.heap ((I, oI) :: news)) (hI : ∀ p ∈ news, p.1 ≠ I) (J0 : J 0 m news)
    (hst2 : ∀ i oI h h' nw nw', St i oI h → Dep nw → Dep nw' → News h₀ env.locals h ((I, oI) :: nw) → News h₀ env.locals h' ((I, oI) :: nw') → St i oI h')
    (turn : ∀ i v m₁ nw oI h tk, i < n → P i v → J i m₁ nw → Fr h₀ env.locals h m₁ → News h₀ env.locals h ((I, oI) :: nw) → (∀ p ∈ nw, p.1 ≠ I) →
      wpAny (model prog w) A (assign target env v) (fun _ s₂ => wpAny (model prog w) A (execs body env) (TurnF h₀ env.locals { s with heap := h, toks := tk } I oI (J (i + 1)) Q) (fun _ _ => False) s₂) (fun _ _ => False) { s with heap := h, toks := tk })
    (done : ∀ m₁ nw h tk, J n m₁ nw → Fr h₀ env.locals h m₁ → News h₀ env.locals h nw → Q .next { s with heap := h, toks := tk })
    (hR : ∀ f s', Q f s' → R (.ok f) s') :
    codeAny (model prog w) A (.forLoop target (.ref I) body [] env) R s := by
  have hI0 : h₀.get? I = none := (N (I, oI) (.head _)).2.2
  have hIL : env.locals ≠ I := Ne.symm (N (I, oI) (.head _)).2.1
  refine codeAny_forLoop_any
    (fun k s' => ∃ h' tk m' nw i oI, s' = { s with heap := h', toks := tk } ∧ Fr h₀ env.locals h' m' ∧ News h₀ env.locals h' ((I, oI) :: nw) ∧ (∀ p ∈ nw, p.1 ≠ I) ∧ St i oI h' ∧ J i m' nw ∧ i ≤ n ∧ k = n + 1 - i) ?_ (n + 1)
    ⟨s.heap, s.toks, m, news, 0, oI, rfl, F, N, hI, hst0, J0, Nat.zero_le _, rfl⟩
  rintro k s' ⟨h', tk, m', nw, i, oI, rfl, F', N', hI', hst, hJ, hi, rfl⟩
  have hg : h'.get? I = some oI := (N' _ (.head _)).1
  by_cases hlt : i < n
  · refine W.1 i _ oI _ _ hlt hg hst fun v h₁ tk₁ oI' hP hg₁ hk₁ hst₁ => ?_
    have hk : ∀ b o, b ∉ [I] → h'.get? b = some o → h₁.get? b = some o := fun b o hb e => hk₁ b o (fun q => hb (by simp [q])) e
    have F₁ := LCg.fr_but F' hk hIL hI0
    have N₁ : News h₀ env.locals h₁ ((I, oI') :: nw) := fun p hp => by
      rcases List.mem_cons.mp hp with rfl | hp
      · exact ⟨hg₁, Ne.symm hIL, hI0⟩
      · exact ⟨hk _ _ (by simpa using hI' p hp) (N' p (.tail _ hp)).1, (N' p (.tail _ hp)).2⟩
    refine wpAny_mono (hgo (i + 1) oI' v _ _ hg₁ hst₁ hP (Nat.succ_pos _) ?_) (fun _ _ e => e) fun _ _ e => e.elim
    refine wpAny_mono (turn i v m' nw oI' h₁ tk₁ hlt hP hJ F₁ N₁ hI') (fun _ s₂ h₂ => wpAny_mono h₂ (fun f s₃ h₃ => ?_) fun _ _ e => e.elim) fun _ _ e => e.elim
    have go : (∃ h' tk m nw, s₃ = { s with heap := h', toks := tk } ∧ Fr h₀ env.locals h' m ∧ News h₀ env.locals h' ((I, oI') :: nw) ∧ (∀ p ∈ nw, p.1 ≠ I) ∧ J (i + 1) m nw) → ∃ k, k < n + 1 - i ∧ ∃ h' tk m' nw j oI, s₃ = { s with heap := h', toks := tk } ∧ Fr h₀ env.locals h' m' ∧ News h₀ env.locals h' ((I, oI) :: nw) ∧ (∀ p ∈ nw, p.1 ≠ I) ∧ St j oI h' ∧ J j m' nw ∧ j ≤ n ∧ k = n + 1 - j := by
      rintro ⟨h₄, tk₃, m₃, nw₃, rfl, F₃, N₃, hI₃, hJ₃⟩
      exact ⟨n + 1 - (i + 1), by omega, h₄, tk₃, m₃, nw₃, i + 1, oI', rfl, F₃, N₃, hI₃, hst2 _ _ _ _ _ _ hst₁ (hJD _ _ _ hJ) (hJD _ _ _ hJ₃) N₁ N₃, hJ₃, hlt, rfl⟩
    cases f with
    | ret v => exact hR _ _ h₃
    | brk => exact hR _ _ h₃
    | next => exact go h₃
    | cont => exact go h₃
  · have hin : i = n := by omega
    subst hin
    refine W.2 _ oI _ _ hg hst fun h₁ tk₁ hk₁ => wpAny_execs_nil ?_
    have hk : ∀ b o, b ∉ [I] → h'.get? b = some o → h₁.get? b = some o := fun b o hb e => hk₁ b o (fun q => hb (by simp [q])) e
    exact hR _ _ (done m' nw h₁ tk₁ hJ (LCg.fr_but F' hk hIL hI0) (LCg.news_but N'.tail' hk hI'))
theorem iter_list (hh : A.handled = none) {I l : Addr} {vs : List Value} (hne : l ≠ I) :
    IterS prog w A I vs.length (fun i v => vs[i]? = some v) (fun i oI h => oI.cls = .type "list_iterator" ∧ oI.data = .fields #[.ref l, .int i 0] ∧ h.IsList l vs.toArray) := by
  constructor
  · rintro i s oI Q E hi hg ⟨h1, h2, h3⟩ hQ
    refine wpAny_pyNext_list_item ⟨oI, hg, h1, h2⟩ h3 (x := vs[i]) (by simp [hi]) fun h' hit' hs' => ?_
    refine hideG ?_; intro g9; obtain ⟨o', e1, e2, e3⟩ := hit'; k_unfold
    exact hQ _ h' s.toks o' (by simp [hi]) e1 (fun b o hb e => hs'.extBut b o hb e) ⟨e2, e3, h3.extBut hs'.extBut hne⟩
  · rintro s oI Q E hg ⟨h1, h2, h3⟩ hQ
    exact wpAny_pyNext_list_end hh ⟨oI, hg, h1, h2⟩ h3 (by simp) fun h' he' => hQ h' s.toks he'
theorem iter_range (hh : A.handled = none) {I : Addr} {n : Nat} :
    IterS prog w A I n (fun i v => ∃ t, v = .int (i : Nat) t) (fun i oI _ => oI = { cls := .type "range_iterator", dict := none, data := .fields #[rawInt (i : Nat), rawInt ((n : Int) - (i : Nat)), rawInt 1], slots := #[] }) := by
  constructor
  · rintro i s oI Q E hi hg rfl hQ
    refine wpAny_pyNext_range_item hg (by omega) fun h' hit' hs' => ?_
    refine hQ _ h' _ _ ⟨_, rfl⟩ hit' (fun b o hb e => hs'.extBut b o hb e) ?_
    show _ = _
    rw [show ((i + 1 : Nat) : Int) = (i : Int) + 1 by omega, show (n : Int) - ((i : Int) + 1) = (n : Int) - (i : Int) - 1 by omega]
  · rintro s oI Q E hg rfl hQ
    exact wpAny_pyNext_range_end hh hg (by omega) fun h' he' => hQ h' s.toks he'
inductive ForL (prog : Program) (w : World) (A : Around) (h₀ : Heap) (L : Addr) (env : Env) (target : Expr) (body : List Stmt) (ok : Value → Prop) (Q : Flow → Shared → Prop) (xv : Value) (s₁ : Shared) : Prop
  | mk (l : Addr) (vs : List Value) (m : Str → Option Value) (news : List (Addr × Obj)) (J : Nat → (Str → Option Value) → List (Addr × Obj) → Prop) (hq1 : xv = .ref l) (hq2 : (∀ v ∈ vs, ok v)) (hq3 : Fr h₀ L s₁.heap m) (hq4 : News h₀ L s₁.heap news) (hq5 : J 0 m news) (hq6 : (∀ i m nw, J i m nw → ∃ k, (l, W.listOf vs.toArray k) ∈ nw)) (hq7 : (∀ i v m₁ nw I oI h tk, vs[i]? = some v → J i m₁ nw → Fr h₀ L h m₁ → News h₀ L h ((I, oI) :: nw) → (∀ p ∈ nw, p.1 ≠ I) → wpAny (model prog w) A (assign target env v) (fun _ s₂ => wpAny (model prog w) A (execs body env) (TurnF h₀ L { s₁ with heap := h, toks := tk } I oI (J (i + 1)) Q) (fun _ _ => False) s₂) (fun _ _ => False) { s₁ with heap := h, toks := tk })) (hq8 : (∀ m₁ nw h tk, J vs.length m₁ nw → Fr h₀ L h m₁ → News h₀ L h nw → Q .next { s₁ with heap := h, toks := tk })) : ForL prog w A h₀ L env target body ok Q xv s₁
theorem for_list {m₀ : Str → Option Value} {ok : Value → Prop} {L : Addr} (hL : env.locals = L) (_F : Fr h₀ L s.heap m₀) (hh : A.handled = none) (hsf : ∀ x, foldedSetIterable iter env x = pure x)
    (hgo : ∀ I l i v s' (Q' : Unit → Shared → Prop), ok v → s'.heap.IsListIter I l i → Q' () s' → wpAny (model prog w) A (letOwnedTupleGo target (.ref I) v) Q' (fun _ _ => False) s')
    (h : wpAny (model prog w) A (eval iter env) (ForL prog w A h₀ L env target body ok Q) E s) : wpAny (model prog w) A (exec (.For target iter body [] pos) env) Q E s := by
  subst hL
  refine wpAny_For (wpAny_mono h (fun xv s₁ h₁ => ?_) fun _ _ e => e) hsf
  refine hideG ?_; intro g9; obtain ⟨l, vs, m, news, J, e91, hok, F, N, J0, Jm, turn, done⟩ := h₁; k_unfold; subst e91
  obtain ⟨k0, hm0⟩ := Jm _ _ _ J0
  have hl : s₁.heap.IsList l vs.toArray := isList_at N hm0
  have hlt : l < s₁.heap.objs.size := Heap.lt_size (N _ hm0).1
  have hne : l ≠ s₁.heap.objs.size := Nat.ne_of_lt hlt
  refine wpAny_pyIter_list hl ?_
  generalize hIs : s₁.heap.objs.size = I at *
  have up : ∀ b o, s₁.heap.get? b = some o → (s₁.heap.push { cls := .type "list_iterator", data := .fields #[.ref l, .int 0 0] }).get? b = some o := fun b o e => Heap.get?_push_of_some _ e
  have hIn := next_is_new F
  rw [hIs] at hIn
  have gI : (s₁.heap.push { cls := .type "list_iterator", data := .fields #[.ref l, .int 0 0] }).get? I = some { cls := .type "list_iterator", data := .fields #[.ref l, .int 0 0] } := by rw [← hIs]; exact Heap.get?_push_size _ rfl
  have hIL : I ≠ env.locals := by
    have := F.ns.lt
    rw [hIs] at this
    exact Nat.ne_of_gt this
  exact for_core (R := fun r s' => match r with | .ok f => Q f s' | .error e => cameBackBy (model prog w) A env E e s') J (fun nw => ∃ k, (l, W.listOf vs.toArray k) ∈ nw) (iter_list hh hne)
    (fun i oI v s' Q' hg hs hp h0 hq => hgo I l i v s' Q' (hok v (List.mem_of_getElem? hp)) ⟨oI, hg, hs.1, hs.2.1⟩ hq) Jm ⟨rfl, rfl, hl.at fun o e => up _ o e⟩ (F.push _)
    (fun p hp => by
      rcases List.mem_cons.mp hp with rfl | hp
      · exact ⟨gI, hIL, hIn⟩
      · exact ⟨up _ _ (N p hp).1, (N p hp).2⟩)
    (fun p hp e => absurd (Heap.lt_size (N p hp).1) (by rw [e, hIs]; exact Nat.lt_irrefl _)) J0
    (fun i oI h h' nw nw' st _ ⟨k, hk⟩ _ N' => ⟨st.1, st.2.1, ⟨_, (N' _ (.tail _ hk)).1, rfl, _, rfl⟩⟩)
    (fun i v m₁ nw oI h tk _ hp hJ F₁ N₁ hI => turn i v m₁ nw I oI h tk hp hJ F₁ N₁ hI)
    (fun m₁ nw h tk hJ F₁ N₁ => done m₁ nw h tk hJ F₁ N₁) (fun _ _ h => h)
noncomputable def rangeO (a b c : Int) (t u v : Tok) : Obj := { cls := .type "range", dict := none, data := .fields #[.int a t, .int b u, .int c v], slots := #[] }
inductive ForR (prog : Program) (w : World) (A : Around) (h₀ : Heap) (L : Addr) (env : Env) (target : Expr) (body : List Stmt) (Q : Flow → Shared → Prop) (xv : Value) (s₁ : Shared) : Prop
  | mk (r : Addr) (n : Nat) (t u v : Tok) (m : Str → Option Value) (news : List (Addr × Obj)) (J : Nat → (Str → Option Value) → List (Addr × Obj) → Prop) (hq1 : xv = .ref r) (hq2 : n ≤ 100000) (hq3 : Fr h₀ L s₁.heap m) (hq4 : News h₀ L s₁.heap news) (hq5 : (r, rangeO 0 n 1 t u v) ∈ news) (hq6 : J 0 m news) (hq7 : (∀ i t m₁ nw I oI h tk, i < n → J i m₁ nw → Fr h₀ L h m₁ → News h₀ L h ((I, oI) :: nw) → (∀ p ∈ nw, p.1 ≠ I) → wpAny (model prog w) A (assign target env (.int (i : Nat) t)) (fun _ s₂ => wpAny (model prog w) A (execs body env) (TurnF h₀ L { s₁ with heap := h, toks := tk } I oI (J (i + 1)) Q) (fun _ _ => False) s₂) (fun _ _ => False) { s₁ with heap := h, toks := tk })) (hq8 : (∀ m₁ nw h tk, J n m₁ nw → Fr h₀ L h m₁ → News h₀ L h nw → Q .next { s₁ with heap := h, toks := tk })) : ForR prog w A h₀ L env target body Q xv s₁
theorem range_small {n : Nat} (h : n ≤ 100000) : Builtin.Range.small 0 n 1 = true ∧ Builtin.Range.rangeSize 0 n 1 = n := by
  have e : Builtin.Range.rangeSize 0 n 1 = n := by
    unfold Builtin.Range.rangeSize
    simp
    omega
  refine ⟨?_, e⟩
  unfold Builtin.Range.small
  rw [e]
  unfold Builtin.Range.rangeFitsLong
  simp
  omega
theorem for_range {m₀ : Str → Option Value} {L : Addr} (hL : env.locals = L) (_F : Fr h₀ L s.heap m₀) (hh : A.handled = none) (hsf : ∀ x, foldedSetIterable iter env x = pure x)
    (hgo : ∀ I v, letOwnedTupleGo target (.ref I) v = pure ())
    (h : wpAny (model prog w) A (eval iter env) (ForR prog w A h₀ L env target body Q) E s) : wpAny (model prog w) A (exec (.For target iter body [] pos) env) Q E s := by
  subst hL
  refine wpAny_For (wpAny_mono h (fun xv s₁ h₁ => ?_) fun _ _ e => e) hsf
  refine hideG ?_; intro g9; obtain ⟨r, n, t, u, v, m, news, J, e91, hn, F, N, hm, J0, turn, done⟩ := h₁; k_unfold; subst e91
  refine wpAny_pyIter_range (N _ hm).1 (range_small hn).1 ?_
  rw [(range_small hn).2]
  generalize hIs : s₁.heap.objs.size = I at *
  have hIn := next_is_new F
  rw [hIs] at hIn
  have gI : (s₁.heap.push { cls := .type "range_iterator", data := .fields #[rawInt 0, rawInt n, rawInt 1] }).get? I = some { cls := .type "range_iterator", data := .fields #[rawInt 0, rawInt n, rawInt 1] } := by rw [← hIs]; exact Heap.get?_push_size _ rfl
  have up : ∀ b o, s₁.heap.get? b = some o → (s₁.heap.push { cls := .type "range_iterator", data := .fields #[rawInt 0, rawInt n, rawInt 1] }).get? b = some o := fun b o e => Heap.get?_push_of_some _ e
  have hIL : I ≠ env.locals := by
    have := F.ns.lt
    rw [hIs] at this
    exact Nat.ne_of_gt this
  exact for_core (R := fun r s' => match r with | .ok f => Q f s' | .error e => cameBackBy (model prog w) A env E e s') (oI := { cls := .type "range_iterator", data := .fields #[rawInt 0, rawInt n, rawInt 1] }) J (fun _ => True) (iter_range hh)
    (fun i oI v s' Q' hg hs hp h0 hq => by rw [hgo]; exact wpAny_pure hq) (fun _ _ _ _ => trivial) (by show _ = _; simp) (F.push _)
    (fun p hp => by
      rcases List.mem_cons.mp hp with rfl | hp
      · exact ⟨gI, hIL, hIn⟩
      · exact ⟨up _ _ (N p hp).1, (N p hp).2⟩)
    (fun p hp e => absurd (Heap.lt_size (N p hp).1) (by rw [e, hIs]; exact Nat.lt_irrefl _)) J0
    (fun i oI h h' nw nw' st _ _ _ _ => st)
    (fun i v m₁ nw oI h tk hi q9 hJ F₁ N₁ hI => by obtain ⟨t', hp⟩ := q9; subst hp; exact turn i t' m₁ nw I oI h tk hi hJ F₁ N₁ hI)
    (fun m₁ nw h tk hJ F₁ N₁ => done m₁ nw h tk hJ F₁ N₁) (fun _ _ h => h)
end

end
section -- UT
theorem allBe {l all : List (Addr × Obj)} (h : ∀ p ∈ l, p ∈ all) {q : Addr × Obj} (hq : q ∈ all) : ∀ p ∈ q :: l, p ∈ all := fun p hp => (List.mem_cons.mp hp).elim (fun e => e ▸ hq) (h p)
theorem updNews {d : Addr} {o o' : Obj} {l l' : List (Addr × Obj)} (U : Upd d o o' l l') : ∀ p ∈ l', p = (d, o') ∨ (p ∈ l ∧ p.1 ≠ d) := by
  refine hideG ?_; intro g9; obtain ⟨pre, post, e91, e92, h1, h2⟩ := U.split; k_unfold; subst e91; subst e92
  intro p hp
  rcases List.mem_append.mp hp with hp | hp
  · exact .inr ⟨List.mem_append_left _ hp, h1 p hp⟩
  · rcases List.mem_cons.mp hp with e | hp
    · exact .inl e
    · exact .inr ⟨List.mem_append_right _ (.tail _ hp), h2 p hp⟩
theorem updMem {d : Addr} {o o' : Obj} {l l' : List (Addr × Obj)} (U : Upd d o o' l l') : (d, o) ∈ l := by
  refine hideG ?_; intro g9; obtain ⟨pre, post, e91, _⟩ := U.split; k_unfold; subst e91
  exact List.mem_append_right _ (.head _)
theorem extendNews {prog : Program} {w : World} {A : Around} {E : Value → Shared → Prop} {s : Shared} {h₀ : Heap} {L D b : Addr} {m : Str → Option Value} {news : List (Addr × Obj)} {nw : Obj → List (Addr × Obj)} {vs ws : List Value} {n k : Nat} {Q : Value → Shared → Prop}
    (F : Fr h₀ L s.heap m) (N : News h₀ L s.heap news) (U : ∀ o', Upd D (W.listOf vs.toArray n) o' news (nw o')) (hb : (b, W.listOf ws.toArray k) ∈ news) (hsz : ((vs.length + ws.length : Nat) : Int) ≤ 2000)
    (h : ∀ h' n', Fr h₀ L h' m → News h₀ L h' (nw (W.listOf (vs ++ ws).toArray n')) → Q .none { s with heap := h' }) : wpAny (model prog w) A (call (.builtin "list.extend") [.ref D, .ref b]) Q E s := by
  obtain ⟨z1, z2, z3⟩ := N _ (updMem (U (W.listOf #[] 0)))
  have hz : vs.toArray.size + ws.toArray.size ≤ sizeLine := by rw [List.size_toArray, List.size_toArray, sizeLine_eq]; omega
  refine call_meets PySem.F.slot_list_extend ⟨_, z1, rfl⟩ PySem.F.entry_list_extend (PySem.F.args_list_extend_2 _ _) (AutoSeq1.list_extend_list_list_0 D vs.toArray n b ws.toArray k (extend_door hz) (Nat.le_trans (Nat.le_add_right _ _) hz) (Nat.le_trans hz (Nat.le_succ _))) ⟨z1, (N _ hb).1, ?_⟩
  have e : vs.toArray ++ ws.toArray = (vs ++ ws).toArray := by simp
  have ho' : (s.heap.update D (Obj.mapSeq fun x => x ++ ws.toArray)).get? D = some (W.listOf (vs ++ ws).toArray (if (vs.toArray ++ ws.toArray).size == vs.toArray.size then n else n + 1)) := by
    rw [Heap.get?_update_self _ z1 (by rw [W.listOf, mapSeq_app]; rfl), W.listOf, mapSeq_app, e]
  refine h _ (if (vs.toArray ++ ws.toArray).size == vs.toArray.size then n else n + 1) (F.change (Heap.SameBut.update ..) z2 z3) fun p hp => ?_
  rcases updNews (U _) p hp with rfl | ⟨hp, hd⟩
  · exact ⟨ho', z2, z3⟩
  · exact ⟨(Heap.SameBut.update ..).extBut _ _ hd (N p hp).1, (N p hp).2⟩
theorem strValues_len {p : List (Str × Tok)} : (strValues p).length = (texts p).length := by simp [strValues, texts]
inductive LineEnd (h₀ : Heap) (L I : Addr) (oI : Obj) (D U : Addr) (sg : List (Addr × Obj)) (s : Shared) (xs : List Str) (f : Flow) (s' : Shared) : Prop
  | mk (hq1 : f = .next) (h' : Heap) (tk' : Nat) (u : Str → Option Value) (n : Nat) (pl : List (Str × Tok)) (hq2 : s' = { s with heap := h', toks := tk' }) (hq3 : Fr h₀ L h' (fun z => if z = Str.ofString "lines" then some (.ref D) else if z = Str.ofString "unit" then some (.ref U) else u z)) (hq4 : News h₀ L h' ((I, oI) :: (D, W.listOf (strValues pl).toArray n) :: sg)) (hq5 : texts pl = xs) : LineEnd h₀ L I oI D U sg s xs f s'
theorem lineEnd {h₀ h' : Heap} {L I : Addr} {oI o : Obj} {D U : Addr} {sg all : List (Addr × Obj)} {s : Shared} {xs : List Str} {m : Str → Option Value} {tk' : Nat} (F : Fr h₀ L h' m) (N : News h₀ L h' all) (hI : (I, oI) ∈ all) (hD : (D, o) ∈ all) (hs : ∀ p ∈ sg, p ∈ all)
    (h1 : m (Str.ofString "lines") = some (.ref D)) (h2 : m (Str.ofString "unit") = some (.ref U)) (ho : ∃ n pl, o = W.listOf (strValues pl).toArray n ∧ texts pl = xs) : LineEnd h₀ L I oI D U sg s xs .next { s with heap := h', toks := tk' } := by
  refine hideG ?_; intro g9; obtain ⟨n, pl, e91, e⟩ := ho; k_unfold; subst e91
  refine ⟨rfl, h', tk', m, n, pl, rfl, ?_, fun p hp => N p ?_, e⟩
  · have : (fun z => if z = Str.ofString "lines" then some (Value.ref D) else if z = Str.ofString "unit" then some (Value.ref U) else m z) = m := by
      funext z
      by_cases a : z = Str.ofString "lines"
      · rw [if_pos a, a, h1]
      · rw [if_neg a]
        by_cases b : z = Str.ofString "unit"
        · rw [if_pos b, b, h2]
        · rw [if_neg b]
    rw [this]; exact F
  · rcases List.mem_cons.mp hp with rfl | hp
    · exact hI
    · exact allBe hs hD p hp
section
variable {prog : Program} {w : World} {A : Around} {E : Value → Shared → Prop} {s₁ : Shared} {env : Env} {h₀ : Heap} {target : Expr} {body : List Stmt} {Q : Flow → Shared → Prop} {L D U : Addr} {sg : List (Addr × Obj)} {pl : List (Str × Tok)} {u0 : Str → Option Value} {n : Nat}
theorem forL_lines {α : Type} {as : List α} {vs : List Value} {V : α → Value → Prop} (f : α → List Str) {ok : Value → Prop} {l : Addr} {k : Nat} (hm : (l, W.listOf vs.toArray k) ∈ sg) (hV : Paired V as vs) (hok : ∀ v ∈ vs, ok v)
    (F : Fr h₀ L s₁.heap (fun z => if z = Str.ofString "lines" then some (.ref D) else if z = Str.ofString "unit" then some (.ref U) else u0 z)) (N : News h₀ L s₁.heap ((D, W.listOf (strValues pl).toArray n) :: sg)) (hD : pairNe ((D, dumO) :: sg)) (hB : (texts pl).length + (as.flatMap f).length ≤ 900)
    (turn : ∀ (a : α) (v : Value) (pl' : List (Str × Tok)) (n' : Nat) (u : Str → Option Value) (I : Addr) (oI : Obj) (h : Heap) (tk : Nat), a ∈ as → V a v → (strValues pl').length + (f a).length ≤ 900 → pairNe ((I, dumO) :: (D, dumO) :: sg) →
      Fr h₀ L h (fun z => if z = Str.ofString "lines" then some (.ref D) else if z = Str.ofString "unit" then some (.ref U) else u z) → News h₀ L h ((I, oI) :: (D, W.listOf (strValues pl').toArray n') :: sg) →
      wpAny (model prog w) A (assign target env v) (fun _ s₂ => wpAny (model prog w) A (execs body env) (LineEnd h₀ L I oI D U sg { s₁ with heap := h, toks := tk } (texts pl' ++ f a)) (fun _ _ => False) s₂) (fun _ _ => False) { s₁ with heap := h, toks := tk })
    (done : ∀ (pl' : List (Str × Tok)) (n' : Nat) (u : Str → Option Value) (h : Heap) (tk : Nat), texts pl' = texts pl ++ as.flatMap f → Fr h₀ L h (fun z => if z = Str.ofString "lines" then some (.ref D) else if z = Str.ofString "unit" then some (.ref U) else u z) → News h₀ L h ((D, W.listOf (strValues pl').toArray n') :: sg) → Q .next { s₁ with heap := h, toks := tk }) :
    ForL prog w A h₀ L env target body ok Q (.ref l) s₁ := by
  refine ⟨l, vs, _, _, fun i m nw => ∃ (pl' : List (Str × Tok)) (n' : Nat) (u : Str → Option Value), m = (fun z => if z = Str.ofString "lines" then some (.ref D) else if z = Str.ofString "unit" then some (.ref U) else u z) ∧ nw = (D, W.listOf (strValues pl').toArray n') :: sg ∧ texts pl' = texts pl ++ (as.take i).flatMap f, rfl, hok, F, N,
    ⟨pl, n, u0, rfl, rfl, by simp⟩, fun i m nw ⟨_, _, _, _, e, _⟩ => ⟨k, by rw [e]; exact .tail _ hm⟩, ?_, ?_⟩
  · rintro i v m₁ nw I oI h tk hv ⟨pl', n', u, rfl, rfl, e⟩ F' N' hI
    obtain ⟨a, ha, hav⟩ := paired_at hV hv
    have hI' : pairNe ((I, dumO) :: (D, dumO) :: sg) := ⟨neAll_iff.mpr fun p hp => (List.mem_cons.mp hp).elim (fun e => by rw [e]; exact hI (D, W.listOf (strValues pl').toArray n') (.head _)) fun hp => hI p (.tail _ hp), hD⟩
    have htk : as.take (i + 1) = as.take i ++ [a] := by rw [List.take_add_one, ha]; rfl
    have hlen : ((as.take (i + 1)).flatMap f).length ≤ (as.flatMap f).length := by
      conv => rhs; rw [← List.take_append_drop (i + 1) as]
      rw [List.flatMap_append, List.length_append]; omega
    have hle : (strValues pl').length + (f a).length ≤ 900 := by
      rw [htk, List.flatMap_append, List.length_append] at hlen
      rw [strValues_len, e, List.length_append]
      simp only [List.flatMap_cons, List.flatMap_nil, List.append_nil] at hlen
      omega
    refine wpAny_mono (turn a v pl' n' u I oI h tk (List.mem_of_getElem? ha) hav hle hI' F' N') (fun _ s₂ h₂ => wpAny_mono h₂ (fun f' s₃ h₃ => ?_) fun _ _ e => e) fun _ _ e => e
    refine hideG ?_; intro g9; obtain ⟨e91, h', tk', u', n'', pl'', e1, F₃, N₃, e2⟩ := h₃; k_unfold; subst e91
    refine ⟨h', tk', _, _, e1, F₃, N₃, ?_, pl'', n'', u', rfl, rfl, ?_⟩
    · intro p hp
      rcases List.mem_cons.mp hp with rfl | hp
      · exact hI (D, W.listOf (strValues pl').toArray n') (.head _)
      · exact hI p (.tail _ hp)
    · rw [e2, e, htk, List.flatMap_append, List.append_assoc]
      simp
  · rintro m₁ nw h tk ⟨pl', n', u, rfl, rfl, e⟩ F' N'
    refine done pl' n' u h tk ?_ F' N'
    rw [e, ← hV.length, List.take_length]
theorem forR_lines (f : Nat → List Str) {c : Nat} {r : Addr} {t u' v' : Tok} {rest : List (Addr × Obj)}
    (F : Fr h₀ L s₁.heap (fun z => if z = Str.ofString "lines" then some (.ref D) else if z = Str.ofString "unit" then some (.ref U) else u0 z)) (N : News h₀ L s₁.heap rest) (hr : (r, rangeO 0 c 1 t u' v') ∈ rest) (hs : ∀ p ∈ (D, W.listOf (strValues pl).toArray n) :: sg, p ∈ rest) (hD : pairNe ((D, dumO) :: sg)) (hB : (texts pl).length + ((List.range c).flatMap f).length ≤ 900) (hc : c ≤ 100000)
    (turn : ∀ (i : Nat) (t : Tok) (pl' : List (Str × Tok)) (n' : Nat) (u : Str → Option Value) (I : Addr) (oI : Obj) (h : Heap) (tk : Nat), i < c → (strValues pl').length + (f i).length ≤ 900 → pairNe ((I, dumO) :: (D, dumO) :: sg) →
      Fr h₀ L h (fun z => if z = Str.ofString "lines" then some (.ref D) else if z = Str.ofString "unit" then some (.ref U) else u z) → News h₀ L h ((I, oI) :: (D, W.listOf (strValues pl').toArray n') :: sg) →
      wpAny (model prog w) A (assign target env (.int (i : Nat) t)) (fun _ s₂ => wpAny (model prog w) A (execs body env) (LineEnd h₀ L I oI D U sg { s₁ with heap := h, toks := tk } (texts pl' ++ f i)) (fun _ _ => False) s₂) (fun _ _ => False) { s₁ with heap := h, toks := tk })
    (done : ∀ (pl' : List (Str × Tok)) (n' : Nat) (u : Str → Option Value) (h : Heap) (tk : Nat), texts pl' = texts pl ++ (List.range c).flatMap f → Fr h₀ L h (fun z => if z = Str.ofString "lines" then some (.ref D) else if z = Str.ofString "unit" then some (.ref U) else u z) → News h₀ L h ((D, W.listOf (strValues pl').toArray n') :: sg) → Q .next { s₁ with heap := h, toks := tk }) :
    ForR prog w A h₀ L env target body Q (.ref r) s₁ := by
  refine ⟨r, c, t, u', v', _, (r, rangeO 0 c 1 t u' v') :: (D, W.listOf (strValues pl).toArray n) :: sg, fun i m nw => ∃ (pl' : List (Str × Tok)) (n' : Nat) (u : Str → Option Value) (x : List (Addr × Obj)), m = (fun z => if z = Str.ofString "lines" then some (.ref D) else if z = Str.ofString "unit" then some (.ref U) else u z) ∧ nw = x ++ (D, W.listOf (strValues pl').toArray n') :: sg ∧ texts pl' = texts pl ++ ((List.range c).take i).flatMap f, rfl, hc, F,
    fun p hp => by
      rcases List.mem_cons.mp hp with rfl | hp
      · exact N _ hr
      · exact N p (hs p hp), .head _,
    ⟨pl, n, u0, [_], rfl, rfl, by simp⟩, ?_, ?_⟩
  · rintro i t m₁ nw I oI h tk hi ⟨pl', n', u, x, rfl, rfl, e⟩ F' N' hI
    have hI₂ : ∀ p ∈ (D, W.listOf (strValues pl').toArray n') :: sg, p.1 ≠ I := fun p hp => hI p (List.mem_append_right _ hp)
    have hI' : pairNe ((I, dumO) :: (D, dumO) :: sg) := ⟨neAll_iff.mpr fun p hp => (List.mem_cons.mp hp).elim (fun e => by rw [e]; exact hI₂ (D, W.listOf (strValues pl').toArray n') (.head _)) fun hp => hI₂ p (.tail _ hp), hD⟩
    have ha : (List.range c)[i]? = some i := by rw [List.getElem?_range hi]
    have htk : (List.range c).take (i + 1) = (List.range c).take i ++ [i] := by rw [List.take_add_one, ha]; rfl
    have hlen : (((List.range c).take (i + 1)).flatMap f).length ≤ ((List.range c).flatMap f).length := by
      conv => rhs; rw [← List.take_append_drop (i + 1) (List.range c)]
      rw [List.flatMap_append, List.length_append]; omega
    have hle : (strValues pl').length + (f i).length ≤ 900 := by
      rw [htk, List.flatMap_append, List.length_append] at hlen
      rw [strValues_len, e, List.length_append]
      simp only [List.flatMap_cons, List.flatMap_nil, List.append_nil] at hlen
      omega
    refine wpAny_mono (turn i t pl' n' u I oI h tk hi hle hI' F' (fun p hp => N' p ?_)) (fun _ s₂ h₂ => wpAny_mono h₂ (fun f' s₃ h₃ => ?_) fun _ _ e => e) fun _ _ e => e
    · rcases List.mem_cons.mp hp with rfl | hp
      · exact .head _
      · exact .tail _ (List.mem_append_right _ hp)
    refine hideG ?_; intro g9; obtain ⟨e91, h', tk', u', n'', pl'', e1, F₃, N₃, e2⟩ := h₃; k_unfold; subst e91
    refine ⟨h', tk', _, _, e1, F₃, N₃, ?_, pl'', n'', u', [], rfl, rfl, ?_⟩
    · intro p hp
      rcases List.mem_cons.mp hp with rfl | hp
      · exact hI₂ (D, W.listOf (strValues pl').toArray n') (.head _)
      · exact hI₂ p (.tail _ hp)
    · rw [e2, e, htk, List.flatMap_append, List.append_assoc]
      simp
  · rintro m₁ nw h tk ⟨pl', n', u, x, rfl, rfl, e⟩ F' N'
    refine done pl' n' u h tk ?_ F' (fun p hp => N' p (List.mem_append_right _ hp))
    rw [e, List.take_of_length_le (by simp)]
end
theorem ovF {h₀ h : Heap} {L D U : Addr} {m : Str → Option Value} (F : Fr h₀ L h m) (h1 : m (Str.ofString "lines") = some (.ref D)) (h2 : m (Str.ofString "unit") = some (.ref U)) :
    Fr h₀ L h (fun z => if z = Str.ofString "lines" then some (Value.ref D) else if z = Str.ofString "unit" then some (Value.ref U) else m z) := by
  have : (fun z => if z = Str.ofString "lines" then some (Value.ref D) else if z = Str.ofString "unit" then some (Value.ref U) else m z) = m := by
    funext z
    by_cases a : z = Str.ofString "lines"
    · rw [if_pos a, a, h1]
    · rw [if_neg a]
      by_cases b : z = Str.ofString "unit"
      · rw [if_pos b, b, h2]
      · rw [if_neg b]
  rw [this]; exact F
noncomputable def handS (z : Int × Int × Int × Int × Bool) : Str := Txt.join (Str.ofString " ") [Str.ofString "handler", intS z.1, intS z.2.1, intS z.2.2.1, intS z.2.2.2.1, if z.2.2.2.2 = true then Str.ofString "finally" else Str.ofString "catch"]
noncomputable def codeL (b : PBody) (i : Nat) : Str := codeS b.consts (i : Nat) (b.code.getD i (0, none)).1 (b.code.getD i (0, none)).2 (b.lines.getD i 0)
noncomputable def linesF : Nat → UTree → List Str
  | 0, _ => []
  | n + 1, t => headS t.body.head ++ t.body.consts.flatMap (fun c => [Str.ofString "const " ++ constS c]) ++ t.body.handlers.flatMap (fun z => [handS z]) ++ (List.range t.body.code.length).flatMap (fun i => [codeL t.body i]) ++ t.us.flatMap (linesF n) ++ [Str.ofString "end"]
noncomputable def SmallI (n : Int) : Prop := 0 ≤ n ∧ n < 1000000000
noncomputable def SmallB (b : PBody) : Prop := SmallH b.head ∧ (b.consts.length ≤ 100 ∧ ∀ c ∈ b.consts, SmallC c) ∧ (∀ z ∈ b.handlers, SmallI z.1 ∧ SmallI z.2.1 ∧ SmallI z.2.2.1 ∧ SmallI z.2.2.2.1) ∧
  (b.code.length ≤ 100 ∧ b.lines.length = b.code.length ∧ ∀ c ∈ b.code, (0 ≤ c.1 ∧ c.1 < 85) ∧ ∀ a, c.2 = some a → SmallI a) ∧ ∀ l ∈ b.lines, SmallI l
noncomputable def SmallT : Nat → UTree → Prop
  | 0, _ => True
  | n + 1, t => SmallB t.body ∧ ∀ u ∈ t.us, SmallT n u
noncomputable abbrev ULP (n : Nat) (t : UTree) (sg : List (Addr × Obj)) : Value → List (Addr × Obj) → Prop := LinesP (linesF n t) sg
noncomputable def UL (w : World) (mean : ExcName → Option Value) (mg mb : Str → Option Value) (sg : List (Addr × Obj)) (n : Nat) : Prop := ∀ t v, UAt w sg n t v → SmallT n t → (linesF n t).length ≤ 900 → Con w mean mg mb 256 [v] sg (160 + n) (ULP n t sg) (fun _ => False)
theorem ulUse {w : World} {mean : ExcName → Option Value} {mg mb : Str → Option Value} {sg : List (Addr × Obj)} {n : Nat} {t : UTree} {v : Value} (H : UL w mean mg mb sg n) (h1 : UAt w sg n t v) (h2 : SmallT n t) (h3 : (linesF n t).length ≤ 900) : Con w mean mg mb 256 [v] sg (160 + n) (ULP n t sg) (fun _ => False) := H t v h1 h2 h3
theorem UAt.isRef {w : World} {sg : List (Addr × Obj)} {n : Nat} {t : UTree} {v : Value} (h : UAt w sg n t v) : ∃ U, v = .ref U := by
  cases n with
  | zero => exact h.elim
  | succ n =>
    refine hideG ?_; intro g9; obtain ⟨U, _, _, _, _, _, _, _, _, _, _, _, _, _, _, _, _, _, _, _, _, _, _, _, _, _, _, _, _, _, _, _, _, _, _, _, _, _, _, _, _, _, h, _⟩ := h; k_unfold
    exact ⟨U, h⟩
theorem unit_len {n : Nat} {b : PBody} {us : List UTree} (h : (linesF (n + 1) (.mk b us)).length ≤ 900) :
    (headS b.head).length + (b.consts.flatMap (fun c => [Str.ofString "const " ++ constS c])).length + (b.handlers.flatMap (fun z => [handS z])).length + ((List.range b.code.length).flatMap (fun i => [codeL b i])).length + (us.flatMap (linesF n)).length + 1 ≤ 900 := by
  simp only [linesF, List.length_append, List.length_cons, List.length_nil, UTree.body, UTree.us] at h
  omega

end
section -- CT
section
variable {prog : Program} {w : World} {mean : ExcName → Option Value} {mg mb : Str → Option Value} {dp un : Nat} {gd : Option (List Code)} {base h₀ : Heap} {outer : List Env} {s : Shared} {foot news rest : List (Addr × Obj)}
  {f L : Addr} {args : List Value} {d : Nat} {P : Value → List (Addr × Obj) → Prop} {X : Int → Prop} {A₀ : Around} {m : Str → Option Value} {env : Env} {Q E : Value → Shared → Prop}
end
section
variable {prog : Program} {w : World} {A₀ : Around} {E : Value → Shared → Prop} {s' : Shared} {base g G : Heap} {outer : List Env} {L a e D : Addr} {k : Int} {m : Str → Option Value} {name : Str} {scope : Scope} {cd : Value}
  {n : Str} {b₀ : Stmt} {suite : List Stmt} {pos np : Pos} {rest : List ExceptHandler} {Q : Flow → Shared → Prop} {news : List (Addr × Obj)} {mean : ExcName → Option Value} {mg mb : Str → Option Value}
theorem caught_bad (K : Below A₀ base outer g) (F : Fr g L G m) (N : News g L G news) (hsm : G.UpToSlots s'.heap) (R : Raised w base G (envOf name scope L a cd :: outer) e D k s'.heap)
    (XB : (hd0.heap_1 w.params).In base) (TB : Top viewQ LO mean mg mb base)
    (kont : ∀ h' g' tk t oe vs, KtsTurn (outer.filterMap (·.frame)) g g' → Fr g' L h' (fun y => if y = n then some (.ref e) else m y) → News g' L h' ((e, oe) :: (D, dictOf (atEnt w k t) 1) :: news) → BadObj D oe → oe.data = .fields vs →
      Below A₀ base outer g' → (hd0.heap_1 w.params).In g' → Top viewQ LO mean mg mb g' →
      wpAny (model prog w) ((A₀.deeper (envOf name scope L a cd)).mark (some (.ref e))) (execs (b₀ :: suite) (envOf name scope L a cd))
        (fun f s₄ => wpAny (model prog w) (A₀.deeper (envOf name scope L a cd)) (do bindName (envOf name scope L a cd) n .none; unbindBehindTheSuite (envOf name scope L a cd) n pos) (fun _ s₅ => Q f s₅) E s₄)
        (fun _ _ => False) { s' with heap := h', toks := tk })
    (ex : nsIn (hd0.heap_1 w.params) mainGlobals "BadListing" = some (some (.ref 166)))
    (hk : scope.kind = .function := by rfl) (hlo : (envOf name scope L a cd).kindOf n = some .local := by rfl) (hx : (envOf name scope L a cd).kindOf "BadListing" = some .globalImplicit := by rfl) :
    wpAny (model prog w) (A₀.deeper (envOf name scope L a cd)) (noteFrame (.ref e) (envOf name scope L a cd))
      (fun _ s₂ => wpAny (model prog w) (A₀.deeper (envOf name scope L a cd)) (setFlight (.ref e) none) (fun _ s₃ =>
        wpAny (model prog w) (A₀.deeper (envOf name scope L a cd)) (handleBy (.ref e) (envOf name scope L a cd) (.ExceptHandler (some (.Name "BadListing" np)) (some n) (b₀ :: suite) pos :: rest)) Q E s₃) E s₂) E s' := by
  refine hideG ?_; intro g9; obtain ⟨B, t, hB, hBG, hD, hDG, heG, hfl⟩ := R; k_unfold
  refine bad_note (Around.frames_deeper K.stack) rfl hfl fun h₄ x4 u4 => ?_
  refine bad_flight x4 fun h₅ x5 u5 => ?_
  refine hideG ?_; intro g9; obtain ⟨g₅, T₅, F₅, K₅⟩ := kts_ground K F hBG x5.1 (hsm.trans (u4.trans u5)); k_unfold
  have X₅ := XB.keeps K₅.stays
  have P₅ := topRead_of (TB.keeps K₅.stays)
  refine hideG ?_; intro g9; obtain ⟨oe, vs, T, oT, ts, he, hb, hd', h1, -⟩ := x5.2.2.2; k_unfold
  refine hideG ?_; intro g9; obtain ⟨nm, q', bs, hdct, sn, sub, ab, col, dd, k0, k1, k2, k3, k5, hC⟩ := bad_cls X₅; k_unfold
  refine wpAny_handleBy_cons (codeAny_handlers_test (name_K F₅ X₅ P₅ ex ?_ hk hx (by decide))) (by intro q; cases q)
  refine wpAny_excMatches_sub_self (F₅.keep _ _ hC) he hb.1 (by decide +kernel) (codeAny_handlers_suite_as ?_)
  refine bad_flight x5 fun h₆ x6 u6 => ?_
  refine hideG ?_; intro g9; obtain ⟨g₆, T₆, F₆, K₆⟩ := kts_ground K F hBG x6.1 ((hsm.trans (u4.trans u5)).trans u6); k_unfold
  refine hideG ?_; intro g9; obtain ⟨oe, vs, T, oT, ts, he, hb, hd', h1, -⟩ := x6.2.2.2; k_unfold
  have none6 : ∀ {b}, G.get? b = none → g₆.get? b = none := fun e => T₆.none_ _ (kts_none F.keep e)
  have neL : ∀ {b}, G.get? b = none → b ≠ L := fun e z => by
    refine hideG ?_; intro g9; obtain ⟨_, _, _, hL, _⟩ := F.ns; k_unfold
    rw [z, hL] at e; cases e
  have N₆ : News g₆ L h₆ ((e, oe) :: (D, dictOf (atEnt w k t) 1) :: news) := fun p hp => by
    rcases List.mem_cons.mp hp with rfl | hp
    · exact ⟨he, neL heG, none6 heG⟩
    rcases List.mem_cons.mp hp with rfl | hp
    · exact ⟨x6.1 _ _ hD, neL hDG, none6 hDG⟩
    obtain ⟨z1, z2, z3⟩ := N p hp
    refine ⟨x6.1 _ _ (hBG _ _ z1 fun hm => ?_), z2, T₆.none_ _ z3⟩
    rcases kts_mem hm with z | z
    · exact z2 z
    · refine hideG ?_; intro g9; obtain ⟨_, o, ho, _⟩ := K.frames.mem z; k_unfold
      rw [z3] at ho; cases ho
  refine stN F₆ N₆ (fun h₇ F₇ N₇ => ?_) hk hlo
  exact wpAny_mono (kont h₇ g₆ _ t oe vs T₆ F₇ N₇ hb hd' K₆ (XB.keeps K₆.stays) (TB.keeps K₆.stays)) (fun _ _ x => x) (fun _ _ x => x.elim)
theorem ga_slot : Slot "Exception" "__getattribute__" "BaseException.__getattribute__" :=
  .of (owner := "BaseException") (n := "__getattribute__") (by rw [typeLookup_type, builtinLookup_eq_fast]; kernel_rfl) (by decide +kernel) (by decide +kernel) (by decide +kernel)
    (by first | exact .inl (by decide +kernel) | exact .inr (by decide +kernel)) (by rw [isSubtype_type]; kernel_rfl)
theorem ga_kind : builtinKind "BaseException.__getattribute__" = some .slot := by decide +kernel
theorem ga_split : splitId "BaseException.__getattribute__" = some ("BaseException", "__getattribute__") := by decide +kernel
theorem bad_ga {A : Around} {h : Heap} {gs : Array GenState} {d : Drawn} {tk : Nat} {os : OsState} {oe : Obj} {od : Option Obj} {v : Value} {t : Tok} {R : Result → Shared → Prop} (X : (hd0.heap_1 w.params).In h) (I : InstAt h e oe 166 od)
    (hf : findObj (hd0.heap_1 w.params) 166 od (Str.ofString "at") = some (.value v)) (hq : R (.ok (.ret v)) ⟨h, gs, d, tk, os⟩) : codeAny (model prog w) A (.call (.builtin "BaseException.__getattribute__") ⟨[.ref e, .str (Str.ofString "at") t], []⟩) R ⟨h, gs, d, tk, os⟩ := by
  obtain ⟨c, hc, hm⟩ : ∃ c, clsIn (hd0.heap_1 w.params) 166 = some c ∧ c.mro = [.ref 166, .type "Exception", .type "BaseException", .type "object"] := ⟨_, by k_is, by rfl⟩
  have ne : c.mro.isEmpty = false := by rw [hm]; rfl
  have hcon : c.mro.contains (.type "BaseException") = true := by rw [hm]; decide +kernel
  have sub : Looks (model prog w) h (isInstance (.ref e) (.type "BaseException")) true := I.type.andThen (looks_mroIn X (by unfold mroIn; rw [hc, Option.bind_some, if_neg (by rw [ne]; decide), hcon]))
  have L0 := I.type (M := model prog w)
  have L1 := looks_find (M := model prog w) X I hf
  refine codeAny_call_builtin ga_slot.plain F.entry_bexc_ga (@check_slot (model prog w) _ _ _ "BaseException.__getattribute__" "BaseException" "__getattribute__" (.ref e) [.str (Str.ofString "at") t] [] _ ga_kind ga_split sub (F.args_bexc_ga _ _) ?_)
  unfold Builtin.«object.__getattribute__»
  refine wpAny_bind (wpAny_pure (wpAny_bind (wpAny_pure (wpAny_bind (L0.at (wpAny_bind (L1.at ?_)))))))
  exact wpAny_pure hq
theorem bad_at {A : Around} {oe : Obj} {vs : Array Value} {t : Tok × Tok} {expr : Bool} {Q : Value → Shared → Prop} (F : Fr g L s'.heap m) (N : News g L s'.heap ((e, oe) :: (D, dictOf (atEnt w k t) 1) :: news)) (X₀ : (hd0.heap_1 w.params).In g) (hb : BadObj D oe) (hd' : oe.data = .fields vs)
    (h : Q (.int k t.2) { s' with toks := s'.toks + 1 }) : wpAny (model prog w) A (getAttr (.ref e) (Str.ofString "at") expr) Q E s' := by
  refine' (?zf : Scr _) ?zq _ ?zs
  case zq =>
    have X := X₀.keeps F.keep
    have I : InstAt s'.heap e oe 166 (some (dictOf (atEnt w k t) 1)) := ⟨(N _ (.head _)).1, hb.1, by unfold notCls; rw [hd'], by rw [hb.2]; exact (N _ (.tail _ (.head _))).1⟩
    have hf : findObj (hd0.heap_1 w.params) 166 (some (dictOf (atEnt w k t) 1)) (Str.ofString "at") = some (.value (.int k t.2)) := findObj_own (attr := none) (by k_is) (by k_is) (by k_is) rfl
    have L1 := looks_findIn (M := model prog w) X (show findIn (hd0.heap_1 w.params) (.ref 166) "__getattribute__" = some (some (.builtin "BaseException.__getattribute__")) by k_is)
    have L2 := looks_findIn (M := model prog w) X (show findIn (hd0.heap_1 w.params) (.ref 166) "__getattr__" = some none by k_is)
    have L0 := I.type (M := model prog w)
    have f3 := ga_slot.bind (.ref e)
    have hx0 : (expr && onTheHeap (Value.builtin "BaseException.__getattribute__")) = false := by cases expr <;> rfl
    have hx2 : (Value.builtin "BaseException.__getattribute__" == Value.builtin "object.__getattribute__") = false := by decide +kernel
    refine hideG ?_; intro g9; obtain ⟨hh, gs, d, tk, os⟩ := s'; k_unfold
    unfold getAttr
    refine wpAny_bind (wpAny_mkText ?_)
    unfold getAttrBy
    refine wpAny_holding (wpAny_bind (L0.at (wpAny_bind (L1.at ?_))))
    dsimp only
    rw [hx2, Bool.and_false, if_neg (by decide)]
    unfold getAttrByItsOwn hookBefore
    refine wpAny_bind (L2.at (wpAny_bind (wpAny_attempt (wpAny_holding ?_))))
    unfold callGetattribute
    rw [hx0, if_neg (by decide)]
    unfold boundAndCalled
    rw [f3]
    refine wpAny_bind (wpAny_pure (wpAny_call (bad_ga X I hf ?_)))
    refine wpAny_pure ?_
    exact h
  case zs => show LetQ _ ?zq _; (try delta id foldQ letS2 letS hideG foldN subRN subN ltCut letAE nameRet); exact LetQ.refl
  case zf => intro _ r _; exact r
end

end
section -- CT2
noncomputable def RetT (fs : List Addr) (g : Heap) (s : Shared) (P : Value → List (Addr × Obj) → Prop) (Q : Value → Shared → Prop) : Prop :=
  ∀ r h' tk' news' g', KtsTurn fs g g' → g'.StaysIn h' → NewsG g' h' news' → pairNe news' → P r news' → Q r { s with heap := h', toks := tk' }
/-- a contract of a function that may catch: the frames below may be noted -/
noncomputable def ConT (w : World) (mean : ExcName → Option Value) (mg mb : Str → Option Value) (f : Addr) (args : List Value) (foot : List (Addr × Obj)) (d : Nat) (P : Value → List (Addr × Obj) → Prop) : Prop :=
  ∀ (prog : Program) (dp un : Nat) (gd : Option (List Code)) (base : Heap) (frs : List Env) (g : Heap) (s : Shared) (Q E : Value → Shared → Prop),
    Site w mean mg mb dp un gd base frs g s foot → dp + d < recursionLimit → un + 10 * d < cLine → RetT (frs.filterMap (·.frame)) g s P Q →
    wpAny (model prog w) (aro dp un gd frs) (call (.ref f) args) Q E s
inductive LeaveT (fs : List Addr) (g : Heap) (R : Result → Shared → Prop) (v : Value) (s' : Shared) : Prop
  | mk (g' : _) (L' : _) (m' : _) (news' : _) (hq1 : KtsTurn fs g g') (hq2 : Fr g' L' s'.heap m') (hq3 : News g' L' s'.heap news') (hq4 : (g'.StaysIn s'.heap → NewsG g' s'.heap news' → R (.ok (.ret v)) s')) : LeaveT fs g R v s'
theorem leaveT_ {fs : List Addr} {g g' : Heap} {L' : Addr} {m' : Str → Option Value} {news' : List (Addr × Obj)} {R : Result → Shared → Prop} {v : Value} {s' : Shared} (F' : Fr g' L' s'.heap m') (N' : News g' L' s'.heap news') (T : KtsTurn fs g g')
    (k : KtsTurn fs g g' → g'.StaysIn s'.heap → NewsG g' s'.heap news' → R (.ok (.ret v)) s') : LeaveT fs g R v s' := ⟨g', L', m', news', T, F', N', k T⟩
section
variable {prog : Program} {w : World} {mean : ExcName → Option Value} {mg mb : Str → Option Value} {dp un : Nat} {gd : Option (List Code)} {base g : Heap} {frs : List Env} {s : Shared} {foot : List (Addr × Obj)}
  {R : Result → Shared → Prop} {name qual : Str} {params : Arguments} {body : List Stmt} {scope : Scope} {dV kV doc pm cdv ct oc : Value} {an od : Option Addr} {osl : Array (Option Value)} {f : Addr} {args : Args} {binds : List (Str × Value)}
theorem enterT (S : Site w mean mg mb dp un gd base frs g s foot)
    (ho : (hd0.heap_1 w.params).lookup f = some ⟨oc, od, .func (fnOf name qual params body scope dV kV doc pm an cdv ct), osl⟩) (hcd : codeIn (hd0.heap_1 w.params) cdv qual = true) (hroom : dp < recursionLimit)
    (hbind : BindsTo s (fnOf name qual params body scope dV kV doc pm an cdv ct) args binds) (hloc : ∀ y ∈ binds, scope.names.lookup y.1 = some .local)
    (h : ∀ L' h₁, Fr g L' h₁ (fun y => binds.reverse.lookup y) → News g L' h₁ foot → Below (aro dp un gd frs) base frs g → (hd0.heap_1 w.params).In g → Top viewQ LO mean mg mb g → (∀ p ∈ foot, p.1 < L') →
      wpAny (model prog w) ((aro dp un gd frs).deeper (envOf qual scope L' f cdv)) (execs body (envOf qual scope L' f cdv))
        (fun fl s' => LeaveT (frs.filterMap (·.frame)) g R (match fl with | .ret v => v | _ => .none) s')
        (fun e s' => wpAny (model prog w) ((aro dp un gd frs).deeper (envOf qual scope L' f cdv)) (leaving (envOf qual scope L' f cdv) e) (fun _ s'' => R (.error e) s'') (fun e' s'' => R (.error e') s'') s')
        { s with heap := h₁, toks := s.toks + binds.length })
    (hco : scope.isCoroutine = false) (hgen : scope.isGenerator = false) (hk : scope.kind = .function)
    (hcell : ∀ x ∈ scope.names, x.2 ≠ .cell) : codeAny (model prog w) (aro dp un gd frs) (.call (.ref f) args) R s := by
  have Xg : (hd0.heap_1 w.params).In g := S.X.keeps S.B.stays
  have Tg := S.T.keeps S.B.stays
  refine codeAny_call_def (fd := fnOf name qual params body scope dV kV doc pm an cdv ct) (body := body) (binds := binds) hroom (S.st _ _ (Xg _ _ ho)) rfl (Tg.nolimit.keeps S.st) (codeRec_of (Xg.keeps S.st) hcd) rfl hbind hcell hloc (fun h₁ hns hk₁ => ?_) hco hgen hk
  refine wpAny_mono (h s.heap.objs.size h₁ ⟨hns, fun b o e => hk₁ b o (S.st b o e), S.sz⟩
    (fun p hp => ⟨hk₁ _ _ (S.N p hp).1, Nat.ne_of_lt (Heap.lt_size (S.N p hp).1), (S.N p hp).2⟩) S.B Xg Tg (fun p hp => Heap.lt_size (S.N p hp).1)) (fun fl s' hl => ?_) fun _ _ y => y
  refine hideG ?_; intro g9; obtain ⟨g', L', m', news', _, F', N', k⟩ := hl; k_unfold
  exact k F'.keep fun p hp => ⟨(N' p hp).1, (N' p hp).2.2⟩
end
section
variable {prog : Program} {w : World} {mean : ExcName → Option Value} {mg mb : Str → Option Value} {dp un : Nat} {gd : Option (List Code)} {base h₀ : Heap} {outer : List Env} {s : Shared} {foot news rest : List (Addr × Obj)}
  {f L : Addr} {args : List Value} {d : Nat} {P : Value → List (Addr × Obj) → Prop} {A₀ : Around} {m : Str → Option Value} {env : Env} {Q E : Value → Shared → Prop}
theorem use_conT (C : ConT w mean mg mb f args foot d P) (B : Below A₀ base outer h₀) (F : Fr h₀ L s.heap m) (N : News h₀ L s.heap news) (XB : (hd0.heap_1 w.params).In base) (TB : Top viewQ LO mean mg mb base)
    (hf : env.frame = some L) (hke : env.scope.kind = .function) (hd' : dp + d < recursionLimit) (hu : un + 10 * d < cLine) (hS : SelD foot news rest)
    (hret : ∀ r h' tk' news' g', P r news' → KtsTurn (outer.filterMap (·.frame)) h₀ g' → (outer = [] → g' = h₀) → Fr g' L h' m → News g' L h' (news' ++ rest) → pairNe (news' ++ rest) → Below A₀ base outer g' → Q r { s with heap := h', toks := tk' }) :
    wpAny (model prog w) (aro dp un gd (env :: outer)) (call (.ref f) args) Q E s := by
  refine' (?zf : Scr _) ?zq _ ?zs
  case zq =>
    refine hideG ?_; intro g9; obtain ⟨s1, s2, s3, s4, s5⟩ := hS.mem; k_unfold
    have Nf : News h₀ L s.heap foot := fun p hp => N p (s1 p hp)
    refine hideG ?_; intro g9; obtain ⟨FG, BG, st, _⟩ := groundX (R := fun _ _ => True) (A := aro dp un gd (env :: outer)) B F Nf rfl hf hke; k_unfold
    have rin : ∀ q ∈ rest, (hideAll s.heap (foot.map (·.1))).get? q.1 = some q.2 := fun q hq => hideAll_get _ (N q (s2 q hq)).1 fun hm => by
      obtain ⟨p, hp, e⟩ := List.mem_map.mp hm
      exact s3 q hq p hp e
    refine C prog dp un gd base (env :: outer) _ s Q E ⟨BG, XB, TB, fun b o e => of_hideAll _ e, Nat.le_of_eq (hideAll_size _ _), fun p hp => ⟨(Nf p hp).1, hideAll_none _ (List.mem_map_of_mem hp)⟩, s4⟩ hd' hu ?_
    generalize hideAll s.heap (foot.map (·.1)) = G at FG BG st rin
    intro r h' tk' news' G' T hst hN hnd hP
    refine hideG ?_; intro g9; obtain ⟨oL, es, ep, hL, hLd, hLk, hLf⟩ := FG.ns; k_unfold
    have self : h₀.get? L = none := kts_self F
    have mem : ∀ b, b ∈ (env :: outer).filterMap (·.frame) → b = L ∨ b ∈ outer.filterMap (·.frame) := fun b hm => by
      rw [List.filterMap_cons, hf] at hm
      exact List.mem_cons.mp hm
    have outG : ∀ b o, h₀.get? b = some o → b ∉ outer.filterMap (·.frame) → h'.get? b = some o := fun b o e nm => hst b o (T.other b o (st b o e) fun hm => by
      rcases mem b hm with z | z
      · rw [z, self] at e; cases e
      · exact nm z)
    obtain ⟨T₁, S₁⟩ := kts_turn_at (h := h') (fs := outer.filterMap (·.frame)) (g := h₀)
      (fun b hb => by
        refine hideG ?_; intro g9; obtain ⟨_, o, ho', _⟩ := B.frames.mem hb; k_unfold
        exact ⟨o, ho'⟩) outG
      (fun b o e hm => by
        obtain ⟨sl', hs'⟩ := T.up (st b o e)
        exact ⟨sl', hst _ _ hs'⟩)
    have none1 : ∀ {b}, h₀.get? b = none → (ktsHeap h' (outer.filterMap (·.frame)) h₀).get? b = none := fun e => T₁.none_ _ e
    have none0 : ∀ {b}, G'.get? b = none → h₀.get? b = none := fun {b} e => by
      cases q : h₀.get? b with
      | none => rfl
      | some o =>
        obtain ⟨sl', hs'⟩ := T.up (st _ _ q)
        rw [e] at hs'; cases hs'
    obtain ⟨sl, hs⟩ := T.up hL
    refine hret r h' tk' news' _ hP T₁ (fun e => by rw [e]; rfl) ⟨⟨_, es, ep, hst _ _ hs, hLd, hLk, hLf⟩, S₁, by rw [T₁.size]; exact F.above⟩ (fun p hp => ?_) (pnApp.mpr ⟨hnd, s5, fun p hp q hq e => ?_⟩) ⟨B.stack, fun b o e => T₁.other b o (B.stays b o e) (fun hm => by
      rw [(B.frames.mem hm).1] at e
      cases e), B.frames.of_keeps fun b o e _ => by
      obtain ⟨sl', hs'⟩ := T₁.up e
      exact ⟨_, hs', rfl⟩⟩
    · rcases List.mem_append.mp hp with hp | hp
      · refine ⟨(hN p hp).1, fun q => ?_, none1 (none0 (hN p hp).2)⟩
        have := (hN p hp).2
        rw [q, hs] at this; cases this
      · obtain ⟨z1, z2, z3⟩ := N p (s2 p hp)
        refine ⟨hst _ _ (T.other _ _ (rin p hp) fun hm => ?_), z2, none1 z3⟩
        rcases mem _ hm with z | z
        · exact z2 z
        · refine hideG ?_; intro g9; obtain ⟨_, o, ho, _⟩ := B.frames.mem z; k_unfold
          rw [z3] at ho; cases ho
    · have z := (hN p hp).2
      obtain ⟨sl', hs'⟩ := T.up (rin q hq)
      rw [e, hs'] at z; cases z
  case zs => show LetQ _ ?zq _; (try delta id foldQ letS2 letS hideG foldN subRN subN ltCut letAE nameRet); exact LetQ.refl
  case zf => intro _ r _; exact r
end

end
section -- EN
section
variable {prog : Program} {w : World} {A : Around} {E : Value → Shared → Prop} {s : Shared} {env : Env} {h₀ : Heap} {elts : List Expr} {k : Nat} {pos : Pos} {body : List Stmt} {Q : Flow → Shared → Prop}
  {l : Addr} {vs : List Value} {m₀ : Str → Option Value} {J : Nat → (Str → Option Value) → Prop} {sg : List (Addr × Obj)} {n : Nat}
theorem enum_led (hh : A.handled = none) (F : Fr h₀ env.locals s.heap m₀) (N : News h₀ env.locals s.heap sg) (hm : (l, W.listOf vs.toArray n) ∈ sg) (D : pairNe sg) (J0 : J 0 m₀)
    (step : ∀ (i : Nat) (x : Value) (t T tk : Nat) (h : Heap) (m : Str → Option Value) (e it : Addr) (oe oi : Obj), vs[i]? = some x → J i m → h.IsTuple T #[.int i t, x] → Fr h₀ env.locals h m → News h₀ env.locals h ((e, oe) :: (it, oi) :: sg) → oe.cls = .type "enumerate" → oi.cls = .type "list_iterator" → pairNe ((e, dumO) :: (it, dumO) :: sg) →
      wpAny (model prog w) A (assign (.Tuple elts k pos) env (.ref T)) (fun _ s₂ => wpAny (model prog w) A (execs body env) (EBPost h₀ env.locals s ((e, oe) :: (it, oi) :: sg) (J (i + 1)) Q) E s₂) E { s with heap := h, toks := tk })
    (done : ∀ h tk m, Fr h₀ env.locals h m → News h₀ env.locals h sg → J vs.length m → Q .next { s with heap := h, toks := tk }) :
    wpAny (model prog w) A (call (.type "enumerate") [.ref l]) (fun xv s₁ => wpAny (model prog w) A (pyIter xv) (fun it s₂ => TurnsAt prog w A h₀ env (.Tuple elts k pos) body Q E it s₂) E s₁) E s := by
  have hl : s.heap.IsList l vs.toArray := isList_at N hm
  have hlg := (N _ hm).1
  have hlt : l < s.heap.objs.size := Heap.lt_size hlg
  have hLs : env.locals < s.heap.objs.size := F.ns.lt
  have hLl : env.locals ≠ l := (N _ hm).2.1.symm
  refine call_enumerate_list hl fun h' hE hI hsz hk => ?_
  refine wpAny_pyIter_enum hE ?_
  have WW := KTurns.ofWalksU (elts := elts) (k := k) (pos := pos) (WalksT.enumerate (prog := prog) (w := w) hh (s.heap.objs.size + 1) s.heap.objs.size l (Nat.succ_ne_self _) (ktu_ne 1 hlt) (Nat.ne_of_lt hlt) vs.toArray).toU
  have ne1 : h₀.get? (s.heap.objs.size + 1) = none := ktu_new F (Nat.le_add_right _ _)
  have ne0 : h₀.get? s.heap.objs.size = none := ktu_new F (Nat.le_refl _)
  have s1 : ∀ p ∈ sg, p.1 ≠ s.heap.objs.size + 1 := fun p hp e => absurd (Heap.lt_size (N p hp).1) (by rw [e]; exact Nat.not_lt_of_le (Nat.le_succ _))
  have s0 : ∀ p ∈ sg, p.1 ≠ s.heap.objs.size := fun p hp e => absurd (Heap.lt_size (N p hp).1) (by rw [e]; exact Nat.lt_irrefl _)
  refine ix10 _ _ _ _ _ _ _ m₀ sg (fun i m n => n = sg ∧ J i m) ⟨rfl, WW, ?_, ?_, ?_, ?_, ?_, ?_, ?_, ?_, ?_⟩
  · intro hx
    have hb' : env.locals = s.heap.objs.size + 1 ∨ env.locals = s.heap.objs.size ∨ env.locals = l := by simpa using hx
    rcases hb' with e | e | e
    · exact ktu_ne 1 hLs e
    · exact Nat.ne_of_lt hLs e
    · exact hLl e
  · intro b hb
    have hb' : b = s.heap.objs.size + 1 ∨ b = s.heap.objs.size := by simpa using hb
    rcases hb' with rfl | rfl
    · exact ne1
    · exact ne0
  · intro p hp hb
    have hb' : p.1 = s.heap.objs.size + 1 ∨ p.1 = s.heap.objs.size := by simpa using hb
    exact hb'.elim (s1 p hp) (s0 p hp)
  · exact ⟨⟨.none, hE⟩, hI, hl.at fun o e => hk l o e⟩
  · exact F.keeps hk
  · exact fun p hp => ⟨hk _ _ (N p hp).1, (N p hp).2⟩
  · exact ⟨rfl, J0⟩
  · rintro i v m₁ news₁ h₁ tk₁ own hin ⟨T, vals, rfl, ⟨t, x, hx, rfl⟩, hT⟩ ⟨rfl, hJ⟩ _ hown hget hall ⟨⟨old, he⟩, ⟨oi, hoi, hic, _⟩, _⟩ F₁ N₁
    obtain ⟨oe, h1, h2⟩ : ∃ oe : Obj, h₁.get? (s.heap.objs.size + 1) = some oe ∧ oe.cls = .type "enumerate" := ⟨_, he, rfl⟩
    have m1 := hall _ (by simp) ne1 _ h1
    have m0 := hall _ (by simp) ne0 _ hoi
    have N₂ : News h₀ env.locals h₁ ((s.heap.objs.size + 1, oe) :: (s.heap.objs.size, oi) :: news₁) := fun p hp => by
      rcases List.mem_cons.mp hp with rfl | hp
      · exact N₁ _ (List.mem_append_left _ m1)
      rcases List.mem_cons.mp hp with rfl | hp
      · exact N₁ _ (List.mem_append_left _ m0)
      exact N₁ _ (List.mem_append_right _ hp)
    refine wpAny_mono (step i x t T tk₁ h₁ m₁ _ _ oe oi (by simpa using hx) hJ hT F₁ N₂ h2 hic (And.intro (And.intro (Nat.ne_of_lt (Nat.lt_succ_self _)) (neAll_iff.mpr s1)) (And.intro (neAll_iff.mpr s0) D))) (fun _ s₂ q => wpAny_mono q (fun f s₃ p => ?_) fun _ _ e => e) fun _ _ e => e
    have fin : (∃ h' tk m', s₃ = { s with heap := h', toks := tk } ∧ Fr h₀ env.locals h' m' ∧ News h₀ env.locals h' ((s.heap.objs.size + 1, oe) :: (s.heap.objs.size, oi) :: news₁) ∧ J (i + 1) m') →
        LoopStepU h₀ env.locals [s.heap.objs.size + 1, s.heap.objs.size] own (fun m n => n = news₁ ∧ J (i + 1) m) { s with heap := h₁, toks := tk₁ } .next s₃ := by
      rintro ⟨h', tk, m', e, F', N', hJ'⟩
      refine ⟨rfl, h', tk, m', news₁, e, F', ?_, (fun p hp hb => by
        have hb' : p.1 = s.heap.objs.size + 1 ∨ p.1 = s.heap.objs.size := by simpa using hb
        exact hb'.elim (s1 p hp) (s0 p hp)), rfl, hJ'⟩
      rintro ⟨pa, po⟩ hp
      rcases List.mem_append.mp hp with hp | hp
      · have hb' : pa = s.heap.objs.size + 1 ∨ pa = s.heap.objs.size ∨ pa = l := by simpa using hown _ hp
        have hg := hget _ hp
        rcases hb' with rfl | rfl | rfl
        · have : oe = po := Option.some.inj (h1.symm.trans hg)
          subst this; exact N' _ (by simp)
        · have : oi = po := Option.some.inj (hoi.symm.trans hg)
          subst this; exact N' _ (by simp)
        · have : W.listOf vs.toArray n = po := Option.some.inj ((N₂ _ (.tail _ (.tail _ hm))).1.symm.trans hg)
          subst this; exact N' _ (.tail _ (.tail _ hm))
      · exact N' _ (.tail _ (.tail _ hp))
    cases f with
    | ret v => exact .ret p
    | brk => exact .brk p
    | next => exact .next (fin p)
    | cont => exact .cont (fin p)
  · rintro h' tk m' news' F' N' _ ⟨rfl, hJ⟩
    exact done h' tk m' F' N' (by simpa using hJ)
end

end
section -- P1
theorem cut_uniq {α : Type} {c : α} {a b x y : List α} (ha : c ∉ a) (hb : c ∉ b) (h : a ++ c :: x = b ++ c :: y) : a = b ∧ x = y := by
  induction a generalizing b with
  | nil =>
    cases b with
    | nil => exact ⟨rfl, (List.cons.inj h).2⟩
    | cons d b => exact absurd ((List.cons.inj h).1 ▸ List.mem_cons_self) hb
  | cons d a ih =>
    cases b with
    | nil => exact absurd ((List.cons.inj h).1 ▸ List.mem_cons_self) ha
    | cons e b =>
      obtain ⟨h1, h2⟩ := ih (fun z => ha (.tail _ z)) (fun z => hb (.tail _ z)) (List.cons.inj h).2
      exact ⟨by rw [(List.cons.inj h).1, h1], h2⟩
theorem join_cons2 (c : Nat) (a b : Str) (l : List Str) : (Str.join ⟨#[c]⟩ (a :: b :: l)).cps.toList = a.cps.toList ++ c :: (Str.join ⟨#[c]⟩ (b :: l)).cps.toList := by
  show (a ++ ⟨#[c]⟩ ++ Str.join ⟨#[c]⟩ (b :: l) : Str).cps.toList = _
  show ((a.cps ++ #[c]) ++ (Str.join ⟨#[c]⟩ (b :: l)).cps).toList = _
  simp
theorem strExt {a b : Str} (h : a.cps.toList = b.cps.toList) : a = b := by
  cases a; cases b; simp only at h; congr 1; exact Array.toList_inj.mp h
theorem join_uniq (c : Nat) {l m : List Str} (h1 : l ≠ []) (h2 : m ≠ []) (hl : ∀ p ∈ l, c ∉ p.cps.toList) (hm : ∀ p ∈ m, c ∉ p.cps.toList) (h : Str.join ⟨#[c]⟩ l = Str.join ⟨#[c]⟩ m) : l = m := by
  induction l generalizing m with
  | nil => exact absurd rfl h1
  | cons a l ih =>
    cases m with
    | nil => exact absurd rfl h2
    | cons d m =>
      have e := congrArg (fun x : Str => x.cps.toList) h
      cases l with
      | nil =>
        cases m with
        | nil => exact congrArg (fun z => [z]) (show a = d from h)
        | cons f m =>
          try dsimp only at e
          rw [join_cons2] at e
          exact absurd (by have : a.cps.toList = _ := e; rw [this]; simp) (hl a (.head _))
      | cons b l =>
        cases m with
        | nil =>
          try dsimp only at e
          rw [join_cons2] at e
          exact absurd (by have : _ = d.cps.toList := e; rw [← this]; simp) (hm d (.head _))
        | cons f m =>
          try dsimp only at e
          rw [join_cons2, join_cons2] at e
          obtain ⟨q1, q2⟩ := cut_uniq (hl a (.head _)) (hm d (.head _)) e
          rw [strExt q1, ih (m := f :: m) (by simp) (by simp) (fun p hp => hl p (.tail _ hp)) (fun p hp => hm p (.tail _ hp)) (strExt q2)]
theorem split_join {c : Nat} {l : List Str} (h0 : l ≠ []) (h : ∀ p ∈ l, c ∉ p.cps.toList) : Txt.split (Txt.join ⟨#[c]⟩ l) ⟨#[c]⟩ = l := by
  have e : Txt.join ⟨#[c]⟩ l = Str.join ⟨#[c]⟩ l := by
    show Builtin.Str.glued _ _ = _
    rw [StrLaws.glued_eq_join]
  refine join_uniq c ?_ h0 (fun p hp => StrLaws.split_free _ c p hp) h ?_
  · intro z
    have := PyProof.Rows.split_pos (Txt.join ⟨#[c]⟩ l) ⟨#[c]⟩
    rw [z] at this; exact absurd this (by decide)
  · rw [StrLaws.join_split, e]

end
section -- P2
noncomputable def isBad : Out → Bool
  | .bad => true
  | _ => false
theorem isBad_eq {o : Out} (h : isBad o = true) : o = .bad := by
  cases o with
  | bad => rfl
  | go _ _ => exact nomatch (show false = true from h)
  | fin _ => exact nomatch (show false = true from h)
noncomputable def wrd (x : Str) : Str := (Txt.split x (Str.ofString " ")).headD (Str.ofString "")
noncomputable def isCH (x : Str) : Bool := [Str.ofString "const", Str.ofString "handler"].any (· == wrd x)
noncomputable def chkB : List Str → St → Stack → Bool
  | [], _, _ => false
  | x :: rs, s, st => match stepR s st x with
    | .bad => false
    | .fin _ => rs.isEmpty
    | .go s' st' => (isCH x || x == Str.ofString "end" || isBad (stepR s' st' x)) && chkB rs s' st'
section
variable {R rs : List Str} {x y : Str} {k : Int} {s s' : St} {st st' : Stack} {t : UTree}
theorem chkC {o : Out} (h : stepR s st x = o) : chkB (x :: rs) s st = (match (generalizing := false) o with
    | .bad => false
    | .fin _ => rs.isEmpty
    | .go s' st' => (isCH x || x == Str.ofString "end" || isBad (stepR s' st' x)) && chkB rs s' st') := h ▸ rfl
theorem chk_cons (h : stepR s st x = .go s' st') (h2 : isCH x = true ∨ x = Str.ofString "end" ∨ stepR s' st' x = .bad) (h3 : chkB rs s' st' = true) : chkB (x :: rs) s st = true := by
  rw [chkC h]; dsimp only; rw [h3, Bool.and_true]
  rcases h2 with h2 | h2 | h2
  · rw [h2]; rfl
  · rw [h2, beq_self_eq_true, Bool.or_true]; rfl
  · rw [h2]; exact Bool.or_true _
theorem chk_fin (h : stepR s st x = .fin t) : chkB [x] s st = true := chkC h
theorem chk_inv (h : chkB (x :: rs) s st = true) : (rs = [] ∧ ∃ t, stepR s st x = .fin t) ∨ ∃ s' st', stepR s st x = .go s' st' ∧ (isCH x = true ∨ x = Str.ofString "end" ∨ stepR s' st' x = .bad) ∧ chkB rs s' st' = true := by
  refine' (?zf : Scr _) ?zq _ ?zs
  case zq =>
    cases e : stepR s st x with
    | bad => rw [chkC e] at h; cases h
    | fin t => rw [chkC e] at h; exact .inl ⟨List.isEmpty_iff.mp h, t, rfl⟩
    | go s' st' =>
      rw [chkC e] at h; dsimp only at h
      rw [Bool.and_eq_true, Bool.or_eq_true, Bool.or_eq_true] at h
      exact .inr ⟨s', st', rfl, h.1.elim (·.imp id fun h1 => .inl (eq_of_beq h1)) fun h1 => .inr (.inr (isBad_eq h1)), h.2⟩
  case zs => show LetQ _ ?zq _; (try delta id foldQ letS2 letS hideG foldN subRN subN ltCut letAE nameRet); exact LetQ.refl
  case zf => intro _ r _; exact r
theorem go_fin {s : St} {st : Stack} {t : UTree} (h : Out.go s st = .fin t) : False := by cases h
theorem bad_fin {t : UTree} (h : Out.bad = .fin t) : False := by cases h
theorem fin_end (h : stepR s st x = .fin t) : x = Str.ofString "end" := by
  have key : ∀ {ws : List Str}, stepW s st ws = .fin t → ws = [Str.ofString "end"] := by
    intro ws h
    cases s with
    | head i hd =>
      unfold stepW at h; dsimp only at h
      cases e : headStep i hd ws with
      | none => rw [e] at h; exact (bad_fin h).elim
      | some h' => rw [e] at h; dsimp only at h; split at h <;> exact (go_fin h).elim
    | body ph b us =>
      replace h : bodyStep ph b us st ws = .fin t := h
      cases ws with
      | nil => exact (bad_fin h).elim
      | cons w r =>
        unfold bodyStep at h; dsimp only at h
        split at h
        · cases e : constW r <;> rw [e] at h <;> first | exact (bad_fin h).elim | exact (go_fin h).elim
        · split at h
          · cases e : handlerO r <;> rw [e] at h <;> first | exact (bad_fin h).elim | exact (go_fin h).elim
          · split at h
            · cases e : rowO (w :: r) b.code.length <;> rw [e] at h <;> first | exact (bad_fin h).elim | exact (go_fin h).elim
            · split at h
              · cases e : headStep 0 head0 (w :: r) <;> rw [e] at h <;> first | exact (bad_fin h).elim | exact (go_fin h).elim
              · split at h
                · assumption
                · exact (bad_fin h).elim
  have h := key h
  have e := StrLaws.join_split x (Str.ofString " ")
  rw [h] at e
  exact e.symm
theorem succ_k {k : Int} {i : Nat} : k + 1 + (i : Int) = k + ((i + 1 : Nat) : Int) := by omega
theorem chk_pre {R : List Str} {k : Int} {s : St} {st : Stack} {i : Nat} (h : chkB R s st = true) (hi : i < R.length) : run (R.take i) k s st = .error (k + i) := by
  induction R generalizing k s st i with
  | nil => exact absurd hi (Nat.not_lt_zero _)
  | cons x rs ih =>
    cases i with
    | zero => simp [run]
    | succ i =>
      rcases chk_inv h with ⟨rfl, _⟩ | ⟨s', st', e, _, h3⟩
      · exact absurd (Nat.lt_of_succ_lt_succ hi) (Nat.not_lt_zero _)
      · rw [List.take_succ_cons, run_go e, ih h3 (Nat.lt_of_succ_lt_succ hi), succ_k]
theorem chk_cut {R : List Str} {k : Int} {s : St} {st : Stack} {i : Nat} (h : chkB R s st = true) (hi : i < R.length) (hy : y ≠ Str.ofString "end") : run (R.take i ++ [y]) k s st = .error (k + i) ∨ run (R.take i ++ [y]) k s st = .error (k + i + 1) := by
  induction R generalizing k s st i with
  | nil => exact absurd hi (Nat.not_lt_zero _)
  | cons x rs ih =>
    cases i with
    | zero =>
      rw [List.take_zero, List.nil_append]
      cases e : stepR s st y with
      | bad => exact .inl (by rw [run_bad e]; simp)
      | go s' st' => exact .inr (by rw [run_go e]; simp [run])
      | fin t => exact absurd (fin_end e) hy
    | succ i =>
      rcases chk_inv h with ⟨rfl, _⟩ | ⟨s', st', e, _, h3⟩
      · exact absurd (Nat.lt_of_succ_lt_succ hi) (Nat.not_lt_zero _)
      · show run (x :: (rs.take i ++ [y])) k s st = _ ∨ run (x :: (rs.take i ++ [y])) k s st = _
        rw [run_go e, ← succ_k]
        exact ih h3 (Nat.lt_of_succ_lt_succ hi)
theorem chk_twc {R : List Str} {k : Int} {s : St} {st : Stack} {i : Nat} (h : chkB R s st = true) (hi : i < R.length) (h1 : isCH R[i] = false) (h2 : R[i] ≠ Str.ofString "end") : run (R.take (i + 1) ++ R.drop i) k s st = .error (k + i + 1) := by
  induction R generalizing k s st i with
  | nil => exact absurd hi (Nat.not_lt_zero _)
  | cons x rs ih =>
    cases i with
    | zero =>
      rcases chk_inv h with ⟨rfl, t, e⟩ | ⟨s', st', e, h4, h3⟩
      · exact absurd (fin_end e) h2
      · rcases h4 with h4 | h4 | h4
        · exact absurd (h4.symm.trans h1) (by decide)
        · exact absurd h4 h2
        · show run (x :: x :: rs) k s st = _
          rw [run_go e, run_bad h4]; simp
    | succ i =>
      rcases chk_inv h with ⟨rfl, _⟩ | ⟨s', st', e, _, h3⟩
      · exact absurd (Nat.lt_of_succ_lt_succ hi) (Nat.not_lt_zero _)
      · show run (x :: (rs.take (i + 1) ++ rs.drop i)) k s st = _
        rw [run_go e, ih h3 (Nat.lt_of_succ_lt_succ hi) h1 h2, succ_k]
end
noncomputable def backR (R : List Str) : List Str := if R = [] then [Str.ofString ""] else R
theorem unit_run {rows : List Str} : unitO rows 0 = run rows 0 (.head 0 head0) [] := rfl
theorem read_err {rows : List Str} {j : Int} (h : run rows 0 (.head 0 head0) [] = .error j) : readO rows = .error j := by
  unfold readO; rw [unit_run, h]
theorem read_empty : readO [Str.ofString ""] = .error 0 := by
  apply read_err
  rw [run_bad]
  apply isBad_eq
  decide +kernel
/-- the due of a pure list of rows -/
noncomputable def preOK (R : List Str) : Prop := ∀ i < R.length, readO (backR (R.take i)) = .error (i : Nat)
theorem pre_of {R : List Str} (h : chkB R (.head 0 head0) [] = true) : preOK R := by
  intro i hi
  unfold backR
  split
  · rename_i e
    have : i = 0 := by
      have := congrArg List.length e
      rw [List.length_take, List.length_nil] at this
      omega
    subst this
    exact read_empty
  · have := chk_pre (k := 0) h hi
    rw [Int.zero_add] at this
    exact read_err this
theorem backR_snoc {R : List Str} {y : Str} : backR (R ++ [y]) = R ++ [y] := by unfold backR; rw [if_neg (by simp)]
theorem cut_of {R : List Str} {i : Nat} {y : Str} (h : chkB R (.head 0 head0) [] = true) (hi : i < R.length) (hy : y ≠ Str.ofString "end") : readO (backR (R.take i ++ [y])) = .error (i : Nat) ∨ readO (backR (R.take i ++ [y])) = .error ((i : Nat) + 1) := by
  rw [backR_snoc]
  rcases chk_cut (k := 0) h hi hy with e | e <;> rw [Int.zero_add] at e
  · exact .inl (read_err e)
  · exact .inr (read_err e)
theorem twc_of {R : List Str} {i : Nat} (h : chkB R (.head 0 head0) [] = true) (hi : i < R.length) (h1 : isCH R[i] = false) (h2 : R[i] ≠ Str.ofString "end") : readO (backR (R.take (i + 1) ++ R.drop i)) = .error ((i : Nat) + 1) := by
  have e := chk_twc (k := 0) h hi h1 h2
  rw [Int.zero_add] at e
  have : backR (R.take (i + 1) ++ R.drop i) = R.take (i + 1) ++ R.drop i := by
    unfold backR; rw [if_neg]
    intro z
    have := congrArg List.length z
    simp at this; omega
  rw [this]
  exact read_err e

end
section -- P3
inductive Path : List Str → St → St → Prop
  | nil {s : St} : Path [] s s
  | cons {x : Str} {rs : List Str} {s s1 s2 : St} (h : stepR s [] x = .go s1 []) (h2 : isCH x = true ∨ stepR s1 [] x = .bad) (p : Path rs s1 s2) : Path (x :: rs) s s2
theorem Path.app {a b : List Str} {s s1 s2 : St} (p : Path a s s1) (q : Path b s1 s2) : Path (a ++ b) s s2 := by
  induction p with
  | nil => exact q
  | cons h h2 _ ih => exact .cons h h2 (ih q)
theorem Path.chk {a b : List Str} {s s1 : St} (p : Path a s s1) (q : chkB b s1 [] = true) : chkB (a ++ b) s [] = true := by
  induction p with
  | nil => exact q
  | cons h h2 _ ih => exact chk_cons h (h2.elim .inl fun z => .inr (.inr z)) (ih q)
theorem Path.run {a b : List Str} {s s1 : St} (p : Path a s s1) : ∀ {k : Int}, run (a ++ b) k s [] = run b (k + a.length) s1 [] := by
  induction p with
  | nil => intro k; simp
  | @cons x rs s s1 s2 h h2 _ ih =>
    intro k
    rw [List.cons_append, run_go h, ih]
    congr 1
    simp only [List.length_cons]; omega
noncomputable def smS (x : Str) : Bool := decide (x.length ≤ 300) && (KStt.codes x).all (fun c => decide (c < 65536))
theorem smS_ok {x : Str} (h : smS x = true) : SmallS x := by
  simp only [smS, Bool.and_eq_true, decide_eq_true_eq, List.all_eq_true] at h; exact h
noncomputable def smI (n : Int) : Bool := decide (0 ≤ n) && decide (n < 1000000000)
theorem smI_ok {n : Int} (h : smI n = true) : 0 ≤ n ∧ n < 1000000000 := by
  simp only [smI, Bool.and_eq_true, decide_eq_true_eq] at h; exact h
noncomputable def smP : Option (Str × Int) → Bool
  | none => true
  | some p => decide (p.1.length ≤ 100) && smI p.2
theorem smP_ok {o : Option (Str × Int)} (h : smP o = true) : SmallP o := by
  cases o with
  | none => trivial
  | some p =>
    simp only [smP, Bool.and_eq_true, decide_eq_true_eq] at h
    exact ⟨h.1, smI_ok h.2⟩
noncomputable def smC : Str ⊕ Int → Bool
  | .inl x => smS x
  | .inr n => smI n
theorem smC_ok {c : Str ⊕ Int} (h : smC c = true) : SmallC c := by
  cases c with
  | inl x => exact smS_ok h
  | inr n => exact smI_ok h
noncomputable def smH (h : PHead) : Bool := (match h.name with
    | none => true
    | some x => smS x) && (decide (h.params.length ≤ 5) && h.params.all smS) && (decide (h.places.length ≤ 5) && h.places.all smP) && smP h.self && smP h.argp && smI h.locals && smI h.cells && (decide (h.caps.length ≤ 5) && h.caps.all (fun c => smI c.2))
theorem smH_ok {h : PHead} (e : smH h = true) : SmallH h := by
  simp only [smH, Bool.and_eq_true, decide_eq_true_eq, List.all_eq_true] at e
  refine hideG ?_; intro g9; obtain ⟨⟨⟨⟨⟨⟨⟨h1, h2⟩, h3⟩, h4⟩, h5⟩, h6⟩, h7⟩, h8⟩ := e; k_unfold
  refine ⟨fun x hx => ?_, ⟨h2.1, fun x hx => smS_ok (h2.2 x hx)⟩, ⟨h3.1, fun x hx => smP_ok (h3.2 x hx)⟩, smP_ok h4, smP_ok h5, smI_ok h6, smI_ok h7, h8.1, fun c hc => smI_ok (h8.2 c hc)⟩
  rw [hx] at h1; exact smS_ok h1
/-- a row of the head which reads to something and prints back -/
inductive HdOK (i : Nat) (x : Str) : Prop
  | mk (w : _) (r : _) (h' : _) (hq1 : Txt.split x (Str.ofString " ") = w :: r) (hq2 : headStep i head0 (w :: r) = some h') (hq3 : (headS h')[i]? = some x) (hq4 : smH h' = true) : HdOK i x
noncomputable def hd1 (i : Nat) (x : Str) : Bool := match Txt.split x (Str.ofString " ") with
  | [] => false
  | w :: r => (match headStep i head0 (w :: r) with
    | none => false
    | some h => (headS h)[i]? == some x && smH h)
theorem hd1_ok {i : Nat} {x : Str} (h : hd1 i x = true) : HdOK i x := by
  refine' (?zf : Scr _) ?zq _ ?zs
  case zq =>
    unfold hd1 at h
    split at h
    · cases h
    · rename_i w r e
      split at h
      · cases h
      · rename_i h' e'
        simp only [Bool.and_eq_true, beq_iff_eq] at h
        exact ⟨w, r, h', e, e', h.1, h.2⟩
  case zs => show LetQ _ ?zq _; (try delta id foldQ letS2 letS hideG foldN subRN subN ltCut letAE nameRet); exact LetQ.refl
  case zf => intro _ r _; exact r
section
variable {w : Str} {r : List Str} {h h' : PHead} {x : Str} {st : Stack}
theorem hs0 (e : headStep 0 head0 (w :: r) = some h') : w = Str.ofString "unit" ∧ h' = { head0 with name := h'.name, strict := h'.strict, args := h'.args } := by
  refine hideG ?_; intro g9; obtain ⟨hw, u, _, q⟩ := hqG (hq0.symm.trans e); k_unfold
  subst q; exact ⟨hw, rfl⟩
theorem hs1 (e : headStep 1 head0 (w :: r) = some h') : w = Str.ofString "params" ∧ headStep 1 h (w :: r) = some { h with params := h'.params } := by
  refine hideG ?_; intro g9; obtain ⟨hw, u, e2, q⟩ := hqG (hq1.symm.trans e); k_unfold
  subst q; exact ⟨hw, hq1.trans (hqI hw e2)⟩
theorem hs2 (e : headStep 2 head0 (w :: r) = some h') : w = Str.ofString "places" ∧ headStep 2 h (w :: r) = some { h with places := h'.places } := by
  refine hideG ?_; intro g9; obtain ⟨hw, u, e2, q⟩ := hqG (hq2.symm.trans e); k_unfold
  subst q; exact ⟨hw, hq2.trans (hqI hw e2)⟩
theorem hs3 (e : headStep 3 head0 (w :: r) = some h') : w = Str.ofString "own" ∧ headStep 3 h (w :: r) = some { h with self := h'.self, argp := h'.argp } := by
  refine hideG ?_; intro g9; obtain ⟨hw, u, e2, q⟩ := hqG (hq3.symm.trans e); k_unfold
  subst q; exact ⟨hw, hq3.trans (hqI hw e2)⟩
theorem hs4 (e : headStep 4 head0 (w :: r) = some h') : w = Str.ofString "room" ∧ headStep 4 h (w :: r) = some { h with locals := h'.locals, cells := h'.cells } := by
  refine hideG ?_; intro g9; obtain ⟨hw, u, e2, q⟩ := hqG (hq4.symm.trans e); k_unfold
  subst q; exact ⟨hw, hq4.trans (hqI hw e2)⟩
theorem hs5 (e : headStep 5 head0 (w :: r) = some h') : w = Str.ofString "captures" ∧ headStep 5 h (w :: r) = some { h with caps := h'.caps } := by
  refine hideG ?_; intro g9; obtain ⟨hw, u, e2, q⟩ := hqG (hq5.symm.trans e); k_unfold
  subst q; exact ⟨hw, hq5.trans (hqI hw e2)⟩
theorem st_go (hs : Txt.split x (Str.ofString " ") = w :: r) {i : Nat} (hi : i < 5) (e : headStep i h (w :: r) = some h') : stepR (.head i h) st x = .go (.head (i + 1) h') st := by
  unfold stepR; rw [hs]; simp only [stepW, e]; rw [if_neg (by omega)]
theorem st_go5 (hs : Txt.split x (Str.ofString " ") = w :: r) (e : headStep 5 h (w :: r) = some h') : stepR (.head 5 h) st x = .go (.body 0 (body0 h') []) st := by
  unfold stepR; rw [hs]; simp only [stepW, e, if_true]
theorem st_no (hs : Txt.split x (Str.ofString " ") = w :: r) {i : Nat} (e : headStep i h (w :: r) = none) : stepR (.head i h) st x = .bad := by
  unfold stepR; rw [hs]; simp only [stepW, e]
theorem st_no5 (hs : Txt.split x (Str.ofString " ") = w :: r) (e : w = Str.ofString "captures") {b : PBody} {us : List UTree} : stepR (.body 0 b us) st x = .bad := by
  unfold stepR; rw [hs]; subst e
  simp only [stepW, bodyStep]
  rw [if_neg (fun z => absurd z.2 (by decide +kernel)), if_neg (fun z => absurd z.2 (by decide +kernel)), if_neg (fun z => absurd z.2 (by decide +kernel)), if_neg (fun z => absurd z.2 (by decide +kernel)), if_neg (fun z => absurd (List.cons.inj z).1 (by decide +kernel))]
end
theorem getE {α : Type} {l m : List α} (h : l.length = m.length) (e : ∀ i < l.length, l[i]? = m[i]?) : l = m := List.ext_getElem? fun i => by
  by_cases z : i < l.length
  · exact e i z
  · rw [List.getElem?_eq_none (by omega), List.getElem?_eq_none (by omega)]
theorem head_path {x0 x1 x2 x3 x4 x5 : Str} (h0 : HdOK 0 x0) (h1 : HdOK 1 x1) (h2 : HdOK 2 x2) (h3 : HdOK 3 x3) (h4 : HdOK 4 x4) (h5 : HdOK 5 x5) :
    ∃ H, headS H = [x0, x1, x2, x3, x4, x5] ∧ SmallH H ∧ Path [x0, x1, x2, x3, x4, x5] (.head 0 head0) (.body 0 (body0 H) []) := by
  refine' (?zf : Scr _) ?zq _ ?zs
  case zq =>
    refine hideG ?_; intro g9; obtain ⟨w0, r0, k0, s0, e0, p0, m0⟩ := h0; k_unfold
    refine hideG ?_; intro g9; obtain ⟨w1, r1, k1, s1, e1, p1, m1⟩ := h1; k_unfold
    refine hideG ?_; intro g9; obtain ⟨w2, r2, k2, s2, e2, p2, m2⟩ := h2; k_unfold
    refine hideG ?_; intro g9; obtain ⟨w3, r3, k3, s3, e3, p3, m3⟩ := h3; k_unfold
    refine hideG ?_; intro g9; obtain ⟨w4, r4, k4, s4, e4, p4, m4⟩ := h4; k_unfold
    refine hideG ?_; intro g9; obtain ⟨w5, r5, k5, s5, e5, p5, m5⟩ := h5; k_unfold
    have q0 := hs0 e0
    refine ⟨{ name := k0.name, params := k1.params, strict := k0.strict, args := k0.args, places := k2.places, self := k3.self, argp := k3.argp, locals := k4.locals, cells := k4.cells, caps := k5.caps }, ?_, ?_, ?_⟩
    · rw [headS] at *
      simp only [List.getElem?_cons_zero, List.getElem?_cons_succ, Option.some.injEq] at p0 p1 p2 p3 p4 p5
      dsimp only
      rw [p0, p1, p2, p3, p4, p5]
    · obtain ⟨a0, -⟩ := smH_ok m0
      obtain ⟨-, a1, -⟩ := smH_ok m1
      refine hideG ?_; intro g9; obtain ⟨-, -, a2, -⟩ := smH_ok m2; k_unfold
      refine hideG ?_; intro g9; obtain ⟨-, -, -, a3, a3', -⟩ := smH_ok m3; k_unfold
      refine hideG ?_; intro g9; obtain ⟨-, -, -, -, -, a4, a4', -⟩ := smH_ok m4; k_unfold
      refine hideG ?_; intro g9; obtain ⟨-, -, -, -, -, -, -, a5⟩ := smH_ok m5; k_unfold
      exact ⟨a0, a1, a2, a3, a3', a4, a4', a5⟩
    · have no : ∀ {i j : Nat} {w : Str} {r : List Str} {h : PHead} {x : Str}, Txt.split x (Str.ofString " ") = w :: r → headStep i h (w :: r) = none → stepR (.head i h) [] x = .bad := fun a b => st_no a b
      refine .cons (st_go s0 (by decide) e0) (.inr (st_no s0 ?_)) (.cons (st_go s1 (by decide) (hs1 e1).2) (.inr (st_no s1 ?_)) (.cons (st_go s2 (by decide) (hs2 e2).2) (.inr (st_no s2 ?_)) (.cons (st_go s3 (by decide) (hs3 e3).2) (.inr (st_no s3 ?_)) (.cons (st_go s4 (by decide) (hs4 e4).2) (.inr (st_no s4 ?_)) (.cons (st_go5 s5 (hs5 e5).2) (.inr (st_no5 s5 (hs5 (h := head0) e5).1)) ?_)))))
      · rw [q0.1, hq1]; rw [if_neg (by decide)]
      · rw [(hs1 (h := head0) e1).1, hq2]; rw [if_neg (by decide)]
      · rw [(hs2 (h := head0) e2).1, hq3]; rw [if_neg (by decide)]
      · rw [(hs3 (h := head0) e3).1, hq4]; rw [if_neg (by decide)]
      · rw [(hs4 (h := head0) e4).1, hq5]; rw [if_neg (by decide)]
      · rw [q0.2]; exact .nil
  case zs => show LetQ _ ?zq _; (try delta id foldQ letS2 letS hideG foldN subRN subN ltCut letAE nameRet); exact LetQ.refl
  case zf => intro _ r _; exact r

end
section -- P4
/-- a row of a constant -/
noncomputable def okC (x : Str) (c : Str ⊕ Int) : Prop := ∃ r, Txt.split x (Str.ofString " ") = Str.ofString "const" :: r ∧ constW r = some c ∧ Str.ofString "const " ++ constS c = x ∧ smC c = true
noncomputable def okCb (x : Str) : Option (Str ⊕ Int) := match Txt.split x (Str.ofString " ") with
  | [] => none
  | w :: r => if w == Str.ofString "const" then (match constW r with
    | none => none
    | some c => if Str.ofString "const " ++ constS c == x && smC c then some c else none) else none
theorem okCb_ok {x : Str} {c : Str ⊕ Int} (h : okCb x = some c) : okC x c := by
  refine' (?zf : Scr _) ?zq _ ?zs
  case zq =>
    unfold okCb at h
    split at h
    · cases h
    · rename_i w r e
      split at h
      · rename_i hw
        split at h
        · cases h
        · rename_i c' e'
          split at h
          · rename_i z
            cases h
            simp only [Bool.and_eq_true, beq_iff_eq] at z hw
            subst hw
            exact ⟨r, e, e', z.1, z.2⟩
          · cases h
      · cases h
  case zs => show LetQ _ ?zq _; (try delta id foldQ letS2 letS hideG foldN subRN subN ltCut letAE nameRet); exact LetQ.refl
  case zf => intro _ r _; exact r
noncomputable def okH (x : Str) (z : Int × Int × Int × Int × Bool) : Prop := ∃ r, Txt.split x (Str.ofString " ") = Str.ofString "handler" :: r ∧ handlerO r = some z ∧ handS z = x ∧ (smI z.1 && smI z.2.1 && smI z.2.2.1 && smI z.2.2.2.1) = true
noncomputable def okHb (x : Str) : Option (Int × Int × Int × Int × Bool) := match Txt.split x (Str.ofString " ") with
  | [] => none
  | w :: r => if w == Str.ofString "handler" then (match handlerO r with
    | none => none
    | some c => if handS c == x && (smI c.1 && smI c.2.1 && smI c.2.2.1 && smI c.2.2.2.1) then some c else none) else none
theorem okHb_ok {x : Str} {c : Int × Int × Int × Int × Bool} (h : okHb x = some c) : okH x c := by
  refine' (?zf : Scr _) ?zq _ ?zs
  case zq =>
    unfold okHb at h
    split at h
    · cases h
    · rename_i w r e
      split at h
      · rename_i hw
        split at h
        · cases h
        · rename_i c' e'
          split at h
          · rename_i z
            cases h
            rw [Bool.and_eq_true, beq_iff_eq] at z
            simp only [beq_iff_eq] at hw
            subst hw
            exact ⟨r, e, e', z.1, z.2⟩
          · cases h
      · cases h
  case zs => show LetQ _ ?zq _; (try delta id foldQ letS2 letS hideG foldN subRN subN ltCut letAE nameRet); exact LetQ.refl
  case zf => intro _ r _; exact r
section
variable {b : PBody} {x : Str} {w : Str} {r : List Str} {ph : Nat}
theorem wrd_eq (h : Txt.split x (Str.ofString " ") = w :: r) : wrd x = w := by unfold wrd; rw [h]; rfl
theorem c_go {c : Str ⊕ Int} (h : okC x c) : stepR (.body 0 b []) [] x = .go (.body 0 { b with consts := b.consts ++ [c] } []) [] ∧ isCH x = true := by
  refine hideG ?_; intro g9; obtain ⟨r, e, e1, e2, e3⟩ := h; k_unfold
  refine ⟨?_, ?_⟩
  · unfold stepR; rw [e, st_const rfl, e1]
  · unfold isCH; rw [wrd_eq e]; decide
theorem h_go {c : Int × Int × Int × Int × Bool} (h : okH x c) (hp : ph ≤ 1) : stepR (.body ph b []) [] x = .go (.body 1 { b with handlers := b.handlers ++ [c] } []) [] ∧ isCH x = true := by
  refine' (?zf : Scr _) ?zq _ ?zs
  case zq =>
    refine hideG ?_; intro g9; obtain ⟨r, e, e1, e2, e3⟩ := h; k_unfold
    refine ⟨?_, ?_⟩
    · unfold stepR; rw [e]
      have hp : ph = 0 ∨ ph = 1 := by omega
      rcases hp with rfl | rfl
      · rw [ph_const (by decide), st_hand rfl, e1]
      · rw [st_hand rfl, e1]
    · unfold isCH; rw [wrd_eq e]; decide
  case zs => show LetQ _ ?zq _; (try delta id foldQ letS2 letS hideG foldN subRN subN ltCut letAE nameRet); exact LetQ.refl
  case zf => intro _ r _; exact r
end
theorem c_path {ws : List Str} {cs : List (Str ⊕ Int)} {b : PBody} (H : Paired okC ws cs) : Path ws (.body 0 b []) (.body 0 { b with consts := b.consts ++ cs } []) := by
  induction H generalizing b with
  | nil => simpa using Path.nil
  | cons h p ih => exact .cons (c_go h).1 (.inl (c_go (b := b) h).2) (by simpa using ih (b := { b with consts := b.consts ++ [_] }))
theorem h_path {ws : List Str} {cs : List (Int × Int × Int × Int × Bool)} {b : PBody} {ph : Nat} (hp : ph ≤ 1) (H : Paired okH ws cs) : ∃ ph', ph' ≤ 1 ∧ Path ws (.body ph b []) (.body ph' { b with handlers := b.handlers ++ cs } []) := by
  induction H generalizing b ph with
  | nil => exact ⟨ph, hp, by simpa using Path.nil⟩
  | cons h p ih =>
    obtain ⟨ph', hp', q⟩ := ih (b := { b with handlers := b.handlers ++ [_] }) (Nat.le_refl 1)
    exact ⟨ph', hp', .cons (h_go h hp).1 (.inl (h_go (b := b) h hp).2) (by simpa using q)⟩
/-- a row of an operation, the i-th -/
inductive okR (k0 : List (Str ⊕ Int)) (i : Nat) (x : Str) (z : (Int × Option Int) × Int) : Prop
  | mk (w : _) (r : _) (hq1 : Txt.split x (Str.ofString " ") = w :: r) (hq2 : 0 ≤ plainO w) (hq3 : rowO (w :: r) i = some (z.1.1, z.1.2, z.2)) (hq4 : rowO (w :: r) ((i : Nat) + 1) = none) (hq5 : codeS k0 (i : Nat) z.1.1 z.1.2 z.2 = x) (hq6 : (z.1.2 = none ∨ z.1.2 = some 0 ∨ [Str.ofString "k", Str.ofString "s"].any (· == opKd z.1.1) = false)) (hq7 : (0 ≤ z.1.1 ∧ z.1.1 < 85)) (hq8 : (∀ a, z.1.2 = some a → smI a = true)) (hq9 : smI z.2 = true) : okR k0 i x z
noncomputable def okRb (k0 : List (Str ⊕ Int)) (i : Nat) (x : Str) : Option ((Int × Option Int) × Int) := match Txt.split x (Str.ofString " ") with
  | [] => none
  | w :: r => if 0 ≤ plainO w then (match rowO (w :: r) i with
    | none => none
    | some z => if (rowO (w :: r) ((i : Nat) + 1)).isNone && codeS k0 (i : Nat) z.1 z.2.1 z.2.2 == x && (z.2.1 == none || z.2.1 == some 0 || ![Str.ofString "k", Str.ofString "s"].any (· == opKd z.1)) && (decide (0 ≤ z.1) && decide (z.1 < 85)) && (z.2.1.all smI) && smI z.2.2 then some ((z.1, z.2.1), z.2.2) else none) else none
theorem okRb_ok {k0 : List (Str ⊕ Int)} {i : Nat} {x : Str} {z : (Int × Option Int) × Int} (h : okRb k0 i x = some z) : okR k0 i x z := by
  refine' (?zf : Scr _) ?zq _ ?zs
  case zq =>
    unfold okRb at h
    split at h
    · cases h
    · rename_i w r e
      split at h
      · rename_i hw
        split at h
        · cases h
        · rename_i c' e'
          split at h
          · rename_i q
            cases h
            simp only [Bool.and_eq_true, Bool.or_eq_true, beq_iff_eq, Option.isNone_iff_eq_none, Bool.not_eq_true', decide_eq_true_eq, or_assoc] at q
            refine hideG ?_; intro g9; obtain ⟨⟨⟨⟨⟨q1, q2⟩, q3⟩, q4⟩, q5⟩, q6⟩ := q; k_unfold
            refine ⟨w, r, e, hw, e', q1, q2, q3, q4, fun a ha => ?_, q6⟩
            dsimp only at ha
            rw [ha] at q5; exact q5
          · cases h
      · cases h
  case zs => show LetQ _ ?zq _; (try delta id foldQ letS2 letS hideG foldN subRN subN ltCut letAE nameRet); exact LetQ.refl
  case zf => intro _ r _; exact r
theorem row_ne {w : Str} (h : 0 ≤ plainO w) : ¬ w = Str.ofString "const" ∧ ¬ w = Str.ofString "handler" := by
  refine ⟨fun e => ?_, fun e => ?_⟩
  · subst e; exact absurd h (by decide +kernel)
  · subst e; exact absurd h (by decide +kernel)
theorem r_go {k0 : List (Str ⊕ Int)} {i : Nat} {x : Str} {z : (Int × Option Int) × Int} {b : PBody} {ph : Nat} (h : okR k0 i x z) (hp : ph ≤ 2) (hb : b.code.length = i) :
    stepR (.body ph b []) [] x = .go (.body 2 { b with code := b.code ++ [z.1], lines := b.lines ++ [z.2] } []) [] ∧ stepR (.body 2 { b with code := b.code ++ [z.1], lines := b.lines ++ [z.2] } []) [] x = .bad := by
  refine' (?zf : Scr _) ?zq _ ?zs
  case zq =>
    refine hideG ?_; intro g9; obtain ⟨w, r, e, e0, e1, e2, e3, -⟩ := h; k_unfold
    obtain ⟨n1, n2⟩ := row_ne e0
    subst hb
    refine ⟨?_, ?_⟩
    · unfold stepR; rw [e]
      have hp : ph = 0 ∨ ph = 1 ∨ ph = 2 := by omega
      rcases hp with rfl | rfl | rfl
      · rw [ph_const n1, ph_hand n2, st_row e0, e1]
      · rw [ph_hand n2, st_row e0, e1]
      · rw [st_row e0, e1]
    · unfold stepR; rw [e, st_row e0]
      have : ((b.code ++ [z.1]).length : Int) = (b.code.length : Int) + 1 := by simp
      dsimp only
      rw [this, e2]
  case zs => show LetQ _ ?zq _; (try delta id foldQ letS2 letS hideG foldN subRN subN ltCut letAE nameRet); exact LetQ.refl
  case zf => intro _ r _; exact r
inductive CodeRows (k0 : List (Str ⊕ Int)) : Nat → List Str → List ((Int × Option Int) × Int) → Prop
  | nil {i : Nat} : CodeRows k0 i [] []
  | cons {i : Nat} {x : Str} {z : (Int × Option Int) × Int} {xs : List Str} {zs : List ((Int × Option Int) × Int)} (h : okR k0 i x z) (r : CodeRows k0 (i + 1) xs zs) : CodeRows k0 i (x :: xs) (z :: zs)
theorem CodeRows.at {k0 : List (Str ⊕ Int)} {i : Nat} {xs : List Str} {zs : List ((Int × Option Int) × Int)} (h : CodeRows k0 i xs zs) : xs.length = zs.length ∧ ∀ (j : Nat) (x : Str), xs[j]? = some x → ∃ z, zs[j]? = some z ∧ okR k0 (i + j) x z := by
  induction h with
  | nil => exact ⟨rfl, fun _ _ h => by simp at h⟩
  | @cons i x' z' xs' zs' h _ ih =>
    refine ⟨by simp [ih.1], fun j x hx => ?_⟩
    cases j with
    | zero => simp at hx; subst hx; exact ⟨_, rfl, h⟩
    | succ j =>
      obtain ⟨z, h1, h2⟩ := ih.2 j x (by simpa using hx)
      exact ⟨z, by simpa using h1, by rw [show i + (j + 1) = i + 1 + j from by omega]; exact h2⟩
theorem r_path {k0 : List (Str ⊕ Int)} {i : Nat} {xs : List Str} {zs : List ((Int × Option Int) × Int)} (h : CodeRows k0 i xs zs) : ∀ {b : PBody} {ph : Nat}, ph ≤ 2 → b.code.length = i →
    ∃ ph', ph' ≤ 2 ∧ Path xs (.body ph b []) (.body ph' { b with code := b.code ++ zs.map (·.1), lines := b.lines ++ zs.map (·.2) } []) := by
  induction h with
  | nil => intro b ph hp hb; exact ⟨ph, hp, by simpa using Path.nil⟩
  | @cons i x z xs zs h _ ih =>
    intro b ph hp hb
    obtain ⟨ph', hp', q⟩ := ih (b := { b with code := b.code ++ [z.1], lines := b.lines ++ [z.2] }) (Nat.le_refl 2) (by simp [hb])
    obtain ⟨g1, g2⟩ := r_go h hp hb
    exact ⟨ph', hp', .cons g1 (.inr g2) (by simpa using q)⟩
theorem remS_take {cs : List (Str ⊕ Int)} {op : Int} {arg : Option Int} (h : arg = none ∨ arg = some 0 ∨ [Str.ofString "k", Str.ofString "s"].any (· == opKd op) = false) : remS cs op arg = remS (cs.take 1) op arg := by
  rcases h with rfl | rfl | h
  · rfl
  · cases cs with
    | nil => rfl
    | cons c cs =>
      simp only [remS, List.take_succ_cons, List.take_zero, List.length_cons, List.length_nil]
      congr 1
      simp only [eq_iff_iff]
      refine and_congr_right fun _ => and_congr_right fun _ => ⟨fun _ => by decide, fun _ => by omega⟩
  · cases arg with
    | none => rfl
    | some a =>
      simp only [remS]
      rw [if_neg (fun z => by rw [h] at z; exact absurd z.1 (by decide)), if_neg (fun z => by rw [h] at z; exact absurd z.1 (by decide))]
theorem flat1 {α β : Type} {f : α → β} : ∀ {l : List α}, l.flatMap (fun i => [f i]) = l.map f
  | [] => rfl
  | a :: l => by rw [List.flatMap_cons, List.map_cons, flat1]; rfl
theorem codes_back {cs : List (Str ⊕ Int)} {xs : List Str} {zs : List ((Int × Option Int) × Int)} {b : PBody} (h : CodeRows (cs.take 1) 0 xs zs) (hc : b.consts = cs) (h1 : b.code = zs.map (·.1)) (h2 : b.lines = zs.map (·.2)) :
    (List.range b.code.length).flatMap (fun i => [codeL b i]) = xs := by
  refine' (?zf : Scr _) ?zq _ ?zs
  case zq =>
    have hl := h.at.1
    rw [flat1]
    refine getE (by rw [List.length_map, List.length_range, h1, List.length_map, hl]) fun i hi => ?_
    rw [List.length_map, List.length_range, h1, List.length_map] at hi
    have hx : xs[i]? = some xs[i] := List.getElem?_eq_getElem (by omega)
    refine hideG ?_; intro g9; obtain ⟨z, hz, w, r, -, -, -, -, e3, e4, -⟩ := h.at.2 i _ hx; k_unfold
    rw [Nat.zero_add] at e3
    rw [List.getElem?_map, List.getElem?_range (by rw [h1, List.length_map]; exact hi), hx, Option.map_some]
    congr 1
    rw [← e3]
    unfold codeL codeS
    rw [h1, h2, hc]
    simp only [List.getD_eq_getElem?_getD, List.getElem?_map, hz, Option.map_some, Option.getD_some]
    rw [remS_take e4]
  case zs => show LetQ _ ?zq _; (try delta id foldQ letS2 letS hideG foldN subRN subN ltCut letAE nameRet); exact LetQ.refl
  case zf => intro _ r _; exact r

end
section -- T1
theorem newsComm {g h : Heap} {L : Addr} {a b : List (Addr × Obj)} : News g L h (a ++ b) = News g L h (b ++ a) :=
  propext ⟨fun H p hp => H p (List.mem_append.mpr ((List.mem_append.mp hp).symm)), fun H p hp => H p (List.mem_append.mpr ((List.mem_append.mp hp).symm))⟩
noncomputable abbrev TrueP (sg : List (Addr × Obj)) : Value → List (Addr × Obj) → Prop := SameP (fun _ : Unit => Value.bool true) (fun _ => True) sg
theorem conUT {prog : Program} {w : World} {mean : ExcName → Option Value} {mg mb : Str → Option Value} {dp un : Nat} {gd : Option (List Code)} {base h₀ : Heap} {outer : List Env} {s : Shared} {foot news : List (Addr × Obj)}
    {f L : Addr} {args : List Value} {d : Nat} {A₀ : Around} {m : Str → Option Value} {env : Env} {Q E : Value → Shared → Prop} {α : Type} {mk : α → Value} {R : α → Prop} (F : Fr h₀ L s.heap m) (B : Below A₀ base outer h₀) (N : News h₀ L s.heap news) (XB : (hd0.heap_1 w.params).In base) (TB : Top viewQ LO mean mg mb base)
    (hf : env.frame = some L) (hke : env.scope.kind = .function) (C : ConT w mean mg mb f args foot d (SameP mk R foot)) (hS : FootIn foot news) (hd' : dp + d < recursionLimit) (hu : un + 10 * d < cLine)
    (hret : ∀ a h' tk' g', R a → KtsTurn (outer.filterMap (·.frame)) h₀ g' → (outer = [] → g' = h₀) → Fr g' L h' m → News g' L h' news → Below A₀ base outer g' → Q (mk a) { s with heap := h', toks := tk' }) :
    wpAny (model prog w) (aro dp un gd (env :: outer)) (call (.ref f) args) Q E s := by
  obtain ⟨rest, hS⟩ := hS.s
  refine use_conT C B F N XB TB hf hke hd' hu hS fun r h' tk' n g' hP T e F N _ B => ?_
  refine hideG ?_; intro g9; obtain ⟨a, e1, e2, hR⟩ := hP; k_unfold
  subst e1; subst e2
  exact hret a h' tk' g' hR T e F (fun p hp => N p (hS.p.mem_iff.mp hp)) B
theorem conUTD {prog : Program} {w : World} {mean : ExcName → Option Value} {mg mb : Str → Option Value} {dp un : Nat} {gd : Option (List Code)} {base h₀ : Heap} {outer : List Env} {s : Shared} {foot news : List (Addr × Obj)}
    {f L : Addr} {args : List Value} {d : Nat} {A₀ : Around} {m : Str → Option Value} {env : Env} {Q E : Value → Shared → Prop} {α : Type} {mk : α → Value} {R : α → Prop} (F : Fr h₀ L s.heap m) (B : Below A₀ base outer h₀) (N : News h₀ L s.heap news) (XB : (hd0.heap_1 w.params).In base) (TB : Top viewQ LO mean mg mb base)
    (hf : env.frame = some L) (hke : env.scope.kind = .function) (hS : FootIn foot news) (C : ConT w mean mg mb f args foot d (SameP mk R foot)) (hd' : dp + d < recursionLimit) (hu : un + 10 * d < cLine)
    (hret : ∀ a h' tk' g', R a → KtsTurn (outer.filterMap (·.frame)) h₀ g' → (outer = [] → g' = h₀) → Fr g' L h' m → News g' L h' news → Below A₀ base outer g' → Q (mk a) { s with heap := h', toks := tk' }) :
    wpAny (model prog w) (aro dp un gd (env :: outer)) (call (.ref f) args) Q E s :=
  conUT F B N XB TB hf hke C hS hd' hu hret
theorem conUD {prog : Program} {w : World} {mean : ExcName → Option Value} {mg mb : Str → Option Value} {dp un : Nat} {gd : Option (List Code)} {base h₀ : Heap} {outer : List Env} {s : Shared} {foot news : List (Addr × Obj)}
    {f L : Addr} {args : List Value} {d : Nat} {A₀ : Around} {m : Str → Option Value} {env : Env} {Q E : Value → Shared → Prop} {α : Type} {mk : α → Value} {R : α → Prop} (F : Fr h₀ L s.heap m) (B : Below A₀ base outer h₀) (N : News h₀ L s.heap news) (XB : (hd0.heap_1 w.params).In base) (TB : Top viewQ LO mean mg mb base) (hf : env.frame = some L) (hke : env.scope.kind = .function)
    (hS : FootIn foot news) (C : Con w mean mg mb f args foot d (SameP mk R foot) (fun _ => False)) (hd' : dp + d < recursionLimit) (hu : un + 10 * d < cLine)
    (hret : ∀ a h' tk', R a → Fr h₀ L h' m → News h₀ L h' news → Q (mk a) { s with heap := h', toks := tk' }) :
    wpAny (model prog w) (aro dp un gd (env :: outer)) (call (.ref f) args) Q E s :=
  conU F B N XB TB hf hke C hS hd' hu hret
theorem nl_eq : Str.ofString "\n" = (⟨#[10]⟩ : Str) := by decide +kernel
theorem back_split {R : List Str} (h : ∀ p ∈ R, 10 ∉ p.cps.toList) : Txt.split (Txt.join (Str.ofString "\n") R) (Str.ofString "\n") = backR R := by
  refine' (?zf : Scr _) ?zq _ ?zs
  case zq =>
    unfold backR
    by_cases e : R = []
    · subst e; rw [if_pos rfl]; decide +kernel
    · rw [if_neg e, nl_eq]; exact split_join e h
  case zs => show LetQ _ ?zq _; (try delta id foldQ letS2 letS hideG foldN subRN subN ltCut letAE nameRet); exact LetQ.refl
  case zf => intro _ r _; exact r
noncomputable def RowsNL (R : List Str) : Prop := R.length ≤ 100 ∧ ∀ p ∈ R, p.length ≤ 900 ∧ 10 ∉ p.cps.toList
theorem RowsNL.split1 {R : List Str} (h : RowsNL R) : (Txt.split (Txt.join (Str.ofString "\n") R) (Str.ofString "\n")).length ≤ 100 := by
  rw [back_split fun p hp => (h.2 p hp).2]
  unfold backR; split
  · exact (by decide)
  · exact h.1
theorem RowsNL.split2 {R : List Str} (h : RowsNL R) : ∀ p ∈ Txt.split (Txt.join (Str.ofString "\n") R) (Str.ofString "\n"), p.length ≤ 900 := by
  rw [back_split fun p hp => (h.2 p hp).2]
  unfold backR; split
  · intro p hp; rw [List.mem_singleton.mp hp]; exact (by decide)
  · exact fun p hp => (h.2 p hp).1
theorem joinNL {prog : Program} {w : World} {A : Around} {E : Value → Shared → Prop} {s : Shared} {h₀ : Heap} {L l : Addr} {news : List (Addr × Obj)} {t : Tok} {pl : List (Str × Tok)} {n : Nat} {Q : Value → Shared → Prop} (N : News h₀ L s.heap news) (hm : (l, W.listOf (strValues pl).toArray n) ∈ news)
    (hR : RowsNL (texts pl)) (h : ∀ t' k, (Txt.join (Str.ofString "\n") (texts pl)).length ≤ 100000 → Q (.str (Txt.join (Str.ofString "\n") (texts pl)) t') { s with toks := k }) : wpAny (model prog w) A (call (.builtin "str.join") [.str (Str.ofString "\n") t, .ref l]) Q E s :=
  joinN (b := 900) N hm ⟨_, _, rfl, strsAre_vals⟩ (by decide) (fun y hy => (hR.2 y hy).1) (by decide) (by have := hR.1; omega) fun t' k z => h t' k (by have := hR.1; have : (texts pl).length * (900 + 16) ≤ 100 * 916 := Nat.mul_le_mul_right _ this; omega)
theorem errAt {α : Type} {x : Except Int α} {ns : List Int} {k : Int} (h : ∃ j, x = .error j ∧ ns.any (· == j) = true) (e : x = .error k) : ns.any (· == k) = true := by
  obtain ⟨j, e', hj⟩ := h
  rw [e] at e'; cases e'; exact hj
theorem wd_54 : True := by
  (k_with "x_kwd_rel" => ((fail_if_success (k_extra "offT1")); k_extra "W119"))
  (k_with "x_k_all" => ((fail_if_success (k_extra "offT1")); k_extra "W120"))
  (k_with "x_k_all" => ((fail_if_success (k_extra "offT1")); k_extra "W121"))
  (k_with "x_kwd_inv" => ((fail_if_success (k_extra "offT1")); k_extra "W122"))
  (k_with "m_turnG" => ((fail_if_success (k_extra "offT1")); k_extra "W123"))
  (k_with "m_finEG" => ((fail_if_success (k_extra "offT1")); k_extra "W124"))
  (k_with "m_pair" => ((fail_if_success (k_extra "offT1")); k_extra "W125"))
  (k_with "m_clear" => ((fail_if_success (k_extra "offT1")); k_extra "W126"))
  (k_with "W189" => ((refine wpAny_call ?_; k_dflt (refine' enterT (by assumption) (by k_is) (by k_is) (by k_room) (by exact BindsTo.of_eq rfl) (by exact locs rfl) ?_ (by exact rfl) (by exact rfl) (by exact rfl) (by decide); k_whole; intro L' h' F' N' B' X' T' l1; clear l1; (rename Site _ _ _ _ _ _ _ _ _ _ _ _ => mS); (have mXB := Site.X mS); (have mTB := Site.T mS); (have mND := Site.nd mS); clear mS; (have kX' := X'); (have kT' := T'); clear X' T'; (try dsimp only); (with_reducible refine letAE ?_); intro A9 e9; (try (k_extra "m_objs")); (try k_fold)))))
  (k_with "m_enterT" => ((fail_if_success (k_extra "offT1")); k_extra "W189"))
  (k_with "W190" => ((k_dflt (refine' leaveT_ (by k_asm) (by k_asm) (by first | assumption | exact KtsTurn.refl) ?_; k_whole); intro kT kF kN; (try dsimp only))))
  (k_with "LeaveT" => ((fail_if_success (k_extra "offT1")); k_extra "W190"))
  (k_with "W191" => ((k_here; (with_reducible show wpAny _ _ (call (Value.ref 385) _) _ _ _); (try (k_extra "m_foldq")); (try (k_extra "m_and")); k_dflt (refine' use_con2CD (by k_asm) (by k_asm) (by k_asm) (by k_asm) (by k_asm) (by exact rfl) (by exact rfl) (by tb_start) (c_read (by with_reducible assumption) (by with_reducible assumption) (by with_reducible assumption)) (by k_room) (by k_units) ?_ ?_); rotate_left; (intro G' e' D' j' h' tk' F' N' R' U' hX'; (try dsimp only)); rotate_left; (intro r' news' hP'; ((k_dflt (refine ex2 hP' ?_)); clear hP'; intro t9' sg' hP'; (refine cj3 hP' ?_); clear hP'; intro hv' hu' hn'); (with_reducible refine subN hn' ?_); clear hn'; clear news'; (try ((with_reducible rename pairNe _ => dN8); clear dN8)); intro h' tk' F' N' hne'; (rw [newsComm] at N'); (rw [pnComm] at hne'); (try simp only [List.cons_append, List.nil_append] at N'); (try simp only [List.cons_append, List.nil_append] at hne'); (try ((with_reducible refine foldN N' ?_); clear N'; intro n9 N')); (try k_sweep); (try dsimp only)))))
  (k_with "call ref" => ((fail_if_success (k_extra "offT1")); k_extra "W191"))
  (k_with "call ref cons nil" => ((fail_if_success (k_extra "offT1")); k_extra "W191"))
  (k_with "callWith builtin:str.join cons nil" => ((fail_if_success (k_extra "offT1")); k_extra "W185"))
  (k_with "W192" => ((k_here; k_dflt (refine' joinNL (by k_asm) (by k_mem) (by with_reducible assumption) ?_); (intro t' k' z9'; (try dsimp only)))))
  (k_with "call builtin:str.join cons nil" => ((fail_if_success (k_extra "offT1")); k_extra "W192"))
  (k_with "call builtin:str.join" => ((fail_if_success (k_extra "offT1")); k_extra "W192"))
  (k_with "W193" => ((k_here; k_dflt (refine' bad_at (by k_asm) (by k_asm) (by k_asm) (by assumption) (by assumption) ?_))))
  (k_with "getAttr ref" => ((fail_if_success (k_extra "offT1")); k_extra "W193"))
  (k_with "W194" => ((k_here; k_dflt (refine' in_list_ints (by exact isList_at (by k_asm) (by k_mem)) (by assumption) ?_))))
  (k_with "compareOp In int ref" => ((fail_if_success (k_extra "offT1")); k_extra "W194"))
  trivial
section
variable {w : World} {mean : ExcName → Option Value} {mg mb : Str → Option Value} {l d : Addr} {pl : List (Str × Tok)} {ds : List Value} {ns : List Int} {n1 n2 : Nat}
theorem c_refused (hR : RowsNL (texts pl)) (hi : IntsAre ds ns) (hE : ∃ j, readO (backR (texts pl)) = .error j ∧ ns.any (· == j) = true) :
   ConT w mean mg mb 404 [.ref l, .ref d] [(l, W.listOf (strValues pl).toArray n1), (d, W.listOf ds.toArray n2)] 330 (TrueP [(l, W.listOf (strValues pl).toArray n1), (d, W.listOf ds.toArray n2)]) := by
  refine' (?zf : Scr _) ?zq _ ?zs
  case zq =>
    have hz1 := hR.split1
    have hz2 := hR.split2
    have hsp := back_split fun p hp => (hR.2 p hp).2
    intro prog dp un gd base frs g s Q E S hdp hun hret
    k_extra "m_enterT"
    k_steps
    · exfalso
      obtain ⟨j, e, _⟩ := hE
      (rename readO _ = Except.ok _ => h)
      rw [hsp, e] at h
      cases h
    · (rename readO _ = Except.error _ => he)
      have hj : ns.any (· == _) = true := errAt hE (hsp ▸ he)
      refine caught_bad (by k_asm) (by k_asm) (by k_asm) (by assumption) (by assumption) (by assumption) (by assumption) ?_ (by k_is)
      intro h' g' tk t oe vs T' F' N' hb hd' B' X' P'
      k_steps
      rw [hj]
      (rename NewsG g' _ _ => kN1)
      refine hret _ _ _ _ g' (by assumption) (by assumption) (fun p hp => kN1 p ?_) (by k_extra "m_pnk") ⟨(), rfl, rfl, True.intro⟩
      exact .tail _ (.tail _ hp)
  case zs => show LetQ _ ?zq _; (try delta id foldQ letS2 letS hideG foldN subRN subN ltCut letAE nameRet); exact LetQ.refl
  case zf => intro _ r _; exact r
end

theorem wd_55 : True := by
  (k_with "offT1" => (skip))
  trivial
end
section -- UP
theorem pushEnd {pl : List (Str × Tok)} {x : Str} {t : Tok} {n : Nat} : ∃ n1 pl1, W.listOf ((strValues pl).toArray.push (.str x t)) (n + 1) = W.listOf (strValues pl1).toArray n1 ∧ texts pl1 = texts pl ++ [x] := ⟨n + 1, pl ++ [(x, t)], by simp [strValues], by simp [texts]⟩
noncomputable abbrev CodeP (b : PBody) (i : Nat) (sg : List (Addr × Obj)) : Value → List (Addr × Obj) → Prop := StrP (codeL b i) 3000 sg
theorem codeUse {w : World} {mean : ExcName → Option Value} {mg mb : Str → Option Value} {U : Addr} {b : PBody} {sg : List (Addr × Obj)} {c i : Nat} {t : Tok} (H : ∀ (i : Nat) (t : Tok), i < c → Con w mean mg mb 249 [.ref U, .int (i : Nat) t] sg 120 (CodeP b i sg) (fun _ => False)) (h : i < c) :
    Con w mean mg mb 249 [.ref U, .int (i : Nat) t] sg 120 (CodeP b i sg) (fun _ => False) := H i t h
section
variable {w : World} {mean : ExcName → Option Value} {mg mb : Str → Option Value} {sg : List (Addr × Obj)} {U dU aC aK aU aH aL : Addr} {u1 u2 u3 u4 u5 u6 u7 u8 u9 u10 u11 u12 u13 u14 u15 : Tok} {v1 v2 v8 v9 v10 v11 v12 v13 v14 v15 : Value} {nC nK nU nH nL : Nat} {kvs cvs lvs : List Value} {b : PBody}
theorem codeCon (hU : (U, instObj 117 dU) ∈ sg) (hD : (dU, dictOf (ud w u1 u2 u3 u4 u5 u6 u7 u8 u9 u10 u11 u12 u13 u14 u15 v1 v2 (.ref aC) (.ref aK) (.ref aU) (.ref aH) (.ref aL) v8 v9 v10 v11 v12 v13 v14 v15) 15) ∈ sg)
    (hC : (aC, W.listOf cvs.toArray nC) ∈ sg) (hK : (aK, W.listOf kvs.toArray nK) ∈ sg) (hL : (aL, W.listOf lvs.toArray nL) ∈ sg) (hB1 : Paired ConstV b.consts kvs) (hB3 : Paired (CodeM sg) b.code cvs) (hB4 : Paired LineV b.lines lvs)
    (hS2 : b.consts.length ≤ 100) (hS3 : ∀ c ∈ b.consts, SmallC c) (hS5 : b.code.length ≤ 100) (hS6 : b.lines.length = b.code.length) (hS7 : ∀ c ∈ b.code, (0 ≤ c.1 ∧ c.1 < 85) ∧ ∀ a, c.2 = some a → SmallI a) (hS8 : ∀ l ∈ b.lines, SmallI l) (i : Nat) (t : Tok) (hi : i < b.code.length) :
    Con w mean mg mb 249 [.ref U, .int (i : Nat) t] sg 120 (CodeP b i sg) (fun _ => False) := by
  have l1 := hB3.length
  have l2 := hB4.length
  have l3 := hB1.length
  obtain ⟨c, hc, hm⟩ := paired_at hB3 (List.getElem?_eq_getElem (show i < cvs.length by omega))
  refine hideG ?_; intro g9; obtain ⟨ln, hln, t', ht'⟩ := paired_at hB4 (List.getElem?_eq_getElem (show i < lvs.length by omega)); k_unfold
  refine hideG ?_; intro g9; obtain ⟨T, t1, av, hT, hav, hmem⟩ := hm; k_unfold
  obtain ⟨⟨z1, z2⟩, z3⟩ := hS7 c (List.mem_of_getElem? hc)
  obtain ⟨z4, z5⟩ := hS8 ln (List.mem_of_getElem? hln)
  have hx : lvs[(i : Int).toNat]? = some (.int ln t') := by rw [Int.toNat_natCast, List.getElem?_eq_getElem (by omega), ht']
  have hy : cvs[(i : Int).toNat]? = some (.ref T) := by rw [Int.toNat_natCast, List.getElem?_eq_getElem (by omega), hT]
  have ec : b.code.getD i (0, none) = c := by rw [List.getD_eq_getElem?_getD, hc]; rfl
  have el : b.lines.getD i 0 = ln := by rw [List.getD_eq_getElem?_getD, hln]; rfl
  obtain ⟨op, arg⟩ := c
  have eL : codeL b i = codeS b.consts (i : Nat) op arg ln := by unfold codeL; rw [ec, el]
  unfold CodeP
  rw [eL]
  cases arg with
  | none =>
    obtain rfl := hav
    exact c_code0 hU hD hC hL hmem (Int.natCast_nonneg _) hx hy (by omega) (by omega) z1 z2 z4 z5
  | some a =>
    obtain ⟨t2, rfl⟩ := hav
    obtain ⟨z6, z7⟩ := z3 a rfl
    exact c_code1 hU hD hC hK hL hmem (Int.natCast_nonneg _) hx hy (by omega) (by omega) z1 z2 z4 z5 z6 z7 hB1 hS3 (by omega)
end
theorem rangeNews {h₀ h' : Heap} {s : Shared} {L : Addr} {m : Str → Option Value} {sg : List (Addr × Obj)} {a b c : Int} {t u v : Tok} (F : Fr h₀ L s.heap m) (N : News h₀ L h' sg) (hR : IsRange h' s.heap.objs.size a b c t u v) : News h₀ L h' ((s.heap.objs.size, rangeO a b c t u v) :: sg) := fun p hp => by
  rcases List.mem_cons.mp hp with rfl | hp
  · exact ⟨hR, Nat.ne_of_gt F.ns.lt, next_is_new F⟩
  · exact N p hp
theorem extEnd {pl pl1 : List (Str × Tok)} {xs : List Str} {n : Nat} (h : texts pl1 = xs) : ∃ n1 pl2, W.listOf (strValues pl ++ strValues pl1).toArray n = W.listOf (strValues pl2).toArray n1 ∧ texts pl2 = texts pl ++ xs := ⟨n, pl ++ pl1, by simp [strValues], by rw [← h]; simp [texts]⟩
theorem ulRet {g h' : Heap} {s : Shared} {Q : Value → Shared → Prop} {sg : List (Addr × Obj)} {n k tk : Nat} {t : UTree} {D : Addr} {pl : List (Str × Tok)} {x : Str} {u : Tok} (hret : RetS g s (ULP n t sg) Q) (st : g.StaysIn h') (N : NewsG g h' ((D, W.listOf ((strValues pl).toArray.push (.str x u)) (k + 1)) :: sg))
    (hn : pairNe ((D, dumO) :: sg)) (hp : texts pl ++ [x] = linesF n t) : Q (.ref D) { s with heap := h', toks := tk } := by
  refine hret _ _ _ _ st N (pnKeys hn rfl) ⟨pl ++ [(x, u)], k + 1, D, rfl, ?_, ?_⟩
  · simp [strValues]
  · show texts (pl ++ [(x, u)]) = linesF n t
    rw [← hp]; simp [texts]

end
section -- UL
theorem wd_56 : True := by
  (k_with "x_kwd_rel" => ((fail_if_success (k_extra "offUL")); k_extra "W119"))
  (k_with "x_k_all" => ((fail_if_success (k_extra "offUL")); k_extra "W120"))
  (k_with "x_k_all" => ((fail_if_success (k_extra "offUL")); k_extra "W121"))
  (k_with "x_kwd_inv" => ((fail_if_success (k_extra "offUL")); k_extra "W122"))
  (k_with "m_turnG" => ((fail_if_success (k_extra "offUL")); k_extra "W123"))
  (k_with "m_finEG" => ((fail_if_success (k_extra "offUL")); k_extra "W124"))
  (k_with "m_pair" => ((fail_if_success (k_extra "offUL")); k_extra "W125"))
  (k_with "m_clear" => ((fail_if_success (k_extra "offUL")); k_extra "W126"))
  (k_with "x_k_mem" => ((fail_if_success (k_extra "offUL")); k_extra "W151"))
  (k_with "call ref" => ((fail_if_success (k_extra "offUL")); k_extra "W152"))
  (k_with "call ref nil" => ((fail_if_success (k_extra "offUL")); k_extra "W152"))
  (k_with "call ref" => ((fail_if_success (k_extra "offUL")); k_extra "W153"))
  (k_with "call ref nil" => ((fail_if_success (k_extra "offUL")); k_extra "W153"))
  (k_with "call ref" => ((fail_if_success (k_extra "offUL")); k_extra "W154"))
  (k_with "call ref nil" => ((fail_if_success (k_extra "offUL")); k_extra "W154"))
  (k_with "m_cod" => ((fail_if_success (k_extra "offUL")); k_extra "W155"))
  (k_with "m_len" => ((fail_if_success (k_extra "offUL")); k_extra "W156"))
  (k_with "subscriptTail Name Constant ref int" => ((fail_if_success (k_extra "offUL")); k_extra "W129"))
  (k_with "subscriptTail Subscript Name Name Constant ref int" => ((fail_if_success (k_extra "offUL")); k_extra "W129"))
  (k_with "call ref" => ((fail_if_success (k_extra "offUL")); k_extra "W157"))
  (k_with "call ref cons nil" => ((fail_if_success (k_extra "offUL")); k_extra "W157"))
  (k_with "call ref" => ((fail_if_success (k_extra "offUL")); k_extra "W158"))
  (k_with "call ref cons nil" => ((fail_if_success (k_extra "offUL")); k_extra "W158"))
  (k_with "call ref" => ((fail_if_success (k_extra "offUL")); k_extra "W161"))
  (k_with "call ref cons nil" => ((fail_if_success (k_extra "offUL")); k_extra "W161"))
  (k_with "call ref" => ((fail_if_success (k_extra "offUL")); k_extra "W167"))
  (k_with "call ref nil" => ((fail_if_success (k_extra "offUL")); k_extra "W167"))
  (k_with "call ref cons nil" => ((fail_if_success (k_extra "offUL")); k_extra "W167"))
  (k_with "call ref" => ((fail_if_success (k_extra "offUL")); k_extra "W168"))
  (k_with "call ref nil" => ((fail_if_success (k_extra "offUL")); k_extra "W168"))
  (k_with "call ref cons nil" => ((fail_if_success (k_extra "offUL")); k_extra "W168"))
  (k_with "m_plm" => ((fail_if_success (k_extra "offUL")); k_extra "W169"))
  (k_with "m_pls" => ((fail_if_success (k_extra "offUL")); k_extra "W169"))
  (k_with "m_words" => ((fail_if_success (k_extra "offUL")); k_extra "W164"))
  (k_with "m_word" => ((fail_if_success (k_extra "offUL")); k_extra "W165"))
  (k_with "call builtin:str.join cons nil" => ((fail_if_success (k_extra "offUL")); k_extra "W166"))
  (k_with "callWith builtin:list.append cons nil" => ((fail_if_success (k_extra "offUL")); k_extra "W185"))
  (k_with "callWith builtin:str.join cons nil" => ((fail_if_success (k_extra "offUL")); k_extra "W185"))
  (k_with "m_mem" => ((fail_if_success (k_extra "offUL")); k_extra "W186"))
  (k_with "x_k_mem" => ((fail_if_success (k_extra "offUL")); k_extra "W187"))
  (k_with "binaryOp Add ref ref" => ((fail_if_success (k_extra "offUL")); k_extra "W188"))
  (k_with "W195" => ((k_here; (with_reducible show wpAny _ _ (call (Value.ref 228) _) _ _ _); (try (k_extra "m_foldq")); k_dflt (refine' conL (by k_asm) (by k_asm) (by k_asm) (by k_asm) (by k_asm) (by exact rfl) (by exact rfl) (c_head_lines (by k_mem) (by k_mem) (by with_reducible assumption) (by with_reducible assumption)) (by k_extra "m_foot") (by k_room) (by k_units) ?_); (try ((with_reducible rename pairNe _ => dN8); clear dN8)); (intro pl' k' D' h' tk' hpl' F' N' dN9; (with_reducible refine foldN N' ?_); clear N'; intro n9 N'; (try k_sweep); (try dsimp only)))))
  (k_with "call ref" => ((fail_if_success (k_extra "offUL")); k_extra "W195"))
  (k_with "call ref cons nil" => ((fail_if_success (k_extra "offUL")); k_extra "W195"))
  (k_with "W196" => ((k_here; (with_reducible show wpAny _ _ (call (Value.ref 249) _) _ _ _); (try (k_extra "m_foldq")); k_dflt (refine' conU (by k_asm) (by k_asm) (by k_asm) (by k_asm) (by k_asm) (by exact rfl) (by exact rfl) (codeUse (by assumption) (by with_reducible assumption)) (by k_extra "m_foot") (by k_room) (by k_units) ?_); (intro t9' h' tk' hq' F' N'; (try k_sweep); (try dsimp only)))))
  (k_with "call ref" => ((fail_if_success (k_extra "offUL")); k_extra "W196"))
  (k_with "call ref cons nil" => ((fail_if_success (k_extra "offUL")); k_extra "W196"))
  (k_with "W197" => ((k_here; (with_reducible show wpAny _ _ (call (Value.ref 256) _) _ _ _); (try (k_extra "m_foldq")); k_dflt (refine' conL (by k_asm) (by k_asm) (by k_asm) (by k_asm) (by k_asm) (by exact rfl) (by exact rfl) (ulUse (by assumption) (by with_reducible assumption) (by with_reducible assumption) (by omega)) (by k_extra "m_foot") (by k_room) (by k_units) ?_); (try ((with_reducible rename pairNe _ => dN8); clear dN8)); (intro pl' k' D' h' tk' hpl' F' N' dN9; (with_reducible refine foldN N' ?_); clear N'; intro n9 N'; (try k_sweep); (try dsimp only)))))
  (k_with "call ref" => ((fail_if_success (k_extra "offUL")); k_extra "W197"))
  (k_with "call ref cons nil" => ((fail_if_success (k_extra "offUL")); k_extra "W197"))
  (k_with "W198" => ((k_here; k_dflt (refine' extendNews (by k_asm) (by k_asm) (by (intro _; k_upd)) (by k_mem) (by omega) ?_); (intro h' n' F' N'; (try dsimp only)))))
  (k_with "call builtin:list.extend cons nil" => ((fail_if_success (k_extra "offUL")); k_extra "W198"))
  (k_with "W199" => ((k_here; k_dflt (refine' for_list (ok := fun _ => True) (by exact rfl) (by k_asm) (by exact rfl) (by (intro _; exact rfl)) (by (intro I l i v s' Q' _ _ hq; exact wpAny_pure hq)) ?_))))
  (k_with "exec For Name Attribute cons nil" => ((fail_if_success (k_extra "offUL")); k_extra "W199"))
  (k_with "W200" => ((k_here; k_dflt (refine' for_list (ok := fun v => ∃ T, v = Value.ref T) (by exact rfl) (by k_asm) (by exact rfl) (by (intro _; exact rfl)) (by (intro I l i v s' Q' ho hit hq; obtain ⟨T, e9⟩ := ho; subst e9; exact wpAny_letOwnedTupleGo_listiter hit hq)) ?_))))
  (k_with "exec For Tuple Attribute cons nil" => ((fail_if_success (k_extra "offUL")); k_extra "W200"))
  (k_with "W201" => ((k_here; k_dflt (refine' for_range (by exact rfl) (by k_asm) (by exact rfl) (by (intro _; exact rfl)) (by (intro _ _; exact rfl)) ?_))))
  (k_with "exec For Name Call cons nil" => ((fail_if_success (k_extra "offUL")); k_extra "W201"))
  trivial
theorem handRef {sg : List (Addr × Obj)} {zs : List (Int × Int × Int × Int × Bool)} {vs : List Value} (H : Paired (HandM sg) zs vs) : ∀ v ∈ vs, ∃ T, v = Value.ref T := by
  induction H with
  | nil => exact fun v h => absurd h List.not_mem_nil
  | cons a r ih =>
    intro v h
    rcases List.mem_cons.mp h with rfl | h
    · obtain ⟨T, _, _, _, _, e, _⟩ := a; exact ⟨T, e⟩
    · exact ih v h
section
variable {w : World} {mean : ExcName → Option Value} {mg mb : Str → Option Value} {sg : List (Addr × Obj)} {n : Nat}
theorem c_unit_lines (IH : UL w mean mg mb sg n) : UL w mean mg mb sg (n + 1) := by
  refine' (?zf : Scr _) ?zq _ ?zs
  case zq =>
    intro t v hu hs hl
    refine hideG ?_; intro g9; obtain ⟨U, dU, aC, aK, aU, aH, aL, u1, u2, u3, u4, u5, u6, u7, u8, u9, u10, u11, u12, u13, u14, u15, v1, v2, v8, v9, v10, v11, v12, v13, v14, v15, kvs, hvs, cvs, lvs, uvs, nC, nK, nU, nH, nL, e91, hH, hB, hUs, hmem⟩ := hu; k_unfold; subst e91
    obtain ⟨b, us⟩ := t
    obtain ⟨hS, hSu⟩ := hs
    dsimp only [UTree.body, UTree.us] at hH hB hUs hS hSu
    have hl := unit_len hl
    have hU : (U, instObj 117 dU) ∈ sg := hmem _ (memAt 0 rfl)
    have hD : (dU, dictOf (ud w u1 u2 u3 u4 u5 u6 u7 u8 u9 u10 u11 u12 u13 u14 u15 v1 v2 (.ref aC) (.ref aK) (.ref aU) (.ref aH) (.ref aL) v8 v9 v10 v11 v12 v13 v14 v15) 15) ∈ sg := hmem _ (memAt 1 rfl)
    have hC : (aC, W.listOf cvs.toArray nC) ∈ sg := hmem _ (memAt 2 rfl)
    have hK : (aK, W.listOf kvs.toArray nK) ∈ sg := hmem _ (memAt 3 rfl)
    have hUn : (aU, W.listOf uvs.toArray nU) ∈ sg := hmem _ (memAt 4 rfl)
    have hHn : (aH, W.listOf hvs.toArray nH) ∈ sg := hmem _ (memAt 5 rfl)
    have hL : (aL, W.listOf lvs.toArray nL) ∈ sg := hmem _ (memAt 6 rfl)
    clear hmem
    refine hideG ?_; intro g9; obtain ⟨hS1, ⟨hS2, hS3⟩, hS4, ⟨hS5, hS6, hS7⟩, hS8⟩ := hS; k_unfold
    refine hideG ?_; intro g9; obtain ⟨hB1, hB2, hB3, hB4⟩ := hB; k_unfold
    have hCC := codeCon (w := w) (mean := mean) (mg := mg) (mb := mb) hU hD hC hK hL hB1 hB3 hB4 hS2 hS3 hS5 hS6 hS7 hS8
    have q1 := hB1.length
    have q2 := hB2.length
    have q3 := hB3.length
    have q4 := hUs.length
    intro prog dp un gd base frs g s Q E S hdp hun hret hexn; refine nameRet hret ?_; clear hret; intro P9 hret
    k_extra "m_enter"
    k_steps
    (rename texts _ = headS _ => hp1)
    refine forL_lines (as := b.consts) (V := ConstV) (fun c => [Str.ofString "const " ++ constS c]) hK hB1 (fun _ _ => trivial) (ovF (by k_asm) rfl rfl) (by k_asm) (by k_extra "m_pnk") ?hB1 ?turn1 ?done1
    case hB1 => rw [hp1]; omega
    case turn1 =>
      k_extra "m_clrD"
      intro a v pl' n' u I oI h tk ha hV hle dN9 F' N'
      have hSa := hS3 a ha
      cases a with
      | inl x =>
        obtain ⟨t, rfl⟩ := hV
        obtain ⟨hz1, hz2⟩ := hSa
        k_steps
        exact lineEnd (by k_asm) (by k_asm) (.head _) (.tail _ (.head _)) (fun _ hp => .tail _ (.tail _ hp)) rfl rfl pushEnd
      | inr m =>
        obtain ⟨t, rfl⟩ := hV
        obtain ⟨hz1, hz2⟩ := hSa
        k_steps
        exact lineEnd (by k_asm) (by k_asm) (.head _) (.tail _ (.head _)) (fun _ hp => .tail _ (.tail _ hp)) rfl rfl pushEnd
    case done1 =>
      intro pl2 n2 u2 h2 tk2 hp2 F2 N2
      rw [hp1] at hp2
      k_steps
      refine forL_lines (as := b.handlers) (V := HandM sg) (fun z => [handS z]) hHn hB2 ?ok2 (ovF (by k_asm) rfl rfl) (by k_asm) (by k_extra "m_pnk") ?hB2 ?turn2 ?done2
      case ok2 => exact handRef hB2
      case hB2 => rw [hp2, List.length_append]; omega
      case turn2 =>
        k_extra "m_clrD"
        rintro ⟨z1, z2, z3, z4, z5⟩ v pl' n' u I oI h tk ha hV hle dN9 F' N'
        refine hideG ?_; intro g9; obtain ⟨⟨hz1, hz1'⟩, ⟨hz2, hz2'⟩, ⟨hz3, hz3'⟩, ⟨hz4, hz4'⟩⟩ := hS4 _ ha; k_unfold
        refine hideG ?_; intro g9; obtain ⟨T, t0, t1, t2, t3, e91, hm⟩ := hV; k_unfold; subst e91
        dsimp only at hz1 hz1' hz2 hz2' hz3 hz3' hz4 hz4' hm
        cases z5
        · k_steps
          exact lineEnd (by k_asm) (by k_asm) (.tail _ (.tail _ (.tail _ (.head _)))) (.tail _ (.tail _ (.tail _ (.tail _ (.head _))))) (fun _ hp => .tail _ (.tail _ (.tail _ (.tail _ (.tail _ hp))))) rfl rfl pushEnd
        · k_steps
          exact lineEnd (by k_asm) (by k_asm) (.tail _ (.tail _ (.tail _ (.head _)))) (.tail _ (.tail _ (.tail _ (.tail _ (.head _))))) (fun _ hp => .tail _ (.tail _ (.tail _ (.tail _ (.tail _ hp))))) rfl rfl pushEnd
      case done2 =>
        intro pl3 n3 u3 h3 tk3 hp3 F3 N3
        rw [hp2] at hp3
        k_steps
        (rename IsRange _ _ _ _ _ _ _ _ => hR)
        (rename News _ _ _ _ => hN)
        (rename Fr _ _ _ _ => hF)
        have hN' := rangeNews (by k_asm) hN hR
        rw [← q3] at hN'
        refine forR_lines (c := b.code.length) (fun i => [codeL b i]) (ovF hF rfl rfl) hN' (.head _) (fun p hp => .tail _ hp) (by k_extra "m_pnk") ?hB3 (by omega) ?turn3 ?done3
        case hB3 => rw [hp3, List.length_append, List.length_append]; omega
        case turn3 =>
          k_extra "m_clrD"
          intro i t pl' n' u I oI h tk hi hle dN9 F' N'
          clear hF hN' hN hR
          k_steps
          exact lineEnd (by k_asm) (by k_asm) (.head _) (.tail _ (.head _)) (fun _ hp => .tail _ (.tail _ hp)) rfl rfl pushEnd
        case done3 =>
          intro pl4 n4 u4 h4 tk4 hp4 F4 N4
          rw [hp3] at hp4
          clear hF hN' hN hR
          k_steps
          refine forL_lines (as := us) (V := UAt w sg n) (linesF n) hUn hUs (fun _ _ => trivial) (ovF (by k_asm) rfl rfl) (by k_asm) (by k_extra "m_pnk") ?hB4 ?turn4 ?done4
          case hB4 => rw [hp4, List.length_append, List.length_append, List.length_append]; omega
          case turn4 =>
            k_extra "m_clrD"
            intro a v pl' n' u I oI h tk ha hV hle dN9 F' N'
            obtain ⟨U', rfl⟩ := hV.isRef
            have hSa := hSu a ha
            k_steps
            (rename texts _ = linesF n a => hpa)
            refine extendNews (by k_asm) (by k_asm) (by intro _; k_upd) (by k_mem) ?z ?_
            case z =>
              have : (strValues _).length = (linesF n a).length := (strValues_len).trans (congrArg List.length hpa)
              omega
            intro h' n' F' N'
            k_steps
            exact lineEnd (by k_asm) (by k_asm) (.tail _ (.head _)) (.tail _ (.tail _ (.head _))) (fun _ hp => .tail _ (.tail _ (.tail _ hp))) rfl rfl (extEnd hpa)
          case done4 =>
            intro pl5 n5 u5 h5 tk5 hp5 F5 N5
            rw [hp4] at hp5
            have hz5 : (strValues pl5).length + 1 ≤ 900 := by rw [strValues_len, hp5]; simp only [List.length_append]; omega
            k_steps
            refine ulRet hret (by assumption) (by assumption) (by k_extra "m_pnk") ?_
            rw [hp5]; rfl
  case zs => show LetQ _ ?zq _; (try delta id foldQ letS2 letS hideG foldN subRN subN ltCut letAE nameRet); exact LetQ.refl
  case zf => intro _ r _; exact r
end

theorem wd_57 : True := by
  (k_with "offUL" => (skip))
  trivial
end
section -- LS
section
variable {w : World} {mean : ExcName → Option Value} {mg mb : Str → Option Value} {sg : List (Addr × Obj)}
theorem ulAll : ∀ n, UL w mean mg mb sg n
  | 0 => fun _ _ h => h.elim
  | n + 1 => c_unit_lines (ulAll n)
theorem ulTop {n : Nat} {t : UTree} {v : Value} (h1 : UAt w sg n t v) (h2 : SmallT n t) (h3 : (linesF n t).length ≤ 900) : Con w mean mg mb 256 [v] sg (160 + n) (ULP n t sg) (fun _ => False) := ulAll n t v h1 h2 h3
end
theorem wd_58 : True := by
  (k_with "x_kwd_rel" => ((fail_if_success (k_extra "offLS")); k_extra "W119"))
  (k_with "x_k_all" => ((fail_if_success (k_extra "offLS")); k_extra "W120"))
  (k_with "x_k_all" => ((fail_if_success (k_extra "offLS")); k_extra "W121"))
  (k_with "x_kwd_inv" => ((fail_if_success (k_extra "offLS")); k_extra "W122"))
  (k_with "m_turnG" => ((fail_if_success (k_extra "offLS")); k_extra "W123"))
  (k_with "m_finEG" => ((fail_if_success (k_extra "offLS")); k_extra "W124"))
  (k_with "m_pair" => ((fail_if_success (k_extra "offLS")); k_extra "W125"))
  (k_with "m_clear" => ((fail_if_success (k_extra "offLS")); k_extra "W126"))
  (k_with "x_k_mem" => ((fail_if_success (k_extra "offLS")); k_extra "W151"))
  (k_with "call ref" => ((fail_if_success (k_extra "offLS")); k_extra "W152"))
  (k_with "call ref nil" => ((fail_if_success (k_extra "offLS")); k_extra "W152"))
  (k_with "call ref" => ((fail_if_success (k_extra "offLS")); k_extra "W153"))
  (k_with "call ref nil" => ((fail_if_success (k_extra "offLS")); k_extra "W153"))
  (k_with "call ref" => ((fail_if_success (k_extra "offLS")); k_extra "W154"))
  (k_with "call ref nil" => ((fail_if_success (k_extra "offLS")); k_extra "W154"))
  (k_with "m_cod" => ((fail_if_success (k_extra "offLS")); k_extra "W155"))
  (k_with "m_len" => ((fail_if_success (k_extra "offLS")); k_extra "W156"))
  (k_with "W202" => ((k_here; (with_reducible show wpAny _ _ (call (Value.ref 256) _) _ _ _); (try (k_extra "m_foldq")); k_dflt (refine' conL (by k_asm) (by k_asm) (by k_asm) (by k_asm) (by k_asm) (by exact rfl) (by exact rfl) (ulTop (by with_reducible assumption) (by with_reducible assumption) (by with_reducible assumption)) (by k_extra "m_foot") (by k_room) (by k_units) ?_); (try ((with_reducible rename pairNe _ => dN8); clear dN8)); (intro pl' k' D' h' tk' hpl' F' N' dN9; (with_reducible refine foldN N' ?_); clear N'; intro n9 N'; (try k_sweep); (try dsimp only)))))
  (k_with "call ref" => ((fail_if_success (k_extra "offLS")); k_extra "W202"))
  (k_with "call ref cons nil" => ((fail_if_success (k_extra "offLS")); k_extra "W202"))
  (k_with "callWith builtin:str.join cons nil" => ((fail_if_success (k_extra "offLS")); k_extra "W185"))
  (k_with "W203" => ((k_here; k_dflt (refine' joinNL (by k_asm) (by k_mem) (by first | with_reducible assumption | (rename texts _ = linesF _ _ => hq9; rw [hq9]; with_reducible assumption)) ?_); (intro t' k' z9'; (try dsimp only)))))
  (k_with "call builtin:str.join cons nil" => ((fail_if_success (k_extra "offLS")); k_extra "W203"))
  trivial
section
variable {w : World} {mean : ExcName → Option Value} {mg mb : Str → Option Value} {sg : List (Addr × Obj)} {n : Nat} {t : UTree} {v : Value}
theorem c_list_unit (h1 : UAt w sg n t v) (h2 : SmallT n t) (h3 : RowsNL (linesF n t)) :
    Con w mean mg mb 263 [v] sg (170 + n) (SameP (fun tk : Tok => Value.str (Txt.join (Str.ofString "\n") (linesF n t)) tk) (fun _ => True) sg) (fun _ => False) := by
  refine' (?zf : Scr _) ?zq _ ?zs
  case zq =>
    have h4 : (linesF n t).length ≤ 900 := by have := h3.1; omega
    intro prog dp un gd base frs g s Q E S hdp hun hret hexn; refine nameRet hret ?_; clear hret; intro P9 hret
    k_extra "m_enter"
    k_steps
    (rename texts _ = linesF _ _ => hq)
    rw [hq]
    exact same_ret hret (by assumption) (by assumption) (by k_extra "m_tailD") trivial
  case zs => show LetQ _ ?zq _; (try delta id foldQ letS2 letS hideG foldN subRN subN ltCut letAE nameRet); exact LetQ.refl
  case zf => intro _ r _; exact r
end

theorem wd_59 : True := by
  (k_with "offLS" => (skip))
  trivial
end
section -- SM
/-- what is read and listed again as it was -/
noncomputable def SameOK (R : List Str) : Prop := ∃ t, readO (backR R) = .ok t ∧ SmallT 101 t ∧ linesF 101 t = R
section
variable {w : World} {mean : ExcName → Option Value} {mg mb : Str → Option Value} {text : Str} {tt : Tok} {t : UTree}
theorem c_readT (h1 : (Txt.split text (Str.ofString "\n")).length ≤ 100) (h2 : ∀ p ∈ Txt.split text (Str.ofString "\n"), p.length ≤ 900) (h3 : text.length ≤ 100000) (hT : readO (Txt.split text (Str.ofString "\n")) = .ok t) : Con w mean mg mb 385 [.str text tt] [] 300
   (fun v news' => UAt w news' 101 t v) (fun _ => False) :=
  Con.mono (c_read h1 h2 h3) (fun v n h => by
    refine hideG ?_; intro g9; obtain ⟨t', sg, e, u, hn⟩ := h; k_unfold
    rw [hT] at e; cases e; subst hn; exact u) (fun j e => by rw [hT] at e; cases e) (Nat.le_refl _)
end
theorem wd_60 : True := by
  (k_with "x_kwd_rel" => ((fail_if_success (k_extra "offSM")); k_extra "W119"))
  (k_with "x_k_all" => ((fail_if_success (k_extra "offSM")); k_extra "W120"))
  (k_with "x_k_all" => ((fail_if_success (k_extra "offSM")); k_extra "W121"))
  (k_with "x_kwd_inv" => ((fail_if_success (k_extra "offSM")); k_extra "W122"))
  (k_with "m_turnG" => ((fail_if_success (k_extra "offSM")); k_extra "W123"))
  (k_with "m_finEG" => ((fail_if_success (k_extra "offSM")); k_extra "W124"))
  (k_with "m_pair" => ((fail_if_success (k_extra "offSM")); k_extra "W125"))
  (k_with "m_clear" => ((fail_if_success (k_extra "offSM")); k_extra "W126"))
  (k_with "x_k_mem" => ((fail_if_success (k_extra "offSM")); k_extra "W151"))
  (k_with "call ref" => ((fail_if_success (k_extra "offSM")); k_extra "W152"))
  (k_with "call ref nil" => ((fail_if_success (k_extra "offSM")); k_extra "W152"))
  (k_with "call ref" => ((fail_if_success (k_extra "offSM")); k_extra "W153"))
  (k_with "call ref nil" => ((fail_if_success (k_extra "offSM")); k_extra "W153"))
  (k_with "call ref" => ((fail_if_success (k_extra "offSM")); k_extra "W154"))
  (k_with "call ref nil" => ((fail_if_success (k_extra "offSM")); k_extra "W154"))
  (k_with "m_cod" => ((fail_if_success (k_extra "offSM")); k_extra "W155"))
  (k_with "m_len" => ((fail_if_success (k_extra "offSM")); k_extra "W156"))
  (k_with "W204" => ((k_here; (with_reducible show wpAny _ _ (call (Value.ref 263) _) _ _ _); (try (k_extra "m_foldq")); k_dflt (refine' conU (by k_asm) (by k_asm) (by k_asm) (by k_asm) (by k_asm) (by exact rfl) (by exact rfl) (c_list_unit (by with_reducible assumption) (by with_reducible assumption) (by with_reducible assumption)) (by k_extra "m_foot") (by k_room) (by k_units) ?_); (intro t9' h' tk' hq' F' N'; (try k_sweep); (try dsimp only)))))
  (k_with "call ref" => ((fail_if_success (k_extra "offSM")); k_extra "W204"))
  (k_with "call ref cons nil" => ((fail_if_success (k_extra "offSM")); k_extra "W204"))
  (k_with "W205" => ((k_here; (with_reducible show wpAny _ _ (call (Value.ref 385) _) _ _ _); (try (k_extra "m_foldq")); k_dflt (refine' use_conD (by k_asm) (by k_asm) (by k_asm) (by k_asm) (by k_asm) (by exact rfl) (by exact rfl) (by tb_start) (c_readT (by with_reducible assumption) (by with_reducible assumption) (by with_reducible assumption) (by with_reducible assumption)) (by k_room) (by k_units) ?_ ?_); rotate_left; (intro _ _ _ _ _ _ _ _ _ hX'; exact (show False from hX').elim); (intro r' h' tk' news' hP' F' N' hne'; (rw [newsComm] at N'); (rw [pnComm] at hne'); (try simp only [List.cons_append, List.nil_append] at N'); (try simp only [List.cons_append, List.nil_append] at hne'); (try ((with_reducible refine foldN N' ?_); clear N'; intro n9 N')); (try k_sweep); (try dsimp only)))))
  (k_with "call ref" => ((fail_if_success (k_extra "offSM")); k_extra "W205"))
  (k_with "call ref cons nil" => ((fail_if_success (k_extra "offSM")); k_extra "W205"))
  (k_with "callWith builtin:str.join cons nil" => ((fail_if_success (k_extra "offSM")); k_extra "W185"))
  (k_with "call builtin:str.join cons nil" => ((fail_if_success (k_extra "offSM")); k_extra "W203"))
  trivial
section
variable {w : World} {mean : ExcName → Option Value} {mg mb : Str → Option Value} {l : Addr} {pl : List (Str × Tok)} {n1 : Nat} {t : UTree}
theorem c_same (hR : RowsNL (texts pl)) (hS : SameOK (texts pl)) :
   Con w mean mg mb 411 [.ref l] [(l, W.listOf (strValues pl).toArray n1)] 330 (TrueP [(l, W.listOf (strValues pl).toArray n1)]) (fun _ => False) := by
  refine' (?zf : Scr _) ?zq _ ?zs
  case zq =>
    have hz1 := hR.split1
    have hz2 := hR.split2
    refine hideG ?_; intro g9; obtain ⟨t, hT1, hT2, hT3⟩ := hS; k_unfold
    rw [← back_split fun p hp => (hR.2 p hp).2] at hT1
    have hR' : RowsNL (linesF 101 t) := by rw [hT3]; exact hR
    intro prog dp un gd base frs g s Q E S hdp hun hret hexn; refine nameRet hret ?_; clear hret; intro P9 hret
    k_extra "m_enter"
    k_steps
    rw [hT3, beq_self_eq_true]
    exact RetS.fin hret (by assumption) (by assumption) ⟨(), rfl, rfl, True.intro⟩ (by k_extra "m_subD")
  case zs => show LetQ _ ?zq _; (try delta id foldQ letS2 letS hideG foldN subRN subN ltCut letAE nameRet); exact LetQ.refl
  case zf => intro _ r _; exact r
end

theorem wd_61 : True := by
  (k_with "offSM" => (skip))
  trivial
end
section -- TW
section
variable {w : World} {mean : ExcName → Option Value} {mg mb : Str → Option Value} {l d : Addr} {pl : List (Str × Tok)} {j j2 : Int} {t t2 : Tok} {n1 n2 : Nat}
theorem c_refused1 (hR : RowsNL (texts pl)) (hE : readO (backR (texts pl)) = .error j) :
   ConT w mean mg mb 404 [.ref l, .ref d] [(l, W.listOf (strValues pl).toArray n1), (d, W.listOf #[.int j t] n2)] 330 (TrueP [(l, W.listOf (strValues pl).toArray n1), (d, W.listOf #[.int j t] n2)]) :=
  c_refused (ds := [.int j t]) (ns := [j]) hR (.cons j t .nil) ⟨j, hE, by simp⟩
theorem c_refused2 (hR : RowsNL (texts pl)) (hE : readO (backR (texts pl)) = .error j ∨ readO (backR (texts pl)) = .error j2) :
   ConT w mean mg mb 404 [.ref l, .ref d] [(l, W.listOf (strValues pl).toArray n1), (d, W.listOf #[.int j t, .int j2 t2] n2)] 330 (TrueP [(l, W.listOf (strValues pl).toArray n1), (d, W.listOf #[.int j t, .int j2 t2] n2)]) :=
  c_refused (ds := [.int j t, .int j2 t2]) (ns := [j, j2]) hR (.cons j t (.cons j2 t2 .nil)) (hE.elim (fun e => ⟨j, e, by simp⟩) fun e => ⟨j2, e, by simp⟩)
end
noncomputable def openD (x : Str) : Int := if (Txt.slice x none (some 5) == Str.ofString "unit ") = true then 1 else if (x == Str.ofString "end") = true then -1 else 0
noncomputable def goZ : List Str → Int → Nat → Option Nat
  | [], _, _ => none
  | x :: rs, c, i => if c + openD x = 0 then some i else goZ rs (c + openD x) (i + 1)
/-- the due of a row of R twice -/
noncomputable def TwiceOK (R : List Str) (i : Nat) (x : Str) : Prop :=
  RowsNL (R.take (i + 1) ++ R.drop i) ∧
  (isCH x = true → SameOK (R.take (i + 1) ++ R.drop i)) ∧
  (isCH x = false → (x == Str.ofString "end") = false → readO (backR (R.take (i + 1) ++ R.drop i)) = .error ((i : Nat) + 1)) ∧
  (isCH x = false → (x == Str.ofString "end") = true → ∃ p : Nat, goZ (R.take (i + 1) ++ R.drop i) 0 0 = some p ∧ readO (backR (R.take (i + 1) ++ R.drop i)) = .error ((p : Nat) + 1))
theorem RowsNL.rows {pl : List (Str × Tok)} (h : RowsNL (texts pl)) : Rows pl := ⟨by have := h.1; rw [texts, List.length_map] at this; omega, fun p hp => (h.2 p.1 (List.mem_map_of_mem hp)).1⟩
theorem twice_texts {pl : List (Str × Tok)} {i : Nat} : texts (pl.take ((i : Int) + 1).toNat ++ pl.drop (i : Int).toNat) = (texts pl).take (i + 1) ++ (texts pl).drop i := by
  rw [texts, List.map_append, ← List.map_take, ← List.map_drop, ← texts, show ((i : Int) + 1).toNat = i + 1 by omega, Int.toNat_natCast]
theorem chEq {l' : List (Str × Tok)} {x y : Str} {b : Bool} (h2 : l'.map (·.1) = Txt.split x (Str.ofString " ")) (h1 : (l'.map (·.1))[Int.toNat 0]? = some y) (h3 : ([Str.ofString "const", Str.ofString "handler"].any fun z => z == y) = b) : isCH x = b := by
  have : wrd x = y := by
    unfold wrd
    rw [← h2]
    cases l' with
    | nil => simp at h1
    | cons a l' => simpa using h1
  unfold isCH
  rw [this]; exact h3
theorem openD_cases (x : Str) : openD x = 1 ∨ openD x = -1 ∨ openD x = 0 := by
  unfold openD
  split
  · exact .inl rfl
  · split
    · exact .inr (.inl rfl)
    · exact .inr (.inr rfl)
noncomputable def TwJ (R : List Str) (v : Value) (i : Nat) (m : Str → Option Value) : Prop := m (Str.ofString "found") = some v ∧ ∃ c t, m (Str.ofString "open_units") = some (.int c t) ∧ (-(i : Int) ≤ c ∧ c ≤ i) ∧ goZ (R.drop i) c i = goZ R 0 0
theorem twJ0 {R : List Str} {m : Str → Option Value} {t : Tok} {v : Value} (hf : m (Str.ofString "found") = some v) (h : m (Str.ofString "open_units") = some (.int 0 t)) : TwJ R v 0 m := ⟨hf, 0, t, h, by omega, rfl⟩
theorem openD1 {x : Str} (h : (Txt.slice x none (some 5) == Str.ofString "unit ") = true) : openD x = 1 := if_pos h
theorem openD2 {x : Str} (h : (Txt.slice x none (some 5) == Str.ofString "unit ") = false) (h2 : (x == Str.ofString "end") = true) : openD x = -1 := by
  unfold openD; rw [if_neg (by rw [h]; decide), if_pos h2]
theorem openD3 {x : Str} (h : (Txt.slice x none (some 5) == Str.ofString "unit ") = false) (h2 : (x == Str.ofString "end") = false) : openD x = 0 := by
  unfold openD; rw [if_neg (by rw [h]; decide), if_neg (by rw [h2]; decide)]
theorem twJs {R : List Str} {i : Nat} {m : Str → Option Value} {c c' : Int} {t : Tok} {x : Str} {v : Value} (hf : m (Str.ofString "found") = some v) (h : m (Str.ofString "open_units") = some (.int c' t)) (hc : c' = c + openD x) (h0 : c' ≠ 0) (hb : -(i : Int) ≤ c ∧ c ≤ i) (hx : R[i]? = some x) (hg : goZ (R.drop i) c i = goZ R 0 0) : TwJ R v (i + 1) m := by
  refine ⟨hf, c', t, h, ?_, ?_⟩
  · exact twB hc hb (by rcases openD_cases x with e | e | e <;> rw [e] <;> decide) (by rcases openD_cases x with e | e | e <;> rw [e] <;> decide)
  · rw [← hg, drop_at hx]
    show _ = (if c + openD x = 0 then some i else goZ (R.drop (i + 1)) (c + openD x) (i + 1))
    rw [← hc, if_neg h0]
theorem twJf {R : List Str} {i p : Nat} {c c' : Int} {x : Str} (hc : c' = c + openD x) (h0 : c' = 0) (hx : R[i]? = some x) (hg : goZ (R.drop i) c i = goZ R 0 0) (hp : goZ R 0 0 = some p) : p = i := by
  rw [← hg, drop_at hx] at hp
  have e : (if c + openD x = 0 then some i else goZ (R.drop (i + 1)) (c + openD x) (i + 1)) = some p := hp
  rw [← hc, if_pos h0] at e
  exact (Option.some.inj e).symm
theorem twJn {R : List Str} {m : Str → Option Value} {p : Nat} {v : Value} (J : TwJ R v R.length m) (hp : goZ R 0 0 = some p) : False := by
  refine hideG ?_; intro g9; obtain ⟨_, c, t, _, _, hg⟩ := J; k_unfold
  rw [List.drop_length] at hg
  rw [← hg] at hp; cases hp
theorem ovF1 {h₀ h : Heap} {L : Addr} {m : Str → Option Value} {n : Str} {v : Value} (F : Fr h₀ L h m) (h1 : m n = some v) : Fr h₀ L h (fun z => if z = n then some v else m z) := by
  have : (fun z => if z = n then some v else m z) = m := by
    funext z
    by_cases a : z = n
    · rw [if_pos a, a, h1]
    · rw [if_neg a]
  rw [this]; exact F
theorem strs_at {pl : List (Str × Tok)} {i : Nat} {v : Value} (h : (strValues pl)[i]? = some v) : ∃ x, pl[i]? = some x ∧ v = .str x.1 x.2 := by
  rw [strValues, List.getElem?_map] at h
  obtain ⟨x, hx, e⟩ := Option.map_eq_some_iff.mp h
  exact ⟨x, hx, e.symm⟩
theorem bne_f {a b : Str} (h : (a != b) = true) : (a == b) = false := by
  unfold bne at h; rwa [Bool.not_eq_true'] at h
theorem bne_t {a b : Str} (h : (a != b) = false) : (a == b) = true := by
  unfold bne at h; rwa [Bool.not_eq_false'] at h
theorem wd_62 : True := by
  (k_with "x_kwd_rel" => ((fail_if_success (k_extra "offTW")); k_extra "W119"))
  (k_with "x_k_all" => ((fail_if_success (k_extra "offTW")); k_extra "W120"))
  (k_with "x_k_all" => ((fail_if_success (k_extra "offTW")); k_extra "W121"))
  (k_with "x_kwd_inv" => ((fail_if_success (k_extra "offTW")); k_extra "W122"))
  (k_with "m_turnG" => ((fail_if_success (k_extra "offTW")); k_extra "W123"))
  (k_with "m_finEG" => ((fail_if_success (k_extra "offTW")); k_extra "W124"))
  (k_with "m_pair" => ((fail_if_success (k_extra "offTW")); k_extra "W125"))
  (k_with "m_clear" => ((fail_if_success (k_extra "offTW")); k_extra "W126"))
  (k_with "m_enterT" => ((fail_if_success (k_extra "offTW")); k_extra "W189"))
  (k_with "LeaveT" => ((fail_if_success (k_extra "offTW")); k_extra "W190"))
  (k_with "callWith builtin:str.join cons nil" => ((fail_if_success (k_extra "offTW")); k_extra "W185"))
  (k_with "call builtin:str.join cons nil" => ((fail_if_success (k_extra "offTW")); k_extra "W192"))
  (k_with "call builtin:str.join" => ((fail_if_success (k_extra "offTW")); k_extra "W192"))
  (k_with "W206" => ((k_here; (with_reducible show wpAny _ _ (call (Value.ref 411) _) _ _ _); refine stopW ?_)))
  (k_with "call ref" => ((fail_if_success (k_extra "offTW")); k_extra "W206"))
  (k_with "call ref nil" => ((fail_if_success (k_extra "offTW")); k_extra "W206"))
  (k_with "call ref cons nil" => ((fail_if_success (k_extra "offTW")); k_extra "W206"))
  (k_with "W207" => ((k_here; (with_reducible show wpAny _ _ (call (Value.ref 404) _) _ _ _); refine stopW ?_)))
  (k_with "call ref" => ((fail_if_success (k_extra "offTW")); k_extra "W207"))
  (k_with "call ref nil" => ((fail_if_success (k_extra "offTW")); k_extra "W207"))
  (k_with "call ref cons nil" => ((fail_if_success (k_extra "offTW")); k_extra "W207"))
  (k_with "W208" => ((k_here; k_dflt (refine' addStrs (by k_asm) (by k_asm) (by k_mem) (by k_mem) ⟨_, rfl⟩ ⟨_, rfl⟩ (by ((simp only [List.length_take, List.length_drop, List.length_append]); omega)) ?_); (intro D' h' F' N' l1; (try k_extra "klt"); (try dsimp only)))))
  (k_with "binaryOp Add ref ref" => ((fail_if_success (k_extra "offTW")); k_extra "W208"))
  (k_with "W209" => ((k_here; refine stopW ?_)))
  (k_with "exec For Tuple Call cons nil" => ((fail_if_success (k_extra "offTW")); k_extra "W209"))
  (k_with "exec For Tuple Call" => ((fail_if_success (k_extra "offTW")); k_extra "W209"))
  (k_with "call type:enumerate" => ((fail_if_success (k_extra "offTW")); k_extra "W209"))
  (k_with "call type:enumerate cons nil" => ((fail_if_success (k_extra "offTW")); k_extra "W209"))
  (k_with "W210" => ((k_here; (with_reducible show wpAny _ _ (call (Value.ref 411) _) _ _ _); (try (k_extra "m_foldq")); k_dflt (refine' conUD (by k_asm) (by k_asm) (by k_asm) (by k_asm) (by k_asm) (by exact rfl) (by exact rfl) (by exact FootIn.of (by k_extra "m_sel")) (c_same (by with_reducible assumption) (by with_reducible assumption)) (by k_room) (by k_units) ?_); (intro t9' h' tk' hq' F' N'; (try k_sweep); (try dsimp only)))))
  (k_with "m_c411" => ((fail_if_success (k_extra "offTW")); k_extra "W210"))
  (k_with "W211" => ((k_here; (with_reducible show wpAny _ _ (call (Value.ref 404) _) _ _ _); (try (k_extra "m_foldq")); k_dflt (refine' conUTD (by k_asm) (by k_asm) (by k_asm) (by k_asm) (by k_asm) (by exact rfl) (by exact rfl) (by exact FootIn.of (by k_extra "m_sel")) (c_refused1 (by with_reducible assumption) (by with_reducible assumption)) (by k_room) (by k_units) ?_); (intro t9' h' tk' g' hq' T' e9' F' N' B'; (try k_sweep); (try dsimp only)))))
  (k_with "m_c404" => ((fail_if_success (k_extra "offTW")); k_extra "W211"))
  (k_with "W212" => ((k_here; (with_reducible show wpAny _ _ (call (Value.ref 404) _) _ _ _); (try (k_extra "m_foldq")); k_dflt (refine' conUTD (by k_asm) (by k_asm) (by k_asm) (by k_asm) (by k_asm) (by exact rfl) (by exact rfl) (by exact FootIn.of (by k_extra "m_sel")) (c_refused2 (by with_reducible assumption) (by with_reducible assumption)) (by k_room) (by k_units) ?_); (intro t9' h' tk' g' hq' T' e9' F' N' B'; (try k_sweep); (try dsimp only)))))
  (k_with "m_c404b" => ((fail_if_success (k_extra "offTW")); k_extra "W212"))
  trivial
section
variable {w : World} {mean : ExcName → Option Value} {mg mb : Str → Option Value} {l : Addr} {pl : List (Str × Tok)} {n1 i : Nat} {t : Tok} {x : Str × Tok}
theorem c_twice (hR : RowsNL (texts pl)) (hx : pl[i]? = some x) (hT : TwiceOK (texts pl) i x.1) :
   ConT w mean mg mb 418 [.ref l, .int (i : Nat) t] [(l, W.listOf (strValues pl).toArray n1)] 340 (TrueP [(l, W.listOf (strValues pl).toArray n1)]) := by
  refine' (?zf : Scr _) ?zq _ ?zs
  case zq =>
    have hlen : pl.length ≤ 100 := by have := hR.1; rwa [texts, List.length_map] at this
    have hi : i < pl.length := (List.getElem?_eq_some_iff.mp hx).1
    have hrows := hR.rows
    have hxl : x.1.length ≤ 900 := hrows.at hx
    have hx' : pl[(i : Int).toNat]? = some x := hx
    unfold TwiceOK at hT
    rw [← twice_texts] at hT
    refine hideG ?_; intro g9; obtain ⟨hT1, hT2, hT3, hT4⟩ := hT; k_unfold
    intro prog dp un gd base frs g s Q E S hdp hun hret
    k_extra "m_enterT"
    k_steps
    · unfold StopW
      have hs := hT2 (chEq (by assumption) (by assumption) (by assumption))
      k_extra "m_c411"
      k_steps
      (rename NewsG _ _ _ => kN1)
      (rename KtsTurn _ _ _ => kT1)
      refine hret _ _ _ _ _ kT1 (by assumption) (fun p hp => kN1 p ?_) (by exact ⟨True.intro, True.intro⟩) ⟨(), rfl, rfl, True.intro⟩
      rw [List.mem_singleton.mp hp]
      k_mem
    · unfold StopW
      have hs := hT3 (chEq (by assumption) (by assumption) (by assumption)) (bne_f (by assumption))
      k_extra "m_c404"
      k_steps
      (rename NewsG _ _ _ => kN1)
      (rename KtsTurn _ _ _ => kT1)
      refine hret _ _ _ _ _ kT1 (by assumption) (fun p hp => kN1 p ?_) (by exact ⟨True.intro, True.intro⟩) ⟨(), rfl, rfl, True.intro⟩
      rw [List.mem_singleton.mp hp]
      k_mem
    · unfold StopW
      obtain ⟨p, hp1, hp2⟩ := hT4 (chEq (by assumption) (by assumption) (by assumption)) (bne_t (by assumption))
      (rename Fr _ _ _ _ => lF')
      refine For_turns lF' ?_
      k_steps
      unfold StopW
      (try ((rename News _ _ _ _ => N8); (dsimp (zetaDelta := true) only at N8)))
      generalize (pl.take ((i : Int) + 1).toNat ++ pl.drop (i : Int).toNat) = fl at *
      refine enum_led (J := TwJ (texts fl) _) rfl (by k_asm) (by k_asm) (by k_mem) (by k_extra "m_pnk") (twJ0 rfl rfl) ?step ?done
      case done =>
        intro h tk m F' N' J'
        exact (twJn (by rwa [strValues_len] at J') hp1).elim
      case step =>
        k_extra "m_clrD"
        intro i2 v t2 T tk h m e it oe oi hv J' hT' F' N' z1 z2 dN9
        obtain ⟨x2, hx2, rfl⟩ := strs_at hv
        refine hideG ?_; intro g9; obtain ⟨hmf, c, tc, hm, ⟨hcb1, hcb2⟩, hg⟩ := J'; k_unfold
        have hR2 : (texts fl)[i2]? = some x2.1 := by rw [texts, List.getElem?_map, hx2]; rfl
        have hxl2 : x2.1.length ≤ 900 := hT1.rows.at hx2
        have hi2 : i2 ≤ 100 := by
          have h1 := (List.getElem?_eq_some_iff.mp hR2).1
          have h2 := hT1.1
          omega
        have F2 := ovF1 (n := Str.ofString "found") (ovF1 F' hm) (by rw [if_neg (by decide)]; exact hmf)
        clear F'
        k_steps
        · have hod : openD x2.1 = 1 := openD1 (by assumption)
          (rename _ + _ = (0 : Int) => hz)
          have hpi := twJf (by rw [hod]) hz hR2 hg hp1
          have hs : readO (backR (texts fl)) = .error ((i2 : Int) + 1) := by rw [hp2, hpi]
          k_steps
          unfold StopW
          k_extra "m_c404"
          k_steps
          dsimp only [EBPost]
          k_steps
          (rename NewsG _ _ _ => kN1)
          (rename KtsTurn _ _ _ => kT1)
          refine hret _ _ _ _ _ kT1 (by assumption) (fun p hp => kN1 p ?_) (by exact ⟨True.intro, True.intro⟩) ⟨(), rfl, rfl, True.intro⟩
          rw [List.mem_singleton.mp hp]
          k_mem
        · have hod : openD x2.1 = 1 := openD1 (by assumption)
          (rename _ + _ ≠ (0 : Int) => hz)
          exact ⟨_, _, _, rfl, by k_asm, by k_asm, twJs rfl rfl (by rw [hod]) hz ⟨hcb1, hcb2⟩ hR2 hg⟩
        · have hod : openD x2.1 = -1 := openD2 (by assumption) (by assumption)
          (rename _ + _ = (0 : Int) => hz)
          have hpi := twJf (by rw [hod]) hz hR2 hg hp1
          have hs : readO (backR (texts fl)) = .error ((i2 : Int) + 1) := by rw [hp2, hpi]
          k_steps
          unfold StopW
          k_extra "m_c404"
          k_steps
          dsimp only [EBPost]
          k_steps
          (rename NewsG _ _ _ => kN1)
          (rename KtsTurn _ _ _ => kT1)
          refine hret _ _ _ _ _ kT1 (by assumption) (fun p hp => kN1 p ?_) (by exact ⟨True.intro, True.intro⟩) ⟨(), rfl, rfl, True.intro⟩
          rw [List.mem_singleton.mp hp]
          k_mem
        · have hod : openD x2.1 = -1 := openD2 (by assumption) (by assumption)
          (rename _ + _ ≠ (0 : Int) => hz)
          exact ⟨_, _, _, rfl, by k_asm, by k_asm, twJs rfl rfl (by rw [hod]) hz ⟨hcb1, hcb2⟩ hR2 hg⟩
        · have hod : openD x2.1 = 0 := openD3 (by assumption) (by assumption)
          (rename _ + _ = (0 : Int) => hz)
          have hpi := twJf (by rw [hod]) hz hR2 hg hp1
          have hs : readO (backR (texts fl)) = .error ((i2 : Int) + 1) := by rw [hp2, hpi]
          k_steps
          unfold StopW
          k_extra "m_c404"
          k_steps
          dsimp only [EBPost]
          k_steps
          (rename NewsG _ _ _ => kN1)
          (rename KtsTurn _ _ _ => kT1)
          refine hret _ _ _ _ _ kT1 (by assumption) (fun p hp => kN1 p ?_) (by exact ⟨True.intro, True.intro⟩) ⟨(), rfl, rfl, True.intro⟩
          rw [List.mem_singleton.mp hp]
          k_mem
        · have hod : openD x2.1 = 0 := openD3 (by assumption) (by assumption)
          (rename _ + _ ≠ (0 : Int) => hz)
          exact ⟨_, _, _, rfl, by k_asm, by k_asm, twJs rfl rfl (by rw [hod]) hz ⟨hcb1, hcb2⟩ hR2 hg⟩
  case zs => show LetQ _ ?zq _; (try delta id foldQ letS2 letS hideG foldN subRN subN ltCut letAE nameRet); exact LetQ.refl
  case zf => intro _ r _; exact r
end

theorem wd_63 : True := by
  (k_with "offTW" => (skip))
  trivial
end
section -- NS
theorem addStrsE {prog : Program} {w : World} {A : Around} {E : Value → Shared → Prop} {s : Shared} {h₀ : Heap} {L l b : Addr} {m : Str → Option Value} {news : List (Addr × Obj)} {o1 o2 : Obj} {p1 p2 : List (Str × Tok)} {Q : Value → Shared → Prop} (F : Fr h₀ L s.heap m) (N : News h₀ L s.heap news) (h1 : (l, o1) ∈ news) (h2 : (b, o2) ∈ news)
    (e1 : ∃ n, o1 = W.listOf (strValues p1).toArray n) (e2 : ∃ n, o2 = W.listOf (strValues p2).toArray n) (hz : p1.length + p2.length ≤ 1000)
    (h : ∀ D h', Fr h₀ L h' m → News h₀ L h' ((D, W.listOf (strValues (p1 ++ p2)).toArray 0) :: news) → (∀ p ∈ news, p.1 < D) → Q (.ref D) { s with heap := h' }) : wpAny (model prog w) A (binaryOp .Add (.ref l) (.ref b)) Q E s := addStrs F N h1 h2 e1 e2 hz h
section
variable {k : Nat} {a b c d e f : Str} {t1 t2 t3 t4 t5 t6 : Tok} {pl : List (Str × Tok)}
theorem strsL : ∃ n, W.listOf (strValues pl).toArray k = W.listOf (strValues pl).toArray n := ⟨k, rfl⟩
theorem strs0 : ∃ n, W.listOf #[] k = W.listOf (strValues []).toArray n := ⟨k, rfl⟩
theorem strs1 : ∃ n, W.listOf #[.str a t1] k = W.listOf (strValues [(a, t1)]).toArray n := ⟨k, rfl⟩
theorem strs2 : ∃ n, W.listOf #[.str a t1, .str b t2] k = W.listOf (strValues [(a, t1), (b, t2)]).toArray n := ⟨k, rfl⟩
theorem strs6 : ∃ n, W.listOf #[.str a t1, .str b t2, .str c t3, .str d t4, .str e t5, .str f t6] k = W.listOf (strValues [(a, t1), (b, t2), (c, t3), (d, t4), (e, t5), (f, t6)]).toArray n := ⟨k, rfl⟩
end
noncomputable def headN : List Str := [Str.ofString "unit none", Str.ofString "params", Str.ofString "places", Str.ofString "own none none", Str.ofString "room 0 0", Str.ofString "captures"]
noncomputable def plainN : List Str := headN ++ [Str.ofString "end"]
noncomputable def nestR (f : Int) : List Str := headN ++ (if f = 0 then plainN else if f = 1 then plainN ++ plainN else headN ++ plainN ++ [Str.ofString "end"]) ++ [Str.ofString "end"]
noncomputable abbrev ListP (R : List Str) : Value → List (Addr × Obj) → Prop := LinesP R []
theorem listRet {g h' : Heap} {s : Shared} {Q : Value → Shared → Prop} {R : List Str} {D : Addr} {pl : List (Str × Tok)} {n tk : Nat} {all : List (Addr × Obj)} (hret : RetS g s (ListP R) Q) (st : g.StaysIn h') (N : NewsG g h' all) (hm : (D, W.listOf (strValues pl).toArray n) ∈ all) (e : texts pl = R) :
    Q (.ref D) { s with heap := h', toks := tk } := hret _ _ _ _ st (fun p hp => by rw [List.mem_singleton.mp hp]; exact N _ hm) (by exact ⟨True.intro, True.intro⟩) ⟨pl, n, D, rfl, rfl, e⟩
theorem wd_64 : True := by
  (k_with "x_kwd_rel" => ((fail_if_success (k_extra "offNS")); k_extra "W119"))
  (k_with "x_k_all" => ((fail_if_success (k_extra "offNS")); k_extra "W120"))
  (k_with "x_k_all" => ((fail_if_success (k_extra "offNS")); k_extra "W121"))
  (k_with "x_kwd_inv" => ((fail_if_success (k_extra "offNS")); k_extra "W122"))
  (k_with "m_turnG" => ((fail_if_success (k_extra "offNS")); k_extra "W123"))
  (k_with "m_finEG" => ((fail_if_success (k_extra "offNS")); k_extra "W124"))
  (k_with "m_pair" => ((fail_if_success (k_extra "offNS")); k_extra "W125"))
  (k_with "m_clear" => ((fail_if_success (k_extra "offNS")); k_extra "W126"))
  (k_with "callWith builtin:list.append cons nil" => ((fail_if_success (k_extra "offNS")); k_extra "W185"))
  (k_with "callWith builtin:str.join cons nil" => ((fail_if_success (k_extra "offNS")); k_extra "W185"))
  (k_with "m_mem" => ((fail_if_success (k_extra "offNS")); k_extra "W186"))
  (k_with "x_k_mem" => ((fail_if_success (k_extra "offNS")); k_extra "W187"))
  (k_with "binaryOp Add ref ref" => ((fail_if_success (k_extra "offNS")); k_extra "W188"))
  (k_with "W213" => (first | exact strsL | exact strs0 | exact strs1 | exact strs2 | exact strs6))
  (k_with "m_strs" => ((fail_if_success (k_extra "offNS")); k_extra "W213"))
  (k_with "W214" => ((k_here; k_dflt (refine' addStrsE (by k_asm) (by k_asm) (by k_mem) (by k_mem) (by k_extra "m_strs") (by k_extra "m_strs") (by ((simp only [List.length_take, List.length_drop, List.length_append, List.length_cons, List.length_nil]); omega)) ?_); (intro D' h' F' N' l1; (try k_extra "klt"); (try dsimp only)))))
  (k_with "binaryOp Add ref ref" => ((fail_if_success (k_extra "offNS")); k_extra "W214"))
  trivial
section
variable {w : World} {mean : ExcName → Option Value} {mg mb : Str → Option Value} {f : Int} {t : Tok}
theorem c_nest (hf : f = 0 ∨ f = 1 ∨ f = 2) : Con w mean mg mb 397 [.int f t] [] 20 (ListP (nestR f)) (fun _ => False) := by
  refine' (?zf : Scr _) ?zq _ ?zs
  case zq =>
    intro prog dp un gd base frs g s Q E S hdp hun hret hexn; refine nameRet hret ?_; clear hret; intro P9 hret
    k_extra "m_enter"
    rcases hf with rfl | rfl | rfl
    all_goals k_steps
    all_goals exact listRet hret (by assumption) (by assumption) (.head _) rfl
  case zs => show LetQ _ ?zq _; (try delta id foldQ letS2 letS hideG foldN subRN subN ltCut letAE nameRet); exact LetQ.refl
  case zf => intro _ r _; exact r
end

theorem wd_65 : True := by
  (k_with "offNS" => (skip))
  trivial
end
section -- LU
section
variable {prog : Program} {w : World} {A : Around} {E : Value → Shared → Prop} {s : Shared} {h₀ : Heap} {L l : Addr} {news : List (Addr × Obj)} {n : Nat} {Q : Value → Shared → Prop} {value slice : Expr} {k : Int} {u : Tok}
theorem itemMem {vs : List Value} (N : News h₀ L s.heap news) (hm : (l, W.listOf vs.toArray n) ∈ news) (h0 : 0 ≤ k) (hk : k < vs.length) (h1 : vs.length ≤ 100) (h : ∀ x ∈ vs, Q x s)
    (hs : subscripted slice false (.ref l) (.int k u) = operate [.ref l, .int k u] (getItem (.ref l) (.int k u))) :
    wpAny (model prog w) A (subscriptTail value slice (.ref l) (.int k u)) Q E s := by
  have hx : vs[k.toNat]? = some vs[k.toNat] := List.getElem?_eq_getElem (by omega)
  exact item_listR (isList_at N hm) h0 (by omega) (by simpa using hx) (h _ (List.mem_of_getElem? hx)) hs
theorem itemTab3 {a b c : Str} {t1 t2 t3 : Tok} (N : News h₀ L s.heap news) (hm : (l, W.listOf #[.str a t1, .str b t2, .str c t3] n) ∈ news) (h0 : 0 ≤ k) (hk : k < 3) (hb : ∀ y ∈ [a, b, c], y.length ≤ 30) (h : ∀ y u, y ∈ [a, b, c] → y.length ≤ 30 → Q (.str y u) s)
    (hs : subscripted slice false (.ref l) (.int k u) = operate [.ref l, .int k u] (getItem (.ref l) (.int k u))) :
    wpAny (model prog w) A (subscriptTail value slice (.ref l) (.int k u)) Q E s := by
  refine itemMem (vs := [.str a t1, .str b t2, .str c t3]) N hm h0 hk (by simp) (fun x hx => ?_) hs
  simp only [List.mem_cons, List.not_mem_nil, or_false] at hx
  rcases hx with rfl | rfl | rfl
  · exact h _ _ (by simp) (hb _ (by simp))
  · exact h _ _ (by simp) (hb _ (by simp))
  · exact h _ _ (by simp) (hb _ (by simp))
theorem itemTab4 {a b c d : Str} {t1 t2 t3 t4 : Tok} (N : News h₀ L s.heap news) (hm : (l, W.listOf #[.str a t1, .str b t2, .str c t3, .str d t4] n) ∈ news) (h0 : 0 ≤ k) (hk : k < 4) (hb : ∀ y ∈ [a, b, c, d], y.length ≤ 30) (h : ∀ y u, y ∈ [a, b, c, d] → y.length ≤ 30 → Q (.str y u) s)
    (hs : subscripted slice false (.ref l) (.int k u) = operate [.ref l, .int k u] (getItem (.ref l) (.int k u))) :
    wpAny (model prog w) A (subscriptTail value slice (.ref l) (.int k u)) Q E s := by
  refine itemMem (vs := [.str a t1, .str b t2, .str c t3, .str d t4]) N hm h0 hk (by simp) (fun x hx => ?_) hs
  simp only [List.mem_cons, List.not_mem_nil, or_false] at hx
  rcases hx with rfl | rfl | rfl | rfl
  · exact h _ _ (by simp) (hb _ (by simp))
  · exact h _ _ (by simp) (hb _ (by simp))
  · exact h _ _ (by simp) (hb _ (by simp))
  · exact h _ _ (by simp) (hb _ (by simp))
end
section
variable {k : Nat} {a b c d e f : Str} {t1 t2 t3 t4 t5 t6 : Tok} {pl : List (Str × Tok)}
theorem strs3 : ∃ n, W.listOf #[.str a t1, .str b t2, .str c t3] k = W.listOf (strValues [(a, t1), (b, t2), (c, t3)]).toArray n := ⟨k, rfl⟩
theorem strs4 : ∃ n, W.listOf #[.str a t1, .str b t2, .str c t3, .str d t4] k = W.listOf (strValues [(a, t1), (b, t2), (c, t3), (d, t4)]).toArray n := ⟨k, rfl⟩
end
section
variable {prog : Program} {w : World} {A : Around} {E : Value → Shared → Prop} {s : Shared} {h₀ : Heap} {L l : Addr} {news : List (Addr × Obj)} {n : Nat} {Q : Value → Shared → Prop} {value slice : Expr} {k : Int} {u : Tok} {a0 a1 a2 a3 : Addr} {o0 o1 o2 o3 : Obj} {p0 p1 p2 p3 : List (Str × Tok)}
theorem itemRL4 (N : News h₀ L s.heap news) (hm : (l, W.listOf #[.ref a0, .ref a1, .ref a2, .ref a3] n) ∈ news) (h0 : 0 ≤ k) (hk : k < 4) (m0 : (a0, o0) ∈ news) (m1 : (a1, o1) ∈ news) (m2 : (a2, o2) ∈ news) (m3 : (a3, o3) ∈ news)
    (e0 : ∃ n, o0 = W.listOf (strValues p0).toArray n) (e1 : ∃ n, o1 = W.listOf (strValues p1).toArray n) (e2 : ∃ n, o2 = W.listOf (strValues p2).toArray n) (e3 : ∃ n, o3 = W.listOf (strValues p3).toArray n)
    (hb : ∀ y ∈ [texts p0, texts p1, texts p2, texts p3], y.length ≤ 4 ∧ ∀ z ∈ y, z.length ≤ 30)
    (h : ∀ a pl n', texts pl ∈ [texts p0, texts p1, texts p2, texts p3] → pl.length ≤ 4 → (∀ z ∈ texts pl, z.length ≤ 30) → (a, W.listOf (strValues pl).toArray n') ∈ news → Q (.ref a) s)
    (hs : subscripted slice false (.ref l) (.int k u) = operate [.ref l, .int k u] (getItem (.ref l) (.int k u))) :
    wpAny (model prog w) A (subscriptTail value slice (.ref l) (.int k u)) Q E s := by
  obtain ⟨n0, rfl⟩ := e0
  obtain ⟨n1, rfl⟩ := e1
  obtain ⟨n2, rfl⟩ := e2
  obtain ⟨n3, rfl⟩ := e3
  have key : ∀ a pl n', texts pl ∈ [texts p0, texts p1, texts p2, texts p3] → (a, W.listOf (strValues pl).toArray n') ∈ news → Q (.ref a) s := fun a pl n' h1 h2 => h a pl n' h1 (by have := (hb _ h1).1; rwa [texts, List.length_map] at this) (hb _ h1).2 h2
  refine itemMem (vs := [.ref a0, .ref a1, .ref a2, .ref a3]) N hm h0 hk (by simp) (fun x hx => ?_) hs
  simp only [List.mem_cons, List.not_mem_nil, or_false] at hx
  rcases hx with rfl | rfl | rfl | rfl
  · exact key _ p0 n0 (by simp) m0
  · exact key _ p1 n1 (by simp) m1
  · exact key _ p2 n2 (by simp) m2
  · exact key _ p3 n3 (by simp) m3
theorem itemRL3 (N : News h₀ L s.heap news) (hm : (l, W.listOf #[.ref a0, .ref a1, .ref a2] n) ∈ news) (h0 : 0 ≤ k) (hk : k < 3) (m0 : (a0, o0) ∈ news) (m1 : (a1, o1) ∈ news) (m2 : (a2, o2) ∈ news)
    (e0 : ∃ n, o0 = W.listOf (strValues p0).toArray n) (e1 : ∃ n, o1 = W.listOf (strValues p1).toArray n) (e2 : ∃ n, o2 = W.listOf (strValues p2).toArray n)
    (hb : ∀ y ∈ [texts p0, texts p1, texts p2], y.length ≤ 4 ∧ ∀ z ∈ y, z.length ≤ 30)
    (h : ∀ a pl n', texts pl ∈ [texts p0, texts p1, texts p2] → pl.length ≤ 4 → (∀ z ∈ texts pl, z.length ≤ 30) → (a, W.listOf (strValues pl).toArray n') ∈ news → Q (.ref a) s)
    (hs : subscripted slice false (.ref l) (.int k u) = operate [.ref l, .int k u] (getItem (.ref l) (.int k u))) :
    wpAny (model prog w) A (subscriptTail value slice (.ref l) (.int k u)) Q E s := by
  obtain ⟨n0, rfl⟩ := e0
  obtain ⟨n1, rfl⟩ := e1
  obtain ⟨n2, rfl⟩ := e2
  have key : ∀ a pl n', texts pl ∈ [texts p0, texts p1, texts p2] → (a, W.listOf (strValues pl).toArray n') ∈ news → Q (.ref a) s := fun a pl n' h1 h2 => h a pl n' h1 (by have := (hb _ h1).1; rwa [texts, List.length_map] at this) (hb _ h1).2 h2
  refine itemMem (vs := [.ref a0, .ref a1, .ref a2]) N hm h0 hk (by simp) (fun x hx => ?_) hs
  simp only [List.mem_cons, List.not_mem_nil, or_false] at hx
  rcases hx with rfl | rfl | rfl
  · exact key _ p0 n0 (by simp) m0
  · exact key _ p1 n1 (by simp) m1
  · exact key _ p2 n2 (by simp) m2
theorem itemFirst {ls : List (Str × Tok)} (N : News h₀ L s.heap news) (hm : (l, W.listOf (strValues ls).toArray n) ∈ news) (hne : (texts ls == []) = false) (hb : ∀ z ∈ texts ls, z.length ≤ 30) (h : ∀ a r t, ls = (a, t) :: r → a.length ≤ 30 → Q (.str a t) s)
    (hs : subscripted slice false (.ref l) (.int 0 u) = operate [.ref l, .int 0 u] (getItem (.ref l) (.int 0 u))) :
    wpAny (model prog w) A (subscriptTail value slice (.ref l) (.int 0 u)) Q E s := by
  cases ls with
  | nil => simp [texts] at hne
  | cons p r =>
    obtain ⟨a, t⟩ := p
    exact item_listR (isList_at N hm) (Int.le_refl 0) (by decide) (by simp [strValues]) (h a r t rfl (hb a (by simp [texts]))) hs
end
theorem neNil {prog : Program} {w : World} {A : Around} {s : Shared} {l b : Addr} {xs : List (Str × Tok)} {E : Value → Shared → Prop} {h₀ : Heap} {L : Addr} {news : List (Addr × Obj)} {n k : Nat} {Q : Value → Shared → Prop} (N : News h₀ L s.heap news) (h1 : (l, W.listOf (strValues xs).toArray n) ∈ news) (h2 : (b, W.listOf #[] k) ∈ news) (hu : A.units < cLine)
    (h : Q (.bool (!(texts xs == []))) s) : wpAny (model prog w) A (compareOp .NotEq (.ref l) (.ref b)) Q E s := neStrs (ys := []) N h1 h2 hu h
theorem sliceUpto2 {prog : Program} {w : World} {A : Around} {s : Shared} {h₀ : Heap} {L l : Addr} {E : Value → Shared → Prop} {Q : Value → Shared → Prop} {news : List (Addr × Obj)} {n : Nat} {m : Str → Option Value} {value slice : Expr} {x : Int} {u : Tok} {a b : Str} {t1 t2 : Tok} (F : Fr h₀ L s.heap m) (N : News h₀ L s.heap news) (hm : (l, W.listOf #[.str a t1, .str b t2] n) ∈ news) (hx : 0 ≤ x) (ha : a.length ≤ 30 ∧ b.length ≤ 30)
    (h : ∀ D h' ls, Fr h₀ L h' m → News h₀ L h' ((D, W.listOf (strValues ls).toArray 0) :: news) → (∀ p ∈ news, p.1 < D) → texts ls = [a, b].take x.toNat → ls.length ≤ 2 → Q (.ref D) { s with heap := h' })
    (hs : subscripted slice false (.ref l) (.ref s.heap.objs.size) = operate [.ref s.heap.objs.size, .ref l] (getItem (.ref l) (.ref s.heap.objs.size))) (ht : ∀ r, letTemporaryGo value (.ref l) r = pure ()) :
    wpAny (model prog w) A (subscriptTail value slice (.ref l) (.ref s.heap.objs.size)) Q E { s with heap := s.heap.push { cls := .type "slice", data := .fields #[.none, .int x u, .none] } } := by
  refine sliceUptoStrs (ls := [(a, t1), (b, t2)]) F N hm hx ⟨by simp, fun p hp => ?_⟩ (fun D h' F' N' l1 _ => h D h' _ F' N' l1 (by simp [texts]) (by simp; omega)) hs ht
  simp only [List.mem_cons, List.not_mem_nil, or_false] at hp
  rcases hp with rfl | rfl
  · show a.length ≤ 900; omega
  · show b.length ≤ 900; omega
theorem textsAt {pl : List (Str × Tok)} {i b : Nat} {p : Str × Tok} (hp : pl[i]? = some p) (hz : ∀ z ∈ texts pl, z.length ≤ b) : p.1.length ≤ b := hz _ (List.mem_map_of_mem (List.mem_of_getElem? hp))
noncomputable def namesT : List Str := [Str.ofString "none", Str.ofString "\"f\"", Str.ofString "\"\\u0022\""]
noncomputable def flagsT : List Str := [Str.ofString "", Str.ofString " strict", Str.ofString " arguments", Str.ofString " strict arguments"]
noncomputable def paramsT : List Str := [Str.ofString "", Str.ofString " \"a\"", Str.ofString " \"a\" \"\""]
noncomputable def placesT : List Str := [Str.ofString "", Str.ofString " local0", Str.ofString " none cell12"]
noncomputable def ownT : List Str := [Str.ofString "none none", Str.ofString "local1 none", Str.ofString "cell0 local10"]
noncomputable def capsT : List Str := [Str.ofString "", Str.ofString " frame0", Str.ofString " closure12 frame3"]
noncomputable def wordsT : List (List Str) := [[], [Str.ofString "0"], [Str.ofString "\"k\"", Str.ofString "20"], [Str.ofString "\"\\u0020;\""]]
noncomputable def handT : List (List Str) := [[], [Str.ofString "handler 0 1 2 0 catch"], [Str.ofString "handler 1 12 0 3 finally"]]
noncomputable def codesT : List Str := [Str.ofString "0 0 UNDEF", Str.ofString "1 13 GETLOC 10"]
noncomputable def constRow (k : Nat) (w : Str) : Str := Str.ofString (toString (k : Int)) ++ Str.ofString " 1 CONST 0 ; " ++ w
noncomputable def headRows (a0 a1 a2 a3 a4 a5 : Str) (n1 n2 : Int) : List Str := [Str.ofString "unit " ++ a0 ++ a1, Str.ofString "params" ++ a2, Str.ofString "places" ++ a3, Str.ofString "own " ++ a4, Str.ofString "room " ++ Str.ofString (toString n1) ++ Str.ofString " " ++ Str.ofString (toString n2), Str.ofString "captures" ++ a5]
noncomputable def constRows (ws : List Str) : List Str := ws.map fun w => Str.ofString "const " ++ w
noncomputable def codeRows (ws : List Str) (cs : List Str) : List Str := match ws with
  | [] => cs
  | w :: _ => cs ++ [constRow cs.length w]
/-- the rows of a unit that the law draws -/
inductive UnitRel (R : List Str) : Prop
  | mk (a0 : _) (a1 : _) (a2 : _) (a3 : _) (a4 : _) (a5 : _) (n1 : _) (n2 : _) (ws : _) (hs : _) (k : _) (hq1 : a0 ∈ namesT) (hq2 : a1 ∈ flagsT) (hq3 : a2 ∈ paramsT) (hq4 : a3 ∈ placesT) (hq5 : a4 ∈ ownT) (hq6 : a5 ∈ capsT) (hq7 : (0 ≤ n1 ∧ n1 < 30)) (hq8 : (0 ≤ n2 ∧ n2 < 12)) (hq9 : ws ∈ wordsT) (hq10 : hs ∈ handT) (hq11 : R = headRows a0 a1 a2 a3 a4 a5 n1 n2 ++ constRows ws ++ hs ++ codeRows ws (codesT.take k) ++ [Str.ofString "end"]) : UnitRel R
noncomputable abbrev UnitP9 : Value → List (Addr × Obj) → Prop := LinesR UnitRel []
theorem unitRet {g h' : Heap} {s : Shared} {Q : Value → Shared → Prop} {D : Addr} {pl : List (Str × Tok)} {n tk : Nat} {all : List (Addr × Obj)} (hret : RetS g s UnitP9 Q) (st : g.StaysIn h') (N : NewsG g h' all) (hm : (D, W.listOf (strValues pl).toArray n) ∈ all) (e : UnitRel (texts pl)) :
    Q (.ref D) { s with heap := h', toks := tk } := hret _ _ _ _ st (fun p hp => by rw [List.mem_singleton.mp hp]; exact N _ hm) (by exact ⟨True.intro, True.intro⟩) ⟨pl, n, D, rfl, rfl, e⟩
section
variable {a0 a1 a2 a3 a4 a5 x : Str} {n1 n2 : Int} {wl hl ql cl : List (Str × Tok)} {t1 t2 t3 t4 t5 t6 t7 t8 t9 : Tok} {k : Nat} {L1 L2 : List (List Str)}
theorem unitRel0 (h0 : a0 ∈ namesT) (h1 : a1 ∈ flagsT) (h2 : a2 ∈ paramsT) (h3 : a3 ∈ placesT) (h4 : a4 ∈ ownT) (h5 : a5 ∈ capsT) (z1 : 0 ≤ n1 ∧ n1 < 30) (z2 : 0 ≤ n2 ∧ n2 < 12) (hw : texts wl ∈ L1) (e1 : L1 = wordsT) (hh : texts hl ∈ L2) (e2 : L2 = handT)
    (hq : texts ql = wl.map fun p => Str.ofString "const " ++ p.1) (hc : texts cl = codesT.take k) (hE : (texts wl == []) = true) :
    UnitRel (texts ([(Str.ofString "unit " ++ a0 ++ a1, t1), (Str.ofString "params" ++ a2, t2), (Str.ofString "places" ++ a3, t3), (Str.ofString "own " ++ a4, t4), (Str.ofString "room " ++ Str.ofString (toString n1) ++ Str.ofString " " ++ Str.ofString (toString n2), t5), (Str.ofString "captures" ++ a5, t6)] ++ ql ++ hl ++ cl ++ [(Str.ofString "end", t7)])) := by
  subst e1; subst e2
  refine ⟨a0, a1, a2, a3, a4, a5, n1, n2, texts wl, texts hl, k, h0, h1, h2, h3, h4, h5, z1, z2, hw, hh, ?_⟩
  have hw0 : texts wl = [] := by simpa using hE
  have e1 : codeRows (texts wl) (codesT.take k) = texts cl := by rw [hw0, hc]; rfl
  have e2 : constRows (texts wl) = texts ql := by rw [hq, constRows, texts, List.map_map]; rfl
  rw [e1, e2]
  simp only [texts, List.map_append]
  rfl
theorem unitRel1 (h0 : a0 ∈ namesT) (h1 : a1 ∈ flagsT) (h2 : a2 ∈ paramsT) (h3 : a3 ∈ placesT) (h4 : a4 ∈ ownT) (h5 : a5 ∈ capsT) (z1 : 0 ≤ n1 ∧ n1 < 30) (z2 : 0 ≤ n2 ∧ n2 < 12) (hw : texts wl ∈ L1) (e1 : L1 = wordsT) (hh : texts hl ∈ L2) (e2 : L2 = handT)
    (hq : texts ql = wl.map fun p => Str.ofString "const " ++ p.1) (hc : texts cl = codesT.take k) (hE : wl = (x, t9) :: hl') :
    UnitRel (texts ([(Str.ofString "unit " ++ a0 ++ a1, t1), (Str.ofString "params" ++ a2, t2), (Str.ofString "places" ++ a3, t3), (Str.ofString "own " ++ a4, t4), (Str.ofString "room " ++ Str.ofString (toString n1) ++ Str.ofString " " ++ Str.ofString (toString n2), t5), (Str.ofString "captures" ++ a5, t6)] ++ ql ++ hl ++ (cl ++ [(Str.ofString (toString (cl.length : Int)) ++ Str.ofString " 1 CONST 0 ; " ++ x, t8)]) ++ [(Str.ofString "end", t7)])) := by
  subst e1; subst e2
  refine ⟨a0, a1, a2, a3, a4, a5, n1, n2, texts wl, texts hl, k, h0, h1, h2, h3, h4, h5, z1, z2, hw, hh, ?_⟩
  have hl : (codesT.take k).length = cl.length := by rw [← hc, texts, List.length_map]
  have e1 : codeRows (texts wl) (codesT.take k) = texts (cl ++ [(Str.ofString (toString (cl.length : Int)) ++ Str.ofString " 1 CONST 0 ; " ++ x, t8)]) := by
    rw [hE]
    show codesT.take k ++ [constRow (codesT.take k).length x] = _
    rw [hl, ← hc]
    simp only [texts, List.map_append]; rfl
  have e2 : constRows (texts wl) = texts ql := by rw [hq, constRows, texts, List.map_map]; rfl
  rw [e1, e2]
  simp only [texts, List.map_append]
  rfl
end
theorem fmB {a b : Int} (h : 0 < b) : 0 ≤ a.fmod b ∧ a.fmod b < b := ⟨Int.fmod_nonneg_of_pos _ h, Int.fmod_lt_of_pos _ h⟩
theorem wd_66 : True := by
  (k_with "x_kwd_rel" => ((fail_if_success (k_extra "offLU")); k_extra "W119"))
  (k_with "x_k_all" => ((fail_if_success (k_extra "offLU")); k_extra "W120"))
  (k_with "x_k_all" => ((fail_if_success (k_extra "offLU")); k_extra "W121"))
  (k_with "x_kwd_inv" => ((fail_if_success (k_extra "offLU")); k_extra "W122"))
  (k_with "m_turnG" => ((fail_if_success (k_extra "offLU")); k_extra "W123"))
  (k_with "m_finEG" => ((fail_if_success (k_extra "offLU")); k_extra "W124"))
  (k_with "m_pair" => ((fail_if_success (k_extra "offLU")); k_extra "W125"))
  (k_with "m_clear" => ((fail_if_success (k_extra "offLU")); k_extra "W126"))
  (k_with "TurnEnd" => ((fail_if_success (k_extra "offLU")); k_extra "W178"))
  (k_with "m_turnV" => ((fail_if_success (k_extra "offLU")); k_extra "W179"))
  (k_with "m_finE" => ((fail_if_success (k_extra "offLU")); k_extra "W105"))
  (k_with "x_k_all" => ((fail_if_success (k_extra "offLU")); k_extra "W180"))
  (k_with "callWith builtin:list.append cons nil" => ((fail_if_success (k_extra "offLU")); k_extra "W185"))
  (k_with "callWith builtin:str.join cons nil" => ((fail_if_success (k_extra "offLU")); k_extra "W185"))
  (k_with "m_mem" => ((fail_if_success (k_extra "offLU")); k_extra "W186"))
  (k_with "x_k_mem" => ((fail_if_success (k_extra "offLU")); k_extra "W187"))
  (k_with "binaryOp Add ref ref" => ((fail_if_success (k_extra "offLU")); k_extra "W188"))
  (k_with "m_strs" => ((fail_if_success (k_extra "offLU")); k_extra "W213"))
  (k_with "binaryOp Add ref ref" => ((fail_if_success (k_extra "offLU")); k_extra "W214"))
  (k_with "W215" => (first | exact List.mem_cons_self | with_reducible assumption | (refine List.mem_cons_of_mem _ ?_; k_extra "m_mem")))
  (k_with "m_mem" => ((fail_if_success (k_extra "offLU")); k_extra "W215"))
  (k_with "W216" => (first | exact strsL | exact strs0 | exact strs1 | exact strs2 | exact strs3 | exact strs4 | exact strs6))
  (k_with "m_strs" => ((fail_if_success (k_extra "offLU")); k_extra "W216"))
  (k_with "W217" => ((k_dflt (refine' itemTab3 (by k_asm) (by with_reducible exact List.mem_cons_self) (by l_fact) (by l_fact) (by decide) ?_ (by with_unfolding_all rfl)); (intro y' u' hy' hl'; (try dsimp only)))))
  (k_with "m_tab3" => ((fail_if_success (k_extra "offLU")); k_extra "W217"))
  (k_with "W218" => ((k_dflt (refine' itemTab4 (by k_asm) (by with_reducible exact List.mem_cons_self) (by l_fact) (by l_fact) (by decide) ?_ (by with_unfolding_all rfl)); (intro y' u' hy' hl'; (try dsimp only)))))
  (k_with "m_tab4" => ((fail_if_success (k_extra "offLU")); k_extra "W218"))
  (k_with "W219" => ((k_dflt (refine' itemRL4 (by k_asm) (by with_reducible exact List.mem_cons_self) (by l_fact) (by l_fact) (by k_mem) (by k_mem) (by k_mem) (by k_mem) (by k_extra "m_strs") (by k_extra "m_strs") (by k_extra "m_strs") (by k_extra "m_strs") (by ((simp only [texts, List.map_cons, List.map_nil]); decide)) ?_ (by with_unfolding_all rfl)); (intro a' pl' n' hw' hl' hz' hm'; (try dsimp only)))))
  (k_with "m_rl4" => ((fail_if_success (k_extra "offLU")); k_extra "W219"))
  (k_with "W220" => ((k_dflt (refine' itemRL3 (by k_asm) (by with_reducible exact List.mem_cons_self) (by l_fact) (by l_fact) (by k_mem) (by k_mem) (by k_mem) (by k_extra "m_strs") (by k_extra "m_strs") (by k_extra "m_strs") (by ((simp only [texts, List.map_cons, List.map_nil]); decide)) ?_ (by with_unfolding_all rfl)); (intro a' pl' n' hw' hl' hz' hm'; (try dsimp only)))))
  (k_with "m_rl3" => ((fail_if_success (k_extra "offLU")); k_extra "W220"))
  (k_with "W221" => ((k_here; (with_reducible show wpAny _ _ (subscriptTail _ _ (Value.ref _) (Value.int _ _)) _ _ _); first | k_extra "m_tab3" | k_extra "m_tab4" | k_extra "m_rl3" | k_extra "m_rl4" | refine stopW ?_)))
  (k_with "subscriptTail List cons BinOp ref int" => ((fail_if_success (k_extra "offLU")); k_extra "W221"))
  (k_with "W222" => ((k_here; k_dflt (refine' itemFirst (by k_asm) (by k_mem) (by with_reducible assumption) (by with_reducible assumption) ?_ (by with_unfolding_all rfl)); (intro a' r' t' e' hl'; (try dsimp only)))))
  (k_with "subscriptTail Name Constant ref int" => ((fail_if_success (k_extra "offLU")); k_extra "W222"))
  (k_with "W223" => ((k_here; k_dflt (refine' neNil (by k_asm) (by k_mem) (by k_mem) (by k_units) ?_))))
  (k_with "compareOp NotEq ref ref" => ((fail_if_success (k_extra "offLU")); k_extra "W223"))
  (k_with "W224" => ((k_here; k_dflt (refine' sliceUpto2 (by k_asm) (by k_asm) (by k_mem) (by l_fact) (by decide) ?_ (by with_unfolding_all rfl) (by kmk_pure)); intro D' h' ls' F' N' l1 z1 z2; (try k_extra "klt"); (try dsimp only))))
  (k_with "subscriptTail Name Slice ref ref" => ((fail_if_success (k_extra "offLU")); k_extra "W224"))
  trivial
section
variable {w : World} {mean : ExcName → Option Value} {mg mb : Str → Option Value} {c : Int} {t : Tok}
theorem c_unitR (hc : 0 ≤ c) : Con w mean mg mb 390 [.int c t] [] 20 UnitP9 (fun _ => False) := by
  refine' (?zf : Scr _) ?zq _ ?zs
  case zq =>
    intro prog dp un gd base frs g s Q E S hdp hun hret hexn; refine nameRet hret ?_; clear hret; intro P9 hret
    k_extra "m_enter"
    k_steps
    · refine compX_vals (as := _) (fun (p : Str × Tok) v => v = Value.str p.1 p.2) (fun (p : Str × Tok) y => ∃ t, y = Value.str (Str.ofString "const " ++ p.1) t ∧ (Str.ofString "const " ++ p.1).length ≤ 40) (by k_asm) (by k_asm) (by k_mem) strs_self (by simp [strValues]; omega) ?turn1 ?fin1
      case turn1 =>
        k_extra "m_turnV"
        have hl9 := textsAt (b := 30) (by assumption) (by assumption)
        subst_vars
        k_steps
      case fin1 =>
        k_extra "m_finE"
        (rename Paired _ _ _ => hPy)
        refine hideG ?_; intro g9; obtain ⟨ql, e91, hq1, hq2, hq4⟩ := strs_of3 (by decide) hPy; k_unfold; subst e91
        k_steps
        exact unitRet hret (by assumption) (by assumption) (.head _) (unitRel0 (by assumption) (by assumption) (by assumption) (by assumption) (by assumption) (by assumption) (fmB (by decide)) (fmB (by decide)) (by assumption) rfl (by assumption) rfl hq1 (by assumption) (by assumption))
    · refine compX_vals (as := _) (fun (p : Str × Tok) v => v = Value.str p.1 p.2) (fun (p : Str × Tok) y => ∃ t, y = Value.str (Str.ofString "const " ++ p.1) t ∧ (Str.ofString "const " ++ p.1).length ≤ 40) (by k_asm) (by k_asm) (by k_mem) strs_self (by simp [strValues]; omega) ?turn1 ?fin1
      case turn1 =>
        k_extra "m_turnV"
        have hl9 := textsAt (b := 30) (by assumption) (by assumption)
        subst_vars
        k_steps
      case fin1 =>
        k_extra "m_finE"
        (rename Paired _ _ _ => hPy)
        refine hideG ?_; intro g9; obtain ⟨ql, e91, hq1, hq2, hq4⟩ := strs_of3 (by decide) hPy; k_unfold; subst e91
        k_steps
        exact unitRet hret (by assumption) (by assumption) (.head _) (unitRel1 (by assumption) (by assumption) (by assumption) (by assumption) (by assumption) (by assumption) (fmB (by decide)) (fmB (by decide)) (by assumption) rfl (by assumption) rfl hq1 (by assumption) (by assumption))
  case zs => show LetQ _ ?zq _; (try delta id foldQ letS2 letS hideG foldN subRN subN ltCut letAE nameRet); exact LetQ.refl
  case zf => intro _ r _; exact r
end

theorem wd_67 : True := by
  (k_with "offLU" => (skip))
  trivial
end
section -- LWA
/-- what the law asks of the rows that it builds -/
noncomputable def LawRows (R : List Str) : Prop := RowsNL R ∧ SameOK R ∧ ∀ (i : Nat) (x : Str), R[i]? = some x → 0 < x.length ∧ readO (backR (R.take i)) = .error (i : Nat) ∧
  (∀ k : Int, 0 ≤ k → k < x.length → RowsNL (R.take i ++ [Txt.slice x none (some k)]) ∧ (readO (backR (R.take i ++ [Txt.slice x none (some k)])) = .error (i : Nat) ∨ readO (backR (R.take i ++ [Txt.slice x none (some k)])) = .error ((i : Nat) + 1))) ∧ TwiceOK R i x
section
variable {prog : Program} {w : World} {A : Around} {E : Value → Shared → Prop} {s : Shared} {h₀ : Heap} {L l : Addr} {news : List (Addr × Obj)} {n : Nat} {Q : Value → Shared → Prop} {m : Str → Option Value} {c : Sem Value}
inductive CutC (h₀ : Heap) (L : Addr) (m : Str → Option Value) (s : Shared) (v : Value) (s' : Shared) : Prop
  | mk (D : _) (c0 : _) (c1 : _) (t0 : _) (t1 : _) (h' : _) (tk : _) (hq1 : v = .ref D) (hq2 : 0 ≤ c0) (hq3 : 0 ≤ c1) (hq4 : s' = { s with heap := h', toks := tk }) (hq5 : Fr h₀ L h' m) (hq6 : News h₀ L h' [(D, W.listOf #[.int c0 t0, .int c1 t1] 0)]) : CutC h₀ L m s v s'
theorem cutC (_ : Fr h₀ L s.heap m) (g : wpAny (model prog w) A c (CutC h₀ L m s) E s)
    (h : ∀ D c0 c1 t0 t1 h' tk, 0 ≤ c0 → 0 ≤ c1 → Fr h₀ L h' m → News h₀ L h' [(D, W.listOf #[.int c0 t0, .int c1 t1] 0)] → Q (.ref D) { s with heap := h', toks := tk }) : wpAny (model prog w) A c Q E s :=
  wpAny_mono g (fun v s' q9 => by obtain ⟨D, c0, c1, t0, t1, h', tk, a, b, c, d, e, f⟩ := q9; subst a; subst d; exact h D c0 c1 t0 t1 h' tk b c e f) fun _ _ e => e
theorem cutC_mk {D : Addr} {c0 c1 : Int} {t0 t1 : Tok} {h' : Heap} {tk : Nat} {all : List (Addr × Obj)} {o : Obj} (F : Fr h₀ L h' m) (N : News h₀ L h' all) (hm : (D, o) ∈ all) (ho : o = W.listOf #[.int c0 t0, .int c1 t1] 0) (h0 : 0 ≤ c0) (h1 : 0 ≤ c1) : CutC h₀ L m s (.ref D) { s with heap := h', toks := tk } :=
  ⟨D, c0, c1, t0, t1, h', tk, rfl, h0, h1, rfl, F, fun p hp => by rw [List.mem_singleton.mp hp, ← ho]; exact N _ hm⟩
inductive CutR (h₀ : Heap) (L : Addr) (m : Str → Option Value) (news : List (Addr × Obj)) (s : Shared) (v : Value) (s' : Shared) : Prop
  | mk (D : _) (pl : _) (n : _) (h' : _) (tk : _) (hq1 : v = .ref D) (hq2 : LawRows (texts pl)) (hq3 : s' = { s with heap := h', toks := tk }) (hq4 : Fr h₀ L h' m) (hq5 : News h₀ L h' ((D, W.listOf (strValues pl).toArray n) :: news)) (hq6 : pairNe ((D, dumO) :: news)) : CutR h₀ L m news s v s'
theorem cutR (_ : Fr h₀ L s.heap m) (_ : News h₀ L s.heap news) (g : wpAny (model prog w) A c (CutR h₀ L m news s) E s)
    (h : ∀ D pl n h' tk, LawRows (texts pl) → Fr h₀ L h' m → News h₀ L h' ((D, W.listOf (strValues pl).toArray n) :: news) → pairNe ((D, dumO) :: news) → Q (.ref D) { s with heap := h', toks := tk }) : wpAny (model prog w) A c Q E s :=
  wpAny_mono g (fun v s' q9 => by obtain ⟨D, pl, n, h', tk, a, b, c, d, e, f⟩ := q9; subst a; subst c; exact h D pl n h' tk b d e f) fun _ _ e => e
theorem cutR_mk {D : Addr} {pl : List (Str × Tok)} {h' : Heap} {tk : Nat} (F : Fr h₀ L h' m) (N : News h₀ L h' ((D, W.listOf (strValues pl).toArray n) :: news)) (hR : LawRows (texts pl)) (hn : pairNe ((D, dumO) :: news)) : CutR h₀ L m news s (.ref D) { s with heap := h', toks := tk } :=
  ⟨D, pl, n, h', tk, rfl, hR, rfl, F, N, hn⟩
theorem sliceS {vs : List Value} {value slice : Expr} {u : Tok} (F : Fr h₀ L s.heap m) (N : News h₀ L s.heap news) (hl : s.heap.IsList l vs.toArray) (hz : vs.length ≤ 1000)
    (h : ∀ D h', Fr h₀ L h' m → News h₀ L h' ((D, W.listOf (vs.take 2).toArray 0) :: news) → (∀ p ∈ news, p.1 < D) → Q (.ref D) { s with heap := h' })
    (hs : subscripted slice false (.ref l) (.ref s.heap.objs.size) = operate [.ref s.heap.objs.size, .ref l] (getItem (.ref l) (.ref s.heap.objs.size))) (ht : ∀ r, letTemporaryGo value (.ref l) r = pure ()) :
    wpAny (model prog w) A (subscriptTail value slice (.ref l) (.ref s.heap.objs.size)) Q E { s with heap := s.heap.push { cls := .type "slice", data := .fields #[.none, .int 2 u, .none] } } :=
  kmk_slice_lit (zs := vs.take 2) F N hl .none (.int _ _) (by rw [pickUpto (by decide)]; rfl) h hs ht (by rw [List.size_toArray, sizeLine_eq]; omega)
end
theorem scr3 {vs : List Value} {ns : List Int} {P : Prop} (hi : IntsAre vs ns) (hn : ¬ ((63 : Nat) : Int) < (ns.length : Int)) (h0 : vs = [] → P) (h1 : ∀ a t, vs = [.int a t] → P) (h2 : ∀ a b t t2 r, vs = .int a t :: .int b t2 :: r → r.length ≤ 100 → P) : P := by
  have hlen := hi.length
  cases hi with
  | nil => exact h0 rfl
  | cons a t r => cases r with
    | nil => exact h1 a t rfl
    | cons b t2 r => exact h2 a b t t2 _ rfl (by simp only [List.length_cons] at hlen hn; omega)
theorem sliceF {prog : Program} {w : World} {A : Around} {E : Value → Shared → Prop} {s : Shared} {h₀ : Heap} {L l : Addr} {news : List (Addr × Obj)} {n : Nat} {Q : Value → Shared → Prop} {m : Str → Option Value} {value slice : Expr} {x : Int} {u t1 t2 : Tok} {a b : Int} {zs : List Value} (F : Fr h₀ L s.heap m) (N : News h₀ L s.heap news) (hm : (l, W.listOf #[.int a t1, .int b t2] n) ∈ news) (hx : 0 ≤ x) (e : ([.int a t1, .int b t2] : List Value).drop x.toNat = zs)
    (h : ∀ D h', Fr h₀ L h' m → News h₀ L h' ((D, W.listOf zs.toArray 0) :: news) → (∀ p ∈ news, p.1 < D) → Q (.ref D) { s with heap := h' })
    (hs : subscripted slice false (.ref l) (.ref s.heap.objs.size) = operate [.ref s.heap.objs.size, .ref l] (getItem (.ref l) (.ref s.heap.objs.size))) (ht : ∀ r, letTemporaryGo value (.ref l) r = pure ()) :
    wpAny (model prog w) A (subscriptTail value slice (.ref l) (.ref s.heap.objs.size)) Q E { s with heap := s.heap.push { cls := .type "slice", data := .fields #[.int x u, .none, .none] } } := by
  subst e
  exact kmk_slice_lit (zs := ([.int a t1, .int b t2] : List Value).drop x.toNat) F N (isList_at (vs := [.int a t1, .int b t2]) N hm) (.int _ _) .none (by rw [pickFrom hx]) h hs ht (by rw [List.size_toArray, sizeLine_eq]; simp)
theorem paired1 {a : Int} {ys : List Value} (h : Paired (fun (_ : Int) y => ∃ k t, y = Value.int k t ∧ 0 ≤ k) [a] ys) : ∃ k t, 0 ≤ k ∧ ys = [Value.int k t] := by
  refine hideG ?_; intro g9; obtain ⟨v, y1, e0, ⟨k, t, e, h1⟩, h⟩ := paired_cons h; k_unfold
  exact ⟨k, t, h1, by rw [e0, paired_nil h, e]⟩
theorem paired2 {a b : Int} {ys : List Value} (h : Paired (fun (_ : Int) y => ∃ k t, y = Value.int k t ∧ 0 ≤ k) [a, b] ys) : ∃ k k2 t t2, 0 ≤ k ∧ 0 ≤ k2 ∧ ys = [Value.int k t, Value.int k2 t2] := by
  refine' (?zf : Scr _) ?zq _ ?zs
  case zq =>
    refine hideG ?_; intro g9; obtain ⟨v, y1, e0, ⟨k, t, e, h1⟩, h⟩ := paired_cons h; k_unfold
    refine hideG ?_; intro g9; obtain ⟨v2, y2, e1, ⟨k2, t2, e2, h2⟩, h⟩ := paired_cons h; k_unfold
    exact ⟨k, k2, t, t2, h1, h2, by rw [e0, e1, paired_nil h, e, e2]⟩
  case zs => show LetQ _ ?zq _; (try delta id foldQ letS2 letS hideG foldN subRN subN ltCut letAE nameRet); exact LetQ.refl
  case zf => intro _ r _; exact r
theorem RowsNL.takeN {R : List Str} (h : RowsNL R) (i : Nat) : RowsNL (R.take i) := ⟨by rw [List.length_take]; have := h.1; omega, fun p hp => h.2 p (List.mem_of_mem_take hp)⟩
theorem takeT {pl : List (Str × Tok)} {i : Nat} : texts (pl.take (i : Int).toNat) = (texts pl).take i := by rw [Int.toNat_natCast, texts, texts, List.map_take]
theorem cutT {pl : List (Str × Tok)} {i : Nat} {y : Str} {t : Tok} : texts (pl.take (i : Int).toNat ++ [(y, t)]) = (texts pl).take i ++ [y] := by rw [Int.toNat_natCast, texts, texts, List.map_append, List.map_take]; rfl
theorem fmN {a : Int} {n : Nat} (h : 0 < n) : 0 ≤ a.fmod (n : Int) ∧ a.fmod (n : Int) < (n : Int) := fmB (by omega)
section
variable {w : World} {mean : ExcName → Option Value} {mg mb : Str → Option Value} {l d : Addr} {pl : List (Str × Tok)} {j j2 : Int} {t t2 : Tok} {n1 n2 : Nat} {R : List Str}
theorem c_refusedR1 (e : texts pl = R) (hR : RowsNL R) (hE : readO (backR R) = .error j) :
   ConT w mean mg mb 404 [.ref l, .ref d] [(l, W.listOf (strValues pl).toArray n1), (d, W.listOf #[.int j t] n2)] 330 (TrueP [(l, W.listOf (strValues pl).toArray n1), (d, W.listOf #[.int j t] n2)]) := by subst e; exact c_refused1 hR hE
theorem c_refusedR2 (e : texts pl = R) (hR : RowsNL R) (hE : readO (backR R) = .error j ∨ readO (backR R) = .error j2) :
   ConT w mean mg mb 404 [.ref l, .ref d] [(l, W.listOf (strValues pl).toArray n1), (d, W.listOf #[.int j t, .int j2 t2] n2)] 330 (TrueP [(l, W.listOf (strValues pl).toArray n1), (d, W.listOf #[.int j t, .int j2 t2] n2)]) := by subst e; exact c_refused2 hR hE
end
theorem subNews4 {h₀ h : Heap} {L : Addr} {all : List (Addr × Obj)} {a b c d : Addr × Obj} (N : News h₀ L h all) (h1 : a ∈ all) (h2 : b ∈ all) (h3 : c ∈ all) (h4 : d ∈ all) : News h₀ L h [a, b, c, d] := fun p hp => by
  simp only [List.mem_cons, List.not_mem_nil, or_false] at hp
  rcases hp with rfl | rfl | rfl | rfl
  · exact N _ h1
  · exact N _ h2
  · exact N _ h3
  · exact N _ h4

end
section -- P5
theorem numGood : ∀ a : Fin 30, plainO (intS ((a : Nat) : Int)) = ((a : Nat) : Int) ∧ 32 ∉ (intS ((a : Nat) : Int)).cps.toList ∧ 10 ∉ (intS ((a : Nat) : Int)).cps.toList ∧ (intS ((a : Nat) : Int)).length ≤ 3 := by decide +kernel
theorem numG {n : Int} (h : 0 ≤ n ∧ n < 30) : plainO (intS n) = n ∧ 32 ∉ (intS n).cps.toList ∧ 10 ∉ (intS n).cps.toList ∧ (intS n).length ≤ 3 := by
  have := numGood ⟨n.toNat, by omega⟩
  have e : ((n.toNat : Nat) : Int) = n := by omega
  simpa only [e] using this
theorem sp_eq : Str.ofString " " = (⟨#[32]⟩ : Str) := by decide +kernel
theorem joinS {l : List Str} : Txt.join (Str.ofString " ") l = Str.join (Str.ofString " ") l := by
  show Builtin.Str.glued _ _ = _
  rw [StrLaws.glued_eq_join]
theorem room_join {a b : Str} : Str.ofString "room " ++ a ++ Str.ofString " " ++ b = Txt.join (Str.ofString " ") [Str.ofString "room", a, b] := by
  rw [joinS, show Str.ofString "room " = Str.ofString "room" ++ Str.ofString " " from by decide +kernel]
  show _ = Str.ofString "room" ++ Str.ofString " " ++ (a ++ Str.ofString " " ++ b)
  simp only [Str.append_assoc]
theorem room_ok {n1 n2 : Int} (h1 : 0 ≤ n1 ∧ n1 < 30) (h2 : 0 ≤ n2 ∧ n2 < 12) : HdOK 4 (Str.ofString "room " ++ intS n1 ++ Str.ofString " " ++ intS n2) := by
  obtain ⟨a1, a2, -⟩ := numG h1
  obtain ⟨b1, b2, -⟩ := numG (n := n2) ⟨h2.1, by omega⟩
  refine ⟨Str.ofString "room", [intS n1, intS n2], { head0 with locals := n1, cells := n2 }, ?_, ?_, rfl, ?_⟩
  · rw [room_join, sp_eq]
    refine split_join (by simp) fun p hp => ?_
    simp only [List.mem_cons, List.not_mem_nil, or_false] at hp
    rcases hp with rfl | rfl | rfl
    · exact (by decide +kernel)
    · exact a2
    · exact b2
  · have e : roomW [intS n1, intS n2] = some (n1, n2) := by
      rw [room2]; unfold numW; rw [a1, b1, if_pos h1.1, if_pos h2.1]
    exact hq4.trans (hqI rfl e)
  · have z1 : smI n1 = true := by simp only [smI, Bool.and_eq_true, decide_eq_true_eq]; omega
    have z2 : smI n2 = true := by simp only [smI, Bool.and_eq_true, decide_eq_true_eq]; omega
    simp [smH, head0, smP, z1, z2]
theorem end_split : Txt.split (Str.ofString "end") (Str.ofString " ") = [Str.ofString "end"] := by decide +kernel
theorem end_fin {b : PBody} {ph : Nat} (h : ph ≤ 2) : stepR (.body ph b []) [] (Str.ofString "end") = .fin (.mk b []) := by
  unfold stepR
  rw [end_split]
  have e2 : stepW (.body 2 b []) [] [Str.ofString "end"] = .fin (.mk b []) := by
    rw [ph_row (by decide +kernel), ph_unit (by decide +kernel), st_end, if_pos rfl]
  have e1 : stepW (.body 1 b []) [] [Str.ofString "end"] = .fin (.mk b []) := by rw [ph_hand (by decide +kernel), e2]
  have e0 : stepW (.body 0 b []) [] [Str.ofString "end"] = .fin (.mk b []) := by rw [ph_const (by decide +kernel), e1]
  have hp : ph = 0 ∨ ph = 1 ∨ ph = 2 := by omega
  rcases hp with rfl | rfl | rfl
  · exact e0
  · exact e1
  · exact e2
/-- the rows of a plain unit -/
inductive GoodU (R : List Str) : Prop
  | mk (x0 : _) (x1 : _) (x2 : _) (x3 : _) (x4 : _) (x5 : _) (cws : _) (hws : _) (kws : _) (cs : _) (hz : _) (zs : _) (hq1 : R = [x0, x1, x2, x3, x4, x5] ++ cws ++ hws ++ kws ++ [Str.ofString "end"]) (hq2 : (HdOK 0 x0 ∧ HdOK 1 x1 ∧ HdOK 2 x2 ∧ HdOK 3 x3 ∧ HdOK 4 x4 ∧ HdOK 5 x5)) (hq3 : Paired okC cws cs) (hq4 : Paired okH hws hz) (hq5 : CodeRows (cs.take 1) 0 kws zs) (hq6 : (cws.length ≤ 10 ∧ hws.length ≤ 10 ∧ kws.length ≤ 10)) : GoodU R
theorem consts_back {xs : List Str} {cs : List (Str ⊕ Int)} (H : Paired okC xs cs) : cs.flatMap (fun c => [Str.ofString "const " ++ constS c]) = xs ∧ ∀ c ∈ cs, SmallC c := by
  induction H with
  | nil => exact ⟨rfl, fun _ h => absurd h List.not_mem_nil⟩
  | cons h r ih =>
    obtain ⟨e, q⟩ := ih
    refine hideG ?_; intro g9; obtain ⟨_, _, _, e3, e4⟩ := h; k_unfold
    refine ⟨by rw [List.flatMap_cons, e, e3]; rfl, fun c hc => ?_⟩
    rcases List.mem_cons.mp hc with rfl | hc
    · exact smC_ok e4
    · exact q c hc
theorem hands_back {xs : List Str} {cs : List (Int × Int × Int × Int × Bool)} (H : Paired okH xs cs) : cs.flatMap (fun z => [handS z]) = xs ∧ ∀ z ∈ cs, SmallI z.1 ∧ SmallI z.2.1 ∧ SmallI z.2.2.1 ∧ SmallI z.2.2.2.1 := by
  induction H with
  | nil => exact ⟨rfl, fun _ h => absurd h List.not_mem_nil⟩
  | cons h r ih =>
    obtain ⟨e, q⟩ := ih
    refine hideG ?_; intro g9; obtain ⟨_, _, _, e3, e4⟩ := h; k_unfold
    refine ⟨by rw [List.flatMap_cons, e, e3]; rfl, fun c hc => ?_⟩
    rcases List.mem_cons.mp hc with rfl | hc
    · simp only [Bool.and_eq_true] at e4
      exact ⟨smI_ok e4.1.1.1, smI_ok e4.1.1.2, smI_ok e4.1.2, smI_ok e4.2⟩
    · exact q c hc
theorem codes_small {k0 : List (Str ⊕ Int)} {i : Nat} {xs : List Str} {zs : List ((Int × Option Int) × Int)} (h : CodeRows k0 i xs zs) : (∀ c ∈ zs.map (·.1), (0 ≤ c.1 ∧ c.1 < 85) ∧ ∀ a, c.2 = some a → SmallI a) ∧ ∀ l ∈ zs.map (·.2), SmallI l := by
  induction h with
  | nil => exact ⟨fun _ h => absurd h List.not_mem_nil, fun _ h => absurd h List.not_mem_nil⟩
  | @cons i x z xs zs h _ ih =>
    refine hideG ?_; intro g9; obtain ⟨_, _, _, _, _, _, _, _, e5, e6, e7⟩ := h; k_unfold
    refine ⟨fun c hc => ?_, fun l hl => ?_⟩
    · rcases List.mem_cons.mp hc with rfl | hc
      · exact ⟨e5, fun a ha => smI_ok (e6 a ha)⟩
      · exact ih.1 c hc
    · rcases List.mem_cons.mp hl with rfl | hl
      · exact smI_ok e7
      · exact ih.2 l hl
theorem goodU_run {R : List Str} (h : GoodU R) : ∃ t, chkB R (.head 0 head0) [] = true ∧ (∀ rest (k : Int), run (R ++ rest) k (.head 0 head0) [] = .ok (t, rest, k + R.length)) ∧ SmallT 101 t ∧ linesF 101 t = R := by
  refine' (?zf : Scr _) ?zq _ ?zs
  case zq =>
    refine hideG ?_; intro g9; obtain ⟨x0, x1, x2, x3, x4, x5, cws, hws, kws, cs, hz, zs, e91, ⟨h0, h1, h2, h3, h4, h5⟩, hc, hh, hk, l1, l2, l3⟩ := h; k_unfold; subst e91
    refine hideG ?_; intro g9; obtain ⟨H, e1, e2, p1⟩ := head_path h0 h1 h2 h3 h4 h5; k_unfold
    have p2 := c_path (b := body0 H) hc
    obtain ⟨ph, hp, p3⟩ := h_path (b := { body0 H with consts := (body0 H).consts ++ cs }) (Nat.zero_le 1) hh
    obtain ⟨ph', hp', p4⟩ := r_path hk (b := { { body0 H with consts := (body0 H).consts ++ cs } with handlers := (body0 H).handlers ++ hz }) (by omega : ph ≤ 2) rfl
    have P := ((p1.app p2).app p3).app p4
    have hl1 : cs.length = cws.length := hc.length.symm
    have hl3 : kws.length = zs.length := hk.at.1
    refine ⟨.mk { head := H, consts := cs, handlers := hz, code := zs.map (·.1), lines := zs.map (·.2) } [], ?_, fun rest k => ?_, ⟨⟨e2, ?_, ?_, ?_, ?_⟩, fun _ hu => absurd hu List.not_mem_nil⟩, ?_⟩
    · exact P.chk (chk_fin (end_fin hp'))
    · rw [List.append_assoc _ [Str.ofString "end"] rest, P.run, List.singleton_append, run_fin (end_fin hp')]
      congr 3
      simp only [List.length_append, List.length_cons, List.length_nil]
      omega
    · exact ⟨by show cs.length ≤ 100; omega, (consts_back hc).2⟩
    · exact (hands_back hh).2
    · refine ⟨?_, ?_, (codes_small hk).1⟩
      · show (zs.map (·.1)).length ≤ 100
        rw [List.length_map]; omega
      · show (zs.map (·.2)).length = (zs.map (·.1)).length
        simp
    · exact (codes_small hk).2
    · have c1 := (consts_back hc).1
      have c2 := (hands_back hh).1
      have c3 := codes_back (b := { head := H, consts := cs, handlers := hz, code := zs.map (·.1), lines := zs.map (·.2) }) hk rfl rfl rfl
      show headS H ++ cs.flatMap _ ++ hz.flatMap _ ++ (List.range (zs.map (·.1)).length).flatMap (fun i => [codeL _ i]) ++ [] ++ [Str.ofString "end"] = _
      rw [e1, c1, c2, List.append_nil]
      exact congrArg (fun z => [x0, x1, x2, x3, x4, x5] ++ cws ++ hws ++ z ++ [Str.ofString "end"]) c3
  case zs => show LetQ _ ?zq _; (try delta id foldQ letS2 letS hideG foldN subRN subN ltCut letAE nameRet); exact LetQ.refl
  case zf => intro _ r _; exact r

end
section -- P6
theorem sliceCps {x : Str} {k : Int} (h0 : 0 ≤ k) (h1 : k ≤ x.length) : (Txt.slice x none (some k)).cps.toList = x.cps.toList.take k.toNat := by
  have h := PyProof.Rows.slice_closes_to (x := x) (j := k) ⟨h0, by simpa [Str.length] using h1⟩
  have e := eq_of_beq h
  rw [e]
  simp
theorem goodU_same {R : List Str} (h : GoodU R) : SameOK R := by
  refine hideG ?_; intro g9; obtain ⟨t, h1, h2, h3, h4⟩ := goodU_run h; k_unfold
  refine ⟨t, ?_, h3, h4⟩
  have hne : R ≠ [] := fun e => by rw [e] at h1; exact absurd h1 (by decide)
  have e : backR R = R := by unfold backR; rw [if_neg hne]
  have r := h2 [] 0
  rw [List.append_nil, Int.zero_add] at r
  rw [e]
  unfold readO
  rw [unit_run, r]
  dsimp only
  rw [if_pos rfl]
theorem goodU_over {R : List Str} (h : GoodU R) : readO (backR (R ++ [Str.ofString "end"])) = .error (R.length : Nat) := by
  refine hideG ?_; intro g9; obtain ⟨t, h1, h2, -⟩ := goodU_run h; k_unfold
  have r := h2 [Str.ofString "end"] 0
  rw [Int.zero_add] at r
  rw [backR_snoc]
  unfold readO
  rw [unit_run, r]
  dsimp only
  rw [if_neg (by simp; omega)]
noncomputable def rowB (x : Str) : Bool := decide (0 < x.length) && decide (x.length ≤ 100) && x.cps.toList.all (fun c => c != 10) && (decide (x.length ≤ 3) || !(x.cps.toList.take 3 == (Str.ofString "end").cps.toList))
theorem rowB_ok {x : Str} (h : rowB x = true) : 0 < x.length ∧ x.length ≤ 100 ∧ 10 ∉ x.cps.toList ∧ (x.length ≤ 3 ∨ x.cps.toList.take 3 ≠ (Str.ofString "end").cps.toList) := by
  simp only [rowB, Bool.and_eq_true, Bool.or_eq_true, decide_eq_true_eq, List.all_eq_true, bne_iff_ne, Bool.not_eq_true', beq_eq_false_iff_ne] at h
  refine hideG ?_; intro g9; obtain ⟨⟨⟨h1, h2⟩, h3⟩, h4⟩ := h; k_unfold
  exact ⟨h1, h2, fun z => h3 10 z rfl, h4⟩
theorem end_len : (Str.ofString "end").cps.toList.length = 3 := by decide +kernel
theorem cut_ne {x : Str} {k : Int} (h : rowB x = true) (h0 : 0 ≤ k) (h1 : k < x.length) : Txt.slice x none (some k) ≠ Str.ofString "end" := by
  refine hideG ?_; intro g9; obtain ⟨a1, a2, a3, a4⟩ := rowB_ok h; k_unfold
  intro e
  have e2 := sliceCps (x := x) h0 (by omega)
  rw [e] at e2
  have hl := congrArg List.length e2
  have hx : x.cps.toList.length = x.length := by simp [Str.length]
  rw [end_len, List.length_take, hx] at hl
  have hk : k.toNat = 3 := by omega
  rw [hk] at e2
  rcases a4 with a4 | a4
  · omega
  · exact a4 e2.symm
theorem cut_mem {x : Str} {k : Int} (h0 : 0 ≤ k) (h1 : k < x.length) : ∀ c ∈ (Txt.slice x none (some k)).cps.toList, c ∈ x.cps.toList := by
  rw [sliceCps h0 (by omega)]
  exact fun c hc => List.mem_of_mem_take hc
theorem goZ_mid {mid rest : List Str} {c : Int} {i : Nat} (h : ∀ x ∈ mid, openD x = 0) (hc : c ≠ 0) : goZ (mid ++ rest) c i = goZ rest c (i + mid.length) := by
  induction mid generalizing i with
  | nil => rfl
  | cons x mid ih =>
    have hx := h x (.head _)
    show (if c + openD x = 0 then some i else goZ (mid ++ rest) (c + openD x) (i + 1)) = _
    rw [hx, Int.add_zero, if_neg hc, ih (fun y hy => h y (.tail _ hy)), List.length_cons, Nat.add_assoc, Nat.add_comm 1]
theorem openD_end : openD (Str.ofString "end") = -1 := by decide +kernel
theorem goZ_unit {x0 : Str} {mid t : List Str} (h0 : openD x0 = 1) (h : ∀ x ∈ mid, openD x = 0) : goZ (x0 :: mid ++ [Str.ofString "end"] ++ t) 0 0 = some (mid.length + 1) := by
  refine' (?zf : Scr _) ?zq _ ?zs
  case zq =>
    show (if (0 : Int) + openD x0 = 0 then some 0 else goZ (mid ++ [Str.ofString "end"] ++ t) (0 + openD x0) (0 + 1)) = _
    rw [h0, if_neg (by decide), List.append_assoc, goZ_mid h (by decide)]
    show (if (0 : Int) + 1 + openD (Str.ofString "end") = 0 then some (0 + 1 + mid.length) else _) = _
    rw [openD_end, if_pos (by decide)]
    congr 1; omega
  case zs => show LetQ _ ?zq _; (try delta id foldQ letS2 letS hideG foldN subRN subN ltCut letAE nameRet); exact LetQ.refl
  case zf => intro _ r _; exact r
theorem rowsNL_of {R S : List Str} (h : ∀ x ∈ R, rowB x = true) (hs : ∀ x ∈ S, x ∈ R) (hl : S.length ≤ 100) : RowsNL S := ⟨hl, fun p hp => by
  refine hideG ?_; intro g9; obtain ⟨_, a2, a3, _⟩ := rowB_ok (h p (hs p hp)); k_unfold
  exact ⟨by omega, a3⟩⟩
/-- the law's asks of rows that are read to the end -/
theorem lawOf {R : List Str} (hc : chkB R (.head 0 head0) [] = true) (hS : SameOK R) (hrow : ∀ x ∈ R, rowB x = true) (hlen : R.length ≤ 50)
    (hdup : ∀ (i : Nat) (x : Str), R[i]? = some x → isCH x = true → SameOK (R.take (i + 1) ++ R.drop i))
    (hend : ∀ (i : Nat), R[i]? = some (Str.ofString "end") → ∃ p : Nat, goZ (R.take (i + 1) ++ R.drop i) 0 0 = some p ∧ readO (backR (R.take (i + 1) ++ R.drop i)) = .error ((p : Nat) + 1)) : LawRows R := by
  refine' (?zf : Scr _) ?zq _ ?zs
  case zq =>
    refine ⟨rowsNL_of hrow (fun _ h => h) (by omega), hS, fun i x hx => ?_⟩
    obtain ⟨hi, hxe⟩ := List.getElem?_eq_some_iff.mp hx
    have hxm : x ∈ R := List.mem_of_getElem? hx
    have hxr := hrow x hxm
    refine hideG ?_; intro g9; obtain ⟨a1, a2, a3, a4⟩ := rowB_ok hxr; k_unfold
    refine ⟨a1, pre_of hc i hi, fun k h0 h1 => ⟨⟨?_, fun p hp => ?_⟩, ?_⟩, ?_, hdup i x hx, fun h1 h2 => ?_, fun _ h2 => ?_⟩
    · rw [List.length_append, List.length_take]; simp; omega
    · rcases List.mem_append.mp hp with hp | hp
      · refine hideG ?_; intro g9; obtain ⟨_, b2, b3, _⟩ := rowB_ok (hrow p (List.mem_of_mem_take hp)); k_unfold
        exact ⟨by omega, b3⟩
      · rw [List.mem_singleton.mp hp]
        exact ⟨by have := Txt.slice_le x none (some k); omega, fun z => a3 (cut_mem h0 h1 _ z)⟩
    · exact cut_of hc hi (cut_ne hxr h0 h1)
    · refine rowsNL_of hrow (fun y hy => (List.mem_append.mp hy).elim List.mem_of_mem_take List.mem_of_mem_drop) ?_
      rw [List.length_append, List.length_take, List.length_drop]; omega
    · rw [← hxe] at h1 h2
      exact twc_of hc hi h1 (by simpa using h2)
    · have : x = Str.ofString "end" := by simpa using h2
      subst this
      exact hend i hx
  case zs => show LetQ _ ?zq _; (try delta id foldQ letS2 letS hideG foldN subRN subN ltCut letAE nameRet); exact LetQ.refl
  case zf => intro _ r _; exact r

end
section -- P7
theorem dup_mid {α : Type} {A B C : List α} {j : Nat} (hj : j < B.length) : (A ++ B ++ C).take (A.length + j + 1) ++ (A ++ B ++ C).drop (A.length + j) = A ++ (B.take (j + 1) ++ B.drop j) ++ C := by
  rw [List.append_assoc A B C, Nat.add_assoc, List.take_length_add_append, List.drop_length_add_append, List.take_append_of_le_length (by omega), List.drop_append_of_le_length (by omega)]
  simp only [List.append_assoc]
theorem paired_app {α β : Type} {F : α → β → Prop} {a b : List α} {c d : List β} (h : Paired F a c) (k : Paired F b d) : Paired F (a ++ b) (c ++ d) := by
  induction h with
  | nil => exact k
  | cons x _ ih => exact .cons x ih
theorem paired_takeN {α β : Type} {F : α → β → Prop} {a : List α} {c : List β} (h : Paired F a c) : ∀ n, Paired F (a.take n) (c.take n) := by
  induction h with
  | nil => intro n; simpa using Paired.nil
  | cons x _ ih =>
    intro n
    cases n with
    | zero => exact .nil
    | succ n => exact .cons x (ih n)
theorem paired_dropN {α β : Type} {F : α → β → Prop} {a : List α} {c : List β} (h : Paired F a c) : ∀ n, Paired F (a.drop n) (c.drop n) := by
  induction h with
  | nil => intro n; simpa using Paired.nil
  | cons x r ih =>
    intro n
    cases n with
    | zero => exact .cons x r
    | succ n => exact ih n
theorem take1_dup {α : Type} {cs : List α} {j : Nat} (hj : j < cs.length) : (cs.take (j + 1) ++ cs.drop j).take 1 = cs.take 1 := by
  cases cs with
  | nil => simp at hj
  | cons c r => rfl
theorem ch_of {x w : Str} {r : List Str} (h : Txt.split x (Str.ofString " ") = w :: r) (h1 : ¬ w = Str.ofString "const") (h2 : ¬ w = Str.ofString "handler") : isCH x = false := by
  unfold isCH
  rw [wrd_eq h]
  simp [Ne.symm h1, Ne.symm h2]
theorem ch_code {k0 : List (Str ⊕ Int)} {i : Nat} {xs : List Str} {zs : List ((Int × Option Int) × Int)} (h : CodeRows k0 i xs zs) : ∀ x ∈ xs, isCH x = false := by
  induction h with
  | nil => exact fun _ h => absurd h List.not_mem_nil
  | cons h _ ih =>
    intro x hx
    rcases List.mem_cons.mp hx with rfl | hx
    · refine hideG ?_; intro g9; obtain ⟨w, r, e, e0, -⟩ := h; k_unfold
      exact ch_of e (row_ne e0).1 (row_ne e0).2
    · exact ih x hx
theorem ch_head {i : Nat} {x w : Str} {r : List Str} {h' : PHead} (e : Txt.split x (Str.ofString " ") = w :: r) (h : headStep i head0 (w :: r) = some h') : isCH x = false := by
  have hw : w = Str.ofString "unit" ∨ w = Str.ofString "params" ∨ w = Str.ofString "places" ∨ w = Str.ofString "own" ∨ w = Str.ofString "room" ∨ w = Str.ofString "captures" := by
    have hi : i < 6 := by
      rcases Nat.lt_or_ge i 6 with z | z
      · exact z
      · obtain ⟨n, rfl⟩ := Nat.exists_eq_add_of_le' z; exact nomatch (show none = some h' from h)
    have : i = 0 ∨ i = 1 ∨ i = 2 ∨ i = 3 ∨ i = 4 ∨ i = 5 := by omega
    rcases this with rfl | rfl | rfl | rfl | rfl | rfl
    · exact .inl (hs0 h).1
    · exact .inr (.inl (hs1 (h := head0) h).1)
    · exact .inr (.inr (.inl (hs2 (h := head0) h).1))
    · exact .inr (.inr (.inr (.inl (hs3 (h := head0) h).1)))
    · exact .inr (.inr (.inr (.inr (.inl (hs4 (h := head0) h).1))))
    · exact .inr (.inr (.inr (.inr (.inr (hs5 (h := head0) h).1))))
  refine ch_of e ?_ ?_
  · rcases hw with rfl | rfl | rfl | rfl | rfl | rfl <;> exact (by decide +kernel)
  · rcases hw with rfl | rfl | rfl | rfl | rfl | rfl <;> exact (by decide +kernel)
theorem HdOK.ch {i : Nat} {x : Str} (h : HdOK i x) : isCH x = false := by
  refine hideG ?_; intro g9; obtain ⟨w, r, h', e, e2, -⟩ := h; k_unfold
  exact ch_head e e2
/-- R with small bounds -/
inductive GoodV (R : List Str) (n : Nat) (x0 x1 x2 x3 x4 x5 : Str) (cws hws kws : List Str) : Prop
  | mk (cs : _) (hz : _) (zs : _) (hq1 : R = [x0, x1, x2, x3, x4, x5] ++ cws ++ hws ++ kws ++ [Str.ofString "end"]) (hq2 : (HdOK 0 x0 ∧ HdOK 1 x1 ∧ HdOK 2 x2 ∧ HdOK 3 x3 ∧ HdOK 4 x4 ∧ HdOK 5 x5)) (hq3 : Paired okC cws cs) (hq4 : Paired okH hws hz) (hq5 : CodeRows (cs.take 1) 0 kws zs) (hq6 : (cws.length ≤ n ∧ hws.length ≤ n ∧ kws.length ≤ n)) : GoodV R n x0 x1 x2 x3 x4 x5 cws hws kws
section
variable {R : List Str} {n : Nat} {x0 x1 x2 x3 x4 x5 x : Str} {cws hws kws : List Str} {i : Nat}
theorem GoodV.good (h : GoodV R n x0 x1 x2 x3 x4 x5 cws hws kws) (hn : n ≤ 10) : GoodU R := by
  refine hideG ?_; intro g9; obtain ⟨cs, hz, zs, e, h1, h2, h3, h4, l1, l2, l3⟩ := h; k_unfold
  exact ⟨x0, x1, x2, x3, x4, x5, cws, hws, kws, cs, hz, zs, e, h1, h2, h3, h4, by omega, by omega, by omega⟩
theorem dup_len {α : Type} {l : List α} {j : Nat} (h : j < l.length) : (l.take (j + 1) ++ l.drop j).length = l.length + 1 := by
  rw [List.length_append, List.length_take, List.length_drop]; omega
theorem GoodV.dup (h : GoodV R n x0 x1 x2 x3 x4 x5 cws hws kws) (hn : n ≤ 9) (hx : R[i]? = some x) (hc : isCH x = true) : GoodU (R.take (i + 1) ++ R.drop i) := by
  refine hideG ?_; intro g9; obtain ⟨cs, hz, zs, e91, ⟨a0, a1, a2, a3, a4, a5⟩, h2, h3, h4, l1, l2, l3⟩ := h; k_unfold; subst e91
  have no : ∀ y, isCH y = false → y ≠ x := fun y hy e => by rw [e, hc] at hy; cases hy
  have hl := h2.length
  by_cases z1 : i < 6
  · have hm : x ∈ [x0, x1, x2, x3, x4, x5] := by
      rw [List.append_assoc, List.append_assoc, List.append_assoc, List.getElem?_append_left (by simpa using z1)] at hx
      exact List.mem_of_getElem? hx
    simp only [List.mem_cons, List.not_mem_nil, or_false] at hm
    rcases hm with e | e | e | e | e | e
    · exact absurd e.symm (no _ a0.ch)
    · exact absurd e.symm (no _ a1.ch)
    · exact absurd e.symm (no _ a2.ch)
    · exact absurd e.symm (no _ a3.ch)
    · exact absurd e.symm (no _ a4.ch)
    · exact absurd e.symm (no _ a5.ch)
  by_cases z2 : i < 6 + cws.length
  · obtain ⟨j, rfl⟩ : ∃ j, i = 6 + j := ⟨i - 6, by omega⟩
    have hj : j < cws.length := by omega
    have e := dup_mid (A := [x0, x1, x2, x3, x4, x5]) (B := cws) (C := hws ++ kws ++ [Str.ofString "end"]) hj
    simp only [← List.append_assoc] at e ⊢
    rw [show [x0, x1, x2, x3, x4, x5].length = 6 from rfl] at e
    rw [e]
    refine ⟨x0, x1, x2, x3, x4, x5, cws.take (j + 1) ++ cws.drop j, hws, kws, cs.take (j + 1) ++ cs.drop j, hz, zs, by simp only [List.append_assoc], ⟨a0, a1, a2, a3, a4, a5⟩, paired_app (paired_takeN h2 _) (paired_dropN h2 _), h3, by rw [take1_dup (by omega)]; exact h4, ?_, by omega, by omega⟩
    rw [dup_len hj]; omega
  by_cases z3 : i < 6 + cws.length + hws.length
  · obtain ⟨j, rfl⟩ : ∃ j, i = 6 + cws.length + j := ⟨i - (6 + cws.length), by omega⟩
    have hj : j < hws.length := by omega
    have e := dup_mid (A := [x0, x1, x2, x3, x4, x5] ++ cws) (B := hws) (C := kws ++ [Str.ofString "end"]) hj
    simp only [← List.append_assoc] at e ⊢
    rw [show ([x0, x1, x2, x3, x4, x5] ++ cws).length = 6 + cws.length by simp; omega] at e
    rw [e]
    refine ⟨x0, x1, x2, x3, x4, x5, cws, hws.take (j + 1) ++ hws.drop j, kws, cs, hz.take (j + 1) ++ hz.drop j, zs, by simp only [List.append_assoc], ⟨a0, a1, a2, a3, a4, a5⟩, h2, paired_app (paired_takeN h3 _) (paired_dropN h3 _), h4, by omega, ?_, by omega⟩
    rw [dup_len hj]; omega
  · exfalso
    have hm : x ∈ kws ++ [Str.ofString "end"] := by
      rw [List.append_assoc, List.getElem?_append_right (by simp; omega)] at hx
      exact List.mem_of_getElem? hx
    rcases List.mem_append.mp hm with hm | hm
    · exact no _ (ch_code h4 x hm) rfl
    · exact no _ (show isCH (Str.ofString "end") = false by decide +kernel) (List.mem_singleton.mp hm).symm
/-- the law's asks of a plain unit -/
theorem GoodV.law (h : GoodV R n x0 x1 x2 x3 x4 x5 cws hws kws) (hn : n ≤ 9) (h0 : rowB x0 = true ∧ openD x0 = 1) (hm : ∀ y ∈ [x1, x2, x3, x4, x5] ++ cws ++ hws ++ kws, rowB y = true ∧ openD y = 0 ∧ (y == Str.ofString "end") = false) (hlen : R.length ≤ 50) : LawRows R := by
  have hg := h.good (by omega)
  obtain ⟨t, hc, -⟩ := goodU_run hg
  refine hideG ?_; intro g9; obtain ⟨cs, hz, zs, e, -⟩ := id h; k_unfold
  have eR : R = x0 :: ([x1, x2, x3, x4, x5] ++ cws ++ hws ++ kws) ++ [Str.ofString "end"] := e
  have hx0 : x0 ≠ Str.ofString "end" := fun z => by have := h0.2; rw [z, openD_end] at this; cases this
  refine lawOf hc (goodU_same hg) (fun y hy => ?_) hlen (fun i y hy hcy => goodU_same (h.dup hn hy hcy)) (fun i hi => ?_)
  · rw [eR] at hy
    rcases List.mem_append.mp hy with hy | hy
    · rcases List.mem_cons.mp hy with rfl | hy
      · exact h0.1
      · exact (hm y hy).1
    · rw [List.mem_singleton.mp hy]; decide +kernel
  · generalize hM : [x1, x2, x3, x4, x5] ++ cws ++ hws ++ kws = mid at *
    have hi1 : i = mid.length + 1 := by
      rw [eR] at hi
      by_cases z : i < mid.length + 1
      · rw [List.getElem?_append_left (by simpa using z)] at hi
        cases i with
        | zero => simp at hi; exact absurd hi hx0
        | succ i =>
          rw [List.getElem?_cons_succ] at hi
          have := (hm _ (List.mem_of_getElem? hi)).2.2
          simp at this
      · have := (List.getElem?_eq_some_iff.mp hi).1
        simp at this; omega
    have hRl : R.length = mid.length + 2 := by rw [eR]; simp
    have ef : R.take (i + 1) ++ R.drop i = R ++ [Str.ofString "end"] := by
      rw [hi1, List.take_of_length_le (by omega)]
      congr 1
      rw [eR, List.drop_append_of_le_length (by simp), List.drop_of_length_le (by simp)]; rfl
    rw [ef]
    refine ⟨mid.length + 1, ?_, ?_⟩
    · rw [eR]; exact goZ_unit h0.2 fun y hy => (hm y hy).2.1
    · rw [goodU_over hg, hRl]; congr 1
end

end
section -- P8
theorem tHd0 : ∀ a0 ∈ namesT, ∀ a1 ∈ flagsT, hd1 0 (Str.ofString "unit " ++ a0 ++ a1) = true := by decide +kernel
theorem tHd1 : ∀ a ∈ paramsT, hd1 1 (Str.ofString "params" ++ a) = true := by decide +kernel
theorem tHd2 : ∀ a ∈ placesT, hd1 2 (Str.ofString "places" ++ a) = true := by decide +kernel
theorem tHd3 : ∀ a ∈ ownT, hd1 3 (Str.ofString "own " ++ a) = true := by decide +kernel
theorem tHd5 : ∀ a ∈ capsT, hd1 5 (Str.ofString "captures" ++ a) = true := by decide +kernel
noncomputable def midB (y : Str) : Bool := rowB y && (openD y == 0) && !(y == Str.ofString "end")
theorem midB_ok {y : Str} (h : midB y = true) : rowB y = true ∧ openD y = 0 ∧ (y == Str.ofString "end") = false := by
  simp only [midB, Bool.and_eq_true, beq_iff_eq, Bool.not_eq_true'] at h
  exact ⟨h.1.1, h.1.2, h.2⟩
theorem tM0 : ∀ a0 ∈ namesT, ∀ a1 ∈ flagsT, rowB (Str.ofString "unit " ++ a0 ++ a1) = true ∧ openD (Str.ofString "unit " ++ a0 ++ a1) = 1 := by decide +kernel
theorem tM1 : ∀ a ∈ paramsT, midB (Str.ofString "params" ++ a) = true := by decide +kernel
theorem tM2 : ∀ a ∈ placesT, midB (Str.ofString "places" ++ a) = true := by decide +kernel
theorem tM3 : ∀ a ∈ ownT, midB (Str.ofString "own " ++ a) = true := by decide +kernel
theorem tM5 : ∀ a ∈ capsT, midB (Str.ofString "captures" ++ a) = true := by decide +kernel
theorem tMh : ∀ hs ∈ handT, hs.length ≤ 5 ∧ ∀ y ∈ hs, midB y = true := by decide +kernel
theorem tMc : ∀ ws ∈ wordsT, (constRows ws).length ≤ 5 ∧ ∀ y ∈ constRows ws, midB y = true := by decide +kernel
theorem tMk : ∀ ws ∈ wordsT, ∀ k ∈ [0, 1, 2], (codeRows ws (codesT.take k)).length ≤ 5 ∧ ∀ y ∈ codeRows ws (codesT.take k), midB y = true := by decide +kernel
noncomputable def mapOo {α β : Type} (f : α → Option β) : List α → Option (List β)
  | [] => some []
  | x :: xs => match f x with
    | none => none
    | some y => (match mapOo f xs with
      | none => none
      | some ys => some (y :: ys))
theorem mapOo_paired {α β : Type} {f : α → Option β} {F : α → β → Prop} (h : ∀ x y, f x = some y → F x y) {xs : List α} {ys : List β} (e : mapOo f xs = some ys) : Paired F xs ys := by
  induction xs generalizing ys with
  | nil => cases e; exact .nil
  | cons x xs ih =>
    replace e : (match f x with | none => none | some y => match mapOo f xs with | none => none | some ys => some (y :: ys)) = some ys := e
    cases hy : f x with
    | none => rw [hy] at e; cases e
    | some y =>
      rw [hy] at e
      cases hz : mapOo f xs with
      | none => rw [hz] at e; cases e
      | some zs => rw [hz] at e; cases e; exact .cons (h x y hy) (ih hz)
noncomputable def rowsOo (k0 : List (Str ⊕ Int)) : Nat → List Str → Option (List ((Int × Option Int) × Int))
  | _, [] => some []
  | i, x :: xs => match okRb k0 i x with
    | none => none
    | some z => (match rowsOo k0 (i + 1) xs with
      | none => none
      | some zs => some (z :: zs))
theorem rowsOo_ok {k0 : List (Str ⊕ Int)} {i : Nat} {xs : List Str} {zs : List ((Int × Option Int) × Int)} (e : rowsOo k0 i xs = some zs) : CodeRows k0 i xs zs := by
  induction xs generalizing i zs with
  | nil => cases Option.some.inj e; exact .nil
  | cons x xs ih =>
    replace e : (match okRb k0 i x with | none => none | some z => match rowsOo k0 (i + 1) xs with | none => none | some zs => some (z :: zs)) = some zs := e
    cases hz : okRb k0 i x with
    | none => rw [hz] at e; cases e
    | some z =>
      rw [hz] at e
      cases hy : rowsOo k0 (i + 1) xs with
      | none => rw [hy] at e; cases e
      | some ys => rw [hy] at e; cases Option.some.inj e; exact .cons (okRb_ok hz) (ih hy)
noncomputable def chkW (ws : List Str) (k : Nat) : Bool := match mapOo okCb (constRows ws) with
  | none => false
  | some cs => (rowsOo (cs.take 1) 0 (codeRows ws (codesT.take k))).isSome
theorem tW : ∀ ws ∈ wordsT, ∀ k ∈ [0, 1, 2], chkW ws k = true := by decide +kernel
theorem tH : ∀ hs ∈ handT, (mapOo okHb hs).isSome = true := by decide +kernel
theorem takeK (k : Nat) : ∃ k' ∈ [0, 1, 2], codesT.take k = codesT.take k' := by
  rcases k with _ | _ | _ | k
  · exact ⟨0, by decide, rfl⟩
  · exact ⟨1, by decide, rfl⟩
  · exact ⟨2, by decide, rfl⟩
  · exact ⟨2, by decide, by simp [codesT]⟩
theorem room_mid {n1 n2 : Int} (h1 : 0 ≤ n1 ∧ n1 < 30) (h2 : 0 ≤ n2 ∧ n2 < 12) : midB (Str.ofString "room " ++ intS n1 ++ Str.ofString " " ++ intS n2) = true := by
  refine' (?zf : Scr _) ?zq _ ?zs
  case zq =>
    refine hideG ?_; intro g9; obtain ⟨-, -, a3, a4⟩ := numG h1; k_unfold
    refine hideG ?_; intro g9; obtain ⟨-, -, b3, b4⟩ := numG (n := n2) ⟨h2.1, by omega⟩; k_unfold
    generalize intS n1 = a at *
    generalize intS n2 = b at *
    have r0 : (Str.ofString "room ").length = 5 := by decide +kernel
    have s0 : (Str.ofString " ").length = 1 := by decide +kernel
    have hl : (Str.ofString "room " ++ a ++ Str.ofString " " ++ b).length = 5 + a.length + 1 + b.length := by rw [Str.length_append, Str.length_append, Str.length_append, r0, s0]
    have hc : (Str.ofString "room " ++ a ++ Str.ofString " " ++ b).cps.toList = (Str.ofString "room ").cps.toList ++ (a.cps.toList ++ (Str.ofString " ").cps.toList ++ b.cps.toList) := by
      simp only [Str.cps_append, Array.toList_append, List.append_assoc]
    generalize Str.ofString "room " ++ a ++ Str.ofString " " ++ b = x at *
    have r1 : (Str.ofString "room ").cps.toList.length = 5 := r0
    have t3 : x.cps.toList.take 3 = (Str.ofString "room ").cps.toList.take 3 := by rw [hc, List.take_append_of_le_length (by omega)]
    have t5 : x.cps.toList.take 5 = (Str.ofString "room ").cps.toList.take 5 := by rw [hc, List.take_append_of_le_length (by omega)]
    have n10 : x.cps.toList.all (fun c => c != 10) = true := by
      rw [List.all_eq_true]
      intro c hcm
      rw [hc] at hcm
      simp only [List.mem_append] at hcm
      rw [bne_iff_ne]
      intro e
      subst e
      rcases hcm with z | (z | z) | z
      · exact absurd z (by decide +kernel)
      · exact a3 z
      · exact absurd z (by decide +kernel)
      · exact b3 z
    have ne : (x == Str.ofString "end") = false := by
      rw [beq_eq_false_iff_ne]
      intro e
      have := congrArg Str.length e
      rw [hl, show (Str.ofString "end").length = 3 by decide +kernel] at this
      omega
    have hs : (Txt.slice x none (some 5) == Str.ofString "unit ") = false := by
      rw [beq_eq_false_iff_ne]
      intro e
      have e2 := sliceCps (x := x) (k := 5) (by decide) (by omega)
      rw [e] at e2
      have e3 : (Str.ofString "unit ").cps.toList = (Str.ofString "room ").cps.toList.take 5 := e2.trans t5
      exact absurd e3 (by decide +kernel)
    have hD : openD x = 0 := openD3 hs ne
    have hR : rowB x = true := by
      unfold rowB
      rw [n10, t3, show ((Str.ofString "room ").cps.toList.take 3 == (Str.ofString "end").cps.toList) = false by decide +kernel]
      simp only [Bool.and_true, Bool.not_false, Bool.or_true, Bool.and_eq_true, decide_eq_true_eq]
      omega
    unfold midB
    rw [hR, hD, ne]; rfl
  case zs => show LetQ _ ?zq _; (try delta id foldQ letS2 letS hideG foldN subRN subN ltCut letAE nameRet); exact LetQ.refl
  case zf => intro _ r _; exact r
theorem unitLaw {R : List Str} (h : UnitRel R) : LawRows R := by
  refine hideG ?_; intro g9; obtain ⟨a0, a1, a2, a3, a4, a5, n1, n2, ws, hs, k, h0, h1, h2, h3, h4, h5, z1, z2, hw, hh, e91⟩ := h; k_unfold; subst e91
  obtain ⟨k', hk', ek⟩ := takeK k
  rw [ek]
  have w1 := tW ws hw k' hk'
  unfold chkW at w1
  split at w1
  · cases w1
  rename_i cs hcs
  obtain ⟨zs, hzs⟩ := Option.isSome_iff_exists.mp w1
  obtain ⟨hz, hhz⟩ := Option.isSome_iff_exists.mp (tH hs hh)
  obtain ⟨l1, m1⟩ := tMc ws hw
  obtain ⟨l2, m2⟩ := tMh hs hh
  obtain ⟨l3, m3⟩ := tMk ws hw k' hk'
  have g : GoodV (headRows a0 a1 a2 a3 a4 a5 n1 n2 ++ constRows ws ++ hs ++ codeRows ws (codesT.take k') ++ [Str.ofString "end"]) 5 _ _ _ _ _ _ (constRows ws) hs (codeRows ws (codesT.take k')) :=
    ⟨cs, hz, zs, rfl, ⟨hd1_ok (tHd0 a0 h0 a1 h1), hd1_ok (tHd1 a2 h2), hd1_ok (tHd2 a3 h3), hd1_ok (tHd3 a4 h4), room_ok z1 z2, hd1_ok (tHd5 a5 h5)⟩, mapOo_paired (fun _ _ => okCb_ok) hcs, mapOo_paired (fun _ _ => okHb_ok) hhz, rowsOo_ok hzs, l1, l2, l3⟩
  refine g.law (by decide) (tM0 a0 h0 a1 h1) (fun y hy => ?_) ?_
  · simp only [List.mem_append, List.mem_cons, List.not_mem_nil, or_false] at hy
    rcases hy with (((e | e | e | e | e) | hy) | hy) | hy
    · rw [e]; exact midB_ok (tM1 a2 h2)
    · rw [e]; exact midB_ok (tM2 a3 h3)
    · rw [e]; exact midB_ok (tM3 a4 h4)
    · rw [e]; exact midB_ok (room_mid z1 z2)
    · rw [e]; exact midB_ok (tM5 a5 h5)
    · exact midB_ok (m1 y hy)
    · exact midB_ok (m2 y hy)
    · exact midB_ok (m3 y hy)
  · simp only [List.length_append, List.length_cons, List.length_nil, headRows]
    omega

end
section -- P9
noncomputable def smB (b : PBody) : Bool := smH b.head && (decide (b.consts.length ≤ 100) && b.consts.all smC) && b.handlers.all (fun z => smI z.1 && smI z.2.1 && smI z.2.2.1 && smI z.2.2.2.1) &&
  (decide (b.code.length ≤ 100) && decide (b.lines.length = b.code.length) && b.code.all (fun c => decide (0 ≤ c.1) && decide (c.1 < 85) && c.2.all smI)) && b.lines.all smI
theorem smB_ok {b : PBody} (h : smB b = true) : SmallB b := by
  simp only [smB, Bool.and_eq_true, decide_eq_true_eq, List.all_eq_true] at h
  refine hideG ?_; intro g9; obtain ⟨⟨⟨⟨h1, h2, h3⟩, h4⟩, ⟨h5, h6⟩, h7⟩, h8⟩ := h; k_unfold
  refine ⟨smH_ok h1, ⟨h2, fun c hc => smC_ok (h3 c hc)⟩, fun z hz => ?_, ⟨h5, h6, fun c hc => ⟨(h7 c hc).1, fun a ha => ?_⟩⟩, fun l hl => smI_ok (h8 l hl)⟩
  · refine hideG ?_; intro g9; obtain ⟨⟨⟨a, b⟩, c⟩, d⟩ := h4 z hz; k_unfold
    exact ⟨smI_ok a, smI_ok b, smI_ok c, smI_ok d⟩
  · have := (h7 c hc).2
    rw [ha] at this
    exact smI_ok this
noncomputable def smT : Nat → UTree → Bool
  | 0, _ => true
  | n + 1, t => smB t.body && t.us.all (smT n)
theorem smT_ok : ∀ {n : Nat} {t : UTree}, smT n t = true → SmallT n t
  | 0, _, _ => trivial
  | n + 1, t, h => by
    simp only [smT, Bool.and_eq_true, List.all_eq_true] at h
    exact ⟨smB_ok h.1, fun u hu => smT_ok (h.2 u hu)⟩
noncomputable def sameB (R : List Str) : Bool := match readO (backR R) with
  | .error _ => false
  | .ok t => smT 101 t && linesF 101 t == R
theorem sameB_ok {R : List Str} (h : sameB R = true) : SameOK R := by
  unfold sameB at h
  split at h
  · cases h
  · rename_i t e
    simp only [Bool.and_eq_true, beq_iff_eq] at h
    exact ⟨t, e, smT_ok h.1, h.2⟩
noncomputable def endB (R : List Str) (i : Nat) : Bool := match goZ (R.take (i + 1) ++ R.drop i) 0 0 with
  | none => false
  | some p => (match readO (backR (R.take (i + 1) ++ R.drop i)) with
    | .error j => j == (p : Int) + 1
    | .ok _ => false)
theorem endB_ok {R : List Str} {i : Nat} (h : endB R i = true) : ∃ p : Nat, goZ (R.take (i + 1) ++ R.drop i) 0 0 = some p ∧ readO (backR (R.take (i + 1) ++ R.drop i)) = .error ((p : Nat) + 1) := by
  refine' (?zf : Scr _) ?zq _ ?zs
  case zq =>
    unfold endB at h
    split at h
    · cases h
    · rename_i p e
      split at h
      · rename_i j e2
        refine ⟨p, e, ?_⟩
        rw [e2, eq_of_beq h]
      · cases h
  case zs => show LetQ _ ?zq _; (try delta id foldQ letS2 letS hideG foldN subRN subN ltCut letAE nameRet); exact LetQ.refl
  case zf => intro _ r _; exact r
noncomputable def nestB (R : List Str) : Bool := chkB R (.head 0 head0) [] && sameB R && R.all rowB && decide (R.length ≤ 50) && R.all (fun x => !isCH x) && (List.range R.length).all (fun i => !(R[i]? == some (Str.ofString "end")) || endB R i)
theorem nestB_ok {R : List Str} (h : nestB R = true) : LawRows R := by
  simp only [nestB, Bool.and_eq_true, List.all_eq_true, decide_eq_true_eq, Bool.or_eq_true, Bool.not_eq_true', List.mem_range, beq_eq_false_iff_ne] at h
  refine hideG ?_; intro g9; obtain ⟨⟨⟨⟨⟨h1, h2⟩, h3⟩, h4⟩, h5⟩, h6⟩ := h; k_unfold
  refine lawOf h1 (sameB_ok h2) h3 h4 (fun i x hx hc => ?_) fun i hi => ?_
  · rw [h5 x (List.mem_of_getElem? hx)] at hc; cases hc
  · rcases h6 i (List.getElem?_eq_some_iff.mp hi).1 with z | z
    · exact absurd hi z
    · exact endB_ok z
theorem nest0 : nestB (nestR 0) = true := by decide +kernel
theorem nest1 : nestB (nestR 1) = true := by decide +kernel
theorem nest2 : nestB (nestR 2) = true := by decide +kernel
theorem nestLaw {R : List Str} {f : Int} (e : R = nestR f) (hf : f = 0 ∨ f = 1 ∨ f = 2) : LawRows R := by
  subst e
  rcases hf with rfl | rfl | rfl
  · exact nestB_ok nest0
  · exact nestB_ok nest1
  · exact nestB_ok nest2

end
section -- LWQ
theorem f3 {x : Int} : x.fmod 3 = 0 ∨ x.fmod 3 = 1 ∨ x.fmod 3 = 2 := by have := fmB (a := x) (b := 3) (by decide); omega

end
section -- LW
theorem wd_68 : True := by
  (k_with "x_kwd_rel" => ((fail_if_success (k_extra "offLW")); k_extra "W119"))
  (k_with "x_k_all" => ((fail_if_success (k_extra "offLW")); k_extra "W120"))
  (k_with "x_k_all" => ((fail_if_success (k_extra "offLW")); k_extra "W121"))
  (k_with "x_kwd_inv" => ((fail_if_success (k_extra "offLW")); k_extra "W122"))
  (k_with "m_turnG" => ((fail_if_success (k_extra "offLW")); k_extra "W123"))
  (k_with "m_finEG" => ((fail_if_success (k_extra "offLW")); k_extra "W124"))
  (k_with "m_pair" => ((fail_if_success (k_extra "offLW")); k_extra "W125"))
  (k_with "m_clear" => ((fail_if_success (k_extra "offLW")); k_extra "W126"))
  (k_with "TurnEnd" => ((fail_if_success (k_extra "offLW")); k_extra "W178"))
  (k_with "m_turnV" => ((fail_if_success (k_extra "offLW")); k_extra "W179"))
  (k_with "m_finE" => ((fail_if_success (k_extra "offLW")); k_extra "W105"))
  (k_with "x_k_all" => ((fail_if_success (k_extra "offLW")); k_extra "W180"))
  (k_with "callWith builtin:list.append cons nil" => ((fail_if_success (k_extra "offLW")); k_extra "W185"))
  (k_with "callWith builtin:str.join cons nil" => ((fail_if_success (k_extra "offLW")); k_extra "W185"))
  (k_with "m_mem" => ((fail_if_success (k_extra "offLW")); k_extra "W186"))
  (k_with "x_k_mem" => ((fail_if_success (k_extra "offLW")); k_extra "W187"))
  (k_with "binaryOp Add ref ref" => ((fail_if_success (k_extra "offLW")); k_extra "W188"))
  (k_with "W225" => ((k_here; (fail_if_success (with_reducible show wpAny _ _ _ (CutR _ _ _ _ _) _ _)); refine stopW ?_)))
  (k_with "eval IfExp Compare Call Call" => ((fail_if_success (k_extra "offLW")); k_extra "W225"))
  (k_with "eval IfExp" => ((fail_if_success (k_extra "offLW")); k_extra "W225"))
  (k_with "W226" => ((k_here; (fail_if_success (with_reducible show wpAny _ _ _ (CutC _ _ _ _) _ _)); refine stopW ?_)))
  (k_with "eval BinOp ListComp Add Subscript" => ((fail_if_success (k_extra "offLW")); k_extra "W226"))
  (k_with "W227" => ((k_here; k_dflt (refine' sliceS (by k_asm) (by k_asm) (by exact Fr.lst (by k_asm) (by assumption)) (by first | ((simp only [List.length_cons, List.length_nil]); omega) | decide) ?_ (by with_unfolding_all rfl) (by kmk_pure)); intro D' h' F' N' l1; (try k_extra "klt"); (try simp only [List.take_succ_cons, List.take_zero, List.take_nil] at N'))))
  (k_with "subscriptTail Name Slice ref ref" => ((fail_if_success (k_extra "offLW")); k_extra "W227"))
  (k_with "W228" => ((k_here; k_dflt (refine' sliceF (by k_asm) (by k_asm) (by k_mem) (by first | decide | omega) (by first | exact (rfl : _ = [_, _]) | exact (rfl : _ = [_]) | exact (rfl : _ = [])) ?_ (by with_unfolding_all rfl) (by kmk_pure)); intro D' h' F' N' l1; (try k_extra "klt"))))
  (k_with "subscriptTail Name Slice ref ref" => ((fail_if_success (k_extra "offLW")); k_extra "W228"))
  (k_with "W229" => ((k_here; k_dflt (refine kba_turn (value' := PySem.Expr.Name (PySem.Str.ofString "_") ⟨0, 0, 0, 0⟩) (fun _ => rfl) ?_))))
  (k_with "subscriptTail List cons Slice ref ref" => ((fail_if_success (k_extra "offLW")); k_extra "W229"))
  (k_with "W230" => ((k_here; (with_reducible show wpAny _ _ (call (Value.ref 397) _) _ _ _); (try (k_extra "m_foldq")); k_dflt (refine' conL (by k_asm) (by k_asm) (by k_asm) (by k_asm) (by k_asm) (by exact rfl) (by exact rfl) (c_nest (by exact f3)) (by exact FootIn.of (by k_extra "m_sel")) (by k_room) (by k_units) ?_); (try ((with_reducible rename pairNe _ => dN8); clear dN8)); (intro pl' k' D' h' tk' hpl' F' N' dN9; (with_reducible refine foldN N' ?_); clear N'; intro n9 N'; (try k_sweep); (try dsimp only)))))
  (k_with "call ref" => ((fail_if_success (k_extra "offLW")); k_extra "W230"))
  (k_with "call ref nil" => ((fail_if_success (k_extra "offLW")); k_extra "W230"))
  (k_with "call ref cons nil" => ((fail_if_success (k_extra "offLW")); k_extra "W230"))
  (k_with "W231" => ((k_here; (with_reducible show wpAny _ _ (call (Value.ref 390) _) _ _ _); (try (k_extra "m_foldq")); k_dflt (refine' conL (by k_asm) (by k_asm) (by k_asm) (by k_asm) (by k_asm) (by exact rfl) (by exact rfl) (c_unitR (by l_fact)) (by exact FootIn.of (by k_extra "m_sel")) (by k_room) (by k_units) ?_); (try ((with_reducible rename pairNe _ => dN8); clear dN8)); (intro pl' k' D' h' tk' hpl' F' N' dN9; (with_reducible refine foldN N' ?_); clear N'; intro n9 N'; (try k_sweep); (try dsimp only)))))
  (k_with "call ref" => ((fail_if_success (k_extra "offLW")); k_extra "W231"))
  (k_with "call ref nil" => ((fail_if_success (k_extra "offLW")); k_extra "W231"))
  (k_with "call ref cons nil" => ((fail_if_success (k_extra "offLW")); k_extra "W231"))
  (k_with "call ref" => ((fail_if_success (k_extra "offLW")); k_extra "W210"))
  (k_with "call ref" => ((fail_if_success (k_extra "offLW")); k_extra "W207"))
  (k_with "W232" => ((k_here; (with_reducible show wpAny _ _ (call (Value.ref 418) _) _ _ _); refine stopW ?_)))
  (k_with "call ref" => ((fail_if_success (k_extra "offLW")); k_extra "W232"))
  (k_with "call ref nil" => ((fail_if_success (k_extra "offLW")); k_extra "W210"))
  (k_with "call ref nil" => ((fail_if_success (k_extra "offLW")); k_extra "W207"))
  (k_with "call ref nil" => ((fail_if_success (k_extra "offLW")); k_extra "W232"))
  (k_with "call ref cons nil" => ((fail_if_success (k_extra "offLW")); k_extra "W210"))
  (k_with "call ref cons nil" => ((fail_if_success (k_extra "offLW")); k_extra "W207"))
  (k_with "call ref cons nil" => ((fail_if_success (k_extra "offLW")); k_extra "W232"))
  (k_with "W233" => ((k_here; (with_reducible show wpAny _ _ (call (Value.ref 404) _) _ _ _); (try (k_extra "m_foldq")); k_dflt (refine' conUTD (by k_asm) (by k_asm) (by k_asm) (by k_asm) (by k_asm) (by exact rfl) (by exact rfl) (by exact FootIn.of (by k_extra "m_sel")) (c_refusedR1 (by exact takeT) (by with_reducible assumption) (by with_reducible assumption)) (by k_room) (by k_units) ?_); (intro t9' h' tk' g' hq' T' e9' F' N' B'; (have e8' := e9' rfl); subst e8'; clear T' e9' B'; (try k_sweep); (try dsimp only)))))
  (k_with "m_c404" => ((fail_if_success (k_extra "offLW")); k_extra "W233"))
  (k_with "W234" => ((k_here; (with_reducible show wpAny _ _ (call (Value.ref 404) _) _ _ _); (try (k_extra "m_foldq")); k_dflt (refine' conUTD (by k_asm) (by k_asm) (by k_asm) (by k_asm) (by k_asm) (by exact rfl) (by exact rfl) (by exact FootIn.of (by k_extra "m_sel")) (c_refusedR2 (by exact cutT) (by with_reducible assumption) (by with_reducible assumption)) (by k_room) (by k_units) ?_); (intro t9' h' tk' g' hq' T' e9' F' N' B'; (have e8' := e9' rfl); subst e8'; clear T' e9' B'; (try k_sweep); (try dsimp only)))))
  (k_with "m_c404b" => ((fail_if_success (k_extra "offLW")); k_extra "W234"))
  (k_with "W235" => ((k_here; (with_reducible show wpAny _ _ (call (Value.ref 418) _) _ _ _); (try (k_extra "m_foldq")); k_dflt (refine' conUTD (by k_asm) (by k_asm) (by k_asm) (by k_asm) (by k_asm) (by exact rfl) (by exact rfl) (by exact FootIn.of (by k_extra "m_sel")) (c_twice (by with_reducible assumption) (by with_reducible assumption) (by with_reducible assumption)) (by k_room) (by k_units) ?_); (intro t9' h' tk' g' hq' T' e9' F' N' B'; (have e8' := e9' rfl); subst e8'; clear T' e9' B'; (try k_sweep); (try dsimp only)))))
  (k_with "m_c418" => ((fail_if_success (k_extra "offLW")); k_extra "W235"))
  (k_with "exec For Tuple Call cons nil" => ((fail_if_success (k_extra "offLW")); k_extra "W209"))
  (k_with "exec For Tuple Call" => ((fail_if_success (k_extra "offLW")); k_extra "W209"))
  (k_with "call type:enumerate" => ((fail_if_success (k_extra "offLW")); k_extra "W209"))
  (k_with "call type:enumerate cons nil" => ((fail_if_success (k_extra "offLW")); k_extra "W209"))
  (k_with "W236" => (first | exact strsL | exact strs1))
  (k_with "m_strs" => ((fail_if_success (k_extra "offLW")); k_extra "W236"))
  (k_with "binaryOp Add ref ref" => ((fail_if_success (k_extra "offLW")); k_extra "W214"))
  (k_with "W237" => ((k_here; k_dflt (refine' sliceUptoStrs (by k_asm) (by k_asm) (by k_mem) (by omega) (by assumption) ?_ (by with_unfolding_all rfl) (by kmk_pure)); intro D' h' F' N' l1 z1; (try k_extra "klt"))))
  (k_with "subscriptTail Name Slice ref ref" => ((fail_if_success (k_extra "offLW")); k_extra "W237"))
  trivial
theorem walkW : sndP hd0 := by
  refine' (?zf : Scr _) ?zq _ ?zs
  case zq =>
    unfold sndP
    k_go0
    refine dCut (P := pairNe []) True.intro ?_
    intro dN9
    k_steps
    unfold StopW
    refine cutC (by k_asm) ?gC ?hC
    case gC =>
      refine scr3 (by assumption) (by assumption) (fun e => ?g0) (fun a t e => ?g1) (fun a b t t2 r e hr => ?g2)
      case g0 =>
        subst e
        k_steps
        refine compX_vals (as := ([] : List Int)) (fun (n : Int) v => ∃ t, v = Value.int n t) (fun (_ : Int) y => ∃ k t, y = Value.int k t ∧ 0 ≤ k) (by k_asm) (by k_asm) (by k_mem) .nil (by simp) ?turn0 ?fin0
        case turn0 =>
          k_extra "m_turnV"
          (rename ∃ t, _ = Value.int _ t => hv9)
          obtain ⟨t9, e9⟩ := hv9
          subst e9
          k_steps
        case fin0 =>
          k_extra "m_finE"
          (rename Paired _ _ _ => hPy)
          cases hPy
          k_steps
          exact cutC_mk (by k_asm) (by k_asm) (.head _) rfl (by decide) (by decide)
      case g1 =>
        subst e
        k_steps
        refine compX_vals (as := [a]) (fun (n : Int) v => ∃ t, v = Value.int n t) (fun (_ : Int) y => ∃ k t, y = Value.int k t ∧ 0 ≤ k) (by k_asm) (by k_asm) (by k_mem) (.cons ⟨t, rfl⟩ .nil) (by simp) ?turn1 ?fin1
        case turn1 =>
          k_extra "m_turnV"
          (rename ∃ t, _ = Value.int _ t => hv9)
          obtain ⟨t9, e9⟩ := hv9
          subst e9
          k_steps
        case fin1 =>
          k_extra "m_finE"
          (rename Paired _ _ _ => hPy)
          refine hideG ?_; intro g9; obtain ⟨k1, u1, hk1, e⟩ := paired1 hPy; k_unfold
          subst e
          k_steps
          exact cutC_mk (by k_asm) (by k_asm) (.head _) rfl hk1 (by decide)
      case g2 =>
        subst e
        k_steps
        refine compX_vals (as := [a, b]) (fun (n : Int) v => ∃ t, v = Value.int n t) (fun (_ : Int) y => ∃ k t, y = Value.int k t ∧ 0 ≤ k) (by k_asm) (by k_asm) (by k_mem) (.cons ⟨t, rfl⟩ (.cons ⟨t2, rfl⟩ .nil)) (by simp) ?turn2 ?fin2
        case turn2 =>
          k_extra "m_turnV"
          (rename ∃ t, _ = Value.int _ t => hv9)
          obtain ⟨t9, e9⟩ := hv9
          subst e9
          k_steps
        case fin2 =>
          k_extra "m_finE"
          (rename Paired _ _ _ => hPy)
          refine hideG ?_; intro g9; obtain ⟨k1, k2, u1, u2, hk1, hk2, e⟩ := paired2 hPy; k_unfold
          subst e
          k_steps
          exact cutC_mk (by k_asm) (by k_asm) (.head _) rfl hk1 hk2
    case hC =>
      k_extra "m_clrD"
      intro D c0 c1 t0 t1 h' tk' hc0 hc1 F' N'
      refine dCut (P := pairNe [(D, dumO)]) (And.intro True.intro True.intro) ?_
      intro dN9
      k_steps
      unfold StopW
      refine cutR (by k_asm) (by k_asm) ?gR ?hR
      case gR =>
        k_steps
        · exact cutR_mk (by k_asm) (by k_asm) (nestLaw (by assumption) f3) (by k_extra "m_pnk")
        · exact cutR_mk (by k_asm) (by k_asm) (unitLaw (by assumption)) (by k_extra "m_pnk")
      case hR =>
        k_extra "m_clrD"
        intro D2 pl n h' tk' hLR F' N' dN9
        obtain ⟨hRN, hSm, hRow⟩ := hLR
        have hrows := hRN.rows
        have hlen : pl.length ≤ 100 := by have := hRN.1; rwa [texts, List.length_map] at this
        k_steps
        unfold StopW
        (rename Fr _ _ _ _ => lF')
        refine For_turns lF' ?_
        k_steps
        unfold StopW
        refine enum_led (J := fun _ m => m (Str.ofString "rows") = some (.ref D2) ∧ m (Str.ofString "cells") = some (.ref D)) rfl (by k_asm) (by k_asm) (by k_mem) (by k_extra "m_pnk") ⟨rfl, rfl⟩ ?step ?done
        case step =>
          k_extra "m_clrD"
          intro i v t2 T tk h m e it oe oi hv J' hT' F' N' z1 z2 dN9
          obtain ⟨p, hx, rfl⟩ := strs_at hv
          obtain ⟨hm1, hm2⟩ := J'
          have hxR : (texts pl)[i]? = some p.1 := by rw [texts, List.getElem?_map, hx]; rfl
          refine hideG ?_; intro g9; obtain ⟨q1, q2, q3, q4⟩ := hRow i p.1 hxR; k_unfold
          obtain ⟨s1, s2⟩ := q3 ((c1.fdiv 3).fmod (p.1.length : Int)) (fmN q1).1 (fmN q1).2
          have s3 := hRN.takeN i
          have hxl : p.1.length ≤ 900 := hrows.at hx
          have hi : i < pl.length := (List.getElem?_eq_some_iff.mp hx).1
          have hk1 := (fmN (a := c1.fdiv 3) q1).1
          have hk2 := (fmN (a := c1.fdiv 3) q1).2
          have F2 := ovF1 (n := Str.ofString "rows") (ovF1 F' hm2) (by rw [if_neg (by decide)]; exact hm1)
          clear F'
          k_steps
          unfold StopW
          k_extra "m_c404"
          k_steps
          · unfold StopW
            k_extra "m_c404b"
            k_steps
            · unfold StopW
              k_extra "m_c418"
              k_steps
              exact ⟨_, _, _, rfl, by k_asm, subNews4 (by k_asm) (by k_mem) (by k_mem) (by k_mem) (by k_mem), rfl, rfl⟩
            · unfold StopW
              k_extra "m_c418"
              k_steps
              exact ⟨_, _, _, rfl, by k_asm, subNews4 (by k_asm) (by k_mem) (by k_mem) (by k_mem) (by k_mem), rfl, rfl⟩
            · exact ⟨_, _, _, rfl, by k_asm, subNews4 (by k_asm) (by k_mem) (by k_mem) (by k_mem) (by k_mem), rfl, rfl⟩
          · unfold StopW
            k_extra "m_c418"
            k_steps
            exact ⟨_, _, _, rfl, by k_asm, subNews4 (by k_asm) (by k_mem) (by k_mem) (by k_mem) (by k_mem), rfl, rfl⟩
          · unfold StopW
            k_extra "m_c418"
            k_steps
            exact ⟨_, _, _, rfl, by k_asm, subNews4 (by k_asm) (by k_mem) (by k_mem) (by k_mem) (by k_mem), rfl, rfl⟩
          · exact ⟨_, _, _, rfl, by k_asm, subNews4 (by k_asm) (by k_mem) (by k_mem) (by k_mem) (by k_mem), rfl, rfl⟩
        case done =>
          intro h tk m F' N' J'
          k_steps
  case zs => show LetQ _ ?zq _; (try delta id foldQ letS2 letS hideG foldN subRN subN ltCut letAE nameRet); exact LetQ.refl
  case zf => intro _ r _; exact r

theorem wd_69 : True := by
  (k_with "offLW" => (skip))
  trivial
end
theorem hdF : PySem.Challenge.rw_sz0077_01.Holds := sd fun _ => hd fun a => (hd0 ⟨a, walkW⟩).2
end Mine
theorem PySem.Challenge.cw_sz0077_01_holds : PySem.Challenge.rw_sz0077_01.Holds :=
  Mine.hdF
