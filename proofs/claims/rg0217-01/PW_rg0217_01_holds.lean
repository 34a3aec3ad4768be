import PyProof.Rows.All
import Wide.All
import OpenK.AllK
import Wide.FinOn
import PyProof.AttrMiss
import PyProof.FactsAll.tuple_2
import PyProof.DictStraight
import PyProof.EqAt
import PyProof.NeKinds
import PyProof.ExcClass
import PyProof.ExcBaseAll.Exception
import PyProof.WalksMore
import PyProof.InstStore
import PyProof.InstStoreFacts
import PyProof.ListMulRoad
import PyProof.Rows.StrInSeq
import PyProof.ZipIter
import PyProof.Rows.StrInSeq3
import PyProof.Rows.SortShellK
import PyProof.Rows.SortStr
import KE.KTree
import KE.KDictSum
import KE.KDictOf
import KE.KSuper
import KE.KTryDeepN
import KE.KTryMore
import KE.RegKSuper
import Lean
import PySem.Challenge.RW_rg0217_01
open PySem PySem.W PyProof.Rows PySem.Calls
set_option Elab.async false
set_option compiler.extract_closed false
set_option bootstrap.genMatcherCode false
set_option maxRecDepth 100000
set_option maxHeartbeats 8000000
namespace Mine
theorem hd.tw10012880186880212623 : True := trivial
theorem hd.tw10024716035694756283 : True := trivial
theorem hd.tw10026777125879992224 : True := trivial
theorem hd.tw10030107230732127627 : True := trivial
theorem hd.tw10031445930688152421 : True := trivial
theorem hd.tw100483095206116625 : True := trivial
theorem hd.tw1005483496087919985 : True := trivial
theorem hd.tw10098268173465320503 : True := trivial
theorem hd.tw10102539355485613405 : True := trivial
theorem hd.tw10111801491309104144 : True := trivial
theorem hd.tw10117440562283002822 : True := trivial
theorem hd.tw1013155817946168525 : True := trivial
theorem hd.tw10170382586518783626 : True := trivial
theorem hd.tw10195207025132199040 : True := trivial
theorem hd.tw10200926772931222457 : True := trivial
theorem hd.tw102014493982917126 : True := trivial
theorem hd.tw10203026625882799534 : True := trivial
theorem hd.tw10210669037155785340 : True := trivial
theorem hd.tw10216474801634566288 : True := trivial
theorem hd.tw10224846074564989696 : True := trivial
theorem hd.tw10246146449241189800 : True := trivial
theorem hd.tw10258999931320997221 : True := trivial
theorem hd.tw10259988299927297344 : True := trivial
theorem hd.tw10264135568141901301 : True := trivial
theorem hd.tw10273187271170590260 : True := trivial
theorem hd.tw10283529075043463162 : True := trivial
theorem hd.tw10286656452748174568 : True := trivial
theorem hd.tw10292235466723388172 : True := trivial
theorem hd.tw1033889070964956483 : True := trivial
theorem hd.tw10365702040365258594 : True := trivial
theorem hd.tw10403243965636340961 : True := trivial
theorem hd.tw10404513684093684653 : True := trivial
theorem hd.tw1043307727769730188 : True := trivial
theorem hd.tw10458740792067480800 : True := trivial
theorem hd.tw10465514089279642386 : True := trivial
theorem hd.tw10472018719410664625 : True := trivial
theorem hd.tw10491609206876299696 : True := trivial
theorem hd.tw10507497572311344420 : True := trivial
theorem hd.tw10525666975642140466 : True := trivial
theorem hd.tw10531373872144210542 : True := trivial
theorem hd.tw10558106933452604415 : True := trivial
theorem hd.tw10595968288072337780 : True := trivial
theorem hd.tw10596771469484781812 : True := trivial
theorem hd.tw10603584201595350602 : True := trivial
theorem hd.tw10604169790165778682 : True := trivial
theorem hd.tw10614716105012338702 : True := trivial
theorem hd.tw10632458379032903183 : True := trivial
theorem hd.tw10643592516055977328 : True := trivial
theorem hd.tw10654345511274693656 : True := trivial
theorem hd.tw10727248033764811480 : True := trivial
theorem hd.tw10738003575532504788 : True := trivial
theorem hd.tw10743916045514856203 : True := trivial
theorem hd.tw10763509664835889504 : True := trivial
theorem hd.tw10778257442750969130 : True := trivial
theorem hd.tw10784824025267889561 : True := trivial
theorem hd.tw10787125048147943196 : True := trivial
theorem hd.tw10788059911547816233 : True := trivial
theorem hd.tw10819331528351526247 : True := trivial
theorem hd.tw10841399608879689956 : True := trivial
theorem hd.tw10844753989422098599 : True := trivial
theorem hd.tw10845626234925267891 : True := trivial
theorem hd.tw10847404155465417027 : True := trivial
theorem hd.tw10860895700388868024 : True := trivial
theorem hd.tw10879034167726328663 : True := trivial
theorem hd.tw10904933031377857372 : True := trivial
theorem hd.tw10905181550472923540 : True := trivial
theorem hd.tw10933677585905718993 : True := trivial
theorem hd.tw10947331860392259696 : True := trivial
theorem hd.tw10949625832625181284 : True := trivial
theorem hd.tw10955317050725887447 : True := trivial
theorem hd.tw11011131195910976488 : True := trivial
theorem hd.tw11032806212648032379 : True := trivial
theorem hd.tw11034497122203965937 : True := trivial
theorem hd.tw11052946933831473538 : True := trivial
theorem hd.tw11054480109507316185 : True := trivial
theorem hd.tw11115866451450875312 : True := trivial
theorem hd.tw11117797201346649052 : True := trivial
theorem hd.tw11126320352707459272 : True := trivial
theorem hd.tw11128854368766332075 : True := trivial
theorem hd.tw11136197038861592535 : True := trivial
theorem hd.tw11151547217846952531 : True := trivial
theorem hd.tw11162318198679636149 : True := trivial
theorem hd.tw1118553966540926140 : True := trivial
theorem hd.tw11213053971927718326 : True := trivial
theorem hd.tw11224897151958998736 : True := trivial
theorem hd.tw11232374478483605306 : True := trivial
theorem hd.tw11249132867342737325 : True := trivial
theorem hd.tw11251137523995926341 : True := trivial
theorem hd.tw11256106856564762260 : True := trivial
theorem hd.tw11283319371284918911 : True := trivial
theorem hd.tw1129884963351977449 : True := trivial
theorem hd.tw11364443708160879001 : True := trivial
theorem hd.tw11375277706881905925 : True := trivial
theorem hd.tw11389486352061984695 : True := trivial
theorem hd.tw11407884054146074569 : True := trivial
theorem hd.tw11415386828835887437 : True := trivial
theorem hd.tw11472165163037031739 : True := trivial
theorem hd.tw1147470481896660410 : True := trivial
theorem hd.tw11507959949525687343 : True := trivial
theorem hd.tw11513968764499736323 : True := trivial
theorem hd.tw11551083187376567056 : True := trivial
theorem hd.tw11587034568685482758 : True := trivial
theorem hd.tw11623594800819314181 : True := trivial
theorem hd.tw11631947586910100387 : True := trivial
theorem hd.tw11636924220087485885 : True := trivial
theorem hd.tw11638043884434779313 : True := trivial
theorem hd.tw11652457597714270106 : True := trivial
theorem hd.tw11660266114150955751 : True := trivial
theorem hd.tw11663481321943121269 : True := trivial
theorem hd.tw11672842613191775419 : True := trivial
theorem hd.tw11709330566771433103 : True := trivial
theorem hd.tw11713075325732132258 : True := trivial
theorem hd.tw11729958736954745289 : True := trivial
theorem hd.tw11749099774412794130 : True := trivial
theorem hd.tw11754176132448286083 : True := trivial
theorem hd.tw11778180911958503814 : True := trivial
theorem hd.tw11801993109049149486 : True := trivial
theorem hd.tw1184127607605381967 : True := trivial
theorem hd.tw11845739042510646663 : True := trivial
theorem hd.tw11893437276241958245 : True := trivial
theorem hd.tw11898664097942606779 : True := trivial
theorem hd.tw11915594877312485397 : True := trivial
theorem hd.tw11917015161858427179 : True := trivial
theorem hd.tw11942693397608355085 : True := trivial
theorem hd.tw11953376511379268794 : True := trivial
theorem hd.tw1197925565968671727 : True := trivial
theorem hd.tw12023040214023829324 : True := trivial
theorem hd.tw12035623454917710897 : True := trivial
theorem hd.tw12050417470231563642 : True := trivial
theorem hd.tw12058812876911547015 : True := trivial
theorem hd.tw12070051907170230399 : True := trivial
theorem hd.tw12070654863422294720 : True := trivial
theorem hd.tw1208734638264122097 : True := trivial
theorem hd.tw12092154237167983948 : True := trivial
theorem hd.tw12112201142124510154 : True := trivial
theorem hd.tw12127338746724423809 : True := trivial
theorem hd.tw12131494931117144662 : True := trivial
theorem hd.tw12173100003817136821 : True := trivial
theorem hd.tw12211380539166087753 : True := trivial
theorem hd.tw1222794163293265305 : True := trivial
theorem hd.tw12232750017996463310 : True := trivial
theorem hd.tw12239354291974867115 : True := trivial
theorem hd.tw12254263087357419629 : True := trivial
theorem hd.tw12268275109542032366 : True := trivial
theorem hd.tw12271959270614036898 : True := trivial
theorem hd.tw12331051067403766639 : True := trivial
theorem hd.tw12337632362937886050 : True := trivial
theorem hd.tw12350410155528471161 : True := trivial
theorem hd.tw12353913968525425643 : True := trivial
theorem hd.tw12364972598781006883 : True := trivial
theorem hd.tw12393119488966705847 : True := trivial
theorem hd.tw12394076208661396346 : True := trivial
theorem hd.tw12399718760709695909 : True := trivial
theorem hd.tw1241404454085649124 : True := trivial
theorem hd.tw12453114486196615683 : True := trivial
theorem hd.tw12459740579856956213 : True := trivial
theorem hd.tw12468615324687160756 : True := trivial
theorem hd.tw1247026723315081023 : True := trivial
theorem hd.tw12487502673411948298 : True := trivial
theorem hd.tw12487542160262675636 : True := trivial
theorem hd.tw12509009523430927325 : True := trivial
theorem hd.tw12521463284412890351 : True := trivial
theorem hd.tw12561155100871721849 : True := trivial
theorem hd.tw1256466517863071783 : True := trivial
theorem hd.tw12565835363266740329 : True := trivial
theorem hd.tw12575139184659369484 : True := trivial
theorem hd.tw12579596248316191183 : True := trivial
theorem hd.tw12588582704262371052 : True := trivial
theorem hd.tw12590977762386282803 : True := trivial
theorem hd.tw12591134339009171964 : True := trivial
theorem hd.tw12611767792052310623 : True := trivial
theorem hd.tw12614811148066621264 : True := trivial
theorem hd.tw12629531694177875297 : True := trivial
theorem hd.tw12629568148972539762 : True := trivial
theorem hd.tw12642813592246648485 : True := trivial
theorem hd.tw12647368939536790636 : True := trivial
theorem hd.tw12659318050587179527 : True := trivial
theorem hd.tw12669576375859063689 : True := trivial
theorem hd.tw12676414471582705871 : True := trivial
theorem hd.tw12685813987229840507 : True := trivial
theorem hd.tw12704988097186499811 : True := trivial
theorem hd.tw12727495553239364174 : True := trivial
theorem hd.tw12744807935193187038 : True := trivial
theorem hd.tw12769127236821124696 : True := trivial
theorem hd.tw12778418089203562962 : True := trivial
theorem hd.tw12832683148521936107 : True := trivial
theorem hd.tw128412058910260475 : True := trivial
theorem hd.tw12861998865439983172 : True := trivial
theorem hd.tw12870888531099404533 : True := trivial
theorem hd.tw12872897951434832890 : True := trivial
theorem hd.tw12900700647772717614 : True := trivial
theorem hd.tw12901994302517312135 : True := trivial
theorem hd.tw12936449754285732098 : True := trivial
theorem hd.tw12940713784782232206 : True := trivial
theorem hd.tw12949589719889679912 : True := trivial
theorem hd.tw12952509933414984302 : True := trivial
theorem hd.tw12970310613348327589 : True := trivial
theorem hd.tw12976186185376257304 : True := trivial
theorem hd.tw1299046323782801668 : True := trivial
theorem hd.tw12995909851351757392 : True := trivial
theorem hd.tw13001811119718631651 : True := trivial
theorem hd.tw13047593935725612058 : True := trivial
theorem hd.tw13051953538815563581 : True := trivial
theorem hd.tw13066319289922817542 : True := trivial
theorem hd.tw13092906067662860646 : True := trivial
theorem hd.tw13096558090100123544 : True := trivial
theorem hd.tw13122850982685727845 : True := trivial
theorem hd.tw13132618709999183898 : True := trivial
theorem hd.tw13160604113216922460 : True := trivial
theorem hd.tw13164601040044201813 : True := trivial
theorem hd.tw13172843250190940813 : True := trivial
theorem hd.tw13181700845877081190 : True := trivial
theorem hd.tw13217225542625558698 : True := trivial
theorem hd.tw13217827037086042188 : True := trivial
theorem hd.tw13218659294841961345 : True := trivial
theorem hd.tw13255428261173160881 : True := trivial
theorem hd.tw13262116225945230012 : True := trivial
theorem hd.tw13263762954130075895 : True := trivial
theorem hd.tw13267510147771200024 : True := trivial
theorem hd.tw13277076834127875243 : True := trivial
theorem hd.tw13280443560766958183 : True := trivial
theorem hd.tw13285133528070534704 : True := trivial
theorem hd.tw1331086792558400476 : True := trivial
theorem hd.tw1331487369976884630 : True := trivial
theorem hd.tw13315533130655954831 : True := trivial
theorem hd.tw13321331477185743149 : True := trivial
theorem hd.tw13322179722446271537 : True := trivial
theorem hd.tw13347369733751428629 : True := trivial
theorem hd.tw1335065189686863947 : True := trivial
theorem hd.tw13363553139645760527 : True := trivial
theorem hd.tw13365295217650922812 : True := trivial
theorem hd.tw13368278939475635651 : True := trivial
theorem hd.tw13372043803930879067 : True := trivial
theorem hd.tw13409441903868389331 : True := trivial
theorem hd.tw13431754692932380062 : True := trivial
theorem hd.tw13446603889893058090 : True := trivial
theorem hd.tw13463106324228987060 : True := trivial
theorem hd.tw13466754112058979494 : True := trivial
theorem hd.tw13468300074154594103 : True := trivial
theorem hd.tw13474097485772985973 : True := trivial
theorem hd.tw13475242022060392486 : True := trivial
theorem hd.tw13478424178397462001 : True := trivial
theorem hd.tw13483081372092288885 : True := trivial
theorem hd.tw13518370688599389936 : True := trivial
theorem hd.tw13531707123254989501 : True := trivial
theorem hd.tw13532847315355080253 : True := trivial
theorem hd.tw13534587687697041467 : True := trivial
theorem hd.tw13562760996464443880 : True := trivial
theorem hd.tw13566260322249332789 : True := trivial
theorem hd.tw13574768056931433239 : True := trivial
theorem hd.tw1359830224848277088 : True := trivial
theorem hd.tw13606922415975196911 : True := trivial
theorem hd.tw13609717118414637909 : True := trivial
theorem hd.tw13624431586668435662 : True := trivial
theorem hd.tw1362751533348561449 : True := trivial
theorem hd.tw13628142620392400109 : True := trivial
theorem hd.tw13642289790063256904 : True := trivial
theorem hd.tw13671756088133313087 : True := trivial
theorem hd.tw13699044414388791291 : True := trivial
theorem hd.tw13770079208771991547 : True := trivial
theorem hd.tw137786328141462057 : True := trivial
theorem hd.tw13783031573616600631 : True := trivial
theorem hd.tw13790719812936386609 : True := trivial
theorem hd.tw1379335367625716243 : True := trivial
theorem hd.tw13828106393651249627 : True := trivial
theorem hd.tw13855946660403688772 : True := trivial
theorem hd.tw13866372431405929976 : True := trivial
theorem hd.tw13893168526513508166 : True := trivial
theorem hd.tw13903934854276604550 : True := trivial
theorem hd.tw13919464512627920130 : True := trivial
theorem hd.tw13929354066492186541 : True := trivial
theorem hd.tw13937860266046166849 : True := trivial
theorem hd.tw13944508082162953488 : True := trivial
theorem hd.tw14006173549557618073 : True := trivial
theorem hd.tw14029546391885035639 : True := trivial
theorem hd.tw14031261019411111474 : True := trivial
theorem hd.tw14040608126747316905 : True := trivial
theorem hd.tw14060154772996877548 : True := trivial
theorem hd.tw14060237666301923597 : True := trivial
theorem hd.tw14078009766183191694 : True := trivial
theorem hd.tw1409312971732116557 : True := trivial
theorem hd.tw14103535550066685397 : True := trivial
theorem hd.tw14106227501169856981 : True := trivial
theorem hd.tw14120982254508448379 : True := trivial
theorem hd.tw14137390275340422267 : True := trivial
theorem hd.tw14143348200573808938 : True := trivial
theorem hd.tw14151535006965253332 : True := trivial
theorem hd.tw14156059917595718386 : True := trivial
theorem hd.tw14176624398918483544 : True := trivial
theorem hd.tw14205177575709318024 : True := trivial
theorem hd.tw1425423193147277237 : True := trivial
theorem hd.tw14294001040229213422 : True := trivial
theorem hd.tw14353793391729792155 : True := trivial
theorem hd.tw1439246655266547700 : True := trivial
theorem hd.tw14400467628812073631 : True := trivial
theorem hd.tw14438451200097066615 : True := trivial
theorem hd.tw14444963742821833902 : True := trivial
theorem hd.tw1445366717492459972 : True := trivial
theorem hd.tw14454528878903484812 : True := trivial
theorem hd.tw14457593812595234344 : True := trivial
theorem hd.tw14462709497994964445 : True := trivial
theorem hd.tw14478148883734587675 : True := trivial
theorem hd.tw1448358952932078338 : True := trivial
theorem hd.tw14492701947808656938 : True := trivial
theorem hd.tw1452849714261714991 : True := trivial
theorem hd.tw14560493823538711346 : True := trivial
theorem hd.tw14567429538950270057 : True := trivial
theorem hd.tw14586822029978311858 : True := trivial
theorem hd.tw14612060388864693735 : True := trivial
theorem hd.tw14620637471214046174 : True := trivial
theorem hd.tw14667805832236412624 : True := trivial
theorem hd.tw14673209030070457562 : True := trivial
theorem hd.tw14683707025165767436 : True := trivial
theorem hd.tw14685462170515437407 : True := trivial
theorem hd.tw14705683404202351889 : True := trivial
theorem hd.tw14706022693812145444 : True := trivial
theorem hd.tw14743440263598761229 : True := trivial
theorem hd.tw14745743045033390146 : True := trivial
theorem hd.tw14768889098011018680 : True := trivial
theorem hd.tw14772383043592177042 : True := trivial
theorem hd.tw14776966858535155947 : True := trivial
theorem hd.tw14817486215969520457 : True := trivial
theorem hd.tw14852329139284432860 : True := trivial
theorem hd.tw14892549342360969540 : True := trivial
theorem hd.tw14896477498954680388 : True := trivial
theorem hd.tw14906377314874228009 : True := trivial
theorem hd.tw14914937398881237230 : True := trivial
theorem hd.tw14955159897011116063 : True := trivial
theorem hd.tw14969688514271112891 : True := trivial
theorem hd.tw14980023328507725902 : True := trivial
theorem hd.tw14984183105004643987 : True := trivial
theorem hd.tw15033227074091944939 : True := trivial
theorem hd.tw15042006015671813226 : True := trivial
theorem hd.tw15043168886218598503 : True := trivial
theorem hd.tw15054049728407801353 : True := trivial
theorem hd.tw1506431575118746342 : True := trivial
theorem hd.tw15064902949301533346 : True := trivial
theorem hd.tw15074197538484233485 : True := trivial
theorem hd.tw15083628210047938546 : True := trivial
theorem hd.tw15089522573102190283 : True := trivial
theorem hd.tw15103106377680225435 : True := trivial
theorem hd.tw1511243299971373483 : True := trivial
theorem hd.tw15152743547302097792 : True := trivial
theorem hd.tw15166520500009309586 : True := trivial
theorem hd.tw15179676742415161110 : True := trivial
theorem hd.tw15199589371867527261 : True := trivial
theorem hd.tw15207398651663016943 : True := trivial
theorem hd.tw15213948185873263833 : True := trivial
theorem hd.tw15220180469806662145 : True := trivial
theorem hd.tw15228807520496212463 : True := trivial
theorem hd.tw15277330632498426303 : True := trivial
theorem hd.tw15278966056882409248 : True := trivial
theorem hd.tw15279998641719260112 : True := trivial
theorem hd.tw15337868472472888810 : True := trivial
theorem hd.tw15344866539931968096 : True := trivial
theorem hd.tw1535757262459896012 : True := trivial
theorem hd.tw15367242080415987702 : True := trivial
theorem hd.tw15368132723985388332 : True := trivial
theorem hd.tw15378359858306647822 : True := trivial
theorem hd.tw15411387601460861337 : True := trivial
theorem hd.tw15416985209724490359 : True := trivial
theorem hd.tw15422856539912107476 : True := trivial
theorem hd.tw15424705756172794927 : True := trivial
theorem hd.tw15427206886491885616 : True := trivial
theorem hd.tw15463257786427224491 : True := trivial
theorem hd.tw155142512498542641 : True := trivial
theorem hd.tw15527848837575444561 : True := trivial
theorem hd.tw1557243174674812401 : True := trivial
theorem hd.tw15578025631644234493 : True := trivial
theorem hd.tw15591429051563716170 : True := trivial
theorem hd.tw15595854959937240912 : True := trivial
theorem hd.tw15615537253650120727 : True := trivial
theorem hd.tw15618049606547972131 : True := trivial
theorem hd.tw15630680890609703042 : True := trivial
theorem hd.tw15634565183472343292 : True := trivial
theorem hd.tw1563692795949630186 : True := trivial
theorem hd.tw15637593595834871717 : True := trivial
theorem hd.tw15642763164714097627 : True := trivial
theorem hd.tw15643275761693703936 : True := trivial
theorem hd.tw15664294781933534167 : True := trivial
theorem hd.tw15673258824015622330 : True := trivial
theorem hd.tw15675198926951892251 : True := trivial
theorem hd.tw15677629932584476913 : True := trivial
theorem hd.tw15683763237869141255 : True := trivial
theorem hd.tw15687388767607454252 : True := trivial
theorem hd.tw15697423400787487869 : True := trivial
theorem hd.tw15759970867653108152 : True := trivial
theorem hd.tw15790720579355451973 : True := trivial
theorem hd.tw1580110805410547442 : True := trivial
theorem hd.tw15813434630575017362 : True := trivial
theorem hd.tw1582976572388173787 : True := trivial
theorem hd.tw15852365999677673905 : True := trivial
theorem hd.tw15856727013471470956 : True := trivial
theorem hd.tw1588505670450824345 : True := trivial
theorem hd.tw15889433306838628275 : True := trivial
theorem hd.tw1589133516308662214 : True := trivial
theorem hd.tw15910714762333108613 : True := trivial
theorem hd.tw15923250282426842828 : True := trivial
theorem hd.tw15924899543223041283 : True := trivial
theorem hd.tw15931116738044738221 : True := trivial
theorem hd.tw15946356160694317329 : True := trivial
theorem hd.tw15948780112781908787 : True := trivial
theorem hd.tw15987713032478767096 : True := trivial
theorem hd.tw15992342658441690333 : True := trivial
theorem hd.tw1600037746751723098 : True := trivial
theorem hd.tw16006246977917349235 : True := trivial
theorem hd.tw16007149819294483003 : True := trivial
theorem hd.tw16009884308244765898 : True := trivial
theorem hd.tw16029623286316568529 : True := trivial
theorem hd.tw1603739661141634737 : True := trivial
theorem hd.tw16037735763661986305 : True := trivial
theorem hd.tw16052320808349706082 : True := trivial
theorem hd.tw16056359734778111409 : True := trivial
theorem hd.tw16064382804478563927 : True := trivial
theorem hd.tw16091413853298234908 : True := trivial
theorem hd.tw1610171440888473627 : True := trivial
theorem hd.tw16154546982801380032 : True := trivial
theorem hd.tw16156708551869547534 : True := trivial
theorem hd.tw16157073509204512506 : True := trivial
theorem hd.tw16158619036321959407 : True := trivial
theorem hd.tw16169374299450900766 : True := trivial
theorem hd.tw16171809288044610508 : True := trivial
theorem hd.tw16178712458983371728 : True := trivial
theorem hd.tw16194383521188589630 : True := trivial
theorem hd.tw16211521421427940678 : True := trivial
theorem hd.tw16227762859984022837 : True := trivial
theorem hd.tw16240987189780228909 : True := trivial
theorem hd.tw16246848685605474055 : True := trivial
theorem hd.tw16257038226119295666 : True := trivial
theorem hd.tw162610821266807592 : True := trivial
theorem hd.tw16299908979028503884 : True := trivial
theorem hd.tw16301592386811335294 : True := trivial
theorem hd.tw16302227732802510677 : True := trivial
theorem hd.tw16332348944364537037 : True := trivial
theorem hd.tw16332618649321777385 : True := trivial
theorem hd.tw16345102440705955213 : True := trivial
theorem hd.tw16357263729072622229 : True := trivial
theorem hd.tw16376525773666504680 : True := trivial
theorem hd.tw16412773359747925120 : True := trivial
theorem hd.tw16414904818172857274 : True := trivial
theorem hd.tw16415028865518655546 : True := trivial
theorem hd.tw1643121930917553208 : True := trivial
theorem hd.tw16432713993328977331 : True := trivial
theorem hd.tw16443024508289211202 : True := trivial
theorem hd.tw16456969618363192440 : True := trivial
theorem hd.tw16464424236575238572 : True := trivial
theorem hd.tw16473244170626142550 : True := trivial
theorem hd.tw16477043939570097188 : True := trivial
theorem hd.tw16487816990975572028 : True := trivial
theorem hd.tw16502264421070913907 : True := trivial
theorem hd.tw16587392273704687506 : True := trivial
theorem hd.tw16634568088961857937 : True := trivial
theorem hd.tw16635604280276938560 : True := trivial
theorem hd.tw16639802674150441104 : True := trivial
theorem hd.tw16640546478005224243 : True := trivial
theorem hd.tw16641143254114907239 : True := trivial
theorem hd.tw16661405048812198066 : True := trivial
theorem hd.tw16684818696116721337 : True := trivial
theorem hd.tw16692772259055178886 : True := trivial
theorem hd.tw16694946328126371552 : True := trivial
theorem hd.tw16713699803418581334 : True := trivial
theorem hd.tw16742648372681657963 : True := trivial
theorem hd.tw16744898341101239380 : True := trivial
theorem hd.tw16759147789766475008 : True := trivial
theorem hd.tw16794629799341752650 : True := trivial
theorem hd.tw16823583209533085739 : True := trivial
theorem hd.tw16853341256802265648 : True := trivial
theorem hd.tw16858285156579221889 : True := trivial
theorem hd.tw16868993833207775613 : True := trivial
theorem hd.tw16896567674234606475 : True := trivial
theorem hd.tw16901702188551787459 : True := trivial
theorem hd.tw16904818350239718627 : True := trivial
theorem hd.tw16919406825032445293 : True := trivial
theorem hd.tw16920754564084929960 : True := trivial
theorem hd.tw16945582573551092051 : True := trivial
theorem hd.tw16957190012819468567 : True := trivial
theorem hd.tw1699103778626983548 : True := trivial
theorem hd.tw17001982702790524580 : True := trivial
theorem hd.tw17034541987677670899 : True := trivial
theorem hd.tw17038178572684014812 : True := trivial
theorem hd.tw17047115858639842297 : True := trivial
theorem hd.tw17054507655720011243 : True := trivial
theorem hd.tw17062030032774818151 : True := trivial
theorem hd.tw17066044127408595049 : True := trivial
theorem hd.tw17070941380808615275 : True := trivial
theorem hd.tw17076082267592564974 : True := trivial
theorem hd.tw17087091549796120035 : True := trivial
theorem hd.tw17088047866570459193 : True := trivial
theorem hd.tw1712922718373300912 : True := trivial
theorem hd.tw17130151131035750659 : True := trivial
theorem hd.tw17143205804819765802 : True := trivial
theorem hd.tw17143746779515762356 : True := trivial
theorem hd.tw17172931820748874959 : True := trivial
theorem hd.tw17213754286329925777 : True := trivial
theorem hd.tw17217394356764393341 : True := trivial
theorem hd.tw17232729238497989147 : True := trivial
theorem hd.tw17252143746492648416 : True := trivial
theorem hd.tw17258206423299326598 : True := trivial
theorem hd.tw17273587926920868623 : True := trivial
theorem hd.tw17278324374586462682 : True := trivial
theorem hd.tw1728934660973012959 : True := trivial
theorem hd.tw17311223219408574766 : True := trivial
theorem hd.tw17312999752573914782 : True := trivial
theorem hd.tw17325209927041812611 : True := trivial
theorem hd.tw17329599107839862731 : True := trivial
theorem hd.tw17330132731328240911 : True := trivial
theorem hd.tw17335414052712997756 : True := trivial
theorem hd.tw17336936450418997793 : True := trivial
theorem hd.tw17347436560843906493 : True := trivial
theorem hd.tw1736311965527578767 : True := trivial
theorem hd.tw17377529257436501650 : True := trivial
theorem hd.tw17429513623812275283 : True := trivial
theorem hd.tw1744074299117110578 : True := trivial
theorem hd.tw17447410573909459338 : True := trivial
theorem hd.tw17454471701868102899 : True := trivial
theorem hd.tw17470177872615007328 : True := trivial
theorem hd.tw17471934795394947791 : True := trivial
theorem hd.tw17491280204586788870 : True := trivial
theorem hd.tw17491317419825422843 : True := trivial
theorem hd.tw17495340751864218003 : True := trivial
theorem hd.tw17542962492245011380 : True := trivial
theorem hd.tw17562767543260142214 : True := trivial
theorem hd.tw17570734847185409352 : True := trivial
theorem hd.tw17574625026820762457 : True := trivial
theorem hd.tw17577478241444706838 : True := trivial
theorem hd.tw17583924267553061668 : True := trivial
theorem hd.tw17588044629489971554 : True := trivial
theorem hd.tw17599816209265215132 : True := trivial
theorem hd.tw17603233766372892316 : True := trivial
theorem hd.tw1760603350576429475 : True := trivial
theorem hd.tw17606422857730326317 : True := trivial
theorem hd.tw17628472586750557451 : True := trivial
theorem hd.tw17640862679970642326 : True := trivial
theorem hd.tw17649441919526076750 : True := trivial
theorem hd.tw17650839729002327288 : True := trivial
theorem hd.tw17655025648336401564 : True := trivial
theorem hd.tw17668637344460488510 : True := trivial
theorem hd.tw17673860158736603733 : True := trivial
theorem hd.tw17679848547673146604 : True := trivial
theorem hd.tw17681399029576232318 : True := trivial
theorem hd.tw17696971302532935780 : True := trivial
theorem hd.tw17711083657039698284 : True := trivial
theorem hd.tw17714235663813219645 : True := trivial
theorem hd.tw17737187407176874954 : True := trivial
theorem hd.tw17772917993097084435 : True := trivial
theorem hd.tw1781861727890032366 : True := trivial
theorem hd.tw17843490464661113860 : True := trivial
theorem hd.tw17876089906941426215 : True := trivial
theorem hd.tw17893044597097874663 : True := trivial
theorem hd.tw17895171251205151618 : True := trivial
theorem hd.tw17901334829092211166 : True := trivial
theorem hd.tw17901807376057305687 : True := trivial
theorem hd.tw17903497710992402801 : True := trivial
theorem hd.tw17919194246423945575 : True := trivial
theorem hd.tw17925215291927510665 : True := trivial
theorem hd.tw1792636949448641307 : True := trivial
theorem hd.tw17948085552500728524 : True := trivial
theorem hd.tw17950676927832955104 : True := trivial
theorem hd.tw17956543221229664512 : True := trivial
theorem hd.tw17975533764899295144 : True := trivial
theorem hd.tw17989097746536338734 : True := trivial
theorem hd.tw17992873397187703194 : True := trivial
theorem hd.tw17994825080979385314 : True := trivial
theorem hd.tw18087722134493236510 : True := trivial
theorem hd.tw18093812233618175256 : True := trivial
theorem hd.tw1809687716253123402 : True := trivial
theorem hd.tw1810128313956251070 : True := trivial
theorem hd.tw18103342009636024947 : True := trivial
theorem hd.tw18103420901670897651 : True := trivial
theorem hd.tw18131696352309475102 : True := trivial
theorem hd.tw18152756486534528934 : True := trivial
theorem hd.tw18160293313031310949 : True := trivial
theorem hd.tw18166333605607142505 : True := trivial
theorem hd.tw18176940659606848779 : True := trivial
theorem hd.tw18185175575083235020 : True := trivial
theorem hd.tw1820180628909398317 : True := trivial
theorem hd.tw18219297243305740317 : True := trivial
theorem hd.tw18233516762306594366 : True := trivial
theorem hd.tw18235018827726667335 : True := trivial
theorem hd.tw18241275227582772068 : True := trivial
theorem hd.tw18245042118932799458 : True := trivial
theorem hd.tw18264374347568628810 : True := trivial
theorem hd.tw18291419657060728153 : True := trivial
theorem hd.tw18293732401869909652 : True := trivial
theorem hd.tw18293851220164018083 : True := trivial
theorem hd.tw18300207936620678264 : True := trivial
theorem hd.tw18321552122766947510 : True := trivial
theorem hd.tw18322514126500204803 : True := trivial
theorem hd.tw18343703819029505601 : True := trivial
theorem hd.tw18358800413957953924 : True := trivial
theorem hd.tw1836080755315867724 : True := trivial
theorem hd.tw18368451091360184599 : True := trivial
theorem hd.tw18370931923303237609 : True := trivial
theorem hd.tw18406568778348887127 : True := trivial
theorem hd.tw18421049791903953903 : True := trivial
theorem hd.tw18439511094173506614 : True := trivial
theorem hd.tw1847840615245081061 : True := trivial
theorem hd.tw185848376630758926 : True := trivial
theorem hd.tw1870067075039425230 : True := trivial
theorem hd.tw1882180444382439491 : True := trivial
theorem hd.tw189712035060473897 : True := trivial
theorem hd.tw190519026028168232 : True := trivial
theorem hd.tw1939978651307754801 : True := trivial
theorem hd.tw1954109241102656831 : True := trivial
theorem hd.tw1976262728313527643 : True := trivial
theorem hd.tw1997569388931296116 : True := trivial
theorem hd.tw2001351230973187099 : True := trivial
theorem hd.tw2004659784336800654 : True := trivial
theorem hd.tw2040990291671593033 : True := trivial
theorem hd.tw2042292140826266357 : True := trivial
theorem hd.tw2051048951616859547 : True := trivial
theorem hd.tw2068664650715991707 : True := trivial
theorem hd.tw2101469004524951375 : True := trivial
theorem hd.tw2114630138375439770 : True := trivial
theorem hd.tw212345690472687942 : True := trivial
theorem hd.tw2139204274930982770 : True := trivial
theorem hd.tw2167537188350426706 : True := trivial
theorem hd.tw2195365466389143174 : True := trivial
theorem hd.tw2216850387143573719 : True := trivial
theorem hd.tw2219565719715255378 : True := trivial
theorem hd.tw2263123870574935043 : True := trivial
theorem hd.tw2274498078352570744 : True := trivial
theorem hd.tw2284436838669742495 : True := trivial
theorem hd.tw2295870552580634182 : True := trivial
theorem hd.tw2304311442786299043 : True := trivial
theorem hd.tw2315301623876862497 : True := trivial
theorem hd.tw2315468765258864358 : True := trivial
theorem hd.tw2323474266016966308 : True := trivial
theorem hd.tw2327210489368252092 : True := trivial
theorem hd.tw2336748640663733628 : True := trivial
theorem hd.tw2371736936440567457 : True := trivial
theorem hd.tw2386827423013361158 : True := trivial
theorem hd.tw242841246431481386 : True := trivial
theorem hd.tw243823211424636713 : True := trivial
theorem hd.tw2442259710966052079 : True := trivial
theorem hd.tw2448417245163862455 : True := trivial
theorem hd.tw2450686747263038406 : True := trivial
theorem hd.tw2468469042602058204 : True := trivial
theorem hd.tw2480057099694739299 : True := trivial
theorem hd.tw2489000522355961661 : True := trivial
theorem hd.tw2562236817408797766 : True := trivial
theorem hd.tw257007361410690125 : True := trivial
theorem hd.tw2578790182627478330 : True := trivial
theorem hd.tw2595994805191909183 : True := trivial
theorem hd.tw2598446214317162929 : True := trivial
theorem hd.tw2603259988358896889 : True := trivial
theorem hd.tw2616952524820836436 : True := trivial
theorem hd.tw262745018181394680 : True := trivial
theorem hd.tw26425463804135960 : True := trivial
theorem hd.tw2658526732547218105 : True := trivial
theorem hd.tw2708950531961675432 : True := trivial
theorem hd.tw2729298822523640997 : True := trivial
theorem hd.tw2739504486584576224 : True := trivial
theorem hd.tw2753522396810778084 : True := trivial
theorem hd.tw2781682124601125471 : True := trivial
theorem hd.tw2788664435532181463 : True := trivial
theorem hd.tw2799067240506288376 : True := trivial
theorem hd.tw280609765759037681 : True := trivial
theorem hd.tw2815220025927836654 : True := trivial
theorem hd.tw2839761810297210574 : True := trivial
theorem hd.tw2845207389951388047 : True := trivial
theorem hd.tw2845679848157327705 : True := trivial
theorem hd.tw2855845756224970109 : True := trivial
theorem hd.tw2857934150171401120 : True := trivial
theorem hd.tw2867327485932766208 : True := trivial
theorem hd.tw2887051446865420828 : True := trivial
theorem hd.tw2900905267640511130 : True := trivial
theorem hd.tw2922222751358710265 : True := trivial
theorem hd.tw2930668341846507884 : True := trivial
theorem hd.tw2951005344575393816 : True := trivial
theorem hd.tw2999033326186475339 : True := trivial
theorem hd.tw3008623586974134963 : True := trivial
theorem hd.tw307737655149646647 : True := trivial
theorem hd.tw3085183777334472315 : True := trivial
theorem hd.tw3088336149111003398 : True := trivial
theorem hd.tw3109861748172591687 : True := trivial
theorem hd.tw313027258313007627 : True := trivial
theorem hd.tw3132252637357597028 : True := trivial
theorem hd.tw3173010612589774626 : True := trivial
theorem hd.tw3215350286424857435 : True := trivial
theorem hd.tw3219085151875037572 : True := trivial
theorem hd.tw3229955645248102723 : True := trivial
theorem hd.tw3241458686731973266 : True := trivial
theorem hd.tw3259873300814134281 : True := trivial
theorem hd.tw3309697970292668127 : True := trivial
theorem hd.tw3312855554403267510 : True := trivial
theorem hd.tw3350844169311001129 : True := trivial
theorem hd.tw3350930974749635488 : True := trivial
theorem hd.tw3364418463632694928 : True := trivial
theorem hd.tw3381375190539634487 : True := trivial
theorem hd.tw3386092968808520798 : True := trivial
theorem hd.tw3429492842335990350 : True := trivial
theorem hd.tw3434918251397683217 : True := trivial
theorem hd.tw3442329435671937591 : True := trivial
theorem hd.tw3451239065008710300 : True := trivial
theorem hd.tw3452082135128663414 : True := trivial
theorem hd.tw3452591251010201329 : True := trivial
theorem hd.tw3480954088277226078 : True := trivial
theorem hd.tw3484992998616243462 : True := trivial
theorem hd.tw3493717111155160527 : True := trivial
theorem hd.tw3496965988886986938 : True := trivial
theorem hd.tw3513125359445811510 : True := trivial
theorem hd.tw3530705653197291679 : True := trivial
theorem hd.tw3533295568840377906 : True := trivial
theorem hd.tw3536873572635521401 : True := trivial
theorem hd.tw3571134770919094901 : True := trivial
theorem hd.tw3608708970678896270 : True := trivial
theorem hd.tw3646829019195819677 : True := trivial
theorem hd.tw3649758429140192277 : True := trivial
theorem hd.tw3660579746685279459 : True := trivial
theorem hd.tw368366308016060594 : True := trivial
theorem hd.tw3694398316872202419 : True := trivial
theorem hd.tw3704167492566942397 : True := trivial
theorem hd.tw37099724090138251 : True := trivial
theorem hd.tw3722166409189360004 : True := trivial
theorem hd.tw3759623122121258479 : True := trivial
theorem hd.tw3763122126050802206 : True := trivial
theorem hd.tw3787991596828424046 : True := trivial
theorem hd.tw3789350110615891812 : True := trivial
theorem hd.tw3795277891434052102 : True := trivial
theorem hd.tw3816877163431070358 : True := trivial
theorem hd.tw3828038474966422129 : True := trivial
theorem hd.tw3876449026389394717 : True := trivial
theorem hd.tw3878383114103592795 : True := trivial
theorem hd.tw3887682987991473952 : True := trivial
theorem hd.tw3890083515106143593 : True := trivial
theorem hd.tw3915529967508079626 : True := trivial
theorem hd.tw3919010098100093602 : True := trivial
theorem hd.tw3920623390966001496 : True := trivial
theorem hd.tw3922637787740509324 : True := trivial
theorem hd.tw3940546777539579641 : True := trivial
theorem hd.tw3941438180925939637 : True := trivial
theorem hd.tw395138700845864316 : True := trivial
theorem hd.tw3953601041324332601 : True := trivial
theorem hd.tw4014540891139286612 : True := trivial
theorem hd.tw4021928978595405253 : True := trivial
theorem hd.tw402640490398009360 : True := trivial
theorem hd.tw4038349939454822343 : True := trivial
theorem hd.tw4068527845204499245 : True := trivial
theorem hd.tw4074112789689628901 : True := trivial
theorem hd.tw4086058157674990017 : True := trivial
theorem hd.tw4111692666942324129 : True := trivial
theorem hd.tw4126306136578151734 : True := trivial
theorem hd.tw4136554803537287180 : True := trivial
theorem hd.tw4138081844389336918 : True := trivial
theorem hd.tw4159134105002834734 : True := trivial
theorem hd.tw4181196891559700729 : True := trivial
theorem hd.tw4210835263042620578 : True := trivial
theorem hd.tw4218252797249083135 : True := trivial
theorem hd.tw4225703048834024713 : True := trivial
theorem hd.tw4282304852377368616 : True := trivial
theorem hd.tw4282359134580295075 : True := trivial
theorem hd.tw4292457097857839397 : True := trivial
theorem hd.tw4297731678662094536 : True := trivial
theorem hd.tw4299596416071116603 : True := trivial
theorem hd.tw4310969922304039945 : True := trivial
theorem hd.tw4315991029959535628 : True := trivial
theorem hd.tw432457690288141553 : True := trivial
theorem hd.tw4355604671862981090 : True := trivial
theorem hd.tw4360684699965382250 : True := trivial
theorem hd.tw4363365295628954845 : True := trivial
theorem hd.tw4367231431732253908 : True := trivial
theorem hd.tw4367455430839740993 : True := trivial
theorem hd.tw4377701919642642989 : True := trivial
theorem hd.tw4383666589626881386 : True := trivial
theorem hd.tw4402725079659364252 : True := trivial
theorem hd.tw4424954536736003961 : True := trivial
theorem hd.tw442638132926106271 : True := trivial
theorem hd.tw4432475053497693458 : True := trivial
theorem hd.tw4449123307109862055 : True := trivial
theorem hd.tw4478166936697009375 : True := trivial
theorem hd.tw4494801613693538912 : True := trivial
theorem hd.tw4521580383011477154 : True := trivial
theorem hd.tw4523669819894539328 : True := trivial
theorem hd.tw4527685146903026889 : True := trivial
theorem hd.tw4581847759332874082 : True := trivial
theorem hd.tw461538923250603899 : True := trivial
theorem hd.tw4642405928176397000 : True := trivial
theorem hd.tw464777395874653626 : True := trivial
theorem hd.tw4654797750381630734 : True := trivial
theorem hd.tw469108185253701220 : True := trivial
theorem hd.tw4702841417184801058 : True := trivial
theorem hd.tw4706079058837389440 : True := trivial
theorem hd.tw4730091804998409952 : True := trivial
theorem hd.tw4734902545126651661 : True := trivial
theorem hd.tw4735155535324382492 : True := trivial
theorem hd.tw4768578896829404305 : True := trivial
theorem hd.tw4817003022231809500 : True := trivial
theorem hd.tw4819202231147424091 : True := trivial
theorem hd.tw4851647983119433812 : True := trivial
theorem hd.tw4856431653887292112 : True := trivial
theorem hd.tw4867443594122359892 : True := trivial
theorem hd.tw4870687313549177768 : True := trivial
theorem hd.tw4878824753759274627 : True := trivial
theorem hd.tw4911208490791434751 : True := trivial
theorem hd.tw4916360252006170105 : True := trivial
theorem hd.tw4971549296188076032 : True := trivial
theorem hd.tw4975429006339234634 : True := trivial
theorem hd.tw4993660671451451078 : True := trivial
theorem hd.tw500953250457666378 : True := trivial
theorem hd.tw5010264101278932077 : True := trivial
theorem hd.tw5036846961687405229 : True := trivial
theorem hd.tw503842035214351869 : True := trivial
theorem hd.tw5054737718236178183 : True := trivial
theorem hd.tw511748877826530558 : True := trivial
theorem hd.tw5118731587858937692 : True := trivial
theorem hd.tw5130813555471234732 : True := trivial
theorem hd.tw5135410709514514960 : True := trivial
theorem hd.tw5138769234217329475 : True := trivial
theorem hd.tw5148922909946612681 : True := trivial
theorem hd.tw5167245352685981253 : True := trivial
theorem hd.tw5174551420813472067 : True := trivial
theorem hd.tw518976864732996251 : True := trivial
theorem hd.tw5189956158058943387 : True := trivial
theorem hd.tw5190246844813560578 : True := trivial
theorem hd.tw519851828213033955 : True := trivial
theorem hd.tw5220083430330967483 : True := trivial
theorem hd.tw5238241317806426387 : True := trivial
theorem hd.tw5245234834050458271 : True := trivial
theorem hd.tw5247051413645994129 : True := trivial
theorem hd.tw526207354791536317 : True := trivial
theorem hd.tw5278057926702712004 : True := trivial
theorem hd.tw5282504435634884242 : True := trivial
theorem hd.tw5283464899586487735 : True := trivial
theorem hd.tw5289708365253275695 : True := trivial
theorem hd.tw5292301768408028288 : True := trivial
theorem hd.tw5293500477943481205 : True := trivial
theorem hd.tw5318216170032084099 : True := trivial
theorem hd.tw5322579261384874668 : True := trivial
theorem hd.tw5362516397382645915 : True := trivial
theorem hd.tw5363564295841288755 : True := trivial
theorem hd.tw5366084841770067474 : True := trivial
theorem hd.tw5373601922739893978 : True := trivial
theorem hd.tw541196102884509978 : True := trivial
theorem hd.tw5416991563250132298 : True := trivial
theorem hd.tw5433107678231618845 : True := trivial
theorem hd.tw5480042469492414594 : True := trivial
theorem hd.tw5486487638281291605 : True := trivial
theorem hd.tw5490696432328200686 : True := trivial
theorem hd.tw5505005885091257285 : True := trivial
theorem hd.tw5505332120971382143 : True := trivial
theorem hd.tw5511420028821071320 : True := trivial
theorem hd.tw5513025101015932971 : True := trivial
theorem hd.tw5535567543195554156 : True := trivial
theorem hd.tw5549315172176941698 : True := trivial
theorem hd.tw5562173858411828344 : True := trivial
theorem hd.tw5574845727924001799 : True := trivial
theorem hd.tw5592360268479517082 : True := trivial
theorem hd.tw5605480435847508373 : True := trivial
theorem hd.tw5608270528595127837 : True := trivial
theorem hd.tw561391293025646643 : True := trivial
theorem hd.tw5629675986466331604 : True := trivial
theorem hd.tw5635641802508607975 : True := trivial
theorem hd.tw5643178794243155062 : True := trivial
theorem hd.tw5657824000916062451 : True := trivial
theorem hd.tw5667655126489319660 : True := trivial
theorem hd.tw567884609423149705 : True := trivial
theorem hd.tw5715734110848049390 : True := trivial
theorem hd.tw5732804406350252772 : True := trivial
theorem hd.tw574300837803046910 : True := trivial
theorem hd.tw5781342201191254626 : True := trivial
theorem hd.tw578887228443019578 : True := trivial
theorem hd.tw5790029972810577861 : True := trivial
theorem hd.tw5810065557313606291 : True := trivial
theorem hd.tw5814283452226095208 : True := trivial
theorem hd.tw5850991567925798318 : True := trivial
theorem hd.tw5859118754885311737 : True := trivial
theorem hd.tw5873113503399164460 : True := trivial
theorem hd.tw5899666649113621702 : True := trivial
theorem hd.tw5902613922787404954 : True := trivial
theorem hd.tw5927567313105069670 : True := trivial
theorem hd.tw5961118342813265553 : True := trivial
theorem hd.tw5972152646836171707 : True := trivial
theorem hd.tw5978321128707920903 : True := trivial
theorem hd.tw5983496337302601536 : True := trivial
theorem hd.tw5987830557187376847 : True := trivial
theorem hd.tw6014424301940151174 : True := trivial
theorem hd.tw6038821095411175016 : True := trivial
theorem hd.tw6060742912462422084 : True := trivial
theorem hd.tw6079173187612997037 : True := trivial
theorem hd.tw6082411064634330575 : True := trivial
theorem hd.tw6109525258741381055 : True := trivial
theorem hd.tw6123773746684550334 : True := trivial
theorem hd.tw6136932545381038964 : True := trivial
theorem hd.tw6140570298594658328 : True := trivial
theorem hd.tw6164396464334811476 : True := trivial
theorem hd.tw617508947420966582 : True := trivial
theorem hd.tw6181573660694698118 : True := trivial
theorem hd.tw6184208073178115725 : True := trivial
theorem hd.tw6184460063843016694 : True := trivial
theorem hd.tw6186238094035137676 : True := trivial
theorem hd.tw6196171512934965099 : True := trivial
theorem hd.tw6199765714743212253 : True := trivial
theorem hd.tw6264232113106981867 : True := trivial
theorem hd.tw6276725880618359904 : True := trivial
theorem hd.tw6278647508926252785 : True := trivial
theorem hd.tw6293948785866598258 : True := trivial
theorem hd.tw6295535725891239091 : True := trivial
theorem hd.tw6305734824756694309 : True := trivial
theorem hd.tw6308581086252854402 : True := trivial
theorem hd.tw6320253292602491972 : True := trivial
theorem hd.tw6352655612330318208 : True := trivial
theorem hd.tw6372862494175223470 : True := trivial
theorem hd.tw6407587892757256292 : True := trivial
theorem hd.tw6411954120941647267 : True := trivial
theorem hd.tw6412770499399676944 : True := trivial
theorem hd.tw6418103052136555383 : True := trivial
theorem hd.tw6423634429210846174 : True := trivial
theorem hd.tw6442067068224118133 : True := trivial
theorem hd.tw6449127861642672459 : True := trivial
theorem hd.tw6469175993241445255 : True := trivial
theorem hd.tw6482722132109649516 : True := trivial
theorem hd.tw6506366617586733335 : True := trivial
theorem hd.tw651126834518081296 : True := trivial
theorem hd.tw6528754448969337418 : True := trivial
theorem hd.tw6545403380812914513 : True := trivial
theorem hd.tw6555240042291301478 : True := trivial
theorem hd.tw6578402527460240241 : True := trivial
theorem hd.tw6598312636042714100 : True := trivial
theorem hd.tw6615107907471364465 : True := trivial
theorem hd.tw6627881031435992008 : True := trivial
theorem hd.tw663384727985864361 : True := trivial
theorem hd.tw6646985988748340704 : True := trivial
theorem hd.tw6669269137521125552 : True := trivial
theorem hd.tw6679266806504041263 : True := trivial
theorem hd.tw6683769817339685419 : True := trivial
theorem hd.tw6709418730364537143 : True := trivial
theorem hd.tw6755925336976613232 : True := trivial
theorem hd.tw6759412095888398321 : True := trivial
theorem hd.tw6761669909254768831 : True := trivial
theorem hd.tw6767318904944593275 : True := trivial
theorem hd.tw6769732088879122475 : True := trivial
theorem hd.tw6780557218761844654 : True := trivial
theorem hd.tw678209747344391502 : True := trivial
theorem hd.tw6785817131721698500 : True := trivial
theorem hd.tw6800881396052196260 : True := trivial
theorem hd.tw6818987989461384207 : True := trivial
theorem hd.tw6819123309680001836 : True := trivial
theorem hd.tw6820862383352777685 : True := trivial
theorem hd.tw6830512106363814048 : True := trivial
theorem hd.tw6838551448383532254 : True := trivial
theorem hd.tw6848782300941138395 : True := trivial
theorem hd.tw6868836192036940282 : True := trivial
theorem hd.tw6879831473291441079 : True := trivial
theorem hd.tw6882427118574961969 : True := trivial
theorem hd.tw6898005170327248138 : True := trivial
theorem hd.tw689954013368505116 : True := trivial
theorem hd.tw6902198413751149823 : True := trivial
theorem hd.tw6906073325868019850 : True := trivial
theorem hd.tw6924109203229866365 : True := trivial
theorem hd.tw6931407450589930559 : True := trivial
theorem hd.tw6957150274394394060 : True := trivial
theorem hd.tw697623264460660564 : True := trivial
theorem hd.tw6982297934935202809 : True := trivial
theorem hd.tw6988595667528144454 : True := trivial
theorem hd.tw6990203504111849199 : True := trivial
theorem hd.tw6998783941825042932 : True := trivial
theorem hd.tw7006195865600381663 : True := trivial
theorem hd.tw701333769924781912 : True := trivial
theorem hd.tw701787995468756871 : True := trivial
theorem hd.tw7023726343779634624 : True := trivial
theorem hd.tw7031273417212677730 : True := trivial
theorem hd.tw7068711184596962023 : True := trivial
theorem hd.tw7076163891533521732 : True := trivial
theorem hd.tw7080932558258925280 : True := trivial
theorem hd.tw7082855905992002993 : True := trivial
theorem hd.tw7085514621470718492 : True := trivial
theorem hd.tw7120233287515763914 : True := trivial
theorem hd.tw714852897916480489 : True := trivial
theorem hd.tw7152984921513172624 : True := trivial
theorem hd.tw7153062008950511462 : True := trivial
theorem hd.tw7174315439194531881 : True := trivial
theorem hd.tw7175568609137494628 : True := trivial
theorem hd.tw7182994202766372144 : True := trivial
theorem hd.tw7185752278333246451 : True := trivial
theorem hd.tw7191455744419660376 : True := trivial
theorem hd.tw7240586211207864342 : True := trivial
theorem hd.tw7261450039545342454 : True := trivial
theorem hd.tw7270182246851987180 : True := trivial
theorem hd.tw7289289904772644348 : True := trivial
theorem hd.tw7289601568589263668 : True := trivial
theorem hd.tw7289634563603522867 : True := trivial
theorem hd.tw7292484366425897655 : True := trivial
theorem hd.tw7296583596125217682 : True := trivial
theorem hd.tw7317836474542784337 : True := trivial
theorem hd.tw732345407407602841 : True := trivial
theorem hd.tw7339039647409124788 : True := trivial
theorem hd.tw7354087734392854552 : True := trivial
theorem hd.tw7355570028127101125 : True := trivial
theorem hd.tw7366208706002141716 : True := trivial
theorem hd.tw7369741819223213686 : True := trivial
theorem hd.tw7379015992945566340 : True := trivial
theorem hd.tw7382370116671421104 : True := trivial
theorem hd.tw7399621439246259153 : True := trivial
theorem hd.tw740920337575284248 : True := trivial
theorem hd.tw7492773218913965947 : True := trivial
theorem hd.tw7494724483528729301 : True := trivial
theorem hd.tw7510230149288206974 : True := trivial
theorem hd.tw7512474625130614241 : True := trivial
theorem hd.tw7519716089354478335 : True := trivial
theorem hd.tw7523672394736509286 : True := trivial
theorem hd.tw7525542149764818722 : True := trivial
theorem hd.tw7526368328331116154 : True := trivial
theorem hd.tw7534799579077118603 : True := trivial
theorem hd.tw7540655947842036084 : True := trivial
theorem hd.tw7540741092611519060 : True := trivial
theorem hd.tw7578210074245671484 : True := trivial
theorem hd.tw758273949599710562 : True := trivial
theorem hd.tw7610815399733428385 : True := trivial
theorem hd.tw7626941382939369770 : True := trivial
theorem hd.tw7628703163842673926 : True := trivial
theorem hd.tw7654286748164834634 : True := trivial
theorem hd.tw7657299143145469618 : True := trivial
theorem hd.tw7676003278276379012 : True := trivial
theorem hd.tw7691918140598264929 : True := trivial
theorem hd.tw7698358502638924378 : True := trivial
theorem hd.tw7702882491108231240 : True := trivial
theorem hd.tw7712819752767893495 : True := trivial
theorem hd.tw7721951785955056133 : True := trivial
theorem hd.tw7746578258024575070 : True := trivial
theorem hd.tw7752569895197466512 : True := trivial
theorem hd.tw7752767780024739350 : True := trivial
theorem hd.tw7754304195085646258 : True := trivial
theorem hd.tw7763873220885509757 : True := trivial
theorem hd.tw7793673504863384051 : True := trivial
theorem hd.tw7815354588672045779 : True := trivial
theorem hd.tw7829580234814923638 : True := trivial
theorem hd.tw7850187754069100156 : True := trivial
theorem hd.tw7854228177987924090 : True := trivial
theorem hd.tw7865815782831421995 : True := trivial
theorem hd.tw7872162285098387286 : True := trivial
theorem hd.tw7880807054014371918 : True := trivial
theorem hd.tw7882176539161185770 : True := trivial
theorem hd.tw7891253978561527248 : True := trivial
theorem hd.tw7898215921889874393 : True := trivial
theorem hd.tw7914949630228597729 : True := trivial
theorem hd.tw7927469264209771579 : True := trivial
theorem hd.tw7941745277869089046 : True := trivial
theorem hd.tw8004679753235328684 : True := trivial
theorem hd.tw8015326511298524721 : True := trivial
theorem hd.tw8025032847418708242 : True := trivial
theorem hd.tw8044012406986999415 : True := trivial
theorem hd.tw8047900516022102942 : True := trivial
theorem hd.tw8053944837975664402 : True := trivial
theorem hd.tw8068729725432388964 : True := trivial
theorem hd.tw8081886968326746073 : True := trivial
theorem hd.tw8112040973832200146 : True := trivial
theorem hd.tw8117029840178788049 : True := trivial
theorem hd.tw8134915037123179040 : True := trivial
theorem hd.tw8151903124980380684 : True := trivial
theorem hd.tw8179070454071193570 : True := trivial
theorem hd.tw8184699220007379433 : True := trivial
theorem hd.tw8191903926673212241 : True := trivial
theorem hd.tw8197050154876552520 : True := trivial
theorem hd.tw8210421348078903774 : True := trivial
theorem hd.tw8226494294326810461 : True := trivial
theorem hd.tw8228950375871286339 : True := trivial
theorem hd.tw8244733829118024811 : True := trivial
theorem hd.tw825126770350376351 : True := trivial
theorem hd.tw8269573656231971908 : True := trivial
theorem hd.tw8273930003744585626 : True := trivial
theorem hd.tw8293946417935249925 : True := trivial
theorem hd.tw8311865607074365958 : True := trivial
theorem hd.tw8312999807965096350 : True := trivial
theorem hd.tw833173182276230429 : True := trivial
theorem hd.tw8343274005884668182 : True := trivial
theorem hd.tw8351282476255451920 : True := trivial
theorem hd.tw8356816923877370021 : True := trivial
theorem hd.tw8377043916266704855 : True := trivial
theorem hd.tw8428860471423672150 : True := trivial
theorem hd.tw845060206244984605 : True := trivial
theorem hd.tw8450674356893351874 : True := trivial
theorem hd.tw8457440626546761165 : True := trivial
theorem hd.tw8472141830624432390 : True := trivial
theorem hd.tw8479784124755550697 : True := trivial
theorem hd.tw8516288146210602744 : True := trivial
theorem hd.tw8531993380330477603 : True := trivial
theorem hd.tw8545014587354053640 : True := trivial
theorem hd.tw8587404781116728655 : True := trivial
theorem hd.tw8589211134812392127 : True := trivial
theorem hd.tw8609351116199087170 : True := trivial
theorem hd.tw8652628183442184457 : True := trivial
theorem hd.tw8671608845466749128 : True := trivial
theorem hd.tw8684328023851190084 : True := trivial
theorem hd.tw8716120427605611371 : True := trivial
theorem hd.tw8727321023445011275 : True := trivial
theorem hd.tw8735263284916673568 : True := trivial
theorem hd.tw876933089483189297 : True := trivial
theorem hd.tw8770205317985620760 : True := trivial
theorem hd.tw8770659054964912022 : True := trivial
theorem hd.tw8773699223549846113 : True := trivial
theorem hd.tw8789358453043137523 : True := trivial
theorem hd.tw8801323125487838256 : True := trivial
theorem hd.tw8803977449572941912 : True := trivial
theorem hd.tw881544763273948857 : True := trivial
theorem hd.tw8879563391730754479 : True := trivial
theorem hd.tw8881176148764397765 : True := trivial
theorem hd.tw8887996145723391905 : True := trivial
theorem hd.tw8898355551111435312 : True := trivial
theorem hd.tw8912348807662434688 : True := trivial
theorem hd.tw8934143017859847078 : True := trivial
theorem hd.tw8945485805214734075 : True := trivial
theorem hd.tw8959176491354863721 : True := trivial
theorem hd.tw8965841893048198262 : True := trivial
theorem hd.tw8977460988437922124 : True := trivial
theorem hd.tw8990313861142287110 : True := trivial
theorem hd.tw9012836324853574702 : True := trivial
theorem hd.tw9013056391748086436 : True := trivial
theorem hd.tw9048539425550374019 : True := trivial
theorem hd.tw9077708301081682751 : True := trivial
theorem hd.tw9087110039335098043 : True := trivial
theorem hd.tw9131607905817354932 : True := trivial
theorem hd.tw9132557439983319658 : True := trivial
theorem hd.tw9153386212771759811 : True := trivial
theorem hd.tw9155422001095189878 : True := trivial
theorem hd.tw9170477692918782315 : True := trivial
theorem hd.tw9184186324627900627 : True := trivial
theorem hd.tw920214292312260371 : True := trivial
theorem hd.tw9215163618515126356 : True := trivial
theorem hd.tw922143313871775805 : True := trivial
theorem hd.tw9228397985900620932 : True := trivial
theorem hd.tw9244321171653502345 : True := trivial
theorem hd.tw9271970288684553227 : True := trivial
theorem hd.tw9277588360372424766 : True := trivial
theorem hd.tw9298403506768410418 : True := trivial
theorem hd.tw9325612240067072397 : True := trivial
theorem hd.tw9330823016148744750 : True := trivial
theorem hd.tw9330943631129107780 : True := trivial
theorem hd.tw9341642984632610673 : True := trivial
theorem hd.tw9345676750909349944 : True := trivial
theorem hd.tw9345929723534960622 : True := trivial
theorem hd.tw9386895884608548742 : True := trivial
theorem hd.tw9390866547671247325 : True := trivial
theorem hd.tw940617070666608080 : True := trivial
theorem hd.tw9406673726873002282 : True := trivial
theorem hd.tw9421340871869096474 : True := trivial
theorem hd.tw9427301549700849589 : True := trivial
theorem hd.tw9429285754427346401 : True := trivial
theorem hd.tw9430268157657104642 : True := trivial
theorem hd.tw9449672872311958731 : True := trivial
theorem hd.tw9459050058782445324 : True := trivial
theorem hd.tw9467313397243273497 : True := trivial
theorem hd.tw9476321141362543215 : True := trivial
theorem hd.tw9496365245306024149 : True := trivial
theorem hd.tw9499510787657705874 : True := trivial
theorem hd.tw9513423893830186035 : True := trivial
theorem hd.tw9555612238305686254 : True := trivial
theorem hd.tw9557236495431379559 : True := trivial
theorem hd.tw9566141503761928105 : True := trivial
theorem hd.tw956962677268122417 : True := trivial
theorem hd.tw9577689765879766989 : True := trivial
theorem hd.tw960944832710211464 : True := trivial
theorem hd.tw9627899436633539337 : True := trivial
theorem hd.tw9631708518359487223 : True := trivial
theorem hd.tw9641152695372364146 : True := trivial
theorem hd.tw9702936160620672325 : True := trivial
theorem hd.tw9719896912496429819 : True := trivial
theorem hd.tw9748044761591592747 : True := trivial
theorem hd.tw9753359207989701909 : True := trivial
theorem hd.tw9763420282994701918 : True := trivial
theorem hd.tw9783614193127449063 : True := trivial
theorem hd.tw9788025985476950048 : True := trivial
theorem hd.tw978945382295711627 : True := trivial
theorem hd.tw9813410681712176819 : True := trivial
theorem hd.tw9850052858527491113 : True := trivial
theorem hd.tw9864973744126774698 : True := trivial
theorem hd.tw9908193460736022307 : True := trivial
theorem hd.tw991583007596301734 : True := trivial
theorem hd.tw9927179837433541088 : True := trivial
theorem hd.tw9960721518486171458 : True := trivial
theorem hd.tw9976723597467198900 : True := trivial
theorem hd.tw9983964734214183352 : True := trivial
theorem hd.tw9983995961361265002 : True := trivial
theorem hd.tw9990345226319884068 : True := trivial
end Mine
section
-- RM
namespace Mine
theorem room_ok {d D a b : Nat} (h : d + D < recursionLimit) (e : Nat.ble (a + b) D = true) : d + a + b < recursionLimit := by
  have := Nat.le_of_ble_eq_true e
  omega
theorem room_1 {d D a : Nat} (h : d + D < recursionLimit) (e : Nat.ble a D = true) : d + a < recursionLimit := by
  have := Nat.le_of_ble_eq_true e
  omega
theorem units_ok {d D a b : Nat} (h : d + D < cLine) (e : Nat.ble (a + b) D = true) : d + a + b < cLine := by
  have := Nat.le_of_ble_eq_true e
  omega
theorem units_1 {d D a : Nat} (h : d + D < cLine) (e : Nat.ble a D = true) : d + a < cLine := by
  have := Nat.le_of_ble_eq_true e
  omega
theorem ex17 {α0 α1 α2 α3 α4 α5 α6 α7 α8 α9 α10 α11 α12 α13 α14 α15 α16 : Type} {P : α0 → α1 → α2 → α3 → α4 → α5 → α6 → α7 → α8 → α9 → α10 → α11 → α12 → α13 → α14 → α15 → α16 → Prop} {G : Prop} (h : ∃ a0 a1 a2 a3 a4 a5 a6 a7 a8 a9 a10 a11 a12 a13 a14 a15 a16, P a0 a1 a2 a3 a4 a5 a6 a7 a8 a9 a10 a11 a12 a13 a14 a15 a16) (k : ∀ a0 a1 a2 a3 a4 a5 a6 a7 a8 a9 a10 a11 a12 a13 a14 a15 a16, P a0 a1 a2 a3 a4 a5 a6 a7 a8 a9 a10 a11 a12 a13 a14 a15 a16 → G) : G := by
  obtain ⟨a0, a1, a2, a3, a4, a5, a6, a7, a8, a9, a10, a11, a12, a13, a14, a15, a16, h⟩ := h
  exact k a0 a1 a2 a3 a4 a5 a6 a7 a8 a9 a10 a11 a12 a13 a14 a15 a16 h
theorem in_10_11 {α0 α1 α2 α3 α4 α5 α6 α7 α8 α9 : Type} {P0 P1 P2 P3 P4 P5 P6 P7 P8 P9 P10 : α0 → α1 → α2 → α3 → α4 → α5 → α6 → α7 → α8 → α9 → Prop} (a0 : α0) (a1 : α1) (a2 : α2) (a3 : α3) (a4 : α4) (a5 : α5) (a6 : α6) (a7 : α7) (a8 : α8) (a9 : α9) (h0 : P0 a0 a1 a2 a3 a4 a5 a6 a7 a8 a9) (h1 : P1 a0 a1 a2 a3 a4 a5 a6 a7 a8 a9) (h2 : P2 a0 a1 a2 a3 a4 a5 a6 a7 a8 a9) (h3 : P3 a0 a1 a2 a3 a4 a5 a6 a7 a8 a9) (h4 : P4 a0 a1 a2 a3 a4 a5 a6 a7 a8 a9) (h5 : P5 a0 a1 a2 a3 a4 a5 a6 a7 a8 a9) (h6 : P6 a0 a1 a2 a3 a4 a5 a6 a7 a8 a9) (h7 : P7 a0 a1 a2 a3 a4 a5 a6 a7 a8 a9) (h8 : P8 a0 a1 a2 a3 a4 a5 a6 a7 a8 a9) (h9 : P9 a0 a1 a2 a3 a4 a5 a6 a7 a8 a9) (h10 : P10 a0 a1 a2 a3 a4 a5 a6 a7 a8 a9) : ∃ a0 a1 a2 a3 a4 a5 a6 a7 a8 a9, P0 a0 a1 a2 a3 a4 a5 a6 a7 a8 a9 ∧ P1 a0 a1 a2 a3 a4 a5 a6 a7 a8 a9 ∧ P2 a0 a1 a2 a3 a4 a5 a6 a7 a8 a9 ∧ P3 a0 a1 a2 a3 a4 a5 a6 a7 a8 a9 ∧ P4 a0 a1 a2 a3 a4 a5 a6 a7 a8 a9 ∧ P5 a0 a1 a2 a3 a4 a5 a6 a7 a8 a9 ∧ P6 a0 a1 a2 a3 a4 a5 a6 a7 a8 a9 ∧ P7 a0 a1 a2 a3 a4 a5 a6 a7 a8 a9 ∧ P8 a0 a1 a2 a3 a4 a5 a6 a7 a8 a9 ∧ P9 a0 a1 a2 a3 a4 a5 a6 a7 a8 a9 ∧ P10 a0 a1 a2 a3 a4 a5 a6 a7 a8 a9 := ⟨a0, a1, a2, a3, a4, a5, a6, a7, a8, a9, h0, h1, h2, h3, h4, h5, h6, h7, h8, h9, h10⟩
theorem mem_at {α : Type} {l : List α} {a : α} (k : Nat) (h : l[k]? = some a) : a ∈ l := List.mem_of_getElem? h
theorem get_snoc {α : Type} {l : List α} {x z : α} {i : Nat} (h : (l ++ [x])[i]? = some z) : l[i]? = some z ∨ (i = l.length ∧ z = x) := by
  rcases Nat.lt_or_ge i l.length with hi | hi
  · rw [List.getElem?_append_left hi] at h
    exact .inl h
  · rw [List.getElem?_append_right hi] at h
    cases q : i - l.length with
    | zero => rw [q] at h; cases h; exact .inr ⟨by omega, rfl⟩
    | succ k => rw [q] at h; cases h
theorem get_end {α : Type} {l : List α} {x : α} {n : Nat} (h : l.length = n) : (l ++ [x])[n]? = some x := by
  subst h
  simp
theorem mem_snoc {α : Type} {l : List α} {x : α} {P : α → Prop} (h : ∀ z ∈ l, P z) (hx : P x) : ∀ z ∈ l ++ [x], P z := fun z hz => by
  rcases List.mem_append.mp hz with hz | hz
  · exact h z hz
  · rw [List.mem_singleton.mp hz]; exact hx
theorem len_snoc {α : Type} {l : List α} {x : α} {n : Nat} (h : l.length = n) : (l ++ [x]).length = n + 1 := by rw [List.length_append, h]; rfl
theorem len_snoc_le {α : Type} {l : List α} {x : α} {n : Nat} (h : l.length ≤ n) : (l ++ [x]).length ≤ n + 1 := by rw [List.length_append]; exact Nat.add_le_add_right h 1
theorem le_snoc {α : Type} {l : List α} {x : α} {n : Nat} (h : n ≤ l.length) : n ≤ (l ++ [x]).length := by rw [List.length_append]; exact Nat.le_succ_of_le h
end Mine
end
section
-- IN
namespace Mine

/-- where the walk is to wait -/
noncomputable def Hold (P : Prop) : Prop := P
theorem hold_of {P : Prop} (h : Hold P) : P := h

theorem look_skip {α : Type} {c : Prop} [Decidable c] {a b r : α} (h : ¬ c) (k : b = r) : (if c then a else b) = r := by rw [if_neg h]; exact k

noncomputable abbrev Led := List (Addr × Obj)
noncomputable abbrev Nd (l : Led) : Prop := (l.map (·.1)).Nodup

theorem nd_split {pre post : Led} {d : Addr} {o : Obj} (h : Nd (pre ++ (d, o) :: post)) : (∀ p ∈ pre, p.1 ≠ d) ∧ ∀ p ∈ post, p.1 ≠ d := by
  unfold Nd at h
  rw [List.map_append, List.map_cons, List.nodup_append] at h
  obtain ⟨_, h2, h3⟩ := h
  rw [List.nodup_cons] at h2
  refine ⟨fun p hp e => ?_, fun p hp e => ?_⟩
  · exact h3 p.1 (List.mem_map_of_mem hp) d List.mem_cons_self e
  · exact h2.1 (List.mem_map.mpr ⟨p, hp, e⟩)
theorem upd_app {pre post : Led} {d : Addr} {o o' : Obj} (h1 : ∀ p ∈ pre, p.1 ≠ d) (h2 : ∀ p ∈ post, p.1 ≠ d) : Upd d o o' (pre ++ (d, o) :: post) (pre ++ (d, o') :: post) := by
  induction pre with
  | nil => exact .head h2
  | cons p r ih => exact .tail (h1 p List.mem_cons_self) (ih fun q hq => h1 q (List.mem_cons_of_mem _ hq))
theorem updF_app {pre post : Led} {d : Addr} {o : Obj} (h1 : ∀ p ∈ pre, p.1 ≠ d) (h2 : ∀ p ∈ post, p.1 ≠ d) : UpdF d o (pre ++ (d, o) :: post) (fun o' => pre ++ (d, o') :: post) := by
  induction pre with
  | nil => exact .head h2
  | cons p r ih => exact .tail (h1 p List.mem_cons_self) (ih fun q hq => h1 q (List.mem_cons_of_mem _ hq))
theorem upd_nd {pre post : Led} {d : Addr} {o o' : Obj} (h : Nd (pre ++ (d, o) :: post)) : Upd d o o' (pre ++ (d, o) :: post) (pre ++ (d, o') :: post) := upd_app (nd_split h).1 (nd_split h).2
theorem updF_nd {pre post : Led} {d : Addr} {o : Obj} (h : Nd (pre ++ (d, o) :: post)) : UpdF d o (pre ++ (d, o) :: post) (fun o' => pre ++ (d, o') :: post) := updF_app (nd_split h).1 (nd_split h).2
theorem nd_cons {l : Led} {x : Addr} {o : Obj} (h : Nd l) (hx : ∀ p ∈ l, p.1 < x) : Nd ((x, o) :: l) := by
  unfold Nd
  rw [List.map_cons, List.nodup_cons]
  refine ⟨fun hm => ?_, h⟩
  obtain ⟨p, hp, e⟩ := List.mem_map.mp hm
  exact absurd (hx p hp) (by rw [e]; exact Nat.lt_irrefl _)
theorem nd_perm {l l' : Led} (h : Nd l) (hs : l.Perm l') : Nd l' := (hs.map _).nodup_iff.mp h
theorem news_sub {h₀ h : Heap} {L : Addr} {l l' : Led} (N : News h₀ L h l) (hs : ∀ p ∈ l', p ∈ l) : News h₀ L h l' := fun p hp => N p (hs p hp)
theorem news_perm {h₀ h : Heap} {L : Addr} {l l' : Led} (N : News h₀ L h l) (hs : l.Perm l') : News h₀ L h l' := fun p hp => N p (hs.mem_iff.mpr hp)

/-- what a call of the def at f does, over any caller -/
noncomputable def Spec (K : Params → Frag) (prog : Program) (f : Addr) (dep : Nat) {X : Type} (Pre : World → X → Led → List Value → Prop) (Post : World → X → Led → Led → Value → Prop) : Prop :=
  ∀ (w : World) (p : Program) (loose : List Str) (mean : ExcName → Option Value) (mg mb : Str → Option Value) (dp un : Nat) (gd : Option (List Code)) (cn : Str) (cs : Scope) (a : Addr) (ccd : Value) (cl : List (Str × Addr)) (outer : List Env)
    (A₀ : Around) (base h₀ : Heap) (L : Addr) (m : Str → Option Value) (news : Led) (s : Shared) (vs : List Value) (x : X) (Q E : Value → Shared → Prop),
    Below A₀ base outer h₀ → Fr h₀ L s.heap m → (K w.params).In h₀ → News h₀ L s.heap news → Top p loose mean mg mb h₀ → cs.kind = .function → Nd news →
    Pre w x news vs → dp + dep < recursionLimit → un + 40 * dep < cLine →
    (∀ r news' h' tk', Fr h₀ L h' m → News h₀ L h' news' → Nd news' → Post w x news news' r → Q r { s with heap := h', toks := tk' }) →
    wpAny (model prog w) (ktrTop dp un gd cn cs L a ccd cl outer) (call (.ref f) vs) Q E s

section
variable {prog : Program} {w : World} {A : Around} {E : Value → Shared → Prop} {s : Shared} {h₀ : Heap} {L D : Addr} {m : Str → Option Value} {news news' : Led} {its : List Value} {n : Nat}
theorem ledList (N : News h₀ L s.heap news) (hm : (D, listOf its.toArray n) ∈ news) : s.heap.IsList D its.toArray := ⟨_, (N _ hm).1, rfl, _, rfl⟩
theorem len_L {Q : Value → Shared → Prop} (N : News h₀ L s.heap news) (hm : (D, listOf its.toArray n) ∈ news) (hfit : its.length < 2 ^ 62) (h : ∀ t tk, Q (.int (its.length : Nat) t) { s with toks := tk }) :
    wpAny (model prog w) A (call (.builtin "len") [.ref D]) Q E s := by
  refine Calls.call_len_list (ledList N hm) (by simp only [List.size_toArray]; omega) ?_
  rw [List.size_toArray]
  exact h _ _
theorem append_L {x : Value} {Q : Value → Shared → Prop} (F : Fr h₀ L s.heap m) (N : News h₀ L s.heap news) (U : Upd D (listOf its.toArray n) (listOf (its ++ [x]).toArray (n + 1)) news news')
    (hsz : its.length ≤ 1000) (h : ∀ h', Fr h₀ L h' m → News h₀ L h' news' → Q .none { s with heap := h' }) : wpAny (model prog w) A (call (.builtin "list.append") [.ref D, x]) Q E s :=
  append_K F N (by rw [List.push_toArray]; exact U) h (by rw [sizeLine_eq, List.size_toArray]; omega)
theorem item_L {value slice : PySem.Expr} {k : Int} {u : Tok} {v : Value} {Q : Value → Shared → Prop} (N : News h₀ L s.heap news) (hm : (D, listOf its.toArray n) ∈ news)
    (h0 : 0 ≤ k) (hx : its[k.toNat]? = some v) (hhi : k < 2 ^ 62) (h : Q v s)
    (hs : subscripted slice false (.ref D) (.int k u) = operate [.ref D, .int k u] (getItem (.ref D) (.int k u)) := by with_unfolding_all rfl) :
    wpAny (model prog w) A (subscriptTail value slice (.ref D) (.int k u)) Q E s :=
  tail_any (ledList N hm).typeIs slot_list_getitem.lookup (wpAny_getItem_list (ledList N hm) h0 (by omega) (by simpa using hx) h) hs
end
end Mine
end
section
-- EL
namespace Mine
theorem cut {T G : Prop} (h : T) (k : T → G) : G := k h
theorem in_0_2 {P0 P1 : Prop} (h0 : P0) (h1 : P1) : P0 ∧ P1 := ⟨h0, h1⟩
theorem in_0_3 {P0 P1 P2 : Prop} (h0 : P0) (h1 : P1) (h2 : P2) : P0 ∧ P1 ∧ P2 := ⟨h0, h1, h2⟩
theorem in_0_4 {P0 P1 P2 P3 : Prop} (h0 : P0) (h1 : P1) (h2 : P2) (h3 : P3) : P0 ∧ P1 ∧ P2 ∧ P3 := ⟨h0, h1, h2, h3⟩
theorem in_0_5 {P0 P1 P2 P3 P4 : Prop} (h0 : P0) (h1 : P1) (h2 : P2) (h3 : P3) (h4 : P4) : P0 ∧ P1 ∧ P2 ∧ P3 ∧ P4 := ⟨h0, h1, h2, h3, h4⟩
theorem in_0_6 {P0 P1 P2 P3 P4 P5 : Prop} (h0 : P0) (h1 : P1) (h2 : P2) (h3 : P3) (h4 : P4) (h5 : P5) : P0 ∧ P1 ∧ P2 ∧ P3 ∧ P4 ∧ P5 := ⟨h0, h1, h2, h3, h4, h5⟩
theorem in_0_7 {P0 P1 P2 P3 P4 P5 P6 : Prop} (h0 : P0) (h1 : P1) (h2 : P2) (h3 : P3) (h4 : P4) (h5 : P5) (h6 : P6) : P0 ∧ P1 ∧ P2 ∧ P3 ∧ P4 ∧ P5 ∧ P6 := ⟨h0, h1, h2, h3, h4, h5, h6⟩
theorem in_0_8 {P0 P1 P2 P3 P4 P5 P6 P7 : Prop} (h0 : P0) (h1 : P1) (h2 : P2) (h3 : P3) (h4 : P4) (h5 : P5) (h6 : P6) (h7 : P7) : P0 ∧ P1 ∧ P2 ∧ P3 ∧ P4 ∧ P5 ∧ P6 ∧ P7 := ⟨h0, h1, h2, h3, h4, h5, h6, h7⟩
theorem in_0_10 {P0 P1 P2 P3 P4 P5 P6 P7 P8 P9 : Prop} (h0 : P0) (h1 : P1) (h2 : P2) (h3 : P3) (h4 : P4) (h5 : P5) (h6 : P6) (h7 : P7) (h8 : P8) (h9 : P9) : P0 ∧ P1 ∧ P2 ∧ P3 ∧ P4 ∧ P5 ∧ P6 ∧ P7 ∧ P8 ∧ P9 := ⟨h0, h1, h2, h3, h4, h5, h6, h7, h8, h9⟩
theorem in_0_12 {P0 P1 P2 P3 P4 P5 P6 P7 P8 P9 P10 P11 : Prop} (h0 : P0) (h1 : P1) (h2 : P2) (h3 : P3) (h4 : P4) (h5 : P5) (h6 : P6) (h7 : P7) (h8 : P8) (h9 : P9) (h10 : P10) (h11 : P11) : P0 ∧ P1 ∧ P2 ∧ P3 ∧ P4 ∧ P5 ∧ P6 ∧ P7 ∧ P8 ∧ P9 ∧ P10 ∧ P11 := ⟨h0, h1, h2, h3, h4, h5, h6, h7, h8, h9, h10, h11⟩
theorem in_0_14 {P0 P1 P2 P3 P4 P5 P6 P7 P8 P9 P10 P11 P12 P13 : Prop} (h0 : P0) (h1 : P1) (h2 : P2) (h3 : P3) (h4 : P4) (h5 : P5) (h6 : P6) (h7 : P7) (h8 : P8) (h9 : P9) (h10 : P10) (h11 : P11) (h12 : P12) (h13 : P13) : P0 ∧ P1 ∧ P2 ∧ P3 ∧ P4 ∧ P5 ∧ P6 ∧ P7 ∧ P8 ∧ P9 ∧ P10 ∧ P11 ∧ P12 ∧ P13 := ⟨h0, h1, h2, h3, h4, h5, h6, h7, h8, h9, h10, h11, h12, h13⟩
theorem in_1_2 {α0 : Type} {P0 P1 : α0 → Prop} (a0 : α0) (h0 : P0 a0) (h1 : P1 a0) : ∃ a0, P0 a0 ∧ P1 a0 := ⟨a0, h0, h1⟩
theorem in_2_3 {α0 α1 : Type} {P0 P1 P2 : α0 → α1 → Prop} (a0 : α0) (a1 : α1) (h0 : P0 a0 a1) (h1 : P1 a0 a1) (h2 : P2 a0 a1) : ∃ a0 a1, P0 a0 a1 ∧ P1 a0 a1 ∧ P2 a0 a1 := ⟨a0, a1, h0, h1, h2⟩
theorem in_2_4 {α0 α1 : Type} {P0 P1 P2 P3 : α0 → α1 → Prop} (a0 : α0) (a1 : α1) (h0 : P0 a0 a1) (h1 : P1 a0 a1) (h2 : P2 a0 a1) (h3 : P3 a0 a1) : ∃ a0 a1, P0 a0 a1 ∧ P1 a0 a1 ∧ P2 a0 a1 ∧ P3 a0 a1 := ⟨a0, a1, h0, h1, h2, h3⟩
theorem in_2_8 {α0 α1 : Type} {P0 P1 P2 P3 P4 P5 P6 P7 : α0 → α1 → Prop} (a0 : α0) (a1 : α1) (h0 : P0 a0 a1) (h1 : P1 a0 a1) (h2 : P2 a0 a1) (h3 : P3 a0 a1) (h4 : P4 a0 a1) (h5 : P5 a0 a1) (h6 : P6 a0 a1) (h7 : P7 a0 a1) : ∃ a0 a1, P0 a0 a1 ∧ P1 a0 a1 ∧ P2 a0 a1 ∧ P3 a0 a1 ∧ P4 a0 a1 ∧ P5 a0 a1 ∧ P6 a0 a1 ∧ P7 a0 a1 := ⟨a0, a1, h0, h1, h2, h3, h4, h5, h6, h7⟩
theorem in_3_2 {α0 α1 α2 : Type} {P0 P1 : α0 → α1 → α2 → Prop} (a0 : α0) (a1 : α1) (a2 : α2) (h0 : P0 a0 a1 a2) (h1 : P1 a0 a1 a2) : ∃ a0 a1 a2, P0 a0 a1 a2 ∧ P1 a0 a1 a2 := ⟨a0, a1, a2, h0, h1⟩
theorem in_3_3 {α0 α1 α2 : Type} {P0 P1 P2 : α0 → α1 → α2 → Prop} (a0 : α0) (a1 : α1) (a2 : α2) (h0 : P0 a0 a1 a2) (h1 : P1 a0 a1 a2) (h2 : P2 a0 a1 a2) : ∃ a0 a1 a2, P0 a0 a1 a2 ∧ P1 a0 a1 a2 ∧ P2 a0 a1 a2 := ⟨a0, a1, a2, h0, h1, h2⟩
theorem in_3_4 {α0 α1 α2 : Type} {P0 P1 P2 P3 : α0 → α1 → α2 → Prop} (a0 : α0) (a1 : α1) (a2 : α2) (h0 : P0 a0 a1 a2) (h1 : P1 a0 a1 a2) (h2 : P2 a0 a1 a2) (h3 : P3 a0 a1 a2) : ∃ a0 a1 a2, P0 a0 a1 a2 ∧ P1 a0 a1 a2 ∧ P2 a0 a1 a2 ∧ P3 a0 a1 a2 := ⟨a0, a1, a2, h0, h1, h2, h3⟩
theorem in_3_5 {α0 α1 α2 : Type} {P0 P1 P2 P3 P4 : α0 → α1 → α2 → Prop} (a0 : α0) (a1 : α1) (a2 : α2) (h0 : P0 a0 a1 a2) (h1 : P1 a0 a1 a2) (h2 : P2 a0 a1 a2) (h3 : P3 a0 a1 a2) (h4 : P4 a0 a1 a2) : ∃ a0 a1 a2, P0 a0 a1 a2 ∧ P1 a0 a1 a2 ∧ P2 a0 a1 a2 ∧ P3 a0 a1 a2 ∧ P4 a0 a1 a2 := ⟨a0, a1, a2, h0, h1, h2, h3, h4⟩
theorem in_3_9 {α0 α1 α2 : Type} {P0 P1 P2 P3 P4 P5 P6 P7 P8 : α0 → α1 → α2 → Prop} (a0 : α0) (a1 : α1) (a2 : α2) (h0 : P0 a0 a1 a2) (h1 : P1 a0 a1 a2) (h2 : P2 a0 a1 a2) (h3 : P3 a0 a1 a2) (h4 : P4 a0 a1 a2) (h5 : P5 a0 a1 a2) (h6 : P6 a0 a1 a2) (h7 : P7 a0 a1 a2) (h8 : P8 a0 a1 a2) : ∃ a0 a1 a2, P0 a0 a1 a2 ∧ P1 a0 a1 a2 ∧ P2 a0 a1 a2 ∧ P3 a0 a1 a2 ∧ P4 a0 a1 a2 ∧ P5 a0 a1 a2 ∧ P6 a0 a1 a2 ∧ P7 a0 a1 a2 ∧ P8 a0 a1 a2 := ⟨a0, a1, a2, h0, h1, h2, h3, h4, h5, h6, h7, h8⟩
theorem in_5_8 {α0 α1 α2 α3 α4 : Type} {P0 P1 P2 P3 P4 P5 P6 P7 : α0 → α1 → α2 → α3 → α4 → Prop} (a0 : α0) (a1 : α1) (a2 : α2) (a3 : α3) (a4 : α4) (h0 : P0 a0 a1 a2 a3 a4) (h1 : P1 a0 a1 a2 a3 a4) (h2 : P2 a0 a1 a2 a3 a4) (h3 : P3 a0 a1 a2 a3 a4) (h4 : P4 a0 a1 a2 a3 a4) (h5 : P5 a0 a1 a2 a3 a4) (h6 : P6 a0 a1 a2 a3 a4) (h7 : P7 a0 a1 a2 a3 a4) : ∃ a0 a1 a2 a3 a4, P0 a0 a1 a2 a3 a4 ∧ P1 a0 a1 a2 a3 a4 ∧ P2 a0 a1 a2 a3 a4 ∧ P3 a0 a1 a2 a3 a4 ∧ P4 a0 a1 a2 a3 a4 ∧ P5 a0 a1 a2 a3 a4 ∧ P6 a0 a1 a2 a3 a4 ∧ P7 a0 a1 a2 a3 a4 := ⟨a0, a1, a2, a3, a4, h0, h1, h2, h3, h4, h5, h6, h7⟩
theorem in_7_2 {α0 α1 α2 α3 α4 α5 α6 : Type} {P0 P1 : α0 → α1 → α2 → α3 → α4 → α5 → α6 → Prop} (a0 : α0) (a1 : α1) (a2 : α2) (a3 : α3) (a4 : α4) (a5 : α5) (a6 : α6) (h0 : P0 a0 a1 a2 a3 a4 a5 a6) (h1 : P1 a0 a1 a2 a3 a4 a5 a6) : ∃ a0 a1 a2 a3 a4 a5 a6, P0 a0 a1 a2 a3 a4 a5 a6 ∧ P1 a0 a1 a2 a3 a4 a5 a6 := ⟨a0, a1, a2, a3, a4, a5, a6, h0, h1⟩
theorem in_9_9 {α0 α1 α2 α3 α4 α5 α6 α7 α8 : Type} {P0 P1 P2 P3 P4 P5 P6 P7 P8 : α0 → α1 → α2 → α3 → α4 → α5 → α6 → α7 → α8 → Prop} (a0 : α0) (a1 : α1) (a2 : α2) (a3 : α3) (a4 : α4) (a5 : α5) (a6 : α6) (a7 : α7) (a8 : α8) (h0 : P0 a0 a1 a2 a3 a4 a5 a6 a7 a8) (h1 : P1 a0 a1 a2 a3 a4 a5 a6 a7 a8) (h2 : P2 a0 a1 a2 a3 a4 a5 a6 a7 a8) (h3 : P3 a0 a1 a2 a3 a4 a5 a6 a7 a8) (h4 : P4 a0 a1 a2 a3 a4 a5 a6 a7 a8) (h5 : P5 a0 a1 a2 a3 a4 a5 a6 a7 a8) (h6 : P6 a0 a1 a2 a3 a4 a5 a6 a7 a8) (h7 : P7 a0 a1 a2 a3 a4 a5 a6 a7 a8) (h8 : P8 a0 a1 a2 a3 a4 a5 a6 a7 a8) : ∃ a0 a1 a2 a3 a4 a5 a6 a7 a8, P0 a0 a1 a2 a3 a4 a5 a6 a7 a8 ∧ P1 a0 a1 a2 a3 a4 a5 a6 a7 a8 ∧ P2 a0 a1 a2 a3 a4 a5 a6 a7 a8 ∧ P3 a0 a1 a2 a3 a4 a5 a6 a7 a8 ∧ P4 a0 a1 a2 a3 a4 a5 a6 a7 a8 ∧ P5 a0 a1 a2 a3 a4 a5 a6 a7 a8 ∧ P6 a0 a1 a2 a3 a4 a5 a6 a7 a8 ∧ P7 a0 a1 a2 a3 a4 a5 a6 a7 a8 ∧ P8 a0 a1 a2 a3 a4 a5 a6 a7 a8 := ⟨a0, a1, a2, a3, a4, a5, a6, a7, a8, h0, h1, h2, h3, h4, h5, h6, h7, h8⟩
theorem elq_0_0_2_0_1 {A : Led} {R : Value} {G : Led → Value → Prop} (k : G (A) (R)) : ∀ n r, (n = A ∧ r = R) → G n r := by
  rintro n r ⟨rfl, rfl⟩
  exact k 
theorem elq_0_1_2_0_1 {α0 : Type} {A : α0 → Led} {R : α0 → Value} {G : Led → Value → Prop} (k : ∀ a0, G (A a0) (R a0)) : ∀ n r, (∃ a0, n = A a0 ∧ r = R a0) → G n r := by
  rintro n r ⟨a0, rfl, rfl⟩
  exact k a0
theorem elq_0_2_3_0_2 {α0 α1 : Type} {P1 : α0 → α1 → Prop} {A : α0 → α1 → Led} {R : α0 → α1 → Value} {G : Led → Value → Prop} (k : ∀ a0 a1, P1 a0 a1 → G (A a0 a1) (R a0 a1)) : ∀ n r, (∃ a0 a1, n = A a0 a1 ∧ P1 a0 a1 ∧ r = R a0 a1) → G n r := by
  rintro n r ⟨a0, a1, rfl, h1, rfl⟩
  exact k a0 a1 h1
theorem elq_0_2_3_1_0 {α0 α1 : Type} {P2 : α0 → α1 → Prop} {A : α0 → α1 → Led} {R : α0 → α1 → Value} {G : Led → Value → Prop} (k : ∀ a0 a1, P2 a0 a1 → G (A a0 a1) (R a0 a1)) : ∀ n r, (∃ a0 a1, r = R a0 a1 ∧ n = A a0 a1 ∧ P2 a0 a1) → G n r := by
  rintro n r ⟨a0, a1, rfl, rfl, h2⟩
  exact k a0 a1 h2
theorem elq_0_2_4_0_3 {α0 α1 : Type} {P1 P2 : α0 → α1 → Prop} {A : α0 → α1 → Led} {R : α0 → α1 → Value} {G : Led → Value → Prop} (k : ∀ a0 a1, P1 a0 a1 → P2 a0 a1 → G (A a0 a1) (R a0 a1)) : ∀ n r, (∃ a0 a1, n = A a0 a1 ∧ P1 a0 a1 ∧ P2 a0 a1 ∧ r = R a0 a1) → G n r := by
  rintro n r ⟨a0, a1, rfl, h1, h2, rfl⟩
  exact k a0 a1 h1 h2
theorem elq_0_2_8_1_0 {α0 α1 : Type} {P2 P3 P4 P5 P6 P7 : α0 → α1 → Prop} {A : α0 → α1 → Led} {R : α0 → α1 → Value} {G : Led → Value → Prop} (k : ∀ a0 a1, P2 a0 a1 → P3 a0 a1 → P4 a0 a1 → P5 a0 a1 → P6 a0 a1 → P7 a0 a1 → G (A a0 a1) (R a0 a1)) : ∀ n r, (∃ a0 a1, r = R a0 a1 ∧ n = A a0 a1 ∧ P2 a0 a1 ∧ P3 a0 a1 ∧ P4 a0 a1 ∧ P5 a0 a1 ∧ P6 a0 a1 ∧ P7 a0 a1) → G n r := by
  rintro n r ⟨a0, a1, rfl, rfl, h2, h3, h4, h5, h6, h7⟩
  exact k a0 a1 h2 h3 h4 h5 h6 h7
theorem elq_0_3_2_1_0 {α0 α1 α2 : Type} {A : α0 → α1 → α2 → Led} {R : α0 → α1 → α2 → Value} {G : Led → Value → Prop} (k : ∀ a0 a1 a2, G (A a0 a1 a2) (R a0 a1 a2)) : ∀ n r, (∃ a0 a1 a2, r = R a0 a1 a2 ∧ n = A a0 a1 a2) → G n r := by
  rintro n r ⟨a0, a1, a2, rfl, rfl⟩
  exact k a0 a1 a2
theorem elq_0_3_3_0_2 {α0 α1 α2 : Type} {P1 : α0 → α1 → α2 → Prop} {A : α0 → α1 → α2 → Led} {R : α0 → α1 → α2 → Value} {G : Led → Value → Prop} (k : ∀ a0 a1 a2, P1 a0 a1 a2 → G (A a0 a1 a2) (R a0 a1 a2)) : ∀ n r, (∃ a0 a1 a2, n = A a0 a1 a2 ∧ P1 a0 a1 a2 ∧ r = R a0 a1 a2) → G n r := by
  rintro n r ⟨a0, a1, a2, rfl, h1, rfl⟩
  exact k a0 a1 a2 h1
theorem elq_0_3_4_0_2 {α0 α1 α2 : Type} {P1 P3 : α0 → α1 → α2 → Prop} {A : α0 → α1 → α2 → Led} {R : α0 → α1 → α2 → Value} {G : Led → Value → Prop} (k : ∀ a0 a1 a2, P1 a0 a1 a2 → P3 a0 a1 a2 → G (A a0 a1 a2) (R a0 a1 a2)) : ∀ n r, (∃ a0 a1 a2, n = A a0 a1 a2 ∧ P1 a0 a1 a2 ∧ r = R a0 a1 a2 ∧ P3 a0 a1 a2) → G n r := by
  rintro n r ⟨a0, a1, a2, rfl, h1, rfl, h3⟩
  exact k a0 a1 a2 h1 h3
theorem elq_0_3_5_0_4 {α0 α1 α2 : Type} {P1 P2 P3 : α0 → α1 → α2 → Prop} {A : α0 → α1 → α2 → Led} {R : α0 → α1 → α2 → Value} {G : Led → Value → Prop} (k : ∀ a0 a1 a2, P1 a0 a1 a2 → P2 a0 a1 a2 → P3 a0 a1 a2 → G (A a0 a1 a2) (R a0 a1 a2)) : ∀ n r, (∃ a0 a1 a2, n = A a0 a1 a2 ∧ P1 a0 a1 a2 ∧ P2 a0 a1 a2 ∧ P3 a0 a1 a2 ∧ r = R a0 a1 a2) → G n r := by
  rintro n r ⟨a0, a1, a2, rfl, h1, h2, h3, rfl⟩
  exact k a0 a1 a2 h1 h2 h3
theorem elq_0_3_9_1_0 {α0 α1 α2 : Type} {P2 P3 P4 P5 P6 P7 P8 : α0 → α1 → α2 → Prop} {A : α0 → α1 → α2 → Led} {R : α0 → α1 → α2 → Value} {G : Led → Value → Prop} (k : ∀ a0 a1 a2, P2 a0 a1 a2 → P3 a0 a1 a2 → P4 a0 a1 a2 → P5 a0 a1 a2 → P6 a0 a1 a2 → P7 a0 a1 a2 → P8 a0 a1 a2 → G (A a0 a1 a2) (R a0 a1 a2)) : ∀ n r, (∃ a0 a1 a2, r = R a0 a1 a2 ∧ n = A a0 a1 a2 ∧ P2 a0 a1 a2 ∧ P3 a0 a1 a2 ∧ P4 a0 a1 a2 ∧ P5 a0 a1 a2 ∧ P6 a0 a1 a2 ∧ P7 a0 a1 a2 ∧ P8 a0 a1 a2) → G n r := by
  rintro n r ⟨a0, a1, a2, rfl, rfl, h2, h3, h4, h5, h6, h7, h8⟩
  exact k a0 a1 a2 h2 h3 h4 h5 h6 h7 h8
theorem elq_0_5_7_1_0 {α0 α1 α2 α3 α4 : Type} {P2 P3 P4 P5 P6 : α0 → α1 → α2 → α3 → α4 → Prop} {A : α0 → α1 → α2 → α3 → α4 → Led} {R : α0 → α1 → α2 → α3 → α4 → Value} {G : Led → Value → Prop} (k : ∀ a0 a1 a2 a3 a4, P2 a0 a1 a2 a3 a4 → P3 a0 a1 a2 a3 a4 → P4 a0 a1 a2 a3 a4 → P5 a0 a1 a2 a3 a4 → P6 a0 a1 a2 a3 a4 → G (A a0 a1 a2 a3 a4) (R a0 a1 a2 a3 a4)) : ∀ n r, (∃ a0 a1 a2 a3 a4, r = R a0 a1 a2 a3 a4 ∧ n = A a0 a1 a2 a3 a4 ∧ P2 a0 a1 a2 a3 a4 ∧ P3 a0 a1 a2 a3 a4 ∧ P4 a0 a1 a2 a3 a4 ∧ P5 a0 a1 a2 a3 a4 ∧ P6 a0 a1 a2 a3 a4) → G n r := by
  rintro n r ⟨a0, a1, a2, a3, a4, rfl, rfl, h2, h3, h4, h5, h6⟩
  exact k a0 a1 a2 a3 a4 h2 h3 h4 h5 h6
theorem elq_0_5_8_2_0 {α0 α1 α2 α3 α4 : Type} {P1 P3 P4 P5 P6 P7 : α0 → α1 → α2 → α3 → α4 → Prop} {A : α0 → α1 → α2 → α3 → α4 → Led} {R : α0 → α1 → α2 → α3 → α4 → Value} {G : Led → Value → Prop} (k : ∀ a0 a1 a2 a3 a4, P1 a0 a1 a2 a3 a4 → P3 a0 a1 a2 a3 a4 → P4 a0 a1 a2 a3 a4 → P5 a0 a1 a2 a3 a4 → P6 a0 a1 a2 a3 a4 → P7 a0 a1 a2 a3 a4 → G (A a0 a1 a2 a3 a4) (R a0 a1 a2 a3 a4)) : ∀ n r, (∃ a0 a1 a2 a3 a4, r = R a0 a1 a2 a3 a4 ∧ P1 a0 a1 a2 a3 a4 ∧ n = A a0 a1 a2 a3 a4 ∧ P3 a0 a1 a2 a3 a4 ∧ P4 a0 a1 a2 a3 a4 ∧ P5 a0 a1 a2 a3 a4 ∧ P6 a0 a1 a2 a3 a4 ∧ P7 a0 a1 a2 a3 a4) → G n r := by
  rintro n r ⟨a0, a1, a2, a3, a4, rfl, h1, rfl, h3, h4, h5, h6, h7⟩
  exact k a0 a1 a2 a3 a4 h1 h3 h4 h5 h6 h7
theorem elq_0_5_10_1_0 {α0 α1 α2 α3 α4 : Type} {P2 P3 P4 P5 P6 P7 P8 P9 : α0 → α1 → α2 → α3 → α4 → Prop} {A : α0 → α1 → α2 → α3 → α4 → Led} {R : α0 → α1 → α2 → α3 → α4 → Value} {G : Led → Value → Prop} (k : ∀ a0 a1 a2 a3 a4, P2 a0 a1 a2 a3 a4 → P3 a0 a1 a2 a3 a4 → P4 a0 a1 a2 a3 a4 → P5 a0 a1 a2 a3 a4 → P6 a0 a1 a2 a3 a4 → P7 a0 a1 a2 a3 a4 → P8 a0 a1 a2 a3 a4 → P9 a0 a1 a2 a3 a4 → G (A a0 a1 a2 a3 a4) (R a0 a1 a2 a3 a4)) : ∀ n r, (∃ a0 a1 a2 a3 a4, r = R a0 a1 a2 a3 a4 ∧ n = A a0 a1 a2 a3 a4 ∧ P2 a0 a1 a2 a3 a4 ∧ P3 a0 a1 a2 a3 a4 ∧ P4 a0 a1 a2 a3 a4 ∧ P5 a0 a1 a2 a3 a4 ∧ P6 a0 a1 a2 a3 a4 ∧ P7 a0 a1 a2 a3 a4 ∧ P8 a0 a1 a2 a3 a4 ∧ P9 a0 a1 a2 a3 a4) → G n r := by
  rintro n r ⟨a0, a1, a2, a3, a4, rfl, rfl, h2, h3, h4, h5, h6, h7, h8, h9⟩
  exact k a0 a1 a2 a3 a4 h2 h3 h4 h5 h6 h7 h8 h9
theorem elq_0_7_2_1_0 {α0 α1 α2 α3 α4 α5 α6 : Type} {A : α0 → α1 → α2 → α3 → α4 → α5 → α6 → Led} {R : α0 → α1 → α2 → α3 → α4 → α5 → α6 → Value} {G : Led → Value → Prop} (k : ∀ a0 a1 a2 a3 a4 a5 a6, G (A a0 a1 a2 a3 a4 a5 a6) (R a0 a1 a2 a3 a4 a5 a6)) : ∀ n r, (∃ a0 a1 a2 a3 a4 a5 a6, r = R a0 a1 a2 a3 a4 a5 a6 ∧ n = A a0 a1 a2 a3 a4 a5 a6) → G n r := by
  rintro n r ⟨a0, a1, a2, a3, a4, a5, a6, rfl, rfl⟩
  exact k a0 a1 a2 a3 a4 a5 a6
theorem elq_0_7_4_0_1 {α0 α1 α2 α3 α4 α5 α6 : Type} {P2 P3 : α0 → α1 → α2 → α3 → α4 → α5 → α6 → Prop} {A : α0 → α1 → α2 → α3 → α4 → α5 → α6 → Led} {R : α0 → α1 → α2 → α3 → α4 → α5 → α6 → Value} {G : Led → Value → Prop} (k : ∀ a0 a1 a2 a3 a4 a5 a6, P2 a0 a1 a2 a3 a4 a5 a6 → P3 a0 a1 a2 a3 a4 a5 a6 → G (A a0 a1 a2 a3 a4 a5 a6) (R a0 a1 a2 a3 a4 a5 a6)) : ∀ n r, (∃ a0 a1 a2 a3 a4 a5 a6, n = A a0 a1 a2 a3 a4 a5 a6 ∧ r = R a0 a1 a2 a3 a4 a5 a6 ∧ P2 a0 a1 a2 a3 a4 a5 a6 ∧ P3 a0 a1 a2 a3 a4 a5 a6) → G n r := by
  rintro n r ⟨a0, a1, a2, a3, a4, a5, a6, rfl, rfl, h2, h3⟩
  exact k a0 a1 a2 a3 a4 a5 a6 h2 h3
theorem elq_0_9_9_0_8 {α0 α1 α2 α3 α4 α5 α6 α7 α8 : Type} {P1 P2 P3 P4 P5 P6 P7 : α0 → α1 → α2 → α3 → α4 → α5 → α6 → α7 → α8 → Prop} {A : α0 → α1 → α2 → α3 → α4 → α5 → α6 → α7 → α8 → Led} {R : α0 → α1 → α2 → α3 → α4 → α5 → α6 → α7 → α8 → Value} {G : Led → Value → Prop} (k : ∀ a0 a1 a2 a3 a4 a5 a6 a7 a8, P1 a0 a1 a2 a3 a4 a5 a6 a7 a8 → P2 a0 a1 a2 a3 a4 a5 a6 a7 a8 → P3 a0 a1 a2 a3 a4 a5 a6 a7 a8 → P4 a0 a1 a2 a3 a4 a5 a6 a7 a8 → P5 a0 a1 a2 a3 a4 a5 a6 a7 a8 → P6 a0 a1 a2 a3 a4 a5 a6 a7 a8 → P7 a0 a1 a2 a3 a4 a5 a6 a7 a8 → G (A a0 a1 a2 a3 a4 a5 a6 a7 a8) (R a0 a1 a2 a3 a4 a5 a6 a7 a8)) : ∀ n r, (∃ a0 a1 a2 a3 a4 a5 a6 a7 a8, n = A a0 a1 a2 a3 a4 a5 a6 a7 a8 ∧ P1 a0 a1 a2 a3 a4 a5 a6 a7 a8 ∧ P2 a0 a1 a2 a3 a4 a5 a6 a7 a8 ∧ P3 a0 a1 a2 a3 a4 a5 a6 a7 a8 ∧ P4 a0 a1 a2 a3 a4 a5 a6 a7 a8 ∧ P5 a0 a1 a2 a3 a4 a5 a6 a7 a8 ∧ P6 a0 a1 a2 a3 a4 a5 a6 a7 a8 ∧ P7 a0 a1 a2 a3 a4 a5 a6 a7 a8 ∧ r = R a0 a1 a2 a3 a4 a5 a6 a7 a8) → G n r := by
  rintro n r ⟨a0, a1, a2, a3, a4, a5, a6, a7, a8, rfl, h1, h2, h3, h4, h5, h6, h7, rfl⟩
  exact k a0 a1 a2 a3 a4 a5 a6 a7 a8 h1 h2 h3 h4 h5 h6 h7
theorem elq_1_1_1_0_1 {α0 : Type} {A : Led} {R : α0 → Value} {G : Led → Value → Prop} (k : ∀ a0, G (A) (R a0)) : ∀ n r, (n = A ∧ ∃ a0, r = R a0) → G n r := by
  rintro n r ⟨rfl, a0, rfl⟩
  exact k a0
end Mine
end
section
-- MK
namespace Mine

/-! A dict keyed by tuples (op, args, sort, data): a str, a tuple of ints, two ints. -/
structure TKey where
  op : Str
  args : List Int
  sort : Int
  data : Int
  deriving DecidableEq

section
variable {prog : Program} {w : World}

inductive IsTKey (prog : Program) (w : World) (h : Heap) (k : TKey) (a : Addr) : Prop
  | mk (o : Obj) (t1 : Tok) (b : Addr) (t3 t4 : Tok) (n : Nat) (ho : h.get? a = some o) (hc : o.cls = .type "tuple") (hd : o.data = .seq #[.str k.op t1, .ref b, .int k.sort t3, .int k.data t4] n) (hi : IsTupleKey (intKind prog w) h k.args b) : IsTKey prog w h k a

theorem IsTKey.typeIs {s : Shared} {k : TKey} {a : Addr} (x : IsTKey prog w s.heap k a) : s.TypeIs (.ref a) "tuple" := by
  cases x with
  | mk o _ _ _ _ _ ho hc _ _ => exact ⟨o, ho, hc⟩

theorem IsTKey.inj {h : Heap} {a : Addr} {x y : TKey} (hx : IsTKey prog w h x a) (hy : IsTKey prog w h y a) : x = y := by
  obtain ⟨o, t1, b, t3, t4, n, ho, _, hd, hi⟩ := hx
  obtain ⟨o', t1', b', t3', t4', n', ho', _, hd', hi'⟩ := hy
  obtain rfl : o = o' := Option.some.inj (ho.symm.trans ho')
  rw [hd] at hd'
  obtain ⟨xo, xa, xs, xd⟩ := x
  obtain ⟨yo, ya, ys, yd⟩ := y
  simp only [Data.seq.injEq, Array.mk.injEq, List.cons.injEq, Value.str.injEq, Value.ref.injEq, Value.int.injEq] at hd'
  obtain ⟨⟨⟨rfl, _⟩, rfl, ⟨rfl, _⟩, ⟨rfl, _⟩, _⟩, _⟩ := hd'
  have e := hi.inj hi'
  dsimp only at e
  rw [e]

theorem isTupleKey_of_keep {K : Type} [DecidableEq K] {knd : KeyKind prog w K} {h h' : Heap} {ks : List K} {a : Addr} (x : IsTupleKey knd h ks a) (k : ∀ o xs n, h.get? a = some o → o.data = .seq xs n → h'.get? a = some o) : IsTupleKey knd h' ks a := by
  obtain ⟨o, items, n, ho, hc, hd, hi⟩ := x
  exact ⟨o, items, n, k o items n ho hd, hc, hd, hi⟩
theorem IsTKey.of_keep {h h' : Heap} {x : TKey} {a : Addr} (hx : IsTKey prog w h x a) (k : ∀ a o xs n, h.get? a = some o → o.data = .seq xs n → h'.get? a = some o) : IsTKey prog w h' x a := by
  obtain ⟨o, t1, b, t3, t4, n, ho, hc, hd, hi⟩ := hx
  exact ⟨o, t1, b, t3, t4, n, k _ _ _ _ ho hd, hc, hd, isTupleKey_of_keep hi (k b)⟩
theorem IsTKey.keeps {h h' : Heap} {k : TKey} {a d : Addr} {o : Obj} {es ep} (x : IsTKey prog w h k a) (ho : h.get? d = some o) (hd : o.data = .dict es ep) (hs : Heap.SameBut d h h') :
    IsTKey prog w h' k a :=
  x.of_keep fun a o' xs n ho' hd' => by
    have hne : a ≠ d := by
      rintro rfl
      obtain rfl : o' = o := Option.some.inj (ho'.symm.trans ho)
      rw [hd] at hd'; exact nomatch hd'
    exact (hs.2 a hne).trans ho'

noncomputable def tHashes (prog : Program) (w : World) (k : TKey) : List Int := [(strKind prog w).hash k.op, tupleKeyHash (intKind prog w) k.args, (intKind prog w).hash k.sort, (intKind prog w).hash k.data]
noncomputable def tKeyHash (prog : Program) (w : World) (k : TKey) : Int := reduceHash (Builtin.Tuple.tupleHashOf (tHashes prog w k))

variable {A : Around} {E : Value → Shared → Prop} {s : Shared}

theorem wpAny_pyHash_tKey {k : TKey} {a : Addr} {Q : Int → Shared → Prop} (hu : A.units + 1 < cLine) (hk : IsTKey prog w s.heap k a) (h : Q (tKeyHash prog w k) { s with toks := s.toks + (k.args.length + 5) }) :
    wpAny (model prog w) A (pyHash (.ref a)) Q E s := by
  have hT := hk.typeIs
  obtain ⟨o, t1, b, t3, t4, n, ho, _, hd, hi⟩ := hk
  unfold pyHash
  unfold pyHashByItsType
  refine wpAny_bind (wpAny_cRoomFor_or (.inr (by omega)) ?_)
  refine wpAny_bind (wpAny_specialOf hT F.slot_tuple_hash.lookup ?_)
  show wpAny _ _ (if (some (Value.builtin "tuple.__hash__") == some Value.none) = true then _ else _) Q E s
  rw [if_neg (by rw [beq_builtin_none]; exact Bool.false_ne_true)]
  refine wpAny_bind (wpAny_specialOf hT F.slot_tuple_hash.lookup ?_)
  show wpAny _ _ (callSpecialIfBoundUnlessNone? (.ref a) "__hash__" _ >>= _) Q E s
  refine wpAny_bind (wpAny_callSpecialIfBoundUnlessNone?_slot hT F.slot_tuple_hash (wpAny_call_entry F.slot_tuple_hash hT F.entry_tuple_hash ?_ (F.args_tuple_hash_1 _)))
  show wpAny _ _ (Builtin.Tuple.tupleItemsOf (.ref a) >>= _) _ _ s
  refine wpAny_bind (wpAny_tupleItemsOf ho hd ?_)
  refine wpAny_bind ?_
  rw [← Array.forIn_toList]
  simp only [List.forIn_cons, List.forIn_nil]
  refine wpAny_bind (wpAny_bind ((strKind prog w).pyHash (strKind_is prog w _ _) (wpAny_pure ?_)))
  refine wpAny_bind (wpAny_bind (wpAny_pyHash_tuple (by show A.units + 1 < cLine; omega) hi (wpAny_pure ?_)))
  refine wpAny_bind (wpAny_bind ((intKind prog w).pyHash (intKind_is prog w _ _) (wpAny_pure ?_)))
  refine wpAny_bind (wpAny_bind ((intKind prog w).pyHash (intKind_is prog w _ _) (wpAny_pure (wpAny_pure ?_))))
  have e : s.toks + 1 + (k.args.length + 1) + 1 + 1 + 1 = s.toks + (k.args.length + 5) := by omega
  show wpAny _ _ (retInt (Builtin.Tuple.tupleHashOf (tHashes prog w k))) _ _ _
  refine wpAny_ret_mkInt ?_
  show wpAny _ _ (if (decide (-(2 : Int) ^ 63 ≤ Builtin.Tuple.tupleHashOf (tHashes prog w k)) && decide (Builtin.Tuple.tupleHashOf (tHashes prog w k) < 2 ^ 63)) = true then _ else _) Q E _
  unfold tKeyHash reduceHash at h
  by_cases hr : (decide (-(2 : Int) ^ 63 ≤ Builtin.Tuple.tupleHashOf (tHashes prog w k)) && decide (Builtin.Tuple.tupleHashOf (tHashes prog w k) < 2 ^ 63)) = true
  · rw [if_pos hr]
    rw [if_pos hr] at h
    exact wpAny_pure (by simpa only [e] using h)
  · rw [if_neg hr]
    rw [if_neg hr] at h
    exact wpAny_bind (wpAny_rule (wpAny_pure (by simpa only [e] using h)))

theorem tKey_eq_tree {x y : TKey} {a b : Addr} {P : Fin → Shared → Prop} (hu : A.units < cLine) (hx : IsTKey prog w s.heap x a) (hy : IsTKey prog w s.heap y b) (h : P (.done (.ret (.bool (decide (x = y))))) s) :
    wpAny (model prog w) A (Builtin.«tuple.__eq__» ⟨[.ref a, .ref b], []⟩) P E s := by
  have hTb := hy.typeIs
  obtain ⟨oa, t1, c, t3, t4, na, hoa, _, hda, hia⟩ := hx
  obtain ⟨ob, t1', c', t3', t4', nb, hob, _, hdb, hib⟩ := hy
  show wpAny _ _ (isInstance (.ref b) (.type "tuple") >>= _) _ _ s
  refine wpAny_bind (wpAny_isInstance hTb isSubtype_tuple_tuple ?_)
  simp only [Bool.not_true, Bool.false_eq_true, if_false]
  refine wpAny_bind (wpAny_tupleItemsOf hoa hda ?_)
  refine wpAny_bind (wpAny_tupleItemsOf hob hdb ?_)
  obtain ⟨xo, xa, xs, xd⟩ := x
  obtain ⟨yo, ya, ys, yd⟩ := y
  dsimp only at hia hib ⊢
  simp only [TKey.mk.injEq] at h
  refine wpAny_bind ?_
  simp only [List.zip_cons_cons, List.zip_nil_right, List.forIn_cons, List.forIn_nil]
  refine wpAny_bind (wpAny_bind ((strKind prog w).eqBool (strKind_is prog w xo t1) (strKind_is prog w yo t1') ?_))
  by_cases e1 : xo = yo
  case neg =>
    rw [decide_eq_false e1]
    simp only [Bool.not_false, if_true]
    exact wpAny_bind (wpAny_pure (wpAny_pure (wpAny_pure (wpAny_pure (by simpa [e1] using h)))))
  rw [decide_eq_true e1]
  simp only [Bool.not_true, Bool.false_eq_true, if_false]
  refine wpAny_pure (wpAny_bind (wpAny_bind (wpAny_eqBool_tuple hu hia hib ?_)))
  by_cases e2 : xa = ya
  case neg =>
    rw [decide_eq_false e2]
    simp only [Bool.not_false, if_true]
    exact wpAny_bind (wpAny_pure (wpAny_pure (wpAny_pure (wpAny_pure (by simpa [e2] using h)))))
  rw [decide_eq_true e2]
  simp only [Bool.not_true, Bool.false_eq_true, if_false]
  refine wpAny_pure (wpAny_bind (wpAny_bind ((intKind prog w).eqBool (intKind_is prog w xs t3) (intKind_is prog w ys t3') ?_)))
  by_cases e3 : xs = ys
  case neg =>
    rw [decide_eq_false e3]
    simp only [Bool.not_false, if_true]
    exact wpAny_bind (wpAny_pure (wpAny_pure (wpAny_pure (wpAny_pure (by simpa [e3] using h)))))
  rw [decide_eq_true e3]
  simp only [Bool.not_true, Bool.false_eq_true, if_false]
  refine wpAny_pure (wpAny_bind (wpAny_bind ((intKind prog w).eqBool (intKind_is prog w xd t4) (intKind_is prog w yd t4') ?_)))
  by_cases e4 : xd = yd
  case neg =>
    rw [decide_eq_false e4]
    simp only [Bool.not_false, if_true]
    exact wpAny_bind (wpAny_pure (wpAny_pure (wpAny_pure (wpAny_pure (by simpa [e4] using h)))))
  rw [decide_eq_true e4]
  simp only [Bool.not_true, Bool.false_eq_true, if_false]
  have h' : P (.done (.ret (.bool true))) s := by simpa [e1, e2, e3, e4] using h
  exact wpAny_pure (wpAny_pure (wpAny_pure h'))

theorem wpAny_eqBool_tKey {x y : TKey} {a b : Addr} {Q : Bool → Shared → Prop} (hu : A.units + 1 < cLine) (hx : IsTKey prog w s.heap x a) (hy : IsTKey prog w s.heap y b) (h : Q (decide (x = y)) s) :
    wpAny (model prog w) A (eqBool (.ref a) (.ref b)) Q E s := by
  unfold eqBool
  try with_reducible refine wpAny_holding ?_
  show wpAny _ _ (if (Value.ref a == Value.ref b) = true then _ else _) Q E s
  by_cases hab : (Value.ref a == Value.ref b) = true
  · rw [if_pos hab]
    have e : a = b := by have := eq_of_beq hab; injection this
    subst e
    obtain rfl := hx.inj hy
    exact wpAny_bind (wpAny_rule (wpAny_pure (by simpa using h)))
  · rw [if_neg hab]
    exact wpAny_bind (wpAny_richCompare_same_room (op := .Eq) hx.typeIs hy.typeIs F.slot_tuple_eq
      (wpAny_call_entry F.slot_tuple_eq hx.typeIs F.entry_tuple_eq (tKey_eq_tree (by show A.units + 1 < cLine; omega) hx hy ⟨_, rfl, (fun e => nomatch e), wpAny_truthy_bool h⟩) (F.args_tuple_eq_2 _ _)) (by omega))

theorem wpAny_eqIsQuiet_tKey {k : TKey} {a : Addr} {Q : Bool → Shared → Prop} (hk : IsTKey prog w s.heap k a) (h : Q true s) : wpAny (model prog w) A (eqIsQuiet 8 (.ref a)) Q E s := by
  have hT := hk.typeIs
  obtain ⟨o, t1, c, t3, t4, n, ho, _, hd, hi⟩ := hk
  have quietTup : ∀ {Q : Bool → Shared → Prop}, Q true s → wpAny (model prog w) A (eqIsQuiet 7 (.ref c)) Q E s := by
    intro Q h
    have hT := hi.typeIs
    obtain ⟨o, items, n, ho, _, hd, hi⟩ := hi
    unfold eqIsQuiet
    refine wpAny_bind (wpAny_specialOf hT F.slot_tuple_eq.lookup ?_)
    show wpAny _ _ (isInstance (.ref c) (.type "tuple") >>= _) _ _ s
    refine wpAny_bind (wpAny_isInstance hT isSubtype_tuple_tuple ?_)
    simp only [Bool.not_true, Bool.false_eq_true, if_false]
    refine wpAny_bind (wpAny_seqItems ho hd ?_)
    refine wpAny_bind ?_
    show wpAny _ _ (forIn items _ _) _ _ s
    rw [← Array.forIn_toList]
    refine wpAny_forIn_list _ (fun rest r s' => r.1 = none ∧ s' = s ∧ ∀ v ∈ rest, carriedByValue v = true) _ ?_ ?_ _ _ ⟨rfl, rfl, hi.byValue⟩
    · rintro v rest r s' ⟨hr, rfl, hall⟩
      rw [eqIsQuiet_byValue _ (hall v List.mem_cons_self)]
      refine wpAny_bind (wpAny_pure ?_)
      simp only [Bool.not_true, Bool.false_eq_true, if_false]
      exact wpAny_pure ⟨rfl, rfl, fun u hu' => hall u (List.mem_cons_of_mem _ hu')⟩
    · rintro ⟨r1, r2⟩ s' ⟨hr, rfl, _⟩
      simp only at hr
      subst hr
      exact wpAny_pure h
  unfold eqIsQuiet
  refine wpAny_bind (wpAny_specialOf hT F.slot_tuple_eq.lookup ?_)
  show wpAny _ _ (isInstance (.ref a) (.type "tuple") >>= _) _ _ s
  refine wpAny_bind (wpAny_isInstance hT isSubtype_tuple_tuple ?_)
  simp only [Bool.not_true, Bool.false_eq_true, if_false]
  refine wpAny_bind (wpAny_seqItems ho hd ?_)
  refine wpAny_bind ?_
  show wpAny _ _ (forIn #[Value.str k.op t1, Value.ref c, Value.int k.sort t3, Value.int k.data t4] _ _) _ _ s
  rw [← Array.forIn_toList]
  simp only [List.forIn_cons, List.forIn_nil]
  rw [eqIsQuiet_byValue 7 (v := Value.str k.op t1) rfl, eqIsQuiet_byValue 7 (v := Value.int k.sort t3) rfl, eqIsQuiet_byValue 7 (v := Value.int k.data t4) rfl]
  refine wpAny_bind (wpAny_bind (wpAny_pure ?_))
  simp only [Bool.not_true, Bool.false_eq_true, if_false]
  refine wpAny_pure (wpAny_bind (wpAny_bind (quietTup ?_)))
  simp only [Bool.not_true, Bool.false_eq_true, if_false]
  refine wpAny_pure (wpAny_bind (wpAny_bind (wpAny_pure ?_)))
  simp only [Bool.not_true, Bool.false_eq_true, if_false]
  refine wpAny_pure (wpAny_bind (wpAny_bind (wpAny_pure ?_)))
  simp only [Bool.not_true, Bool.false_eq_true, if_false]
  exact wpAny_pure (wpAny_pure (wpAny_pure h))
end

noncomputable def tKind (prog : Program) (w : World) : HeapKind prog w TKey where
  is := IsTKey prog w
  hash := tKeyHash prog w
  draws := fun k => k.args.length + 5
  room := fun A => A.units + 1 < cLine
  inj := fun hx hy => hx.inj hy
  keeps := fun x ho hd hs => x.keeps ho hd hs
  pyHash := fun hu hk h => wpAny_pyHash_tKey hu hk h
  eqBool := fun hu hx hy h => wpAny_eqBool_tKey hu hx hy h
  quiet := fun hk h => wpAny_eqIsQuiet_tKey hk h
end Mine
end
section
-- BK
namespace Mine

set_option genInjectivity false in
set_option genSizeOf false in
/-- the bank, as the ledger bears it -/
structure Bk where
  inst : Addr
  dct : Addr
  dn : Nat
  tk : Nat → Tok
  snA : Addr
  swA : Addr
  fcT : Tok
  trT : Tok
  faT : Tok
  fnA : Addr
  fn : List Value
  fnN : Nat
  faA : Addr
  fa : List Value
  faN : Nat
  frA : Addr
  fr : List Value
  frN : Nat
  opA : Addr
  op : List Value
  opN : Nat
  arA : Addr
  ar : List Value
  arN : Nat
  soA : Addr
  so : List Value
  soN : Nat
  daA : Addr
  da : List Value
  daN : Nat
  nuA : Addr
  nuO : Obj

noncomputable def bAttrs (w : World) (b : Bk) : List DictEntry := [
  ⟨PyData.keyHash w.params "sort_names", .str "sort_names" (b.tk 0), .ref b.snA⟩,
  ⟨PyData.keyHash w.params "sort_widths", .str "sort_widths" (b.tk 1), .ref b.swA⟩,
  ⟨PyData.keyHash w.params "fun_names", .str "fun_names" (b.tk 2), .ref b.fnA⟩,
  ⟨PyData.keyHash w.params "fun_args", .str "fun_args" (b.tk 3), .ref b.faA⟩,
  ⟨PyData.keyHash w.params "fun_results", .str "fun_results" (b.tk 4), .ref b.frA⟩,
  ⟨PyData.keyHash w.params "fresh_count", .str "fresh_count" (b.tk 5), .int 0 b.fcT⟩,
  ⟨PyData.keyHash w.params "term_ops", .str "term_ops" (b.tk 6), .ref b.opA⟩,
  ⟨PyData.keyHash w.params "term_args", .str "term_args" (b.tk 7), .ref b.arA⟩,
  ⟨PyData.keyHash w.params "term_sorts", .str "term_sorts" (b.tk 8), .ref b.soA⟩,
  ⟨PyData.keyHash w.params "term_datas", .str "term_datas" (b.tk 9), .ref b.daA⟩,
  ⟨PyData.keyHash w.params "numbers", .str "numbers" (b.tk 10), .ref b.nuA⟩,
  ⟨PyData.keyHash w.params "true_number", .str "true_number" (b.tk 11), .int 1 b.trT⟩,
  ⟨PyData.keyHash w.params "false_number", .str "false_number" (b.tk 12), .int 2 b.faT⟩]

noncomputable def bled (w : World) (b : Bk) : Led := [
  (b.inst, instObj 400 b.dct), (b.dct, dictOf (bAttrs w b) b.dn),
  (b.fnA, listOf b.fn.toArray b.fnN), (b.faA, listOf b.fa.toArray b.faN), (b.frA, listOf b.fr.toArray b.frN),
  (b.opA, listOf b.op.toArray b.opN), (b.arA, listOf b.ar.toArray b.arN), (b.soA, listOf b.so.toArray b.soN), (b.daA, listOf b.da.toArray b.daN),
  (b.nuA, b.nuO)]

section
variable {w : World} {b : Bk} {r : Led}
theorem bm_inst : (b.inst, instObj 400 b.dct) ∈ bled w b ++ r := mem_at 0 rfl
theorem bm_dct : (b.dct, dictOf (bAttrs w b) b.dn) ∈ bled w b ++ r := mem_at 1 rfl
theorem bm_fn : (b.fnA, listOf b.fn.toArray b.fnN) ∈ bled w b ++ r := mem_at 2 rfl
theorem bm_fa : (b.faA, listOf b.fa.toArray b.faN) ∈ bled w b ++ r := mem_at 3 rfl
theorem bm_fr : (b.frA, listOf b.fr.toArray b.frN) ∈ bled w b ++ r := mem_at 4 rfl
theorem bm_op : (b.opA, listOf b.op.toArray b.opN) ∈ bled w b ++ r := mem_at 5 rfl
theorem bm_ar : (b.arA, listOf b.ar.toArray b.arN) ∈ bled w b ++ r := mem_at 6 rfl
theorem bm_so : (b.soA, listOf b.so.toArray b.soN) ∈ bled w b ++ r := mem_at 7 rfl
theorem bm_da : (b.daA, listOf b.da.toArray b.daN) ∈ bled w b ++ r := mem_at 8 rfl
theorem bm_nu : (b.nuA, b.nuO) ∈ bled w b ++ r := mem_at 9 rfl
theorem bm_r {p : Addr × Obj} (h : p ∈ r) : p ∈ bled w b ++ r := List.mem_append_right _ h

theorem bu_fn {D : Addr} {v : List Value} {n : Nat} (h : Nd (bled w b ++ r)) (e : D = b.fnA := by rfl) : Upd D (listOf b.fn.toArray b.fnN) (listOf v.toArray n) (bled w b ++ r) (bled w { b with fn := v, fnN := n } ++ r) := by
  subst e
  exact upd_nd (pre := (bled w b).take 2) (post := (bled w b ++ r).drop 3) h
theorem bu_fa {D : Addr} {v : List Value} {n : Nat} (h : Nd (bled w b ++ r)) (e : D = b.faA := by rfl) : Upd D (listOf b.fa.toArray b.faN) (listOf v.toArray n) (bled w b ++ r) (bled w { b with fa := v, faN := n } ++ r) := by
  subst e
  exact upd_nd (pre := (bled w b).take 3) (post := (bled w b ++ r).drop 4) h
theorem bu_fr {D : Addr} {v : List Value} {n : Nat} (h : Nd (bled w b ++ r)) (e : D = b.frA := by rfl) : Upd D (listOf b.fr.toArray b.frN) (listOf v.toArray n) (bled w b ++ r) (bled w { b with fr := v, frN := n } ++ r) := by
  subst e
  exact upd_nd (pre := (bled w b).take 4) (post := (bled w b ++ r).drop 5) h
theorem bu_op {D : Addr} {v : List Value} {n : Nat} (h : Nd (bled w b ++ r)) (e : D = b.opA := by rfl) : Upd D (listOf b.op.toArray b.opN) (listOf v.toArray n) (bled w b ++ r) (bled w { b with op := v, opN := n } ++ r) := by
  subst e
  exact upd_nd (pre := (bled w b).take 5) (post := (bled w b ++ r).drop 6) h
theorem bu_ar {D : Addr} {v : List Value} {n : Nat} (h : Nd (bled w b ++ r)) (e : D = b.arA := by rfl) : Upd D (listOf b.ar.toArray b.arN) (listOf v.toArray n) (bled w b ++ r) (bled w { b with ar := v, arN := n } ++ r) := by
  subst e
  exact upd_nd (pre := (bled w b).take 6) (post := (bled w b ++ r).drop 7) h
theorem bu_so {D : Addr} {v : List Value} {n : Nat} (h : Nd (bled w b ++ r)) (e : D = b.soA := by rfl) : Upd D (listOf b.so.toArray b.soN) (listOf v.toArray n) (bled w b ++ r) (bled w { b with so := v, soN := n } ++ r) := by
  subst e
  exact upd_nd (pre := (bled w b).take 7) (post := (bled w b ++ r).drop 8) h
theorem bu_da {D : Addr} {v : List Value} {n : Nat} (h : Nd (bled w b ++ r)) (e : D = b.daA := by rfl) : Upd D (listOf b.da.toArray b.daN) (listOf v.toArray n) (bled w b ++ r) (bled w { b with da := v, daN := n } ++ r) := by
  subst e
  exact upd_nd (pre := (bled w b).take 8) (post := (bled w b ++ r).drop 9) h
theorem bu_nu {D : Addr} (h : Nd (bled w b ++ r)) (e : D = b.nuA := by rfl) : UpdF D b.nuO (bled w b ++ r) (fun o' => bled w { b with nuO := o' } ++ r) := by
  subst e
  exact updF_nd (pre := (bled w b).take 9) (post := r) h
end
end Mine
end
section
-- SY
namespace Mine
noncomputable abbrev tupOf (its : List Value) (n : Nat) : Obj := { cls := .type "tuple", data := .seq its.toArray n }
set_option genInjectivity false in
set_option genSizeOf false in
/-- the symbols, as the ledger bears them -/
structure Sy where
  inst : Addr
  dct : Addr
  dn : Nat
  tk : Nat → Tok
  bk : Addr
  srA : Addr
  nsT : Tok
  fuA : Addr
  fuO : Obj
  brA : Addr
  br : List Value
  brN : Nat
  scA : Addr
  sc : List Value
  scN : Nat
  leA : Addr
  le : List Value
  leN : Nat
noncomputable def sAttrs (w : World) (y : Sy) : List DictEntry := [
  ⟨PyData.keyHash w.params "bank", .str "bank" (y.tk 0), .ref y.bk⟩,
  ⟨PyData.keyHash w.params "sorts", .str "sorts" (y.tk 1), .ref y.srA⟩,
  ⟨PyData.keyHash w.params "functions", .str "functions" (y.tk 2), .ref y.fuA⟩,
  ⟨PyData.keyHash w.params "brought", .str "brought" (y.tk 3), .ref y.brA⟩,
  ⟨PyData.keyHash w.params "scopes", .str "scopes" (y.tk 4), .ref y.scA⟩,
  ⟨PyData.keyHash w.params "lets", .str "lets" (y.tk 5), .ref y.leA⟩,
  ⟨PyData.keyHash w.params "numeral_sort", .str "numeral_sort" (y.tk 6), .int 1 y.nsT⟩]
noncomputable def sled (w : World) (y : Sy) : Led := [
  (y.inst, instObj 558 y.dct), (y.dct, dictOf (sAttrs w y) y.dn), (y.fuA, y.fuO),
  (y.brA, listOf y.br.toArray y.brN), (y.scA, listOf y.sc.toArray y.scN), (y.leA, listOf y.le.toArray y.leN)]
section
variable {w : World} {b : Bk} {y : Sy} {r : Led}
theorem sm_inst : (y.inst, instObj 558 y.dct) ∈ sled w y ++ r := mem_at 0 rfl
theorem sm_dct : (y.dct, dictOf (sAttrs w y) y.dn) ∈ sled w y ++ r := mem_at 1 rfl
theorem sm_fu : (y.fuA, y.fuO) ∈ sled w y ++ r := mem_at 2 rfl
theorem sm_br : (y.brA, listOf y.br.toArray y.brN) ∈ sled w y ++ r := mem_at 3 rfl
theorem sm_sc : (y.scA, listOf y.sc.toArray y.scN) ∈ sled w y ++ r := mem_at 4 rfl
theorem sm_le : (y.leA, listOf y.le.toArray y.leN) ∈ sled w y ++ r := mem_at 5 rfl
theorem sm_r {p : Addr × Obj} (h : p ∈ r) : p ∈ sled w y ++ r := List.mem_append_right _ h
theorem su_fu {D : Addr} (h : Nd (bled w b ++ (sled w y ++ r))) (e : D = y.fuA := by rfl) : UpdF D y.fuO (bled w b ++ (sled w y ++ r)) (fun o' => bled w b ++ (sled w { y with fuO := o' } ++ r)) := by
  subst e
  exact updF_nd (pre := bled w b ++ (sled w y).take 2) (post := (sled w y ++ r).drop 3) h
theorem su_br {D : Addr} {v : List Value} {n : Nat} (h : Nd (bled w b ++ (sled w y ++ r))) (e : D = y.brA := by rfl) : Upd D (listOf y.br.toArray y.brN) (listOf v.toArray n) (bled w b ++ (sled w y ++ r)) (bled w b ++ (sled w { y with br := v, brN := n } ++ r)) := by
  subst e
  exact upd_nd (pre := bled w b ++ (sled w y).take 3) (post := (sled w y ++ r).drop 4) h
theorem su_sc {D : Addr} {v : List Value} {n : Nat} (h : Nd (bled w b ++ (sled w y ++ r))) (e : D = y.scA := by rfl) : Upd D (listOf y.sc.toArray y.scN) (listOf v.toArray n) (bled w b ++ (sled w y ++ r)) (bled w b ++ (sled w { y with sc := v, scN := n } ++ r)) := by
  subst e
  exact upd_nd (pre := bled w b ++ (sled w y).take 4) (post := (sled w y ++ r).drop 5) h
theorem su_le {D : Addr} {v : List Value} {n : Nat} (h : Nd (bled w b ++ (sled w y ++ r))) (e : D = y.leA := by rfl) : Upd D (listOf y.le.toArray y.leN) (listOf v.toArray n) (bled w b ++ (sled w y ++ r)) (bled w b ++ (sled w { y with le := v, leN := n } ++ r)) := by
  subst e
  exact upd_nd (pre := bled w b ++ (sled w y).take 5) (post := r) h
theorem nd_of {h₀ h : Heap} {L : Addr} {l l' : Led} (_N : News h₀ L h l') (hn : Nd l) (e : l'.map (·.1) = l.map (·.1)) : Nd l' := by unfold Nd at hn ⊢; rw [e]; exact hn
theorem nd_same {l l' : Led} (h : Nd l) (e : l'.map (·.1) = l.map (·.1)) : Nd l' := by unfold Nd at h ⊢; rw [e]; exact h
end

theorem int_eq {a b : Int} {t : Tok} (h : a = b) : ∃ t', Value.int a t = .int b t' := ⟨t, by rw [h]⟩
section
variable {prog : Program} {w : World} {A : Around} {E : Value → Shared → Prop} {s : Shared} {h₀ : Heap} {L D : Addr} {m : Str → Option Value} {news news' : Led} {its : List Value} {n : Nat}
theorem eqF {a b : Int} {t u : Tok} {Q : Value → Shared → Prop} (h : a ≠ b) (k : Q (.bool false) s) : wpAny (model prog w) A (compareOp .Eq (.int a t) (.int b u)) Q E s := PyProof.Rows.eq_int (by rw [show (a == b) = false from by simpa using h]; exact k)
theorem eqT {a b : Int} {t u : Tok} {Q : Value → Shared → Prop} (h : a = b) (k : Q (.bool true) s) : wpAny (model prog w) A (compareOp .Eq (.int a t) (.int b u)) Q E s := PyProof.Rows.eq_int (by rw [show (a == b) = true from by simpa using h]; exact k)
theorem neF {a b : Int} {t u : Tok} {Q : Value → Shared → Prop} (h : a = b) (k : Q (.bool false) s) : wpAny (model prog w) A (compareOp .NotEq (.int a t) (.int b u)) Q E s := PyProof.Rows.ne_int (by rw [show (a != b) = false from by simpa using h]; exact k)
theorem neT {a b : Int} {t u : Tok} {Q : Value → Shared → Prop} (h : a ≠ b) (k : Q (.bool true) s) : wpAny (model prog w) A (compareOp .NotEq (.int a t) (.int b u)) Q E s := PyProof.Rows.ne_int (by rw [show (a != b) = true from by simpa using h]; exact k)
theorem ltF {a b : Int} {t u : Tok} {Q : Value → Shared → Prop} (h : ¬ a < b) (k : Q (.bool false) s) : wpAny (model prog w) A (compareOp .Lt (.int a t) (.int b u)) Q E s := PyProof.Rows.lt_int (by rw [show decide (a < b) = false from by simpa using h]; exact k)
theorem ltT {a b : Int} {t u : Tok} {Q : Value → Shared → Prop} (h : a < b) (k : Q (.bool true) s) : wpAny (model prog w) A (compareOp .Lt (.int a t) (.int b u)) Q E s := PyProof.Rows.lt_int (by rw [show decide (a < b) = true from by simpa using h]; exact k)
theorem gtF {a b : Int} {t u : Tok} {Q : Value → Shared → Prop} (h : ¬ b < a) (k : Q (.bool false) s) : wpAny (model prog w) A (compareOp .Gt (.int a t) (.int b u)) Q E s := PyProof.Rows.gt_int (by rw [show decide (b < a) = false from by simpa using h]; exact k)
theorem gtT {a b : Int} {t u : Tok} {Q : Value → Shared → Prop} (h : b < a) (k : Q (.bool true) s) : wpAny (model prog w) A (compareOp .Gt (.int a t) (.int b u)) Q E s := PyProof.Rows.gt_int (by rw [show decide (b < a) = true from by simpa using h]; exact k)
theorem tuple_L {Q : Value → Shared → Prop} (N : News h₀ L s.heap news) (hm : (D, tupOf its n) ∈ news) (h : Q (.ref D) s) : wpAny (model prog w) A (call (.type "tuple") [.ref D]) Q E s :=
  call_tuple_same (items := its.toArray) ⟨_, (N _ hm).1, rfl, _, rfl⟩ h
end
end Mine
end
section
-- TK
namespace Mine

theorem ItemsAre_ints {prog : Program} {w : World} {ks : List Int} {vs : List Value} (h : IntsAre vs ks) : ItemsAre (PySem.intKind prog w) ks vs := by
  induction h with
  | nil => exact .nil
  | cons n t _ ih => exact .cons (PySem.intKind_is prog w _ _) ih

noncomputable def TupL (l : Led) (a : Addr) (ks : List Int) : Prop := ∃ vs n, (a, tupOf vs n) ∈ l ∧ IntsAre vs ks
theorem TupL.mono {l l' : Led} {a : Addr} {ks : List Int} (h : TupL l a ks) (hs : ∀ p ∈ l, p ∈ l') : TupL l' a ks := (by obtain ⟨vs, n, hm, hi⟩ := h; exact ⟨vs, n, hs _ hm, hi⟩)
noncomputable def TKeyL (l : Led) (k : TKey) (a : Addr) : Prop := ∃ t1 c t3 t4 n, (a, tupOf [.str k.op t1, .ref c, .int k.sort t3, .int k.data t4] n) ∈ l ∧ TupL l c k.args
theorem TKeyL.mono {l l' : Led} {k : TKey} {a : Addr} (h : TKeyL l k a) (hs : ∀ p ∈ l, p ∈ l') : TKeyL l' k a := (by obtain ⟨t1, c, t3, t4, n, hm, hi⟩ := h; exact ⟨t1, c, t3, t4, n, hs _ hm, hi.mono hs⟩)
theorem TKeyL.is {prog : Program} {w : World} {h₀ h : Heap} {L : Addr} {l : Led} (N : News h₀ L h l) {k : TKey} {a : Addr} (x : TKeyL l k a) : (tKind prog w).is h k a := by
  obtain ⟨t1, c, t3, t4, n, hm, vs, nv, hm2, hi⟩ := x
  exact ⟨_, t1, c, t3, t4, n, (N _ hm).1, rfl, rfl, _, _, nv, (N _ hm2).1, rfl, rfl, ItemsAre_ints hi⟩

/-- an object that is the numbers' dict -/
noncomputable def HD (prog : Program) (w : World) (o : Obj) (xs : List (TKey × Addr × Value)) : Prop := o.ExactDict ∧ (∃ es ep, o.data = .dict es ep ∧ es.toList = xs.map (entryOfKey (tKind prog w))) ∧ (xs.map (·.1)).Nodup

theorem HD.exact {prog : Program} {w : World} {o : Obj} {xs : List (TKey × Addr × Value)} (h : HD prog w o xs) : o.ExactDict := h.1
section
variable {prog : Program} {w : World} {A : Around} {E : Value → Shared → Prop} {s : Shared} {h₀ : Heap} {L d : Addr} {m : Str → Option Value} {news news' r : Led} {o : Obj} {xs : List (TKey × Addr × Value)} {k : TKey} {a : Addr}
theorem HD.of (N : News h₀ L s.heap news) (hm : (d, o) ∈ news) (H : HD prog w o xs) (hk : ∀ x ∈ xs, TKeyL r x.1 x.2.1) (hs : ∀ p ∈ r, p ∈ news) : s.heap.DictOfH (tKind prog w) d xs := by
  obtain ⟨h1, ⟨es, ep, h2, h3⟩, h4⟩ := H
  exact ⟨o, es, ep, (N _ hm).1, h1, h2, h3, fun x hx => ((hk x hx).mono hs).is N, h4⟩
theorem meth_T {name : Str} {id : String} {pl : Sem Bool} {Q : Value × List Value → Shared → Prop} (slot : Slot "dict" name id) (ty : typeOf (.builtin id) = pure (.type "method_descriptor")) (N : News h₀ L s.heap news) (hm : (d, o) ∈ news) (hd : o.ExactDict) (h : Q (.builtin id, [.ref d]) s) :
    wpAny (model prog w) A (getMethod (.ref d) name pl) Q E s :=
  getMethod_builtin (T := "dict") ⟨_, (N _ hm).1, hd.1⟩ PySem.F.plainAttrs_dict slot ty (fun b e => by injection e with e; subst e; exact ⟨_, (N _ hm).1, hd.2.1⟩) h
theorem get_T {dflt : Value} {Q : Value → Shared → Prop} (N : News h₀ L s.heap news) (hm : (d, o) ∈ news) (H : HD prog w o xs) (hk : ∀ x ∈ xs, TKeyL r x.1 x.2.1) (hs : ∀ p ∈ r, p ∈ news) (hu : A.units + 3 < cLine) (lo : (d == sysModules) = false)
    (hkey : TKeyL news k a) (h : ∀ tk, Q (((atKey xs k).map (·.2)).getD dflt) { s with toks := tk }) : wpAny (model prog w) A (call (.builtin "dict.get") [.ref d, .ref a, dflt]) Q E s := by
  have hD := HD.of N hm H hk hs
  refine call_meetsIn PySem.F.slot_dict_get hD.typeIs PySem.F.entry_dict_get (PySem.F.args_dict_get_3 _ _ _) (meetsH_dict_get_default (tKind prog w) d a lo dflt) ⟨?_, k, xs, hkey.is N, hD, ?_⟩
  · show A.in1.units + 1 < cLine
    show A.units + 1 + 1 < cLine
    omega
  · exact h _
theorem set_T {v : Value} {g : Obj → Led} {Q : Unit → Shared → Prop} (F : Fr h₀ L s.heap m) (N : News h₀ L s.heap news) (hm : (d, o) ∈ news) (U : UpdF d o news g) (H : HD prog w o xs) (hk : ∀ x ∈ xs, TKeyL r x.1 x.2.1) (hs : ∀ p ∈ r, p ∈ news) (hu : A.units + 3 < cLine)
    (hkey : TKeyL news k a) (hn : atKey xs k = none) (hl : xs.length ≤ 1000) (h : ∀ h' o' tk, Fr h₀ L h' m → News h₀ L h' (g o') → HD prog w o' (xs ++ [(k, a, v)]) → Q () { s with heap := h', toks := tk }) :
    wpAny (model prog w) A (setItem (.ref d) (.ref a) v) Q E s := by
  obtain ⟨pre, post, rfl, hg, h1, h2⟩ := U.split
  have hD := HD.of N hm H hk hs
  have hz := N (d, o) (List.mem_append_right _ (.head _))
  refine wpAny_setItem_heap (knd := tKind prog w) (by show A.units + 1 + 1 < cLine; omega) (hkey.is N) hD (fun h' hD' hsb => ?_) (by rw [sizeLine_eq]; omega)
  rw [storedH_new hn] at hD'
  obtain ⟨o', es, ep, ho', e1, e2, e3, e4, e5⟩ := hD'
  exact h h' o' _ (F.change hsb hz.2.1 hz.2.2) (hg o' ▸ N.setIn h1 h2 hsb ho') ⟨e1, ⟨es, ep, e2, e3⟩, e5⟩
theorem newTup_R {w : World} {b : Bk} {r : Led} {vs : List Value} {Q : Value → Shared → Prop} (F : Fr h₀ L s.heap m) (N : News h₀ L s.heap (bled w b ++ r)) (ND : Nd (bled w b ++ r)) (hl : vs.length ≤ 100)
    (h : ∀ x h', Fr h₀ L h' m → News h₀ L h' (bled w b ++ ((x, tupOf vs 0) :: r)) → Nd (bled w b ++ ((x, tupOf vs 0) :: r)) → Q (.ref x) { s with heap := h' }) : wpAny (model prog w) A (newTuple vs) Q E s :=
  kup_newTuple F N (fun D h' F' N' l1 => h D h' F' (news_perm N' (List.perm_middle.symm)) (nd_perm (nd_cons ND l1) (List.perm_middle.symm))) (by rw [sizeLine_eq]; omega)
theorem newTup_R2 {w : World} {b : Bk} {y : Sy} {r : Led} {vs : List Value} {Q : Value → Shared → Prop} (F : Fr h₀ L s.heap m) (N : News h₀ L s.heap (bled w b ++ (sled w y ++ r))) (ND : Nd (bled w b ++ (sled w y ++ r))) (hl : vs.length ≤ 100)
    (h : ∀ x h', Fr h₀ L h' m → News h₀ L h' (bled w b ++ (sled w y ++ ((x, tupOf vs 0) :: r))) → Nd (bled w b ++ (sled w y ++ ((x, tupOf vs 0) :: r))) → Q (.ref x) { s with heap := h' }) : wpAny (model prog w) A (newTuple vs) Q E s :=
  kup_newTuple F N (fun D h' F' N' l1 => by
    have p : ((D, tupOf vs 0) :: (bled w b ++ (sled w y ++ r))).Perm (bled w b ++ (sled w y ++ ((D, tupOf vs 0) :: r))) := by
      rw [← List.append_assoc, ← List.append_assoc]; exact List.perm_middle.symm
    exact h D h' F' (news_perm N' p) (nd_perm (nd_cons ND l1) p)) (by rw [sizeLine_eq]; omega)
end
end Mine
end
section
-- BO
namespace Mine

noncomputable def TermAt (b : Bk) (r : Led) (n : Nat) (k : TKey) : Prop := n < b.op.length ∧ (∃ t, b.op[n]? = some (.str k.op t)) ∧ (∃ a, b.ar[n]? = some (.ref a) ∧ TupL r a k.args) ∧ (∃ t, b.so[n]? = some (.int k.sort t)) ∧ ∃ t, b.da[n]? = some (.int k.data t)
structure BOKx (prog : Program) (w : World) (b : Bk) (r : Led) (xs : List (TKey × Addr × Value)) : Prop where
  hd : HD prog w b.nuO xs
  keys : ∀ x ∈ xs, TKeyL r x.1 x.2.1
  vals : ∀ x ∈ xs, ∃ n t, x.2.2 = .int (n : Nat) t ∧ 0 < n ∧ TermAt b r n x.1
  lo : (b.nuA == sysModules) = false
  len : xs.length ≤ b.op.length
  lar : b.ar.length = b.op.length
  lso : b.so.length = b.op.length
  lda : b.da.length = b.op.length
  pos : 0 < b.op.length
inductive BExt (b b' : Bk) : Prop
  | mk (l1 : List Value) (n1 : Nat) (l2 : List Value) (n2 : Nat) (l3 : List Value) (n3 : Nat) (l4 : List Value) (n4 : Nat) (o : Obj) (e : b' = { b with op := b.op ++ l1, opN := n1, ar := b.ar ++ l2, arN := n2, so := b.so ++ l3, soN := n3, da := b.da ++ l4, daN := n4, nuO := o }) : BExt b b'
theorem BExt.refl (b : Bk) : BExt b b := ⟨[], b.opN, [], b.arN, [], b.soN, [], b.daN, b.nuO, by simp⟩
theorem get_app {α : Type} {l l' : List α} {n : Nat} {v : α} (h : l[n]? = some v) : (l ++ l')[n]? = some v := by
  have hn : n < l.length := by
    cases Nat.lt_or_ge n l.length with
    | inl q => exact q
    | inr q => rw [List.getElem?_eq_none q] at h; cases h
  rw [List.getElem?_append_left hn]; exact h
theorem TermAt.mono {b b' : Bk} {r r' : Led} {n : Nat} {k : TKey} (h : TermAt b r n k) (e : BExt b b') (hs : ∀ p ∈ r, p ∈ r') : TermAt b' r' n k := by
  obtain ⟨l1, n1, l2, n2, l3, n3, l4, n4, o, rfl⟩ := e
  obtain ⟨h0, ⟨t1, h1⟩, ⟨a, h2, h2'⟩, ⟨t3, h3⟩, t4, h4⟩ := h
  exact ⟨by simp only [List.length_append]; omega, ⟨t1, get_app h1⟩, ⟨a, get_app h2, h2'.mono hs⟩, ⟨t3, get_app h3⟩, t4, get_app h4⟩
theorem BOKx.mono {prog : Program} {w : World} {b : Bk} {r r' : Led} {xs : List (TKey × Addr × Value)} (h : BOKx prog w b r xs) (hs : ∀ p ∈ r, p ∈ r') : BOKx prog w b r' xs :=
  ⟨h.hd, fun x hx => (h.keys x hx).mono hs, fun x hx => (by obtain ⟨n, t, e, p, q⟩ := h.vals x hx; exact ⟨n, t, e, p, q.mono (.refl _) hs⟩), h.lo, h.len, h.lar, h.lso, h.lda, h.pos⟩
theorem termAt_new {b : Bk} {r : Led} {op : Str} {t1 t3 t4 : Tok} {aA : Addr} {ks : List Int} {so da : Int} {n1 n2 n3 n4 : Nat} {o : Obj} (hT : TupL r aA ks) (lar : b.ar.length = b.op.length) (lso : b.so.length = b.op.length) (lda : b.da.length = b.op.length) :
    TermAt { b with op := b.op ++ [.str op t1], opN := n1, ar := b.ar ++ [.ref aA], arN := n2, so := b.so ++ [.int so t3], soN := n3, da := b.da ++ [.int da t4], daN := n4, nuO := o } r b.op.length ⟨op, ks, so, da⟩ := by
  refine ⟨by simp, ⟨t1, by simp⟩, ⟨aA, ?_, hT⟩, ⟨t3, ?_⟩, t4, ?_⟩
  · show (b.ar ++ _)[b.op.length]? = _
    rw [← lar]; simp
  · show (b.so ++ _)[b.op.length]? = _
    rw [← lso]; simp
  · show (b.da ++ _)[b.op.length]? = _
    rw [← lda]; simp
theorem use_specE {K : Params → Frag} {prog : Program} {f : Addr} {dep : Nat} {X : Type} {Pre : World → X → Led → List Value → Prop} {Post : World → X → Led → Led → Value → Prop} (S : Spec K prog f dep Pre Post)
    {w : World} {p : Program} {loose : List Str} {mean : ExcName → Option Value} {mg mb : Str → Option Value} {dp un : Nat} {gd : Option (List Code)} {cn : Str} {cs : Scope} {a : Addr} {ccd : Value} {cl : List (Str × Addr)} {outer : List Env}
    {A₀ : Around} {base h₀ : Heap} {L : Addr} {m : Str → Option Value} {news : Led} {s : Shared} {vs : List Value} {Q E : Value → Shared → Prop}
    (B : Below A₀ base outer h₀) (F : Fr h₀ L s.heap m) (Xk : (K w.params).In h₀) (N : News h₀ L s.heap news) (T : Top p loose mean mg mb h₀) (hk : cs.kind = .function) (ND : Nd news)
    (hd : dp + dep < recursionLimit) (hu : un + 40 * dep < cLine)
    (x : X) (h1 : Pre w x news vs) (h2 : ∀ news' r, Post w x news news' r → ∀ h' tk', Fr h₀ L h' m → News h₀ L h' news' → Nd news' → Q r { s with heap := h', toks := tk' }) :
    wpAny (model prog w) (ktrTop dp un gd cn cs L a ccd cl outer) (call (.ref f) vs) Q E s := S w p loose mean mg mb dp un gd cn cs a ccd cl outer A₀ base h₀ L m news s vs x Q E B F Xk N T hk ND h1 hd hu fun r n h t F' N' D' P => h2 n r P h t F' N' D'

theorem atKey_mem {xs : List (TKey × Addr × Value)} {k : TKey} {p : Addr × Value} (h : atKey xs k = some p) : (k, p) ∈ xs := by
  unfold atKey at h
  cases q : xs.find? (fun x => decide (x.1 = k)) with
  | none => rw [q] at h; cases h
  | some y =>
    rw [q] at h
    have h1 := List.find?_some q
    have h2 := List.mem_of_find?_eq_some q
    obtain ⟨y1, y2⟩ := y
    simp only [decide_eq_true_eq] at h1
    subst h1
    simp only [Option.map_some, Option.some.injEq] at h
    subst h
    exact h2

section
variable {prog : Program} {w : World} {A : Around} {E : Value → Shared → Prop} {s : Shared} {h₀ : Heap} {L D : Addr} {m : Str → Option Value} {news : Led} {its : List Value} {n : Nat}
theorem newLst_R2 {b : Bk} {y : Sy} {r : Led} {vs : List Value} {Q : Value → Shared → Prop} (F : Fr h₀ L s.heap m) (N : News h₀ L s.heap (bled w b ++ (sled w y ++ r))) (ND : Nd (bled w b ++ (sled w y ++ r))) (hl : vs.length ≤ 100)
    (h : ∀ x h', Fr h₀ L h' m → News h₀ L h' (bled w b ++ (sled w y ++ ((x, listOf vs.toArray 0) :: r))) → Nd (bled w b ++ (sled w y ++ ((x, listOf vs.toArray 0) :: r))) → Q (.ref x) { s with heap := h' }) : wpAny (model prog w) A (newList vs) Q E s :=
  newList_K F N (fun D h' F' N' l1 => by
    have p : ((D, listOf vs.toArray 0) :: (bled w b ++ (sled w y ++ r))).Perm (bled w b ++ (sled w y ++ ((D, listOf vs.toArray 0) :: r))) := by
      rw [← List.append_assoc, ← List.append_assoc]; exact List.perm_middle.symm
    exact h D h' F' (news_perm N' p) (nd_perm (nd_cons ND l1) p)) (by rw [sizeLine_eq]; omega)
theorem tupleL_R {b : Bk} {r : Led} {vs : List Value} {Q : Value → Shared → Prop} (F : Fr h₀ L s.heap m) (N : News h₀ L s.heap (bled w b ++ r)) (ND : Nd (bled w b ++ r)) (hm : (D, listOf vs.toArray n) ∈ bled w b ++ r) (hl : vs.length ≤ 900)
    (h : ∀ x h', Fr h₀ L h' m → News h₀ L h' (bled w b ++ ((x, tupOf vs 0) :: r)) → Nd (bled w b ++ ((x, tupOf vs 0) :: r)) → Q (.ref x) { s with heap := h' }) : wpAny (model prog w) A (call (.type "tuple") [.ref D]) Q E s := by
  refine call_tuple_list (ledList N hm) (fun h' hk => ?_) (by rw [sizeLine_eq, List.size_toArray]; omega)
  have F1 := F.keeps hk
  have N1 : News h₀ L h' (bled w b ++ r) := fun p hp => ⟨hk _ _ (N p hp).1, (N p hp).2⟩
  have N2 := N1.push F1 { cls := .type "tuple", data := .seq vs.toArray }
  have l1 : ∀ p ∈ bled w b ++ r, p.1 < h'.objs.size := fun p hp => Heap.lt_size (N1 p hp).1
  exact h _ _ (F1.push _) (news_perm N2 (List.perm_middle.symm)) (nd_perm (nd_cons ND l1) (List.perm_middle.symm))
theorem tupleL_R2 {b : Bk} {y : Sy} {r : Led} {vs : List Value} {Q : Value → Shared → Prop} (F : Fr h₀ L s.heap m) (N : News h₀ L s.heap (bled w b ++ (sled w y ++ r))) (ND : Nd (bled w b ++ (sled w y ++ r))) (hm : (D, listOf vs.toArray n) ∈ bled w b ++ (sled w y ++ r)) (hl : vs.length ≤ 900)
    (h : ∀ x h', Fr h₀ L h' m → News h₀ L h' (bled w b ++ (sled w y ++ ((x, tupOf vs 0) :: r))) → Nd (bled w b ++ (sled w y ++ ((x, tupOf vs 0) :: r))) → Q (.ref x) { s with heap := h' }) : wpAny (model prog w) A (call (.type "tuple") [.ref D]) Q E s := by
  refine call_tuple_list (ledList N hm) (fun h' hk => ?_) (by rw [sizeLine_eq, List.size_toArray]; omega)
  have F1 := F.keeps hk
  have N1 : News h₀ L h' (bled w b ++ (sled w y ++ r)) := fun p hp => ⟨hk _ _ (N p hp).1, (N p hp).2⟩
  have N2 := N1.push F1 { cls := .type "tuple", data := .seq vs.toArray }
  have l1 : ∀ p ∈ bled w b ++ (sled w y ++ r), p.1 < h'.objs.size := fun p hp => Heap.lt_size (N1 p hp).1
  have p : ((h'.objs.size, tupOf vs 0) :: (bled w b ++ (sled w y ++ r))).Perm (bled w b ++ (sled w y ++ ((h'.objs.size, tupOf vs 0) :: r))) := by
    rw [← List.append_assoc, ← List.append_assoc]; exact List.perm_middle.symm
  exact h _ _ (F1.push _) (news_perm N2 p) (nd_perm (nd_cons ND l1) p)
theorem len_T {Q : Value → Shared → Prop} (N : News h₀ L s.heap news) (hm : (D, tupOf its n) ∈ news) (hfit : its.length < 2 ^ 62) (h : ∀ t tk, Q (.int (its.length : Nat) t) { s with toks := tk }) :
    wpAny (model prog w) A (call (.builtin "len") [.ref D]) Q E s := by
  refine PyProof.Rows.len_tuple (items := its.toArray) ⟨_, (N _ hm).1, rfl, _, rfl⟩ (by simp only [List.size_toArray]; omega) ?_
  rw [List.size_toArray]
  exact h _ _
end
end Mine
end
section
-- BO2
namespace Mine
/-- the numbers' dict bears the number n under the key k -/
noncomputable def BKey (xs : List (TKey × Addr × Value)) (n : Nat) (k : TKey) : Prop := ∃ a t, (k, a, Value.int (n : Nat) t) ∈ xs
theorem BKey.mono {xs xs' : List (TKey × Addr × Value)} {n : Nat} {k : TKey} (h : BKey xs n k) (hs : ∀ x ∈ xs, x ∈ xs') : BKey xs' n k := (by obtain ⟨a, t, e⟩ := h; exact ⟨a, t, hs _ e⟩)
theorem nodup_mem {α β : Type} {xs : List (α × β)} (hn : (xs.map (·.1)).Nodup) {k : α} {u v : β} (h1 : (k, u) ∈ xs) (h2 : (k, v) ∈ xs) : u = v := by
  induction xs with
  | nil => cases h1
  | cons x r ih =>
    rw [List.map_cons, List.nodup_cons] at hn
    rcases List.mem_cons.mp h1 with e1 | p1 <;> rcases List.mem_cons.mp h2 with e2 | p2
    · exact congrArg (·.2) (e1.trans e2.symm)
    · exact absurd (List.mem_map.mpr ⟨(k, v), p2, rfl⟩ : k ∈ r.map (·.1)) (by rw [← e1] at hn; exact hn.1)
    · exact absurd (List.mem_map.mpr ⟨(k, u), p1, rfl⟩ : k ∈ r.map (·.1)) (by rw [← e2] at hn; exact hn.1)
    · exact ih hn.2 p1 p2
theorem BKey.inj {prog : Program} {w : World} {b : Bk} {r : Led} {xs : List (TKey × Addr × Value)} (H : BOKx prog w b r xs) {n n' : Nat} {k : TKey} (h : BKey xs n k) (h' : BKey xs n' k) : n = n' := by
  obtain ⟨a, t, e⟩ := h
  obtain ⟨a', t', e'⟩ := h'
  have q := nodup_mem H.hd.2.2 e e'
  injection q with q1 q2
  injection q2 with q2
  exact Int.ofNat.inj q2
theorem BKey.term {prog : Program} {w : World} {b : Bk} {r : Led} {xs : List (TKey × Addr × Value)} (H : BOKx prog w b r xs) {n : Nat} {k : TKey} (h : BKey xs n k) : 0 < n ∧ TermAt b r n k := by
  obtain ⟨a, t, e⟩ := h
  obtain ⟨n', t', e1, h1, h2⟩ := H.vals _ e
  dsimp only at e1 h2
  injection e1 with e1
  obtain rfl : n = n' := Int.ofNat.inj e1
  exact ⟨h1, h2⟩
theorem BOKx_new {prog : Program} {w : World} {b : Bk} {r : Led} {xs : List (TKey × Addr × Value)} {op : Str} {t1 t3 t4 : Tok} {aA kA : Addr} {ks : List Int} {so da : Int} {n1 n2 n3 n4 : Nat} {o : Obj} {t : Tok} (H : BOKx prog w b r xs) (hT : TupL r aA ks)
    (hk : TKeyL r ⟨op, ks, so, da⟩ kA) (ho : HD prog w o (xs ++ [(⟨op, ks, so, da⟩, kA, .int (b.op.length : Nat) t)])) :
    BOKx prog w { b with op := b.op ++ [.str op t1], opN := n1, ar := b.ar ++ [.ref aA], arN := n2, so := b.so ++ [.int so t3], soN := n3, da := b.da ++ [.int da t4], daN := n4, nuO := o } r (xs ++ [(⟨op, ks, so, da⟩, kA, .int (b.op.length : Nat) t)]) := by
  refine ⟨ho, fun x hx => ?_, fun x hx => ?_, H.lo, ?_, ?_, ?_, ?_, ?_⟩
  · rcases List.mem_append.mp hx with hx | hx
    · exact H.keys x hx
    · rw [List.mem_singleton.mp hx]; exact hk
  · rcases List.mem_append.mp hx with hx | hx
    · obtain ⟨n, t', e, p, q⟩ := H.vals x hx
      exact ⟨n, t', e, p, q.mono ⟨_, n1, _, n2, _, n3, _, n4, o, rfl⟩ fun _ h => h⟩
    · rw [List.mem_singleton.mp hx]
      exact ⟨b.op.length, t, rfl, H.pos, termAt_new hT H.lar H.lso H.lda⟩
  · simp only [List.length_append, List.length_cons, List.length_nil]; have := H.len; omega
  · simp only [List.length_append, List.length_cons, List.length_nil]; rw [H.lar]
  · simp only [List.length_append, List.length_cons, List.length_nil]; rw [H.lso]
  · simp only [List.length_append, List.length_cons, List.length_nil]; rw [H.lda]
  · simp only [List.length_append, List.length_cons, List.length_nil]; omega
noncomputable def PreM2 (prog : Program) (w : World) (x : Bk × Led × Led × Str × Tok × Addr × List Int × Int × Tok × Int × Tok × List (TKey × Addr × Value)) (news : Led) (vs : List Value) : Prop := match x with
  | (b, rest, r0, op, t1, aA, ks, so, t3, da, t4, xs) => news = bled w b ++ rest ∧ (∀ p ∈ r0, p ∈ rest) ∧ vs = [.ref b.inst, .str op t1, .ref aA, .int so t3, .int da t4] ∧ TupL r0 aA ks ∧ BOKx prog w b r0 xs ∧ b.op.length < 900
/-- what a making leaves -/
noncomputable def Made (prog : Program) (w : World) (b : Bk) (rest r0 : Led) (xs : List (TKey × Addr × Value)) (k : TKey) (news' : Led) (r : Value) : Prop :=
  ∃ b' new n t xs', r = .int (n : Nat) t ∧ 0 < n ∧ news' = bled w b' ++ (new ++ rest) ∧ BOKx prog w b' (new ++ r0) xs' ∧ BKey xs' n k ∧ (∀ x ∈ xs, x ∈ xs') ∧ BExt b b' ∧ b'.op.length ≤ b.op.length + 1
noncomputable def PostM2 (prog : Program) (w : World) (x : Bk × Led × Led × Str × Tok × Addr × List Int × Int × Tok × Int × Tok × List (TKey × Addr × Value)) (_news news' : Led) (r : Value) : Prop := match x with
  | (b, rest, r0, op, _, _, ks, so, _, da, _, xs) => Made prog w b rest r0 xs ⟨op, ks, so, da⟩ news' r
noncomputable def PreA2 (prog : Program) (w : World) (x : Bk × Led × Led × Nat × Tok × Addr × Nat × Addr × Nat × Tok × List (TKey × Addr × Value)) (news : Led) (vs : List Value) : Prop := match x with
  | (b, rest, r0, f, t, sA, sn, aA, n, t5, xs) => news = bled w b ++ rest ∧ (∀ p ∈ r0, p ∈ rest) ∧ vs = [.ref b.inst, .int (f : Nat) t, .ref sA] ∧ (sA, listOf ([] : List Value).toArray sn) ∈ rest ∧ b.fa[f]? = some (.ref aA) ∧ (aA, tupOf [] n) ∈ rest ∧ b.fr[f]? = some (.int 0 t5) ∧ BOKx prog w b r0 xs ∧ b.op.length < 900 ∧ f < 900
noncomputable def PostA2 (prog : Program) (w : World) (x : Bk × Led × Led × Nat × Tok × Addr × Nat × Addr × Nat × Tok × List (TKey × Addr × Value)) (_news news' : Led) (r : Value) : Prop := match x with
  | (b, rest, r0, f, _, _, _, _, _, _, xs) => Made prog w b rest r0 xs ⟨"app", [], 0, f⟩ news' r
theorem Made.cons {prog : Program} {w : World} {b : Bk} {rest r0 news' : Led} {xs : List (TKey × Addr × Value)} {k : TKey} {r : Value} {q : Addr × Obj} (h : Made prog w b (q :: rest) (q :: r0) xs k news' r) : Made prog w b rest r0 xs k news' r := by
  obtain ⟨b', new, n, t, xs', rfl, hn, rfl, hB, hK, hs, hE, hle⟩ := h
  exact ⟨b', new ++ [q], n, t, xs', rfl, hn, by simp, by simpa using hB, hK, hs, hE, hle⟩
end Mine
end
section
-- ZP
namespace Mine

/-! zip over an empty list and a tuple: no turn -/
section
variable {prog : Program} {w : World} {A : Around} {E : Value → Shared → Prop} {s : Shared}
theorem ze_new (l t : Addr) (ys : Array Value) :
    Meets (Builtin.«zip.__new__» ⟨[.type "zip", .ref l, .ref t], []⟩) (fun _ R s => s.heap.IsList l #[] ∧ s.heap.IsTuple t ys ∧
      ∀ h', IsZip h' (s.heap.objs.size + 4) (s.heap.objs.size + 2) (s.heap.objs.size + 3) .none → IsPair h' (s.heap.objs.size + 2) (.ref s.heap.objs.size) (.ref (s.heap.objs.size + 1)) →
        IsPair h' (s.heap.objs.size + 3) .none .none → h'.IsListIter s.heap.objs.size l 0 → (∀ c o, s.heap.get? c = some o → h'.get? c = some o) → R (.ok (.ret (.ref (s.heap.objs.size + 4)))) { s with heap := h' }) :=
  .of_wp fun prog w A R s h => by
    obtain ⟨hp, g, d, tk, os⟩ := s; obtain ⟨hl1, hl2, h⟩ := h
    have hsub := sub_zip
    have hL1 : Heap.IsList (Shared.heap ⟨hp, g, d, tk, os⟩) l #[] := hl1
    have hL2 : Heap.IsTuple (Shared.heap ⟨hp.push { cls := .type "list_iterator", data := .fields #[.ref l, .int 0 0] }, g, d, tk, os⟩) t ys := hl2.push _
    wp_delta
    with_reducible refine wpAny_bind ?_
    wp_delta
    with_reducible refine wpAny_bind ?_
    wp_delta
    with_reducible refine wpAny_pure ?_
    with_reducible apply wpAny_ite_false
    · rfl
    with_reducible (refine wpAny_bind ?_; refine wpAny_of_eq (by assumption) ?_)
    with_reducible apply wpAny_ite_false
    · rfl
    with_reducible refine wpAny_pure ?_
    with_reducible apply wpAny_ite_false
    · rfl
    with_reducible refine wpAny_bind ?_
    wp_delta
    with_reducible refine wpAny_bind ?_
    wp_delta
    wp_delta
    wp_delta
    wp_delta
    with_reducible (refine wpAny_bind ?_; refine wpAny_bind ?_; refine wpAny_holding ?_)
    with_reducible apply wpAny_pyIter_list hL1
    with_reducible refine wpAny_pure ?_
    wp_delta
    wp_delta
    with_reducible (refine wpAny_bind ?_; refine wpAny_bind ?_; refine wpAny_holding ?_)
    with_reducible apply wpAny_pyIter_tuple hL2
    with_reducible refine wpAny_pure ?_
    wp_delta
    wp_delta
    with_reducible (refine wpAny_pure ?_; refine wpAny_pure ?_; refine wpAny_bind ?_)
    wp_delta
    wp_delta
    with_reducible apply wpAny_ite_false
    · rfl
    wp_delta
    wp_delta
    with_reducible (refine wpAny_bind ?_; refine wpAny_alloc' ?_; refine wpAny_pure ?_; refine wpAny_bind ?_)
    wp_delta
    wp_delta
    with_reducible apply wpAny_ite_false
    · rfl
    wp_delta
    wp_delta
    with_reducible (refine wpAny_bind ?_; refine wpAny_alloc' ?_; refine wpAny_pure ?_; refine wpAny_bind ?_)
    wp_delta
    wp_delta
    with_reducible apply wpAny_ite_false
    · rfl
    wp_delta
    wp_delta
    with_reducible (refine wpAny_bind ?_; refine wpAny_alloc' ?_; refine wpAny_pure ?_)
    wp_delta
    with_reducible refine wpAny_pure ?_
    refine ⟨_, rfl, ?_⟩
    have z1 : (hp.push { cls := .type "list_iterator", data := .fields #[.ref l, .int 0 0] }).objs.size = hp.objs.size + 1 := Heap.size_push ..
    simp only [Heap.size_push] at h ⊢
    refine h _ ?_ ?_ ?_ ?_ ?_
    · exact Heap.get?_push_at (by simp only [Heap.size_push]) rfl
    · exact Heap.get?_push_of_some _ (Heap.get?_push_of_some _ (Heap.get?_push_at (by simp only [Heap.size_push]) rfl))
    · exact Heap.get?_push_of_some _ (Heap.get?_push_at (by simp only [Heap.size_push]) rfl)
    · exact ⟨{ cls := .type "list_iterator", data := .fields #[.ref l, .int 0 0] }, Heap.get?_push_of_some _ (Heap.get?_push_of_some _ (Heap.get?_push_of_some _ (Heap.get?_push_of_some _ (Heap.get?_push_size _ rfl)))), rfl, rfl⟩
    · exact fun c o x => Heap.get?_push_of_some _ (Heap.get?_push_of_some _ (Heap.get?_push_of_some _ (Heap.get?_push_of_some _ (Heap.get?_push_of_some _ x))))
theorem ze_next {z TI TO i1 l : Addr} {x2 : Value} {Q : Option Value → Shared → Prop} (hh : A.handled = none) (d1 : i1 ≠ z) (d2 : l ≠ z) (d3 : TI ≠ z)
    (hz : IsZip s.heap z TI TO .none) (hTI : IsPair s.heap TI (.ref i1) x2) (h1 : s.heap.IsListIter i1 l 0) (hl1 : s.heap.IsList l #[])
    (hQ : ∀ h', (∀ c o, c ≠ z → c ≠ i1 → s.heap.get? c = some o → h'.get? c = some o) → Q none { s with heap := h' }) : wpAny (model prog w) A (pyNext (.ref z)) Q E s := by
  have hT : s.TypeIs (.ref z) "zip" := ⟨_, hz, rfl⟩
  unfold pyNext
  refine wpAny_bind (wpAny_attempt (wpAny_callSpecial?_slot (name := Str.ofString "__next__") hT F.slot_zip_next
    (wpAny_call_entry F.slot_zip_next hT F.entry_zip_next ?_ (F.args_zip_next_1 _))))
  show wpAny _ _ (field (.ref z) 2 >>= _) _ _ _
  refine wpAny_bind (wpAny_field hz rfl (x := .bool false) rfl ?_)
  show wpAny _ _ (field (.ref z) 3 >>= _) _ _ _
  refine wpAny_bind (wpAny_field hz rfl (x := .ref TI) rfl ?_)
  refine wpAny_bind (wpAny_seqItems hTI rfl ?_)
  show wpAny _ _ (Builtin.SmallTypes.ownedTupleIsFree (.ref z) >>= _) _ _ _
  refine wpAny_bind ?_
  unfold Builtin.SmallTypes.ownedTupleIsFree
  refine wpAny_bind (wpAny_field hz rfl (x := .none) rfl (wpAny_pure ?_))
  simp only [if_true]
  refine wpAny_bind (wpAny_rule ?_)
  refine wpAny_bind (wpAny_field hz rfl (x := .ref TO) rfl ?_)
  refine wpAny_bind (wpAny_setField_rec hz (by simp) fun h₁ hz₁ hs₁ => ?_)
  refine wpAny_bind ?_
  simp only [List.zipIdx_cons, List.zipIdx_nil, List.forIn_cons, List.forIn_nil]
  refine wpAny_bind (wpAny_bind (wpAny_onRaise ?_))
  show wpAny _ _ (Builtin.SmallTypes.nextOf (.ref i1) >>= _) _ _ _
  refine wpAny_bind (wpAny_nextOf_list_end hh (h1.extBut hs₁.extBut d1) (hl1.extBut hs₁.extBut d2) rfl fun h₂ e hs₂ he => ?_)
  obtain ⟨oe, hoe, hce⟩ := he
  have hz₂ := hs₂ _ _ d1.symm hz₁
  have hez : e ≠ z := fun x => by subst x; rw [hz₂] at hoe; cases hoe; simp at hce
  refine wpAny_setField_rec hz₂ (by simp) fun h₃ _ hs₃ => ?_
  refine wpAny_bind (wpAny_isInstance (T := "StopIteration") (b := true) ⟨oe, hs₃.extBut _ _ hez hoe, hce⟩ isSubtype_stop ?_)
  exact wpAny_pure (hQ _ fun c o c1 c3 x => hs₃.extBut _ _ c1 (hs₂ _ _ c3 (hs₁.extBut _ _ c1 x)))
end

section
variable {prog : Program} {w : World} {A : Around} {E : Value → Shared → Prop} {s : Shared} {env : Env} {h₀ : Heap} {body : List Stmt} {Q : Flow → Shared → Prop}
theorem ze_turns {elts : List Expr} {k : Nat} {pos : Pos} {l t : Addr} {ys : List Value} {n1 n2 : Nat} {m : Str → Option Value} {news : Led}
    (hh : A.handled = none) (Fx : Fr h₀ env.locals s.heap m) (N : News h₀ env.locals s.heap news) (hm1 : (l, listOf ([] : List Value).toArray n1) ∈ news) (hm2 : (t, tupOf ys n2) ∈ news)
    (done : ∀ h' tk, Fr h₀ env.locals h' m → News h₀ env.locals h' news → Q .next { s with heap := h', toks := tk }) :
    wpAny (model prog w) A (call (.type "zip") [.ref l, .ref t]) (fun xv s₁ => wpAny (model prog w) A (pyIter xv) (fun it s₂ => TurnsAt prog w A h₀ env (.Tuple elts k pos) body Q E it s₂) E s₁) E s := by
  have hl : s.heap.IsList l #[] := ⟨_, (N _ hm1).1, rfl, _, rfl⟩
  have ht : s.heap.IsTuple t ys.toArray := ⟨_, (N _ hm2).1, rfl, _, rfl⟩
  have hll := ltN (Heap.lt_size (N _ hm1).1)
  have hLs := ltN Fx.ns.lt
  have new : ∀ b, s.heap.objs.size ≤ b → h₀.get? b = none := fun b hb => by
    cases q : h₀.get? b with
    | none => rfl
    | some o => exact absurd (Nat.lt_of_lt_of_le (Heap.lt_size (Fx.keep _ _ q)) hb) (Nat.lt_irrefl _)
  refine callType_new F.called_zip (by decide) (F.typeCall_zip_2 _ _) (F.newCall_zip_2 _ _) (fun obj => F.args_object_init_3 obj _ _) F.entry_zip_new (ze_new l t ys.toArray) ⟨hl, ht, fun h' hz hTI hTO hi hk => ⟨⟨_, hz, rfl⟩, ?_⟩⟩
  refine wpAny_pyIter_zip hz ?_
  unfold TurnsAt
  refine in_10_11 (s.heap.objs.size + 4) [s.heap.objs.size + 4, s.heap.objs.size + 2, s.heap.objs.size, l] [s.heap.objs.size + 4, s.heap.objs.size] 0 (fun _ _ _ => True) (fun _ _ _ => False)
    (fun _ h => IsZip h (s.heap.objs.size + 4) (s.heap.objs.size + 2) (s.heap.objs.size + 3) .none ∧ IsPair h (s.heap.objs.size + 2) (.ref s.heap.objs.size) (.ref (s.heap.objs.size + 1)) ∧ h.IsListIter s.heap.objs.size l 0 ∧ h.IsList l #[])
    m news (fun _ m' n' => m' = m ∧ n' = news) rfl ⟨?_, ?_, ?_, ?_, ?_⟩ ?_ ?_ ?_ ⟨hz, hTI, hi, hl.at fun o e => hk l o e⟩ (Fx.keeps hk) (N.grown hk) ⟨rfl, rfl⟩ ?_ ?_
  · intro b hb; simp at hb ⊢; rcases hb with rfl | rfl <;> simp
  · rintro i h h' ⟨a1, a2, a3, a4⟩ hk'
    exact ⟨hk' _ (by simp) _ a1, hk' _ (by simp) _ a2, a3.at fun o e => hk' _ (by simp) o e, a4.at fun o e => hk' _ (by simp) o e⟩
  · intro i s' Q' E' hi'; exact absurd hi' (Nat.not_lt_zero _)
  · intro i v s' Q' E' hf; exact hf.elim
  · rintro s' Q' E' ⟨a1, a2, a3, a4⟩ hQ
    exact ze_next hh (neN (by omega)) (neN (by omega)) (neN (by omega)) a1 a2 a3 a4 fun h'' k => hQ h'' _ fun b o hb e => k b o (fun x => hb (by simp [x])) (fun x => hb (by simp [x])) e
  · intro hm; simp at hm; rcases hm with e | e | e | e
    · exact neN (by omega) e
    · exact neN (by omega) e
    · exact neN (by omega) e
    · exact (N _ hm1).2.1 e.symm
  · intro b hb; simp at hb; rcases hb with rfl | rfl
    · exact new _ (Nat.le_add_right _ _)
    · exact new _ (Nat.le_refl _)
  · intro p hp hI
    have hq := ltN (Heap.lt_size (N p hp).1)
    simp at hI; rcases hI with e | e
    · exact neN (by omega) e
    · exact neN (by omega) e
  · intro i v m₁ news₁ h₁ tk₁ own hi'; exact absurd hi' (Nat.not_lt_zero _)
  · rintro h'' tk m' news' F' N' _ ⟨rfl, rfl⟩
    exact done h'' tk F' N'
end
end Mine
end
section
-- SU
namespace Mine
section
variable {prog : Program} {w : World} {A : Around} {E : Value → Shared → Prop} {s : Shared} {h₀ : Heap} {L D : Addr} {m : Str → Option Value} {news news' : Led} {p : List Value} {y : Value} {n : Nat}
theorem pop_L {its : List Value} {Q : Value → Shared → Prop} (e : its = p ++ [y]) (F : Fr h₀ L s.heap m) (N : News h₀ L s.heap news) (U : Upd D (listOf its.toArray n) (listOf p.toArray (n + 1)) news news')
    (hz : p.length ≤ 1000) (h : ∀ h', Fr h₀ L h' m → News h₀ L h' news' → Q y { s with heap := h' }) : wpAny (model prog w) A (call (.builtin "list.pop") [.ref D]) Q E s := by
  subst e
  refine kl_pop F N (p := p) (y := y) ?_ U (by simp only [List.length_append, List.length_cons, List.length_nil]; rw [sizeLine_eq]; omega) h
  show kl_last (p ++ [y]) = _
  exact kpa_last y p
end
theorem last_split {α : Type} : ∀ {l : List α}, 0 < l.length → ∃ p y, l = p ++ [y]
  | [], h => absurd h (Nat.lt_irrefl _)
  | [x], _ => ⟨[], x, rfl⟩
  | x :: z :: r, _ => (by obtain ⟨p, y, e⟩ := last_split (l := z :: r) (Nat.succ_pos _); exact ⟨x :: p, y, by rw [e]; rfl⟩)
theorem take_split {α : Type} {l p : List α} {y : α} (h : p ++ [y] <+: l) : p <+: l := List.IsPrefix.trans (List.prefix_append _ _) h
theorem prefix_take {α : Type} {l p : List α} {n : Nat} (h : p <+: l) (e : p.length = n) : p = l.take n := by
  subst e; exact List.prefix_iff_eq_take.mp h
/-- the list of what was brought, by names -/
noncomputable def BrOK (r : Led) (br : List Value) (ns : List Str) : Prop := br.length = ns.length ∧ ∀ (i : Nat) (x : Str), ns[i]? = some x → ∃ (a : Addr) (t1 t2 : Tok) (n : Nat), br[i]? = some (Value.ref a) ∧ (a, tupOf [.str "fun" t1, .str x t2] n) ∈ r
theorem BrOK.mono {r r' : Led} {br : List Value} {ns : List Str} (h : BrOK r br ns) (hs : ∀ p ∈ r, p ∈ r') : BrOK r' br ns :=
  ⟨h.1, fun i x e => (by obtain ⟨a, t1, t2, n, h1, h2⟩ := h.2 i x e; exact ⟨a, t1, t2, n, h1, hs _ h2⟩)⟩
theorem BrOK.snoc {r : Led} {br : List Value} {ns : List Str} {x : Str} {a : Addr} (h : BrOK r br ns) (hm : ∃ t1 t2 n, (a, tupOf [.str "fun" t1, .str x t2] n) ∈ r) : BrOK r (br ++ [.ref a]) (ns ++ [x]) := by
  obtain ⟨t1, t2, n, hm⟩ := hm
  refine ⟨(len_snoc h.1).trans (len_snoc rfl).symm, fun i z hz => ?_⟩
  rcases get_snoc hz with hz | ⟨rfl, rfl⟩
  · obtain ⟨a', u1, u2, c, g1, g2⟩ := h.2 i z hz
    exact ⟨a', u1, u2, c, get_app g1, g2⟩
  · exact ⟨a, t1, t2, n, get_end h.1, hm⟩
theorem BrOK.last {r : Led} {p : List Value} {y : Value} {ns : List Str} {x : Str} (h : BrOK r (p ++ [y]) (ns ++ [x])) : BrOK r p ns ∧ ∃ a t1 t2 n, y = .ref a ∧ (a, tupOf [.str "fun" t1, .str x t2] n) ∈ r := by
  obtain ⟨h1, h2⟩ := h
  simp only [List.length_append, List.length_cons, List.length_nil] at h1
  have e : p.length = ns.length := by omega
  refine ⟨⟨e, fun i z hz => ?_⟩, ?_⟩
  · have hi : i < ns.length := by
      cases Nat.lt_or_ge i ns.length with
      | inl q => exact q
      | inr q => rw [List.getElem?_eq_none q] at hz; cases hz
    obtain ⟨a, t1, t2, n, g1, g2⟩ := h2 i z (get_app hz)
    rw [List.getElem?_append_left (by omega)] at g1
    exact ⟨a, t1, t2, n, g1, g2⟩
  · obtain ⟨a, t1, t2, n, g1, g2⟩ := h2 ns.length x (by simp)
    rw [← e] at g1
    simp at g1
    exact ⟨a, t1, t2, n, g1, g2⟩
theorem without_last {K : Type} [DecidableEq K] {kvs : List (K × Value)} {k : K} {v : Value} (h : ((kvs ++ [(k, v)]).map (·.1)).Nodup) : without (kvs ++ [(k, v)]) k = kvs := by
  unfold without
  rw [List.filter_append]
  have h1 : List.filter (fun kv => decide (kv.1 ≠ k)) [(k, v)] = [] := by simp
  rw [h1, List.append_nil, List.filter_eq_self]
  intro a ha
  rw [List.map_append, List.nodup_append] at h
  have := h.2.2 a.1 (List.mem_map_of_mem ha) k (by simp)
  simpa using this
theorem valueAt_last {K : Type} [DecidableEq K] {kvs : List (K × Value)} {k : K} {v : Value} (h : ((kvs ++ [(k, v)]).map (·.1)).Nodup) : valueAt (kvs ++ [(k, v)]) k = some v := by
  unfold valueAt
  rw [List.find?_append]
  have : List.find? (fun kv => decide (kv.1 = k)) kvs = none := by
    rw [List.find?_eq_none]
    intro a ha
    rw [List.map_append, List.nodup_append] at h
    have := h.2.2 a.1 (List.mem_map_of_mem ha) k (by simp)
    simpa using this
  rw [this]
  simp
end Mine
end
section
-- ZL
namespace Mine
/-- the end of a loop's turn: the iterator's own objects stand, the ledger's addresses too -/
inductive TMid (h₀ : Heap) (L : Addr) (J : (Str → Option Value) → Led → Prop) (own : Led) (adr : List Addr) (s : Shared) : Shared → Prop
  | mk {h' : Heap} {tk : Nat} {m' : Str → Option Value} {news' : Led} (F : Fr h₀ L h' m') (N : News h₀ L h' (own ++ news')) (ha : news'.map (·.1) = adr) (j : J m' news') : TMid h₀ L J own adr s { s with heap := h', toks := tk }
noncomputable def TEnd (h₀ : Heap) (L : Addr) (J : (Str → Option Value) → Led → Prop) (own : Led) (adr : List Addr) (s : Shared) (Q : Flow → Shared → Prop) (f : Flow) (s₂ : Shared) : Prop :=
  match f with
  | .ret v => Q (.ret v) s₂
  | .brk => Q .next s₂
  | _ => TMid h₀ L J own adr s s₂
noncomputable def OwnOf (own news : Led) (ls : List Addr) : Prop := ∀ p ∈ own, p.1 ∈ ls ∨ ∀ q ∈ news, q.1 < p.1
section
variable {prog : Program} {w : World} {A : Around} {E : Value → Shared → Prop} {s : Shared} {env : Env} {h₀ : Heap} {body : List Stmt} {Q : Flow → Shared → Prop} {L : Addr} {m : Str → Option Value} {news : Led}
theorem TEnd.intro {J : (Str → Option Value) → Led → Prop} {own news' : Led} {adr : List Addr} {h' : Heap} {tk : Nat} {m' : Str → Option Value} (F : Fr h₀ L h' m') (N : News h₀ L h' (own ++ news')) (ha : news'.map (·.1) = adr) (hj : J m' news') :
    TEnd h₀ L J own adr s Q .next { s with heap := h', toks := tk } := .mk F N ha hj
theorem TMid.step {J : Nat → (Str → Option Value) → Led → Prop} {own news₀ : Led} {wr : List Addr} {i : Nat} {s₁ s₂ : Shared} (hw : ∀ b ∈ news₀.map (·.1), b ∉ wr)
    (h : TMid h₀ L (J (i + 1)) own (news₀.map (·.1)) s₁ s₂) : LoopStepU h₀ L wr own (fun m' n' => n'.map (·.1) = news₀.map (·.1) ∧ J (i + 1) m' n') s₁ .next s₂ := by
  obtain ⟨F', N', ha, hj⟩ := h
  exact ⟨rfl, _, _, _, _, rfl, F', N', fun p hp => hw _ (by rw [← ha]; exact List.mem_map_of_mem hp), ha, hj⟩
theorem TEnd.step {J : Nat → (Str → Option Value) → Led → Prop} {own news₀ : Led} {wr : List Addr} {i : Nat} {f : Flow} {s₁ s₂ : Shared} (hw : ∀ b ∈ news₀.map (·.1), b ∉ wr)
    (h : TEnd h₀ L (J (i + 1)) own (news₀.map (·.1)) s₁ Q f s₂) :
    LoopStepV h₀ L wr own (fun m' n' => n'.map (·.1) = news₀.map (·.1) ∧ J (i + 1) m' n') s₁ (fun v s' => Q (.ret v) s') (fun s' => Q .next s') f s₂ := by
  cases f with
  | ret v => exact .ret h
  | brk => exact .brk h
  | next =>
    exact .next (TMid.step hw h)
  | cont =>
    exact .cont (TMid.step hw h)

theorem zip_loop {elts : List Expr} {k : Nat} {pos : Pos} {l1 l2 : Addr} {xs ys : List Value} {n1 n2 : Nat} (J : Nat → (Str → Option Value) → Led → Prop)
    (hh : A.handled = none) (Fx : Fr h₀ env.locals s.heap m) (N : News h₀ env.locals s.heap news) (hm1 : (l1, listOf xs.toArray n1) ∈ news) (hm2 : (l2, listOf ys.toArray n2) ∈ news) (hlen : xs.length = ys.length) (hj : J 0 m news)
    (turn : ∀ i x y T m₁ news₁ h tk own, xs[i]? = some x → ys[i]? = some y → news₁.map (·.1) = news.map (·.1) → J i m₁ news₁ → OwnOf own news [l1, l2] → IsTup h T #[x, y] → Fr h₀ env.locals h m₁ → News h₀ env.locals h (own ++ news₁) →
      wpAny (model prog w) A (assign (.Tuple elts k pos) env (.ref T)) (fun _ s₃ => wpAny (model prog w) A (execs body env) (TEnd h₀ env.locals (J (i + 1)) own (news.map (·.1)) { s with heap := h, toks := tk } Q) E s₃) E { s with heap := h, toks := tk })
    (done : ∀ m' news' h' tk, J xs.length m' news' → news'.map (·.1) = news.map (·.1) → Fr h₀ env.locals h' m' → News h₀ env.locals h' news' → Q .next { s with heap := h', toks := tk }) :
    wpAny (model prog w) A (call (.type "zip") [.ref l1, .ref l2]) (fun xv s₁ => wpAny (model prog w) A (pyIter xv) (fun it s₂ => TurnsAt prog w A h₀ env (.Tuple elts k pos) body Q E it s₂) E s₁) E s := by
  have hl1 : s.heap.IsList l1 xs.toArray := ⟨_, (N _ hm1).1, rfl, _, rfl⟩
  have hl2 : s.heap.IsList l2 ys.toArray := ⟨_, (N _ hm2).1, rfl, _, rfl⟩
  have hlt1 := ltN (Heap.lt_size (N _ hm1).1)
  have hlt2 := ltN (Heap.lt_size (N _ hm2).1)
  have hLs := ltN Fx.ns.lt
  have D : ZipApart (s.heap.objs.size + 4) (s.heap.objs.size + 2) (s.heap.objs.size + 3) s.heap.objs.size (s.heap.objs.size + 1) l1 l2 := ktu_apart _ _ _ hlt1 hlt2
  have new : ∀ b, s.heap.objs.size ≤ b → h₀.get? b = none := fun b hb => ktu_new Fx hb
  refine call_zip_2 hl1 hl2 fun h' hz hTI hTO hi1 hi2 hsz hk => ?_
  refine wpAny_pyIter_zip hz ?_
  have hwr : ∀ b ∈ news.map (·.1), b ∉ [s.heap.objs.size + 4, s.heap.objs.size + 3, s.heap.objs.size, s.heap.objs.size + 1] := fun b hb hI => by
    obtain ⟨q, hq, rfl⟩ := List.mem_map.mp hb
    have hq' := ltN (Heap.lt_size (N q hq).1)
    simp at hI
    rcases hI with e | e | e | e
    · exact neN (by omega) e
    · exact neN (by omega) e
    · exact neN (by omega) e
    · exact neN (by omega) e
  have W := KTurns.ofWalksU (elts := elts) (k := k) (pos := pos) (WalksT.zip2 (prog := prog) (w := w) hh _ _ _ _ _ _ _ D xs.toArray ys.toArray).toU
  have hmin : min xs.toArray.size ys.toArray.size = xs.length := by simp [hlen]
  rw [hmin] at W
  unfold TurnsAt
  refine in_10_11 _ _ _ _ _ _ _ m news (fun i m' n' => n'.map (·.1) = news.map (·.1) ∧ J i m' n') rfl W ?_ ?_ ?_ ⟨hz, hTI, ⟨_, _, hTO⟩, hi1, hi2, hl1.at fun o e => hk l1 o e, hl2.at fun o e => hk l2 o e⟩ (Fx.keeps hk) (N.grown hk) ⟨rfl, hj⟩ ?_ ?_
  · intro hI'
    have hb' : env.locals = s.heap.objs.size + 4 ∨ env.locals = s.heap.objs.size + 2 ∨ env.locals = s.heap.objs.size + 3 ∨ env.locals = s.heap.objs.size ∨ env.locals = s.heap.objs.size + 1 ∨ env.locals = l1 ∨ env.locals = l2 := by simpa using hI'
    rcases hb' with e | e | e | e | e | e | e
    · exact neN (by omega) e
    · exact neN (by omega) e
    · exact neN (by omega) e
    · exact neN (by omega) e
    · exact neN (by omega) e
    · exact (N _ hm1).2.1 e.symm
    · exact (N _ hm2).2.1 e.symm
  · intro b hb
    have hb' : b = s.heap.objs.size + 4 ∨ b = s.heap.objs.size + 3 ∨ b = s.heap.objs.size ∨ b = s.heap.objs.size + 1 := by simpa using hb
    rcases hb' with rfl | rfl | rfl | rfl
    · exact new _ (Nat.le_add_right _ _)
    · exact new _ (Nat.le_add_right _ _)
    · exact new _ (Nat.le_refl _)
    · exact new _ (Nat.le_add_right _ _)
  · exact fun p hp => hwr _ (List.mem_map_of_mem hp)
  · rintro i v m₁ news₁ h₁ tk₁ own hin ⟨T, vals, rfl, ⟨x, y, hx, hy, rfl⟩, hT⟩ ⟨hadr, hJ⟩ hoff hown hget hall hst F₁ N₁
    refine wpAny_mono (turn i x y T m₁ news₁ h₁ tk₁ own (by simpa using hx) (by simpa using hy) hadr hJ (fun p hp => ?_) hT F₁ N₁) (fun _ s₃ h₃ => wpAny_mono h₃ (fun f s₄ h₄ => TEnd.step hwr h₄) fun _ _ e => e) fun _ _ e => e
    have hb' : p.1 = s.heap.objs.size + 4 ∨ p.1 = s.heap.objs.size + 2 ∨ p.1 = s.heap.objs.size + 3 ∨ p.1 = s.heap.objs.size ∨ p.1 = s.heap.objs.size + 1 ∨ p.1 = l1 ∨ p.1 = l2 := by simpa using hown p hp
    have hq : ∀ q ∈ news, q.1 < s.heap.objs.size := fun q hq => Heap.lt_size (N q hq).1
    rcases hb' with e | e | e | e | e | e | e
    · exact .inr fun q hq' => e ▸ Nat.lt_of_lt_of_le (hq q hq') (Nat.le_add_right _ _)
    · exact .inr fun q hq' => e ▸ Nat.lt_of_lt_of_le (hq q hq') (Nat.le_add_right _ _)
    · exact .inr fun q hq' => e ▸ Nat.lt_of_lt_of_le (hq q hq') (Nat.le_add_right _ _)
    · exact .inr fun q hq' => e ▸ hq q hq'
    · exact .inr fun q hq' => e ▸ Nat.lt_of_lt_of_le (hq q hq') (Nat.le_add_right _ _)
    · exact .inl (by simp [e])
    · exact .inl (by simp [e])
  · rintro h'' tk m' news' F' N' _ ⟨ha, hJ⟩
    exact done m' news' h'' tk hJ ha F' N'
end
section
variable {prog : Program} {w : World} {A : Around} {E : Value → Shared → Prop} {s : Shared} {h₀ : Heap} {L D : Addr} {m : Str → Option Value}
theorem newDict_R2 {b : Bk} {y : Sy} {r : Led} {env : Env} {pos : Pos} {Q : Value → Shared → Prop} (F : Fr h₀ L s.heap m) (N : News h₀ L s.heap (bled w b ++ (sled w y ++ r))) (ND : Nd (bled w b ++ (sled w y ++ r))) (hbig : h₀.NoLimit)
    (k : ∀ d h' o, Fr h₀ L h' m → News h₀ L h' (bled w b ++ (sled w y ++ ((d, o) :: r))) → Nd (bled w b ++ (sled w y ++ ((d, o) :: r))) → (d == sysModules) = false → o.IsDictOf (PySem.strKind prog w) [] → Q (.ref d) { s with heap := h' }) :
    wpAny (model prog w) A (eval (.Dict [] [] pos) env) Q E s :=
  newDict_K F N hbig fun d h' o F' N' l1 lo hs _ _ _ => by
    have p : ((d, o) :: (bled w b ++ (sled w y ++ r))).Perm (bled w b ++ (sled w y ++ ((d, o) :: r))) := by
      rw [← List.append_assoc, ← List.append_assoc]; exact List.perm_middle.symm
    exact k d h' o F' (news_perm N' p) (nd_perm (nd_cons ND l1) p) lo hs
end
theorem su_r0 {w : World} {b : Bk} {y : Sy} {d : Addr} {o : Obj} {r : Led} (h : Nd (bled w b ++ (sled w y ++ ((d, o) :: r)))) : UpdF d o (bled w b ++ (sled w y ++ ((d, o) :: r))) (fun o' => bled w b ++ (sled w y ++ ((d, o') :: r))) :=
  updF_nd (pre := bled w b ++ sled w y) (post := r) h
theorem own_ne {own news : Led} {ls : List Addr} {d : Addr} (ho : OwnOf own news ls) (hls : d ∉ ls) (hd : d ∈ news.map (·.1)) : ∀ p ∈ own, p.1 ≠ d := fun p hp e => by
  rcases ho p hp with h | h
  · exact hls (e ▸ h)
  · obtain ⟨q, hq, rfl⟩ := List.mem_map.mp hd
    exact Nat.lt_irrefl _ (e ▸ h q hq)
theorem updF_own {own l : Led} {g : Obj → Led} {d : Addr} {o : Obj} (h : ∀ p ∈ own, p.1 ≠ d) (U : UpdF d o l g) : UpdF d o (own ++ l) (fun o' => own ++ g o') := by
  induction own with
  | nil => exact U
  | cons p r ih => exact .tail (h p List.mem_cons_self) (ih fun q hq => h q (List.mem_cons_of_mem _ hq))
theorem nd_ne {l : Led} {a d : Addr} {o o' : Obj} (h : Nd ((d, o) :: l)) (ha : (a, o') ∈ l) : a ≠ d := by
  unfold Nd at h
  rw [List.map_cons, List.nodup_cons] at h
  exact fun e => h.1 (List.mem_map.mpr ⟨(a, o'), ha, e⟩)
theorem nd_right {l l' : Led} (h : Nd (l ++ l')) : Nd l' := h.sublist (by rw [List.map_append]; exact List.sublist_append_right _ _)
end Mine
end
section
-- RL
namespace Mine
theorem isSome_of {α : Type} {o : Option α} {v : α} (h : o = some v) : o.isSome = true := by rw [h]; rfl
theorem isNone_of {α : Type} {o : Option α} (h : o = none) : o.isSome = false := by rw [h]; rfl
section
variable {prog : Program} {w : World} {A : Around} {E : Value → Shared → Prop} {s : Shared} {env : Env} {h₀ : Heap} {x : Str} {body : List Stmt} {Q : Flow → Shared → Prop} {m : Str → Option Value} {news : Led}
theorem range_loop {r : Addr} {a₀ b₀ c : Int} {t u v : Tok} {n : Nat} (J : Nat → (Str → Option Value) → Led → Prop)
    (hh : A.handled = none) (hr : IsRange s.heap r a₀ b₀ c t u v) (hsmall : Builtin.Range.small a₀ b₀ c = true) (hn : Builtin.Range.rangeSize a₀ b₀ c = (n : Int)) (F : Fr h₀ env.locals s.heap m) (N : News h₀ env.locals s.heap news) (hj : J 0 m news)
    (turn : ∀ i t' m₁ news₁ h tk own, i < n → news₁.map (·.1) = news.map (·.1) → J i m₁ news₁ → OwnOf own news [] → Fr h₀ env.locals h (fun y => if y = x then some (.int (a₀ + (i : Int) * c) t') else m₁ y) → News h₀ env.locals h (own ++ news₁) →
      wpAny (model prog w) A (execs body env) (TEnd h₀ env.locals (J (i + 1)) own (news.map (·.1)) { s with heap := h, toks := tk } Q) E { s with heap := h, toks := tk })
    (done : ∀ m' news' h' tk, J n m' news' → news'.map (·.1) = news.map (·.1) → Fr h₀ env.locals h' m' → News h₀ env.locals h' news' → Q .next { s with heap := h', toks := tk }) :
    wpAny (model prog w) A (pyIter (.ref r)) (fun it s₂ => LoopAtV prog w A h₀ env x body Q E it s₂) E s := by
  refine wpAny_pyIter_range hr hsmall ?_
  have W := Walks.range (prog := prog) (w := w) hh s.heap.objs.size a₀ c n
  have hwr : ∀ b ∈ news.map (·.1), b ∉ [s.heap.objs.size] := fun b hb hI => by
    obtain ⟨q, hq, rfl⟩ := List.mem_map.mp hb
    exact absurd (Heap.lt_size (N q hq).1) ((List.mem_singleton.mp hI) ▸ Nat.lt_irrefl _)
  refine ⟨_, _, _, n, _, _, m, news, fun i m' n' => n'.map (·.1) = news.map (·.1) ∧ J i m' n', rfl, W, ?_, ?_, ?_, (by show IsRangeIter _ _ _ _ _; rw [hn]; simpa using Heap.get?_push_size _ rfl), F.push _, (fun p hp => ⟨Heap.get?_push_of_some _ (N p hp).1, (N p hp).2⟩), ⟨rfl, hj⟩, ?_, ?_⟩
  · intro hm
    exact absurd F.ns.lt ((List.mem_singleton.mp hm) ▸ Nat.lt_irrefl _)
  · intro b hb
    rw [List.mem_singleton.mp hb]
    exact next_is_new F
  · exact fun p hp => hwr _ (List.mem_map_of_mem hp)
  · rintro i v m₁ news₁ s₁ own ⟨hh', tk', rfl⟩ hin ⟨t', rfl⟩ ⟨hadr, hJ⟩ hoff hown hget hall hst F₁ N₁
    refine wpAny_mono (turn i t' m₁ news₁ hh' tk' own hin hadr hJ (fun p hp => ?_) F₁ N₁) (fun f s₄ h₄ => TEnd.step hwr h₄) fun _ _ e => e
    have e := List.mem_singleton.mp (hown p hp)
    exact .inr fun q hq => e ▸ Heap.lt_size (N q hq).1
  · rintro h'' tk m' news' F' N' _ ⟨ha, hJ⟩
    exact done m' news' h'' tk hJ ha F' N'
theorem list_loop {l : Addr} {xs : List Value} {n1 : Nat} (J : Nat → (Str → Option Value) → Led → Prop)
    (hh : A.handled = none) (F : Fr h₀ env.locals s.heap m) (N : News h₀ env.locals s.heap news) (hm1 : (l, listOf xs.toArray n1) ∈ news) (hj : J 0 m news)
    (turn : ∀ i v m₁ news₁ h tk own, xs[i]? = some v → news₁.map (·.1) = news.map (·.1) → J i m₁ news₁ → OwnOf own news [l] → Fr h₀ env.locals h (fun y => if y = x then some v else m₁ y) → News h₀ env.locals h (own ++ news₁) →
      wpAny (model prog w) A (execs body env) (TEnd h₀ env.locals (J (i + 1)) own (news.map (·.1)) { s with heap := h, toks := tk } Q) E { s with heap := h, toks := tk })
    (done : ∀ m' news' h' tk, J xs.length m' news' → news'.map (·.1) = news.map (·.1) → Fr h₀ env.locals h' m' → News h₀ env.locals h' news' → Q .next { s with heap := h', toks := tk }) :
    wpAny (model prog w) A (pyIter (.ref l)) (fun it s₂ => LoopAtV prog w A h₀ env x body Q E it s₂) E s := by
  have hl : s.heap.IsList l xs.toArray := ⟨_, (N _ hm1).1, rfl, _, rfl⟩
  have hlt : l < s.heap.objs.size := Heap.lt_size (N _ hm1).1
  refine wpAny_pyIter_list hl ?_
  have W := Walks.list (prog := prog) (w := w) hh s.heap.objs.size l (Nat.ne_of_lt hlt) xs.toArray
  have hz : xs.toArray.size = xs.length := by simp
  rw [hz] at W
  have hwr : ∀ b ∈ news.map (·.1), b ∉ [s.heap.objs.size] := fun b hb hI => by
    obtain ⟨q, hq, rfl⟩ := List.mem_map.mp hb
    exact absurd (Heap.lt_size (N q hq).1) ((List.mem_singleton.mp hI) ▸ Nat.lt_irrefl _)
  refine ⟨_, _, _, xs.length, _, _, m, news, fun i m' n' => n'.map (·.1) = news.map (·.1) ∧ J i m' n', rfl, W, ?_, ?_, ?_, ⟨⟨_, Heap.get?_push_size _ rfl, rfl, rfl⟩, hl.at fun o e => Heap.get?_push_of_some _ e⟩, F.push _, (fun p hp => ⟨Heap.get?_push_of_some _ (N p hp).1, (N p hp).2⟩), ⟨rfl, hj⟩, ?_, ?_⟩
  · intro hm
    rcases List.mem_cons.mp hm with e | hm
    · exact absurd F.ns.lt (e ▸ Nat.lt_irrefl _)
    · exact (N _ hm1).2.1 (List.mem_singleton.mp hm).symm
  · intro b hb
    rw [List.mem_singleton.mp hb]
    exact next_is_new F
  · exact fun p hp => hwr _ (List.mem_map_of_mem hp)
  · rintro i v m₁ news₁ s₁ own ⟨hh', tk', rfl⟩ hin hP ⟨hadr, hJ⟩ hoff hown hget hall hst F₁ N₁
    refine wpAny_mono (turn i v m₁ news₁ hh' tk' own (by simpa using hP) hadr hJ (fun p hp => ?_) F₁ N₁) (fun f s₄ h₄ => TEnd.step hwr h₄) fun _ _ e => e
    rcases List.mem_cons.mp (hown p hp) with e | e
    · exact .inr fun q hq => e ▸ Heap.lt_size (N q hq).1
    · exact .inl (by rw [List.mem_singleton.mp e]; exact List.mem_cons_self)
  · rintro h'' tk m' news' F' N' _ ⟨ha, hJ⟩
    exact done m' news' h'' tk hJ ha F' N'
end
end Mine
end
section
-- EXA
namespace Mine
theorem slot_wd : Slot "wrapper_descriptor" "__get__" "wrapper_descriptor.__get__" := .of (owner := "wrapper_descriptor") (n := "__get__") (by rw [typeLookup_type, builtinLookup_eq_fast]; kernel_rfl) (by decide +kernel) (by decide +kernel) (by decide +kernel)
  (by first | exact .inl (by decide +kernel) | exact .inr (by decide +kernel)) (by rw [isSubtype_type]; kernel_rfl)
theorem entry_wd : entryFor table "wrapper_descriptor.__get__" = some Builtin.«wrapper_descriptor.__get__» := entryFor_of_tree (by kernel_rfl)
theorem args_wd (a b c : Value) : argsOk "wrapper_descriptor.__get__" ⟨[a, b, c], []⟩ := by unfold argsOk; kernel_rfl
noncomputable abbrev wrapObj (x : Addr) : Obj := { cls := .type "method-wrapper", dict := none, data := .fields #[.builtin "Exception.__init__", .ref x], slots := #[] }
section
variable {prog : Program} {w : World} {M : Model} {A : Around} {E : Value → Shared → Prop} {h : Heap} {g : Array GenState} {d : Drawn} {t : Nat} {os : OsState}
theorem type_init : typeOf (.builtin "Exception.__init__") = pure (.type "wrapper_descriptor") := by kernel_rfl
theorem super_ga {so D x C : Addr} {l₀ l : List Value} {K : Frag} {tk : Tok} {Q : Fin → Shared → Prop}
    (hso : h.get? so = some { cls := .type "super", dict := none, data := .fields #[.ref D, .ref x, .ref C], slots := #[] }) (hno : Looks (model prog w) h (opaqueClassAbove (.ref C)) none)
    (hC : Looks (model prog w) h (mroOf (.ref C)) l₀) (hl : (l₀.dropWhile (· != .ref D)).drop 1 = l) (X : K.In h)
    (hf : alongIn K "__init__" l = some (some (.builtin "Exception.__init__"))) (hxC : x ≠ C) {ox : Obj} (hx : h.get? x = some ox) (hxc : ox.cls = .ref C) (hi : Looks (model prog w) h (isSubtype (.ref C) (.type "Exception")) true)
    (hq : Q (.done (.ret (.ref h.objs.size))) ⟨h.push (wrapObj x), g, d, t, os⟩) :
    wpAny (model prog w) A (Builtin.«super.__getattribute__» ⟨[.ref so, .str "__init__" tk], []⟩) Q E ⟨h, g, d, t, os⟩ := by
  have hlk := slot_wd.lookup
  have hn : (("__init__" : Str) == ("__class__" : Str)) = false := by decide
  have hne : (Value.ref x == Value.ref C) = false := by simp [hxC]
  have hdt : ({ cls := .type "super", dict := none, data := .fields #[.ref D, .ref x, .ref C], slots := #[] } : Obj).data = .fields #[.ref D, .ref x, .ref C] := rfl
  have f0 : (#[.ref D, .ref x, .ref C] : Array Value)[0]? = some (.ref D) := rfl
  have f1 : (#[.ref D, .ref x, .ref C] : Array Value)[1]? = some (.ref x) := rfl
  have f2 : (#[.ref D, .ref x, .ref C] : Array Value)[2]? = some (.ref C) := rfl
  have oc : (".".intercalate ("Exception.__init__".cutAt '.').dropLast) = "Exception" := by decide +kernel
  have on : Looks (model prog w) h (typeOf (.builtin "Exception.__init__")) (.type "wrapper_descriptor") := Looks.of_pure type_init
  unfold Builtin.«super.__getattribute__»
  simp only [hn, hne, Bool.or_false, Bool.false_eq_true, if_false]
  with_reducible refine wpAny_bind ?_
  wp_delta
  with_reducible refine wpAny_pure ?_
  with_reducible apply wpAny_ite_false
  · rfl
  with_reducible refine wpAny_bind ?_
  wp_delta
  with_reducible refine wpAny_pure ?_
  simp only [hn, hne, Bool.or_false, Bool.false_eq_true, if_false]
  with_reducible refine wpAny_bind ?_
  with_reducible refine wpAny_field hso hdt f0 ?_
  with_reducible refine wpAny_bind ?_
  with_reducible refine wpAny_field hso hdt f1 ?_
  with_reducible refine wpAny_bind ?_
  with_reducible refine wpAny_field hso hdt f2 ?_
  simp only [hn, hne, Bool.or_false, Bool.false_eq_true, if_false]
  with_reducible apply wpAny_ite_false
  · rfl
  with_reducible refine wpAny_bind ?_
  with_reducible refine ks_wpAny_notOpaque hno ?_
  with_reducible apply wpAny_ite_false
  · rfl
  with_reducible refine wpAny_bind ?_
  with_reducible refine Looks.at hC ?_; rw [hl]
  with_reducible refine wpAny_bind ?_
  refine ks_forIn_along X (fun _ _ => rfl) rfl ?_ hf
  simp only [hn, hne, Bool.or_false, Bool.false_eq_true, if_false]
  with_reducible refine wpAny_bind ?_
  with_reducible refine Looks.at on ?_
  with_reducible (refine wpAny_bind ?_; refine wpAny_of_eq (by assumption) ?_)
  simp only [hn, hne, Bool.or_false, Bool.false_eq_true, if_false]
  with_reducible refine wpAny_bind ?_
  refine wpAny_call_entry (self := .builtin "Exception.__init__") (rest := [_, _]) slot_wd (show typeOf (.builtin _) = _ from type_init) entry_wd ?_ (args_wd _ _ _); show wpAny _ _ (Builtin.«wrapper_descriptor.__get__» _) _ _ _; unfold Builtin.«wrapper_descriptor.__get__»
  simp only [hn, hne, Bool.or_false, Bool.false_eq_true, if_false]
  with_reducible refine wpAny_bind ?_
  wp_delta
  simp only [hn, hne, Bool.or_false, Bool.false_eq_true, if_false]
  with_reducible apply wpAny_ite_false
  · rfl
  with_reducible (refine wpAny_bind ?_; refine wpAny_pure ?_)
  simp only [hn, hne, Bool.or_false, Bool.false_eq_true, if_false]
  with_reducible apply wpAny_ite_false
  · rfl
  with_reducible refine wpAny_pure ?_
  simp only [hn, hne, Bool.or_false, Bool.false_eq_true, if_false]
  wp_delta
  with_reducible refine wpAny_bind ?_
  wp_delta
  simp only [hn, hne, Bool.or_false, Bool.false_eq_true, if_false]
  with_reducible refine wpAny_bind ?_
  wp_delta
  with_reducible refine wpAny_pure ?_
  simp only [hn, hne, Bool.or_false, Bool.false_eq_true, if_false]
  with_reducible refine wpAny_bind ?_
  wp_delta
  with_reducible refine wpAny_bind ?_
  wp_delta
  with_reducible refine wpAny_bind ?_
  with_reducible refine wpAny_loadPart_at hx ?_; rw [hxc]
  with_reducible refine wpAny_pure ?_
  rw [oc]; refine Looks.at hi ?_
  with_reducible apply wpAny_ite_false
  · rfl
  with_reducible (refine wpAny_pure ?_; refine wpAny_bind ?_)
  wp_delta
  wp_delta
  simp only [hn, hne, Bool.or_false, Bool.false_eq_true, if_false]
  with_reducible apply wpAny_ite_false
  · rfl
  wp_delta
  simp only [hn, hne, Bool.or_false, Bool.false_eq_true, if_false]
  with_reducible (refine wpAny_bind ?_; refine wpAny_alloc' ?_; refine wpAny_pure ?_)
  wp_delta
  with_reducible refine wpAny_pure ?_
  with_reducible refine ⟨_, rfl, ?_⟩
  with_reducible refine wpAny_bind ?_
  wp_delta
  with_reducible (refine wpAny_pure ?_; refine wpAny_pure ?_)
  simp only [hn, hne, Bool.or_false, Bool.false_eq_true, if_false]
  with_reducible refine wpAny_pure ?_
  all_goals exact hq
theorem super_meth {so D x C : Addr} {l₀ l : List Value} {K : Frag} {pl : Sem Bool} {Q : Value × List Value → Shared → Prop}
    (hso : h.get? so = some { cls := .type "super", dict := none, data := .fields #[.ref D, .ref x, .ref C], slots := #[] }) (hno : Looks (model prog w) h (opaqueClassAbove (.ref C)) none)
    (hC : Looks (model prog w) h (mroOf (.ref C)) l₀) (hl : (l₀.dropWhile (· != .ref D)).drop 1 = l) (X : K.In h)
    (hf : alongIn K "__init__" l = some (some (.builtin "Exception.__init__"))) (hxC : x ≠ C) {ox : Obj} (hx : h.get? x = some ox) (hxc : ox.cls = .ref C) (hi : Looks (model prog w) h (isSubtype (.ref C) (.type "Exception")) true)
    (hq : Q (.ref h.objs.size, []) ⟨h.push (wrapObj x), g, d, t + 1, os⟩) :
    wpAny (model prog w) A (getMethod (.ref so) "__init__" pl) Q E ⟨h, g, d, t, os⟩ := by
  have hlk := F.ks_slot_super_ga.lookup
  have hcan := F.ks_canon_super_ga
  have hT : ∀ t', (⟨h, g, d, t', os⟩ : Shared).TypeIs (.ref so) "super" := fun _ => ⟨_, hso, rfl⟩
  unfold getMethod
  refine wpAny_bind (wpAny_specialOf (hT _) hlk ?_)
  show wpAny _ _ (if (Manifest.canonical "super.__getattribute__" != "object.__getattribute__") = true then _ else _) _ _ _
  rw [if_pos hcan]
  unfold getAttr getAttrBy
  refine wpAny_bind (wpAny_bind (wpAny_mkText (wpAny_holding (wpAny_bind (wpAny_typeOf (hT _) (wpAny_bind (wpAny_of_eq hlk ?_)))))))
  show wpAny _ _ (getAttrByItsOwn (.ref so) (.str "__init__" t) (.type "super") (.builtin "super.__getattribute__") true false) _ _ _
  unfold getAttrByItsOwn hookBefore callGetattribute boundAndCalled
  refine wpAny_bind (wpAny_of_eq (show (if onTheHeap (.type "super") then typeLookup (.type "super") "__getattr__" else pure none) = pure none from rfl) ?_)
  refine wpAny_bind (wpAny_attempt (wpAny_holding ?_))
  show wpAny _ _ (bindSpecial (.builtin "super.__getattribute__") (.ref so) >>= _) _ _ _
  refine wpAny_bind (wpAny_of_eq (F.ks_slot_super_ga.bind _) ?_)
  refine wpAny_mono (Q := fun v s' => v = .ref h.objs.size ∧ s' = ⟨h.push (wrapObj x), g, d, t + 1, os⟩) (E := fun _ _ => False)
    (wpAny_call_entry F.ks_slot_super_ga (hT _) F.ks_entry_super_ga (super_ga hso hno hC hl X hf hxC hx hxc hi ⟨_, rfl, rfl, rfl⟩) (F.ks_gaArgs_super _ _)) (fun v s' hv => ?_) fun _ _ z => z.elim
  obtain ⟨rfl, rfl⟩ := hv
  exact wpAny_pure (wpAny_pure hq)
noncomputable abbrev excO (C : Addr) (a0 : Value) (dd : Option Addr) : Obj := { cls := .ref C, dict := dd, data := .fields #[a0, .none, .none, .none, .bool false, .none], slots := #[] }
theorem call_wrap {q x C : Addr} {a0 : Addr} {v : Value} {dd : Option Addr} {Q : Value → Shared → Prop} (hq : h.get? q = some (wrapObj x)) (hx : h.get? x = some (excO C (.ref a0) dd)) {oC : Obj} {cd : ClassData} (hC : h.get? C = some oC) (hd : oC.data = .cls cd)
    (k : Q .none ⟨(h.push { cls := .type "tuple", data := .seq #[v] }).update x (Obj.mapFields fun y => y.setIfInBounds 0 (.ref h.objs.size)), g, d, t, os⟩) :
    wpAny (model prog w) A (call (.ref q) [v]) Q E ⟨h, g, d, t, os⟩ := by
  refine wpAny_call (codeAny_of_tree ?_)
  show wpAny _ _ (callAny (.ref q) _) _ _ _
  unfold callAny
  refine wpAny_bind (wpAny_load hq ?_)
  have hr : Manifest.signature? "Exception.__init__" = some ⟨.positional, "*", "Exception", .self, [⟨"args", .varPos, false⟩]⟩ := PySem.F.excBase_Exception.initRow
  have hk : builtinKind "Exception.__init__" = some .slot := PySem.F.excBase_Exception.initKind
  simp only [hd]
  with_reducible apply wpAny_ite_true
  · rfl
  wp_delta
  with_reducible apply wpAny_ite_true
  · rfl
  with_reducible refine wpAny_bind ?_
  wp_delta
  simp only [hd]
  with_reducible apply wpAny_ite_true
  · rfl
  wp_delta
  simp only [hd]
  with_reducible refine wpAny_bind ?_
  wp_delta
  simp only [hd]
  with_reducible apply wpAny_ite_false
  · rfl
  wp_delta
  with_reducible refine wpAny_bind ?_
  wp_delta
  simp only [hd]
  with_reducible apply wpAny_ite_false
  · rfl
  wp_delta
  with_reducible refine wpAny_bind ?_
  with_reducible refine wpAny_loadPart_at hx ?_
  simp only [hd]
  with_reducible (refine wpAny_pure ?_; refine wpAny_bind ?_)
  wp_delta
  with_reducible refine wpAny_bind ?_
  wp_delta
  with_reducible refine wpAny_bind ?_
  with_reducible refine wpAny_load hC ?_
  simp only [hd]
  with_reducible (refine wpAny_pure ?_; refine wpAny_pure ?_; refine wpAny_pure ?_)
  refine wpAny_onRaise ?_; rw [show ∀ (a b : String) (n : Nat) , Bind.check ⟨.positional, "*", "Exception", .self, [⟨"args", .varPos, false⟩]⟩ a b n (List.map (fun x => x.fst) ({ pos := [Value.ref x, v] } : Args).kw) = pure () from fun a b n => check_star_args _ _ _ _ _ _]; refine wpAny_pure ?_
  wp_delta
  with_reducible refine wpAny_pure ?_
  simp only [hd]
  refine ⟨Code.quiet_builtin _ (by decide +kernel), codeAny_builtin PySem.F.excBase_Exception.initEntry ?_⟩
  show wpAny _ _ (Builtin.«BaseException.__init__» ⟨[.ref x, v], []⟩) _ _ _
  unfold Builtin.«BaseException.__init__»
  have hx' := Heap.get?_push_of_some { cls := .type "tuple", data := .seq #[v] } hx
  with_reducible apply wpAny_ite_false
  · rfl
  with_reducible refine wpAny_bind ?_
  wp_delta
  wp_delta
  with_reducible apply wpAny_ite_false
  · rfl
  wp_delta
  wp_delta
  with_reducible (refine wpAny_bind ?_; refine wpAny_alloc' ?_; refine wpAny_pure ?_; refine wpAny_bind ?_)
  wp_delta
  with_reducible refine wpAny_bind ?_
  wp_delta
  with_reducible refine wpAny_bind ?_
  wp_delta
  with_reducible refine wpAny_bind ?_
  with_reducible apply wpAny_load'
  · heap_get
  with_reducible refine wpAny_pure ?_
  wp_delta
  with_reducible (refine wpAny_pure ?_; refine wpAny_bind ?_)
  wp_delta
  wp_delta
  with_reducible refine wpAny_bind ?_
  with_reducible apply wpAny_load'
  · heap_get
  with_reducible apply wpAny_ite_true
  · rfl
  with_reducible refine wpAny_update' hx' ?_
  wp_delta
  with_reducible refine wpAny_letGo ?_
  wp_delta
  with_reducible refine wpAny_pure ?_
  exact k
end

section
variable {prog : Program} {w : World} {A A₀ : Around} {E : Value → Shared → Prop} {s : Shared} {h₀ base : Heap} {L x C D so : Addr} {m : Str → Option Value} {news : List (Addr × Obj)} {K : Frag}
theorem sf_wrap {q a0 : Addr} {v : Value} {dd : Option Addr} {cd : ClassData} {pre post : List (Addr × Obj)} {Q : Value → Shared → Prop} (F : Fr h₀ L s.heap m) (X₀ : K.In h₀) (N : News h₀ L s.heap (pre ++ (x, excO C (.ref a0) dd) :: post))
    (hq : (q, wrapObj x) ∈ pre ++ (x, excO C (.ref a0) dd) :: post) (hc : clsIn K C = some cd) (h1 : ∀ p ∈ pre, p.1 ≠ x) (h2 : ∀ p ∈ post, p.1 ≠ x)
    (k : ∀ t' h', Fr h₀ L h' m → News h₀ L h' (pre ++ (x, excO C (.ref t') dd) :: post) → Q .none { s with heap := h' }) :
    wpAny (model prog w) A (call (.ref q) [v]) Q E s := by
  obtain ⟨oC, hC, hd⟩ : ∃ o, s.heap.get? C = some o ∧ o.data = .cls cd := by
    unfold clsIn at hc
    split at hc
    · rename_i c d cd' sl ho
      cases hc
      exact ⟨_, X₀.keeps F.keep _ _ ho, rfl⟩
    · cases hc
  obtain ⟨hh, g, d, t, os⟩ := s
  refine call_wrap (N _ hq).1 (N (x, excO C (.ref a0) dd) (by simp)).1 hC hd ?_
  have F1 := F.push { cls := .type "tuple", data := .seq #[v] }
  have N1 : News h₀ L (hh.push { cls := .type "tuple", data := .seq #[v] }) (pre ++ (x, excO C (.ref a0) dd) :: post) := fun p hp => ⟨Heap.get?_push_of_some _ (N p hp).1, (N p hp).2⟩
  obtain ⟨U1, U2⟩ := news_upd (f := Obj.mapFields fun y => y.setIfInBounds 0 (.ref hh.objs.size)) F1 N1 h1 h2 (o' := excO C (.ref hh.objs.size) dd) rfl rfl
  exact k _ _ U1 U2
end
end Mine
end
section
-- EXB
open PySem PySem.W PyProof.Rows PySem.Calls Builtin Builtin.ObjectAttr
namespace Mine
section
variable {prog : Program} {w : World} {A A₀ : Around} {E : Value → Shared → Prop} {R : Result → Shared → Prop} {s : Shared} {h₀ base : Heap} {L x C D so : Addr} {m : Str → Option Value} {news : List (Addr × Obj)} {K : Frag}
theorem sf_store {a0 : Value} {cd : ClassData} {pre post : List (Addr × Obj)} {name : Str} {tk : Tok} {v : Value} (F : Fr h₀ L s.heap m) (X : K.In s.heap) (N : News h₀ L s.heap (pre ++ (x, excO C a0 none) :: post))
    (hc : clsIn K C = some cd) (hm : cd.mro = [.ref C, .ref D, .type "Exception", .type "BaseException", .type "object"]) (ha : findIn K (.ref C) name = some none) (hdct : cd.hasDict = true)
    (h1 : ∀ p ∈ pre, p.1 ≠ x) (h2 : ∀ p ∈ post, p.1 ≠ x)
    (k : ∀ d h' tk', Fr h₀ L h' m → News h₀ L h' (pre ++ (x, excO C a0 (some d)) :: post) → R (.ok (.ret .none)) { s with heap := h', toks := tk' }) :
    codeAny (model prog w) A (.call (.builtin "object.__setattr__") ⟨[.ref x, .str name tk, v], []⟩) R s := by
  have hx := (N (x, excO C a0 none) (by simp)).1
  have I : InstAt s.heap x (excO C a0 none) C none := ⟨hx, rfl, rfl, trivial⟩
  have SF := PySem.F.store_object
  have sub : Looks (model prog w) s.heap (isInstance (.ref x) (.type "object")) true := I.type.andThen (looks_mroIn X (by unfold mroIn; rw [hc, Option.bind_some, hm]; rfl))
  refine codeAny_call_builtin SF.slot.plain SF.entry (@check_slot (model prog w) _ _ s "object.__setattr__" "object" "__setattr__" (.ref x) [.str name tk, v] [] _ SF.kind SF.split sub (SF.args (.ref x) (.str name tk) v) ?_)
  have hmm : Looks (model prog w) s.heap (mroOf (.ref C)) cd.mro := (looks_clsIn X hc).andThen .now
  rw [osa_eq, refuse_eq]
  refine wpAny_bind (wpAny_bind (I.type.here (wpAny_bind (hmm.here ?_))))
  rw [hm, refuseLoop_ref, refuseLoop_ref, PySem.F.store_Exception.passes]
  refine wpAny_pure (wpAny_bind (I.type.here (wpAny_bind ((looks_findIn X ha).here (wpAny_bind (wpAny_pure ?_))))))
  obtain ⟨hh, g, d, t, os⟩ := s
  dsimp only at hx
  obtain ⟨oC, hC, hCd⟩ : ∃ o, hh.get? C = some o ∧ o.data = .cls cd := by
    unfold clsIn at hc
    split at hc
    · rename_i c d cd' sl ho
      cases hc
      exact ⟨_, X _ _ ho, rfl⟩
    · cases hc
  have hxs : x ≠ hh.objs.size := Nat.ne_of_lt (Heap.lt_size hx)
  have F1 := F.push { cls := .type "dict", data := .dict #[] }
  have N1 : News h₀ L (hh.push { cls := .type "dict", data := .dict #[] }) (pre ++ (x, excO C a0 none) :: post) := fun p hp => ⟨Heap.get?_push_of_some _ (N p hp).1, (N p hp).2⟩
  obtain ⟨F2, N2⟩ := news_upd (f := fun o => { cls := o.cls, dict := some hh.objs.size, data := o.data, slots := o.slots }) F1 N1 h1 h2 (o' := excO C a0 (some hh.objs.size)) rfl rfl
  have hx₁ := (N1 (x, excO C a0 none) (by simp)).1
  have hnd : ((hh.push { cls := .type "dict", data := .dict #[] }).update x fun o => { cls := o.cls, dict := some hh.objs.size, data := o.data, slots := o.slots }).Ns hh.objs.size (fun _ => none) :=
    ⟨_, #[], _, (Heap.get?_update_ne _ _ _ _ hxs.symm).trans (Heap.get?_push_at rfl rfl), rfl, fun e he => absurd he (by simp), fun _ => rfl⟩
  have hn1 := Heap.Ns1.of_empty hnd
  have fin : ∀ (Q' : Unit → Shared → Prop) (E' : Value → Shared → Prop) (A' : Around) (t' : Nat), (∀ h' tk', Fr h₀ L h' m → News h₀ L h' (pre ++ (x, excO C a0 (some hh.objs.size)) :: post) → h'.Ns1 hh.objs.size (fun y => if y = name then some v else none) → Q' () ⟨h', g, d, tk', os⟩) →
      wpAny (model prog w) A' (nsSet hh.objs.size name v) Q' E' ⟨(hh.push { cls := .type "dict", data := .dict #[] }).update x fun o => { cls := o.cls, dict := some hh.objs.size, data := o.data, slots := o.slots }, g, d, t', os⟩ := by
    intro Q' E' A' t' hQ
    refine wpAny_nsSet1 hn1 fun h' hn' hs => ?_
    have up : ∀ b o, b ≠ hh.objs.size → ((hh.push { cls := .type "dict", data := .dict #[] }).update x fun o => { cls := o.cls, dict := some hh.objs.size, data := o.data, slots := o.slots }).get? b = some o → h'.get? b = some o := fun b o hb e => (hs.2 b hb).trans e
    obtain ⟨oL, es, ep, hL, r⟩ := F.ns
    have lt0 : ∀ b o, h₀.get? b = some o → b ≠ hh.objs.size := fun b o e => Nat.ne_of_lt (Heap.lt_size (F.keep b o e))
    obtain ⟨oL2, es2, ep2, hL2, r2⟩ := F2.ns
    refine hQ h' _ ⟨⟨oL2, es2, ep2, up _ _ (Nat.ne_of_lt (Heap.lt_size hL)) hL2, r2⟩, fun b o e => up b o (lt0 b o e) (F2.keep b o e), F2.above⟩ (fun p hp => ⟨up _ _ ?_ (N2 p hp).1, (N2 p hp).2⟩) hn'
    rcases List.mem_append.mp hp with q | q
    · exact Nat.ne_of_lt (Heap.lt_size (N p (by simp [q])).1)
    · rcases List.mem_cons.mp q with rfl | q
      · exact hxs
      · exact Nat.ne_of_lt (Heap.lt_size (N p (by simp [q])).1)
  simp only [hCd, hdct]
  wp_delta
  simp only [hCd, hdct]
  with_reducible refine wpAny_bind ?_
  wp_delta
  with_reducible refine wpAny_pure ?_
  with_reducible apply wpAny_ite_false
  · rfl
  with_reducible refine wpAny_bind ?_
  wp_delta
  wp_delta
  simp only [hCd, hdct]
  with_reducible refine wpAny_bind ?_
  with_reducible refine wpAny_loadPart_at hx ?_
  simp only [hCd, hdct]
  with_reducible refine wpAny_bind ?_
  wp_delta
  with_reducible refine wpAny_bind ?_
  with_reducible refine wpAny_load hC ?_
  simp only [hCd, hdct]
  with_reducible refine wpAny_pure ?_
  simp only [hCd, hdct]
  with_reducible apply wpAny_ite_false
  · rfl
  with_reducible apply wpAny_ite_false
  · rfl
  with_reducible (refine wpAny_bind ?_; refine wpAny_alloc' ?_; refine wpAny_bind ?_)
  with_reducible refine wpAny_update' hx₁ ?_
  wp_delta
  with_reducible refine wpAny_pure ?_
  simp only [hCd, hdct]
  wp_delta
  with_reducible refine wpAny_bind ?_
  wp_delta
  with_reducible (refine wpAny_pure ?_; refine wpAny_bind ?_)
  with_reducible refine fin _ _ _ _ ?_; intro h' tk' F' N' hn'; obtain ⟨oD, esD, epD, hoD, hdD, hcD⟩ := hn'.count (Within.cons name v Within.nil)
  with_reducible refine wpAny_bind ?_
  with_reducible refine wpAny_lookBehind hoD (by rw [hdD]; exact pastItsLine_dict (Nat.le_trans hcD (by rw [List.length_cons, List.length_nil, sizeLine_eq]; omega))) ?_
  wp_delta
  with_reducible refine wpAny_pure ?_
  simp only [hCd, hdct]
  exact k _ _ _ F' N'
theorem sf_set {a0 : Value} {cd : ClassData} {pre post : List (Addr × Obj)} {name : Str} {v : Value} {Q : Unit → Shared → Prop} (F : Fr h₀ L s.heap m) (X₀ : K.In h₀) (N : News h₀ L s.heap (pre ++ (x, excO C a0 none) :: post))
    (hc : clsIn K C = some cd) (hm : cd.mro = [.ref C, .ref D, .type "Exception", .type "BaseException", .type "object"]) (ha : findIn K (.ref C) name = some none) (hdct : cd.hasDict = true)
    (hs : findIn K (.ref C) "__setattr__" = some (some (.builtin "object.__setattr__")))
    (h1 : ∀ p ∈ pre, p.1 ≠ x) (h2 : ∀ p ∈ post, p.1 ≠ x)
    (k : ∀ d h' tk', Fr h₀ L h' m → News h₀ L h' (pre ++ (x, excO C a0 (some d)) :: post) → Q () { s with heap := h', toks := tk' }) :
    wpAny (model prog w) A (setAttr (.ref x) name v) Q E s := by
  have I : InstAt s.heap x (excO C a0 none) C none := ⟨(N (x, excO C a0 none) (by simp)).1, rfl, rfl, trivial⟩
  exact set_plain (X₀.keeps F.keep) I hs (sf_store (s := { s with toks := s.toks + 1 }) F (X₀.keeps F.keep) N hc hm ha hdct h1 h2 fun d h' tk' F' N' => k d h' tk' F' N')
end
section
variable {prog : Program} {w : World} {A : Around} {E : Value → Shared → Prop} {R : Result → Shared → Prop} {h : Heap} {g : Array GenState} {d : Drawn} {t : Nat} {os : OsState} {K : Frag}
variable {nm q : Str} {C N : Addr} {bs bm : List Value} {sn : List Str} {sub : List Value} {ab : Bool} {col : Option Bool} {dd : Option Addr} {k0 k1 k2 k3 k5 : Option Value}
theorem sf_check {M : Model} {rest : List Value} {Q : Unit → Shared → Prop} (hC : h.get? C = some (excClassObj nm q C N bs bm true sn sub ab col dd k0 k1 k2 k3 k5 "Exception.__new__"))
    (hcB : (Value.ref C :: bm).contains (.type "Exception") = true) (hq : Q () ⟨h, g, d, t, os⟩) : wpAny M A (checkBuiltinCall "Exception.__new__" ⟨.ref C :: rest, []⟩) Q E ⟨h, g, d, t, os⟩ := by
  have F := PySem.F.excBase_Exception
  have hstar := F.noStar
  simp only [checkBuiltinCall, F.newKind, F.newSplit, F.newRow]
  with_reducible apply wpAny_ite_true
  · rfl
  with_reducible refine wpAny_bind ?_
  wp_delta
  with_reducible refine wpAny_bind ?_
  refine wpAny_loadPart_at hC ?_
  simp only [bne_self_eq_false, Bool.false_eq_true, if_false]
  with_reducible refine wpAny_pure ?_
  with_reducible apply wpAny_ite_false
  · rfl
  with_reducible refine wpAny_bind ?_
  refine wpAny_isSubtype_exc hC ?_; rw [hcB]
  with_reducible apply wpAny_ite_false
  · rfl
  with_reducible refine wpAny_bind ?_
  refine wpAny_staticBase_exc hC ?_
  with_reducible refine wpAny_bind ?_
  refine wpAny_madeBy_exc hC ?_
  simp only [bne_self_eq_false, Bool.false_eq_true, if_false]
  wp_delta
  simp only [bne_self_eq_false, Bool.false_eq_true, if_false]
  with_reducible refine wpAny_bind ?_
  wp_delta
  simp only [bne_self_eq_false, Bool.false_eq_true, if_false]
  with_reducible apply wpAny_ite_true
  · rfl
  with_reducible (refine wpAny_pure ?_; refine wpAny_bind ?_)
  wp_delta
  simp only [bne_self_eq_false, Bool.false_eq_true, if_false]
  with_reducible apply wpAny_ite_true
  · rfl
  with_reducible refine wpAny_pure ?_
  wp_delta
  with_reducible_and_instances refine wpAny_pure ?_
  exact hq
theorem sf_new {rest : List Value} (hC : h.get? C = some (excClassObj nm q C N bs bm true sn sub ab col dd k0 k1 k2 k3 k5 "Exception.__new__"))
    (hcB : (Value.ref C :: bm).contains (.type "Exception") = true) (hcA : (Value.ref C :: bm).contains (.type "AttributeError") = false) (hcN : (Value.ref C :: bm).contains (.type "NameError") = false)
    (hq : R (.ok (.ret (.ref (h.objs.size + 1)))) ⟨(h.push { cls := .type "tuple", data := .seq rest.toArray }).push (excO C (.ref h.objs.size) none), g, d, t, os⟩) (hrest : rest.length ≤ sizeLine) :
    codeAny (model prog w) A (.builtin "Exception.__new__" ⟨.ref C :: rest, []⟩) R ⟨h, g, d, t, os⟩ := by
  have F := PySem.F.excBase_Exception
  have hends := F.ends
  refine codeAny_builtinAt F.entry ?_
  unfold Builtin.«BaseException.__new__»
  refine _root_.PySem.wpAt_bind ?_
  show _root_.PySem.wpAt _ _ _ (stack >>= _) _ _ _
  refine _root_.PySem.wpAt_bind (_root_.PySem.wpAt_stack fun p below => _root_.PySem.wpAt_of_wpAny ?_)
  with_reducible apply wpAny_ite_true
  · simp [*]
  with_reducible refine wpAny_pure ?_
  refine _root_.PySem.wpAt_of_wpAny ?_
  rw [F.owner]
  with_reducible refine wpAny_bind ?_
  wp_delta
  with_reducible refine wpAny_bind ?_
  wp_delta
  with_reducible refine wpAny_loadPart_at hC ?_
  with_reducible refine wpAny_pure ?_
  with_reducible apply wpAny_ite_false
  · rfl
  with_reducible refine wpAny_bind ?_
  with_reducible refine wpAny_isSubtype_exc hC ?_; first | rw [hcB] | rw [hcA] | rw [hcN]
  with_reducible apply wpAny_ite_false
  · rfl
  with_reducible refine wpAny_bind ?_
  with_reducible refine wpAny_madeHere_exc F.canon hC ?_
  with_reducible refine wpAny_bind ?_
  wp_delta
  with_reducible refine wpAny_bind ?_
  with_reducible refine wpAny_isSubtype_exc hC ?_; first | rw [hcB] | rw [hcA] | rw [hcN]
  with_reducible apply wpAny_ite_false
  · rfl
  with_reducible refine wpAny_bind ?_
  with_reducible refine wpAny_isSubtype_exc hC ?_; first | rw [hcB] | rw [hcA] | rw [hcN]
  with_reducible apply wpAny_ite_false
  · rfl
  with_reducible (refine wpAny_pure ?_; refine wpAny_bind ?_)
  wp_delta
  wp_delta
  with_reducible apply wpAny_ite_false
  · simp [*]
  wp_delta
  wp_delta
  with_reducible (refine wpAny_bind ?_; refine wpAny_alloc' ?_; refine wpAny_pure ?_; refine wpAny_bind ?_)
  wp_delta
  with_reducible apply wpAny_ite_false
  · rfl
  wp_delta
  wp_delta
  with_reducible (refine wpAny_bind ?_; refine wpAny_alloc' ?_; refine wpAny_bind ?_)
  wp_delta
  with_reducible refine wpAny_bind ?_
  with_reducible apply wpAny_load'
  · heap_get
  with_reducible refine wpAny_pure ?_
  with_reducible apply wpAny_ite_false
  · rfl
  with_reducible refine wpAny_pure ?_
  wp_delta
  with_reducible refine wpAny_pure ?_
  show R _ _
  rw [Heap.size_push]
  exact hq
theorem sf_core {v init : Value} (X : K.In h) (hC : h.get? C = some (excClassObj nm q C N bs bm true sn sub ab col dd k0 k1 k2 k3 k5 "Exception.__new__"))
    (hcB : (Value.ref C :: bm).contains (.type "Exception") = true) (hcA : (Value.ref C :: bm).contains (.type "AttributeError") = false) (hcN : (Value.ref C :: bm).contains (.type "NameError") = false)
    (call : Looks (model prog w) h (specialOf (.ref C) "__call__") (some (.builtin "type.__call__"))) (typ : Looks (model prog w) h (isInstance (.ref C) (.type "type")) true)
    (hi : Looks (model prog w) h (typeLookup (.ref C) "__init__") (some init)) (hb : ∀ self, Looks (model prog w) h (bindSpecial init self) (init, [self]))
    (hq : codeAny (model prog w) (A.under (.builtin "type.__call__" ⟨[.ref C, v], []⟩)) (.call init ⟨[.ref (h.objs.size + 1), v], []⟩) (InitBack (h.objs.size + 1) R) ⟨(h.push { cls := .type "tuple", data := .seq #[v] }).push (excO C (.ref h.objs.size) none), g, d, t, os⟩) :
    codeAny (model prog w) A (.call (.ref C) ⟨[v], []⟩) R ⟨h, g, d, t, os⟩ := by
  have F := PySem.F.excBase_Exception
  refine codeAny_of_tree ?_
  show wpAny _ _ (callAny (.ref C) _) _ _ _
  refine nd_load hC ?_
  show wpAny _ _ (callAny.viaDunder (.ref C) _) _ _ _
  unfold callAny.viaDunder
  refine wpAny_bind (call.at ?_)
  dsimp only
  rw [tc_bind]
  refine wpAny_bind (wpAny_pure (wpAny_bind (wpAny_pure ?_)))
  refine wpAny_pure (a := Fin.again (.call (.builtin "type.__call__") ⟨[.ref C, v], []⟩)) (And.intro rfl ?_)
  refine codeAny_call_builtin_at (Code.quiet_builtin _ (by decide +kernel)) entry_typeCall ?_
  refine @check_slot (model prog w) _ _ ⟨h, g, d, t, os⟩ "type.__call__" "type" "__call__" (.ref C) [v] [] _ tc_kind tc_split typ (tc_args _ _ _) ?_
  unfold Builtin.«type.__call__»
  with_reducible apply wpAny_ite_false
  · rfl
  with_reducible refine wpAny_bind ?_
  wp_delta
  with_reducible refine wpAny_bind ?_
  wp_delta
  with_reducible refine wpAny_bind ?_
  with_reducible apply wpAny_load'
  · heap_get
  with_reducible (refine wpAny_pure ?_; refine wpAny_pure ?_)
  with_reducible apply wpAny_ite_false
  · rfl
  with_reducible refine wpAny_bind ?_
  with_reducible refine wpAny_madeBy_exc hC ?_
  with_reducible (refine wpAny_bind ?_; refine wpAny_pure ?_; refine wpAny_bind ?_; refine wpAny_holding ?_; refine wpAny_call ?_)
  refine codeAny_call_builtin_code (Code.quiet_builtin _ F.quiet) ?_
  show wpAny _ _ (checkBuiltinCall "Exception.__new__" ⟨.ref C :: [v], []⟩) _ _ _
  refine sf_check hC hcB ?_
  refine sf_new hC hcB hcA hcN ?_ (by rw [sizeLine_eq, List.length_cons, List.length_nil]; omega)
  have k : ∀ b o, h.get? b = some o → ((h.push { cls := .type "tuple", data := .seq #[v] }).push (excO C (.ref h.objs.size) none)).get? b = some o := fun b o e => Heap.get?_push_of_some _ (Heap.get?_push_of_some _ e)
  have hx : ((h.push { cls := .type "tuple", data := .seq #[v] }).push (excO C (.ref h.objs.size) none)).get? (h.objs.size + 1) = some (excO C (.ref h.objs.size) none) := by heap_get
  have hC₁ := k _ _ hC
  have hcC : (Value.ref C :: bm).contains (.ref C) = true := by simp
  have i1 := hi.keeps k
  have b1 := (hb (.ref (h.objs.size + 1))).keeps k
  unfold isInstance
  with_reducible (refine wpAny_bind ?_; refine wpAny_bind ?_)
  wp_delta
  with_reducible refine wpAny_bind ?_
  with_reducible refine wpAny_loadPart_at hx ?_
  with_reducible refine wpAny_pure ?_
  with_reducible refine wpAny_isSubtype_exc hC₁ ?_; rw [hcC]
  with_reducible apply wpAny_ite_false
  · rfl
  with_reducible (refine wpAny_bind ?_; refine wpAny_holding ?_)
  wp_delta
  with_reducible refine wpAny_bind ?_
  wp_delta
  with_reducible refine wpAny_bind ?_
  wp_delta
  with_reducible refine wpAny_bind ?_
  with_reducible refine wpAny_loadPart_at hx ?_
  with_reducible refine wpAny_pure ?_
  with_reducible refine Looks.at i1 ?_
  with_reducible (refine wpAny_holding ?_; refine wpAny_bind ?_)
  with_reducible refine Looks.at b1 ?_
  with_reducible (refine wpAny_bind ?_; refine wpAny_call ?_)
  refine codeAny_mono hq fun r s' z => ?_
  rcases r with e | (v | _ | _ | _) <;> first | exact z | exact z.elim | skip
  obtain ⟨rfl, z⟩ := z
  with_reducible refine wpAny_pure ?_
  with_reducible apply wpAny_ite_false
  · rfl
  wp_delta
  wp_delta
  with_reducible refine wpAny_pure ?_
  exact z
end
section
variable {prog : Program} {w : World} {A : Around} {E : Value → Shared → Prop} {R : Result → Shared → Prop} {s : Shared} {h₀ : Heap} {L C D so x : Addr} {m : Str → Option Value} {news : List (Addr × Obj)} {K : Frag}
theorem sf_make {nm q : Str} {N' : Addr} {bs bm : List Value} {sn : List Str} {sub : List Value} {ab : Bool} {col : Option Bool} {dd : Option Addr} {k0 k1 k2 k3 k5 : Option Value} {v : Value} {fI : Addr}
    (F : Fr h₀ L s.heap m) (X₀ : K.In h₀) (N : News h₀ L s.heap news) (hC : K.lookup C = some (excClassObj nm q C N' bs bm true sn sub ab col dd k0 k1 k2 k3 k5 "Exception.__new__"))
    (hcB : (Value.ref C :: bm).contains (.type "Exception") = true) (hcA : (Value.ref C :: bm).contains (.type "AttributeError") = false) (hcN : (Value.ref C :: bm).contains (.type "NameError") = false)
    (hcall : specialIn K (.ref C) "__call__" = some (some (.builtin "type.__call__"))) (hty : instIn K (.ref C) (.type "type") = some true)
    (hi : findIn K (.ref C) "__init__" = some (some (.ref fI))) (hf : typeIn K (.ref fI) = some (.type "function"))
    (h : ∀ x t0 h', Fr h₀ L h' m → News h₀ L h' ((x, excO C (.ref t0) none) :: news) → (∀ p ∈ news, p.1 < x) →
      codeAny (model prog w) (A.under (.builtin "type.__call__" ⟨[.ref C, v], []⟩)) (.call (.ref fI) ⟨[.ref x, v], []⟩) (InitBack x fun r s' => match r with | .ok (.ret v) => Q v s' | .ok _ => False | .error e => E e s') { s with heap := h' }) :
    wpAny (model prog w) A (call (.ref C) [v]) Q E s := by
  have X := X₀.keeps F.keep
  refine wpAny_call ?_
  obtain ⟨hh, g, d, t, os⟩ := s
  refine sf_core X (X _ _ hC) hcB hcA hcN (looks_specialIn X hcall) (looks_instIn X hty) (looks_findIn X hi) (fun self => bind_fn X self hf) (h _ hh.objs.size _ ((F.push _).push _) ?_ (fun p hp => Nat.lt_succ_of_lt (Heap.lt_size (N p hp).1)))
  have := (N.push F { cls := .type "tuple", data := .seq #[v] }).push (F.push _) (excO C (.ref hh.objs.size) none)
  rw [Heap.size_push] at this
  exact fun p hp => this p (by rcases List.mem_cons.mp hp with rfl | hp; exact List.mem_cons_self; exact List.mem_cons_of_mem _ (List.mem_cons_of_mem _ hp))
theorem sf_meth {a0 : Value} {dd : Option Addr} {pl : Sem Bool} {Q : Value × List Value → Shared → Prop} (F : Fr h₀ L s.heap m) (X₀ : K.In h₀) (N : News h₀ L s.heap news) (hso : (so, ks_superObj D x C) ∈ news) (hx : (x, excO C a0 dd) ∈ news)
    (ho : nsIn K cStatics "thirdparty.any" = some none) (hm : ks_superIn K C D "__init__" = some (some (.builtin "Exception.__init__"))) (hsub : mroIn K C (.type "Exception") = some true)
    (h : ∀ q h', Fr h₀ L h' m → News h₀ L h' ((q, wrapObj x) :: news) → (∀ p ∈ news, p.1 < q) → Q (.ref q, []) { s with heap := h', toks := s.toks + 1 }) : wpAny (model prog w) A (getMethod (.ref so) "__init__" pl) Q E s := by
  have X : K.In s.heap := X₀.keeps F.keep
  obtain ⟨hh, g, d, t, os⟩ := s
  cases hc : clsIn K C with
  | none => unfold ks_superIn at hm; rw [hc] at hm; cases hm
  | some cd =>
    unfold ks_superIn at hm
    rw [hc] at hm
    have hxx := (N _ hx).1
    have hne : x ≠ C := by
      rintro rfl
      unfold clsIn at hc
      split at hc
      · rename_i c d cd' sl ho
        have e := X _ _ ho
        rw [hxx] at e
        cases e
      · cases hc
    refine super_meth (N _ hso).1 (looks_opaque X ho) (l₀ := cd.mro) ?_ rfl X hm hne hxx rfl (looks_mroIn X hsub) ?_
    · exact fun A Q E s k q => wpAny_bind ((looks_clsIn X hc) A _ E s k (wpAny_pure q))
    · obtain ⟨F', N', l'⟩ := ks_newsPush (s := ⟨hh, g, d, t, os⟩) (o := wrapObj x) F N rfl (Heap.get?_push_at rfl rfl) (fun b o e => Heap.get?_push_of_some _ e)
      exact h _ _ F' N' l'
theorem callWith_W {M : Model} {env : Env} {pos : Pos} {first : List Value} {q : Addr} {e : PySem.Expr} {rest : List PySem.Expr} {Q : Value → Shared → Prop}
    (h : wpAny M A (spliced (backTo pos (starEach (e :: rest) env))) (fun vs s₁ => s₁.heap.get? q = some (wrapObj x) ∧ wpAny M A (call (.ref q) (first ++ vs)) Q E s₁) E s)
    (he : starEach (e :: rest) env = (false, eval e env) :: starEach rest env := by rfl) (hplain : (backTo pos (starEach rest env)).any (·.1) = false := by rfl) :
    wpAny M A (callWith pos (.ref q) first (backTo pos (starEach (e :: rest) env)) []) Q E s := by
  rw [he] at h ⊢
  exact callWith_of (P := fun hp => hp.get? q = some (wrapObj x)) (by show ((false || (backTo pos (starEach rest env)).any (·.1)) || false) = false; rw [hplain]; rfl) (fun hp e => ⟨.machine, .inr (.inl rfl), ((Looks.ld (part := none) e).andThen .now)⟩) (evalArgs_plain h)
end
end Mine
end
section
-- EXR
namespace Mine
section
variable {M : Model} {A : Around} {E : Value → Shared → Prop} {s : Shared} {env : Env}
variable {nm q : Str} {C N : Addr} {bs bm : List Value} {sn : List Str} {sub : List Value} {ab : Bool} {col : Option Bool} {dd : Option Addr} {k0 k1 k2 k3 k5 : Option Value} {newId : String}
theorem raise_made {x : Sem Value} {Q : Flow → Shared → Prop} (hcB : (Value.ref C :: bm).contains (.type "BaseException") = true) (hh : A.handled = none)
    (h : wpAny M A x (fun v s₁ => ∃ e a0 d, v = .ref e ∧ s₁.heap.get? C = some (excClassObj nm q C N bs bm true sn sub ab col dd k0 k1 k2 k3 k5 newId) ∧ s₁.heap.get? e = some (excO C a0 d) ∧ E (.ref e) s₁) E s) :
    wpAny M A (raiseStmt env (some x) none) Q E s := by
  unfold raiseStmt
  refine wpAny_bind (wpAny_mono h (fun v s₁ h₁ => ?_) fun _ _ x => x)
  obtain ⟨e, a0, d, rfl, hC, he, hE⟩ := h₁
  obtain ⟨hp, g, dr, tk, os⟩ := s₁
  with_reducible (refine wpAny_bind ?_; refine wpAny_pure ?_; refine wpAny_bind ?_; refine wpAny_holding ?_)
  wp_delta
  with_reducible refine wpAny_bind ?_
  wp_delta
  with_reducible refine wpAny_bind ?_
  wp_delta
  with_reducible refine wpAny_bind ?_
  wp_delta
  with_reducible refine wpAny_loadPart_at he ?_
  with_reducible refine wpAny_pure ?_
  with_reducible apply wpAny_ite_false
  · rfl
  with_reducible refine wpAny_pure ?_
  with_reducible apply wpAny_ite_false
  · rfl
  with_reducible refine wpAny_bind ?_
  wp_delta
  with_reducible refine wpAny_bind ?_
  wp_delta
  with_reducible refine wpAny_bind ?_
  with_reducible refine wpAny_loadPart_at he ?_
  with_reducible refine wpAny_pure ?_
  with_reducible refine wpAny_isSubtype_exc hC ?_; rw [hcB]
  with_reducible apply wpAny_ite_true
  · rfl
  with_reducible (refine wpAny_pure ?_; refine wpAny_bind ?_)
  wp_delta
  with_reducible refine wpAny_bind ?_
  wp_delta
  with_reducible refine wpAny_loadPart_at he ?_
  with_reducible refine wpAny_pure ?_
  with_reducible apply wpAny_ite_false
  · rfl
  with_reducible refine wpAny_bind ?_
  wp_delta
  with_reducible refine wpAny_bind ?_
  wp_delta
  with_reducible refine wpAny_bind ?_
  with_reducible refine wpAny_loadPart_at he ?_
  with_reducible (refine wpAny_pure ?_; refine wpAny_bind ?_)
  wp_delta
  with_reducible refine wpAny_bind ?_
  with_reducible refine wpAny_loadPart_at hC ?_
  with_reducible refine wpAny_pure ?_
  with_reducible apply wpAny_ite_true
  · rfl
  with_reducible (refine wpAny_pure ?_; refine wpAny_bind ?_)
  wp_delta
  with_reducible refine wpAny_bind ?_
  wp_delta
  with_reducible refine wpAny_bind ?_
  wp_delta
  with_reducible refine wpAny_bind ?_
  with_reducible apply wpAny_load'
  · heap_get
  with_reducible refine wpAny_pure ?_
  wp_delta
  with_reducible refine wpAny_pure ?_
  with_reducible apply wpAny_ite_false
  · rfl
  with_reducible refine wpAny_pure ?_
  exact wpAny_raiseNew_none hh hE
theorem raise_exec {ex : PySem.Expr} {pos : Pos} {Q : Flow → Shared → Prop} (hcB : (Value.ref C :: bm).contains (.type "BaseException") = true) (hh : A.handled = none)
    (h : wpAny M A (eval ex env) (fun v s₁ => ∃ e a0 d, v = .ref e ∧ s₁.heap.get? C = some (excClassObj nm q C N bs bm true sn sub ab col dd k0 k1 k2 k3 k5 newId) ∧ s₁.heap.get? e = some (excO C a0 d) ∧ E (.ref e) s₁) E s) :
    wpAny M A (exec (.Raise (some ex) none pos) env) Q E s := by
  rw [arm_exec_Raise]
  refine wpAny_bind (wpAny_standAt ?_)
  show wpAny M A (raiseStmt env (some (eval ex env >>= fun v => standAt pos >>= fun _ => pure v)) none) Q E s
  refine raise_made hcB hh (wpAny_bind (wpAny_mono h (fun v s₁ h₁ => wpAny_bind (wpAny_standAt (wpAny_pure h₁))) fun _ _ x => x))
end

section
variable {M : Model} {A : Around} {E : Value → Shared → Prop} {s' : Shared} {base g : Heap} {outer : List Env} {L a e C : Addr} {m : Str → Option Value} {name : Str} {scope : Scope} {cd : Value} {Q : Unit → Shared → Prop} {news : List (Addr × Obj)}
theorem leave_sf {a0 : Value} {dd : Option Addr} (K : Below A base outer g) (F : Fr g L s'.heap m) (N : News g L s'.heap ((e, excO C a0 dd) :: news)) (hne : ∀ p ∈ news, p.1 ≠ e)
    (hQ : ∀ h', RaisedSN base g outer e (.ref C) news h' → g.UpToSlots h' → Q () { s' with heap := h' }) (hk : scope.kind = .function := by rfl) :
    wpAny M (A.deeper (envOf name scope L a cd)) (leaving (envOf name scope L a cd) (.ref e)) Q E s' := by
  have K' := K.push (name := name) (a := a) (cd := cd) F hk
  have Ne := N (e, excO C a0 dd) List.mem_cons_self
  let fs := (envOf name scope L a cd :: outer).filterMap (·.frame)
  have hin : ∀ env ∈ (envOf name scope L a cd :: outer), ∀ b, env.frame = some b → b ∈ e :: fs := fun env he b hb => List.mem_cons_of_mem _ (List.mem_filterMap.mpr ⟨env, he, hb⟩)
  have st : base.StaysIn (hideAll s'.heap (e :: fs)) := fun b o q => hideAll_get _ (K'.stays b o q) fun hm => by
    rcases List.mem_cons.mp hm with rfl | hm
    · rw [fresh_of_stays K.stays Ne.2.2] at q; cases q
    · rw [(K'.frames.mem hm).1] at q; cases q
  have sg : ∀ b o, g.get? b = some o → b ∉ outer.filterMap (·.frame) → (hideAll s'.heap (e :: fs)).get? b = some o := fun b o q nm => hideAll_get _ (F.keep b o q) fun hm => by
    rcases List.mem_cons.mp hm with rfl | hm
    · rw [Ne.2.2] at q; cases q
    rcases kts_mem hm with z | z
    · rw [z, kts_self F] at q
      cases q
    · exact nm z
  have hl : ∀ q ∈ news, (hideAll s'.heap (e :: fs)).get? q.1 = some q.2 ∧ g.get? q.1 = none ∧ base.get? q.1 = none := fun q hq => by
    have Nq := N q (List.mem_cons_of_mem _ hq)
    refine ⟨hideAll_get _ Nq.1 fun hm => ?_, Nq.2.2, fresh_of_stays K.stays Nq.2.2⟩
    rcases List.mem_cons.mp hm with z | hm
    · exact hne q hq z
    obtain ⟨env, he, hf⟩ := List.mem_filterMap.mp hm
    rcases List.mem_cons.mp he with rfl | he
    · exact Nq.2.1 (Option.some.inj hf).symm
    · obtain ⟨o, ho, _⟩ := (K.frames.mem (List.mem_filterMap.mpr ⟨env, he, hf⟩)).2
      rw [Nq.2.2] at ho; cases ho
  have hen : (hideAll s'.heap (e :: fs)).get? e = none := hideAll_none _ List.mem_cons_self
  refine wpAny_leaving_firstW (a0 := a0) K'.stack ((funFrames_hide K'.frames hin)) rfl Ne.1 (fun b o hb => of_hideAll _ hb) hen rfl rfl rfl fun h' hL => ?_
  obtain ⟨k1, ⟨_, _, k2⟩, k3, k4⟩ := hL
  have R : RaisedSN base g outer e (.ref C) news h' := ⟨_, a0, st, sg, hl, k1, hen, k2, k3⟩
  exact hQ h' R ((Heap.UpToSlots.of_keeps F.keep).trans k4)
end
/-- what a call does that gives back, or raises SortFault -/
noncomputable def SpecR (K : Params → Frag) (prog : Program) (f : Addr) (dep : Nat) {X : Type} (Pre : World → X → Led → List Value → Prop) (Post : World → X → Led → Led → Value → Prop) (PostR : World → X → Led → Led → Prop) : Prop :=
  ∀ (w : World) (p : Program) (loose : List Str) (mean : ExcName → Option Value) (mg mb : Str → Option Value) (dp un : Nat) (gd : Option (List Code)) (cn : Str) (cs : Scope) (a : Addr) (ccd : Value) (cl : List (Str × Addr)) (outer : List Env)
    (A₀ : Around) (base h₀ : Heap) (L : Addr) (m : Str → Option Value) (news : Led) (s : Shared) (vs : List Value) (x : X) (Q E : Value → Shared → Prop),
    Below A₀ base outer h₀ → Fr h₀ L s.heap m → (K w.params).In h₀ → News h₀ L s.heap news → Top p loose mean mg mb h₀ → cs.kind = .function → Nd news →
    Pre w x news vs → dp + dep < recursionLimit → un + 40 * dep < cLine →
    (∀ r news' h' tk', Fr h₀ L h' m → News h₀ L h' news' → Nd news' → Post w x news news' r → Q r { s with heap := h', toks := tk' }) →
    (∀ e news' h' tk' G, Fr h₀ L G m → RaisedSN base G (envX cn cs L a ccd cl :: outer) e (.ref 67) news' h' → G.UpToSlots h' → Nd news' → PostR w x news news' → E (.ref e) { s with heap := h', toks := tk' }) →
    wpAny (model prog w) (ktrTop dp un gd cn cs L a ccd cl outer) (call (.ref f) vs) Q E s
theorem use_specR {K : Params → Frag} {prog : Program} {f : Addr} {dep : Nat} {X : Type} {Pre : World → X → Led → List Value → Prop} {Post : World → X → Led → Led → Value → Prop} {PostR : World → X → Led → Led → Prop} (S : SpecR K prog f dep Pre Post PostR)
    {w : World} {p : Program} {loose : List Str} {mean : ExcName → Option Value} {mg mb : Str → Option Value} {dp un : Nat} {gd : Option (List Code)} {cn : Str} {cs : Scope} {a : Addr} {ccd : Value} {cl : List (Str × Addr)} {outer : List Env}
    {A₀ : Around} {base h₀ : Heap} {L : Addr} {m : Str → Option Value} {news : Led} {s : Shared} {vs : List Value} {Q E : Value → Shared → Prop}
    (B : Below A₀ base outer h₀) (F : Fr h₀ L s.heap m) (Xk : (K w.params).In h₀) (N : News h₀ L s.heap news) (T : Top p loose mean mg mb h₀) (hk : cs.kind = .function) (ND : Nd news)
    (hd : dp + dep < recursionLimit) (hu : un + 40 * dep < cLine)
    (x : X) (h1 : Pre w x news vs) (h2 : ∀ news' r, Post w x news news' r → ∀ h' tk', Fr h₀ L h' m → News h₀ L h' news' → Nd news' → Q r { s with heap := h', toks := tk' })
    (h3 : ∀ e news' h' tk' G, Fr h₀ L G m → RaisedSN base G (envX cn cs L a ccd cl :: outer) e (.ref 67) news' h' → G.UpToSlots h' → Nd news' → PostR w x news news' → E (.ref e) { s with heap := h', toks := tk' }) :
    wpAny (model prog w) (ktrTop dp un gd cn cs L a ccd cl outer) (call (.ref f) vs) Q E s := S w p loose mean mg mb dp un gd cn cs a ccd cl outer A₀ base h₀ L m news s vs x Q E B F Xk N T hk ND h1 hd hu (fun r n h t F' N' D' P => h2 n r P h t F' N' D') h3
end Mine
end
section
-- KI
namespace Mine
noncomputable def strsOf : List Value → Option (List Str)
  | [] => some []
  | .str x _ :: r => (strsOf r).map (x :: ·)
  | _ :: _ => none
theorem strsOf_are {l : List Value} {ys : List Str} (e : strsOf l = some ys) : StrsAre l ys := by
  induction l generalizing ys with
  | nil => cases e; exact .nil
  | cons v r ih =>
    cases v with
    | str x t =>
      obtain ⟨ys, h, rfl⟩ := Option.map_eq_some_iff.mp e
      exact .cons _ _ (ih h)
    | _ => cases e
theorem nd_head {l : Led} {x : Addr} {o : Obj} (h : Nd ((x, o) :: l)) : ∀ p ∈ l, p.1 ≠ x := (nd_split (pre := []) h).2
theorem nd_tail {l : Led} {p : Addr × Obj} (h : Nd (p :: l)) : Nd l := by
  unfold Nd at h ⊢
  rw [List.map_cons, List.nodup_cons] at h
  exact h.2
theorem stored_none {kvs : List (Str × Value)} {k : Str} {v : Value} (h : valueAt kvs k = none) : stored kvs k v = kvs ++ [(k, v)] := by
  unfold stored
  rw [if_neg]
  intro q
  obtain ⟨⟨a1, a2⟩, ha, hk⟩ := List.any_eq_true.mp q
  simp only [decide_eq_true_eq] at hk
  subst hk
  unfold valueAt at h
  rw [Option.map_eq_none_iff] at h
  exact absurd ha (fun ha => by simpa using List.find?_eq_none.mp h _ ha)
section
variable {prog : Program} {w : World} {A : Around} {E : Value → Shared → Prop} {s : Shared} {h₀ : Heap} {L D : Addr} {m : Str → Option Value} {K : Frag} {news : Led}
theorem ktup_in {dd : Option Addr} {its : Array Value} {n : Nat} {sl : Array (Option Value)} {ys : List Str} {x : Str} {u : Tok} {b : Bool} {Q : Value → Shared → Prop} (F : Fr h₀ L s.heap m) (X₀ : K.In h₀) (ho : K.lookup D = some ⟨.type "tuple", dd, .seq its n, sl⟩)
    (hs : strsOf its.toList = some ys) (hb : ys.any (· == x) = b) (h : Q (.bool b) s) : wpAny (model prog w) A (compareOp .In (.str x u) (.ref D)) Q E s :=
  in_tuple_strs ⟨_, (X₀.keeps F.keep) _ _ ho, rfl, _, rfl⟩ (strsOf_are hs) (by rw [hb]; exact h)
theorem ltup_in {its : List Value} {n : Nat} {ys : List Str} {x : Str} {u : Tok} {b : Bool} {Q : Value → Shared → Prop} (N : News h₀ L s.heap news) (hm : (D, tupOf its n) ∈ news)
    (hs : strsOf its = some ys) (hb : ys.any (· == x) = b) (h : Q (.bool b) s) : wpAny (model prog w) A (compareOp .In (.str x u) (.ref D)) Q E s :=
  in_tuple_strs (items := its.toArray) ⟨_, (N _ hm).1, rfl, _, rfl⟩ (strsOf_are hs) (by rw [hb]; exact h)
theorem ltup_notin {its : List Value} {n : Nat} {ys : List Str} {x : Str} {u : Tok} {b : Bool} {Q : Value → Shared → Prop} (N : News h₀ L s.heap news) (hm : (D, tupOf its n) ∈ news)
    (hs : strsOf its = some ys) (hb : ys.any (· == x) = b) (h : Q (.bool (!b)) s) : wpAny (model prog w) A (compareOp .NotIn (.str x u) (.ref D)) Q E s :=
  notin_tuple_strs (items := its.toArray) ⟨_, (N _ hm).1, rfl, _, rfl⟩ (strsOf_are hs) (by rw [hb]; exact h)
theorem raise_K {nm q : Str} {C Na : Addr} {bs bm : List Value} {sn : List Str} {sub : List Value} {ab : Bool} {col : Option Bool} {dd : Option Addr} {k0 k1 k2 k3 k5 : Option Value} {newId : String} {ex : PySem.Expr} {pos : Pos} {env : Env} {M : Model} {Q : Flow → Shared → Prop}
    (_F : Fr h₀ L s.heap m) (_X : K.In h₀) (ho : K.lookup C = some (excClassObj nm q C Na bs bm true sn sub ab col dd k0 k1 k2 k3 k5 newId)) (hcB : (Value.ref C :: bm).contains (.type "BaseException") = true) (hh : A.handled = none)
    (h : wpAny M A (eval ex env) (fun v s₁ => ∃ e a0 d, v = .ref e ∧ K.In s₁.heap ∧ s₁.heap.get? e = some (excO C a0 d) ∧ E (.ref e) s₁) E s) :
    wpAny M A (exec (.Raise (some ex) none pos) env) Q E s :=
  raise_exec hcB hh (wpAny_mono h (fun _ _ ⟨e, a0, d, h1, h2, h3, h4⟩ => ⟨e, a0, d, h1, h2 _ _ ho, h3, h4⟩) fun _ _ x => x)
end
end Mine
end
section
-- SP
namespace Mine
noncomputable def five : List Str := ["a", "b", "c", "true", "false"]
noncomputable abbrev feAttrs (w : World) (t0 t1 t2 t3 t4 : Tok) (v0 v1 v2 v3 v4 : Value) : List DictEntry := [
  ⟨PyData.keyHash w.params "fun", .str "fun" t0, v0⟩, ⟨PyData.keyHash w.params "arg_sorts", .str "arg_sorts" t1, v1⟩, ⟨PyData.keyHash w.params "result", .str "result" t2, v2⟩,
  ⟨PyData.keyHash w.params "holders", .str "holders" t3, v3⟩, ⟨PyData.keyHash w.params "body", .str "body" t4, v4⟩]
noncomputable abbrev elAttrs (w : World) (t0 t1 t2 : Tok) (v0 v1 v2 : Value) : List DictEntry := [
  ⟨PyData.keyHash w.params "bank", .str "bank" t0, v0⟩, ⟨PyData.keyHash w.params "symbols", .str "symbols" t1, v1⟩, ⟨PyData.keyHash w.params "sort_reader", .str "sort_reader" t2, v2⟩]
noncomputable def ElAt (w : World) (r : Led) (el : Addr) (b y : Addr) : Prop := ∃ d n t0 t1 t2 sr, (el, instObj 846 d) ∈ r ∧ (d, dictOf (elAttrs w t0 t1 t2 (.ref b) (.ref y) sr) n) ∈ r
theorem ElAt.mono {w : World} {r r' : Led} {el b y : Addr} (h : ElAt w r el b y) (hs : ∀ p ∈ r, p ∈ r') : ElAt w r' el b y := (by obtain ⟨d, n, t0, t1, t2, sr, h1, h2⟩ := h; exact ⟨d, n, t0, t1, t2, sr, hs _ h1, hs _ h2⟩)
/-- the entry of a name: 0 has arguments, 1 is defined, 2 is a constant -/
inductive EntK (b : Bk) (r : Led) (kind val : Nat) (its : List Value) (bo : Int) (v0 : Value) : Prop
  | args (v : Value) (hk : kind = 0) (hi : its = [v]) : EntK b r kind val its bo v0
  | body (hk : kind = 1) (hi : its = []) (hb : bo = (val : Nat)) (hv : val ≠ 0) : EntK b r kind val its bo v0
  | const (tf : Tok) (aA : Addr) (an : Nat) (t5 : Tok) (hk : kind = 2) (hi : its = []) (hb : bo = 0) (hv : val < 900) (h0 : v0 = .int (val : Nat) tf) (hf : b.fa[val]? = some (.ref aA)) (hm : (aA, tupOf [] an) ∈ r) (hr : b.fr[val]? = some (.int 0 t5)) : EntK b r kind val its bo v0
inductive EntAt (w : World) (b : Bk) (r : Led) (en : Addr) (kind val : Nat) : Prop
  | mk (j : Addr) (t0 t1 t2 t3 t4 : Tok) (v0 : Value) (sA : Addr) (v2 v3 : Value) (bo : Int) (tb : Tok) (n : Nat) (its : List Value) (sn : Nat) (h1 : (en, instObj 427 j) ∈ r) (h2 : (j, dictOf (feAttrs w t0 t1 t2 t3 t4 v0 (.ref sA) v2 v3 (.int bo tb)) n) ∈ r) (h3 : (sA, tupOf its sn) ∈ r) (h4 : EntK b r kind val its bo v0) : EntAt w b r en kind val
/-- the bank grew -/
noncomputable def BGrow (b b' : Bk) : Prop := (∀ (i : Nat) (v : Value), b.fa[i]? = some v → b'.fa[i]? = some v) ∧ (∀ (i : Nat) (v : Value), b.fr[i]? = some v → b'.fr[i]? = some v)
theorem BGrow.refl (b : Bk) : BGrow b b := ⟨fun _ _ h => h, fun _ _ h => h⟩
/-- the bank got functions, and nothing else -/
inductive BFuns (b b' : Bk) : Prop
  | mk (l1 : List Value) (n1 : Nat) (l2 : List Value) (n2 : Nat) (l3 : List Value) (n3 : Nat) (h1 : l1.length ≤ 1) (h2 : l2.length = l1.length) (h3 : l3.length = l1.length) (e : b' = { b with fn := b.fn ++ l1, fnN := n1, fa := b.fa ++ l2, faN := n2, fr := b.fr ++ l3, frN := n3 }) : BFuns b b'
theorem BFuns.refl (b : Bk) : BFuns b b := ⟨[], b.fnN, [], b.faN, [], b.frN, by simp, rfl, rfl, by simp⟩
theorem BExt.grow {b b' : Bk} (h : BExt b b') : BGrow b b' := by
  obtain ⟨l1, n1, l2, n2, l3, n3, l4, n4, o, rfl⟩ := h
  exact ⟨fun _ _ h => h, fun _ _ h => h⟩
theorem BFuns.grow {b b' : Bk} (h : BFuns b b') : BGrow b b' := by
  obtain ⟨l1, n1, l2, n2, l3, n3, -, -, -, rfl⟩ := h
  exact ⟨fun _ _ h => get_app h, fun _ _ h => get_app h⟩
theorem EntK.mono {b b' : Bk} {r r' : Led} {kind val : Nat} {its : List Value} {bo : Int} {v0 : Value} (h : EntK b r kind val its bo v0) (hg : BGrow b b') (hs : ∀ p ∈ r, p ∈ r') : EntK b' r' kind val its bo v0 := by
  cases h with
  | args v h1 h2 => exact .args v h1 h2
  | body h1 h2 h3 h4 => exact .body h1 h2 h3 h4
  | const tf aA an t5 g1 g2 g3 g4 g5 g6 g7 g8 => exact .const tf aA an t5 g1 g2 g3 g4 g5 (hg.1 _ _ g6) (hs _ g7) (hg.2 _ _ g8)
theorem EntAt.mono {w : World} {b b' : Bk} {r r' : Led} {en : Addr} {kind val : Nat} (h : EntAt w b r en kind val) (hg : BGrow b b') (hs : ∀ p ∈ r, p ∈ r') : EntAt w b' r' en kind val := by
  cases h with
  | mk j t0 t1 t2 t3 t4 v0 sA v2 v3 bo tb n its sn h1 h2 h3 h5 => exact .mk j t0 t1 t2 t3 t4 v0 sA v2 v3 bo tb n its sn (hs _ h1) (hs _ h2) (hs _ h3) (h5.mono hg hs)
noncomputable def LetsOK (prog : Program) (w : World) (r : Led) (le : List Value) (ts : List (List (Str × Value))) : Prop :=
  le.length = ts.length ∧ ∀ (i : Nat) (kvs : List (Str × Value)), ts[i]? = some kvs → ∃ (d : Addr) (o : Obj), le[i]? = some (Value.ref d) ∧ (d, o) ∈ r ∧ (d == sysModules) = false ∧ o.IsDictOf (PySem.strKind prog w) kvs
theorem LetsOK.mono {prog : Program} {w : World} {r r' : Led} {le : List Value} {ts : List (List (Str × Value))} (h : LetsOK prog w r le ts) (hs : ∀ p ∈ r, p ∈ r') : LetsOK prog w r' le ts :=
  ⟨h.1, fun i kvs e => (by obtain ⟨d, o, h1, h2, h3, h4⟩ := h.2 i kvs e; exact ⟨d, o, h1, hs _ h2, h3, h4⟩)⟩
theorem LetsOK.take {prog : Program} {w : World} {r : Led} {le : List Value} {ts : List (List (Str × Value))} (h : LetsOK prog w r le ts) (k : Nat) : LetsOK prog w r (le.take k) (ts.take k) := by
  refine ⟨by rw [List.length_take, List.length_take, h.1], fun i kvs e => ?_⟩
  rw [List.getElem?_take] at e
  split at e
  · rename_i hi
    obtain ⟨d, o, h1, h2⟩ := h.2 i kvs e
    exact ⟨d, o, by rw [List.getElem?_take, if_pos hi]; exact h1, h2⟩
  · cases e
theorem LetsOK.snoc {prog : Program} {w : World} {r : Led} {le : List Value} {ts : List (List (Str × Value))} (h : LetsOK prog w r le ts) {d : Addr} {o : Obj} {kvs : List (Str × Value)} (hm : (d, o) ∈ r) (lo : (d == sysModules) = false) (hd : o.IsDictOf (PySem.strKind prog w) kvs) :
    LetsOK prog w r (le ++ [.ref d]) (ts ++ [kvs]) := by
  refine ⟨(len_snoc h.1).trans (len_snoc rfl).symm, fun i kv e => ?_⟩
  rcases get_snoc e with e | ⟨rfl, rfl⟩
  · obtain ⟨d', o', h1, h2⟩ := h.2 i kv e
    exact ⟨d', o', get_app h1, h2⟩
  · exact ⟨d, o, get_end h.1, hm, lo, hd⟩
noncomputable def lookRev (ts : List (List (Str × Value))) (nm : Str) : Option Value := ts.reverse.findSome? fun kvs => valueAt kvs nm
noncomputable def LetsPos (ts : List (List (Str × Value))) : Prop := ∀ kvs ∈ ts, ∀ q ∈ kvs, ∃ (k : Nat) (t : Tok), q.2 = Value.int (k : Nat) t ∧ 0 < k
theorem valueAt_mem {kvs : List (Str × Value)} {nm : Str} {v : Value} (h : valueAt kvs nm = some v) : (nm, v) ∈ kvs := by
  unfold valueAt at h
  cases q : kvs.find? (fun x => decide (x.1 = nm)) with
  | none => rw [q] at h; cases h
  | some y =>
    rw [q] at h
    have h1 := List.find?_some q
    have h2 := List.mem_of_find?_eq_some q
    obtain ⟨y1, y2⟩ := y
    simp only [decide_eq_true_eq] at h1
    subst h1
    simp only [Option.map_some, Option.some.injEq] at h
    subst h
    exact h2
theorem LetsPos.look {ts : List (List (Str × Value))} (h : LetsPos ts) {nm : Str} {v : Value} (e : lookRev ts nm = some v) : ∃ (k : Nat) (t : Tok), v = Value.int (k : Nat) t ∧ 0 < k := by
  obtain ⟨kvs, hk, hv⟩ := List.exists_of_findSome?_eq_some e
  exact h kvs (List.mem_reverse.mp hk) _ (valueAt_mem hv)
/-- the row of a name, among what was brought -/
noncomputable def lookB (bs : List (Str × Nat × Nat)) (nm : Str) : Option (Nat × Nat) := (bs.find? fun x => decide (x.1 = nm)).map (·.2)
theorem lookB_hit {bs : List (Str × Nat × Nat)} {nm : Str} {i c d : Nat} (h : bs[i]? = some (nm, c, d)) (hno : lookB (bs.take i) nm = none) : lookB bs nm = some (c, d) := by
  have e : bs = (bs.take i ++ [(nm, c, d)]) ++ bs.drop (i + 1) := by
    have htk : bs.take (i + 1) = bs.take i ++ [(nm, c, d)] := by rw [List.take_add_one, h]; rfl
    rw [← htk, List.take_append_drop]
  unfold lookB at hno ⊢
  rw [Option.map_eq_none_iff] at hno
  rw [e, List.find?_append, List.find?_append, hno]
  simp
theorem lookB_miss {bs : List (Str × Nat × Nat)} {nm rn : Str} {i c d : Nat} (h : bs[i]? = some (rn, c, d)) (hne : ¬ rn = nm) (hno : lookB (bs.take i) nm = none) : lookB (bs.take (i + 1)) nm = none := by
  have htk : bs.take (i + 1) = bs.take i ++ [(rn, c, d)] := by rw [List.take_add_one, h]; rfl
  unfold lookB at hno ⊢
  rw [Option.map_eq_none_iff] at hno
  rw [htk, List.find?_append, hno]
  simp [hne]
noncomputable def FunsOK (w : World) (b : Bk) (r : Led) : List (Str × Value) → List (Str × Nat × Nat) → Prop
  | [], [] => True
  | (n, v) :: k, (n', kd, vl) :: x => n = n' ∧ (∃ en, v = .ref en ∧ EntAt w b r en kd vl) ∧ FunsOK w b r k x
  | _, _ => False
theorem FunsOK.mono {w : World} {b b' : Bk} {r r' : Led} (hg : BGrow b b') (hs : ∀ p ∈ r, p ∈ r') : ∀ {kvs : List (Str × Value)} {bs : List (Str × Nat × Nat)}, FunsOK w b r kvs bs → FunsOK w b' r' kvs bs
  | [], [], _ => trivial
  | (_, _) :: _, (_, _, _) :: _, ⟨h1, ⟨en, h2, h3⟩, h4⟩ => ⟨h1, ⟨en, h2, h3.mono hg hs⟩, FunsOK.mono hg hs h4⟩
  | [], _ :: _, h => h.elim
  | _ :: _, [], h => h.elim
theorem FunsOK.len {w : World} {b : Bk} {r : Led} : ∀ {kvs : List (Str × Value)} {bs : List (Str × Nat × Nat)}, FunsOK w b r kvs bs → kvs.length = bs.length
  | [], [], _ => rfl
  | (_, _) :: _, (_, _, _) :: _, ⟨_, _, h4⟩ => congrArg (· + 1) (FunsOK.len h4)
  | [], _ :: _, h => h.elim
  | _ :: _, [], h => h.elim
theorem FunsOK.snoc {w : World} {b : Bk} {r : Led} {n : Str} {v : Value} {kd vl : Nat} (hn : ∃ en, v = .ref en ∧ EntAt w b r en kd vl) : ∀ {kvs : List (Str × Value)} {bs : List (Str × Nat × Nat)}, FunsOK w b r kvs bs → FunsOK w b r (kvs ++ [(n, v)]) (bs ++ [(n, kd, vl)])
  | [], [], _ => ⟨rfl, hn, trivial⟩
  | (_, _) :: _, (_, _, _) :: _, ⟨h1, h2, h4⟩ => ⟨h1, h2, FunsOK.snoc hn h4⟩
  | [], _ :: _, h => h.elim
  | _ :: _, [], h => h.elim
theorem FunsOK.take {w : World} {b : Bk} {r : Led} : ∀ {kvs : List (Str × Value)} {bs : List (Str × Nat × Nat)} (k : Nat), FunsOK w b r kvs bs → FunsOK w b r (kvs.take k) (bs.take k)
  | [], [], k, _ => by rw [List.take_nil, List.take_nil]; trivial
  | (_, _) :: _, (_, _, _) :: _, 0, _ => trivial
  | (_, _) :: _, (_, _, _) :: _, k + 1, ⟨h1, h2, h4⟩ => ⟨h1, h2, FunsOK.take k h4⟩
  | [], _ :: _, _, h => h.elim
  | _ :: _, [], _, h => h.elim
theorem FunsOK.look {w : World} {b : Bk} {r : Led} {nm : Str} : ∀ {kvs : List (Str × Value)} {bs : List (Str × Nat × Nat)}, FunsOK w b r kvs bs → (valueAt kvs nm = none ∧ lookB bs nm = none) ∨ ∃ en kd vl, valueAt kvs nm = some (.ref en) ∧ lookB bs nm = some (kd, vl) ∧ EntAt w b r en kd vl
  | [], [], _ => .inl ⟨rfl, rfl⟩
  | (n, v) :: k, (n', kd, vl) :: x, ⟨h1, ⟨en, h2, h3⟩, h4⟩ => by
    subst h1 h2
    by_cases e : n = nm
    · right
      refine ⟨en, kd, vl, ?_, ?_, h3⟩
      · unfold valueAt; rw [List.find?_cons_of_pos (by simpa using e)]; rfl
      · unfold lookB; rw [List.find?_cons_of_pos (by simpa using e)]; rfl
    · have e1 : valueAt ((n, Value.ref en) :: k) nm = valueAt k nm := by unfold valueAt; rw [List.find?_cons_of_neg (by simpa using e)]
      have e2 : lookB ((n, kd, vl) :: x) nm = lookB x nm := by unfold lookB; rw [List.find?_cons_of_neg (by simpa using e)]
      rw [e1, e2]
      exact FunsOK.look h4
  | [], _ :: _, h => h.elim
  | _ :: _, [], h => h.elim
/-- what symbol_term tells (0: it refuses) -/
noncomputable def Says (xs : List (TKey × Addr × Value)) (ts : List (List (Str × Value))) (bs : List (Str × Nat × Nat)) (nm : Str) (k : Nat) : Prop :=
  (∃ t, lookRev ts nm = some (.int (k : Nat) t) ∧ 0 < k) ∨ (lookRev ts nm = none ∧ ((nm = "true" ∧ k = 1) ∨ (nm = "false" ∧ k = 2) ∨ (nm ≠ "true" ∧ nm ≠ "false" ∧
    (((lookB bs nm = none ∨ ∃ v, lookB bs nm = some (0, v)) ∧ k = 0) ∨ (lookB bs nm = some (1, k) ∧ 0 < k) ∨ ∃ v, lookB bs nm = some (2, v) ∧ 0 < k ∧ BKey xs k ⟨"app", [], 0, (v : Nat)⟩))))
theorem Says.mono {xs xs' : List (TKey × Addr × Value)} {ts : List (List (Str × Value))} {bs : List (Str × Nat × Nat)} {nm : Str} {k : Nat} (h : Says xs ts bs nm k) (hs : ∀ x ∈ xs, x ∈ xs') : Says xs' ts bs nm k := by
  rcases h with h | ⟨h0, h | h | ⟨h1, h2, h | h | ⟨v, h3, h4, h5⟩⟩⟩
  · exact .inl h
  · exact .inr ⟨h0, .inl h⟩
  · exact .inr ⟨h0, .inr (.inl h)⟩
  · exact .inr ⟨h0, .inr (.inr ⟨h1, h2, .inl h⟩)⟩
  · exact .inr ⟨h0, .inr (.inr ⟨h1, h2, .inr (.inl h)⟩)⟩
  · exact .inr ⟨h0, .inr (.inr ⟨h1, h2, .inr (.inr ⟨v, h3, h4, h5.mono hs⟩)⟩)⟩
theorem Says.inj {prog : Program} {w : World} {b : Bk} {r : Led} {xs : List (TKey × Addr × Value)} (H : BOKx prog w b r xs) {ts : List (List (Str × Value))} {bs : List (Str × Nat × Nat)} {nm : Str} {k k' : Nat} (h : Says xs ts bs nm k) (h' : Says xs ts bs nm k') : k = k' := by
  have tf : ("true" : Str) ≠ "false" := by decide
  rcases h with ⟨t, g1, g2⟩ | ⟨h0, h⟩ <;> rcases h' with ⟨t', g1', g2'⟩ | ⟨h0', h'⟩
  · rw [g1] at g1'
    injection g1' with e
    injection e with e
    exact Int.ofNat.inj e
  · rw [g1] at h0'; cases h0'
  · rw [h0] at g1'; cases g1'
  · rcases h with ⟨e1, e2⟩ | ⟨e1, e2⟩ | ⟨h1, h2, h⟩ <;> rcases h' with ⟨e1', e2'⟩ | ⟨e1', e2'⟩ | ⟨h1', h2', h'⟩
    · rw [e2, e2']
    · exact absurd (e1.symm.trans e1') tf
    · exact absurd e1 h1'
    · exact absurd (e1'.symm.trans e1) tf
    · rw [e2, e2']
    · exact absurd e1 h2'
    · exact absurd e1' h1
    · exact absurd e1' h2
    · rcases h with ⟨g, e⟩ | ⟨g, e⟩ | ⟨v, g, e, q⟩ <;> rcases h' with ⟨g', e'⟩ | ⟨g', e'⟩ | ⟨v', g', e', q'⟩
      · rw [e, e']
      · rw [g'] at g; rcases g with g | ⟨_, g⟩ <;> cases g
      · rw [g'] at g; rcases g with g | ⟨_, g⟩ <;> cases g
      · rw [g] at g'; rcases g' with g' | ⟨_, g'⟩ <;> cases g'
      · rw [g] at g'; cases g'; rfl
      · rw [g] at g'; cases g'
      · rw [g] at g'; rcases g' with g' | ⟨_, g'⟩ <;> cases g'
      · rw [g] at g'; cases g'
      · rw [g] at g'; cases g'
        exact q.inj H q'
theorem five_len {nm : Str} (h : nm ∈ five) : nm.length ≤ 100 := by
  simp only [five, List.mem_cons, List.not_mem_nil, or_false] at h
  rcases h with rfl | rfl | rfl | rfl | rfl <;> decide
theorem fits_app {a b : Str} {n : Nat} (hb : b.length ≤ 100) (ha : a.length ≤ n) : (a ++ b).length ≤ n + 100 := by
  rw [strLen_append]; omega
theorem fits_800 {n : Nat} (h : n ≤ 800) : n ≤ sizeLine := by rw [sizeLine_eq]; omega
theorem fits_0 {n : Nat} : Str.empty.length ≤ n := Nat.zero_le _
section
variable {prog : Program} {w : World} {A : Around} {E : Value → Shared → Prop} {s : Shared}
theorem log_one {v : Value} : (((([v] : List Value).length : Nat) : Int)).natAbs.log2 < 1920 := by
  show Nat.log2 1 < 1920
  decide
theorem str_one {v : Value} : toString ((([v] : List Value).length : Nat) : Int) = "1" := by
  show toString (1 : Int) = "1"
  decide +kernel
theorem fmt_one {v : Value} {t : Tok} {Q : Value → Shared → Prop} (h : Q (.str (Str.ofString "1") (s.toks + 1)) { s with toks := s.toks + 1 + 1 }) : wpAny (model prog w) A (formatField (.int ((([v] : List Value).length : Nat) : Int) t) Str.empty) Q E s :=
  formatField_int_small log_one (by rw [str_one]; exact h)
end
section
variable {prog : Program} {w : World} {A : Around} {E : Value → Shared → Prop} {s : Shared} {h₀ : Heap} {L D : Addr} {news : Led} {its : List Value} {n : Nat} {o : Obj}
theorem len_O {Q : Value → Shared → Prop} (N : News h₀ L s.heap news) (hm : (D, o) ∈ news) (ho : o = listOf its.toArray n ∨ o = tupOf its n) (hfit : its.length < 2 ^ 62) (h : ∀ t tk, Q (.int (its.length : Nat) t) { s with toks := tk }) :
    wpAny (model prog w) A (call (.builtin "len") [.ref D]) Q E s := by
  rcases ho with rfl | rfl
  · exact len_L N hm hfit h
  · exact len_T N hm hfit h
end
/-- marks a frame's map of which some places are known -/
noncomputable def MapMark (_m : Str → Option Value) : Prop := True
theorem canon2 {p q : Addr × Obj} {A B r : Led} : (p :: q :: (A ++ (B ++ r))).Perm (A ++ (B ++ (p :: q :: r))) := by
  have h1 : (A ++ (B ++ (p :: q :: r))) = (A ++ B) ++ (p :: q :: r) := by rw [List.append_assoc]
  have h2 : (A ++ (B ++ r)) = (A ++ B) ++ r := by rw [List.append_assoc]
  rw [h1, h2]
  exact ((List.perm_middle.trans (List.Perm.cons p List.perm_middle)).symm)
theorem canonN {A B n r : Led} : (A ++ (n ++ (B ++ r))).Perm (A ++ (B ++ (n ++ r))) := List.Perm.append_left A (List.perm_append_comm_assoc ..)
theorem upd_in {P Q pre post : Led} {d : Addr} {o o' : Obj} (h : Nd (P ++ (Q ++ (pre ++ (d, o) :: post)))) : Upd d o o' (P ++ (Q ++ (pre ++ (d, o) :: post))) (P ++ (Q ++ (pre ++ (d, o') :: post))) := by
  have e : ∀ z : Obj, P ++ (Q ++ (pre ++ (d, z) :: post)) = (P ++ (Q ++ pre)) ++ (d, z) :: post := fun z => by simp [List.append_assoc]
  rw [e] at h ⊢
  rw [e]
  exact upd_nd h
theorem sub_left {r n : Led} : ∀ p ∈ r, p ∈ n ++ r := fun _ hp => List.mem_append_right _ hp
noncomputable def PreSt (prog : Program) (w : World) (x : Bk × Sy × Led × Led × Addr × Str × Tok × List (List (Str × Value)) × List (Str × Value) × List (Str × Nat × Nat) × List (TKey × Addr × Value)) (news : Led) (vs : List Value) : Prop := match x with
  | (b, y, rest, r0, el, nm, t, ts, kvs, bs, xs) => news = bled w b ++ (sled w y ++ rest) ∧ vs = [.ref el, .str nm t] ∧ (∀ p ∈ r0, p ∈ rest) ∧ ElAt w rest el b.inst y.inst ∧ y.bk = b.inst ∧ nm ∈ five ∧ LetsOK prog w rest y.le ts ∧ ts.length < 900 ∧ LetsPos ts ∧ y.fuO.IsDictOf (PySem.strKind prog w) kvs ∧ (y.fuA == sysModules) = false ∧
    FunsOK w b rest kvs bs ∧ BOKx prog w b r0 xs ∧ b.op.length < 900
noncomputable def Told (prog : Program) (w : World) (b : Bk) (y : Sy) (rest r0 : Led) (ts : List (List (Str × Value))) (bs : List (Str × Nat × Nat)) (xs : List (TKey × Addr × Value)) (nm : Str) (news' : Led) (r : Value) : Prop :=
  ∃ b' new k t xs', r = .int (k : Nat) t ∧ news' = bled w b' ++ (sled w y ++ (new ++ rest)) ∧ BOKx prog w b' (new ++ r0) xs' ∧ (∀ x ∈ xs, x ∈ xs') ∧ BExt b b' ∧ b'.op.length ≤ b.op.length + 1 ∧ Says xs' ts bs nm k
noncomputable def PostSt (prog : Program) (w : World) (x : Bk × Sy × Led × Led × Addr × Str × Tok × List (List (Str × Value)) × List (Str × Value) × List (Str × Nat × Nat) × List (TKey × Addr × Value)) (_news news' : Led) (r : Value) : Prop := match x with
  | (b, y, rest, r0, _, nm, _, ts, _, bs, xs) => Told prog w b y rest r0 ts bs xs nm news' r
noncomputable def PostStR (w : World) (x : Bk × Sy × Led × Led × Addr × Str × Tok × List (List (Str × Value)) × List (Str × Value) × List (Str × Nat × Nat) × List (TKey × Addr × Value)) (_news news' : Led) : Prop := match x with
  | (b, y, rest, _, _, nm, _, ts, _, bs, xs) => (∃ new, news' = bled w b ++ (sled w y ++ (new ++ rest))) ∧ Says xs ts bs nm 0
theorem Told.same {prog : Program} {w : World} {b : Bk} {y : Sy} {rest r0 : Led} {ts : List (List (Str × Value))} {bs : List (Str × Nat × Nat)} {xs : List (TKey × Addr × Value)} {nm : Str} {k : Nat} {t : Tok} (HB : BOKx prog w b r0 xs) (hS : Says xs ts bs nm k) :
    Told prog w b y rest r0 ts bs xs nm (bled w b ++ (sled w y ++ rest)) (.int (k : Nat) t) := ⟨b, [], k, t, xs, rfl, rfl, HB, fun _ h => h, .refl b, by omega, hS⟩
theorem Told.made {prog : Program} {w : World} {b : Bk} {y : Sy} {rest r0 : Led} {ts : List (List (Str × Value))} {bs : List (Str × Nat × Nat)} {xs : List (TKey × Addr × Value)} {nm : Str} {v : Nat} {news' : Led} {r : Value} {q : Addr × Obj} (h0 : lookRev ts nm = none) (h1 : nm ≠ "true") (h2 : nm ≠ "false") (h3 : lookB bs nm = some (2, v))
    (h : Made prog w b (sled w y ++ (q :: rest)) r0 xs ⟨"app", [], 0, (v : Nat)⟩ news' r) : ∃ news'', news'.Perm news'' ∧ Told prog w b y rest r0 ts bs xs nm news'' r := by
  obtain ⟨b', new, n, t, xs', rfl, hn, rfl, hB, hK, hs, hE, hle⟩ := h
  refine ⟨bled w b' ++ (sled w y ++ ((new ++ [q]) ++ rest)), ?_, b', new ++ [q], n, t, xs', rfl, rfl, ?_, hs, hE, hle, .inr ⟨h0, .inr (.inr ⟨h1, h2, .inr (.inr ⟨v, h3, hn, hK⟩)⟩)⟩⟩
  · rw [List.append_assoc, List.singleton_append]
    exact canonN
  · exact hB.mono fun p hp => by
      rcases List.mem_append.mp hp with z | z
      · exact List.mem_append_left _ (List.mem_append_left _ z)
      · exact List.mem_append_right _ z
end Mine
end
section
-- LC
namespace Mine
open PyProof.Rows.LCg
section
variable {prog : Program} {w : World} {A : Around} {E : Value → Shared → Prop} {s : Shared} {h₀ : Heap} {L : Addr} {m : Str → Option Value} {env : Env}
noncomputable def TupIn (ax : Addr) (its : List Value) (nw : Led) : Prop := ∃ n, (ax, tupOf its n) ∈ nw
inductive CompT (prog : Program) (w : World) (A : Around) (h₀ : Heap) (L : Addr) (m : Str → Option Value) (env : Env) (elt : PySem.Expr) (x : Str) (scope : Scope) (cl : List (Str × Addr)) (Fin : Shared → List Value → List (Addr × Obj) → Prop) (xv : Value) (s₁ : Shared) : Prop
  | mk (ax : Addr) (its : List Value) (news : List (Addr × Obj)) (e : xv = .ref ax) (hh : A.handled = none) (F : Fr h₀ L s₁.heap m) (N : News h₀ L s₁.heap news) (S : TupIn ax its news) (hsz : its.toArray.size ≤ sizeLine)
    (R : ∀ s₂ : Shared, (∃ h, s₂ = { s₁ with heap := h }) → CompRest prog w A h₀ L m env elt x scope cl s₂ (TupIn ax its) (fun i v => its.toArray[i]? = some v) (Fin s₂) its.toArray.size 0 [] news) : CompT prog w A h₀ L m env elt x scope cl Fin xv s₁
theorem comp_T {elt iter : PySem.Expr} {x : Str} {px : Pos} {scope : Scope} {cl : List (Str × Addr)} {pos : Pos} {Q : Value → Shared → Prop} (_F₀ : Fr h₀ L s.heap m)
    (hclos : closureFor scope env = pure cl) (hcell : ∀ y ∈ scope.names, y.2 ≠ .cell) (hkind : scope.kind = .function)
    (hnames : ∀ y ∈ scope.names, y.2 = .local → scope.names.lookup y.1 = some .local) (hx : scope.names.lookup x = some .local)
    (h : wpAny (model prog w) A (eval iter env) (CompT prog w A h₀ L m env elt x scope cl (fun s₂ => FinE h₀ L m s₂ Q)) E s)
    (hs : ∀ x, foldedSetIterable iter env x = pure x := by intro _; rfl) :
    wpAny (model prog w) A (eval (.ListComp elt [⟨.Name x px, iter, [], 0⟩] scope pos) env) Q E s := by
  rw [eval_ListComp]
  refine wpAny_comprehension_free (use := none) rfl hs hclos hkind hnames (wpAny_mono h (fun xv s₁ h₁ => ?_) fun _ _ e => e)
  obtain ⟨ax, its, news, rfl, hh, F, N, S, hsz, R⟩ := h₁
  have tup : ∀ {h : Heap} {nw : Led}, News h₀ L h nw → TupIn ax its nw → h.IsTuple ax its.toArray := fun N ⟨_, hm⟩ => ⟨_, (N _ hm).1, rfl, _, rfl⟩
  have ht := tup N S
  have hlt : ax < s₁.heap.objs.size := by obtain ⟨_, e, _⟩ := ht; exact Heap.lt_size e
  refine wpAny_pyIter_tuple ht ?_
  have up : ∀ b o, s₁.heap.get? b = some o → (s₁.heap.push { cls := .type "tuple_iterator", data := .fields #[.ref ax, .int 0 0] }).get? b = some o := fun b o e => Heap.get?_push_of_some _ e
  refine block_U (Walks.tuple hh s₁.heap.objs.size ax (Nat.ne_of_lt hlt) its.toArray) hsz (fun i h st => by obtain ⟨o, e, _⟩ := st.1; exact ⟨o, e⟩)
    (fun i h h' o nw st e e' k N S => ⟨by obtain ⟨o', q, r⟩ := st.1; rw [e] at q; cases q; exact ⟨o, e', r⟩, tup N S⟩) hcell hkind hx ⟨⟨_, Heap.get?_push_size _ rfl, rfl, rfl⟩, ht.push _⟩ (fun b hb => ?_)
    (F.keeps up) (N.grown up) (Nat.ne_of_lt F.ns.lt) (next_is_new F) (fun p hp => Nat.ne_of_lt (Heap.lt_size (N p hp).1)) S (R _ ⟨_, rfl⟩) ?_
  · show b < (s₁.heap.push _).objs.size
    rw [Heap.size_push]
    rcases List.mem_cons.mp hb with rfl | hb
    · exact Nat.lt_succ_self _
    · rw [List.mem_singleton.mp hb]; exact Nat.lt_succ_of_lt hlt
  · intro D C h tk m' ys news' F' N' o1 hn hC₀ hD₀ hCL hDL hCD offC fin
    refine ⟨m', hn, fun h'' hs'' => fin D h'' tk (F'.change hs'' hCL hC₀) (fun p hp => ?_) o1⟩
    refine ⟨hs''.extBut _ _ ?_ (N' p hp).1, (N' p hp).2⟩
    rcases List.mem_cons.mp hp with rfl | hp
    · exact Ne.symm hCD
    · exact offC p hp
end
theorem canon1 {p : Addr × Obj} {A B r : Led} : (p :: (A ++ (B ++ r))).Perm (A ++ (B ++ (p :: r))) := by
  have h1 : (A ++ (B ++ (p :: r))) = (A ++ B) ++ (p :: r) := by rw [List.append_assoc]
  have h2 : (A ++ (B ++ r)) = (A ++ B) ++ r := by rw [List.append_assoc]
  rw [h1, h2]
  exact List.perm_middle.symm
theorem nd_cell {h₀ h : Heap} {L x : Addr} {o : Obj} {l : Led} (_N : News h₀ L h ((x, o) :: l)) (ND : Nd l) (hx : ∀ p ∈ l, p.1 < x) : Nd ((x, o) :: l) := nd_cons ND hx
theorem off1_mem {D : Addr} : ∀ {l : Led}, Off1 D l → ∀ p ∈ l, p.1 ≠ D
  | [], _, p, hp => by cases hp
  | q :: r, ⟨h1, h2⟩, p, hp => by
    rcases List.mem_cons.mp hp with rfl | hp
    · exact h1
    · exact off1_mem h2 p hp
theorem nd_off {l : Led} {D : Addr} {o : Obj} (h1 : Off1 D l) (h : Nd l) : Nd ((D, o) :: l) := by
  unfold Nd at h ⊢
  rw [List.map_cons, List.nodup_cons]
  refine ⟨fun hm => ?_, h⟩
  obtain ⟨p, hp, e⟩ := List.mem_map.mp hm
  exact off1_mem h1 p hp e
theorem canon_off {h₀ h : Heap} {L D : Addr} {o : Obj} {A B r : Led} (N : News h₀ L h ((D, o) :: (A ++ (B ++ r)))) (h1 : Off1 D (A ++ (B ++ r))) (h2 : Nd (A ++ (B ++ r))) : News h₀ L h (A ++ (B ++ ((D, o) :: r))) ∧ Nd (A ++ (B ++ ((D, o) :: r))) :=
  ⟨news_perm N canon1, nd_perm (nd_off h1 h2) canon1⟩
section
variable {prog : Program} {w : World} {A : Around} {s : Shared} {h₀ : Heap} {L : Addr} {m : Str → Option Value} {env : Env}
theorem comp_ind {elt : PySem.Expr} {x : Str} {scope : Scope} {cl : List (Str × Addr)} {S : List (Addr × Obj) → Prop} {P : Nat → Value → Prop} {Fin : List Value → List (Addr × Obj) → Prop} {n : Nat} (J : Nat → List Value → Led → Prop)
    (step : ∀ i ys nw, i < n → J i ys nw → ∀ v I oI C oC D m₂ h tk (E' : Value → Shared → Prop), P i v → NsObj oC m₂ → m₂ x = some v → Fr h₀ L h m → News h₀ L h ((I, oI) :: (C, oC) :: (D, lst ys) :: nw) → Off3 I C D nw → ((@Ne Nat I C) ∧ (@Ne Nat I D) ∧ (@Ne Nat C D)) →
      wpAny (model prog w) A (eval elt (compEnvC scope cl C env)) (CompEnd h₀ L m { s with heap := h, toks := tk } I oI C oC D (lst ys) S (fun y nw' => J (i + 1) (ys ++ [y]) nw')) E' { s with heap := h, toks := tk })
    (fin : ∀ ys nw, J n ys nw → Fin ys nw) : ∀ (k i : Nat) (ys : List Value) (nw : Led), i + k = n → J i ys nw → CompRest prog w A h₀ L m env elt x scope cl s S P Fin k i ys nw := by
  intro k
  induction k with
  | zero => intro i ys nw e j; exact CompRest.zero (fin ys nw (by rw [← e]; exact j))
  | succ k ih =>
    intro i ys nw e j
    refine CompRest.succ fun v I oI C oC D m₂ h tk E' h1 h2 h3 h4 h5 h6 h7 => wpAny_mono (step i ys nw (by omega) j v I oI C oC D m₂ h tk E' h1 h2 h3 h4 h5 h6 h7) (fun y s₂ q => ?_) fun _ _ e => e
    obtain ⟨h', tk', news', e1, e2, e3, e4, e5, e6⟩ := q
    exact ⟨h', tk', news', e1, e2, e3, e4, e5, ih (i + 1) _ _ (by omega) e6⟩
theorem nd_three {I C D : Addr} {oI oC oD : Obj} {l : Led} (h : Off3 I C D l) (e : (@Ne Nat I C) ∧ (@Ne Nat I D) ∧ (@Ne Nat C D)) (ND : Nd l) : Nd ((I, oI) :: (C, oC) :: (D, oD) :: l) := by
  unfold Nd at ND ⊢
  simp only [List.map_cons, List.nodup_cons, List.mem_cons, not_or]
  have q := h.mem
  refine ⟨⟨e.1, e.2.1, fun hm => ?_⟩, ⟨e.2.2, fun hm => ?_⟩, fun hm => ?_, ND⟩ <;> (obtain ⟨p, hp, ep⟩ := List.mem_map.mp hm)
  · exact (q p hp).1 ep
  · exact (q p hp).2.1 ep
  · exact (q p hp).2.2 ep
theorem canon3 {p q z : Addr × Obj} {A B r : Led} : (p :: q :: z :: (A ++ (B ++ r))).Perm (A ++ (B ++ (p :: q :: z :: r))) := by
  have h1 : (A ++ (B ++ (p :: q :: z :: r))) = (A ++ B) ++ (p :: q :: z :: r) := by rw [List.append_assoc]
  have h2 : (A ++ (B ++ r)) = (A ++ B) ++ r := by rw [List.append_assoc]
  rw [h1, h2]
  exact ((List.perm_middle.trans (List.Perm.cons p (List.perm_middle.trans (List.Perm.cons q List.perm_middle)))).symm)
end
section
variable {M : Model} {A : Around} {E : Value → Shared → Prop} {s' : Shared} {base g g₂ : Heap} {outer : List Env} {L e : Addr} {m : Str → Option Value} {env : Env} {Q : Unit → Shared → Prop} {news : Led}
theorem ktx_mem {b : Addr} (hf : env.frame = some L) (hm : b ∈ (env :: outer).filterMap (·.frame)) : b = L ∨ b ∈ outer.filterMap (·.frame) := by
  obtain ⟨env', he, hb⟩ := List.mem_filterMap.mp hm
  rcases List.mem_cons.mp he with rfl | he
  · rw [hf] at hb
    exact .inl (Option.some.inj hb).symm
  · exact .inr (List.mem_filterMap.mpr ⟨env', he, hb⟩)
theorem leave_onX {cls : Value} (hf : env.frame = some L) (K : Below A base outer g) (F : Fr g L g₂ m) (R : RaisedSN base g₂ (env :: outer) e cls news s'.heap) (hsm : g₂.UpToSlots s'.heap)
    (hQ : ∀ h', RaisedSN base g outer e cls news h' → g.UpToSlots h' → Q () { s' with heap := h' }) : wpAny M (A.deeper env) (leaving env (.ref e)) Q E s' := by
  obtain ⟨B, a0, hB, hBG, hl, hfl⟩ := R
  exact wpAny_leaves_onW (Around.frames_deeper K.stack) hf hfl fun h' x1 x2 =>
    hQ h' ⟨B, a0, hB, fun b o q nm => hBG b o (F.keep b o q) (fun hm => by
      rcases ktx_mem hf hm with z | z
      · rw [z, kts_self F] at q
        cases q
      · exact nm z), fun q hq => ⟨(hl q hq).1, kts_none F.keep (hl q hq).2.1, (hl q hq).2.2⟩, x1⟩ ((Heap.UpToSlots.of_keeps F.keep).trans (hsm.trans x2))
end
end Mine
end
section
-- TD
namespace Mine
/-- the end of a call that may turn the frames' slots -/
noncomputable def LeaveT (env : Env) (A₀ : Around) (base : Heap) (outer : List Env) (K : Frag) (p : Program) (loose : List Str) (mean : ExcName → Option Value) (mg mb : Str → Option Value) (h₀ : Heap) (L : Addr) (m : Str → Option Value) (g : Heap) (R : Result → Shared → Prop) (v : Value) (s' : Shared) : Prop :=
  ∃ g' L' m' news', KtsTurn ((env :: outer).filterMap (·.frame)) g g' ∧ Fr g' L' s'.heap m' ∧ News g' L' s'.heap news' ∧ ∀ h₀', KtsTurn (outer.filterMap (·.frame)) h₀ h₀' → Fr h₀' L s'.heap m → News h₀' L s'.heap news' → Below A₀ base outer h₀' → K.In h₀' → Top p loose mean mg mb h₀' →
    KtsDicts (outer.filterMap (·.frame)) h₀' → R (.ok (.ret v)) s'
section
variable {prog : Program} {w : World} {A₀ A : Around} {s : Shared} {base h₀ : Heap} {outer : List Env} {L : Addr} {m : Str → Option Value} {env : Env} {news : List (Addr × Obj)} {K : Frag} {p : Program} {loose : List Str} {mean : ExcName → Option Value} {mg mb : Str → Option Value}
    {R : Result → Shared → Prop} {name qual : Str} {params : Arguments} {body : List Stmt} {scope : Scope} {dV kV doc pm cdv ct oc : Value} {an od : Option Addr} {osl : Array (Option Value)} {f : Addr} {args : Args} {binds : List (Str × Value)}
theorem code_defT (B : Below A₀ base outer h₀) (F : Fr h₀ L s.heap m) (X₀ : K.In h₀) (N : News h₀ L s.heap news) (T : Top p loose mean mg mb h₀) (XB : K.In base) (TB : Top p loose mean mg mb base) (D : KtsDicts (outer.filterMap (·.frame)) h₀)
    (hA : A.frames = some (env :: outer)) (hf : env.frame = some L) (hke : env.scope.kind = .function)
    (ho : K.lookup f = some ⟨oc, od, .func (fnOf name qual params body scope dV kV doc pm an cdv ct), osl⟩) (hcd : codeIn K cdv qual = true) (hroom : A.depth < recursionLimit)
    (hbind : BindsTo s (fnOf name qual params body scope dV kV doc pm an cdv ct) args binds) (hloc : ∀ y ∈ binds, scope.names.lookup y.1 = some .local)
    (h : ∀ g L' h₁, Fr h₀ L g m → Fr g L' h₁ (fun y => binds.reverse.lookup y) → News g L' h₁ news → Below A base (env :: outer) g → K.In g → Top p loose mean mg mb g → KtsDicts ((env :: outer).filterMap (·.frame)) g →
      wpAny (model prog w) (A.deeper (envOf qual scope L' f cdv)) (execs body (envOf qual scope L' f cdv))
        (fun fl s' => LeaveT env A₀ base outer K p loose mean mg mb h₀ L m g R (match fl with | .ret v => v | _ => .none) s')
        (fun e s' => wpAny (model prog w) (A.deeper (envOf qual scope L' f cdv)) (leaving (envOf qual scope L' f cdv) e) (fun _ s'' => R (.error e) s'') (fun e' s'' => R (.error e') s'') s')
        { s with heap := h₁, toks := s.toks + binds.length })
    (hco : scope.isCoroutine = false) (hgen : scope.isGenerator = false) (hk : scope.kind = .function)
    (hcell : ∀ x ∈ scope.names, x.2 ≠ .cell) : codeAny (model prog w) A (.call (.ref f) args) R s := by
  have X := X₀.keeps F.keep
  refine codeAny_call_def (fd := fnOf name qual params body scope dV kV doc pm an cdv ct) (body := body) (binds := binds) hroom (X _ _ ho) rfl (T.nolimit.keeps F.keep) (codeRec_of X hcd) rfl hbind hcell hloc (fun h₁ hns hk₁ => ?_) hco hgen hk
  obtain ⟨FG, BG, st, -⟩ := groundX (R := R) B F N hA hf hke
  obtain ⟨oL, es, ep, hLg, hLd, hLk, hLf⟩ := FG.ns
  refine wpAny_mono (h _ s.heap.objs.size h₁ FG ⟨hns, fun b o e => hk₁ b o (of_hideAll _ e), Nat.le_of_eq (hideAll_size _ _)⟩
    (fun p hp => ⟨hk₁ _ _ (N p hp).1, Nat.ne_of_lt (Heap.lt_size (N p hp).1), hideAll_none _ (List.mem_map_of_mem hp)⟩) BG (X₀.keeps st) (T.keeps st) (fun b hb => by
      rcases ktx_mem hf hb with rfl | hb
      · exact ⟨oL, es, ep, hLg, hLd⟩
      · obtain ⟨o, es', n', ho', hd'⟩ := D b hb
        exact ⟨o, es', n', st b o ho', hd'⟩)) (fun fl s' hl => ?_) fun _ _ y => y
  have nL₀ : h₀.get? L = none := kts_self F
  obtain ⟨g', L', m', news', T', F', N', k⟩ := hl
  obtain ⟨sl, hs⟩ := T'.up hLg
  obtain ⟨T₁, S₁⟩ := kts_turn_at (h := s'.heap) (fs := outer.filterMap (·.frame)) (g := h₀)
    (fun b hb => by
      obtain ⟨_, o, ho', _⟩ := B.frames.mem hb
      exact ⟨o, ho'⟩)
    (fun b o e nmem => F'.keep b o (T'.other b o (st b o e) (fun q => by
      rcases ktx_mem hf q with z | z
      · rw [z, nL₀] at e
        cases e
      · exact nmem z)))
    (fun b o e hm => by
      obtain ⟨sl', hs'⟩ := T'.up (st b o e)
      exact ⟨sl', F'.keep _ _ hs'⟩)
  have B₃ : Below A₀ base outer (ktsHeap s'.heap (outer.filterMap (·.frame)) h₀) := ⟨B.stack, fun b o e => T₁.other b o (B.stays b o e) (fun hm => by
    rw [(B.frames.mem hm).1] at e
    cases e), B.frames.of_keeps fun b o e _ => by
    obtain ⟨sl', hs'⟩ := T₁.up e
    exact ⟨_, hs', rfl⟩⟩
  refine k _ T₁ ⟨⟨_, es, ep, F'.keep _ _ hs, hLd, hLk, hLf⟩, S₁, by rw [T₁.size]; exact F.above⟩ (fun p hp => ⟨(N' p hp).1, fun q => ?_, ?_⟩) B₃ (XB.keeps B₃.stays) (TB.keeps B₃.stays) (D.turn T₁)
  · have := (N' p hp).2.2; rw [q, hs] at this; cases this
  · refine T₁.none_ _ ?_
    cases q : h₀.get? p.1 with
    | none => rfl
    | some o =>
      obtain ⟨sl', hs'⟩ := T'.up (st _ _ q)
      have := (N' p hp).2.2
      rw [hs'] at this
      cases this
end
/-- what a call does that may turn the slots of the frames below it -/
noncomputable def SpecT (K : Params → Frag) (prog : Program) (f : Addr) (dep : Nat) {X : Type} (Pre : World → X → Led → List Value → Prop) (Post : World → X → Led → Led → Value → Prop) : Prop :=
  ∀ (w : World) (p : Program) (loose : List Str) (mean : ExcName → Option Value) (mg mb : Str → Option Value) (dp un : Nat) (gd : Option (List Code)) (cn : Str) (cs : Scope) (a : Addr) (ccd : Value) (cl : List (Str × Addr)) (outer : List Env)
    (A₀ : Around) (base h₀ : Heap) (L : Addr) (m : Str → Option Value) (news : Led) (s : Shared) (vs : List Value) (x : X) (Q E : Value → Shared → Prop),
    Below A₀ base outer h₀ → Fr h₀ L s.heap m → (K w.params).In h₀ → News h₀ L s.heap news → Top p loose mean mg mb h₀ → cs.kind = .function → Nd news →
    (K w.params).In base → Top p loose mean mg mb base → KtsDicts (outer.filterMap (·.frame)) h₀ →
    Pre w x news vs → dp + dep < recursionLimit → un + 40 * dep < cLine →
    (∀ r news' h' tk' h₀', KtsTurn (outer.filterMap (·.frame)) h₀ h₀' → Fr h₀' L h' m → News h₀' L h' news' → Below A₀ base outer h₀' → (K w.params).In h₀' → Top p loose mean mg mb h₀' → KtsDicts (outer.filterMap (·.frame)) h₀' → Nd news' → Post w x news news' r → Q r { s with heap := h', toks := tk' }) →
    wpAny (model prog w) (ktrTop dp un gd cn cs L a ccd cl outer) (call (.ref f) vs) Q E s
theorem use_specT {K : Params → Frag} {prog : Program} {f : Addr} {dep : Nat} {X : Type} {Pre : World → X → Led → List Value → Prop} {Post : World → X → Led → Led → Value → Prop} (S : SpecT K prog f dep Pre Post)
    {w : World} {p : Program} {loose : List Str} {mean : ExcName → Option Value} {mg mb : Str → Option Value} {dp un : Nat} {gd : Option (List Code)} {cn : Str} {cs : Scope} {a : Addr} {ccd : Value} {cl : List (Str × Addr)} {outer : List Env}
    {A₀ : Around} {base h₀ : Heap} {L : Addr} {m : Str → Option Value} {news : Led} {s : Shared} {vs : List Value} {Q E : Value → Shared → Prop}
    (B : Below A₀ base outer h₀) (F : Fr h₀ L s.heap m) (Xk : (K w.params).In h₀) (N : News h₀ L s.heap news) (T : Top p loose mean mg mb h₀) (hk : cs.kind = .function) (ND : Nd news)
    (XB : (K w.params).In base) (TB : Top p loose mean mg mb base) (D : KtsDicts (outer.filterMap (·.frame)) h₀) (hd : dp + dep < recursionLimit) (hu : un + 40 * dep < cLine)
    (x : X) (h1 : Pre w x news vs) (h2 : ∀ news' r, Post w x news news' r → ∀ h' tk' h₀', KtsTurn (outer.filterMap (·.frame)) h₀ h₀' → Fr h₀' L h' m → News h₀' L h' news' → Below A₀ base outer h₀' → (K w.params).In h₀' → Top p loose mean mg mb h₀' → KtsDicts (outer.filterMap (·.frame)) h₀' → Nd news' → Q r { s with heap := h', toks := tk' }) :
    wpAny (model prog w) (ktrTop dp un gd cn cs L a ccd cl outer) (call (.ref f) vs) Q E s := S w p loose mean mg mb dp un gd cn cs a ccd cl outer A₀ base h₀ L m news s vs x Q E B F Xk N T hk ND XB TB D h1 hd hu fun r n h t g T' F' N' B' X' P' D' ND' P => h2 n r P h t g T' F' N' B' X' P' D' ND'
end Mine
end
section
-- LT
namespace Mine
set_option genInjectivity false in
set_option genSizeOf false in
/-- the law's own objects -/
structure Lw where
  diA : Addr
  diO : Obj
  ceA : Addr
  ce : List Value
  ceN : Nat
  stA : Addr
  stO : Obj
  boA : Addr
  bo : List Value
  boN : Nat
  brA : Addr
  br : List Value
  brN : Nat
  maA : Addr
  ma : List Value
  maN : Nat
  smA : Addr
  sm : List Value
  smN : Nat
noncomputable def tled (t : Lw) : Led := [(t.diA, t.diO), (t.ceA, listOf t.ce.toArray t.ceN), (t.stA, t.stO), (t.boA, listOf t.bo.toArray t.boN), (t.brA, listOf t.br.toArray t.brN), (t.maA, listOf t.ma.toArray t.maN), (t.smA, listOf t.sm.toArray t.smN)]
section
variable {w : World} {b : Bk} {y : Sy} {t : Lw} {r : Led}
theorem tm_di : (t.diA, t.diO) ∈ tled t ++ r := mem_at 0 rfl
theorem tm_ce : (t.ceA, listOf t.ce.toArray t.ceN) ∈ tled t ++ r := mem_at 1 rfl
theorem tm_st : (t.stA, t.stO) ∈ tled t ++ r := mem_at 2 rfl
theorem tm_bo : (t.boA, listOf t.bo.toArray t.boN) ∈ tled t ++ r := mem_at 3 rfl
theorem tm_br : (t.brA, listOf t.br.toArray t.brN) ∈ tled t ++ r := mem_at 4 rfl
theorem tm_mk : (t.maA, listOf t.ma.toArray t.maN) ∈ tled t ++ r := mem_at 5 rfl
theorem tm_sm : (t.smA, listOf t.sm.toArray t.smN) ∈ tled t ++ r := mem_at 6 rfl
theorem tm_r {p : Addr × Obj} (h : p ∈ r) : p ∈ tled t ++ r := List.mem_append_right _ h
theorem tu_di (h : Nd (bled w b ++ (sled w y ++ (tled t ++ r)))) : UpdF t.diA t.diO (bled w b ++ (sled w y ++ (tled t ++ r))) (fun o => bled w b ++ (sled w y ++ (tled { t with diO := o } ++ r))) :=
  updF_nd (pre := bled w b ++ sled w y) (post := (tled t ++ r).drop 1) h
theorem tu_st (h : Nd (bled w b ++ (sled w y ++ (tled t ++ r)))) : UpdF t.stA t.stO (bled w b ++ (sled w y ++ (tled t ++ r))) (fun o => bled w b ++ (sled w y ++ (tled { t with stO := o } ++ r))) :=
  updF_nd (pre := bled w b ++ (sled w y ++ (tled t).take 2)) (post := (tled t ++ r).drop 3) h
theorem tu_bo {D : Addr} {v : List Value} {n : Nat} (h : Nd (bled w b ++ (sled w y ++ (tled t ++ r)))) (e : D = t.boA := by rfl) : Upd D (listOf t.bo.toArray t.boN) (listOf v.toArray n) (bled w b ++ (sled w y ++ (tled t ++ r))) (bled w b ++ (sled w y ++ (tled { t with bo := v, boN := n } ++ r))) := by
  subst e
  exact upd_nd (pre := bled w b ++ (sled w y ++ (tled t).take 3)) (post := (tled t ++ r).drop 4) h
theorem tu_br {D : Addr} {v : List Value} {n : Nat} (h : Nd (bled w b ++ (sled w y ++ (tled t ++ r)))) (e : D = t.brA := by rfl) : Upd D (listOf t.br.toArray t.brN) (listOf v.toArray n) (bled w b ++ (sled w y ++ (tled t ++ r))) (bled w b ++ (sled w y ++ (tled { t with br := v, brN := n } ++ r))) := by
  subst e
  exact upd_nd (pre := bled w b ++ (sled w y ++ (tled t).take 4)) (post := (tled t ++ r).drop 5) h
theorem tu_mk {D : Addr} {v : List Value} {n : Nat} (h : Nd (bled w b ++ (sled w y ++ (tled t ++ r)))) (e : D = t.maA := by rfl) : Upd D (listOf t.ma.toArray t.maN) (listOf v.toArray n) (bled w b ++ (sled w y ++ (tled t ++ r))) (bled w b ++ (sled w y ++ (tled { t with ma := v, maN := n } ++ r))) := by
  subst e
  exact upd_nd (pre := bled w b ++ (sled w y ++ (tled t).take 5)) (post := (tled t ++ r).drop 6) h
end
theorem leaveT_of {env : Env} {A₀ : Around} {base : Heap} {outer : List Env} {K : Frag} {p : Program} {loose : List Str} {mean : ExcName → Option Value} {mg mb : Str → Option Value} {h₀ g g' : Heap} {L L' : Addr} {m m' : Str → Option Value} {news' : Led} {R : Result → Shared → Prop} {v : Value} {s' : Shared}
    (T : KtsTurn ((env :: outer).filterMap (·.frame)) g g') (F' : Fr g' L' s'.heap m') (N' : News g' L' s'.heap news')
    (k : ∀ h₀', KtsTurn (outer.filterMap (·.frame)) h₀ h₀' → Fr h₀' L s'.heap m → News h₀' L s'.heap news' → Below A₀ base outer h₀' → K.In h₀' → Top p loose mean mg mb h₀' → KtsDicts (outer.filterMap (·.frame)) h₀' → R (.ok (.ret v)) s') :
    LeaveT env A₀ base outer K p loose mean mg mb h₀ L m g R v s' := ⟨g', L', m', news', T, F', N', k⟩
theorem nat_dict_at {v w : Value} : valueAt [(Str.ofString "cells", v), (Str.ofString "at", w)] (Str.ofString "at") = some w := rfl
theorem nat_dict_ce {v w : Value} : valueAt [(Str.ofString "cells", v), (Str.ofString "at", w)] (Str.ofString "cells") = some v := rfl
theorem stored_at {v w u : Value} : stored [(Str.ofString "cells", v), (Str.ofString "at", w)] (Str.ofString "at") u = [(Str.ofString "cells", v), (Str.ofString "at", u)] := rfl
theorem sd_bo {v u x : Value} : valueAt [(Str.ofString "bound", v), (Str.ofString "brought", u), (Str.ofString "marks", x)] (Str.ofString "bound") = some v := rfl
theorem sd_br {v u x : Value} : valueAt [(Str.ofString "bound", v), (Str.ofString "brought", u), (Str.ofString "marks", x)] (Str.ofString "brought") = some u := rfl
theorem sd_mk {v u x : Value} : valueAt [(Str.ofString "bound", v), (Str.ofString "brought", u), (Str.ofString "marks", x)] (Str.ofString "marks") = some x := rfl
theorem ss_bo {v u x z : Value} : stored [(Str.ofString "bound", v), (Str.ofString "brought", u), (Str.ofString "marks", x)] (Str.ofString "bound") z = [(Str.ofString "bound", z), (Str.ofString "brought", u), (Str.ofString "marks", x)] := rfl
theorem ss_br {v u x z : Value} : stored [(Str.ofString "bound", v), (Str.ofString "brought", u), (Str.ofString "marks", x)] (Str.ofString "brought") z = [(Str.ofString "bound", v), (Str.ofString "brought", z), (Str.ofString "marks", x)] := rfl
/-- the dish: the cells and the place -/
noncomputable def DishOK (prog : Program) (w : World) (t : Lw) (k : Nat) : Prop := (∃ ta, t.diO.IsDictOf (PySem.strKind prog w) [(Str.ofString "cells", .ref t.ceA), (Str.ofString "at", .int (k : Nat) ta)]) ∧ (t.diA == sysModules) = false ∧ (∃ ns, IntsAre t.ce ns) ∧ t.ce.length < 900
theorem IntsAre.getI {vs : List Value} {ns : List Int} (h : IntsAre vs ns) : ∀ {i : Nat}, i < vs.length → ∃ (c : Int) (u : Tok), vs[i]? = some (.int c u) := by
  induction h with
  | nil => intro i hi; exact absurd hi (Nat.not_lt_zero _)
  | cons n t _ ih =>
    intro i hi
    cases i with
    | zero => exact ⟨n, t, rfl⟩
    | succ i => exact ih (Nat.lt_of_succ_lt_succ hi)
theorem fmod_nat (a : Int) {many : Nat} (h : 0 < many) : ∃ z : Nat, z < many ∧ a.fmod many = (z : Nat) := by
  have h1 : a.fmod many = a % many := Int.fmod_eq_emod_of_nonneg a (by omega)
  have h2 := Int.emod_nonneg a (show (many : Int) ≠ 0 by omega)
  have h3 := Int.emod_lt_of_pos a (show (0 : Int) < many by omega)
  exact ⟨(a % many).toNat, by omega, by rw [h1]; omega⟩
/-- the law's own state -/
noncomputable def StateOK (prog : Program) (w : World) (t : Lw) : Prop := t.stO.IsDictOf (PySem.strKind prog w) [(Str.ofString "bound", .ref t.boA), (Str.ofString "brought", .ref t.brA), (Str.ofString "marks", .ref t.maA)] ∧ (t.stA == sysModules) = false
/-- the law's rows of what was brought -/
noncomputable def RowsOK (r : Led) : List Value → List (Str × Nat × Nat) → Prop
  | [], [] => True
  | v :: l, (n, kd, vl) :: x => (∃ a t1 t2 t3 c, v = .ref a ∧ (a, tupOf [.str n t1, .int (kd : Nat) t2, .int (vl : Nat) t3] c) ∈ r) ∧ RowsOK r l x
  | _, _ => False
theorem RowsOK.mono {r r' : Led} (hs : ∀ p ∈ r, p ∈ r') : ∀ {l : List Value} {x : List (Str × Nat × Nat)}, RowsOK r l x → RowsOK r' l x
  | [], [], _ => trivial
  | _ :: _, (_, _, _) :: _, ⟨⟨a, t1, t2, t3, c, h1, h2⟩, h⟩ => ⟨⟨a, t1, t2, t3, c, h1, hs _ h2⟩, RowsOK.mono hs h⟩
  | [], _ :: _, h => h.elim
  | _ :: _, [], h => h.elim
theorem RowsOK.len {r : Led} : ∀ {l : List Value} {x : List (Str × Nat × Nat)}, RowsOK r l x → l.length = x.length
  | [], [], _ => rfl
  | _ :: _, (_, _, _) :: _, ⟨_, h⟩ => congrArg (· + 1) (RowsOK.len h)
  | [], _ :: _, h => h.elim
  | _ :: _, [], h => h.elim
theorem RowsOK.snoc {r : Led} {v : Value} {n : Str} {kd vl : Nat} (hn : ∃ a t1 t2 t3 c, v = .ref a ∧ (a, tupOf [.str n t1, .int (kd : Nat) t2, .int (vl : Nat) t3] c) ∈ r) : ∀ {l : List Value} {x : List (Str × Nat × Nat)}, RowsOK r l x → RowsOK r (l ++ [v]) (x ++ [(n, kd, vl)])
  | [], [], _ => ⟨hn, trivial⟩
  | _ :: _, (_, _, _) :: _, ⟨h1, h⟩ => ⟨h1, RowsOK.snoc hn h⟩
  | [], _ :: _, h => h.elim
  | _ :: _, [], h => h.elim
theorem RowsOK.take {r : Led} : ∀ {l : List Value} {x : List (Str × Nat × Nat)} (k : Nat), RowsOK r l x → RowsOK r (l.take k) (x.take k)
  | [], [], k, _ => by rw [List.take_nil, List.take_nil]; trivial
  | _ :: _, (_, _, _) :: _, 0, _ => trivial
  | _ :: _, (_, _, _) :: _, k + 1, ⟨h1, h⟩ => ⟨h1, RowsOK.take k h⟩
  | [], _ :: _, _, h => h.elim
  | _ :: _, [], _, h => h.elim
theorem RowsOK.get {r : Led} : ∀ {l : List Value} {x : List (Str × Nat × Nat)} {i : Nat} {v : Value}, RowsOK r l x → l[i]? = some v → ∃ n kd vl, x[i]? = some (n, kd, vl) ∧ ∃ a t1 t2 t3 c, v = .ref a ∧ (a, tupOf [.str n t1, .int (kd : Nat) t2, .int (vl : Nat) t3] c) ∈ r
  | [], [], i, v, _, e => by cases e
  | _ :: _, (n, kd, vl) :: _, 0, v, ⟨h1, _⟩, e => by cases e; exact ⟨n, kd, vl, rfl, h1⟩
  | _ :: _, (_, _, _) :: _, i + 1, v, ⟨_, h⟩, e => RowsOK.get (i := i) h e
  | [], _ :: _, _, _, h, _ => h.elim
  | _ :: _, [], _, _, h, _ => h.elim
/-- what the law's own row says of a name -/
noncomputable def DueIs (ts : List (List (Str × Value))) (bs : List (Str × Nat × Nat)) (nm : Str) (c d : Nat) : Prop :=
  (∃ t, lookRev ts nm = some (.int (d : Nat) t) ∧ c = 1) ∨ (lookRev ts nm = none ∧ ((nm = "true" ∧ c = 1 ∧ d = 1) ∨ (nm = "false" ∧ c = 1 ∧ d = 2) ∨ (nm ≠ "true" ∧ nm ≠ "false" ∧ (lookB bs nm = some (c, d) ∨ (lookB bs nm = none ∧ c = 0 ∧ d = 0)))))
noncomputable def PreDu (prog : Program) (w : World) (x : Bk × Sy × Lw × Led × Str × Tok × List (List (Str × Value)) × List (Str × Nat × Nat)) (news : Led) (vs : List Value) : Prop := match x with
  | (b, y, t, rest, nm, tn, ts, bs) => news = bled w b ++ (sled w y ++ (tled t ++ rest)) ∧ vs = [.ref b.inst, .ref t.stA, .str nm tn] ∧ StateOK prog w t ∧ LetsOK prog w rest t.bo ts ∧ LetsPos ts ∧ ts.length < 900 ∧ RowsOK rest t.br bs ∧ bs.length < 900 ∧ nm ∈ five
noncomputable def PostDu (w : World) (x : Bk × Sy × Lw × Led × Str × Tok × List (List (Str × Value)) × List (Str × Nat × Nat)) (_news news' : Led) (r : Value) : Prop := match x with
  | (b, y, t, rest, nm, _, ts, bs) => ∃ new T c d u1 u2 n, news' = bled w b ++ (sled w y ++ (tled t ++ (new ++ rest))) ∧ r = .ref T ∧ (T, tupOf [.int (c : Nat) u1, .int (d : Nat) u2] n) ∈ new ∧ DueIs ts bs nm c d
theorem due_end {w : World} {b : Bk} {y : Sy} {t : Lw} {rest new : Led} {nm : Str} {tn : Tok} {ts : List (List (Str × Value))} {bs : List (Str × Nat × Nat)} {c d : Nat} {T : Addr} {u1 u2 : Tok} {n : Nat} {h₀ h' : Heap} {L : Addr} {m : Str → Option Value} {news : Led} {s : Shared} {tk : Nat} {Q : Value → Shared → Prop}
    (F : Fr h₀ L h' m) (N : News h₀ L h' (bled w b ++ (sled w y ++ ((T, tupOf [.int (c : Nat) u1, .int (d : Nat) u2] n) :: (new ++ (tled t ++ rest)))))) (ND : Nd (bled w b ++ (sled w y ++ ((T, tupOf [.int (c : Nat) u1, .int (d : Nat) u2] n) :: (new ++ (tled t ++ rest))))))
    (ret : ∀ (r : Value) (news' : List (Addr × Obj)) (h' : Heap) (tk' : Nat), Fr h₀ L h' m → News h₀ L h' news' → Nd news' → PostDu w (b, y, t, rest, nm, tn, ts, bs) news news' r → Q r { s with heap := h', toks := tk' })
    (hd : DueIs ts bs nm c d) : Q (.ref T) { s with heap := h', toks := tk } := by
  have p : (bled w b ++ (sled w y ++ ((T, tupOf [.int (c : Nat) u1, .int (d : Nat) u2] n) :: (new ++ (tled t ++ rest))))).Perm (bled w b ++ (sled w y ++ (tled t ++ (((T, tupOf [.int (c : Nat) u1, .int (d : Nat) u2] n) :: new) ++ rest)))) :=
    List.Perm.append_left _ (List.Perm.append_left _ (by
      rw [← List.cons_append]
      exact List.perm_append_comm_assoc ..))
  exact ret _ _ _ _ F (news_perm N p) (nd_perm ND p) ⟨_, T, c, d, u1, u2, n, rfl, rfl, List.mem_cons_self, hd⟩
noncomputable def PreSc (prog : Program) (w : World) (x : Bk × Sy × Lw × Led × Nat × Nat × Tok) (news : Led) (vs : List Value) : Prop := match x with
  | (b, y, t, rest, k, many, tm) => news = bled w b ++ (sled w y ++ (tled t ++ rest)) ∧ vs = [.ref t.diA, .int (many : Nat) tm] ∧ DishOK prog w t k ∧ k < 900 ∧ 0 < many ∧ many < 900
noncomputable def PostSc (prog : Program) (w : World) (x : Bk × Sy × Lw × Led × Nat × Nat × Tok) (_news news' : Led) (r : Value) : Prop := match x with
  | (b, y, t, rest, k, many, _) => ∃ o z tz, news' = bled w b ++ (sled w y ++ (tled { t with diO := o } ++ rest)) ∧ DishOK prog w { t with diO := o } (k + 1) ∧ r = .int (z : Nat) tz ∧ z < many
end Mine
end
section
-- GL
namespace Mine
/-- what a turn leaves -/
inductive GMid (G : Heap → Prop) (L I : Addr) (oI : Obj) (J : (Str → Option Value) → Led → Prop) (s : Shared) : Shared → Prop
  | mk {g' h' : Heap} {tk : Nat} {m' : Str → Option Value} {news' : Led} (hG : G g') (F : Fr g' L h' m') (N : News g' L h' ((I, oI) :: news')) (hI : ∀ p ∈ news', p.1 ≠ I) (j : J m' news') : GMid G L I oI J s { s with heap := h', toks := tk }
/-- a turn's end where the ground may have turned -/
noncomputable def GEnd (G : Heap → Prop) (L I : Addr) (oI : Obj) (J : (Str → Option Value) → Led → Prop) (s : Shared) (Q : Flow → Shared → Prop) (f : Flow) (s₂ : Shared) : Prop :=
  match f with
  | .ret v => Q (.ret v) s₂
  | .brk => Q .next s₂
  | _ => GMid G L I oI J s s₂
theorem GEnd.intro {G : Heap → Prop} {L I : Addr} {oI : Obj} {J : (Str → Option Value) → Led → Prop} {s : Shared} {Q : Flow → Shared → Prop} {g' h' : Heap} {tk : Nat} {m' : Str → Option Value} {news' : Led} (hG : G g') (F : Fr g' L h' m') (N : News g' L h' ((I, oI) :: news')) (hI : ∀ p ∈ news', p.1 ≠ I) (j : J m' news') :
    GEnd G L I oI J s Q .next { s with heap := h', toks := tk } := .mk hG F N hI j
section
variable {prog : Program} {w : World} {A : Around} {E : Value → Shared → Prop} {s : Shared} {env : Env} {h₀ : Heap} {body : List Stmt} {Q : Flow → Shared → Prop} {m : Str → Option Value} {news : Led} {K : Frag}
/-- between two turns -/
inductive GInv (s₁ : Shared) (G : Heap → Prop) (St : Nat → Obj → Prop) (L I : Addr) (n : Nat) (J : Nat → (Str → Option Value) → Led → Prop) : Nat → Shared → Prop
  | mk {g h' : Heap} {tk : Nat} {m' : Str → Option Value} {news' : Led} {i : Nat} {o : Obj} (hg : G g) (ho : h'.get? I = some o) (hs : St i o) (F : Fr g L h' m') (N : News g L h' news') (hI : ∀ p ∈ news', p.1 ≠ I) (j : J i m' news') (hi : i ≤ n) : GInv s₁ G St L I n J (n + 1 - i) { s₁ with heap := h', toks := tk }
theorem GMid.inv {G : Heap → Prop} {St : Nat → Obj → Prop} {L I : Addr} {n i : Nat} {J : Nat → (Str → Option Value) → Led → Prop} {oI : Obj} {s₁ s₃ : Shared} {a : Heap} {b : Nat} (h : GMid G L I oI (J (i + 1)) { s₁ with heap := a, toks := b } s₃) (hs : St (i + 1) oI) (hi : i < n) : ∃ k, k < n + 1 - i ∧ GInv s₁ G St L I n J k s₃ := by
  obtain ⟨hG, F, N, hn, j⟩ := h
  exact ⟨n + 1 - (i + 1), by omega, .mk hG (N _ List.mem_cons_self).1 hs F (fun p hp => N p (List.mem_cons_of_mem _ hp)) hn j hi⟩
theorem news_old {g h' h₁ : Heap} {L I : Addr} {m' : Str → Option Value} {news' : Led} (F' : Fr g L h' m') (N' : News g L h' news') (hnI : ∀ p ∈ news', p.1 ≠ I) (hLI : L ≠ I) (hgI : g.get? I = none) (hk₁ : ∀ b o, b ∉ [I] → h'.get? b = some o → h₁.get? b = some o) : Fr g L h₁ m' ∧ News g L h₁ news' :=
  ⟨⟨F'.ns.at' fun o e => hk₁ _ o (fun q => hLI (List.mem_singleton.mp q)) e, fun b o e => hk₁ b o (fun q => by rw [List.mem_singleton.mp q, hgI] at e; cases e) (F'.keep b o e), F'.above⟩, fun p hp => ⟨hk₁ _ _ (fun q => hnI p hp (List.mem_singleton.mp q)) (N' p hp).1, (N' p hp).2⟩⟩
theorem news_more {g h : Heap} {L I : Addr} {oI : Obj} {news' : Led} (N : News g L h news') (ho : h.get? I = some oI) (hLI : L ≠ I) (hgI : g.get? I = none) : News g L h ((I, oI) :: news') := by
  intro p hp
  rcases List.mem_cons.mp hp with rfl | hp
  · exact ⟨ho, Ne.symm hLI, hgI⟩
  · exact N p hp
/-- the loop itself -/
theorem loopG {x : Str} {px : Pos} {I : Addr} {fp : List Addr} {n : Nat} {V : Nat → Value → Prop} {P : Nat → Heap → Prop} {St : Nat → Obj → Prop} {G : Heap → Prop} {J : Nat → (Str → Option Value) → Led → Prop} {s₁ : Shared}
    (W : Walks prog w A I fp [I] n V P) (hLI : env.locals ≠ I) (hgI : ∀ g, G g → g.get? I = none)
    (up : ∀ i o g h m, G g → Fr g env.locals h m → h.get? I = some o → St i o → P i h) (dn : ∀ i h, P i h → ∃ o, h.get? I = some o ∧ St i o)
    (hx : env.kindOf x = some .local) (hp : (env.scope.kind == .class || (env.scope.kind == .module && env.locals != env.globals)) = false) (hE : PassesOwn (model prog w) A env E)
    (turn : ∀ i v m₁ news₁ g h tk oI, i < n → V i v → St (i + 1) oI → J i m₁ news₁ → G g → (∀ p ∈ news₁, p.1 ≠ I) → Fr g env.locals h (fun y => if y = x then some v else m₁ y) → News g env.locals h ((I, oI) :: news₁) →
      wpAny (model prog w) A (execs body env) (GEnd G env.locals I oI (J (i + 1)) { s₁ with heap := h, toks := tk } Q) E { s₁ with heap := h, toks := tk })
    (done : ∀ g h' tk m' news', G g → Fr g env.locals h' m' → News g env.locals h' news' → J n m' news' → Q .next { s₁ with heap := h', toks := tk })
    {k : Nat} {s' : Shared} (H : GInv s₁ G St env.locals I n J k s') :
    codeAny (model prog w) A (.forLoop (.Name x px) (.ref I) body [] env) (fun r s' => match r with | .ok f => Q f s' | .error e => cameBackBy (model prog w) A env E e s') s' := by
  refine codeAny_forLoop (fun k s' => GInv s₁ G St env.locals I n J k s') ?_ k H
  clear H k s'
  rintro _ _ @⟨g, h', tk, m', news', i, o, hg, ho, hs, F', N', hnI, hJ, hi⟩
  have hst := up _ _ _ _ _ hg F' ho hs
  clear up ho hs
  by_cases hlt : i < n
  · refine W.item i _ _ _ hlt hst fun v h₁ tk₁ hP hst₁ hk₁ => ?_
    obtain ⟨oI, hoI, hs₁⟩ := dn _ _ hst₁
    clear hst₁ hst dn W done
    obtain ⟨F₁, N₁⟩ := news_old F' N' hnI hLI (hgI g hg) hk₁
    clear hk₁ F' N'
    refine wpAny_assign_Name (wpAny_storeName_local hx F₁.ns (fun h₂ hn₂ hs₂ => ?_) hp)
    refine wpAny_mono (wpAny_passesOwn hE (turn i v m' news' g _ _ oI hlt hP hs₁ hJ hg hnI (F₁.set hn₂ hs₂) (news_more (N₁.set hs₂) ((hs₂.2 I (Ne.symm hLI)).trans hoI) hLI (hgI g hg)))) (fun f s₃ h₃ => ?_) fun _ _ e => e
    clear F₁ N₁ hn₂ hs₂ hoI turn
    cases f with
    | ret v => exact h₃
    | brk => exact h₃
    | next => exact GMid.inv h₃ hs₁ hlt
    | cont => exact GMid.inv h₃ hs₁ hlt
  · obtain rfl : i = n := by omega
    refine W.done _ _ _ hst fun h₁ tk₁ hk₁ => wpAny_execs_nil ?_
    obtain ⟨F₁, N₁⟩ := news_old F' N' hnI hLI (hgI g hg) hk₁
    exact done g h₁ tk₁ m' news' hg F₁ N₁ hJ
/-- what the loop over a tuple of the text's own wants -/
inductive TupG (prog : Program) (w : World) (A : Around) (h₀ : Heap) (env : Env) (x : Str) (body : List Stmt) (K : Frag) (Q : Flow → Shared → Prop) (E : Value → Shared → Prop) : Value → Shared → Prop
  | mk {ax : Addr} {dd : Option Addr} {items : Array Value} {n : Nat} {sl : Array (Option Value)} {m : Str → Option Value} {news : Led} {s₁ : Shared} (G : Heap → Prop) (J : Nat → (Str → Option Value) → Led → Prop)
    (ho : K.lookup ax = some ⟨.type "tuple", dd, .seq items n, sl⟩) (hh : A.handled = none) (F : Fr h₀ env.locals s₁.heap m) (N : News h₀ env.locals s₁.heap news) (hG : G h₀) (hGK : ∀ g, G g → K.In g) (hGn : ∀ g b, G g → h₀.get? b = none → g.get? b = none) (h0 : J 0 m news)
    (turn : ∀ i v m₁ news₁ g h tk I oI, items[i]? = some v → J i m₁ news₁ → G g → (∀ p ∈ news₁, p.1 ≠ I) → Fr g env.locals h (fun y => if y = x then some v else m₁ y) → News g env.locals h ((I, oI) :: news₁) →
      wpAny (model prog w) A (execs body env) (GEnd G env.locals I oI (J (i + 1)) { s₁ with heap := h, toks := tk } Q) E { s₁ with heap := h, toks := tk })
    (done : ∀ g h' tk m' news', G g → Fr g env.locals h' m' → News g env.locals h' news' → J items.size m' news' → Q .next { s₁ with heap := h', toks := tk }) : TupG prog w A h₀ env x body K Q E (.ref ax) s₁
theorem tupG_intro {x : Str} {ax : Addr} {dd : Option Addr} {items : Array Value} {n : Nat} {sl : Array (Option Value)} {s₁ : Shared} (G : Heap → Prop) (J : Nat → (Str → Option Value) → Led → Prop)
    (ho : K.lookup ax = some ⟨.type "tuple", dd, .seq items n, sl⟩) (hh : A.handled = none) (F : Fr h₀ env.locals s₁.heap m) (N : News h₀ env.locals s₁.heap news) (hG : G h₀) (hGK : ∀ g, G g → K.In g) (hGn : ∀ g b, G g → h₀.get? b = none → g.get? b = none) (h0 : J 0 m news)
    (turn : ∀ i v m₁ news₁ g h tk I oI, items[i]? = some v → J i m₁ news₁ → G g → (∀ p ∈ news₁, p.1 ≠ I) → Fr g env.locals h (fun y => if y = x then some v else m₁ y) → News g env.locals h ((I, oI) :: news₁) →
      wpAny (model prog w) A (execs body env) (GEnd G env.locals I oI (J (i + 1)) { s₁ with heap := h, toks := tk } Q) E { s₁ with heap := h, toks := tk })
    (done : ∀ g h' tk m' news', G g → Fr g env.locals h' m' → News g env.locals h' news' → J items.size m' news' → Q .next { s₁ with heap := h', toks := tk }) :
    TupG prog w A h₀ env x body K Q E (.ref ax) s₁ := .mk G J ho hh F N hG hGK hGn h0 turn done
theorem For_tupG {x : Str} {px pos : Pos} {iter : Expr} (K : Frag) (_F : Fr h₀ env.locals s.heap m) (hx : env.kindOf x = some .local)
    (hp : (env.scope.kind == .class || (env.scope.kind == .module && env.locals != env.globals)) = false)
    (h : wpAny (model prog w) A (eval iter env) (TupG prog w A h₀ env x body K Q E) E s)
    (hs : ∀ x, foldedSetIterable iter env x = pure x := by intro _; rfl)
    (hE : PassesOwn (model prog w) A env E := by passes_own) :
    wpAny (model prog w) A (exec (.For (.Name x px) iter body [] pos) env) Q E s := by
  refine wpAny_For (wpAny_mono h (fun xv s₁ h₁ => ?_) fun _ _ e => e) hs
  clear h _F
  obtain @⟨ax, dd, items, n, sl, m, news, _, G, J, ho, hh, F, N, hG, hGK, hGn, h0, turn, done⟩ := h₁
  have tup : ∀ {g h : Heap} {mm : Str → Option Value}, G g → Fr g env.locals h mm → h.IsTuple ax items := fun hg F => ⟨_, F.keep _ _ (hGK _ hg _ _ ho), rfl, _, rfl⟩
  have ht := tup hG F
  have hI0 : h₀.get? s₁.heap.objs.size = none := next_is_new F
  refine wpAny_pyIter_tuple ht (loopG (St := fun i o => o.cls = .type "tuple_iterator" ∧ o.data = .fields #[.ref ax, .int i 0]) (Walks.tuple hh s₁.heap.objs.size ax (by obtain ⟨_, e, _⟩ := ht; exact Nat.ne_of_lt (Heap.lt_size e)) items) (Nat.ne_of_lt F.ns.lt) (fun g hg => hGn g _ hg hI0) (fun i o g h m hg F e k => ⟨⟨o, e, k.1, k.2⟩, tup hg F⟩) (fun i h e => e.1) hx hp hE (fun i v m₁ news₁ g h tk oI _ e _ => turn i v m₁ news₁ g h tk _ oI e) done
    (.mk (i := 0) hG (Heap.get?_push_size _ rfl) ⟨rfl, rfl⟩ (F.push _) (fun p hp => ⟨Heap.get?_push_of_some _ (N p hp).1, (N p hp).2⟩) (fun p hp => Nat.ne_of_lt (Heap.lt_size (N p hp).1)) h0 (Nat.zero_le _)))
end
end Mine
end
section
-- TU
namespace Mine
theorem noFill_tuple_mul : fillsNumberSlot (.type "tuple") "mul" = pure false :=
  PySem.fillsNumberSlot_seq (id := "tuple.__mul__") (r := some (.builtin "tuple.__rmul__")) PySem.F.slot_tuple_mul.lookup (by decide +kernel) PySem.F.slot_tuple_rmul.lookup (by decide +kernel)
theorem repeat_tuple : seqRepeat? (.type "tuple") = pure (some (.builtin "tuple.__mul__")) := by
  unfold seqRepeat?
  rw [PySem.seqSlot_of (T := "tuple") (name := "__mul__") (id := "tuple.__mul__") PySem.F.slot_tuple_mul.lookup (by decide +kernel), PySem.seqSlot_of (T := "tuple") (name := "__rmul__") (id := "tuple.__rmul__") PySem.F.slot_tuple_rmul.lookup (by decide +kernel)]
  rfl
theorem int_rmul_tuple (a : Int) (t : Tok) (l : Addr) (items : Array Value) (n : Nat) :
    Meets (Builtin.«int.__rmul__» ⟨[.int a t, .ref l], []⟩) (fun _ R s => s.heap.get? l = some { cls := .type "tuple", dict := none, data := .seq items n, slots := #[] } ∧ R (.ok (.ret Value.notImplemented)) s) :=
  .of_wp fun prog w A R s h => by
    obtain ⟨hp, g, d, tk, os⟩ := s; obtain ⟨hl, h⟩ := h
    wp_delta
    wp_delta
    with_reducible refine wpAny_bind ?_
    wp_delta
    with_reducible apply wpAny_ite_false
    · rfl
    with_reducible apply wpAny_ite_false
    · rfl
    with_reducible (refine wpAny_pure ?_; refine wpAny_bind ?_)
    wp_delta
    with_reducible refine wpAny_bind ?_
    wp_delta
    with_reducible (refine wpAny_pure ?_; refine wpAny_pure ?_; refine wpAny_bind ?_)
    wp_delta
    with_reducible refine wpAny_bind ?_
    with_reducible apply wpAny_load'
    · heap_get
    with_reducible (refine wpAny_pure ?_; refine wpAny_bind ?_; refine wpAny_rule ?_)
    wp_delta
    with_reducible refine wpAny_pure ?_
    exact ⟨_, rfl, h⟩
theorem tuple_mul_one (l : Addr) (v : Value) (n : Nat) (t : Tok) :
    Meets (Builtin.«tuple.__mul__» ⟨[.ref l, .int 1 t], []⟩) (fun _ R s => s.heap.get? l = some { cls := .type "tuple", dict := none, data := .seq #[v] n, slots := #[] } ∧ R (.ok (.ret (.ref l))) s) :=
  .of_wp fun prog w A R s h => by
    obtain ⟨hp, g, d, tk, os⟩ := s; obtain ⟨hl, h⟩ := h
    wp_delta
    wp_delta
    with_reducible apply wpAny_ite_false
    · rfl
    with_reducible refine wpAny_bind ?_
    wp_delta
    with_reducible refine wpAny_bind ?_
    wp_delta
    with_reducible (refine wpAny_pure ?_; refine wpAny_pure ?_)
    with_reducible apply wpAny_ite_false
    · rfl
    with_reducible refine wpAny_bind ?_
    wp_delta
    with_reducible refine wpAny_bind ?_
    wp_delta
    with_reducible refine wpAny_bind ?_
    with_reducible apply wpAny_load'
    · heap_get
    with_reducible (refine wpAny_pure ?_; refine wpAny_pure ?_)
    with_reducible apply wpAny_ite_true
    · rfl
    with_reducible refine wpAny_bind ?_
    wp_delta
    with_reducible refine wpAny_bind ?_
    wp_delta
    with_reducible refine wpAny_bind ?_
    with_reducible apply wpAny_loadPart'
    · heap_get
    with_reducible (refine wpAny_pure ?_; refine wpAny_pure ?_)
    with_reducible apply wpAny_ite_true
    · rfl
    with_reducible (refine wpAny_bind ?_; refine wpAny_rule ?_)
    wp_delta
    with_reducible refine wpAny_pure ?_
    exact ⟨_, rfl, h⟩
theorem tuple_mul_zero (l : Addr) (v : Value) (n : Nat) (t : Tok) :
    Meets (Builtin.«tuple.__mul__» ⟨[.ref l, .int 0 t], []⟩) (fun _ R s => s.heap.get? l = some { cls := .type "tuple", dict := none, data := .seq #[v] n, slots := #[] } ∧ R (.ok (.ret (.ref s.heap.objs.size))) { s with heap := s.heap.push { cls := .type "tuple", data := .seq #[] } }) :=
  .of_wp fun prog w A R s h => by
    obtain ⟨hp, g, d, tk, os⟩ := s; obtain ⟨hl, h⟩ := h
    wp_delta
    wp_delta
    with_reducible apply wpAny_ite_false
    · rfl
    with_reducible refine wpAny_bind ?_
    wp_delta
    with_reducible refine wpAny_bind ?_
    wp_delta
    with_reducible (refine wpAny_pure ?_; refine wpAny_pure ?_)
    with_reducible apply wpAny_ite_false
    · rfl
    with_reducible refine wpAny_bind ?_
    wp_delta
    with_reducible refine wpAny_bind ?_
    wp_delta
    with_reducible refine wpAny_bind ?_
    with_reducible apply wpAny_load'
    · heap_get
    with_reducible (refine wpAny_pure ?_; refine wpAny_pure ?_)
    with_reducible apply wpAny_ite_false
    · rfl
    with_reducible apply wpAny_ite_true
    · rfl
    with_reducible refine wpAny_bind ?_
    wp_delta
    wp_delta
    with_reducible apply wpAny_ite_false
    · rfl
    wp_delta
    wp_delta
    with_reducible (refine wpAny_bind ?_; refine wpAny_alloc' ?_; refine wpAny_pure ?_)
    wp_delta
    with_reducible refine wpAny_pure ?_
    exact ⟨_, rfl, h⟩
section
variable {prog : Program} {w : World} {A : Around} {E : Value → Shared → Prop} {s : Shared} {h₀ : Heap} {L l : Addr} {m : Str → Option Value} {news : Led} {v : Value} {n : Nat} {u : Tok} {Q : Value → Shared → Prop}
theorem mul_tup1 {x : Int} (hx : x = 1) (N : News h₀ L s.heap news) (hm : (l, tupOf [v] n) ∈ news) (h : Q (.ref l) s) : wpAny (model prog w) A (binaryOp .Mult (.ref l) (.int x u)) Q E s := by
  subst hx
  have ho : s.heap.get? l = some { cls := .type "tuple", dict := none, data := .seq #[v] n, slots := #[] } := (N _ hm).1
  exact wpAny_binaryOp_repeat_ref (T := "tuple") (U := "int") (by decide) ⟨_, ho, rfl⟩ (fun s' => typeIs_int s' 1 u) noFill_tuple_mul PySem.F.fills_int_mul PySem.F.slot_int_rmul repeat_tuple PySem.F.slot_int_index.lookup
    (call_meets PySem.F.slot_int_rmul (typeIs_int s 1 u) PySem.F.entry_int_rmul (PySem.F.args_int_rmul_2 _ _) (int_rmul_tuple 1 u l #[v] n)
      ⟨ho, rfl, ⟨_, ho, rfl⟩, call_meets PySem.F.slot_tuple_mul ⟨_, ho, rfl⟩ PySem.F.entry_tuple_mul (PySem.F.args_tuple_mul_2 _ _) (tuple_mul_one l v n u) ⟨ho, h⟩⟩)
theorem mul_tup0 (F : Fr h₀ L s.heap m) (N : News h₀ L s.heap news) (hm : (l, tupOf [v] n) ∈ news) (h : ∀ D h', Fr h₀ L h' m → News h₀ L h' ((D, tupOf [] 0) :: news) → (∀ p ∈ news, p.1 < D) → Q (.ref D) { s with heap := h' }) : wpAny (model prog w) A (binaryOp .Mult (.ref l) (.int 0 u)) Q E s := by
  have ho : s.heap.get? l = some { cls := .type "tuple", dict := none, data := .seq #[v] n, slots := #[] } := (N _ hm).1
  exact wpAny_binaryOp_repeat_ref (T := "tuple") (U := "int") (by decide) ⟨_, ho, rfl⟩ (fun s' => typeIs_int s' 0 u) noFill_tuple_mul PySem.F.fills_int_mul PySem.F.slot_int_rmul repeat_tuple PySem.F.slot_int_index.lookup
    (call_meets PySem.F.slot_int_rmul (typeIs_int s 0 u) PySem.F.entry_int_rmul (PySem.F.args_int_rmul_2 _ _) (int_rmul_tuple 0 u l #[v] n)
      ⟨ho, rfl, ⟨_, ho, rfl⟩, call_meets PySem.F.slot_tuple_mul ⟨_, ho, rfl⟩ PySem.F.entry_tuple_mul (PySem.F.args_tuple_mul_2 _ _) (tuple_mul_zero l v n u)
        ⟨ho, h _ _ (F.push _) (News.push F N _) (fun p hp => Heap.lt_size (N p hp).1)⟩⟩)
theorem mul_tup0_R2 {x : Int} (hx : x = 0) {b : Bk} {y : Sy} {r : Led} (F : Fr h₀ L s.heap m) (N : News h₀ L s.heap (bled w b ++ (sled w y ++ r))) (ND : Nd (bled w b ++ (sled w y ++ r))) (hm : (l, tupOf [v] n) ∈ bled w b ++ (sled w y ++ r))
    (h : ∀ D h', Fr h₀ L h' m → News h₀ L h' (bled w b ++ (sled w y ++ ((D, tupOf [] 0) :: r))) → Nd (bled w b ++ (sled w y ++ ((D, tupOf [] 0) :: r))) → Q (.ref D) { s with heap := h' }) : wpAny (model prog w) A (binaryOp .Mult (.ref l) (.int x u)) Q E s := by
  subst hx
  exact mul_tup0 F N hm (fun D h' F' N' l1 => h D h' F' (news_perm N' canon1) (nd_perm (nd_cons ND l1) canon1))
end
end Mine
end
section
-- SL
namespace Mine
open PyProof.Rows.LCg
theorem pick_upto (vs : List Value) (k : Nat) : slicePick vs.toArray none (some (k : Int)) none = (vs.take k).toArray := by
  have e : sliceBounds none (some (k : Int)) none vs.toArray.size = (((0 : Nat) : Int), ((min k vs.toArray.size : Nat) : Int), 1) := by
    simp only [sliceBounds, Option.getD_none, show (1 : Int) > 0 by decide, if_true, if_neg (show ¬ ((k : Int) < 0) by omega)]
    congr 1
    congr 1
    omega
  rw [kmk_pick_nat _ e]
  show ((vs.drop 0).take (min k vs.toArray.size - 0)).toArray = _
  rw [List.drop_zero, Nat.sub_zero, List.size_toArray, kmk_take_min]
section
variable {prog : Program} {w : World} {A : Around} {E : Value → Shared → Prop} {s : Shared} {h₀ : Heap} {L l D : Addr} {m : Str → Option Value} {news : Led} {value slice : PySem.Expr} {its : List Value} {n : Nat} {vk : Value} {ops : List Value} {Q : Value → Shared → Prop} {o : Obj}
theorem item_O {k : Int} {u : Tok} {v : Value} (N : News h₀ L s.heap news) (hm : (D, o) ∈ news) (ho : o = listOf its.toArray n ∨ o = tupOf its n)
    (h0 : 0 ≤ k) (hx : its[k.toNat]? = some v) (hhi : k < 2 ^ 62) (h : Q v s)
    (hs : subscripted slice false (.ref D) (.int k u) = operate [.ref D, .int k u] (getItem (.ref D) (.int k u)) := by with_unfolding_all rfl) :
    wpAny (model prog w) A (subscriptTail value slice (.ref D) (.int k u)) Q E s := by
  rcases ho with rfl | rfl
  · exact item_L N hm h0 hx hhi h hs
  · have ht : IsTup s.heap D its.toArray := ⟨_, (N _ hm).1, rfl, _, rfl⟩
    have hlt : k.toNat < its.length := (List.getElem?_eq_some_iff.mp hx).1
    refine tail_any ht.typeIs slot_tuple_getitem.lookup (getItem_tuple ht (by omega) (by omega) (j := k.toNat) ?_ (by simpa using hx) h) hs
    unfold seqIndex?
    rw [List.size_toArray]
    simp
    omega
theorem rev_R2 {b : Bk} {y : Sy} {r : Led} (F : Fr h₀ L s.heap m) (N : News h₀ L s.heap (bled w b ++ (sled w y ++ r))) (ND : Nd (bled w b ++ (sled w y ++ r))) (hm : (l, listOf its.toArray n) ∈ bled w b ++ (sled w y ++ r)) (pk : IsPart vk (some (-1)))
    (h : ∀ x h', Fr h₀ L h' m → News h₀ L h' (bled w b ++ (sled w y ++ ((x, listOf its.reverse.toArray 0) :: r))) → Nd (bled w b ++ (sled w y ++ ((x, listOf its.reverse.toArray 0) :: r))) → Q (.ref x) { s with heap := h' })
    (hs : subscripted slice false (.ref l) (.ref s.heap.objs.size) = operate ops (getItem (.ref l) (.ref s.heap.objs.size))) (ht : ∀ r, letTemporaryGo value (.ref l) r = pure ()) (hz : its.length ≤ 1000) :
    wpAny (model prog w) A (subscriptTail value slice (.ref l) (.ref s.heap.objs.size)) Q E { s with heap := s.heap.push { cls := .type "slice", data := .fields #[.none, .none, vk] } } :=
  krv_lit F N (ledList N hm) pk rfl (fun D h' F' N' l1 => h D h' F' (news_perm N' canon1) (nd_perm (nd_cons ND l1) canon1)) hs ht (by rw [sizeLine_eq, List.size_toArray]; omega)
theorem upto_R2 {b : Bk} {y : Sy} {r : Led} {k : Nat} {u : Tok} (F : Fr h₀ L s.heap m) (N : News h₀ L s.heap (bled w b ++ (sled w y ++ r))) (ND : Nd (bled w b ++ (sled w y ++ r))) (hm : (l, listOf its.toArray n) ∈ bled w b ++ (sled w y ++ r))
    (h : ∀ x h', Fr h₀ L h' m → News h₀ L h' (bled w b ++ (sled w y ++ ((x, listOf (its.take k).toArray 0) :: r))) → Nd (bled w b ++ (sled w y ++ ((x, listOf (its.take k).toArray 0) :: r))) → Q (.ref x) { s with heap := h' })
    (hs : subscripted slice false (.ref l) (.ref s.heap.objs.size) = operate [.ref s.heap.objs.size, .ref l] (getItem (.ref l) (.ref s.heap.objs.size))) (ht : ∀ r, letTemporaryGo value (.ref l) r = pure ()) (hz : its.length ≤ 1000) :
    wpAny (model prog w) A (subscriptTail value slice (.ref l) (.ref s.heap.objs.size)) Q E { s with heap := s.heap.push { cls := .type "slice", data := .fields #[.none, .int (k : Nat) u, .none] } } :=
  kmk_slice_lit F N (ledList N hm) .none (.int (k : Nat) u) (zs := its.take k) (by rw [pick_upto]) (fun D h' F' N' l1 => h D h' F' (news_perm N' canon1) (nd_perm (nd_cons ND l1) canon1)) hs ht (by rw [sizeLine_eq, List.size_toArray]; omega)
end
section
variable {prog : Program} {w : World} {A : Around} {E : Value → Shared → Prop} {s : Shared} {h₀ : Heap} {L : Addr} {m : Str → Option Value}
theorem newTup_R2o {own : Led} {b : Bk} {y : Sy} {r : Led} {vs : List Value} {Q : Value → Shared → Prop} (F : Fr h₀ L s.heap m) (N : News h₀ L s.heap (own ++ (bled w b ++ (sled w y ++ r)))) (ND : Nd (bled w b ++ (sled w y ++ r))) (hl : vs.length ≤ 100)
    (h : ∀ x h', Fr h₀ L h' m → News h₀ L h' (own ++ (bled w b ++ (sled w y ++ ((x, tupOf vs 0) :: r)))) → Nd (bled w b ++ (sled w y ++ ((x, tupOf vs 0) :: r))) → Q (.ref x) { s with heap := h' }) : wpAny (model prog w) A (newTuple vs) Q E s :=
  kup_newTuple F N (fun D h' F' N' l1 => by
    have p : ((D, tupOf vs 0) :: (own ++ (bled w b ++ (sled w y ++ r)))).Perm (own ++ (bled w b ++ (sled w y ++ ((D, tupOf vs 0) :: r)))) := by
      have h1 : ((D, tupOf vs 0) :: (bled w b ++ (sled w y ++ r))).Perm (bled w b ++ (sled w y ++ ((D, tupOf vs 0) :: r))) := canon1
      exact List.perm_middle.symm.trans (List.Perm.append_left own h1)
    exact h D h' F' (news_perm N' p) (nd_perm (nd_cons ND (fun q hq => l1 q (List.mem_append_right _ hq))) canon1)) (by rw [sizeLine_eq]; omega)
end
section
variable {A : Around} {s : Shared}
open PySem.SeqAt
theorem eqAt_int {a : Int} {t u : Tok} : EqAt A s (.int a t) (.int a u) true := fun prog w E Q h => (intKind prog w).eqBool (intKind_is prog w a t) (intKind_is prog w a u) (by simpa using h)
theorem eqAt_str {a : Str} {t u : Tok} : EqAt A s (.str a t) (.str a u) true := fun prog w E Q h => (strKind prog w).eqBool (strKind_is prog w a t) (strKind_is prog w a u) (by simpa using h)
theorem StrsAre.at2 {vs vs' : List Value} {ss : List Str} (a : StrsAre vs ss) : StrsAre vs' ss → ∀ (j : Nat) (h1 : j < vs.length) (h2 : j < vs'.length), EqAt A s vs[j] vs'[j] true := by
  induction a generalizing vs' with
  | nil => intro _ j h1; exact absurd h1 (Nat.not_lt_zero _)
  | cons y t a ih =>
    intro b
    cases b with
    | cons _ u b =>
      intro j h1 h2
      cases j with
      | zero => exact eqAt_str
      | succ j => exact ih b j (Nat.lt_of_succ_lt_succ h1) (Nat.lt_of_succ_lt_succ h2)
theorem strs_len {vs : List Value} {ss : List Str} (h : StrsAre vs ss) : vs.length = ss.length := by
  induction h with
  | nil => rfl
  | cons _ _ _ ih => exact congrArg (· + 1) ih
theorem eqAt_strs {l1 l2 : Addr} {vs vs' : List Value} {ss : List Str} (hl : s.heap.IsList l1 vs.toArray) (hl' : s.heap.IsList l2 vs'.toArray) (hS : StrsAre vs ss) (hS' : StrsAre vs' ss) (hu : A.units + 1 < cLine) : EqAt A s (.ref l1) (.ref l2) true := by
  by_cases e : l1 = l2
  · subst e; exact .same _
  · have h := RcAt.lists (A := A) (e := fun _ => true) hl hl' (by rw [List.size_toArray, List.size_toArray, strs_len hS, strs_len hS']) (by omega) (fun j h1 h2 => by
      have := StrsAre.at2 (A := A.in1) (s := s) hS hS' j (by simpa using h1) (by simpa using h2)
      simpa using this)
    have e1 : (List.range vs.toArray.size).all (fun _ => true) = true := by simp
    rw [e1] at h
    exact .of_refs e h
theorem eqAt_nil {l1 l2 : Addr} (hl : s.heap.IsTuple l1 #[]) (hl' : s.heap.IsTuple l2 #[]) (hu : A.units + 1 < cLine) : EqAt A s (.ref l1) (.ref l2) true := by
  by_cases e : l1 = l2
  · subst e; exact .same _
  · have h := RcAt.tuples (A := A) (e := fun _ => true) hl hl' (by omega) (fun j h1 h2 => absurd h1 (Nat.not_lt_zero _))
    exact .of_refs e h
end
section
variable {prog : Program} {w : World} {A : Around} {E : Value → Shared → Prop} {s : Shared} {h₀ : Heap} {L T1 T2 l1 l2 : Addr} {news : Led} {n1 n2 m1 m2 : Nat} {Q : Value → Shared → Prop}
open PySem.SeqAt
theorem eq_before {vs vs' : List Value} {ss : List Str} {a c d : Int} {t1 t3 t4 u1 u3 u4 : Tok} (N : News h₀ L s.heap news) (h1 : (T1, tupOf [.int a t1, .ref l1, .int c t3, .int d t4] n1) ∈ news) (h2 : (T2, tupOf [.int a u1, .ref l2, .int c u3, .int d u4] n2) ∈ news)
    (g1 : (l1, listOf vs.toArray m1) ∈ news) (g2 : (l2, listOf vs'.toArray m2) ∈ news) (hS : StrsAre vs ss) (hS' : StrsAre vs' ss) (hu : A.units + 8 < cLine) (h : Q (.bool true) s) : wpAny (model prog w) A (compareOp .Eq (.ref T1) (.ref T2)) Q E s := by
  have ht1 : s.heap.IsTuple T1 #[.int a t1, .ref l1, .int c t3, .int d t4] := ⟨_, (N _ h1).1, rfl, _, rfl⟩
  have ht2 : s.heap.IsTuple T2 #[.int a u1, .ref l2, .int c u3, .int d u4] := ⟨_, (N _ h2).1, rfl, _, rfl⟩
  refine eq_tupleAt (e := fun _ => true) ht1 ht2 (by omega) (fun j hj1 hj2 => ?_) h
  have hj : j < 4 := hj1
  obtain rfl | rfl | rfl | rfl : j = 0 ∨ j = 1 ∨ j = 2 ∨ j = 3 := by omega
  · exact eqAt_int
  · exact eqAt_strs (ledList N g1) (ledList N g2) hS hS' (by show A.units + 1 + 1 < cLine; omega)
  · exact eqAt_int
  · exact eqAt_int
theorem ne_app {op : Str} {c d : Int} {t1 t3 t4 u1 u3 u4 : Tok} (N : News h₀ L s.heap news) (h1 : (T1, tupOf [.str op t1, .ref l1, .int c t3, .int d t4] n1) ∈ news) (h2 : (T2, tupOf [.str op u1, .ref l2, .int c u3, .int d u4] n2) ∈ news)
    (g1 : (l1, tupOf [] m1) ∈ news) (g2 : (l2, tupOf [] m2) ∈ news) (hu : A.units + 8 < cLine) (h : Q (.bool false) s) : wpAny (model prog w) A (compareOp .NotEq (.ref T1) (.ref T2)) Q E s := by
  have ht1 : s.heap.IsTuple T1 #[.str op t1, .ref l1, .int c t3, .int d t4] := ⟨_, (N _ h1).1, rfl, _, rfl⟩
  have ht2 : s.heap.IsTuple T2 #[.str op u1, .ref l2, .int c u3, .int d u4] := ⟨_, (N _ h2).1, rfl, _, rfl⟩
  refine RcNeAt.tuples (e := fun _ => true) ht1 ht2 (by omega) (fun j hj1 hj2 => ?_) prog w E Q h
  have hj : j < 4 := hj1
  obtain rfl | rfl | rfl | rfl : j = 0 ∨ j = 1 ∨ j = 2 ∨ j = 3 := by omega
  · exact eqAt_str
  · exact eqAt_nil ⟨_, (N _ g1).1, rfl, _, rfl⟩ ⟨_, (N _ g2).1, rfl, _, rfl⟩ (by show A.units + 1 + 1 < cLine; omega)
  · exact eqAt_int
  · exact eqAt_int
theorem llst_notin {D : Addr} {its : List Value} {n : Nat} {ys : List Str} {x : Str} {u : Tok} {b : Bool} (N : News h₀ L s.heap news) (hm : (D, listOf its.toArray n) ∈ news)
    (hs : StrsAre its ys) (hb : ys.any (· == x) = b) (h : Q (.bool (!b)) s) : wpAny (model prog w) A (compareOp .NotIn (.str x u) (.ref D)) Q E s :=
  notin_list_strs (ledList N hm) hs (by rw [hb]; exact h)
end
section
variable {prog : Program} {w : World} {A : Around} {E : Value → Shared → Prop} {s : Shared} {h₀ : Heap} {L : Addr} {m : Str → Option Value} {env : Env}
noncomputable def LstIn (ax : Addr) (its : List Value) (nw : Led) : Prop := ∃ n, (ax, listOf its.toArray n) ∈ nw
inductive CompL (prog : Program) (w : World) (A : Around) (h₀ : Heap) (L : Addr) (m : Str → Option Value) (env : Env) (elt : PySem.Expr) (x : Str) (scope : Scope) (cl : List (Str × Addr)) (Fin : Shared → List Value → List (Addr × Obj) → Prop) (xv : Value) (s₁ : Shared) : Prop
  | mk (ax : Addr) (its : List Value) (news : List (Addr × Obj)) (e : xv = .ref ax) (hh : A.handled = none) (F : Fr h₀ L s₁.heap m) (N : News h₀ L s₁.heap news) (S : LstIn ax its news) (hsz : its.toArray.size ≤ sizeLine)
    (R : ∀ s₂ : Shared, (∃ h, s₂ = { s₁ with heap := h }) → CompRest prog w A h₀ L m env elt x scope cl s₂ (LstIn ax its) (fun i v => its.toArray[i]? = some v) (Fin s₂) its.toArray.size 0 [] news) : CompL prog w A h₀ L m env elt x scope cl Fin xv s₁
theorem comp_L {elt iter : PySem.Expr} {x : Str} {px : Pos} {scope : Scope} {cl : List (Str × Addr)} {pos : Pos} {Q : Value → Shared → Prop} (_F₀ : Fr h₀ L s.heap m)
    (hclos : closureFor scope env = pure cl) (hcell : ∀ y ∈ scope.names, y.2 ≠ .cell) (hkind : scope.kind = .function)
    (hnames : ∀ y ∈ scope.names, y.2 = .local → scope.names.lookup y.1 = some .local) (hx : scope.names.lookup x = some .local)
    (h : wpAny (model prog w) A (eval iter env) (CompL prog w A h₀ L m env elt x scope cl (fun s₂ => FinE h₀ L m s₂ Q)) E s)
    (hs : ∀ x, foldedSetIterable iter env x = pure x := by intro _; rfl) :
    wpAny (model prog w) A (eval (.ListComp elt [⟨.Name x px, iter, [], 0⟩] scope pos) env) Q E s := by
  rw [eval_ListComp]
  refine wpAny_comprehension_free (use := none) rfl hs hclos hkind hnames (wpAny_mono h (fun xv s₁ h₁ => ?_) fun _ _ e => e)
  obtain ⟨ax, its, news, rfl, hh, F, N, S, hsz, R⟩ := h₁
  have lst : ∀ {h : Heap} {nw : Led}, News h₀ L h nw → LstIn ax its nw → h.IsList ax its.toArray := fun N ⟨_, hm⟩ => ⟨_, (N _ hm).1, rfl, _, rfl⟩
  have ht := lst N S
  have hlt : ax < s₁.heap.objs.size := by obtain ⟨_, e, _⟩ := ht; exact Heap.lt_size e
  refine wpAny_pyIter_list ht ?_
  have up : ∀ b o, s₁.heap.get? b = some o → (s₁.heap.push { cls := .type "list_iterator", data := .fields #[.ref ax, .int 0 0] }).get? b = some o := fun b o e => Heap.get?_push_of_some _ e
  refine block_U (Walks.list hh s₁.heap.objs.size ax (Nat.ne_of_lt hlt) its.toArray) hsz (fun i h st => by obtain ⟨o, e, _⟩ := st.1; exact ⟨o, e⟩)
    (fun i h h' o nw st e e' k N S => ⟨by obtain ⟨o', q, r⟩ := st.1; rw [e] at q; cases q; exact ⟨o, e', r⟩, lst N S⟩) hcell hkind hx ⟨⟨_, Heap.get?_push_size _ rfl, rfl, rfl⟩, ht.at fun o e => up _ o e⟩ (fun b hb => ?_)
    (F.keeps up) (N.grown up) (Nat.ne_of_lt F.ns.lt) (next_is_new F) (fun p hp => Nat.ne_of_lt (Heap.lt_size (N p hp).1)) S (R _ ⟨_, rfl⟩) ?_
  · show b < (s₁.heap.push _).objs.size
    rw [Heap.size_push]
    rcases List.mem_cons.mp hb with rfl | hb
    · exact Nat.lt_succ_self _
    · rw [List.mem_singleton.mp hb]; exact Nat.lt_succ_of_lt hlt
  · intro D C h tk m' ys news' F' N' o1 hn hC₀ hD₀ hCL hDL hCD offC fin
    refine ⟨m', hn, fun h'' hs'' => fin D h'' tk (F'.change hs'' hCL hC₀) (fun p hp => ?_) o1⟩
    refine ⟨hs''.extBut _ _ ?_ (N' p hp).1, (N' p hp).2⟩
    rcases List.mem_cons.mp hp with rfl | hp
    · exact Ne.symm hCD
    · exact offC p hp
end
end Mine
end
section
-- SD
namespace Mine
theorem strsAre_of : ∀ {vs : List Value} {ks : List Str}, vs.length = ks.length → (∀ (j : Nat) (v : Value), vs[j]? = some v → ∃ k t, ks[j]? = some k ∧ v = .str k t) → StrsAre vs ks
  | [], [], _, _ => .nil
  | v :: vs, k :: ks, hl, h => by
    obtain ⟨k', t, e1, e2⟩ := h 0 v rfl
    cases e1
    subst e2
    exact .cons _ t (strsAre_of (Nat.succ.inj hl) fun j u hu => h (j + 1) u hu)
  | [], _ :: _, hl, _ => by cases hl
  | _ :: _, [], hl, _ => by cases hl
theorem str_is {prog : Program} {w : World} {k : Str} {v : Value} (h : (PySem.strKind prog w).is k v = true) : ∃ t, v = .str k t := by
  cases v with
  | str x t => exact ⟨t, by have e : (x == k) = true := h; rw [eq_of_beq e]⟩
  | _ => exact absurd h (by intro q; cases q)
section
variable {prog : Program} {w : World} {A : Around} {E : Value → Shared → Prop} {s : Shared} {h₀ : Heap} {L D : Addr} {m : Str → Option Value} {news : Led} {d : Addr} {o : Obj} {kvs : List (Str × Value)} {Q : Value → Shared → Prop}
theorem sort_strs {vs : List Value} {ss : List Str} {n : Nat} (F : Fr h₀ L s.heap m) (N : News h₀ L s.heap ((D, listOf vs.toArray n) :: news)) (hne : ∀ p ∈ news, p.1 ≠ D) (hS : StrsAre vs ss) (h64 : vs.length < 64)
    (h : ∀ h' vs' ss' e, Fr h₀ L h' m → News h₀ L h' ((D, listOf vs'.toArray e) :: news) → StrsAre vs' ss' → ss'.Perm ss → sortedS ss' = true → Q .none { s with heap := h' }) :
    wpAny (model prog w) A (call (.builtin "list.sort") [.ref D]) Q E s := by
  have hD := N _ List.mem_cons_self
  have ho : s.heap.get? D = some (seqObj "list" vs.toArray n) := hD.1
  refine wpAny_call_entry PyProof.Rows.slot_list_sort ⟨_, ho, rfl⟩ PyProof.Rows.entry_list_sort (list_sort_treeK strKind_oneLt ho hS.keysOf (fun v₁ v₂ rest e => keyKind_strs (by rw [← e]; exact hS)) h64 fun st' hp hs => ⟨_, rfl, ?_⟩) (PyProof.Rows.args_list_sort _)
  obtain ⟨ss', h1, h2, h3⟩ := sorted_out_str hS hp hs
  obtain ⟨e, he⟩ := sortedHeap_at (out := (arrOf st').map (·.2)) ho
  have old : ∀ b o, b ≠ D → s.heap.get? b = some o → (sortedHeap s.heap D vs ((arrOf st').map (·.2))).get? b = some o := fun b o hb q => (sortedHeap_old hb (Heap.lt_size q)).trans q
  obtain ⟨oL, es, ep, hL, r⟩ := F.ns
  refine h _ ((arrOf st').map (·.2)).toList ss' e ⟨⟨oL, es, ep, old _ _ (Ne.symm hD.2.1) hL, r⟩, fun b o q => old b o (fun z => by rw [z, hD.2.2] at q; cases q) (F.keep b o q), F.above⟩ (fun p hp => ?_) h1 h2 h3
  rcases List.mem_cons.mp hp with rfl | hp
  · exact ⟨by rw [Array.toArray_toList]; exact he, hD.2.1, hD.2.2⟩
  · have := N p (List.mem_cons_of_mem _ hp)
    exact ⟨old _ _ (hne p hp) this.1, this.2⟩
theorem sorted_fu (hh : A.handled = none) (F : Fr h₀ L s.heap m) (N : News h₀ L s.heap news) (hm : (d, o) ∈ news) (hd : o.IsDictOf (PySem.strKind prog w) kvs) (lo : (d == sysModules) = false) (hl : kvs.length < 64)
    (h : ∀ (D : Addr) (h' : Heap) (tk : Nat) vs ss e, Fr h₀ L h' m → News h₀ L h' ((D, listOf vs.toArray e) :: news) → (∀ q ∈ news, q.1 < D) → StrsAre vs ss → ss.Perm (kvs.map (·.1)) → sortedS ss = true → Q (.ref D) { s with heap := h', toks := tk }) :
    wpAny (model prog w) A (call (.builtin "sorted") [.ref d]) Q E s := by
  obtain ⟨ep, hat⟩ := (kda_dict N hm hd).dictAt
  refine kdu_sorted (kdl_dict (knd := PySem.strKind prog w) (kvs := kvs) (ep := ep) lo) hh F N hat (by rw [sizeLine_eq]; omega) fun D h' tk vs F' N' l1 hlen hv => ?_
  have hS : StrsAre vs (kvs.map (·.1)) := strsAre_of (by rw [hlen, List.length_map]) (fun j v e => by
    obtain ⟨k, x, hx, hk⟩ := hv j v e
    obtain ⟨t, rfl⟩ := str_is hk
    exact ⟨k, t, by rw [List.getElem?_map, hx]; rfl, rfl⟩)
  exact sort_strs F' N' (fun p hp => Nat.ne_of_lt (l1 p hp)) hS (by rw [hlen]; exact hl) fun h'' vs' ss' e F'' N'' a1 a2 a3 => h D h'' tk vs' ss' e F'' N'' l1 a1 a2 a3
theorem sorted_R2 {b : Bk} {y : Sy} {r : Led} (hh : A.handled = none) (F : Fr h₀ L s.heap m) (N : News h₀ L s.heap (bled w b ++ (sled w y ++ r))) (ND : Nd (bled w b ++ (sled w y ++ r))) (hm : (d, o) ∈ bled w b ++ (sled w y ++ r)) (hd : o.IsDictOf (PySem.strKind prog w) kvs) (lo : (d == sysModules) = false) (hl : kvs.length < 64)
    (h : ∀ (D : Addr) (h' : Heap) (tk : Nat) vs ss e, Fr h₀ L h' m → News h₀ L h' (bled w b ++ (sled w y ++ ((D, listOf vs.toArray e) :: r))) → Nd (bled w b ++ (sled w y ++ ((D, listOf vs.toArray e) :: r))) → StrsAre vs ss → ss.Perm (kvs.map (·.1)) → sortedS ss = true → Q (.ref D) { s with heap := h', toks := tk }) :
    wpAny (model prog w) A (call (.builtin "sorted") [.ref d]) Q E s :=
  sorted_fu hh F N hm hd lo hl fun D h' tk vs ss e F' N' l1 a1 a2 a3 => h D h' tk vs ss e F' (news_perm N' canon1) (nd_perm (nd_cons ND l1) canon1) a1 a2 a3
end
noncomputable def abc : List Str := ["a", "b", "c"]
noncomputable def rank (x : Str) : Int := if x = "a" then 0 else if x = "b" then 1 else 2
theorem rank_le {x y : Str} (hx : x ∈ abc) (hy : y ∈ abc) (h : PySem.Spec.ltCps y.cps.toList x.cps.toList = false) : rank x ≤ rank y := by
  simp only [abc, List.mem_cons, List.not_mem_nil, or_false] at hx hy
  rcases hx with rfl | rfl | rfl <;> rcases hy with rfl | rfl | rfl <;> first | decide | (exfalso; revert h; decide)
theorem rank_inj {x y : Str} (hx : x ∈ abc) (hy : y ∈ abc) (h : rank x = rank y) : x = y := by
  simp only [abc, List.mem_cons, List.not_mem_nil, or_false] at hx hy
  rcases hx with rfl | rfl | rfl <;> rcases hy with rfl | rfl | rfl <;> first | rfl | (exfalso; revert h; decide)
theorem rise_rank : ∀ (l : List Str) (p : Str), (∀ x ∈ p :: l, x ∈ abc) → risingS p l = true → ((p :: l).map rank).Pairwise (· ≤ ·)
  | [], p, _, _ => by simp
  | x :: r, p, ha, h => by
    have h' : (!PySem.Spec.ltCps x.cps.toList p.cps.toList && risingS x r) = true := h
    rw [Bool.and_eq_true, Bool.not_eq_true'] at h'
    have ih := rise_rank r x (fun z hz => ha z (List.mem_cons_of_mem _ hz)) h'.2
    have hpx := rank_le (ha p List.mem_cons_self) (ha x (List.mem_cons_of_mem _ List.mem_cons_self)) h'.1
    rw [List.map_cons, List.pairwise_cons]
    refine ⟨fun z hz => ?_, ih⟩
    rw [List.map_cons] at hz ih
    rcases List.mem_cons.mp hz with rfl | hz
    · exact hpx
    · exact Int.le_trans hpx ((List.pairwise_cons.mp ih).1 z hz)
theorem sorted_rank {l : List Str} (ha : ∀ x ∈ l, x ∈ abc) (h : sortedS l = true) : (l.map rank).Pairwise (· ≤ ·) := by
  cases l with
  | nil => exact .nil
  | cons x r => exact rise_rank r x ha h
theorem map_inj_on : ∀ {l l' : List Str}, (∀ x ∈ l, x ∈ abc) → (∀ x ∈ l', x ∈ abc) → l.map rank = l'.map rank → l = l'
  | [], [], _, _, _ => rfl
  | x :: r, y :: r', h, h', e => by
    rw [List.map_cons, List.map_cons] at e
    injection e with e1 e2
    rw [rank_inj (h x List.mem_cons_self) (h' y List.mem_cons_self) e1, map_inj_on (fun z hz => h z (List.mem_cons_of_mem _ hz)) (fun z hz => h' z (List.mem_cons_of_mem _ hz)) e2]
  | [], _ :: _, _, _, e => by cases e
  | _ :: _, [], _, _, e => by cases e
theorem sorted_uniq {zs ss ss' : List Str} (hz : ∀ x ∈ zs, x ∈ abc) (p : ss.Perm zs) (p' : ss'.Perm zs) (h : sortedS ss = true) (h' : sortedS ss' = true) : ss = ss' := by
  have a : ∀ x ∈ ss, x ∈ abc := fun x hx => hz x (p.mem_iff.mp hx)
  have a' : ∀ x ∈ ss', x ∈ abc := fun x hx => hz x (p'.mem_iff.mp hx)
  exact map_inj_on a a' (lks_uniq ((p.trans p'.symm).map _) (sorted_rank a h) (sorted_rank a' h'))
/-- what holds between two deeds, but for the marks -/
structure Inv (prog : Program) (w : World) (b : Bk) (y : Sy) (t : Lw) (rest : Led) (el : Addr) (ts : List (List (Str × Value))) (kvs : List (Str × Value)) (bs : List (Str × Nat × Nat)) (xs : List (TKey × Addr × Value)) : Prop where
  el : ElAt w rest el b.inst y.inst
  bk : y.bk = b.inst
  lets : LetsOK prog w rest y.le ts
  letsB : LetsOK prog w rest t.bo ts
  pos : LetsPos ts
  fu : y.fuO.IsDictOf (PySem.strKind prog w) kvs
  lo : (y.fuA == sysModules) = false
  funs : FunsOK w b rest kvs bs
  bok : BOKx prog w b rest xs
  st : StateOK prog w t
  rows : RowsOK rest t.br bs
  bro : BrOK rest y.br (kvs.map (·.1))
  names : ∀ x ∈ kvs.map (·.1), x ∈ abc
  tl : ts.length < 100
  kl : kvs.length < 50
  fl : b.fn.length < 100
  fl2 : b.fa.length = b.fn.length
  fl3 : b.fr.length = b.fn.length
  kinds : ∀ q ∈ bs, q.2.1 = 0 ∨ q.2.1 = 1 ∨ q.2.1 = 2
theorem Inv.grow {prog : Program} {w : World} {b b' : Bk} {y : Sy} {t : Lw} {rest new : Led} {el : Addr} {ts : List (List (Str × Value))} {kvs : List (Str × Value)} {bs : List (Str × Nat × Nat)} {xs xs' : List (TKey × Addr × Value)} (I : Inv prog w b y t rest el ts kvs bs xs) (hE : BExt b b') (hB : BOKx prog w b' (new ++ rest) xs') : Inv prog w b' y t (new ++ rest) el ts kvs bs xs' := by
  have hg := hE.grow
  obtain ⟨l1, n1, l2, n2, l3, n3, l4, n4, o, rfl⟩ := hE
  exact ⟨I.el.mono sub_left, I.bk, I.lets.mono sub_left, I.letsB.mono sub_left, I.pos, I.fu, I.lo, I.funs.mono hg sub_left, hB, I.st, I.rows.mono sub_left, I.bro.mono sub_left, I.names, I.tl, I.kl, I.fl, I.fl2, I.fl3, I.kinds⟩
theorem Inv.pre {prog : Program} {w : World} {b : Bk} {y : Sy} {t : Lw} {r rest : Led} {el : Addr} {ts : List (List (Str × Value))} {kvs : List (Str × Value)} {bs : List (Str × Nat × Nat)} {xs : List (TKey × Addr × Value)} {nm : Str} {tn : Tok} (I : Inv prog w b y t r el ts kvs bs xs) (hs : ∀ p ∈ r, p ∈ rest) (hnm : nm ∈ five) (hop : b.op.length < 900) :
    PreSt prog w (b, y, rest, r, el, nm, tn, ts, kvs, bs, xs) (bled w b ++ (sled w y ++ rest)) [.ref el, .str nm tn] :=
  ⟨rfl, rfl, hs, I.el.mono hs, I.bk, hnm, I.lets.mono hs, by have := I.tl; omega, I.pos, I.fu, I.lo, I.funs.mono (.refl b) hs, I.bok, hop⟩
theorem Inv.preDu {prog : Program} {w : World} {b : Bk} {y : Sy} {t : Lw} {r rest : Led} {el : Addr} {ts : List (List (Str × Value))} {kvs : List (Str × Value)} {bs : List (Str × Nat × Nat)} {xs : List (TKey × Addr × Value)} {nm : Str} {tn : Tok} (I : Inv prog w b y t r el ts kvs bs xs) (hs : ∀ p ∈ r, p ∈ rest) (hnm : nm ∈ five) :
    PreDu prog w (b, y, t, rest, nm, tn, ts, bs) (bled w b ++ (sled w y ++ (tled t ++ rest))) [.ref b.inst, .ref t.stA, .str nm tn] :=
  ⟨rfl, rfl, I.st, I.letsB.mono hs, I.pos, by have := I.tl; omega, I.rows.mono hs, by have := I.funs.len; have := I.kl; omega, hnm⟩
theorem canonT1 {p : Addr × Obj} {A B T X : Led} : (p :: (A ++ (B ++ (T ++ X)))).Perm (A ++ (B ++ (T ++ (p :: X)))) := by
  have h1 : (A ++ (B ++ (T ++ (p :: X)))) = (A ++ (B ++ T)) ++ (p :: X) := by simp only [List.append_assoc]
  have h2 : (A ++ (B ++ (T ++ X))) = (A ++ (B ++ T)) ++ X := by simp only [List.append_assoc]
  rw [h1, h2]
  exact List.perm_middle.symm
theorem canonT2 {p : Addr × Obj} {A B T X n : Led} : (A ++ (B ++ (n ++ (T ++ (p :: X))))).Perm (A ++ (B ++ (T ++ (p :: (n ++ X))))) :=
  List.Perm.append_left A (List.Perm.append_left B ((List.perm_append_comm_assoc n T (p :: X)).trans (List.Perm.append_left T List.perm_middle)))
theorem canonT3 {p : Addr × Obj} {A B T X n : Led} : (A ++ (B ++ (T ++ (n ++ (p :: X))))).Perm (A ++ (B ++ (T ++ (p :: (n ++ X))))) :=
  List.Perm.append_left A (List.Perm.append_left B (List.Perm.append_left T List.perm_middle))
theorem canonT4 {A B T X n : Led} : (A ++ (B ++ (n ++ (T ++ X)))).Perm (A ++ (B ++ (T ++ (n ++ X)))) :=
  List.Perm.append_left A (List.Perm.append_left B (List.perm_append_comm_assoc n T X))
theorem canonT5 {p q : Addr × Obj} {A B T X : Led} : (A ++ (B ++ (p :: q :: (T ++ X)))).Perm (A ++ (B ++ (T ++ (p :: q :: X)))) := canonT4 (n := [p, q])
theorem canonT7 {p : Addr × Obj} {A B T X : Led} : (A ++ (B ++ (p :: (T ++ X)))).Perm (A ++ (B ++ (T ++ (p :: X)))) := canonT4 (n := [p])
theorem mid2 {h₀ h : Heap} {L : Addr} {p q : Addr × Obj} {A B T X : Led} (N : News h₀ L h (A ++ (B ++ (p :: q :: (T ++ X))))) (ND : Nd (A ++ (B ++ (p :: q :: (T ++ X))))) : ∃ mid : Led, p ∈ mid ∧ q ∈ mid ∧ News h₀ L h (A ++ (B ++ (T ++ (mid ++ X)))) ∧ Nd (A ++ (B ++ (T ++ (mid ++ X)))) :=
  ⟨[p, q], List.mem_cons_self, List.mem_cons_of_mem _ List.mem_cons_self, news_perm N canonT5, nd_perm ND canonT5⟩
theorem BExt.inst {b b' : Bk} (h : BExt b b') : b'.inst = b.inst := by
  obtain ⟨l1, n1, l2, n2, l3, n3, l4, n4, o, rfl⟩ := h
  rfl
theorem BExt.fns {b b' : Bk} (h : BExt b b') : b'.fn = b.fn := by
  obtain ⟨l1, n1, l2, n2, l3, n3, l4, n4, o, rfl⟩ := h
  rfl
theorem nd_consI {l : Led} {p : Addr × Obj} (h : Nd l) (hp : ∀ q ∈ l, q.1 ≠ p.1) : Nd (p :: l) := by
  unfold Nd
  rw [List.map_cons, List.nodup_cons]
  refine ⟨fun hm => ?_, h⟩
  obtain ⟨q, hq, e⟩ := List.mem_map.mp hm
  exact hp q hq e
theorem GEnd.canon {G : Heap → Prop} {L I : Addr} {oI : Obj} {J : (Str → Option Value) → Led → Prop} {s : Shared} {Q : Flow → Shared → Prop} {g' h' : Heap} {tk : Nat} {m' : Str → Option Value} {A B T Y : Led} (hG : G g') (F : Fr g' L h' m') (N : News g' L h' (A ++ (B ++ (T ++ ((I, oI) :: Y))))) (ND : Nd (A ++ (B ++ (T ++ ((I, oI) :: Y)))))
    (j : Nd (A ++ (B ++ (T ++ Y))) → J m' (A ++ (B ++ (T ++ Y)))) : GEnd G L I oI J s Q .next { s with heap := h', toks := tk } :=
  GEnd.intro hG F (news_perm N canonT1.symm) (nd_head (nd_perm ND canonT1.symm)) (j (nd_tail (nd_perm ND canonT1.symm)))
theorem TupL.nil {r : Led} {a : Addr} (h : TupL r a []) : ∃ n, (a, tupOf [] n) ∈ r := by
  obtain ⟨vs, n, hm, hi⟩ := h
  cases hi
  exact ⟨n, hm⟩
theorem mid1 {h₀ h : Heap} {L : Addr} {p q : Addr × Obj} {A B T X : Led} (N : News h₀ L h (A ++ (B ++ (q :: (T ++ (p :: X)))))) (ND : Nd (A ++ (B ++ (q :: (T ++ (p :: X)))))) : ∃ mm : Led, q ∈ mm ∧ News h₀ L h (A ++ (B ++ (T ++ (p :: (mm ++ X))))) ∧ Nd (A ++ (B ++ (T ++ (p :: (mm ++ X))))) :=
  ⟨[q], List.mem_cons_self, news_perm N (canonT2 (n := [q])), nd_perm ND (canonT2 (n := [q]))⟩
theorem mid3 {h₀ h : Heap} {L : Addr} {p q1 q2 q3 : Addr × Obj} {A B T X : Led} (N : News h₀ L h (A ++ (B ++ (q1 :: q2 :: q3 :: (T ++ (p :: X)))))) (ND : Nd (A ++ (B ++ (q1 :: q2 :: q3 :: (T ++ (p :: X)))))) : ∃ mm : Led, News h₀ L h (A ++ (B ++ (T ++ (p :: (mm ++ X))))) ∧ Nd (A ++ (B ++ (T ++ (p :: (mm ++ X))))) :=
  ⟨[q1, q2, q3], news_perm N (canonT2 (n := [q1, q2, q3])), nd_perm ND (canonT2 (n := [q1, q2, q3]))⟩
theorem five_of {items : Array Value} {t0 t1 t2 t3 t4 : Tok} (e : items = #[.str "a" t0, .str "b" t1, .str "c" t2, .str "true" t3, .str "false" t4]) {i : Nat} {v : Value} (h : items[i]? = some v) : ∃ nm tn, v = .str nm tn ∧ nm ∈ five ∧ i < 5 := by
  subst e
  have hi : i < 5 := (Array.getElem?_eq_some_iff.mp h).1
  obtain rfl | rfl | rfl | rfl | rfl : i = 0 ∨ i = 1 ∨ i = 2 ∨ i = 3 ∨ i = 4 := by omega
  · cases h; exact ⟨_, _, rfl, mem_at 0 rfl, hi⟩
  · cases h; exact ⟨_, _, rfl, mem_at 1 rfl, hi⟩
  · cases h; exact ⟨_, _, rfl, mem_at 2 rfl, hi⟩
  · cases h; exact ⟨_, _, rfl, mem_at 3 rfl, hi⟩
  · cases h; exact ⟨_, _, rfl, mem_at 4 rfl, hi⟩
/-- what is told and what is due, beside each other -/
theorem told_due {xs : List (TKey × Addr × Value)} {ts : List (List (Str × Value))} {bs : List (Str × Nat × Nat)} {nm : Str} {k c d : Nat} (hk : ∀ q ∈ bs, q.2.1 = 0 ∨ q.2.1 = 1 ∨ q.2.1 = 2) (hS : Says xs ts bs nm k) (hD : DueIs ts bs nm c d) :
    (c = 1 ∧ d = k ∧ 0 < k) ∨ (c = 0 ∧ k = 0) ∨ (c = 2 ∧ 0 < k ∧ BKey xs k ⟨"app", [], 0, (d : Nat)⟩) := by
  have tf : ("true" : Str) ≠ "false" := by decide
  rcases hS with ⟨t, g1, g2⟩ | ⟨h0, h⟩ <;> rcases hD with ⟨t', g1', e⟩ | ⟨h0', h'⟩
  · rw [g1] at g1'
    injection g1' with q
    injection q with q
    exact .inl ⟨e, (Int.ofNat.inj q).symm, g2⟩
  · rw [g1] at h0'; cases h0'
  · rw [h0] at g1'; cases g1'
  · rcases h with ⟨e1, e2⟩ | ⟨e1, e2⟩ | ⟨h1, h2, h⟩ <;> rcases h' with ⟨e1', e2', e3'⟩ | ⟨e1', e2', e3'⟩ | ⟨h1', h2', h'⟩
    · exact .inl ⟨e2', by rw [e2, e3'], by omega⟩
    · exact absurd (e1.symm.trans e1') tf
    · exact absurd e1 h1'
    · exact absurd (e1'.symm.trans e1) tf
    · exact .inl ⟨e2', by rw [e2, e3'], by omega⟩
    · exact absurd e1 h2'
    · exact absurd e1' h1
    · exact absurd e1' h2
    · rcases h' with h' | ⟨h', rfl, rfl⟩
      · rw [h'] at h
        rcases h with ⟨g, e⟩ | ⟨g, e⟩ | ⟨v, g, e, q⟩
        · rcases g with g | ⟨v, g⟩
          · cases g
          · cases g; exact .inr (.inl ⟨rfl, e⟩)
        · cases g; exact .inl ⟨rfl, rfl, e⟩
        · cases g; exact .inr (.inr ⟨rfl, e, q⟩)
      · rw [h'] at h
        rcases h with ⟨g, e⟩ | ⟨g, e⟩ | ⟨v, g, e, q⟩
        · exact .inr (.inl ⟨rfl, e⟩)
        · cases g
        · cases g
noncomputable def PreAr (prog : Program) (w : World) (x : Bk × Sy × Lw × Led × Addr × List (List (Str × Value)) × List (Str × Value) × List (Str × Nat × Nat) × List (TKey × Addr × Value)) (news : Led) (vs : List Value) : Prop := match x with
  | (b, y, t, rest, el, ts, kvs, bs, xs) => news = bled w b ++ (sled w y ++ (tled t ++ rest)) ∧ vs = [.ref b.inst, .ref y.inst, .ref el, .ref t.stA] ∧ Inv prog w b y t rest el ts kvs bs xs ∧ y.sc.length < 100 ∧ b.op.length < 800
end Mine
end
section
-- DE
namespace Mine
noncomputable def MarksOK (l : List Value) (ks : List Nat) : Prop := l.length = ks.length ∧ ∀ (i k : Nat), ks[i]? = some k → ∃ t, l[i]? = some (.int (k : Nat) t)
theorem MarksOK.snoc {l : List Value} {ks : List Nat} {k : Nat} {t : Tok} (h : MarksOK l ks) : MarksOK (l ++ [.int (k : Nat) t]) (ks ++ [k]) := by
  refine ⟨(len_snoc h.1).trans (len_snoc rfl).symm, fun i j e => ?_⟩
  rcases get_snoc e with e | ⟨rfl, rfl⟩
  · obtain ⟨u, hu⟩ := h.2 i j e
    exact ⟨u, get_app hu⟩
  · exact ⟨t, get_end h.1⟩
theorem MarksOK.last {l : List Value} {ks : List Nat} {k : Nat} (h : MarksOK l (ks ++ [k])) : ∃ l' t, l = l' ++ [.int (k : Nat) t] ∧ MarksOK l' ks := by
  have hl : 0 < l.length := by rw [h.1]; simp
  obtain ⟨l', v, rfl⟩ := last_split hl
  have e : l'.length = ks.length := by have := h.1; simp at this; exact this
  obtain ⟨t, ht⟩ := h.2 ks.length k (by simp)
  rw [← e] at ht
  simp at ht
  subst ht
  refine ⟨l', t, rfl, e, fun i j hj => ?_⟩
  have hi : i < ks.length := (List.getElem?_eq_some_iff.mp hj).1
  obtain ⟨u, hu⟩ := h.2 i j (get_app hj)
  rw [List.getElem?_append_left (by omega)] at hu
  exact ⟨u, hu⟩
noncomputable def SomeOK (b : Bk) (sm : List Value) : Prop := sm.length = 5 ∧ ∀ (i : Nat), i < 5 → ∃ (k : Nat) (t : Tok), sm[i]? = some (.int (k : Nat) t) ∧ 0 < k ∧ k < b.op.length
/-- all that holds between two deeds -/
structure Full (prog : Program) (w : World) (b : Bk) (y : Sy) (t : Lw) (rest : Led) (el : Addr) (ts : List (List (Str × Value))) (kvs : List (Str × Value)) (bs : List (Str × Nat × Nat)) (xs : List (TKey × Addr × Value)) (ks : List Nat) (kd n : Nat) : Prop where
  inv : Inv prog w b y t rest el ts kvs bs xs
  dish : DishOK prog w t kd
  sc : MarksOK y.sc ks
  ma : MarksOK t.ma ks
  asc : ks.Pairwise (· ≤ ·)
  le : ∀ k ∈ ks, k ≤ bs.length
  sm : SomeOK b t.sm
  b1 : ts.length ≤ n
  b2 : kvs.length ≤ n
  b3 : b.fn.length ≤ 3 + n
  b4 : ks.length ≤ n
  b5 : kd ≤ 10 + 4 * n
  hn : n < 20
noncomputable def PreDd (prog : Program) (w : World) (x : Bk × Sy × Lw × Led × Addr × List (List (Str × Value)) × List (Str × Value) × List (Str × Nat × Nat) × List (TKey × Addr × Value) × List Nat × Nat × Nat) (news : Led) (vs : List Value) : Prop := match x with
  | (b, y, t, rest, el, ts, kvs, bs, xs, ks, kd, n) => news = bled w b ++ (sled w y ++ (tled t ++ rest)) ∧ vs = [.ref t.diA, .ref b.inst, .ref y.inst, .ref t.stA, .ref t.smA] ∧ Full prog w b y t rest el ts kvs bs xs ks kd n ∧ b.op.length < 900 ∧ n < 18
noncomputable def PostDd (prog : Program) (w : World) (x : Bk × Sy × Lw × Led × Addr × List (List (Str × Value)) × List (Str × Value) × List (Str × Nat × Nat) × List (TKey × Addr × Value) × List Nat × Nat × Nat) (_news news' : Led) (r : Value) : Prop := match x with
  | (b, y, t, rest, el, _, _, _, xs, _, _, n) => ∃ b' y' t' new ts' kvs' bs' ks' kd', news' = bled w b' ++ (sled w y' ++ (tled t' ++ (new ++ rest))) ∧ Full prog w b' y' t' (new ++ rest) el ts' kvs' bs' xs ks' kd' (n + 1) ∧ b'.op = b.op ∧ b'.inst = b.inst ∧ y'.inst = y.inst ∧ t'.diA = t.diA ∧ t'.stA = t.stA ∧ t'.smA = t.smA ∧ r = .bool true
theorem Inv.diO {prog : Program} {w : World} {b : Bk} {y : Sy} {t : Lw} {rest : Led} {el : Addr} {ts : List (List (Str × Value))} {kvs : List (Str × Value)} {bs : List (Str × Nat × Nat)} {xs : List (TKey × Addr × Value)} (I : Inv prog w b y t rest el ts kvs bs xs) (o : Obj) : Inv prog w b y { t with diO := o } rest el ts kvs bs xs :=
  ⟨I.el, I.bk, I.lets, I.letsB, I.pos, I.fu, I.lo, I.funs, I.bok, I.st, I.rows, I.bro, I.names, I.tl, I.kl, I.fl, I.fl2, I.fl3, I.kinds⟩
theorem b5_step {kd j n : Nat} (h : kd ≤ 10 + 4 * n) (hj : j ≤ 4) : kd + j ≤ 10 + 4 * (n + 1) := by omega
theorem hn_step {n : Nat} (h : n < 18) : n + 1 < 20 := by omega
theorem b4_pop {ks : List Nat} {k n : Nat} (h : (ks ++ [k]).length ≤ n) : ks.length ≤ n + 1 := by simp at h; omega
theorem b4_push {ks : List Nat} {k n : Nat} (h : ks.length ≤ n) : (ks ++ [k]).length ≤ n + 1 := len_snoc_le h
theorem Full.keep {prog : Program} {w : World} {b : Bk} {y : Sy} {t : Lw} {rest : Led} {el : Addr} {ts : List (List (Str × Value))} {kvs : List (Str × Value)} {bs : List (Str × Nat × Nat)} {xs : List (TKey × Addr × Value)} {ks : List Nat} {kd n : Nat} (I : Full prog w b y t rest el ts kvs bs xs ks kd n) (hn : n < 18) {o : Obj} {j : Nat} (hj : j ≤ 4) (hd : DishOK prog w { t with diO := o } (kd + j)) :
    Full prog w b y { t with diO := o } rest el ts kvs bs xs ks (kd + j) (n + 1) :=
  ⟨I.inv.diO o, hd, I.sc, I.ma, I.asc, I.le, I.sm, Nat.le_succ_of_le I.b1, Nat.le_succ_of_le I.b2, Nat.le_succ_of_le I.b3, Nat.le_succ_of_le I.b4, b5_step I.b5 hj, hn_step hn⟩
theorem Inv.weak {prog : Program} {w : World} {b : Bk} {y : Sy} {t : Lw} {rest new : Led} {el : Addr} {ts : List (List (Str × Value))} {kvs : List (Str × Value)} {bs : List (Str × Nat × Nat)} {xs : List (TKey × Addr × Value)} (I : Inv prog w b y t rest el ts kvs bs xs) : Inv prog w b y t (new ++ rest) el ts kvs bs xs := I.grow (.refl b) (I.bok.mono sub_left)
theorem mid0 {h₀ h : Heap} {L : Addr} {q : Addr × Obj} {A B T X : Led} (N : News h₀ L h (A ++ (B ++ (q :: (T ++ X))))) (ND : Nd (A ++ (B ++ (q :: (T ++ X))))) : ∃ mm : Led, q ∈ mm ∧ News h₀ L h (A ++ (B ++ (T ++ (mm ++ X)))) ∧ Nd (A ++ (B ++ (T ++ (mm ++ X)))) :=
  ⟨[q], List.mem_cons_self, news_perm N canonT7, nd_perm ND canonT7⟩
theorem strsAre_snoc {x : Str} {u : Tok} : ∀ {vs : List Value} {ss : List Str}, StrsAre vs ss → StrsAre (vs ++ [.str x u]) (ss ++ [x])
  | _, _, .nil => .cons x u .nil
  | _, _, .cons y t h => .cons y t (strsAre_snoc h)
theorem any_lookB {bs : List (Str × Nat × Nat)} {nm : Str} : (bs.map (·.1)).any (· == nm) = (lookB bs nm).isSome := by
  induction bs with
  | nil => rfl
  | cons q r ih =>
    obtain ⟨n, c, d⟩ := q
    by_cases e : n = nm
    · subst e
      simp [lookB]
    · have h1 : lookB ((n, c, d) :: r) nm = lookB r nm := by unfold lookB; rw [List.find?_cons_of_neg (by simpa using e)]
      rw [h1, ← ih]
      simp [e]
theorem ent_len {w : World} {b : Bk} {r : Led} {en v : Nat} (h : EntAt w b r en 2 v) : v < b.fa.length := by
  cases h with
  | mk j t0 t1 t2 t3 t4 v0 sA v2 v3 bo tb n its sn h1 h2 h3 h5 =>
    cases h5 with
    | args v h _ => cases h
    | body h _ _ _ => cases h
    | const _ _ _ _ _ _ _ _ _ g _ _ => exact (List.getElem?_eq_some_iff.mp g).1
theorem Full.weak {prog : Program} {w : World} {b : Bk} {y : Sy} {t : Lw} {rest new : Led} {el : Addr} {ts : List (List (Str × Value))} {kvs : List (Str × Value)} {bs : List (Str × Nat × Nat)} {xs : List (TKey × Addr × Value)} {ks : List Nat} {kd n : Nat} (I : Full prog w b y t rest el ts kvs bs xs ks kd n) : Full prog w b y t (new ++ rest) el ts kvs bs xs ks kd n :=
  ⟨I.inv.weak, I.dish, I.sc, I.ma, I.asc, I.le, I.sm, I.b1, I.b2, I.b3, I.b4, I.b5, I.hn⟩
theorem swap_at {A B P S X : Led} {p q : Addr × Obj} : (A ++ (B ++ ((P ++ (p :: S)) ++ (q :: X)))).Perm (A ++ (B ++ ((P ++ (q :: S)) ++ (p :: X)))) := by
  refine List.Perm.append_left A (List.Perm.append_left B ?_)
  rw [List.append_assoc, List.append_assoc]
  refine List.Perm.append_left P ?_
  show (p :: (S ++ (q :: X))).Perm (q :: (S ++ (p :: X)))
  exact ((List.Perm.cons p List.perm_middle).trans (List.Perm.swap q p _)).trans (List.Perm.cons q List.perm_middle.symm)
theorem swap_bo {A B X : Led} {t : Lw} {x : Addr} {v : List Value} {k : Nat} : (A ++ (B ++ (tled t ++ ((x, listOf v.toArray k) :: X)))).Perm (A ++ (B ++ (tled { t with boA := x, bo := v, boN := k } ++ ((t.boA, listOf t.bo.toArray t.boN) :: X)))) :=
  swap_at (P := (tled t).take 3) (S := (tled t).drop 4)
theorem swap_br {A B X : Led} {t : Lw} {x : Addr} {v : List Value} {k : Nat} : (A ++ (B ++ (tled t ++ ((x, listOf v.toArray k) :: X)))).Perm (A ++ (B ++ (tled { t with brA := x, br := v, brN := k } ++ ((t.brA, listOf t.br.toArray t.brN) :: X)))) :=
  swap_at (P := (tled t).take 4) (S := (tled t).drop 5)
theorem Full.cut {prog : Program} {w : World} {b : Bk} {y : Sy} {t : Lw} {rest : Led} {el : Addr} {ts : List (List (Str × Value))} {kvs : List (Str × Value)} {bs : List (Str × Nat × Nat)} {xs : List (TKey × Addr × Value)} {ks : List Nat} {kd n : Nat} (I : Full prog w b y t rest el ts kvs bs xs ks kd n) (hn : n < 18) {o o6 : Obj} {j z m1 k : Nat} {x : Addr} (hj : j ≤ 4) (hd : DishOK prog w { t with diO := o } (kd + j))
    (h6 : o6.IsDictOf (PySem.strKind prog w) [(Str.ofString "bound", .ref x), (Str.ofString "brought", .ref t.brA), (Str.ofString "marks", .ref t.maA)]) (hlo : (t.stA == sysModules) = false) :
    Full prog w b { y with le := y.le.take z, leN := m1 } { t with diO := o, stO := o6, boA := x, bo := t.bo.take z, boN := k } rest el (ts.take z) kvs bs xs ks (kd + j) (n + 1) := by
  have V := I.inv
  have hl : (ts.take z).length ≤ ts.length := List.length_take_le' _ _
  exact ⟨⟨V.el, V.bk, V.lets.take z, V.letsB.take z, fun kv hk => V.pos kv (List.mem_of_mem_take hk), V.fu, V.lo, V.funs, V.bok, ⟨h6, hlo⟩, V.rows, V.bro, V.names, Nat.lt_of_le_of_lt hl V.tl, V.kl, V.fl, V.fl2, V.fl3, V.kinds⟩, hd, I.sc, I.ma, I.asc, I.le, I.sm, Nat.le_succ_of_le (Nat.le_trans hl I.b1), Nat.le_succ_of_le I.b2, Nat.le_succ_of_le I.b3, Nat.le_succ_of_le I.b4, b5_step I.b5 hj, hn_step hn⟩
theorem Full.popd {prog : Program} {w : World} {b : Bk} {y : Sy} {t : Lw} {rest : Led} {el : Addr} {ts : List (List (Str × Value))} {kvs : List (Str × Value)} {bs : List (Str × Nat × Nat)} {xs : List (TKey × Addr × Value)} {ks : List Nat} {kd n k0 : Nat} (I : Full prog w b y t rest el ts kvs bs xs (ks ++ [k0]) kd n) (hn : n < 18) {o o6 fo : Obj} {j m1 m2 m3 m4 : Nat} {x : Addr} {sc' ma' : List Value} (hj : j ≤ 4) (hd : DishOK prog w { t with diO := o } (kd + j))
    (hsc : MarksOK sc' ks) (hma : MarksOK ma' ks) (hfo : fo.IsDictOf (PySem.strKind prog w) (kvs.take k0)) (h6 : o6.IsDictOf (PySem.strKind prog w) [(Str.ofString "bound", .ref t.boA), (Str.ofString "brought", .ref x), (Str.ofString "marks", .ref t.maA)]) (hlo : (t.stA == sysModules) = false) :
    Full prog w b { y with sc := sc', scN := m1, br := y.br.take k0, brN := m2, fuO := fo } { t with diO := o, stO := o6, brA := x, br := t.br.take k0, brN := m3, ma := ma', maN := m4 } rest el ts (kvs.take k0) (bs.take k0) xs ks (kd + j) (n + 1) := by
  have V := I.inv
  have hl : (kvs.take k0).length ≤ kvs.length := List.length_take_le' _ _
  have hasc := I.asc
  rw [List.pairwise_append] at hasc
  have hk0 : k0 ≤ bs.length := I.le k0 (by simp)
  refine ⟨⟨V.el, V.bk, V.lets, V.letsB, V.pos, hfo, V.lo, V.funs.take k0, V.bok, ⟨h6, hlo⟩, V.rows.take k0, ?_, ?_, V.tl, Nat.lt_of_le_of_lt hl V.kl, V.fl, V.fl2, V.fl3, fun q hq => V.kinds q (List.mem_of_mem_take hq)⟩, hd, hsc, hma, hasc.1, ?_, I.sm, Nat.le_succ_of_le I.b1, Nat.le_succ_of_le (Nat.le_trans hl I.b2), Nat.le_succ_of_le I.b3, b4_pop I.b4, b5_step I.b5 hj, hn_step hn⟩
  · rw [List.map_take]
    refine ⟨by rw [List.length_take, List.length_take, V.bro.1], fun i z hz => ?_⟩
    rw [List.getElem?_take] at hz
    split at hz
    · rename_i hi
      obtain ⟨a, t1, t2, c, g1, g2⟩ := V.bro.2 i z hz
      exact ⟨a, t1, t2, c, by rw [List.getElem?_take, if_pos hi]; exact g1, g2⟩
    · cases hz
  · intro z hz
    rw [List.map_take] at hz
    exact V.names z (List.mem_of_mem_take hz)
  · intro q hq
    rw [List.length_take]
    have := hasc.2.2 q hq k0 (by simp)
    omega
theorem BFuns.op {b b' : Bk} (h : BFuns b b') : b'.op = b.op := by
  obtain ⟨l1, n1, l2, n2, l3, n3, -, -, -, rfl⟩ := h
  rfl
theorem BOKx.funs {prog : Program} {w : World} {b b' : Bk} {r : Led} {xs : List (TKey × Addr × Value)} (H : BOKx prog w b r xs) (h : BFuns b b') : BOKx prog w b' r xs := by
  obtain ⟨l1, n1, l2, n2, l3, n3, -, -, -, rfl⟩ := h
  exact ⟨H.hd, H.keys, H.vals, H.lo, H.len, H.lar, H.lso, H.lda, H.pos⟩
theorem BFuns.inst {b b' : Bk} (h : BFuns b b') : b'.inst = b.inst := by
  obtain ⟨l1, n1, l2, n2, l3, n3, -, -, -, rfl⟩ := h
  rfl
theorem BFuns.lens {b b' : Bk} (h : BFuns b b') (e1 : b.fa.length = b.fn.length) (e2 : b.fr.length = b.fn.length) : b'.fn.length ≤ b.fn.length + 1 ∧ b'.fa.length = b'.fn.length ∧ b'.fr.length = b'.fn.length := by
  obtain ⟨l1, n1, l2, n2, l3, n3, g1, g2, g3, rfl⟩ := h
  simp only [List.length_append]
  omega
theorem fl_step {x z n : Nat} (h : x ≤ z + 1) (h2 : z ≤ 3 + n) (hn : n < 18) : x < 100 ∧ x ≤ 3 + (n + 1) := by omega
theorem kl_step {x n : Nat} (h : x ≤ n + 1) (hn : n < 18) : x < 50 := by omega
theorem Full.bring {prog : Program} {w : World} {b b' : Bk} {y : Sy} {t : Lw} {rest new : Led} {el : Addr} {ts : List (List (Str × Value))} {kvs : List (Str × Value)} {bs : List (Str × Nat × Nat)} {xs : List (TKey × Addr × Value)} {ks : List Nat} {kd n : Nat} (I : Full prog w b y t rest el ts kvs bs xs ks kd n) (hn : n < 18) {o fo : Obj} {j m1 m2 kind val : Nat} (hj : j ≤ 4) (hd : DishOK prog w { t with diO := o } (kd + j))
    {nm : Str} {a en TR : Addr} (hnm : nm ∈ abc) (hBF : BFuns b b') (ho : fo.IsDictOf (PySem.strKind prog w) (kvs ++ [(nm, .ref en)])) (hE : EntAt w b' (new ++ rest) en kind val) (hb : ∃ t1 t2 tn, (a, tupOf [.str "fun" t1, .str nm t2] tn) ∈ new ++ rest) (hk : kind = 0 ∨ kind = 1 ∨ kind = 2)
    (hr : ∃ t1 t2 t3 c, (TR, tupOf [.str nm t1, .int (kind : Nat) t2, .int (val : Nat) t3] c) ∈ new ++ rest) :
    Full prog w b' { y with fuO := fo, br := y.br ++ [.ref a], brN := m1 } { t with diO := o, br := t.br ++ [.ref TR], brN := m2 } (new ++ rest) el ts (kvs ++ [(nm, .ref en)]) (bs ++ [(nm, kind, val)]) xs ks (kd + j) (n + 1) := by
  have V := I.inv
  have hfn := hBF.lens V.fl2 V.fl3
  have hst := fl_step hfn.1 I.b3 hn
  have hkl := len_snoc_le (x := (nm, Value.ref en)) I.b2
  have hin := hBF.inst
  have hro : RowsOK (new ++ rest) (t.br ++ [.ref TR]) (bs ++ [(nm, kind, val)]) := by
    obtain ⟨q1, q2, q3, c, hm⟩ := hr
    exact RowsOK.snoc ⟨TR, q1, q2, q3, c, rfl, hm⟩ (V.rows.mono sub_left)
  exact ⟨⟨hin ▸ V.el.mono sub_left, V.bk.trans hin.symm, V.lets.mono sub_left, V.letsB.mono sub_left, V.pos, ho, V.lo, FunsOK.snoc ⟨en, rfl, hE⟩ (V.funs.mono hBF.grow sub_left), (V.bok.mono sub_left).funs hBF, V.st, hro, by rw [List.map_append]; exact (V.bro.mono sub_left).snoc hb, by rw [List.map_append]; exact mem_snoc V.names hnm, V.tl, kl_step hkl hn, hst.1, hfn.2.1, hfn.2.2, mem_snoc V.kinds hk⟩, hd, I.sc, I.ma, I.asc, fun k hk' => le_snoc (I.le k hk'), ⟨I.sm.1, fun i hi => by rw [hBF.op]; exact I.sm.2 i hi⟩, Nat.le_succ_of_le I.b1, hkl, hst.2, Nat.le_succ_of_le I.b4, b5_step I.b5 hj, hn_step hn⟩
theorem five_abc {nm : Str} (h : nm ∈ five) (h1 : ¬ nm = "true") (h2 : ¬ nm = "false") : nm ∈ abc := by
  simp only [five, List.mem_cons, List.not_mem_nil, or_false] at h
  rcases h with rfl | rfl | rfl | rfl | rfl
  · simp [abc]
  · simp [abc]
  · simp [abc]
  · exact absurd rfl h1
  · exact absurd rfl h2
theorem Full.push {prog : Program} {w : World} {b : Bk} {y : Sy} {t : Lw} {rest : Led} {el : Addr} {ts : List (List (Str × Value))} {kvs : List (Str × Value)} {bs : List (Str × Nat × Nat)} {xs : List (TKey × Addr × Value)} {ks : List Nat} {kd n : Nat} (I : Full prog w b y t rest el ts kvs bs xs ks kd n) (hn : n < 18) {o : Obj} {j : Nat} (hj : j ≤ 4) (hd : DishOK prog w { t with diO := o } (kd + j)) {u1 u2 : Tok} {m1 m2 : Nat} :
    Full prog w b { y with sc := y.sc ++ [.int (y.br.length : Nat) u1], scN := m1 } { t with diO := o, ma := t.ma ++ [.int (t.br.length : Nat) u2], maN := m2 } rest el ts kvs bs xs (ks ++ [bs.length]) (kd + j) (n + 1) := by
  have h1 : y.br.length = bs.length := by rw [I.inv.bro.1, List.length_map, I.inv.funs.len]
  have h2 : t.br.length = bs.length := I.inv.rows.len
  rw [h1, h2]
  have V := I.inv
  refine ⟨⟨V.el, V.bk, V.lets, V.letsB, V.pos, V.fu, V.lo, V.funs, V.bok, V.st, V.rows, V.bro, V.names, V.tl, V.kl, V.fl, V.fl2, V.fl3, V.kinds⟩, hd, I.sc.snoc, I.ma.snoc, ?_, ?_, I.sm, Nat.le_succ_of_le I.b1, Nat.le_succ_of_le I.b2, Nat.le_succ_of_le I.b3, b4_push I.b4, b5_step I.b5 hj, hn_step hn⟩
  · rw [List.pairwise_append]
    exact ⟨I.asc, by simp, fun a ha c hc => by rw [List.mem_singleton.mp hc]; exact I.le a ha⟩
  · intro k hk
    rcases List.mem_append.mp hk with hk | hk
    · exact I.le k hk
    · rw [List.mem_singleton.mp hk]; exact Nat.le_refl _
section
variable {prog : Program} {w : World} {A : Around} {E : Value → Shared → Prop} {s : Shared} {h₀ : Heap} {L D : Addr} {m : Str → Option Value} {K : Frag} {value slice : PySem.Expr} {Q : Value → Shared → Prop}
theorem ne_nil_T {news : Led} {l1 l2 : Addr} {vs : List Value} {n1 n2 : Nat} (N : News h₀ L s.heap news) (h1 : (l1, listOf vs.toArray n1) ∈ news) (h2 : (l2, listOf ([] : List Value).toArray n2) ∈ news) (hne : 0 < vs.length) (hu : A.units + 8 < cLine) (h : Q (.bool true) s) : wpAny (model prog w) A (compareOp .NotEq (.ref l1) (.ref l2)) Q E s :=
  PySem.SeqAt.RcNeAt.lists_lengths (ledList N h1) (ledList N h2) (by simp; intro e; rw [e] at hne; exact absurd hne (Nat.lt_irrefl _)) (by omega) prog w E Q h
theorem ne_nil_F {news : Led} {l1 l2 : Addr} {vs : List Value} {n1 n2 : Nat} (N : News h₀ L s.heap news) (h1 : (l1, listOf vs.toArray n1) ∈ news) (h2 : (l2, listOf ([] : List Value).toArray n2) ∈ news) (he : vs = []) (hu : A.units + 8 < cLine) (h : Q (.bool false) s) : wpAny (model prog w) A (compareOp .NotEq (.ref l1) (.ref l2)) Q E s := by
  subst he
  exact PySem.SeqAt.RcNeAt.lists (e := fun _ => true) (ledList N h1) (ledList N h2) rfl (by omega) (fun j h1 _ => absurd h1 (Nat.not_lt_zero _)) prog w E Q h
theorem ktup_item {dd : Option Addr} {items : Array Value} {n : Nat} {sl : Array (Option Value)} {k : Nat} {u : Tok} {v : Value} (F : Fr h₀ L s.heap m) (X₀ : K.In h₀) (ho : K.lookup D = some ⟨.type "tuple", dd, .seq items n, sl⟩) (hx : items[k]? = some v) (hk : k < 1000) (h : Q v s)
    (hs : subscripted slice false (.ref D) (.int (k : Nat) u) = operate [.ref D, .int (k : Nat) u] (getItem (.ref D) (.int (k : Nat) u)) := by with_unfolding_all rfl) :
    wpAny (model prog w) A (subscriptTail value slice (.ref D) (.int (k : Nat) u)) Q E s := by
  have ht : IsTup s.heap D items := ⟨_, F.keep _ _ (X₀ _ _ ho), rfl, _, rfl⟩
  have hlt : k < items.size := (Array.getElem?_eq_some_iff.mp hx).1
  refine tail_any ht.typeIs slot_tuple_getitem.lookup (getItem_tuple ht (by omega) (by omega) (j := k) ?_ hx h) hs
  unfold seqIndex?
  simp
  omega
theorem ktup_any {dd : Option Addr} {items : Array Value} {n : Nat} {sl : Array (Option Value)} {k : Nat} {u : Tok} (F : Fr h₀ L s.heap m) (X₀ : K.In h₀) (ho : K.lookup D = some ⟨.type "tuple", dd, .seq items n, sl⟩) (hlt : k < items.size) (hk : k < 1000) (h : ∀ v, items[k]? = some v → Q v s)
    (hs : subscripted slice false (.ref D) (.int (k : Nat) u) = operate [.ref D, .int (k : Nat) u] (getItem (.ref D) (.int (k : Nat) u)) := by with_unfolding_all rfl) :
    wpAny (model prog w) A (subscriptTail value slice (.ref D) (.int (k : Nat) u)) Q E s :=
  ktup_item F X₀ ho (Array.getElem?_eq_getElem hlt) hk (h _ (Array.getElem?_eq_getElem hlt)) hs
end
end Mine
end
section
-- BI0
namespace Mine
section
variable {prog : Program} {w : World} {A : Around} {E : Value → Shared → Prop} {s : Shared} {h₀ : Heap} {L D : Addr} {m : Str → Option Value} {r : Led}
theorem newTup_A {vs : List Value} {Q : Value → Shared → Prop} (F : Fr h₀ L s.heap m) (N : News h₀ L s.heap r) (ND : Nd r) (hl : vs.length ≤ 100)
    (h : ∀ x h', Fr h₀ L h' m → News h₀ L h' ((x, tupOf vs 0) :: r) → Nd ((x, tupOf vs 0) :: r) → Q (.ref x) { s with heap := h' }) : wpAny (model prog w) A (newTuple vs) Q E s :=
  kup_newTuple F N (fun D h' F' N' l1 => h D h' F' N' (nd_cons ND l1)) (by rw [sizeLine_eq]; omega)
theorem newLst_A {vs : List Value} {Q : Value → Shared → Prop} (F : Fr h₀ L s.heap m) (N : News h₀ L s.heap r) (ND : Nd r) (hl : vs.length ≤ 100)
    (h : ∀ x h', Fr h₀ L h' m → News h₀ L h' ((x, listOf vs.toArray 0) :: r) → Nd ((x, listOf vs.toArray 0) :: r) → Q (.ref x) { s with heap := h' }) : wpAny (model prog w) A (newList vs) Q E s :=
  newList_K F N (fun D h' F' N' l1 => h D h' F' N' (nd_cons ND l1)) (by rw [sizeLine_eq]; omega)
theorem newDict_A {env : Env} {pos : Pos} {Q : Value → Shared → Prop} (F : Fr h₀ L s.heap m) (N : News h₀ L s.heap r) (ND : Nd r) (hbig : h₀.NoLimit)
    (k : ∀ d h' o, Fr h₀ L h' m → News h₀ L h' ((d, o) :: r) → Nd ((d, o) :: r) → (d == sysModules) = false → o.IsDictOf (PySem.strKind prog w) [] → Q (.ref d) { s with heap := h' }) :
    wpAny (model prog w) A (eval (.Dict [] [] pos) env) Q E s :=
  newDict_K F N hbig fun d h' o F' N' l1 lo hs _ _ _ => k d h' o F' N' (nd_cons ND l1) lo hs
end
theorem HD_nil {prog : Program} {w : World} {o : Obj} (h : o.IsDictOf (PySem.strKind prog w) []) : HD prog w o [] := by
  obtain ⟨es, ep, h1, h2, h3, h4, h5⟩ := h
  refine ⟨h1, ⟨es, ep, h2, ?_⟩, by simp⟩
  have := h4.length
  simp at this
  simp [this]
theorem rev_app (l r : Led) : (l.reverse ++ r).Perm (l ++ r) := List.Perm.append_right r (List.reverse_perm l)
theorem mv3 {P S T X : Led} {a b c : Addr × Obj} : (P ++ (a :: b :: (S ++ (c :: (T ++ X))))).Perm (P ++ (S ++ (T ++ (a :: b :: c :: X)))) := by
  refine List.Perm.append_left P ?_
  refine (List.Perm.cons a (List.Perm.cons b (List.Perm.append_left S (List.perm_middle.symm)))).trans ?_
  rw [← List.append_assoc, ← List.append_assoc]
  exact ((List.perm_middle.trans (List.Perm.cons a List.perm_middle)).symm)

set_option maxHeartbeats 8000000 in
theorem bi_end {prog : Program} {w : World} {h₀ h : Heap} {L : Addr} {news l : Led} {i j snA swA fnA faA frA opA tpA arA soA daA nuA e1 k1 e2 k2 : Addr} {snO swO nuO : Obj} {t0 t1 t2 t3 t4 t5 t6 t7 t8 t9 t10 t11 t12 fcT trT faT a1 a2 a3 b1 b2 b3 q0 q1 q2 r0 r1 r2 p0 p1 p2 g1 g2 : Tok} {c1 c2 c3 c4 c5 c6 c7 c8 c9 c10 c11 c12 dn : Nat} {v1 v2 : Int}
    (N : News h₀ L h l) (ND : Nd l) (H : HD prog w nuO [(⟨"true", [], 0, 0⟩, k1, .int v1 g1), (⟨"false", [], 0, 0⟩, k2, .int v2 g2)]) (lo : (nuA == sysModules) = false)
    (e : l = (k2, tupOf [.str "false" a1, .ref e2, .int 0 a2, .int 0 a3] c1) :: (e2, tupOf [] c2) :: (k1, tupOf [.str "true" b1, .ref e1, .int 0 b2, .int 0 b3] c3) :: (e1, tupOf [] c4) :: (nuA, nuO) :: (daA, listOf ([.int 0 q0, .int 0 q1, .int 0 q2] : List Value).toArray c5) :: (soA, listOf ([.int 0 r0, .int 0 r1, .int 0 r2] : List Value).toArray c6) :: (arA, listOf ([.ref tpA, .ref e1, .ref e2] : List Value).toArray c7) :: (tpA, tupOf [] c8) :: (opA, listOf ([.str "" p0, .str "true" p1, .str "false" p2] : List Value).toArray c9) :: (frA, listOf ([] : List Value).toArray c10) :: (faA, listOf ([] : List Value).toArray c11) :: (fnA, listOf ([] : List Value).toArray c12) :: (swA, swO) :: (snA, snO) :: (i, instObj 400 j) :: (j, dictOf [⟨PyData.keyHash w.params "sort_names", .str "sort_names" t0, .ref snA⟩, ⟨PyData.keyHash w.params "sort_widths", .str "sort_widths" t1, .ref swA⟩, ⟨PyData.keyHash w.params "fun_names", .str "fun_names" t2, .ref fnA⟩, ⟨PyData.keyHash w.params "fun_args", .str "fun_args" t3, .ref faA⟩, ⟨PyData.keyHash w.params "fun_results", .str "fun_results" t4, .ref frA⟩, ⟨PyData.keyHash w.params "fresh_count", .str "fresh_count" t5, .int 0 fcT⟩, ⟨PyData.keyHash w.params "term_ops", .str "term_ops" t6, .ref opA⟩, ⟨PyData.keyHash w.params "term_args", .str "term_args" t7, .ref arA⟩, ⟨PyData.keyHash w.params "term_sorts", .str "term_sorts" t8, .ref soA⟩, ⟨PyData.keyHash w.params "term_datas", .str "term_datas" t9, .ref daA⟩, ⟨PyData.keyHash w.params "numbers", .str "numbers" t10, .ref nuA⟩, ⟨PyData.keyHash w.params "true_number", .str "true_number" t11, .int v1 trT⟩, ⟨PyData.keyHash w.params "false_number", .str "false_number" t12, .int v2 faT⟩] dn) :: news) (hv1 : (1 : Int) = v1) (hv2 : (2 : Int) = v2) :
    ∃ b new xs, b.inst = i ∧ News h₀ L h (bled w b ++ (new ++ news)) ∧ Nd (bled w b ++ (new ++ news)) ∧ BOKx prog w b new xs ∧ BKey xs 1 ⟨"true", [], 0, 0⟩ ∧ BKey xs 2 ⟨"false", [], 0, 0⟩ ∧ b.fn = [] ∧ b.fa = [] ∧ b.fr = [] ∧ b.op.length = 3 := by
  subst e
  obtain rfl := hv1
  obtain rfl := hv2
  let b : Bk := ⟨i, j, dn, fun k => [t0, t1, t2, t3, t4, t5, t6, t7, t8, t9, t10, t11, t12].getD k 0, snA, swA, fcT, trT, faT, fnA, [], c12, faA, [], c11, frA, [], c10, opA, [.str "" p0, .str "true" p1, .str "false" p2], c9, arA, [.ref tpA, .ref e1, .ref e2], c7, soA, [.int 0 r0, .int 0 r1, .int 0 r2], c6, daA, [.int 0 q0, .int 0 q1, .int 0 q2], c5, nuA, nuO⟩
  let new : Led := [(snA, snO), (swA, swO), (tpA, tupOf [] c8), (e1, tupOf [] c4), (k1, tupOf [.str "true" b1, .ref e1, .int 0 b2, .int 0 b3] c3), (e2, tupOf [] c2), (k2, tupOf [.str "false" a1, .ref e2, .int 0 a2, .int 0 a3] c1)]
  have hp : ((k2, tupOf [.str "false" a1, .ref e2, .int 0 a2, .int 0 a3] c1) :: (e2, tupOf [] c2) :: (k1, tupOf [.str "true" b1, .ref e1, .int 0 b2, .int 0 b3] c3) :: (e1, tupOf [] c4) :: (nuA, nuO) :: (daA, listOf ([.int 0 q0, .int 0 q1, .int 0 q2] : List Value).toArray c5) :: (soA, listOf ([.int 0 r0, .int 0 r1, .int 0 r2] : List Value).toArray c6) :: (arA, listOf ([.ref tpA, .ref e1, .ref e2] : List Value).toArray c7) :: (tpA, tupOf [] c8) :: (opA, listOf ([.str "" p0, .str "true" p1, .str "false" p2] : List Value).toArray c9) :: (frA, listOf ([] : List Value).toArray c10) :: (faA, listOf ([] : List Value).toArray c11) :: (fnA, listOf ([] : List Value).toArray c12) :: (swA, swO) :: (snA, snO) :: (i, instObj 400 j) :: (j, dictOf [⟨PyData.keyHash w.params "sort_names", .str "sort_names" t0, .ref snA⟩, ⟨PyData.keyHash w.params "sort_widths", .str "sort_widths" t1, .ref swA⟩, ⟨PyData.keyHash w.params "fun_names", .str "fun_names" t2, .ref fnA⟩, ⟨PyData.keyHash w.params "fun_args", .str "fun_args" t3, .ref faA⟩, ⟨PyData.keyHash w.params "fun_results", .str "fun_results" t4, .ref frA⟩, ⟨PyData.keyHash w.params "fresh_count", .str "fresh_count" t5, .int 0 fcT⟩, ⟨PyData.keyHash w.params "term_ops", .str "term_ops" t6, .ref opA⟩, ⟨PyData.keyHash w.params "term_args", .str "term_args" t7, .ref arA⟩, ⟨PyData.keyHash w.params "term_sorts", .str "term_sorts" t8, .ref soA⟩, ⟨PyData.keyHash w.params "term_datas", .str "term_datas" t9, .ref daA⟩, ⟨PyData.keyHash w.params "numbers", .str "numbers" t10, .ref nuA⟩, ⟨PyData.keyHash w.params "true_number", .str "true_number" t11, .int 1 trT⟩, ⟨PyData.keyHash w.params "false_number", .str "false_number" t12, .int 2 faT⟩] dn) :: news).Perm (bled w b ++ (new ++ news)) := by
    have s1 : ((k2, tupOf [.str "false" a1, .ref e2, .int 0 a2, .int 0 a3] c1) :: (e2, tupOf [] c2) :: (k1, tupOf [.str "true" b1, .ref e1, .int 0 b2, .int 0 b3] c3) :: (e1, tupOf [] c4) :: (nuA, nuO) :: (daA, listOf ([.int 0 q0, .int 0 q1, .int 0 q2] : List Value).toArray c5) :: (soA, listOf ([.int 0 r0, .int 0 r1, .int 0 r2] : List Value).toArray c6) :: (arA, listOf ([.ref tpA, .ref e1, .ref e2] : List Value).toArray c7) :: (tpA, tupOf [] c8) :: (opA, listOf ([.str "" p0, .str "true" p1, .str "false" p2] : List Value).toArray c9) :: (frA, listOf ([] : List Value).toArray c10) :: (faA, listOf ([] : List Value).toArray c11) :: (fnA, listOf ([] : List Value).toArray c12) :: (swA, swO) :: (snA, snO) :: (i, instObj 400 j) :: (j, dictOf [⟨PyData.keyHash w.params "sort_names", .str "sort_names" t0, .ref snA⟩, ⟨PyData.keyHash w.params "sort_widths", .str "sort_widths" t1, .ref swA⟩, ⟨PyData.keyHash w.params "fun_names", .str "fun_names" t2, .ref fnA⟩, ⟨PyData.keyHash w.params "fun_args", .str "fun_args" t3, .ref faA⟩, ⟨PyData.keyHash w.params "fun_results", .str "fun_results" t4, .ref frA⟩, ⟨PyData.keyHash w.params "fresh_count", .str "fresh_count" t5, .int 0 fcT⟩, ⟨PyData.keyHash w.params "term_ops", .str "term_ops" t6, .ref opA⟩, ⟨PyData.keyHash w.params "term_args", .str "term_args" t7, .ref arA⟩, ⟨PyData.keyHash w.params "term_sorts", .str "term_sorts" t8, .ref soA⟩, ⟨PyData.keyHash w.params "term_datas", .str "term_datas" t9, .ref daA⟩, ⟨PyData.keyHash w.params "numbers", .str "numbers" t10, .ref nuA⟩, ⟨PyData.keyHash w.params "true_number", .str "true_number" t11, .int 1 trT⟩, ⟨PyData.keyHash w.params "false_number", .str "false_number" t12, .int 2 faT⟩] dn) :: news).Perm ([(j, dictOf [⟨PyData.keyHash w.params "sort_names", .str "sort_names" t0, .ref snA⟩, ⟨PyData.keyHash w.params "sort_widths", .str "sort_widths" t1, .ref swA⟩, ⟨PyData.keyHash w.params "fun_names", .str "fun_names" t2, .ref fnA⟩, ⟨PyData.keyHash w.params "fun_args", .str "fun_args" t3, .ref faA⟩, ⟨PyData.keyHash w.params "fun_results", .str "fun_results" t4, .ref frA⟩, ⟨PyData.keyHash w.params "fresh_count", .str "fresh_count" t5, .int 0 fcT⟩, ⟨PyData.keyHash w.params "term_ops", .str "term_ops" t6, .ref opA⟩, ⟨PyData.keyHash w.params "term_args", .str "term_args" t7, .ref arA⟩, ⟨PyData.keyHash w.params "term_sorts", .str "term_sorts" t8, .ref soA⟩, ⟨PyData.keyHash w.params "term_datas", .str "term_datas" t9, .ref daA⟩, ⟨PyData.keyHash w.params "numbers", .str "numbers" t10, .ref nuA⟩, ⟨PyData.keyHash w.params "true_number", .str "true_number" t11, .int 1 trT⟩, ⟨PyData.keyHash w.params "false_number", .str "false_number" t12, .int 2 faT⟩] dn), (i, instObj 400 j), (snA, snO), (swA, swO), (fnA, listOf ([] : List Value).toArray c12), (faA, listOf ([] : List Value).toArray c11), (frA, listOf ([] : List Value).toArray c10), (opA, listOf ([.str "" p0, .str "true" p1, .str "false" p2] : List Value).toArray c9), (tpA, tupOf [] c8), (arA, listOf ([.ref tpA, .ref e1, .ref e2] : List Value).toArray c7), (soA, listOf ([.int 0 r0, .int 0 r1, .int 0 r2] : List Value).toArray c6), (daA, listOf ([.int 0 q0, .int 0 q1, .int 0 q2] : List Value).toArray c5), (nuA, nuO), (e1, tupOf [] c4), (k1, tupOf [.str "true" b1, .ref e1, .int 0 b2, .int 0 b3] c3), (e2, tupOf [] c2), (k2, tupOf [.str "false" a1, .ref e2, .int 0 a2, .int 0 a3] c1)] ++ news) := rev_app [(j, dictOf [⟨PyData.keyHash w.params "sort_names", .str "sort_names" t0, .ref snA⟩, ⟨PyData.keyHash w.params "sort_widths", .str "sort_widths" t1, .ref swA⟩, ⟨PyData.keyHash w.params "fun_names", .str "fun_names" t2, .ref fnA⟩, ⟨PyData.keyHash w.params "fun_args", .str "fun_args" t3, .ref faA⟩, ⟨PyData.keyHash w.params "fun_results", .str "fun_results" t4, .ref frA⟩, ⟨PyData.keyHash w.params "fresh_count", .str "fresh_count" t5, .int 0 fcT⟩, ⟨PyData.keyHash w.params "term_ops", .str "term_ops" t6, .ref opA⟩, ⟨PyData.keyHash w.params "term_args", .str "term_args" t7, .ref arA⟩, ⟨PyData.keyHash w.params "term_sorts", .str "term_sorts" t8, .ref soA⟩, ⟨PyData.keyHash w.params "term_datas", .str "term_datas" t9, .ref daA⟩, ⟨PyData.keyHash w.params "numbers", .str "numbers" t10, .ref nuA⟩, ⟨PyData.keyHash w.params "true_number", .str "true_number" t11, .int 1 trT⟩, ⟨PyData.keyHash w.params "false_number", .str "false_number" t12, .int 2 faT⟩] dn), (i, instObj 400 j), (snA, snO), (swA, swO), (fnA, listOf ([] : List Value).toArray c12), (faA, listOf ([] : List Value).toArray c11), (frA, listOf ([] : List Value).toArray c10), (opA, listOf ([.str "" p0, .str "true" p1, .str "false" p2] : List Value).toArray c9), (tpA, tupOf [] c8), (arA, listOf ([.ref tpA, .ref e1, .ref e2] : List Value).toArray c7), (soA, listOf ([.int 0 r0, .int 0 r1, .int 0 r2] : List Value).toArray c6), (daA, listOf ([.int 0 q0, .int 0 q1, .int 0 q2] : List Value).toArray c5), (nuA, nuO), (e1, tupOf [] c4), (k1, tupOf [.str "true" b1, .ref e1, .int 0 b2, .int 0 b3] c3), (e2, tupOf [] c2), (k2, tupOf [.str "false" a1, .ref e2, .int 0 a2, .int 0 a3] c1)] news
    refine s1.trans ((List.Perm.swap _ _ _).trans ?_)
    exact mv3 (P := [(i, instObj 400 j), (j, dictOf [⟨PyData.keyHash w.params "sort_names", .str "sort_names" t0, .ref snA⟩, ⟨PyData.keyHash w.params "sort_widths", .str "sort_widths" t1, .ref swA⟩, ⟨PyData.keyHash w.params "fun_names", .str "fun_names" t2, .ref fnA⟩, ⟨PyData.keyHash w.params "fun_args", .str "fun_args" t3, .ref faA⟩, ⟨PyData.keyHash w.params "fun_results", .str "fun_results" t4, .ref frA⟩, ⟨PyData.keyHash w.params "fresh_count", .str "fresh_count" t5, .int 0 fcT⟩, ⟨PyData.keyHash w.params "term_ops", .str "term_ops" t6, .ref opA⟩, ⟨PyData.keyHash w.params "term_args", .str "term_args" t7, .ref arA⟩, ⟨PyData.keyHash w.params "term_sorts", .str "term_sorts" t8, .ref soA⟩, ⟨PyData.keyHash w.params "term_datas", .str "term_datas" t9, .ref daA⟩, ⟨PyData.keyHash w.params "numbers", .str "numbers" t10, .ref nuA⟩, ⟨PyData.keyHash w.params "true_number", .str "true_number" t11, .int 1 trT⟩, ⟨PyData.keyHash w.params "false_number", .str "false_number" t12, .int 2 faT⟩] dn)]) (S := [(fnA, listOf ([] : List Value).toArray c12), (faA, listOf ([] : List Value).toArray c11), (frA, listOf ([] : List Value).toArray c10), (opA, listOf ([.str "" p0, .str "true" p1, .str "false" p2] : List Value).toArray c9)]) (T := [(arA, listOf ([.ref tpA, .ref e1, .ref e2] : List Value).toArray c7), (soA, listOf ([.int 0 r0, .int 0 r1, .int 0 r2] : List Value).toArray c6), (daA, listOf ([.int 0 q0, .int 0 q1, .int 0 q2] : List Value).toArray c5), (nuA, nuO)]) (X := [(e1, tupOf [] c4), (k1, tupOf [.str "true" b1, .ref e1, .int 0 b2, .int 0 b3] c3), (e2, tupOf [] c2), (k2, tupOf [.str "false" a1, .ref e2, .int 0 a2, .int 0 a3] c1)] ++ news)
  refine ⟨b, new, [(⟨"true", [], 0, 0⟩, k1, .int 1 g1), (⟨"false", [], 0, 0⟩, k2, .int 2 g2)], rfl, news_perm N hp, nd_perm ND hp, ?_, ⟨k1, g1, List.mem_cons_self⟩, ⟨k2, g2, List.mem_cons_of_mem _ List.mem_cons_self⟩, rfl, rfl, rfl, rfl⟩
  have te1 : TupL new e1 [] := ⟨[], c4, mem_at 3 rfl, .nil⟩
  have te2 : TupL new e2 [] := ⟨[], c2, mem_at 5 rfl, .nil⟩
  refine ⟨H, ?_, ?_, lo, Nat.le_of_ble_eq_true rfl, rfl, rfl, rfl, Nat.lt_of_lt_of_le (by decide : 0 < 3) (Nat.le_of_ble_eq_true rfl)⟩
  · intro x hx
    rcases List.mem_cons.mp hx with rfl | hx
    · exact ⟨b1, e1, b2, b3, c3, mem_at 4 rfl, te1⟩
    · rw [List.mem_singleton.mp hx]
      exact ⟨a1, e2, a2, a3, c1, mem_at 6 rfl, te2⟩
  · intro x hx
    rcases List.mem_cons.mp hx with rfl | hx
    · exact ⟨1, g1, rfl, by decide, Nat.le_of_ble_eq_true rfl, ⟨p1, rfl⟩, ⟨e1, rfl, te1⟩, ⟨r1, rfl⟩, q1, rfl⟩
    · rw [List.mem_singleton.mp hx]
      exact ⟨2, g2, rfl, by decide, Nat.le_of_ble_eq_true rfl, ⟨p2, rfl⟩, ⟨e2, rfl, te2⟩, ⟨r2, rfl⟩, q2, rfl⟩
theorem mv1 {P S X : Led} {a : Addr × Obj} : (P ++ (a :: (S ++ X))).Perm (P ++ (S ++ (a :: X))) := List.Perm.append_left P List.perm_middle.symm
theorem syi_end {prog : Program} {w : World} {h₀ h : Heap} {L : Addr} {news l : Led} {i j bA srA fuA brA scA leA : Addr} {fuO srO : Obj} {t0 t1 t2 t3 t4 t5 t6 nsT : Tok} {c1 c2 c3 dn : Nat}
    (N : News h₀ L h l) (ND : Nd l) (H : fuO.IsDictOf (PySem.strKind prog w) []) (lo : (fuA == sysModules) = false)
    (e : l = (leA, listOf ([] : List Value).toArray c1) :: (scA, listOf ([] : List Value).toArray c2) :: (brA, listOf ([] : List Value).toArray c3) :: (fuA, fuO) :: (srA, srO) :: (i, instObj 558 j) :: (j, dictOf [⟨PyData.keyHash w.params "bank", .str "bank" t0, .ref bA⟩, ⟨PyData.keyHash w.params "sorts", .str "sorts" t1, .ref srA⟩, ⟨PyData.keyHash w.params "functions", .str "functions" t2, .ref fuA⟩, ⟨PyData.keyHash w.params "brought", .str "brought" t3, .ref brA⟩, ⟨PyData.keyHash w.params "scopes", .str "scopes" t4, .ref scA⟩, ⟨PyData.keyHash w.params "lets", .str "lets" t5, .ref leA⟩, ⟨PyData.keyHash w.params "numeral_sort", .str "numeral_sort" t6, .int 1 nsT⟩] dn) :: news) :
    ∃ y p, y.inst = i ∧ News h₀ L h (sled w y ++ (p :: news)) ∧ Nd (sled w y ++ (p :: news)) ∧ y.bk = bA ∧ y.br = [] ∧ y.sc = [] ∧ y.le = [] ∧ y.fuO.IsDictOf (PySem.strKind prog w) [] ∧ (y.fuA == sysModules) = false := by
  subst e
  let y : Sy := ⟨i, j, dn, fun k => [t0, t1, t2, t3, t4, t5, t6].getD k 0, bA, srA, nsT, fuA, fuO, brA, [], c3, scA, [], c2, leA, [], c1⟩
  have hp : ((leA, listOf ([] : List Value).toArray c1) :: (scA, listOf ([] : List Value).toArray c2) :: (brA, listOf ([] : List Value).toArray c3) :: (fuA, fuO) :: (srA, srO) :: (i, instObj 558 j) :: (j, dictOf [⟨PyData.keyHash w.params "bank", .str "bank" t0, .ref bA⟩, ⟨PyData.keyHash w.params "sorts", .str "sorts" t1, .ref srA⟩, ⟨PyData.keyHash w.params "functions", .str "functions" t2, .ref fuA⟩, ⟨PyData.keyHash w.params "brought", .str "brought" t3, .ref brA⟩, ⟨PyData.keyHash w.params "scopes", .str "scopes" t4, .ref scA⟩, ⟨PyData.keyHash w.params "lets", .str "lets" t5, .ref leA⟩, ⟨PyData.keyHash w.params "numeral_sort", .str "numeral_sort" t6, .int 1 nsT⟩] dn) :: news).Perm (sled w y ++ ((srA, srO) :: news)) := by
    have s1 : ((leA, listOf ([] : List Value).toArray c1) :: (scA, listOf ([] : List Value).toArray c2) :: (brA, listOf ([] : List Value).toArray c3) :: (fuA, fuO) :: (srA, srO) :: (i, instObj 558 j) :: (j, dictOf [⟨PyData.keyHash w.params "bank", .str "bank" t0, .ref bA⟩, ⟨PyData.keyHash w.params "sorts", .str "sorts" t1, .ref srA⟩, ⟨PyData.keyHash w.params "functions", .str "functions" t2, .ref fuA⟩, ⟨PyData.keyHash w.params "brought", .str "brought" t3, .ref brA⟩, ⟨PyData.keyHash w.params "scopes", .str "scopes" t4, .ref scA⟩, ⟨PyData.keyHash w.params "lets", .str "lets" t5, .ref leA⟩, ⟨PyData.keyHash w.params "numeral_sort", .str "numeral_sort" t6, .int 1 nsT⟩] dn) :: news).Perm ([(j, dictOf [⟨PyData.keyHash w.params "bank", .str "bank" t0, .ref bA⟩, ⟨PyData.keyHash w.params "sorts", .str "sorts" t1, .ref srA⟩, ⟨PyData.keyHash w.params "functions", .str "functions" t2, .ref fuA⟩, ⟨PyData.keyHash w.params "brought", .str "brought" t3, .ref brA⟩, ⟨PyData.keyHash w.params "scopes", .str "scopes" t4, .ref scA⟩, ⟨PyData.keyHash w.params "lets", .str "lets" t5, .ref leA⟩, ⟨PyData.keyHash w.params "numeral_sort", .str "numeral_sort" t6, .int 1 nsT⟩] dn), (i, instObj 558 j), (srA, srO), (fuA, fuO), (brA, listOf ([] : List Value).toArray c3), (scA, listOf ([] : List Value).toArray c2), (leA, listOf ([] : List Value).toArray c1)] ++ news) := rev_app [(j, dictOf [⟨PyData.keyHash w.params "bank", .str "bank" t0, .ref bA⟩, ⟨PyData.keyHash w.params "sorts", .str "sorts" t1, .ref srA⟩, ⟨PyData.keyHash w.params "functions", .str "functions" t2, .ref fuA⟩, ⟨PyData.keyHash w.params "brought", .str "brought" t3, .ref brA⟩, ⟨PyData.keyHash w.params "scopes", .str "scopes" t4, .ref scA⟩, ⟨PyData.keyHash w.params "lets", .str "lets" t5, .ref leA⟩, ⟨PyData.keyHash w.params "numeral_sort", .str "numeral_sort" t6, .int 1 nsT⟩] dn), (i, instObj 558 j), (srA, srO), (fuA, fuO), (brA, listOf ([] : List Value).toArray c3), (scA, listOf ([] : List Value).toArray c2), (leA, listOf ([] : List Value).toArray c1)] news
    refine s1.trans ((List.Perm.swap _ _ _).trans ?_)
    exact mv1 (P := [(i, instObj 558 j), (j, dictOf [⟨PyData.keyHash w.params "bank", .str "bank" t0, .ref bA⟩, ⟨PyData.keyHash w.params "sorts", .str "sorts" t1, .ref srA⟩, ⟨PyData.keyHash w.params "functions", .str "functions" t2, .ref fuA⟩, ⟨PyData.keyHash w.params "brought", .str "brought" t3, .ref brA⟩, ⟨PyData.keyHash w.params "scopes", .str "scopes" t4, .ref scA⟩, ⟨PyData.keyHash w.params "lets", .str "lets" t5, .ref leA⟩, ⟨PyData.keyHash w.params "numeral_sort", .str "numeral_sort" t6, .int 1 nsT⟩] dn)]) (S := [(fuA, fuO), (brA, listOf ([] : List Value).toArray c3), (scA, listOf ([] : List Value).toArray c2), (leA, listOf ([] : List Value).toArray c1)]) (X := news)
  exact ⟨y, (srA, srO), rfl, news_perm N hp, nd_perm ND hp, rfl, rfl, rfl, rfl, H, lo⟩
end Mine
end
section
-- DE2
namespace Mine
theorem canonT8 {p q z u v : Addr × Obj} {A B T X : Led} : (A ++ (B ++ (p :: q :: z :: u :: v :: (T ++ X)))).Perm (A ++ (B ++ (T ++ (p :: q :: z :: u :: v :: X)))) := canonT4 (n := [p, q, z, u, v])
theorem fin_eq {p q : Addr × Obj} {P Q T new mm mid rest : Led} : P ++ (Q ++ (T ++ (p :: q :: (new ++ (mm ++ (mid ++ rest)))))) = P ++ (Q ++ (T ++ ((p :: q :: (new ++ (mm ++ mid))) ++ rest))) := by simp [List.append_assoc]
theorem Full.assoc {prog : Program} {w : World} {b : Bk} {y : Sy} {t : Lw} {p q : Addr × Obj} {new mm mid rest : Led} {el : Addr} {ts : List (List (Str × Value))} {kvs : List (Str × Value)} {bs : List (Str × Nat × Nat)} {xs : List (TKey × Addr × Value)} {ks : List Nat} {kd n : Nat} (I : Full prog w b y t ((p :: q :: new) ++ (mm ++ (mid ++ rest))) el ts kvs bs xs ks kd n) :
    Full prog w b y t ((p :: q :: (new ++ (mm ++ mid))) ++ rest) el ts kvs bs xs ks kd n := by
  have e : ((p :: q :: new) ++ (mm ++ (mid ++ rest))) = (p :: q :: (new ++ (mm ++ mid))) ++ rest := by simp [List.append_assoc]
  rw [← e]
  exact I
theorem Full.bind {prog : Program} {w : World} {b : Bk} {y : Sy} {t : Lw} {rest : Led} {el : Addr} {ts : List (List (Str × Value))} {kvs : List (Str × Value)} {bs : List (Str × Nat × Nat)} {xs : List (TKey × Addr × Value)} {ks : List Nat} {kd n : Nat} (I : Full prog w b y t rest el ts kvs bs xs ks kd n) (hn : n < 18) {o o1 o2 : Obj} {d1 d2 : Addr} {pr : List (Str × Value)} {j m1 m2 : Nat} (hj : j ≤ 4) (hd : DishOK prog w { t with diO := o } (kd + j))
    (h1 : (d1, o1) ∈ rest) (h2 : (d2, o2) ∈ rest) (i1 : o1.IsDictOf (PySem.strKind prog w) pr) (i2 : o2.IsDictOf (PySem.strKind prog w) pr) (l1 : (d1 == sysModules) = false) (l2 : (d2 == sysModules) = false) (hp : ∀ q ∈ pr, ∃ (k : Nat) (t : Tok), q.2 = Value.int (k : Nat) t ∧ 0 < k) :
    Full prog w b { y with le := y.le ++ [.ref d1], leN := m1 } { t with diO := o, bo := t.bo ++ [.ref d2], boN := m2 } rest el (ts ++ [pr]) kvs bs xs ks (kd + j) (n + 1) := by
  have V := I.inv
  have hb1 := I.b1
  exact ⟨⟨V.el, V.bk, V.lets.snoc h1 l1 i1, V.letsB.snoc h2 l2 i2, fun kv hk => by
    rcases List.mem_append.mp hk with hk | hk
    · exact V.pos kv hk
    · rw [List.mem_singleton.mp hk]; exact hp, V.fu, V.lo, V.funs, V.bok, V.st, V.rows, V.bro, V.names, by have := I.hn; simp; omega, V.kl, V.fl, V.fl2, V.fl3, V.kinds⟩, hd, I.sc, I.ma, I.asc, I.le, I.sm, by simp; omega, Nat.le_succ_of_le I.b2, Nat.le_succ_of_le I.b3, Nat.le_succ_of_le I.b4, b5_step I.b5 hj, hn_step hn⟩
section
variable {prog : Program} {w : World} {A : Around} {E : Value → Shared → Prop} {s : Shared} {h₀ : Heap} {L : Addr} {m : Str → Option Value}
end
end Mine
end
section
-- LW1
namespace Mine
theorem intsAre_snoc {x : Int} {u : Tok} : ∀ {vs : List Value} {ss : List Int}, IntsAre vs ss → IntsAre (vs ++ [.int x u]) (ss ++ [x])
  | _, _, .nil => .cons x u .nil
  | _, _, .cons y t h => .cons y t (intsAre_snoc h)
theorem nd3 {h₀ h : Heap} {L a b c : Addr} {oa ob oc : Obj} (_N : News h₀ L h [(a, oa), (b, ob), (c, oc)]) (l1 : c < b) (l2 : b < a ∧ c < a) : Nd [(a, oa), (b, ob), (c, oc)] :=
  nd_cons (nd_cons (by simp [Nd]) (by intro p hp; rw [List.mem_singleton.mp hp]; exact l1)) (by
    intro p hp
    rcases List.mem_cons.mp hp with rfl | hp
    · exact l2.1
    · rw [List.mem_singleton.mp hp]; exact l2.2)
theorem updF_in {P Q pre post : Led} {d : Addr} {o : Obj} (h : Nd (P ++ (Q ++ (pre ++ (d, o) :: post)))) : UpdF d o (P ++ (Q ++ (pre ++ (d, o) :: post))) (fun o' => P ++ (Q ++ (pre ++ (d, o') :: post))) := by
  have e : ∀ z : Obj, P ++ (Q ++ (pre ++ (d, z) :: post)) = (P ++ (Q ++ pre)) ++ (d, z) :: post := fun z => by simp [List.append_assoc]
  simp only [e] at h ⊢
  exact updF_nd h
theorem nd_in {h₀ h : Heap} {L : Addr} {P Q pre post : Led} {d : Addr} {o o' : Obj} (_N : News h₀ L h (P ++ (Q ++ (pre ++ (d, o') :: post)))) (ND : Nd (P ++ (Q ++ (pre ++ (d, o) :: post)))) : Nd (P ++ (Q ++ (pre ++ (d, o') :: post))) :=
  nd_same ND (by simp)
section
variable {prog : Program} {w : World} {h₀ h : Heap} {L : Addr} {b : Bk} {y : Sy} {xs : List (TKey × Addr × Value)}
theorem start1 {t c s d x : Addr × Obj} {nw : Led} (N : News h₀ L h (bled w b ++ ((t :: nw) ++ ([c, s, d] ++ [x])))) (ND : Nd (bled w b ++ ((t :: nw) ++ ([c, s, d] ++ [x])))) (HB : BOKx prog w b nw xs) :
    ∃ X : Led, News h₀ L h (bled w b ++ (d :: c :: X)) ∧ Nd (bled w b ++ (d :: c :: X)) ∧ BOKx prog w b X xs ∧ x ∈ X := by
  have p : (bled w b ++ ((t :: nw) ++ ([c, s, d] ++ [x]))).Perm (bled w b ++ (d :: c :: ((t :: nw) ++ [s, x]))) := by
    refine List.Perm.append_left _ ?_
    have q : [c, s, d, x].Perm [d, c, s, x] := (List.Perm.cons c (List.Perm.swap d s [x])).trans (List.Perm.swap d c [s, x])
    exact (List.Perm.append_left (t :: nw) q).trans (List.perm_middle.trans (List.Perm.cons d List.perm_middle))
  exact ⟨_, news_perm N p, nd_perm ND p, HB.mono (fun z hz => List.mem_append_left _ (List.mem_cons_of_mem _ hz)), by simp⟩
theorem start2 {p d c x : Addr × Obj} {X : Led} (N : News h₀ L h (sled w y ++ (p :: (bled w b ++ (d :: c :: X))))) (ND : Nd (sled w y ++ (p :: (bled w b ++ (d :: c :: X))))) (HB : BOKx prog w b X xs) (hx : x ∈ X) :
    ∃ X' : Led, News h₀ L h (bled w b ++ (sled w y ++ (d :: c :: X'))) ∧ Nd (bled w b ++ (sled w y ++ (d :: c :: X'))) ∧ BOKx prog w b X' xs ∧ x ∈ X' := by
  have e : sled w y ++ (p :: (bled w b ++ (d :: c :: X))) = (sled w y ++ [p]) ++ (bled w b ++ (d :: c :: X)) := by simp
  have q : (sled w y ++ (p :: (bled w b ++ (d :: c :: X)))).Perm (bled w b ++ (sled w y ++ (d :: c :: (p :: X)))) := by
    rw [e]
    refine (List.perm_append_comm_assoc _ _ _).trans (List.Perm.append_left _ ?_)
    rw [List.append_assoc]
    refine List.Perm.append_left _ ?_
    exact (List.Perm.swap d p _).trans (List.Perm.cons d (List.Perm.swap c p _))
  exact ⟨_, news_perm N q, nd_perm ND q, HB.mono (fun z hz => List.mem_cons_of_mem _ hz), List.mem_cons_of_mem _ hx⟩
theorem start3 {d c x : Addr × Obj} {X nE : Led} {el bi yi : Addr} (N : News h₀ L h (nE ++ (bled w b ++ (sled w y ++ (d :: c :: X))))) (ND : Nd (nE ++ (bled w b ++ (sled w y ++ (d :: c :: X))))) (HB : BOKx prog w b X xs) (hx : x ∈ X) (hE : ElAt w nE el bi yi) :
    ∃ X' : Led, News h₀ L h (bled w b ++ (sled w y ++ (d :: c :: X'))) ∧ Nd (bled w b ++ (sled w y ++ (d :: c :: X'))) ∧ BOKx prog w b X' xs ∧ x ∈ X' ∧ ElAt w X' el bi yi := by
  have q : (nE ++ (bled w b ++ (sled w y ++ (d :: c :: X)))).Perm (bled w b ++ (sled w y ++ (d :: c :: (nE ++ X)))) := by
    refine (List.perm_append_comm_assoc _ _ _).trans (List.Perm.append_left _ ?_)
    refine (List.perm_append_comm_assoc _ _ _).trans (List.Perm.append_left _ ?_)
    exact List.perm_middle.trans (List.Perm.cons d List.perm_middle)
  exact ⟨_, news_perm N q, nd_perm ND q, HB.mono (fun z hz => List.mem_append_right _ hz), List.mem_append_right _ hx, hE.mono (fun z hz => List.mem_append_left _ hz)⟩
/-- the law's objects but for the list of terms -/
noncomputable def sixOf (d c st bo br ma : Addr × Obj) : Led := [d, c, st, bo, br, ma]
theorem start4 {t ma br bo st d c x : Addr × Obj} {X : Led} {el bi yi : Addr} (N : News h₀ L h (bled w b ++ (sled w y ++ (t :: ma :: br :: bo :: st :: d :: c :: X)))) (ND : Nd (bled w b ++ (sled w y ++ (t :: ma :: br :: bo :: st :: d :: c :: X)))) (HB : BOKx prog w b X xs) (hx : x ∈ X) (hE : ElAt w X el bi yi) :
    ∃ X' : Led, News h₀ L h (bled w b ++ (sled w y ++ (sixOf d c st bo br ma ++ X'))) ∧ Nd (bled w b ++ (sled w y ++ (sixOf d c st bo br ma ++ X'))) ∧ BOKx prog w b X' xs ∧ x ∈ X' ∧ ElAt w X' el bi yi := by
  have q : (bled w b ++ (sled w y ++ (t :: ma :: br :: bo :: st :: d :: c :: X))).Perm (bled w b ++ (sled w y ++ (sixOf d c st bo br ma ++ (t :: X)))) := by
    refine List.Perm.append_left _ (List.Perm.append_left _ ?_)
    have s1 : (t :: ma :: br :: bo :: st :: d :: c :: X).Perm ([d, c, st, bo, br, ma, t] ++ X) :=
      (show (t :: ma :: br :: bo :: st :: d :: c :: X).Perm ([t, ma, br, bo, st, d, c] ++ X) from List.Perm.refl _).trans (List.Perm.append_right X
        ((show ([c, d, st, bo, br, ma, t] : Led).reverse.Perm [c, d, st, bo, br, ma, t] from List.reverse_perm _).trans (List.Perm.swap d c _)))
    exact s1
  exact ⟨_, news_perm N q, nd_perm ND q, HB.mono (fun z hz => List.mem_cons_of_mem _ hz), List.mem_cons_of_mem _ hx, hE.mono (fun z hz => List.mem_cons_of_mem _ hz)⟩
/-- a new stretch in front of the law's objects goes behind them -/
theorem start5 {T n X : Led} (N : News h₀ L h (bled w b ++ (n ++ (sled w y ++ (T ++ X))))) (ND : Nd (bled w b ++ (n ++ (sled w y ++ (T ++ X))))) : News h₀ L h (bled w b ++ (sled w y ++ (T ++ (n ++ X)))) ∧ Nd (bled w b ++ (sled w y ++ (T ++ (n ++ X)))) := by
  have q : (bled w b ++ (n ++ (sled w y ++ (T ++ X)))).Perm (bled w b ++ (sled w y ++ (T ++ (n ++ X)))) :=
    List.Perm.append_left _ ((List.perm_append_comm_assoc _ _ _).trans (List.Perm.append_left _ (List.perm_append_comm_assoc _ _ _)))
  exact ⟨news_perm N q, nd_perm ND q⟩
end
/-- the bank with its first functions, and what stands beside it -/
structure St0 (prog : Program) (w : World) (b0 b : Bk) (X : Led) (xs0 xs : List (TKey × Addr × Value)) (el yi : Addr) (cell : Addr × Obj) (i j : Nat) : Prop where
  bok : BOKx prog w b X xs
  sub : ∀ z ∈ xs0, z ∈ xs
  inst : b.inst = b0.inst
  fn : b.fn.length = i
  fa : b.fa.length = i
  fr : b.fr.length = i
  op : b.op.length ≤ 3 + j
  el : ElAt w X el b0.inst yi
  cel : cell ∈ X
noncomputable def YsOK (xs : List (TKey × Addr × Value)) (ys : List Value) (i : Nat) : Prop := ys.length = i ∧ ∀ j, j < i → ∃ (k : Nat) (t : Tok) (f : Int), ys[j]? = some (.int (k : Nat) t) ∧ BKey xs k ⟨"app", [], 0, f⟩
theorem YsOK.snoc {xs xs' : List (TKey × Addr × Value)} {ys : List Value} {i k : Nat} {t : Tok} {f : Int} (h : YsOK xs ys i) (hs : ∀ z ∈ xs, z ∈ xs') (hk : BKey xs' k ⟨"app", [], 0, f⟩) : YsOK xs' (ys ++ [.int (k : Nat) t]) (i + 1) := by
  refine ⟨by simp [h.1], fun j hj => ?_⟩
  rcases Nat.lt_or_ge j i with hi | hi
  · obtain ⟨k', t', f', e, hb⟩ := h.2 j hi
    exact ⟨k', t', f', get_app e, hb.mono hs⟩
  · obtain rfl : j = i := by omega
    exact ⟨k, t, f, by rw [← h.1]; simp, hk⟩
theorem len_two {l : List Value} (h : l.length = 2) : ∃ u v, l = [u, v] := by
  cases l with
  | nil => cases h
  | cons u l =>
    cases l with
    | nil => cases h
    | cons v l =>
      cases l with
      | nil => exact ⟨u, v, rfl⟩
      | cons _ _ => simp at h
theorem YsOK.two {xs : List (TKey × Addr × Value)} {ys : List Value} (h : YsOK xs ys 2) : ∃ (k1 : Nat) (t1 : Tok) (f1 : Int) (k2 : Nat) (t2 : Tok) (f2 : Int), ys = [.int (k1 : Nat) t1, .int (k2 : Nat) t2] ∧ BKey xs k1 ⟨"app", [], 0, f1⟩ ∧ BKey xs k2 ⟨"app", [], 0, f2⟩ := by
  obtain ⟨hl, h2⟩ := h
  obtain ⟨k1, t1, f1, e1, b1⟩ := h2 0 (by decide)
  obtain ⟨k2, t2, f2, e2, b2⟩ := h2 1 (by decide)
  obtain ⟨u, v, rfl⟩ := len_two hl
  cases e1; cases e2; exact ⟨k1, t1, f1, k2, t2, f2, rfl, b1, b2⟩
theorem St0.fresh {prog : Program} {w : World} {b0 b b' : Bk} {X new : Led} {xs0 xs xs' : List (TKey × Addr × Value)} {el yi : Addr} {cell : Addr × Obj} {i j : Nat} (S : St0 prog w b0 b X xs0 xs el yi cell i j) (hB : BOKx prog w b' (new ++ X) xs') (hs : ∀ z ∈ xs, z ∈ xs') (hi : b'.inst = b.inst)
    (h1 : b'.fn.length = b.fn.length + 1) (h2 : b'.fa.length = b.fa.length + 1) (h3 : b'.fr.length = b.fr.length + 1) (h4 : b'.op.length ≤ b.op.length + 1) : St0 prog w b0 b' (new ++ X) xs0 xs' el yi cell (i + 1) (j + 1) :=
  ⟨hB, fun z hz => hs z (S.sub z hz), hi.trans S.inst, by rw [h1, S.fn], by rw [h2, S.fa], by rw [h3, S.fr], by have := S.op; omega, S.el.mono (fun p hp => List.mem_append_right _ hp), List.mem_append_right _ S.cel⟩
theorem St0.made {prog : Program} {w : World} {b0 b b' : Bk} {X new : Led} {xs0 xs xs' : List (TKey × Addr × Value)} {el yi : Addr} {cell : Addr × Obj} {i j : Nat} (S : St0 prog w b0 b X xs0 xs el yi cell i j) (hB : BOKx prog w b' (new ++ X) xs') (hs : ∀ z ∈ xs, z ∈ xs') (hE : BExt b b') (h4 : b'.op.length ≤ b.op.length + 1) : St0 prog w b0 b' (new ++ X) xs0 xs' el yi cell i (j + 1) := by
  obtain ⟨l1, n1, l2, n2, l3, n3, l4, n4, o, rfl⟩ := hE
  exact ⟨hB, fun z hz => hs z (S.sub z hz), S.inst, S.fn, S.fa, S.fr, by have := S.op; omega, S.el.mono (fun p hp => List.mem_append_right _ hp), List.mem_append_right _ S.cel⟩
section
open PyProof.Rows.LCg
variable {prog : Program} {w : World} {A : Around} {E : Value → Shared → Prop} {s : Shared} {h₀ : Heap} {L : Addr} {m : Str → Option Value} {env : Env}
theorem Assign_T {elt iter : PySem.Expr} {x y : Str} {px py : Pos} {scope : Scope} {cl : List (Str × Addr)} {pos spos : Pos} {Q : Flow → Shared → Prop} (_F₀ : Fr h₀ L s.heap m) (hLe : env.locals = L)
    (hsw : swapsWith (.ListComp elt [⟨.Name x px, iter, [], 0⟩] scope pos) (some (.Name y py)) spos.line env = pure true)
    (hclos : closureFor scope env = pure cl) (hcell : ∀ z ∈ scope.names, z.2 ≠ .cell) (hkind : scope.kind = .function)
    (hnames : ∀ z ∈ scope.names, z.2 = .local → scope.names.lookup z.1 = some .local) (hx : scope.names.lookup x = some .local)
    (hy : env.kindOf y = some .local) (hp : (env.scope.kind == .class || (env.scope.kind == .module && env.locals != env.globals)) = false)
    (h : wpAny (model prog w) A (eval iter env) (CompT prog w A h₀ L m env elt x scope cl (fun s₂ => FinA h₀ L m s₂ y Q)) E s)
    (hs : ∀ x, foldedSetIterable iter env x = pure x := by intro _; rfl) :
    wpAny (model prog w) A (exec (.Assign [.Name y py] (.ListComp elt [⟨.Name x px, iter, [], 0⟩] scope pos) spos) env) Q E s := by
  subst hLe
  rw [exec_Assign_Name_used _ _ _ _ hsw]
  refine wpAny_bind (wpAny_standAt (wpAny_bind ?_))
  show wpAny _ A (do let _ ← comprehension (.ListComp elt [⟨.Name x px, iter, [], 0⟩] scope pos) scope env _ (newList []) false (eval iter env) (some (assign (.Name y py) env))) _ _ s
  refine wpAny_bind (wpAny_mono (wpAny_comprehension_free (use := some (assign (.Name y py) env)) (Q := fun _ s' => Q .next s') rfl hs hclos hkind hnames
    (wpAny_mono h (fun xv s₁ h₁ => ?_) fun _ _ e => e)) (fun _ s' hq => wpAny_pure (wpAny_pure hq)) fun _ _ e => e)
  obtain ⟨ax, its, news, rfl, hh, F, N, S, hsz, R⟩ := h₁
  have tup : ∀ {h : Heap} {nw : Led}, News h₀ env.locals h nw → TupIn ax its nw → h.IsTuple ax its.toArray := fun N ⟨_, hm⟩ => ⟨_, (N _ hm).1, rfl, _, rfl⟩
  have ht := tup N S
  have hlt : ax < s₁.heap.objs.size := by obtain ⟨_, e, _⟩ := ht; exact Heap.lt_size e
  refine wpAny_pyIter_tuple ht ?_
  have up : ∀ b o, s₁.heap.get? b = some o → (s₁.heap.push { cls := .type "tuple_iterator", data := .fields #[.ref ax, .int 0 0] }).get? b = some o := fun b o e => Heap.get?_push_of_some _ e
  refine block_U (Walks.tuple hh s₁.heap.objs.size ax (Nat.ne_of_lt hlt) its.toArray) hsz (fun i h st => by obtain ⟨o, e, _⟩ := st.1; exact ⟨o, e⟩)
    (fun i h h' o nw st e e' k N S => ⟨by obtain ⟨o', q, r⟩ := st.1; rw [e] at q; cases q; exact ⟨o, e', r⟩, tup N S⟩) hcell hkind hx ⟨⟨_, Heap.get?_push_size _ rfl, rfl, rfl⟩, ht.push _⟩ (fun b hb => ?_)
    (F.keeps up) (N.grown up) (Nat.ne_of_lt F.ns.lt) (next_is_new F) (fun p hp => Nat.ne_of_lt (Heap.lt_size (N p hp).1)) S (R _ ⟨_, rfl⟩) ?_
  · show b < (s₁.heap.push _).objs.size
    rw [Heap.size_push]
    rcases List.mem_cons.mp hb with rfl | hb
    · exact Nat.lt_succ_self _
    · rw [List.mem_singleton.mp hb]; exact Nat.lt_succ_of_lt hlt
  · intro D C h' tk m' ys news' F' N' o1 hn hC₀ hD₀ hCL hDL hCD offC fin
    show wpAny _ A (assign (.Name y py) env (.ref D)) _ _ _
    refine wpAny_assign_Name (wpAny_storeName_local hy F'.ns (fun h₂ hn₂ hs₂ => ?_) hp)
    have hL₀ : h₀.get? env.locals = none := Heap.get?_none_of_le F'.above
    have F₂ : Fr h₀ env.locals h₂ (fun z => if z = y then some (.ref D) else m z) := ⟨hn₂, fun b o e => hs₂.extBut b o (fun q => by rw [q, hL₀] at e; cases e) (F'.keep b o e), F'.above⟩
    refine ⟨m', hn.sameBut hs₂ hCL, fun h'' hs'' => fin D h'' _ (F₂.change hs'' hCL hC₀) (fun p hp => ?_) o1⟩
    have z : h₂.get? p.1 = some p.2 := hs₂.extBut _ _ (N' p hp).2.1 (N' p hp).1
    refine ⟨hs''.extBut _ _ ?_ z, (N' p hp).2⟩
    rcases List.mem_cons.mp hp with rfl | hp
    · exact Ne.symm hCD
    · exact offC p hp
end
theorem comp_end {w : World} {b : Bk} {y : Sy} {I C D q : Addr × Obj} {T X new : Led} (ND : Nd (bled w b ++ (new ++ (sled w y ++ (I :: C :: D :: q :: (T ++ X)))))) :
    (∀ p ∈ I :: C :: D :: (bled w b ++ (sled w y ++ (q :: (T ++ (new ++ X))))), p ∈ bled w b ++ (new ++ (sled w y ++ (I :: C :: D :: q :: (T ++ X))))) ∧ PyProof.Rows.LCg.Off3 I.1 C.1 D.1 (bled w b ++ (sled w y ++ (q :: (T ++ (new ++ X))))) ∧ Nd (bled w b ++ (sled w y ++ (q :: (T ++ (new ++ X))))) := by
  have p1 : (bled w b ++ (new ++ (sled w y ++ (I :: C :: D :: q :: (T ++ X))))).Perm (bled w b ++ (sled w y ++ ((I :: C :: D :: q :: T) ++ (new ++ X)))) :=
    List.Perm.append_left _ ((List.perm_append_comm_assoc new (sled w y) ((I :: C :: D :: q :: T) ++ X)).trans (List.Perm.append_left _ (List.perm_append_comm_assoc new (I :: C :: D :: q :: T) X)))
  have p2 : (bled w b ++ (sled w y ++ ((I :: C :: D :: q :: T) ++ (new ++ X)))).Perm (I :: C :: D :: (bled w b ++ (sled w y ++ (q :: (T ++ (new ++ X)))))) := canon3.symm
  have p3 := p1.trans p2
  have ND3 := nd_perm ND p3
  have c1 := nd_head ND3
  have ND4 := nd_tail ND3
  have c2 := nd_head ND4
  have ND5 := nd_tail ND4
  have c3 := nd_head ND5
  have ND6 := nd_tail ND5
  exact ⟨fun p hp => p3.mem_iff.mpr hp, PyProof.Rows.LCg.Off3.of fun p hp => ⟨c1 p (List.mem_cons_of_mem _ (List.mem_cons_of_mem _ hp)), c2 p (List.mem_cons_of_mem _ hp), c3 p hp⟩, ND6⟩
section
/- range -/
variable {prog : Program} {w : World} {A : Around} {E : Value → Shared → Prop} {s : Shared} {env : Env} {h₀ : Heap} {body : List Stmt} {Q : Flow → Shared → Prop} {m : Str → Option Value} {news : Led}
/-- what a loop over a range wants, where the ground may turn and the ledger grow -/
inductive RngG (prog : Program) (w : World) (A : Around) (h₀ : Heap) (env : Env) (x : Str) (body : List Stmt) (Q : Flow → Shared → Prop) (E : Value → Shared → Prop) (xv : Value) (s₁ : Shared) : Prop
  | mk (r : Addr) (a₀ b₀ c : Int) (t u v : Tok) (n : Nat) (m : Str → Option Value) (news : Led) (G : Heap → Prop) (J : Nat → (Str → Option Value) → Led → Prop) (e : xv = .ref r) (hh : A.handled = none) (hr : IsRange s₁.heap r a₀ b₀ c t u v) (hsm : Builtin.Range.small a₀ b₀ c = true) (hsz : Builtin.Range.rangeSize a₀ b₀ c = (n : Int)) (F : Fr h₀ env.locals s₁.heap m) (N : News h₀ env.locals s₁.heap news) (hG : G h₀) (hGn : ∀ g b, G g → h₀.get? b = none → g.get? b = none) (h0 : J 0 m news)
    (turn : ∀ i t' m₁ news₁ g h tk I oI, i < n → oI.cls = .type "range_iterator" → J i m₁ news₁ → G g → (∀ p ∈ news₁, p.1 ≠ I) → Fr g env.locals h (fun y => if y = x then some (.int (a₀ + (i : Nat) * c) t') else m₁ y) → News g env.locals h ((I, oI) :: news₁) →
      wpAny (model prog w) A (execs body env) (GEnd G env.locals I oI (J (i + 1)) { s₁ with heap := h, toks := tk } Q) E { s₁ with heap := h, toks := tk })
    (done : ∀ g h' tk m' news', G g → Fr g env.locals h' m' → News g env.locals h' news' → J n m' news' → Q .next { s₁ with heap := h', toks := tk }) : RngG prog w A h₀ env x body Q E xv s₁
theorem For_rngG {x : Str} {px pos : Pos} {iter : Expr} (_F : Fr h₀ env.locals s.heap m) (hx : env.kindOf x = some .local)
    (hp : (env.scope.kind == .class || (env.scope.kind == .module && env.locals != env.globals)) = false)
    (h : wpAny (model prog w) A (eval iter env) (RngG prog w A h₀ env x body Q E) E s)
    (hs : ∀ x, foldedSetIterable iter env x = pure x := by intro _; rfl)
    (hE : PassesOwn (model prog w) A env E := by passes_own) :
    wpAny (model prog w) A (exec (.For (.Name x px) iter body [] pos) env) Q E s := by
  refine wpAny_For (wpAny_mono h (fun xv s₁ h₁ => ?_) fun _ _ e => e) hs
  clear h _F
  obtain ⟨r, a₀, b₀, c, t, u, v, n, m, news, G, J, rfl, hh, hr, hsm, hsz, F, N, hG, hGn, h0, turn, done⟩ := h₁
  have hI0 : h₀.get? s₁.heap.objs.size = none := next_is_new F
  refine wpAny_pyIter_range hr hsm (loopG (St := fun i o => o = { cls := .type "range_iterator", data := .fields #[rawInt (a₀ + (i : Nat) * c), rawInt ((n : Int) - (i : Nat)), rawInt c] }) (Walks.range hh s₁.heap.objs.size a₀ c n) (Nat.ne_of_lt F.ns.lt) (fun g hg => hGn g _ hg hI0) (fun i o g h m hg F e k => by rw [k] at e; exact e) (fun i h e => ⟨_, e, rfl⟩) hx hp hE (fun i v m₁ news₁ g h tk oI hi e k => by obtain ⟨t', rfl⟩ := e; exact turn i t' m₁ news₁ g h tk _ oI hi (by rw [k])) done
    (.mk (i := 0) hG (Heap.get?_push_size _ rfl) (by rw [hsz]; simp) (F.push _) (fun p hp => ⟨Heap.get?_push_of_some _ (N p hp).1, (N p hp).2⟩) (fun p hp => Nat.ne_of_lt (Heap.lt_size (N p hp).1)) h0 (Nat.zero_le _)))
end
theorem Full.start {prog : Program} {w : World} {b0 b : Bk} {y : Sy} {X rest : Led} {xs0 xs : List (TKey × Addr × Value)} {el : Addr} {cell : Addr × Obj} {t : Lw} {j : Nat} (S : St0 prog w b0 b X xs0 xs el y.inst cell 3 j) (hX : ∀ p ∈ X, p ∈ rest) (hyb : y.bk = b0.inst) (h1 : y.br = []) (h2 : y.sc = []) (h3 : y.le = []) (h4 : y.fuO.IsDictOf (PySem.strKind prog w) []) (h5 : (y.fuA == sysModules) = false)
    (g1 : t.bo = []) (g2 : t.br = []) (g3 : t.ma = []) (hst : StateOK prog w t) (hd : DishOK prog w t 0) (hsm : SomeOK b t.sm) : Full prog w b y t rest el [] [] [] xs [] 0 0 := by
  have hin := S.inst
  refine ⟨⟨by rw [hin]; exact S.el.mono hX, by rw [hin]; exact hyb, ⟨by rw [h3]; rfl, fun i kv e => by cases e⟩, ⟨by rw [g1]; rfl, fun i kv e => by cases e⟩, fun kv hk => (by cases hk), h4, h5, trivial, S.bok.mono hX, hst, by rw [g2]; trivial, ⟨by rw [h1]; rfl, fun i z e => by cases e⟩, fun z hz => (by cases hz), by decide, by decide, by rw [S.fn]; decide, by rw [S.fa, S.fn], by rw [S.fr, S.fn], fun q hq => (by cases hq)⟩, hd, ⟨by rw [h2]; rfl, fun i k e => by cases e⟩, ⟨by rw [g3]; rfl, fun i k e => by cases e⟩, List.Pairwise.nil, fun k hk => (by cases hk), hsm, Nat.le_refl _, Nat.le_refl _, by rw [S.fn]; decide, Nat.le_refl _, by decide, by decide⟩
theorem someOK {b : Bk} {r : Led} {prog : Program} {w : World} {xs : List (TKey × Addr × Value)} (H : BOKx prog w b r xs) {k1 k2 k3 k4 k5 : Nat} {t1 t2 t3 t4 t5 : Tok} {q1 q2 q3 q4 q5 : TKey} (h1 : BKey xs k1 q1) (h2 : BKey xs k2 q2) (h3 : BKey xs k3 q3) (h4 : BKey xs k4 q4) (h5 : BKey xs k5 q5) :
    SomeOK b [.int (k1 : Nat) t1, .int (k2 : Nat) t2, .int (k3 : Nat) t3, .int (k4 : Nat) t4, .int (k5 : Nat) t5] := by
  refine ⟨rfl, fun i hi => ?_⟩
  have hi5 : i < 5 := hi
  clear hi
  obtain rfl | rfl | rfl | rfl | rfl : i = 0 ∨ i = 1 ∨ i = 2 ∨ i = 3 ∨ i = 4 := by omega
  · exact ⟨k1, t1, rfl, (h1.term H).1, (h1.term H).2.1⟩
  · exact ⟨k2, t2, rfl, (h2.term H).1, (h2.term H).2.1⟩
  · exact ⟨k3, t3, rfl, (h3.term H).1, (h3.term H).2.1⟩
  · exact ⟨k4, t4, rfl, (h4.term H).1, (h4.term H).2.1⟩
  · exact ⟨k5, t5, rfl, (h5.term H).1, (h5.term H).2.1⟩
theorem nd_front {h₀ h : Heap} {L x : Addr} {o : Obj} {l : Led} (_N : News h₀ L h ((x, o) :: l)) (ND : Nd l) (hx : ∀ p ∈ l, p.1 < x) : Nd ((x, o) :: l) := nd_cons ND hx
/-- all facts that do not lean on a range's iterator -/
noncomputable def DropS (r r' : Led) : Prop := ∀ p ∈ r, p.2.cls ≠ .type "range_iterator" → p ∈ r'
section
variable {prog : Program} {w : World} {r r' : Led}
theorem DropS.tup (hs : DropS r r') {a : Addr} {vs : List Value} {n : Nat} (h : (a, tupOf vs n) ∈ r) : (a, tupOf vs n) ∈ r' := hs _ h (by show Value.type "tuple" ≠ Value.type "range_iterator"; intro e; injection e with e; exact absurd e (by decide))
theorem DropS.dict (hs : DropS r r') {a : Addr} {es : List DictEntry} {n : Nat} (h : (a, dictOf es n) ∈ r) : (a, dictOf es n) ∈ r' := hs _ h (by show Value.type "dict" ≠ Value.type "range_iterator"; intro e; injection e with e; exact absurd e (by decide))
theorem DropS.ins (hs : DropS r r') {a c d : Addr} (h : (a, instObj c d) ∈ r) : (a, instObj c d) ∈ r' := hs _ h (by show Value.ref c ≠ Value.type "range_iterator"; intro e; cases e)
theorem DropS.isDict (hs : DropS r r') {a : Addr} {o : Obj} {kvs : List (Str × Value)} (h : (a, o) ∈ r) (hd : o.IsDictOf (PySem.strKind prog w) kvs) : (a, o) ∈ r' := hs _ h (by
  obtain ⟨es, ep, h1, h2⟩ := hd
  show o.cls ≠ _
  rw [h1.1]
  intro e; injection e with e; exact absurd e (by decide))
theorem TupL.drop {a : Addr} {ks : List Int} (h : TupL r a ks) (hs : DropS r r') : TupL r' a ks := (by obtain ⟨vs, n, hm, hi⟩ := h; exact ⟨vs, n, hs.tup hm, hi⟩)
theorem TKeyL.drop {k : TKey} {a : Addr} (h : TKeyL r k a) (hs : DropS r r') : TKeyL r' k a := (by obtain ⟨t1, c, t3, t4, n, hm, hi⟩ := h; exact ⟨t1, c, t3, t4, n, hs.tup hm, hi.drop hs⟩)
theorem ElAt.drop {el b y : Addr} (h : ElAt w r el b y) (hs : DropS r r') : ElAt w r' el b y := (by obtain ⟨d, n, t0, t1, t2, sr, h1, h2⟩ := h; exact ⟨d, n, t0, t1, t2, sr, hs.ins h1, hs.dict h2⟩)
theorem EntK.drop {b : Bk} {kind val : Nat} {its : List Value} {bo : Int} {v0 : Value} (h : EntK b r kind val its bo v0) (hs : DropS r r') : EntK b r' kind val its bo v0 := by
  cases h with
  | args v h1 h2 => exact .args v h1 h2
  | body h1 h2 h3 h4 => exact .body h1 h2 h3 h4
  | const tf aA an t5 g1 g2 g3 g4 g5 g6 g7 g8 => exact .const tf aA an t5 g1 g2 g3 g4 g5 g6 (hs.tup g7) g8
theorem EntAt.drop {b : Bk} {en : Addr} {kind val : Nat} (h : EntAt w b r en kind val) (hs : DropS r r') : EntAt w b r' en kind val := by
  cases h with
  | mk j t0 t1 t2 t3 t4 v0 sA v2 v3 bo tb n its sn h1 h2 h3 h5 => exact .mk j t0 t1 t2 t3 t4 v0 sA v2 v3 bo tb n its sn (hs.ins h1) (hs.dict h2) (hs.tup h3) (h5.drop hs)
theorem LetsOK.drop {le : List Value} {ts : List (List (Str × Value))} (h : LetsOK prog w r le ts) (hs : DropS r r') : LetsOK prog w r' le ts :=
  ⟨h.1, fun i kvs e => (by obtain ⟨d, o, h1, h2, h3, h4⟩ := h.2 i kvs e; exact ⟨d, o, h1, hs.isDict h2 h4, h3, h4⟩)⟩
theorem FunsOK.drop {b : Bk} (hs : DropS r r') : ∀ {kvs : List (Str × Value)} {bs : List (Str × Nat × Nat)}, FunsOK w b r kvs bs → FunsOK w b r' kvs bs
  | [], [], _ => trivial
  | (_, _) :: _, (_, _, _) :: _, ⟨h1, ⟨en, h2, h3⟩, h4⟩ => ⟨h1, ⟨en, h2, h3.drop hs⟩, FunsOK.drop hs h4⟩
  | [], _ :: _, h => h.elim
  | _ :: _, [], h => h.elim
theorem BOKx.drop {b : Bk} {xs : List (TKey × Addr × Value)} (h : BOKx prog w b r xs) (hs : DropS r r') : BOKx prog w b r' xs :=
  ⟨h.hd, fun x hx => (h.keys x hx).drop hs, fun x hx => (by obtain ⟨n, t, e, p, ⟨u1, u2, ⟨ua, u3, u4⟩, u5, u6⟩⟩ := h.vals x hx; exact ⟨n, t, e, p, ⟨u1, u2, ⟨ua, u3, u4.drop hs⟩, u5, u6⟩⟩), h.lo, h.len, h.lar, h.lso, h.lda, h.pos⟩
theorem RowsOK.drop (hs : DropS r r') : ∀ {l : List Value} {x : List (Str × Nat × Nat)}, RowsOK r l x → RowsOK r' l x
  | [], [], _ => trivial
  | _ :: _, (_, _, _) :: _, ⟨⟨a, t1, t2, t3, c, h1, h2⟩, h⟩ => ⟨⟨a, t1, t2, t3, c, h1, hs.tup h2⟩, RowsOK.drop hs h⟩
  | [], _ :: _, h => h.elim
  | _ :: _, [], h => h.elim
theorem BrOK.drop {br : List Value} {ns : List Str} (h : BrOK r br ns) (hs : DropS r r') : BrOK r' br ns := ⟨h.1, fun i x e => (by obtain ⟨a, t1, t2, n, h1, h2⟩ := h.2 i x e; exact ⟨a, t1, t2, n, h1, hs.tup h2⟩)⟩
theorem Inv.drop {b : Bk} {y : Sy} {t : Lw} {el : Addr} {ts : List (List (Str × Value))} {kvs : List (Str × Value)} {bs : List (Str × Nat × Nat)} {xs : List (TKey × Addr × Value)} (I : Inv prog w b y t r el ts kvs bs xs) (hs : DropS r r') : Inv prog w b y t r' el ts kvs bs xs :=
  ⟨I.el.drop hs, I.bk, I.lets.drop hs, I.letsB.drop hs, I.pos, I.fu, I.lo, FunsOK.drop hs I.funs, I.bok.drop hs, I.st, RowsOK.drop hs I.rows, I.bro.drop hs, I.names, I.tl, I.kl, I.fl, I.fl2, I.fl3, I.kinds⟩
end
theorem dropS_mid {n X : Led} {I : Addr} {oI : Obj} (h : oI.cls = .type "range_iterator") : DropS (n ++ ((I, oI) :: X)) (n ++ X) := fun p hp hc => by
  rcases List.mem_append.mp hp with hp | hp
  · exact List.mem_append_left _ hp
  · rcases List.mem_cons.mp hp with rfl | hp
    · exact absurd h hc
    · exact List.mem_append_right _ hp
/-- behind the questions of a turn -/
theorem Full.told {prog : Program} {w : World} {b b' : Bk} {y : Sy} {t : Lw} {rest rest' : Led} {el : Addr} {ts : List (List (Str × Value))} {kvs : List (Str × Value)} {bs : List (Str × Nat × Nat)} {xs xs' : List (TKey × Addr × Value)} {ks : List Nat} {kd n : Nat} (I : Full prog w b y t rest el ts kvs bs xs ks kd n) (V : Inv prog w b' y t rest' el ts kvs bs xs') (hfn : b'.fn = b.fn) (hop : b.op.length ≤ b'.op.length) :
    Full prog w b' y t rest' el ts kvs bs xs' ks kd n :=
  ⟨V, I.dish, I.sc, I.ma, I.asc, I.le, ⟨I.sm.1, fun i hi => (by obtain ⟨k, t, h1, h2, h3⟩ := I.sm.2 i hi; exact ⟨k, t, h1, h2, Nat.lt_of_lt_of_le h3 hop⟩)⟩, I.b1, I.b2, by rw [hfn]; exact I.b3, I.b4, I.b5, I.hn⟩
theorem Full.scraped {prog : Program} {w : World} {b : Bk} {y : Sy} {t : Lw} {rest : Led} {el : Addr} {ts : List (List (Str × Value))} {kvs : List (Str × Value)} {bs : List (Str × Nat × Nat)} {xs : List (TKey × Addr × Value)} {ks : List Nat} {kd n : Nat} (I : Full prog w b y t rest el ts kvs bs xs ks kd n) {o : Obj} (hd : DishOK prog w { t with diO := o } (kd + 1)) (hk : kd + 1 ≤ 10 + 4 * n) :
    Full prog w b y { t with diO := o } rest el ts kvs bs xs ks (kd + 1) n :=
  ⟨I.inv.diO o, hd, I.sc, I.ma, I.asc, I.le, I.sm, I.b1, I.b2, I.b3, I.b4, hk, I.hn⟩
theorem begin_all {prog : Program} {w : World} {b0 b : Bk} {y : Sy} {h₀ h : Heap} {L dA D dS boA brA maA smA : Addr} {o5 oS : Obj} {l3 d2 tq : Addr × Obj} {X : Led} {ce sml : List Value} {cn n1 n2 n3 n4 : Nat} {xs0 xs : List (TKey × Addr × Value)} {el : Addr} {cell : Addr × Obj} {j : Nat} {ta : Tok} {zs : List Int}
    (N : News h₀ L h ((smA, listOf sml.toArray n4) :: (bled w b ++ (sled w y ++ (l3 :: d2 :: tq :: (sixOf (dA, o5) (D, listOf ce.toArray cn) (dS, oS) (boA, listOf ([] : List Value).toArray n1) (brA, listOf ([] : List Value).toArray n2) (maA, listOf ([] : List Value).toArray n3) ++ X))))))
    (ND : Nd ((smA, listOf sml.toArray n4) :: (bled w b ++ (sled w y ++ (l3 :: d2 :: tq :: (sixOf (dA, o5) (D, listOf ce.toArray cn) (dS, oS) (boA, listOf ([] : List Value).toArray n1) (brA, listOf ([] : List Value).toArray n2) (maA, listOf ([] : List Value).toArray n3) ++ X))))))
    (S : St0 prog w b0 b X xs0 xs el y.inst cell 3 j) (hyb : y.bk = b0.inst) (h1 : y.br = []) (h2 : y.sc = []) (h3 : y.le = []) (h4 : y.fuO.IsDictOf (PySem.strKind prog w) []) (h5 : (y.fuA == sysModules) = false)
    (hst : oS.IsDictOf (PySem.strKind prog w) [(Str.ofString "bound", .ref boA), (Str.ofString "brought", .ref brA), (Str.ofString "marks", .ref maA)]) (hst2 : (dS == sysModules) = false)
    (hd : o5.IsDictOf (PySem.strKind prog w) [(Str.ofString "cells", .ref D), (Str.ofString "at", .int 0 ta)]) (hd2 : (dA == sysModules) = false) (hz : IntsAre ce zs) (hcl : ce.length < 900) (hsm : SomeOK b sml) :
    ∃ t rest, t.diA = dA ∧ t.stA = dS ∧ t.smA = smA ∧ News h₀ L h (bled w b ++ (sled w y ++ (tled t ++ rest))) ∧ Nd (bled w b ++ (sled w y ++ (tled t ++ rest))) ∧ Full prog w b y t rest el [] [] [] xs [] 0 0 ∧ cell ∈ rest := by
  let t : Lw := ⟨dA, o5, D, ce, cn, dS, oS, boA, [], n1, brA, [], n2, maA, [], n3, smA, sml, n4⟩
  have q : ((smA, listOf sml.toArray n4) :: (bled w b ++ (sled w y ++ (l3 :: d2 :: tq :: (sixOf (dA, o5) (D, listOf ce.toArray cn) (dS, oS) (boA, listOf ([] : List Value).toArray n1) (brA, listOf ([] : List Value).toArray n2) (maA, listOf ([] : List Value).toArray n3) ++ X))))).Perm (bled w b ++ (sled w y ++ (tled t ++ (l3 :: d2 :: tq :: X)))) := by
    refine canon1.trans (List.Perm.append_left _ (List.Perm.append_left _ ?_))
    show ([(smA, listOf sml.toArray n4), l3, d2, tq] ++ ([(dA, o5), (D, listOf ce.toArray cn), (dS, oS), (boA, listOf ([] : List Value).toArray n1), (brA, listOf ([] : List Value).toArray n2), (maA, listOf ([] : List Value).toArray n3)] ++ X)).Perm _
    exact List.perm_append_comm_assoc _ _ _
  have hsub : ∀ p ∈ X, p ∈ l3 :: d2 :: tq :: X := fun p hp => List.mem_cons_of_mem _ (List.mem_cons_of_mem _ (List.mem_cons_of_mem _ hp))
  exact ⟨t, l3 :: d2 :: tq :: X, rfl, rfl, rfl, news_perm N q, nd_perm ND q, Full.start (t := t) S hsub hyb h1 h2 h3 h4 h5 rfl rfl rfl ⟨hst, hst2⟩ ⟨⟨ta, hd⟩, hd2, ⟨zs, hz⟩, hcl⟩ hsm, hsub _ S.cel⟩
theorem rng8 {z : Nat} : Builtin.Range.rangeSize 0 (8 + (z : Int)) 1 = ((8 + z : Nat) : Int) := by
  rw [rangeSize_pos (by omega) (by omega)]
  simp
theorem fr_back {h₀ g h : Heap} {L : Addr} {m : Str → Option Value} (T : KtsTurn [] h₀ g) (F : Fr g L h m) : Fr h₀ L h m := ⟨F.ns, fun b o e => F.keep b o (T.other b o e (by simp)), by have := T.size; have q := F.above; omega⟩
theorem news_back {h₀ g h : Heap} {L : Addr} {l : Led} (T : KtsTurn [] h₀ g) (N : News g L h l) : News h₀ L h l := fun p hp => ⟨(N p hp).1, (N p hp).2.1, by
  cases q : h₀.get? p.1 with
  | none => rfl
  | some o =>
    have q2 := T.other _ _ q (by simp)
    rw [(N p hp).2.2] at q2
    cases q2⟩
theorem Full.drop {prog : Program} {w : World} {b : Bk} {y : Sy} {t : Lw} {r r' : Led} {el : Addr} {ts : List (List (Str × Value))} {kvs : List (Str × Value)} {bs : List (Str × Nat × Nat)} {xs : List (TKey × Addr × Value)} {ks : List Nat} {kd n : Nat} (I : Full prog w b y t r el ts kvs bs xs ks kd n) (hs : DropS r r') : Full prog w b y t r' el ts kvs bs xs ks kd n :=
  ⟨I.inv.drop hs, I.dish, I.sc, I.ma, I.asc, I.le, I.sm, I.b1, I.b2, I.b3, I.b4, I.b5, I.hn⟩
/-- what holds between the law's turns -/
noncomputable def LapJ (prog : Program) (w : World) (b0 : Bk) (y0 : Sy) (t0 : Lw) (el : Addr) (cell : Addr × Obj) (i : Nat) (m₁ : Str → Option Value) (news₁ : Led) : Prop :=
  m₁ "dish" = some (.ref t0.diA) ∧ m₁ "symbols" = some (.ref y0.inst) ∧ m₁ "reader" = some (.ref el) ∧ m₁ "state" = some (.ref t0.stA) ∧ m₁ "some" = some (.ref t0.smA) ∧
  ∃ b y t rest ts kvs bs xs ks kd, news₁ = bled w b ++ (sled w y ++ (tled t ++ rest)) ∧ Nd news₁ ∧ Full prog w b y t rest el ts kvs bs xs ks kd i ∧ b.op.length ≤ 8 + 10 * i ∧ b.inst = b0.inst ∧ y.inst = y0.inst ∧ t.diA = t0.diA ∧ t.stA = t0.stA ∧ t.smA = t0.smA ∧ cell ∈ rest
theorem GEnd.canonM {G : Heap → Prop} {L I : Addr} {oI : Obj} {J : (Str → Option Value) → Led → Prop} {s : Shared} {Q : Flow → Shared → Prop} {g' h' : Heap} {tk : Nat} {m' : Str → Option Value} {A B T n Y : Led} (hG : G g') (F : Fr g' L h' m') (N : News g' L h' (A ++ (B ++ (T ++ (n ++ ((I, oI) :: Y)))))) (ND : Nd (A ++ (B ++ (T ++ (n ++ ((I, oI) :: Y))))))
    (j : Nd (A ++ (B ++ (T ++ (n ++ Y)))) → J m' (A ++ (B ++ (T ++ (n ++ Y))))) : GEnd G L I oI J s Q .next { s with heap := h', toks := tk } := by
  have p : ((I, oI) :: (A ++ (B ++ (T ++ (n ++ Y))))).Perm (A ++ (B ++ (T ++ (n ++ ((I, oI) :: Y))))) :=
    canonT1.trans (List.Perm.append_left _ (List.Perm.append_left _ (List.Perm.append_left _ List.perm_middle.symm)))
  exact GEnd.intro hG F (news_perm N p.symm) (nd_head (nd_perm ND p.symm)) (j (nd_tail (nd_perm ND p.symm)))
theorem Full.front {prog : Program} {w : World} {b : Bk} {y : Sy} {t : Lw} {rest : Led} {el : Addr} {ts : List (List (Str × Value))} {kvs : List (Str × Value)} {bs : List (Str × Nat × Nat)} {xs : List (TKey × Addr × Value)} {ks : List Nat} {kd n : Nat} (p : Addr × Obj) (I : Full prog w b y t rest el ts kvs bs xs ks kd n) : Full prog w b y t (p :: rest) el ts kvs bs xs ks kd n :=
  I.told (rest' := p :: rest) (I.inv.grow (new := [p]) (.refl b) (I.inv.bok.mono (sub_left (n := [p])))) rfl (Nat.le_refl _)
theorem lap_next {prog : Program} {w : World} {b0 b3 b4 : Bk} {y0 y3 : Sy} {t0 t3 : Lw} {el I : Addr} {oI : Obj} {cell : Addr × Obj} {i : Nat} {m : Str → Option Value} {rest2 nw3 new4 : Led} {ts : List (List (Str × Value))} {kvs : List (Str × Value)} {bs : List (Str × Nat × Nat)} {xs xs' : List (TKey × Addr × Value)} {ks : List Nat} {kd : Nat}
    (ND : Nd (bled w b4 ++ (sled w y3 ++ (tled t3 ++ ((new4 ++ nw3) ++ rest2))))) (hI : oI.cls = .type "range_iterator") (HF : Full prog w b3 y3 t3 (nw3 ++ ((I, oI) :: rest2)) el ts kvs bs xs ks kd (i + 1)) (V : Inv prog w b4 y3 t3 (new4 ++ (nw3 ++ ((I, oI) :: rest2))) el ts kvs bs xs') (hfn : b4.fn = b3.fn)
    (hop : b3.op.length ≤ 8 + 10 * i) (hop1 : b3.op.length ≤ b4.op.length) (hop2 : b4.op.length ≤ b3.op.length + 10) (hb : b4.inst = b0.inst) (hy : y3.inst = y0.inst) (e1 : t3.diA = t0.diA) (e2 : t3.stA = t0.stA) (e3 : t3.smA = t0.smA) (hc : cell ∈ rest2)
    (m1 : m "dish" = some (.ref t3.diA)) (m2 : m "symbols" = some (.ref y3.inst)) (m3 : m "reader" = some (.ref el)) (m4 : m "state" = some (.ref t3.stA)) (m5 : m "some" = some (.ref t3.smA)) :
    LapJ prog w b0 y0 t0 el cell (i + 1) m (bled w b4 ++ (sled w y3 ++ (tled t3 ++ ((new4 ++ nw3) ++ rest2)))) := by
  have V2 := HF.told V hfn hop1
  rw [← List.append_assoc] at V2
  have V3 := V2.drop (dropS_mid (n := new4 ++ nw3) (X := rest2) hI)
  exact ⟨by rw [m1, e1], by rw [m2, hy], m3, by rw [m4, e2], by rw [m5, e3], b4, y3, t3, _, ts, kvs, bs, xs', ks, kd, rfl, ND, V3, by omega, hb, hy, e1, e2, e3, List.mem_append_right _ hc⟩
theorem ldC {M : Model} {A : Around} {E : Value → Shared → Prop} {s : Shared} {name : Str} {scope : Scope} {L a : Addr} {cd : Value} {h₀ : Heap} {m : Str → Option Value} {x : Str} {pos : Pos} {v : Value} {Q : Value → Shared → Prop} (F : Fr h₀ L s.heap m) (hv : m x = some v) (h : Q v s)
    (hk : scope.kind = .function := by rfl) (hl : (envOfC name scope L a cd).kindOf x = some .local := by rfl)
    (hd : (x == ("__debug__" : Str)) = false := by decide) :
    wpAny M A (eval (.Name x pos) (envOfC name scope L a cd)) Q E s := wpAny_Name (wpAny_loadName_local hk hl F.ns hv h) hd
theorem fr_dicts {h₀ h : Heap} {L : Addr} {m : Str → Option Value} (_F : Fr h₀ L h m) : KtsDicts (List.filterMap (fun x => x.frame) ([] : List Env)) h₀ := ktsDicts_nil
theorem news_regroup {h₀ h : Heap} {L : Addr} {A B T n1 n2 Y : Led} (N : News h₀ L h (A ++ (B ++ (T ++ (n1 ++ (n2 ++ Y)))))) : News h₀ L h (A ++ (B ++ (T ++ ((n1 ++ n2) ++ Y)))) := by rw [List.append_assoc n1 n2 Y]; exact N
theorem nd_regroup {A B T n1 n2 Y : Led} (N : Nd (A ++ (B ++ (T ++ (n1 ++ (n2 ++ Y)))))) : Nd (A ++ (B ++ (T ++ ((n1 ++ n2) ++ Y)))) := by rw [List.append_assoc n1 n2 Y]; exact N
end Mine
end
section
-- SI
namespace Mine
section
variable {prog : Program} {w : World} {A : Around} {E : Value → Shared → Prop} {s : Shared} {h₀ : Heap} {L d : Addr} {news : Led} {o : Obj} {kvs : List (Str × Value)} {k : Str} {key : Value}
theorem kda_notin {Q : Value → Shared → Prop} (N : News h₀ L s.heap news) (hp : (d, o) ∈ news) (hd : o.IsDictOf (PySem.strKind prog w) kvs) (lo : (d == sysModules) = false) (hkey : (PySem.strKind prog w).is k key = true) (b : Bool) (hb : (valueAt kvs k).isSome = b) (h : Q (.bool (!b)) { s with toks := s.toks + 1 }) :
    wpAny (model prog w) A (compareOp .NotIn key (.ref d)) Q E s := wpAny_notIn_of hkey lo (kda_dict N hp hd).mapOf (by rw [hb]; exact h)
end
end Mine
end
section
-- ZD
namespace Mine
theorem zd_getattr_none : typeLookup (.type "zip") "__getattr__" = pure none := by rw [typeLookup_type, builtinLookup_eq_fast]; kernel_rfl
theorem zd_entry_ga : entryFor table "zip.__getattribute__" = some Builtin.«object.__getattribute__» :=
  entryFor_alias (id' := "object.__getattribute__") (by rw [fastTable_eq_tree]; kernel_rfl) (by decide +kernel) (by decide +kernel) (by rw [fastTable_eq_tree]; kernel_rfl)
theorem zd_keys_none : typeLookup (.type "zip") "keys" = pure none := by rw [typeLookup_type, builtinLookup_eq_fast]; kernel_rfl
theorem zd_meets (a : Addr) (fs : Array Value) (u : Tok) :
    Meets (Builtin.«object.__getattribute__» ⟨[.ref a, .str "keys" u], []⟩) (fun A R s => s.heap.get? a = some { cls := .type "zip", dict := none, data := .fields fs, slots := #[] } ∧ raisesAttr (.ref a) "keys" A R s) :=
  Meets.of_wp fun prog w A R s hs => by
    obtain ⟨hp, g, d, tk, os⟩ := s
    obtain ⟨hx, hs⟩ := hs
    have hmiss := zd_keys_none
    have hname : (["__module__", "__name__", "__qualname__", "__doc__", "__annotations__"] : List Str).contains "keys" = false := by decide
    have hT : (⟨hp, g, d, tk, os⟩ : Shared).TypeIs (.ref a) "zip" := ⟨_, hx, rfl⟩
    unfold Builtin.«object.__getattribute__»
    with_reducible refine wpAny_bind ?_
    wp_delta
    with_reducible apply wpAny_ite_false
    · rfl
    with_reducible apply wpAny_ite_false
    · rfl
    with_reducible (refine wpAny_pure ?_; refine wpAny_bind ?_)
    wp_delta
    with_reducible (refine wpAny_pure ?_; refine wpAny_bind ?_; refine wpAny_typeOf (by assumption) ?_; refine wpAny_bind ?_)
    wp_delta
    with_reducible (refine wpAny_bind ?_; refine wpAny_of_eq (by assumption) ?_; refine wpAny_bind ?_)
    wp_delta
    with_reducible (refine wpAny_pure ?_; refine wpAny_bind ?_)
    wp_delta
    with_reducible refine wpAny_pure ?_
    wp_delta
    wp_delta
    with_reducible refine wpAny_bind ?_
    wp_delta
    with_reducible refine wpAny_bind ?_
    wp_delta
    with_reducible refine wpAny_bind ?_
    wp_delta
    with_reducible apply wpAny_loadPart'
    · heap_get
    wp_delta
    wp_delta
    with_reducible refine wpAny_bind ?_
    with_reducible apply wpAny_loadPart'
    · heap_get
    with_reducible apply wpAny_ite_true
    · rfl
    with_reducible refine wpAny_pure ?_
    wp_delta
    with_reducible (refine wpAny_pure ?_; refine wpAny_bind ?_)
    wp_delta
    with_reducible apply wpAny_ite_false
    · rfl
    with_reducible refine wpAny_pure ?_
    wp_delta
    with_reducible (refine wpAny_bind ?_; refine wpAny_rule ?_; refine wpAny_pure ?_)
    with_reducible apply wpAny_ite_false
    · rfl
    with_reducible apply wpAny_ite_false
    · rfl
    wp_delta
    wp_delta
    with_reducible refine wpAny_bind ?_
    wp_delta
    with_reducible refine wpAny_bind ?_
    wp_delta
    with_reducible (refine wpAny_bind ?_; refine wpAny_typeOf (by assumption) ?_)
    with_reducible apply wpAny_ite_false
    · rfl
    with_reducible refine wpAny_pure ?_
    wp_delta
    wp_delta
    with_reducible refine wpAny_pure ?_
    skip
    exact wpAny_raiseAttrError hs.1 hs.2 (attrMsg_fits (by decide +kernel) (by size_fits))
section
variable {prog : Program} {w : World} {A : Around} {E : Value → Shared → Prop} {s : Shared}
theorem zd_keys {a : Addr} {fs : Array Value} {Q : Option Value → Shared → Prop} (hx : s.heap.get? a = some { cls := .type "zip", dict := none, data := .fields fs, slots := #[] }) (hA : A.handled = none)
    (h : ∀ h' tk, (∀ b o, s.heap.get? b = some o → h'.get? b = some o) → Q none { s with heap := h', toks := tk }) :
    wpAny (model prog w) A (getAttr? (.ref a) "keys") Q E s := by
  obtain ⟨hp, g, d, tk, os⟩ := s
  have hT : ∀ tk', (⟨hp, g, d, tk', os⟩ : Shared).TypeIs (.ref a) "zip" := fun _ => ⟨_, hx, rfl⟩
  have f1 := sub_AttributeError
  have f3 := F.slot_zip_getattribute.lookup
  have f4 := F.slot_zip_getattribute.bind (.ref a)
  have f5 := zd_getattr_none
  unfold getAttr? getAttrBy? getAttrBy
  with_reducible refine wpAny_bind ?_
  wp_delta
  with_reducible (refine wpAny_bind ?_; refine wpAny_fresh' ?_; refine wpAny_pure ?_; refine wpAny_bind ?_; refine wpAny_attempt ?_; refine wpAny_holding ?_; refine wpAny_bind ?_)
  wp_delta
  with_reducible refine wpAny_bind ?_
  with_reducible apply wpAny_loadPart'
  · heap_get
  with_reducible (refine wpAny_pure ?_; refine wpAny_bind ?_; refine wpAny_of_eq (by assumption) ?_)
  with_reducible apply wpAny_ite_false
  · rfl
  wp_delta
  with_reducible refine wpAny_bind ?_
  wp_delta
  with_reducible apply wpAny_ite_false
  · rfl
  with_reducible (refine wpAny_pure ?_; refine wpAny_bind ?_; refine wpAny_attempt ?_; refine wpAny_holding ?_)
  wp_delta
  with_reducible apply wpAny_ite_false
  · rfl
  wp_delta
  with_reducible (refine wpAny_bind ?_; refine wpAny_of_eq (by assumption) ?_)
  (with_reducible show wpAny _ _ (call (Value.builtin "zip.__getattribute__") _ _) _ _ _); refine call_meets F.slot_zip_getattribute (hT _) zd_entry_ga (F.args_zip_getattribute_2 _ _) (zd_meets a fs _) ⟨hx, hA, fun h' tk' e hx' => ?_⟩
  obtain ⟨t', u', he⟩ := hx'.there
  show wpAny _ _ (getattributeRaised _ _ _ _ _ _ _) _ _ _
  unfold getattributeRaised
  with_reducible refine wpAny_bind ?_
  wp_delta
  with_reducible refine wpAny_bind ?_
  wp_delta
  with_reducible refine wpAny_bind ?_
  with_reducible apply wpAny_loadPart'
  · heap_get
  with_reducible (refine wpAny_pure ?_; refine wpAny_of_eq (by assumption) ?_)
  with_reducible apply wpAny_ite_true
  · rfl
  with_reducible refine wpAny_bind ?_
  wp_delta
  with_reducible apply wpAny_ite_false
  · rfl
  with_reducible refine wpAny_of_eq (by assumption) ?_
  wp_delta
  wp_delta
  with_reducible apply wpAny_ite_true
  · rfl
  with_reducible (refine wpAny_bind ?_; refine wpAny_throw ?_; refine wpAny_bind ?_)
  wp_delta
  with_reducible refine wpAny_bind ?_
  wp_delta
  with_reducible refine wpAny_bind ?_
  with_reducible apply wpAny_loadPart'
  · heap_get
  with_reducible (refine wpAny_pure ?_; refine wpAny_of_eq (by assumption) ?_)
  with_reducible apply wpAny_ite_true
  · rfl
  with_reducible refine wpAny_pure ?_
  exact h _ _ hx'.keeps
end
end Mine
end
section
-- ZD2
namespace Mine
section
variable {prog : Program} {w : World} {A : Around} {E : Value → Shared → Prop} {s : Shared}
theorem zd_alive {a : Addr} {Q : Option Obj → Shared → Prop} (h : Q (s.heap.get? a) s) : wpAny (model prog w) A (loadIfAlive a) Q E s := fun Γ p _ => by
  show Sem.wp _ _ (Sem.loadIfAlive a .pure) _ _ _ _
  rw [Sem.wp_loadIfAlive]
  exact h
noncomputable abbrev ZipAt (h : Heap) (z TI TO : Addr) (f0 : Value) (f1 : Bool) : Prop :=
  h.get? z = some { cls := .type "zip", dict := none, data := .fields #[f0, .bool f1, .bool false, .ref TI, .ref TO], slots := #[] }
theorem zd_free {z TI TO T : Addr} {f : Bool} {oT : Obj} {Q : Bool → Shared → Prop} (hz : ZipAt s.heap z TI TO (rawInt (T : Nat)) f) (hT : s.heap.get? T = some oT)
    (h : ∀ h', ZipAt h' z TI TO (rawInt (T : Nat)) true → Heap.SameBut z s.heap h' → Q false { s with heap := h' }) :
    wpAny (model prog w) A (Builtin.SmallTypes.ownedTupleIsFree (.ref z)) Q E s := by
  unfold Builtin.SmallTypes.ownedTupleIsFree
  refine wpAny_bind (wpAny_field hz rfl (x := rawInt (T : Nat)) rfl ?_)
  show wpAny _ _ (loadIfAlive T >>= _) _ _ _
  refine wpAny_bind (zd_alive ?_)
  rw [hT]
  simp only [Option.isNone_some, Bool.false_eq_true, if_false]
  refine wpAny_bind (wpAny_field hz rfl (x := .bool f) rfl ?_)
  cases f with
  | true =>
    rw [if_neg (by decide)]
    exact wpAny_pure (h _ hz (Heap.SameBut.refl _ _))
  | false =>
    rw [if_pos (by decide)]
    refine wpAny_bind (wpAny_setField_rec hz (by simp) fun h₁ hz₁ hs₁ => ?_)
    exact wpAny_pure (h _ hz₁ hs₁)
theorem zd_item {z TI TO i1 i2 l1 l2 T : Addr} {f : Bool} {oT : Obj} {k1 k2 : Nat} {xs ys : Array Value} {x y : Value} {Q : Value → Shared → Prop} (D : ZipApart z TI TO i1 i2 l1 l2)
    (hz : ZipAt s.heap z TI TO (rawInt (T : Nat)) f) (hT : s.heap.get? T = some oT) (hTI : IsPair s.heap TI (.ref i1) (.ref i2))
    (h1 : s.heap.IsListIter i1 l1 k1) (h2 : s.heap.IsListIter i2 l2 k2) (hl1 : s.heap.IsList l1 xs) (hl2 : s.heap.IsList l2 ys) (hx : xs[k1]? = some x) (hy : ys[k2]? = some y)
    (hQ : ∀ h', ZipAt h' z TI TO (rawInt (T : Nat)) true → h'.IsListIter i1 l1 (k1 + 1) → h'.IsListIter i2 l2 (k2 + 1) → IsPair h' s.heap.objs.size x y → h'.objs.size = s.heap.objs.size + 1 →
      (∀ c o, c ≠ z → c ≠ i1 → c ≠ i2 → s.heap.get? c = some o → h'.get? c = some o) → Q (.ref s.heap.objs.size) { s with heap := h' }) :
    wpAny (model prog w) A (Builtin.«zip.__next__» ⟨[.ref z], []⟩) (fun fin s' => ∃ v, fin = .done (.ret v) ∧ Q v s') E s := by
  show wpAny _ _ (field (.ref z) 2 >>= _) _ _ _
  refine wpAny_bind (wpAny_field hz rfl (x := .bool false) rfl ?_)
  show wpAny _ _ (field (.ref z) 3 >>= _) _ _ _
  refine wpAny_bind (wpAny_field hz rfl (x := .ref TI) rfl ?_)
  refine wpAny_bind (wpAny_seqItems hTI rfl ?_)
  show wpAny _ _ (Builtin.SmallTypes.ownedTupleIsFree (.ref z) >>= _) _ _ _
  refine wpAny_bind (zd_free hz hT fun h₁ hz₁ hs₁ => ?_)
  simp only [Bool.false_eq_true, if_false]
  refine wpAny_bind ?_
  rw [← Array.forIn_toList]
  simp only [List.forIn_cons, List.forIn_nil]
  refine wpAny_bind (wpAny_bind (wpAny_holding ?_))
  show wpAny _ _ (Builtin.SmallTypes.nextOf (.ref i1) >>= _) _ _ _
  refine wpAny_bind (wpAny_nextOf_list_item (h1.extBut hs₁.extBut D.i1z) (hl1.extBut hs₁.extBut D.l1z) hx fun h₂ h1₂ hs₂ => wpAny_pure ?_)
  refine wpAny_pure (wpAny_bind (wpAny_bind (wpAny_holding ?_)))
  show wpAny _ _ (Builtin.SmallTypes.nextOf (.ref i2) >>= _) _ _ _
  refine wpAny_bind (wpAny_nextOf_list_item ((h2.extBut hs₁.extBut D.i2z).extBut hs₂.extBut D.i12.symm) ((hl2.extBut hs₁.extBut D.l2z).extBut hs₂.extBut D.l2i1) hy fun h₃ h2₃ hs₃ => wpAny_pure ?_)
  refine wpAny_pure (wpAny_pure ?_)
  show wpAny _ _ (newTuple [x, y] >>= _) _ _ _
  refine wpAny_bind (wpAny_newTuple ?_)
  have hsz : h₃.objs.size = s.heap.objs.size := by rw [hs₃.1, hs₂.1, hs₁.1]
  have up : ∀ c o, c ≠ z → c ≠ i1 → c ≠ i2 → s.heap.get? c = some o → h₃.get? c = some o := fun c o c1 c2 c3 e => hs₃.extBut _ _ c3 (hs₂.extBut _ _ c2 (hs₁.extBut _ _ c1 e))
  refine wpAny_pure ⟨_, rfl, ?_⟩
  show Q (.ref h₃.objs.size) _
  have hT₄ : (h₃.push { cls := .type "tuple", data := .seq #[x, y] }).get? h₃.objs.size = some { cls := .type "tuple", data := .seq #[x, y] } := Heap.get?_push_size _ rfl
  have hz4 : (h₃.push { cls := .type "tuple", data := .seq #[x, y] }).objs.size = h₃.objs.size + 1 := Heap.size_push ..
  rw [hsz] at hT₄ hz4 ⊢
  have hz₃ : ZipAt h₃ z TI TO (rawInt (T : Nat)) true := hs₃.extBut _ _ D.i2z.symm (hs₂.extBut _ _ D.i1z.symm hz₁)
  have h1₃ : h₃.IsListIter i1 l1 (k1 + 1) := h1₂.extBut hs₃.extBut D.i12
  exact hQ _ (Heap.get?_push_of_some _ hz₃) (h1₃.at fun o e => Heap.get?_push_of_some _ e) (h2₃.at fun o e => Heap.get?_push_of_some _ e) hT₄ hz4 fun c o c1 c2 c3 e => Heap.get?_push_of_some _ (up c o c1 c2 c3 e)
theorem zd_end {z TI TO i1 i2 l1 l2 T : Addr} {f : Bool} {oT : Obj} {k1 : Nat} {xs : Array Value} {Q : Fin → Shared → Prop} (hh : A.handled = none) (D : ZipApart z TI TO i1 i2 l1 l2)
    (hz : ZipAt s.heap z TI TO (rawInt (T : Nat)) f) (hT : s.heap.get? T = some oT) (hTI : IsPair s.heap TI (.ref i1) (.ref i2))
    (h1 : s.heap.IsListIter i1 l1 k1) (hl1 : s.heap.IsList l1 xs) (hx : xs[k1]? = none)
    (hE : ∀ h' e, (∀ c o, c ≠ z → c ≠ i1 → s.heap.get? c = some o → h'.get? c = some o) → (∃ o, h'.get? e = some o ∧ o.cls = .type "StopIteration") → E (.ref e) { s with heap := h' }) :
    wpAny (model prog w) A (Builtin.«zip.__next__» ⟨[.ref z], []⟩) Q E s := by
  show wpAny _ _ (field (.ref z) 2 >>= _) _ _ _
  refine wpAny_bind (wpAny_field hz rfl (x := .bool false) rfl ?_)
  show wpAny _ _ (field (.ref z) 3 >>= _) _ _ _
  refine wpAny_bind (wpAny_field hz rfl (x := .ref TI) rfl ?_)
  refine wpAny_bind (wpAny_seqItems hTI rfl ?_)
  show wpAny _ _ (Builtin.SmallTypes.ownedTupleIsFree (.ref z) >>= _) _ _ _
  refine wpAny_bind (zd_free hz hT fun h₁ hz₁ hs₁ => ?_)
  simp only [Bool.false_eq_true, if_false]
  refine wpAny_bind ?_
  rw [← Array.forIn_toList]
  simp only [List.forIn_cons, List.forIn_nil]
  refine wpAny_bind (wpAny_bind (wpAny_holding ?_))
  show wpAny _ _ (Builtin.SmallTypes.nextOf (.ref i1) >>= _) _ _ _
  exact wpAny_bind (wpAny_nextOf_list_end hh (h1.extBut hs₁.extBut D.i1z) (hl1.extBut hs₁.extBut D.l1z) hx fun h₂ e hs₂ he => hE h₂ e (fun c o c1 c2 x => hs₂ _ _ c2 (hs₁.extBut _ _ c1 x)) he)
/-- where the walk over the two lists stands -/
inductive ZSt (h : Heap) (z TI TO i1 i2 l1 l2 : Addr) (xs ys : Array Value) (i : Nat) (f0 : Value) (f1 : Bool) : Prop
  | mk (a1 : ZipAt h z TI TO f0 f1) (a2 : (f0 = .none ∧ f1 = false) ∨ ∃ T oT, f0 = rawInt (T : Nat) ∧ h.get? T = some oT ∧ T ≠ z ∧ T ≠ TO ∧ T ≠ i1 ∧ T ≠ i2) (a3 : IsPair h TI (.ref i1) (.ref i2)) (a4 : ∃ a b, IsPair h TO a b) (a5 : h.IsListIter i1 l1 i) (a6 : h.IsListIter i2 l2 i) (a7 : h.IsList l1 xs) (a8 : h.IsList l2 ys) : ZSt h z TI TO i1 i2 l1 l2 xs ys i f0 f1
theorem ZSt.keep {h h' : Heap} {z TI TO i1 i2 l1 l2 : Addr} {xs ys : Array Value} {i : Nat} {f0 : Value} {f1 : Bool} (S : ZSt h z TI TO i1 i2 l1 l2 xs ys i f0 f1) {d : Addr} (hk : ∀ b o, b ≠ d → h.get? b = some o → h'.get? b = some o) (hd : d ≠ z ∧ d ≠ TI ∧ d ≠ TO ∧ d ≠ i1 ∧ d ≠ i2 ∧ d ≠ l1 ∧ d ≠ l2) (hT : ∀ T : Addr, f0 = rawInt (T : Nat) → T ≠ d) : ZSt h' z TI TO i1 i2 l1 l2 xs ys i f0 f1 := by
  obtain ⟨a1, a2, a3, ⟨a, b, a4⟩, a5, a6, a7, a8⟩ := S
  obtain ⟨d1, d2, d3, d4, d5, d6, d7⟩ := hd
  refine ⟨hk _ _ d1.symm a1, ?_, hk _ _ d2.symm a3, ⟨a, b, hk _ _ d3.symm a4⟩, a5.at fun o e => hk _ o d4.symm e, a6.at fun o e => hk _ o d5.symm e, a7.at fun o e => hk _ o d6.symm e, a8.at fun o e => hk _ o d7.symm e⟩
  rcases a2 with a2 | ⟨T, oT, e1, e2, e3⟩
  · exact .inl a2
  · exact .inr ⟨T, oT, e1, hk _ _ (hT T e1) e2, e3⟩
theorem zd_next {z TI TO i1 i2 l1 l2 : Addr} {xs ys : Array Value} {i : Nat} {f0 : Value} {f1 : Bool} {x y : Value} {Q : Option Value → Shared → Prop} (D : ZipApart z TI TO i1 i2 l1 l2) (S : ZSt s.heap z TI TO i1 i2 l1 l2 xs ys i f0 f1) (hx : xs[i]? = some x) (hy : ys[i]? = some y)
    (hQ : ∀ h' f0' f1', ZSt h' z TI TO i1 i2 l1 l2 xs ys (i + 1) f0' f1' → (f0' = rawInt (s.heap.objs.size : Nat) ∨ f0' = f0) → IsPair h' s.heap.objs.size x y → s.heap.objs.size + 1 = h'.objs.size →
      (∀ c o, c ≠ z → c ≠ TO → c ≠ i1 → c ≠ i2 → s.heap.get? c = some o → h'.get? c = some o) → Q (some (.ref s.heap.objs.size)) { s with heap := h' }) :
    wpAny (model prog w) A (pyNext (.ref z)) Q E s := by
  obtain ⟨a1, a2, a3, ⟨a, b, a4⟩, a5, a6, a7, a8⟩ := S
  have lt : ∀ {c o}, s.heap.get? c = some o → s.heap.objs.size ≠ c := fun e => Nat.ne_of_gt (Heap.lt_size e)
  have li1 : s.heap.objs.size ≠ i1 := by obtain ⟨_, e, _⟩ := a5; exact lt e
  have li2 : s.heap.objs.size ≠ i2 := by obtain ⟨_, e, _⟩ := a6; exact lt e
  rcases a2 with ⟨rfl, rfl⟩ | ⟨T, oT, rfl, e2, t1, t2, t3, t4⟩
  · refine wpAny_pyNext_zip_item D a1 a3 a4 a5 a6 a7 a8 hx hy fun h' b1 b2 b3 b4 b5 b6 hk => ?_
    exact hQ h' _ false ⟨b1, .inr ⟨_, _, rfl, b5, lt a1, lt a4, li1, li2⟩, hk _ _ D.TIz D.TITO D.TIi1 D.TIi2 a3, ⟨_, _, b2⟩, b3, b4, a7.at fun o e => hk _ o D.l1z D.l1TO D.l1i1 D.l1i2 e, a8.at fun o e => hk _ o D.l2z D.l2TO D.l2i1 D.l2i2 e⟩ (.inl rfl) b5 b6.symm hk
  · have hT : s.TypeIs (.ref z) "zip" := ⟨_, a1, rfl⟩
    unfold pyNext
    refine wpAny_bind (wpAny_attempt (wpAny_callSpecial?_slot (name := Str.ofString "__next__") hT F.slot_zip_next
      (wpAny_call_entry F.slot_zip_next hT F.entry_zip_next
        (zd_item D a1 e2 a3 a5 a6 a7 a8 hx hy fun h' b1 b3 b4 b5 b6 hk => wpAny_pure ?_) (F.args_zip_next_1 _))))
    exact hQ h' _ true ⟨b1, .inr ⟨T, oT, rfl, hk _ _ t1 t3 t4 e2, t1, t2, t3, t4⟩, hk _ _ D.TIz D.TIi1 D.TIi2 a3, ⟨_, _, hk _ _ D.TOz D.TOi1 D.TOi2 a4⟩, b3, b4, a7.at fun o e => hk _ o D.l1z D.l1i1 D.l1i2 e, a8.at fun o e => hk _ o D.l2z D.l2i1 D.l2i2 e⟩ (.inr rfl) b5 b6.symm fun c o c1 _ c2 c3 e => hk c o c1 c2 c3 e
theorem zd_stop {z TI TO i1 i2 l1 l2 : Addr} {xs ys : Array Value} {i : Nat} {f0 : Value} {f1 : Bool} {Q : Option Value → Shared → Prop} (hh : A.handled = none) (D : ZipApart z TI TO i1 i2 l1 l2) (S : ZSt s.heap z TI TO i1 i2 l1 l2 xs ys i f0 f1) (hx : xs[i]? = none)
    (hQ : ∀ h', (∀ c o, c ≠ z → c ≠ TO → c ≠ i1 → c ≠ i2 → s.heap.get? c = some o → h'.get? c = some o) → Q none { s with heap := h' }) :
    wpAny (model prog w) A (pyNext (.ref z)) Q E s := by
  obtain ⟨a1, a2, a3, ⟨a, b, a4⟩, a5, a6, a7, a8⟩ := S
  rcases a2 with ⟨rfl, rfl⟩ | ⟨T, oT, rfl, e2, t1, t2, t3, t4⟩
  · exact wpAny_pyNext_zip_end hh D a1 a3 a4 a5 a6 a7 a8 (.inl hx) fun h' hk => hQ h' hk
  · have hT : s.TypeIs (.ref z) "zip" := ⟨_, a1, rfl⟩
    unfold pyNext
    refine wpAny_bind (wpAny_attempt (wpAny_callSpecial?_slot (name := Str.ofString "__next__") hT F.slot_zip_next
      (wpAny_call_entry F.slot_zip_next hT F.entry_zip_next (zd_end hh D a1 e2 a3 a5 a7 hx fun h' e hk he => ?_) (F.args_zip_next_1 _))))
    obtain ⟨o, ho, hc⟩ := he
    refine wpAny_bind (wpAny_isInstance (T := "StopIteration") (b := true) ⟨o, ho, hc⟩ isSubtype_stop ?_)
    exact wpAny_pure (hQ _ fun c o c1 _ c2 _ e => hk c o c1 c2 e)
theorem zd_plain_loop : plainId "dict.update.loop" = true := by decide +kernel
theorem zd_entry_loop : entryFor table "dict.update.loop" = some Builtin.«dict.update.loop» := entryFor_of_tree (by kernel_rfl)
theorem zd_stored {ps : List (Str × Tok × Value)} {i : Nat} {p : Str × Tok × Value} (hn : (ps.map (·.1)).Nodup) (h : ps[i]? = some p) :
    stored ((ps.take i).map fun p => (p.1, p.2.2)) p.1 p.2.2 = (ps.take (i + 1)).map fun p => (p.1, p.2.2) := by
  have e : ps.take (i + 1) = ps.take i ++ [p] := by rw [List.take_add_one, h]; rfl
  unfold stored
  rw [if_neg, e, List.map_append]
  · rfl
  · intro q
    obtain ⟨⟨a1, a2⟩, ha, hk⟩ := List.any_eq_true.mp q
    obtain ⟨z, hz, ez⟩ := List.mem_map.mp ha
    simp only [decide_eq_true_eq] at hk
    have : (ps.take (i + 1)).map (·.1) |>.Nodup := hn.sublist ((List.take_sublist _ _).map _)
    rw [e, List.map_append, List.nodup_append] at this
    exact this.2.2 z.1 (List.mem_map_of_mem hz) p.1 (by simp) (by rw [← hk]; exact congrArg Prod.fst ez)
theorem zd_pair {T : Addr} {x y : Value} {Q : List Value → Shared → Prop} (hT : IsPair s.heap T x y) (h : Q [x, y] s) : wpAny (model prog w) A (Builtin.Dict.pairItems (.ref T)) Q E s := by
  unfold Builtin.Dict.pairItems
  have hT' : s.TypeIs (.ref T) "tuple" := ⟨_, hT, rfl⟩
  refine wpAny_bind (wpAny_typeOf hT' ?_)
  rw [if_pos (by decide)]
  exact wpAny_bind (wpAny_seqItems hT rfl (wpAny_pure h))
theorem zd_loop {z TI TO i1 i2 l1 l2 d : Addr} {R : Result → Shared → Prop} (hh : A.handled = none) (D : ZipApart z TI TO i1 i2 l1 l2) (hd : d ≠ z ∧ d ≠ TI ∧ d ≠ TO ∧ d ≠ i1 ∧ d ≠ i2 ∧ d ≠ l1 ∧ d ≠ l2) (ps : List (Str × Tok × Value)) (hn : (ps.map (·.1)).Nodup) (hl : ps.length ≤ 100) :
    ∀ (k i : Nat) (s : Shared) (f0 : Value) (f1 : Bool), ps.length - i = k → i ≤ ps.length → ZSt s.heap z TI TO i1 i2 l1 l2 (ps.map fun p => Value.str p.1 p.2.1).toArray (ps.map (·.2.2)).toArray i f0 f1 → (∀ T : Addr, f0 = rawInt (T : Nat) → T ≠ d) →
      s.heap.DictOf (PySem.strKind prog w) d ((ps.take i).map fun p => (p.1, p.2.2)) →
      (∀ h' tk, h'.DictOf (PySem.strKind prog w) d (ps.map fun p => (p.1, p.2.2)) → (∀ c o, c ≠ z → c ≠ TO → c ≠ i1 → c ≠ i2 → c ≠ d → s.heap.get? c = some o → h'.get? c = some o) → R (.ok (.ret .none)) { s with heap := h', toks := tk }) →
      codeAny (model prog w) A (.builtin "dict.update.loop" ⟨[.ref d, .ref z, rawInt (i : Nat), .none], []⟩) R s := by
  obtain ⟨d1, d2, d3, d4, d5, d6, d7⟩ := id hd
  intro k
  induction k with
  | zero =>
    intro i s f0 f1 hk hi S hT hD hR
    have hin : i = ps.length := by omega
    subst hin
    rw [List.take_length] at hD
    refine codeAny_builtin zd_entry_loop ?_
    rw [Around.under_plainId zd_plain_loop _]
    show wpAny _ A.in1 (pyNext (.ref z) >>= _) _ _ s
    refine wpAny_bind (zd_stop hh D S (by simp) fun h' hk => ?_)
    show wpAny _ A.in1 (Builtin.Dict.addKeywords d [] >>= _) _ _ _
    refine wpAny_bind (wpAny_pure (wpAny_pure ?_))
    obtain ⟨o, es, ep, e1, e2⟩ := hD
    exact hR h' _ ⟨o, es, ep, hk _ _ d1 d3 d4 d5 e1, e2⟩ fun c o c1 c2 c3 c4 _ e => hk c o c1 c2 c3 c4 e
  | succ k ih =>
    intro i s f0 f1 hk hi S hT hD hR
    have hlt : i < ps.length := by omega
    obtain ⟨p, hp⟩ : ∃ p, ps[i]? = some p := ⟨_, List.getElem?_eq_getElem hlt⟩
    refine codeAny_builtin zd_entry_loop ?_
    rw [Around.under_plainId zd_plain_loop _]
    show wpAny _ A.in1 (pyNext (.ref z) >>= _) _ _ s
    refine wpAny_bind (zd_next D S (x := .str p.1 p.2.1) (y := p.2.2) (by simp [hp]) (by simp [hp]) fun h' f0' f1' S' hf hpr hsz hkp => ?_)
    obtain ⟨o, es, ep, e1, e2⟩ := hD
    have hdlt : d < s.heap.objs.size := Heap.lt_size e1
    have hD' : h'.DictOf (PySem.strKind prog w) d ((ps.take i).map fun p => (p.1, p.2.2)) := ⟨o, es, ep, hkp _ _ d1 d3 d4 d5 e1, e2⟩
    have hT' : ∀ T : Addr, f0' = rawInt (T : Nat) → T ≠ d := fun T e => by
      rcases hf with hf | hf
      · rw [hf] at e
        have : (s.heap.objs.size : Int) = (T : Int) := by
          have e' : Value.int (s.heap.objs.size : Int) 0 = Value.int (T : Int) 0 := e
          injection e'
        have : s.heap.objs.size = T := Int.ofNat.inj this
        rw [← this]
        exact Nat.ne_of_gt hdlt
      · exact hT T (hf ▸ e)
    refine wpAny_bind (wpAny_holding ?_)
    refine wpAny_bind (wpAny_tryCatch (zd_pair hpr ?_))
    show wpAny _ A.in1 (holding [Value.str p.1 p.2.1, p.2.2] (dictSet d (Value.str p.1 p.2.1) p.2.2)) _ _ _
    refine wpAny_holding ?_
    unfold dictSet
    refine wpAny_holding (wpAny_bind ((PySem.strKind prog w).pyHash (PySem.strKind_is prog w p.1 p.2.1) ?_))
    refine wpAny_dictSetHashed_pairs (PySem.strKind_is prog w p.1 p.2.1) hD' (fun h'' hD'' hs'' => ?_) (by rw [sizeLine_eq]; simp only [List.length_map, List.length_take]; omega)
    rw [zd_stored hn hp] at hD''
    refine wpAny_pure ⟨plainId_quiet zd_plain_loop _, ih (i + 1) _ f0' f1' (by omega) hlt (S'.keep (d := d) (fun b o hb e => (hs''.2 b hb).trans e) hd hT') hT' hD'' fun h3 tk3 hD3 hk3 => ?_⟩
    exact hR h3 tk3 hD3 fun c o c1 c2 c3 c4 c5 e => hk3 c o c1 c2 c3 c4 c5 ((hs''.2 c c5).trans (hkp c o c1 c2 c3 c4 e))
theorem ZSt.all {h h' : Heap} {z TI TO i1 i2 l1 l2 : Addr} {xs ys : Array Value} {i : Nat} {f0 : Value} {f1 : Bool} (S : ZSt h z TI TO i1 i2 l1 l2 xs ys i f0 f1) (hk : ∀ b o, h.get? b = some o → h'.get? b = some o) : ZSt h' z TI TO i1 i2 l1 l2 xs ys i f0 f1 := by
  obtain ⟨a1, a2, a3, ⟨a, b, a4⟩, a5, a6, a7, a8⟩ := S
  refine ⟨hk _ _ a1, ?_, hk _ _ a3, ⟨a, b, hk _ _ a4⟩, a5.at fun o e => hk _ o e, a6.at fun o e => hk _ o e, a7.at fun o e => hk _ o e, a8.at fun o e => hk _ o e⟩
  rcases a2 with a2 | ⟨T, oT, e1, e2, e3⟩
  · exact .inl a2
  · exact .inr ⟨T, oT, e1, hk _ _ e2, e3⟩
/-- a zip over two lists, at its start, apart from the ledger -/
noncomputable def ZReady (h₀ : Heap) (L : Addr) (h : Heap) (news : Led) (z l1 l2 : Addr) (ps : List (Str × Tok × Value)) : Prop :=
  ∃ TI TO i1 i2, ZipApart z TI TO i1 i2 l1 l2 ∧ ZSt h z TI TO i1 i2 l1 l2 (ps.map fun p => Value.str p.1 p.2.1).toArray (ps.map (·.2.2)).toArray 0 .none false ∧ ∀ b : Addr, (b = z ∨ b = TO ∨ b = i1 ∨ b = i2) → b ≠ L ∧ h₀.get? b = none ∧ ∀ p ∈ news, p.1 ≠ b
variable {h₀ : Heap} {L : Addr} {m : Str → Option Value} {news : Led} {l1 l2 : Addr} {ps : List (Str × Tok × Value)} {n1 n2 : Nat}
theorem zip_R {Q : Value → Shared → Prop} (F : Fr h₀ L s.heap m) (N : News h₀ L s.heap news) (hm1 : (l1, listOf (ps.map fun p => Value.str p.1 p.2.1).toArray n1) ∈ news) (hm2 : (l2, listOf (ps.map (·.2.2)).toArray n2) ∈ news)
    (h : ∀ z h', Fr h₀ L h' m → News h₀ L h' news → ZReady h₀ L h' news z l1 l2 ps → Q (.ref z) { s with heap := h' }) : wpAny (model prog w) A (call (.type "zip") [.ref l1, .ref l2]) Q E s := by
  have hl1 := ledList N hm1
  have hl2 := ledList N hm2
  have hlt1 : l1 < s.heap.objs.size := Heap.lt_size (N _ hm1).1
  have hlt2 : l2 < s.heap.objs.size := Heap.lt_size (N _ hm2).1
  have hLs : L < s.heap.objs.size := F.ns.lt
  have D : ZipApart (s.heap.objs.size + 4) (s.heap.objs.size + 2) (s.heap.objs.size + 3) s.heap.objs.size (s.heap.objs.size + 1) l1 l2 := ktu_apart _ _ _ hlt1 hlt2
  have new : ∀ b, s.heap.objs.size ≤ b → h₀.get? b = none := fun b hb => ktu_new F hb
  refine call_zip_2 hl1 hl2 fun h' hz hTI hTO hi1 hi2 hsz hk => ?_
  refine h _ h' (F.keeps hk) (N.grown hk) ⟨_, _, _, _, D, ⟨hz, .inl ⟨rfl, rfl⟩, hTI, ⟨_, _, hTO⟩, hi1, hi2, hl1.at fun o e => hk l1 o e, hl2.at fun o e => hk l2 o e⟩, fun b hb => ?_⟩
  have hle : s.heap.objs.size ≤ b := by
    rcases hb with rfl | rfl | rfl | rfl
    · exact Nat.le_add_right _ _
    · exact Nat.le_add_right _ _
    · exact Nat.le_refl _
    · exact Nat.le_add_right _ _
  exact ⟨Nat.ne_of_gt (Nat.lt_of_lt_of_le hLs hle), new b hle, fun p hp => Nat.ne_of_lt (Nat.lt_of_lt_of_le (Heap.lt_size (N p hp).1) hle)⟩
theorem dict_zip {z : Addr} {Q : Value → Shared → Prop} (hh : A.handled = none) (hbig : h₀.NoLimit) (Fx : Fr h₀ L s.heap m) (N : News h₀ L s.heap news) (Z : ZReady h₀ L s.heap news z l1 l2 ps) (hn : (ps.map (·.1)).Nodup) (hl : ps.length ≤ 100)
    (h : ∀ d h' o tk, Fr h₀ L h' m → News h₀ L h' ((d, o) :: news) → (∀ p ∈ news, p.1 < d) → (d == sysModules) = false → o.IsDictOf (PySem.strKind prog w) (ps.map fun p => (p.1, p.2.2)) → Q (.ref d) { s with heap := h', toks := tk }) :
    wpAny (model prog w) A (call (.type "dict") [.ref z]) Q E s := by
  obtain ⟨TI, TO, i1, i2, D, S, hnew⟩ := Z
  have hlt : ∀ {b o}, s.heap.get? b = some o → s.heap.objs.size ≠ b := fun e => Nat.ne_of_gt (Heap.lt_size e)
  have hd : s.heap.objs.size ≠ z ∧ s.heap.objs.size ≠ TI ∧ s.heap.objs.size ≠ TO ∧ s.heap.objs.size ≠ i1 ∧ s.heap.objs.size ≠ i2 ∧ s.heap.objs.size ≠ l1 ∧ s.heap.objs.size ≠ l2 := by
    obtain ⟨a1, -, a3, ⟨a, b, a4⟩, ⟨_, a5, _⟩, ⟨_, a6, _⟩, ⟨_, a7, _⟩, ⟨_, a8, _⟩⟩ := S
    exact ⟨hlt a1, hlt a3, hlt a4, hlt a5, hlt a6, hlt a7, hlt a8⟩
  have lo := Fx.notModules (modules_low hbig)
  refine callType_codes (Q₁ := fun obj s₁ => obj = .ref s.heap.objs.size ∧ s₁ = { s with heap := s.heap.push { cls := .type "dict", data := .dict #[] } }) F.kt_called_dict (F.kt_typeCall_dict_1 _) F.entry_dict_init (kt_code_dict_new _ ⟨rfl, rfl⟩) ?_
  rintro obj s₁ ⟨rfl, rfl⟩
  have hD0 : (s.heap.push { cls := .type "dict", data := .dict #[] }).DictOf (PySem.strKind prog w) s.heap.objs.size [] := Heap.DictOf.new s.heap
  have S1 : ZSt (s.heap.push { cls := .type "dict", data := .dict #[] }) z TI TO i1 i2 l1 l2 _ _ 0 .none false := S.all fun b o e => Heap.get?_push_of_some _ e
  refine ⟨hD0.typeIs, F.args_dict_init_2 _ _, ?_⟩
  unfold Builtin.«dict.__init__»
  refine wpAny_bind ?_
  unfold Builtin.Dict.selfAndRest
  refine wpAny_bind (wpAny_notOrdered_dict hD0.typeIs ?_)
  show wpAny _ _ (pure (s.heap.objs.size, [Value.ref z])) _ _ _
  refine wpAny_pure ?_
  show wpAny _ _ (Builtin.Dict.updateFrom "dict.__init__" s.heap.objs.size (.ref z) [] .none) _ _ _
  unfold Builtin.Dict.updateFrom
  have hTz : Shared.TypeIs { s with heap := s.heap.push { cls := .type "dict", data := .dict #[] } } (.ref z) "zip" := ⟨_, S1.1, rfl⟩
  refine wpAny_bind (wpAny_typeOf hTz ?_)
  rw [if_pos (by decide)]
  refine wpAny_bind (zd_keys S1.1 hh fun h2 tk2 hk2 => ?_)
  simp only [Option.isNone_none, if_true]
  refine wpAny_bind (wpAny_rule ?_)
  have S2 := S1.all hk2
  have hD2 : h2.DictOf (PySem.strKind prog w) s.heap.objs.size [] := by
    obtain ⟨o, es, ep, e1, e2⟩ := hD0
    exact ⟨o, es, ep, hk2 _ _ e1, e2⟩
  refine wpAny_bind (wpAny_pyIter_zip S2.1 ?_)
  refine wpAny_pure ⟨plainId_quiet zd_plain_loop _, zd_loop (A := A.in1) hh D hd ps hn hl _ 0 _ .none false rfl (Nat.zero_le _) S2 (fun T e => by cases e) hD2 fun h3 tk3 hD3 hk3 => ⟨rfl, ?_⟩⟩
  obtain ⟨o3, e3, hd3⟩ := Heap.dictOf_iff.mp hD3
  have old : ∀ b o, b ≠ z → b ≠ TO → b ≠ i1 → b ≠ i2 → s.heap.get? b = some o → h3.get? b = some o := fun b o c1 c2 c3 c4 e => hk3 b o c1 c2 c3 c4 (hlt e).symm (hk2 _ _ (Heap.get?_push_of_some _ e))
  have away : ∀ b : Addr, (∀ b', (b' = z ∨ b' = TO ∨ b' = i1 ∨ b' = i2) → b ≠ b') → b ≠ z ∧ b ≠ TO ∧ b ≠ i1 ∧ b ≠ i2 := fun b hb => ⟨hb _ (.inl rfl), hb _ (.inr (.inl rfl)), hb _ (.inr (.inr (.inl rfl))), hb _ (.inr (.inr (.inr rfl)))⟩
  have old0 : ∀ b o, h₀.get? b = some o → h3.get? b = some o := fun b o e => by
    have := away b fun b' hb' q => by rw [q, (hnew b' hb').2.1] at e; cases e
    exact old b o this.1 this.2.1 this.2.2.1 this.2.2.2 (Fx.keep b o e)
  refine h _ h3 o3 tk3 ⟨Fx.ns.at' fun o e => ?_, old0, Fx.above⟩ (fun p hp => ?_) (fun p hp => Heap.lt_size (N p hp).1) lo hd3
  · have := away L fun b' hb' q => (hnew b' hb').1 q.symm
    exact old L o this.1 this.2.1 this.2.2.1 this.2.2.2 e
  · rcases List.mem_cons.mp hp with rfl | hp
    · exact ⟨e3, Nat.ne_of_gt Fx.ns.lt, ktu_new Fx (Nat.le_refl _)⟩
    · have := away p.1 fun b' hb' q => (hnew b' hb').2.2 p hp q
      exact ⟨old _ _ this.1 this.2.1 this.2.2.1 this.2.2.2 (N p hp).1, (N p hp).2⟩
end
end Mine
end
section
-- PK
namespace Mine
/-- the marker that switches the chosen names on -/
noncomputable def PMI : Prop := True
noncomputable def PMH : Prop := True
theorem pk_ex : ∃ f : Nat → (α : Type) → Nonempty α → (α → Prop) → α, ∀ (n : Nat) (α : Type) (i : Nonempty α) (P : α → Prop), P (f n α i P) → ∀ x, P x :=
  ⟨fun _ _ i P => @Classical.epsilon _ i fun x => ¬ P x, fun _ _ i P h x => by
    refine Classical.byContradiction fun hx => ?_
    exact (@Classical.epsilon_spec_aux _ i (fun x => ¬ P x) ⟨x, hx⟩) h⟩
/-- one that would break P, if any does; the number tells it from others at once -/
@[irreducible] noncomputable def pk (n : Nat) {α : Type} (i : Nonempty α) (P : α → Prop) : α := Classical.choose pk_ex n α i P
theorem pk_spec (n : Nat) {α : Type} {i : Nonempty α} {P : α → Prop} (h : P (pk n i P)) : ∀ x, P x := by
  unfold pk at h
  exact Classical.choose_spec pk_ex n α i P h
theorem all_pick (n : Nat) {α : Type} {i : Nonempty α} {P : α → Prop} (h : let x := pk n i P; P x) : ∀ x, P x := pk_spec n h
inductive Kept (T : Prop) : T → Prop
  | mk (h : T) : Kept T h
theorem prod_all {α β : Type} {P : α × β → Prop} (h : ∀ a b, P (a, b)) : ∀ x, P x := fun ⟨a, b⟩ => h a b
theorem ne_pair {α β : Type} (a : Nonempty α) (b : Nonempty β) : Nonempty (α × β) := by obtain ⟨x⟩ := a; obtain ⟨y⟩ := b; exact ⟨(x, y)⟩
theorem and_el {a b G : Prop} (h : a ∧ b) (k : a → b → G) : G := k h.1 h.2
theorem ne_world : Nonempty World := ⟨{ draws := fun _ _ => 0, params := { strHash := fun _ => 0, shareClass := fun _ => 0, mergeTok := id, idOf := fun _ => 0, idOfShared := fun _ _ => 0, followText := fun _ => false, idOfImm := fun _ => 0 } }⟩
theorem ne_shared : Nonempty Shared := ⟨{}⟩
theorem ne_around : Nonempty Around := ⟨{}⟩
set_option genInjectivity false in
set_option genSizeOf false in
/-- the names of a contract's statement, as one -/
structure PC where
  w : World
  p : Program
  loose : List Str
  mean : ExcName → Option Value
  mg : Str → Option Value
  mb : Str → Option Value
  dp : Nat
  un : Nat
  gd : Option (List Code)
  cn : Str
  cs : Scope
  a : Addr
  ccd : Value
  cl : List (Str × Addr)
  outer : List Env
  A₀ : Around
  base : Heap
  h₀ : Heap
  L : Addr
  m : Str → Option Value
  s : Shared
  Q : Value → Shared → Prop
  E : Value → Shared → Prop
  news : Led
  vs : List Value
theorem ne_pc : Nonempty PC := by
  obtain ⟨w⟩ := ne_world
  obtain ⟨s⟩ := ne_shared
  obtain ⟨A⟩ := ne_around
  exact ⟨⟨w, default, default, default, default, default, default, default, default, default, default, default, default, default, default, A, default, default, default, default, s, default, default, default, default⟩⟩
noncomputable def SB (K : Params → Frag) (prog : Program) (f : Addr) (dep : Nat) {X : Type} (Pre : World → X → Led → List Value → Prop) (Post : World → X → Led → Led → Value → Prop) (x : X) (w : World) (p : Program) (loose : List Str) (mean : ExcName → Option Value) (mg mb : Str → Option Value) (dp un : Nat) (gd : Option (List Code)) (cn : Str) (cs : Scope) (a : Addr) (ccd : Value) (cl : List (Str × Addr)) (outer : List Env) (A₀ : Around) (base h₀ : Heap) (L : Addr) (m : Str → Option Value) (s : Shared) (Q E : Value → Shared → Prop) (news : Led) (vs : List Value) : Prop :=
  Pre w x news vs → Below A₀ base outer h₀ → Fr h₀ L s.heap m → (K w.params).In h₀ → News h₀ L s.heap news → Top p loose mean mg mb h₀ → cs.kind = .function → Nd news → dp + dep < recursionLimit → un + 40 * dep < cLine → (∀ r news' h' tk', Fr h₀ L h' m → News h₀ L h' news' → Nd news' → Post w x news news' r → Q r { s with heap := h', toks := tk' }) → wpAny (model prog w) (ktrTop dp un gd cn cs L a ccd cl outer) (call (.ref f) vs) Q E s
theorem sb_in {K : Params → Frag} {prog : Program} {f : Addr} {dep : Nat} {X : Type} {Pre : World → X → Led → List Value → Prop} {Post : World → X → Led → Led → Value → Prop} {x : X} {w : World} {p : Program} {loose : List Str} {mean : ExcName → Option Value} {mg : Str → Option Value} {mb : Str → Option Value} {dp : Nat} {un : Nat} {gd : Option (List Code)} {cn : Str} {cs : Scope} {a : Addr} {ccd : Value} {cl : List (Str × Addr)} {outer : List Env} {A₀ : Around} {base : Heap} {h₀ : Heap} {L : Addr} {m : Str → Option Value} {s : Shared} {Q : Value → Shared → Prop} {E : Value → Shared → Prop} {news : Led} {vs : List Value} (h : Pre w x news vs → Below A₀ base outer h₀ → Fr h₀ L s.heap m → (K w.params).In h₀ → News h₀ L s.heap news → Top p loose mean mg mb h₀ → cs.kind = .function → Nd news → dp + dep < recursionLimit → un + 40 * dep < cLine → (∀ r news' h' tk', Fr h₀ L h' m → News h₀ L h' news' → Nd news' → Post w x news news' r → Q r { s with heap := h', toks := tk' }) → wpAny (model prog w) (ktrTop dp un gd cn cs L a ccd cl outer) (call (.ref f) vs) Q E s) : SB K prog f dep Pre Post x w p loose mean mg mb dp un gd cn cs a ccd cl outer A₀ base h₀ L m s Q E news vs := h
noncomputable def SpecAt (K : Params → Frag) (prog : Program) (f : Addr) (dep : Nat) {X : Type} (Pre : World → X → Led → List Value → Prop) (Post : World → X → Led → Led → Value → Prop) (x : X) : Prop := ∀ c : PC, SB K prog f dep Pre Post x c.w c.p c.loose c.mean c.mg c.mb c.dp c.un c.gd c.cn c.cs c.a c.ccd c.cl c.outer c.A₀ c.base c.h₀ c.L c.m c.s c.Q c.E c.news c.vs
theorem at_in {K : Params → Frag} {prog : Program} {f : Addr} {dep : Nat} {X : Type} {Pre : World → X → Led → List Value → Prop} {Post : World → X → Led → Led → Value → Prop} {x : X} (h : ∀ c : PC, SB K prog f dep Pre Post x c.w c.p c.loose c.mean c.mg c.mb c.dp c.un c.gd c.cn c.cs c.a c.ccd c.cl c.outer c.A₀ c.base c.h₀ c.L c.m c.s c.Q c.E c.news c.vs) : SpecAt K prog f dep Pre Post x := h
theorem spec_at {K : Params → Frag} {prog : Program} {f : Addr} {dep : Nat} {X : Type} {Pre : World → X → Led → List Value → Prop} {Post : World → X → Led → Led → Value → Prop} (h : ∀ x, SpecAt K prog f dep Pre Post x) : Spec K prog f dep Pre Post :=
  fun w p loose mean mg mb dp un gd cn cs a ccd cl outer A₀ base h₀ L m news s vs x Q E B F X N T hk ND hpre hd hu ret => h x ⟨w, p, loose, mean, mg, mb, dp, un, gd, cn, cs, a, ccd, cl, outer, A₀, base, h₀, L, m, s, Q, E, news, vs⟩ hpre B F X N T hk ND hd hu ret
noncomputable def SBR (K : Params → Frag) (prog : Program) (f : Addr) (dep : Nat) {X : Type} (Pre : World → X → Led → List Value → Prop) (Post : World → X → Led → Led → Value → Prop) (PostR : World → X → Led → Led → Prop) (x : X) (w : World) (p : Program) (loose : List Str) (mean : ExcName → Option Value) (mg mb : Str → Option Value) (dp un : Nat) (gd : Option (List Code)) (cn : Str) (cs : Scope) (a : Addr) (ccd : Value) (cl : List (Str × Addr)) (outer : List Env) (A₀ : Around) (base h₀ : Heap) (L : Addr) (m : Str → Option Value) (s : Shared) (Q E : Value → Shared → Prop) (news : Led) (vs : List Value) : Prop :=
  Pre w x news vs → Below A₀ base outer h₀ → Fr h₀ L s.heap m → (K w.params).In h₀ → News h₀ L s.heap news → Top p loose mean mg mb h₀ → cs.kind = .function → Nd news → dp + dep < recursionLimit → un + 40 * dep < cLine → (∀ r news' h' tk', Fr h₀ L h' m → News h₀ L h' news' → Nd news' → Post w x news news' r → Q r { s with heap := h', toks := tk' }) → (∀ e news' h' tk' G, Fr h₀ L G m → RaisedSN base G (envX cn cs L a ccd cl :: outer) e (.ref 67) news' h' → G.UpToSlots h' → Nd news' → PostR w x news news' → E (.ref e) { s with heap := h', toks := tk' }) → wpAny (model prog w) (ktrTop dp un gd cn cs L a ccd cl outer) (call (.ref f) vs) Q E s
theorem sb_inR {K : Params → Frag} {prog : Program} {f : Addr} {dep : Nat} {X : Type} {Pre : World → X → Led → List Value → Prop} {Post : World → X → Led → Led → Value → Prop} {PostR : World → X → Led → Led → Prop} {x : X} {w : World} {p : Program} {loose : List Str} {mean : ExcName → Option Value} {mg : Str → Option Value} {mb : Str → Option Value} {dp : Nat} {un : Nat} {gd : Option (List Code)} {cn : Str} {cs : Scope} {a : Addr} {ccd : Value} {cl : List (Str × Addr)} {outer : List Env} {A₀ : Around} {base : Heap} {h₀ : Heap} {L : Addr} {m : Str → Option Value} {s : Shared} {Q : Value → Shared → Prop} {E : Value → Shared → Prop} {news : Led} {vs : List Value} (h : Pre w x news vs → Below A₀ base outer h₀ → Fr h₀ L s.heap m → (K w.params).In h₀ → News h₀ L s.heap news → Top p loose mean mg mb h₀ → cs.kind = .function → Nd news → dp + dep < recursionLimit → un + 40 * dep < cLine → (∀ r news' h' tk', Fr h₀ L h' m → News h₀ L h' news' → Nd news' → Post w x news news' r → Q r { s with heap := h', toks := tk' }) → (∀ e news' h' tk' G, Fr h₀ L G m → RaisedSN base G (envX cn cs L a ccd cl :: outer) e (.ref 67) news' h' → G.UpToSlots h' → Nd news' → PostR w x news news' → E (.ref e) { s with heap := h', toks := tk' }) → wpAny (model prog w) (ktrTop dp un gd cn cs L a ccd cl outer) (call (.ref f) vs) Q E s) : SBR K prog f dep Pre Post PostR x w p loose mean mg mb dp un gd cn cs a ccd cl outer A₀ base h₀ L m s Q E news vs := h
noncomputable def SpecAtR (K : Params → Frag) (prog : Program) (f : Addr) (dep : Nat) {X : Type} (Pre : World → X → Led → List Value → Prop) (Post : World → X → Led → Led → Value → Prop) (PostR : World → X → Led → Led → Prop) (x : X) : Prop := ∀ c : PC, SBR K prog f dep Pre Post PostR x c.w c.p c.loose c.mean c.mg c.mb c.dp c.un c.gd c.cn c.cs c.a c.ccd c.cl c.outer c.A₀ c.base c.h₀ c.L c.m c.s c.Q c.E c.news c.vs
theorem at_inR {K : Params → Frag} {prog : Program} {f : Addr} {dep : Nat} {X : Type} {Pre : World → X → Led → List Value → Prop} {Post : World → X → Led → Led → Value → Prop} {PostR : World → X → Led → Led → Prop} {x : X} (h : ∀ c : PC, SBR K prog f dep Pre Post PostR x c.w c.p c.loose c.mean c.mg c.mb c.dp c.un c.gd c.cn c.cs c.a c.ccd c.cl c.outer c.A₀ c.base c.h₀ c.L c.m c.s c.Q c.E c.news c.vs) : SpecAtR K prog f dep Pre Post PostR x := h
theorem spec_atR {K : Params → Frag} {prog : Program} {f : Addr} {dep : Nat} {X : Type} {Pre : World → X → Led → List Value → Prop} {Post : World → X → Led → Led → Value → Prop} {PostR : World → X → Led → Led → Prop} (h : ∀ x, SpecAtR K prog f dep Pre Post PostR x) : SpecR K prog f dep Pre Post PostR :=
  fun w p loose mean mg mb dp un gd cn cs a ccd cl outer A₀ base h₀ L m news s vs x Q E B F X N T hk ND hpre hd hu ret rai => h x ⟨w, p, loose, mean, mg, mb, dp, un, gd, cn, cs, a, ccd, cl, outer, A₀, base, h₀, L, m, s, Q, E, news, vs⟩ hpre B F X N T hk ND hd hu ret rai
noncomputable def SBT (K : Params → Frag) (prog : Program) (f : Addr) (dep : Nat) {X : Type} (Pre : World → X → Led → List Value → Prop) (Post : World → X → Led → Led → Value → Prop) (x : X) (w : World) (p : Program) (loose : List Str) (mean : ExcName → Option Value) (mg mb : Str → Option Value) (dp un : Nat) (gd : Option (List Code)) (cn : Str) (cs : Scope) (a : Addr) (ccd : Value) (cl : List (Str × Addr)) (outer : List Env) (A₀ : Around) (base h₀ : Heap) (L : Addr) (m : Str → Option Value) (s : Shared) (Q E : Value → Shared → Prop) (news : Led) (vs : List Value) : Prop :=
  Pre w x news vs → Below A₀ base outer h₀ → Fr h₀ L s.heap m → (K w.params).In h₀ → News h₀ L s.heap news → Top p loose mean mg mb h₀ → cs.kind = .function → Nd news → (K w.params).In base → Top p loose mean mg mb base → KtsDicts (outer.filterMap (·.frame)) h₀ → dp + dep < recursionLimit → un + 40 * dep < cLine → (∀ r news' h' tk' h₀', KtsTurn (outer.filterMap (·.frame)) h₀ h₀' → Fr h₀' L h' m → News h₀' L h' news' → Below A₀ base outer h₀' → (K w.params).In h₀' → Top p loose mean mg mb h₀' → KtsDicts (outer.filterMap (·.frame)) h₀' → Nd news' → Post w x news news' r → Q r { s with heap := h', toks := tk' }) → wpAny (model prog w) (ktrTop dp un gd cn cs L a ccd cl outer) (call (.ref f) vs) Q E s
theorem sb_inT {K : Params → Frag} {prog : Program} {f : Addr} {dep : Nat} {X : Type} {Pre : World → X → Led → List Value → Prop} {Post : World → X → Led → Led → Value → Prop} {x : X} {w : World} {p : Program} {loose : List Str} {mean : ExcName → Option Value} {mg : Str → Option Value} {mb : Str → Option Value} {dp : Nat} {un : Nat} {gd : Option (List Code)} {cn : Str} {cs : Scope} {a : Addr} {ccd : Value} {cl : List (Str × Addr)} {outer : List Env} {A₀ : Around} {base : Heap} {h₀ : Heap} {L : Addr} {m : Str → Option Value} {s : Shared} {Q : Value → Shared → Prop} {E : Value → Shared → Prop} {news : Led} {vs : List Value} (h : Pre w x news vs → Below A₀ base outer h₀ → Fr h₀ L s.heap m → (K w.params).In h₀ → News h₀ L s.heap news → Top p loose mean mg mb h₀ → cs.kind = .function → Nd news → (K w.params).In base → Top p loose mean mg mb base → KtsDicts (outer.filterMap (·.frame)) h₀ → dp + dep < recursionLimit → un + 40 * dep < cLine → (∀ r news' h' tk' h₀', KtsTurn (outer.filterMap (·.frame)) h₀ h₀' → Fr h₀' L h' m → News h₀' L h' news' → Below A₀ base outer h₀' → (K w.params).In h₀' → Top p loose mean mg mb h₀' → KtsDicts (outer.filterMap (·.frame)) h₀' → Nd news' → Post w x news news' r → Q r { s with heap := h', toks := tk' }) → wpAny (model prog w) (ktrTop dp un gd cn cs L a ccd cl outer) (call (.ref f) vs) Q E s) : SBT K prog f dep Pre Post x w p loose mean mg mb dp un gd cn cs a ccd cl outer A₀ base h₀ L m s Q E news vs := h
noncomputable def SpecAtT (K : Params → Frag) (prog : Program) (f : Addr) (dep : Nat) {X : Type} (Pre : World → X → Led → List Value → Prop) (Post : World → X → Led → Led → Value → Prop) (x : X) : Prop := ∀ c : PC, SBT K prog f dep Pre Post x c.w c.p c.loose c.mean c.mg c.mb c.dp c.un c.gd c.cn c.cs c.a c.ccd c.cl c.outer c.A₀ c.base c.h₀ c.L c.m c.s c.Q c.E c.news c.vs
theorem at_inT {K : Params → Frag} {prog : Program} {f : Addr} {dep : Nat} {X : Type} {Pre : World → X → Led → List Value → Prop} {Post : World → X → Led → Led → Value → Prop} {x : X} (h : ∀ c : PC, SBT K prog f dep Pre Post x c.w c.p c.loose c.mean c.mg c.mb c.dp c.un c.gd c.cn c.cs c.a c.ccd c.cl c.outer c.A₀ c.base c.h₀ c.L c.m c.s c.Q c.E c.news c.vs) : SpecAtT K prog f dep Pre Post x := h
theorem spec_atT {K : Params → Frag} {prog : Program} {f : Addr} {dep : Nat} {X : Type} {Pre : World → X → Led → List Value → Prop} {Post : World → X → Led → Led → Value → Prop} (h : ∀ x, SpecAtT K prog f dep Pre Post x) : SpecT K prog f dep Pre Post :=
  fun w p loose mean mg mb dp un gd cn cs a ccd cl outer A₀ base h₀ L m news s vs x Q E B F X N T hk ND XB TB D hpre hd hu ret => h x ⟨w, p, loose, mean, mg, mb, dp, un, gd, cn, cs, a, ccd, cl, outer, A₀, base, h₀, L, m, s, Q, E, news, vs⟩ hpre B F X N T hk ND XB TB D hd hu ret
theorem ne_bk : Nonempty Bk := by constructor; constructor <;> exact default
theorem ne_sy : Nonempty Sy := by constructor; constructor <;> exact default
theorem ne_lw : Nonempty Lw := by constructor; constructor <;> exact default
theorem ne_tk : Nonempty TKey := by constructor; constructor <;> exact default
end Mine
end
namespace Mine
open PyProof.Rows.LCg
noncomputable def PMA : Prop := True
noncomputable def PMB : Prop := True
noncomputable def PMC : Prop := True
noncomputable def PMD : Prop := True
noncomputable def PML : Prop := True
noncomputable def Pre0 (w : World) (x : Bk × Led) (news : Led) (vs : List Value) : Prop := news = bled w x.1 ++ x.2 ∧ vs = [.ref x.1.inst] ∧ x.1.fn.length < 900
noncomputable def Post0 (_w : World) (x : Bk × Led) (news news' : Led) (r : Value) : Prop := news' = news ∧ ∃ t, r = .int (x.1.fn.length : Nat) t
noncomputable def PreI (f : Bk → List Value) (w : World) (x : Bk × Led × Nat × Value) (news : Led) (vs : List Value) : Prop := news = bled w x.1 ++ x.2.1 ∧ (∃ t, vs = [.ref x.1.inst, .int (x.2.2.1 : Nat) t]) ∧ (f x.1)[x.2.2.1]? = some x.2.2.2 ∧ x.2.2.1 < 1000
noncomputable def PostI (_w : World) (x : Bk × Led × Nat × Value) (news news' : Led) (r : Value) : Prop := news' = news ∧ r = x.2.2.2
noncomputable def PreB (w : World) (x : Bk × Led × Bool) (news : Led) (vs : List Value) : Prop := news = bled w x.1 ++ x.2.1 ∧ vs = [.ref x.1.inst, .bool x.2.2]
noncomputable def PostB (_w : World) (x : Bk × Led × Bool) (news news' : Led) (r : Value) : Prop := news' = news ∧ ∃ t, r = .int (if x.2.2 then 1 else 2) t
noncomputable def PreD (w : World) (x : Bk × Led × Str × Tok × Addr × List Value × Nat × Int × Tok) (news : Led) (vs : List Value) : Prop := match x with
  | (b, rest, nm, t1, aA, its, n, res, t2) => news = bled w b ++ rest ∧ vs = [.ref b.inst, .str nm t1, .ref aA, .int res t2] ∧ (aA, tupOf its n) ∈ rest ∧ b.fn.length < 900 ∧ b.fa.length < 900 ∧ b.fr.length < 900
noncomputable def PostD (w : World) (x : Bk × Led × Str × Tok × Addr × List Value × Nat × Int × Tok) (_news news' : Led) (r : Value) : Prop := match x with
  | (b, rest, nm, t1, aA, _, _, res, t2) => news' = bled w { b with fn := b.fn ++ [.str nm t1], fnN := b.fnN + 1, fa := b.fa ++ [.ref aA], faN := b.faN + 1, fr := b.fr ++ [.int res t2], frN := b.frN + 1 } ++ rest ∧ ∃ t, r = .int (b.fn.length : Nat) t
noncomputable def PreS0 (w : World) (x : Bk × Sy × Led) (news : Led) (vs : List Value) : Prop := match x with
  | (b, y, rest) => news = bled w b ++ (sled w y ++ rest) ∧ vs = [.ref y.inst] ∧ y.sc.length < 900 ∧ y.br.length < 900
noncomputable def PostDp (_w : World) (x : Bk × Sy × Led) (news news' : Led) (r : Value) : Prop := match x with
  | (_, y, _) => news' = news ∧ ∃ t, r = .int (y.sc.length : Nat) t
noncomputable def PostPush (w : World) (x : Bk × Sy × Led) (_news news' : Led) (r : Value) : Prop := match x with
  | (b, y, rest) => ∃ t, news' = bled w b ++ (sled w { y with sc := y.sc ++ [.int (y.br.length : Nat) t], scN := y.scN + 1 } ++ rest) ∧ r = .none
noncomputable def PreU (w : World) (x : Bk × Sy × Led × Nat × Tok) (news : Led) (vs : List Value) : Prop := match x with
  | (b, y, rest, k, t) => news = bled w b ++ (sled w y ++ rest) ∧ vs = [.ref y.inst, .int (k : Nat) t] ∧ k ≤ y.le.length ∧ y.le.length < 900
noncomputable def PostU (w : World) (x : Bk × Sy × Led × Nat × Tok) (_news news' : Led) (r : Value) : Prop := match x with
  | (b, y, rest, k, _) => ∃ n, news' = bled w b ++ (sled w { y with le := y.le.take k, leN := n } ++ rest) ∧ r = .none
noncomputable def PreR (prog : Program) (w : World) (x : Bk × Sy × Led × List (Str × Value) × Nat × Tok) (news : Led) (vs : List Value) : Prop := match x with
  | (b, y, rest, kvs, k, t) => news = bled w b ++ (sled w y ++ rest) ∧ vs = [.ref y.inst, .int (k : Nat) t] ∧ y.fuO.IsDictOf (PySem.strKind prog w) kvs ∧ BrOK rest y.br (kvs.map (·.1)) ∧ k ≤ kvs.length ∧ kvs.length < 900
noncomputable def PostR (prog : Program) (w : World) (x : Bk × Sy × Led × List (Str × Value) × Nat × Tok) (_news news' : Led) (r : Value) : Prop := match x with
  | (b, y, rest, kvs, k, _) => ∃ n fo, news' = bled w b ++ (sled w { y with br := y.br.take k, brN := n, fuO := fo } ++ rest) ∧ fo.IsDictOf (PySem.strKind prog w) (kvs.take k) ∧ r = .none
noncomputable def PrePp (prog : Program) (w : World) (x : Bk × Sy × Led × List (Str × Value) × List Value × Nat × Tok) (news : Led) (vs : List Value) : Prop := match x with
  | (b, y, rest, kvs, sc, k, t) => news = bled w b ++ (sled w y ++ rest) ∧ vs = [.ref y.inst] ∧ y.sc = sc ++ [.int (k : Nat) t] ∧ sc.length < 900 ∧ y.fuO.IsDictOf (PySem.strKind prog w) kvs ∧ BrOK rest y.br (kvs.map (·.1)) ∧ k ≤ kvs.length ∧ kvs.length < 900
noncomputable def PostPp (prog : Program) (w : World) (x : Bk × Sy × Led × List (Str × Value) × List Value × Nat × Tok) (_news news' : Led) (r : Value) : Prop := match x with
  | (b, y, rest, kvs, sc, k, _) => ∃ n n2 fo, news' = bled w b ++ (sled w { y with sc := sc, scN := n2, br := y.br.take k, brN := n, fuO := fo } ++ rest) ∧ fo.IsDictOf (PySem.strKind prog w) (kvs.take k) ∧ r = .none
noncomputable def PreBd (w : World) (x : Bk × Sy × Led × Addr × Addr × List (Str × Tok × Value) × Nat × Nat) (news : Led) (vs : List Value) : Prop := match x with
  | (b, y, rest, nA, tA, ps, n1, n2) => news = bled w b ++ (sled w y ++ rest) ∧ vs = [.ref y.inst, .ref nA, .ref tA] ∧ (nA, listOf (ps.map fun p => Value.str p.1 p.2.1).toArray n1) ∈ rest ∧ (tA, listOf (ps.map (·.2.2)).toArray n2) ∈ rest ∧ (ps.map (·.1)).Nodup ∧ ps.length < 100 ∧ y.le.length < 900
noncomputable def PostBd (prog : Program) (w : World) (x : Bk × Sy × Led × Addr × Addr × List (Str × Tok × Value) × Nat × Nat) (_news news' : Led) (r : Value) : Prop := match x with
  | (b, y, rest, _, _, ps, _, _) => ∃ d o, news' = bled w b ++ (sled w { y with le := y.le ++ [.ref d], leN := y.leN + 1 } ++ ((d, o) :: rest)) ∧ (d == sysModules) = false ∧ o.IsDictOf (PySem.strKind prog w) (ps.map fun p => (p.1, p.2.2)) ∧ r = .none
theorem stored_new {ps : List (Str × Tok × Value)} {i : Nat} {p : Str × Tok × Value} (hn : (ps.map (·.1)).Nodup) (h : ps[i]? = some p) :
    stored ((ps.take i).map fun p => (p.1, p.2.2)) p.1 p.2.2 = (ps.take (i + 1)).map fun p => (p.1, p.2.2) := by
  have hi : i < ps.length := by
    cases Nat.lt_or_ge i ps.length with
    | inl q => exact q
    | inr q => rw [List.getElem?_eq_none q] at h; cases h
  have e : ps.take (i + 1) = ps.take i ++ [p] := by rw [List.take_add_one, h]; rfl
  unfold stored
  rw [if_neg, e, List.map_append]
  · rfl
  · intro q
    obtain ⟨⟨a1, a2⟩, ha, hk⟩ := List.any_eq_true.mp q
    obtain ⟨z, hz, ez⟩ := List.mem_map.mp ha
    simp only [decide_eq_true_eq] at hk
    have : (ps.take (i + 1)).map (·.1) |>.Nodup := hn.sublist ((List.take_sublist _ _).map _)
    rw [e, List.map_append, List.nodup_append] at this
    exact this.2.2 z.1 (List.mem_map_of_mem hz) p.1 (by simp) (by rw [← hk]; exact congrArg Prod.fst ez)
noncomputable def PreBo (prog : Program) (w : World) (x : Bk × Sy × Led × Str × Tok × List (List (Str × Value))) (news : Led) (vs : List Value) : Prop := match x with
  | (b, y, rest, nm, t, ts) => news = bled w b ++ (sled w y ++ rest) ∧ vs = [.ref y.inst, .str nm t] ∧ LetsOK prog w rest y.le ts ∧ ts.length < 900
noncomputable def PostBo (_w : World) (x : Bk × Sy × Led × Str × Tok × List (List (Str × Value))) (news news' : Led) (r : Value) : Prop := match x with
  | (_, _, _, nm, _, ts) => news' = news ∧ (lookRev ts nm = some r ∨ (lookRev ts nm = none ∧ ∃ t, r = .int 0 t))
noncomputable def PreX (_w : World) (x : Value) (_news : Led) (vs : List Value) : Prop := vs = [x]
noncomputable def PostX (_w : World) (_x : Value) (news news' : Led) (r : Value) : Prop := ∃ e a0 d, r = .ref e ∧ news' = (e, excO 67 (.ref a0) (some d)) :: news
theorem inst_exc {h : Heap} {x C : Addr} {a0 : Value} (e : h.get? x = some (excO C a0 none)) : InstAt h x (excO C a0 none) C none := ⟨e, rfl, rfl, trivial⟩
noncomputable def PreBf (prog : Program) (w : World) (x : Bk × Sy × Led × Str × Tok × Addr × List (Str × Value)) (news : Led) (vs : List Value) : Prop := match x with
  | (b, y, rest, nm, t, en, kvs) => news = bled w b ++ (sled w y ++ rest) ∧ vs = [.ref y.inst, .str nm t, .ref en] ∧ nm ∈ five ∧ y.fuO.IsDictOf (PySem.strKind prog w) kvs ∧ (y.fuA == sysModules) = false ∧ kvs.length < 100 ∧ y.br.length < 900
noncomputable def PostBf (prog : Program) (w : World) (x : Bk × Sy × Led × Str × Tok × Addr × List (Str × Value)) (_news news' : Led) (r : Value) : Prop := match x with
  | (b, y, rest, nm, _, en, kvs) => nm ≠ "true" ∧ nm ≠ "false" ∧ valueAt kvs nm = none ∧ ∃ o a t1 t2 n n2, news' = bled w b ++ (sled w { y with fuO := o, br := y.br ++ [.ref a], brN := n } ++ ((a, tupOf [.str "fun" t1, .str nm t2] n2) :: rest)) ∧ o.IsDictOf (PySem.strKind prog w) (kvs ++ [(nm, .ref en)]) ∧ r = .none
noncomputable def PostBfR (_w : World) (x : Bk × Sy × Led × Str × Tok × Addr × List (Str × Value)) (news news' : Led) : Prop := match x with
  | (_, _, _, nm, _, _, kvs) => news' = news ∧ (nm = "true" ∨ nm = "false" ∨ (valueAt kvs nm).isSome = true)
noncomputable def PreFe (_w : World) (x : Value × Value × Value × Value × Value) (_news : Led) (vs : List Value) : Prop := match x with
  | (a, b, c, d, e) => vs = [a, b, c, d, e]
noncomputable def PostFe (w : World) (x : Value × Value × Value × Value × Value) (news news' : Led) (r : Value) : Prop := match x with
  | (a, b, c, d, e) => ∃ i j t0 t1 t2 t3 t4, r = .ref i ∧ news' = (i, instObj 427 j) :: (j, dictOf (feAttrs w t0 t1 t2 t3 t4 a b c d e) 5) :: news
noncomputable def PreId (w : World) (x : Addr × Addr × Tok × Tok × Tok × Tok × Tok × Value × Value × Value × Value × Int × Tok × Nat) (news : Led) (vs : List Value) : Prop := match x with
  | (i, j, t0, t1, t2, t3, t4, v0, v1, v2, v3, k, tk, n) => vs = [.ref i] ∧ (i, instObj 427 j) ∈ news ∧ (j, dictOf (feAttrs w t0 t1 t2 t3 t4 v0 v1 v2 v3 (.int k tk)) n) ∈ news
noncomputable def PostId (_w : World) (x : Addr × Addr × Tok × Tok × Tok × Tok × Tok × Value × Value × Value × Value × Int × Tok × Nat) (news news' : Led) (r : Value) : Prop := match x with
  | (_, _, _, _, _, _, _, _, _, _, _, k, _, _) => news' = news ∧ r = .bool (decide (k ≠ 0))
noncomputable def PreDf (prog : Program) (w : World) (x : Bk × Sy × Led × Str × Tok × Addr × List Value × Nat × Int × Tok × List (Str × Value)) (news : Led) (vs : List Value) : Prop := match x with
  | (b, y, rest, nm, t, aA, its, an, res, t2, kvs) => news = bled w b ++ (sled w y ++ rest) ∧ vs = [.ref y.inst, .str nm t, .ref aA, .int res t2] ∧ y.bk = b.inst ∧ (aA, tupOf its an) ∈ rest ∧ nm ∈ five ∧ y.fuO.IsDictOf (PySem.strKind prog w) kvs ∧ (y.fuA == sysModules) = false ∧ kvs.length < 100 ∧ y.br.length < 900 ∧
    b.fn.length < 900 ∧ b.fa.length < 900 ∧ b.fr.length < 900
noncomputable def PostDf (prog : Program) (w : World) (x : Bk × Sy × Led × Str × Tok × Addr × List Value × Nat × Int × Tok × List (Str × Value)) (_news news' : Led) (r : Value) : Prop := match x with
  | (b, y, rest, nm, t, aA, its, an, res, t2, kvs) => nm ≠ "true" ∧ nm ≠ "false" ∧ valueAt kvs nm = none ∧ ∃ o a t1 t3 n n2 i j s0 s1 s2 s3 s4 hA tf t0 hn, news' = bled w { b with fn := b.fn ++ [.str nm t], fnN := b.fnN + 1, fa := b.fa ++ [.ref aA], faN := b.faN + 1, fr := b.fr ++ [.int res t2], frN := b.frN + 1 } ++
      (sled w { y with fuO := o, br := y.br ++ [.ref a], brN := n } ++ ((a, tupOf [.str "fun" t1, .str nm t3] n2) :: (i, instObj 427 j) :: (j, dictOf (feAttrs w s0 s1 s2 s3 s4 (.int (b.fn.length : Nat) tf) (.ref aA) (.int res t2) (.ref hA) (.int 0 t0)) 5) :: (hA, tupOf [] hn) :: rest)) ∧
      o.IsDictOf (PySem.strKind prog w) (kvs ++ [(nm, .ref i)]) ∧ ∃ tr, r = .int (b.fn.length : Nat) tr
noncomputable def PostDfR (_w : World) (x : Bk × Sy × Led × Str × Tok × Addr × List Value × Nat × Int × Tok × List (Str × Value)) (_news news' : Led) : Prop := match x with
  | (b, y, rest, nm, t, aA, its, an, res, t2, kvs) => (nm = "true" ∨ nm = "false" ∨ (valueAt kvs nm).isSome = true) ∧ ∃ new, news' = bled _w b ++ (sled _w y ++ (new ++ rest))
noncomputable def PreDn (prog : Program) (w : World) (x : Bk × Sy × Led × Str × Tok × Addr × Nat × List (Nat × Tok × Value) × Nat × Tok × Value × List (Str × Value)) (news : Led) (vs : List Value) : Prop := match x with
  | (b, y, rest, nm, t, hA, hn, us, k, tb, so, kvs) => news = bled w b ++ (sled w y ++ rest) ∧ vs = [.ref y.inst, .str nm t, .ref hA, .int (k : Nat) tb] ∧ y.bk = b.inst ∧ (hA, tupOf (us.map fun u => .int (u.1 : Nat) u.2.1) hn) ∈ rest ∧ nm ∈ five ∧ y.fuO.IsDictOf (PySem.strKind prog w) kvs ∧ (y.fuA == sysModules) = false ∧ kvs.length < 100 ∧ y.br.length < 900 ∧
    b.so[k]? = some so ∧ k < 900 ∧ us.length ≤ 10 ∧ ∀ u ∈ us, b.so[u.1]? = some u.2.2 ∧ u.1 < 900
noncomputable def PostDn (prog : Program) (w : World) (x : Bk × Sy × Led × Str × Tok × Addr × Nat × List (Nat × Tok × Value) × Nat × Tok × Value × List (Str × Value)) (_news news' : Led) (r : Value) : Prop := match x with
  | (b, y, rest, nm, _, hA, _, us, k, tb, so, kvs) => nm ≠ "true" ∧ nm ≠ "false" ∧ valueAt kvs nm = none ∧ ∃ o a t1 t3 n n2 i j s0 s1 s2 s3 s4 v0 sA sn new, news' = bled w b ++ (sled w { y with fuO := o, br := y.br ++ [.ref a], brN := n } ++ ((a, tupOf [.str "fun" t1, .str nm t3] n2) ::
      (i, instObj 427 j) :: (j, dictOf (feAttrs w s0 s1 s2 s3 s4 v0 (.ref sA) so (.ref hA) (.int (k : Nat) tb)) 5) :: (sA, tupOf (us.map (·.2.2)) sn) :: (new ++ rest))) ∧ o.IsDictOf (PySem.strKind prog w) (kvs ++ [(nm, .ref i)]) ∧ r = .none
noncomputable def PostDnR (w : World) (x : Bk × Sy × Led × Str × Tok × Addr × Nat × List (Nat × Tok × Value) × Nat × Tok × Value × List (Str × Value)) (_news news' : Led) : Prop := match x with
  | (b, y, rest, nm, _, _, _, _, _, _, _, kvs) => (nm = "true" ∨ nm = "false" ∨ (valueAt kvs nm).isSome = true) ∧ ∃ new, news' = bled w b ++ (sled w y ++ (new ++ rest))
/-- what a try to bring leaves -/
noncomputable def Brought (prog : Program) (w : World) (b : Bk) (y : Sy) (rest : Led) (nm : Str) (kvs : List (Str × Value)) (bs : List (Str × Nat × Nat)) (kind val : Nat) (news' : Led) (r : Value) : Prop :=
  (r = .bool false ∧ (nm = "true" ∨ nm = "false" ∨ lookB bs nm ≠ none) ∧ ∃ new, news' = bled w b ++ (sled w y ++ (new ++ rest))) ∨
  (r = .bool true ∧ nm ≠ "true" ∧ nm ≠ "false" ∧ lookB bs nm = none ∧ ∃ b' o a n new en, news' = bled w b' ++ (sled w { y with fuO := o, br := y.br ++ [.ref a], brN := n } ++ (new ++ rest)) ∧ o.IsDictOf (PySem.strKind prog w) (kvs ++ [(nm, .ref en)]) ∧
    EntAt w b' new en kind val ∧ (∃ t1 t2 tn, (a, tupOf [.str "fun" t1, .str nm t2] tn) ∈ new) ∧ BFuns b b')
noncomputable def PreIb (prog : Program) (w : World) (x : Bk × Sy × Led × Nat × Tok × Str × Tok × Nat × Tok × Nat × Tok × List (Str × Value) × List (Str × Nat × Nat)) (news : Led) (vs : List Value) : Prop := match x with
  | (b, y, rest, way, tw, nm, tn, k1, t1, k2, t2, kvs, bs) => news = bled w b ++ (sled w y ++ rest) ∧ vs = [.ref y.inst, .int (way : Nat) tw, .str nm tn, .int (k1 : Nat) t1, .int (k2 : Nat) t2] ∧ way < 4 ∧ y.bk = b.inst ∧ nm ∈ five ∧ y.fuO.IsDictOf (PySem.strKind prog w) kvs ∧ (y.fuA == sysModules) = false ∧ FunsOK w b rest kvs bs ∧ kvs.length < 100 ∧ y.br.length < 900 ∧
    b.fn.length < 900 ∧ b.fa.length = b.fn.length ∧ b.fr.length = b.fn.length ∧ k1 < 900 ∧ 0 < k2 ∧ k2 < 900 ∧ (∃ v, b.so[k1]? = some v) ∧ (∃ v, b.so[k2]? = some v)
noncomputable def wayKind : Nat → Nat
  | 0 => 2
  | 2 => 1
  | _ => 0
noncomputable def PostIb (prog : Program) (w : World) (x : Bk × Sy × Led × Nat × Tok × Str × Tok × Nat × Tok × Nat × Tok × List (Str × Value) × List (Str × Nat × Nat)) (_news news' : Led) (r : Value) : Prop := match x with
  | (b, y, rest, way, _, nm, _, _, _, k2, _, kvs, bs) => Brought prog w b y rest nm kvs bs (wayKind way) (if way = 0 then b.fn.length else k2) news' r
theorem brought_no {prog : Program} {w : World} {b : Bk} {y : Sy} {rest mid : Led} {nm : Str} {kvs : List (Str × Value)} {bs : List (Str × Nat × Nat)} {kind val : Nat} {new : Led} (hfun : FunsOK w b rest kvs bs) (h : nm = "true" ∨ nm = "false" ∨ (valueAt kvs nm).isSome = true) :
    Brought prog w b y rest nm kvs bs kind val (bled w b ++ (sled w y ++ (new ++ (mid ++ rest)))) (.bool false) := by
  refine .inl ⟨rfl, ?_, new ++ mid, by rw [List.append_assoc]⟩
  rcases h with h | h | h
  · exact .inl h
  · exact .inr (.inl h)
  · right; right
    intro e
    rcases hfun.look with ⟨h1, _⟩ | ⟨en, kd, vl, _, h2, _⟩
    · rw [h1] at h; cases h
    · rw [e] at h2; cases h2
theorem funs_none {w : World} {b : Bk} {r : Led} {nm : Str} {kvs : List (Str × Value)} {bs : List (Str × Nat × Nat)} (hfun : FunsOK w b r kvs bs) (h : valueAt kvs nm = none) : lookB bs nm = none := by
  rcases hfun.look with ⟨_, h2⟩ | ⟨en, kd, vl, h1, _, _⟩
  · exact h2
  · rw [h] at h1; cases h1
theorem brought_df {prog : Program} {w : World} {b : Bk} {y : Sy} {rest mid : Led} {nm : Str} {t : Tok} {aA : Addr} {its : List Value} {an : Nat} {t2 : Tok} {kvs : List (Str × Value)} {bs : List (Str × Nat × Nat)} {kind val : Nat} {news news' : Led} {r : Value} (hfun : FunsOK w b rest kvs bs)
    (hm : (aA, tupOf its an) ∈ mid) (hk : (kind = 0 ∧ ∃ v, its = [v]) ∨ (kind = 2 ∧ its = [] ∧ val = b.fn.length)) (hl1 : b.fn.length < 900) (hl2 : b.fa.length = b.fn.length) (hl3 : b.fr.length = b.fn.length)
    (h : PostDf prog w (b, y, mid ++ rest, nm, t, aA, its, an, 0, t2, kvs) news news' r) : Brought prog w b y rest nm kvs bs kind val news' (.bool true) := by
  obtain ⟨h1, h2, h3, h⟩ := h
  refine ex17 h ?_
  clear h
  rintro o a t1 t3 n n2 i j s0 s1 s2 s3 s4 hA tf t0 hn ⟨rfl, ho, -⟩
  refine .inr ⟨rfl, h1, h2, funs_none hfun h3, _, o, a, n, (a, tupOf [.str "fun" t1, .str nm t3] n2) :: (i, instObj 427 j) :: (j, dictOf (feAttrs w s0 s1 s2 s3 s4 (.int (b.fn.length : Nat) tf) (.ref aA) (.int 0 t2) (.ref hA) (.int 0 t0)) 5) :: (hA, tupOf [] hn) :: mid, i, rfl, ho, ?_, ⟨t1, t3, n2, List.mem_cons_self⟩, ⟨[.str nm t], b.fnN + 1, [.ref aA], b.faN + 1, [.int 0 t2], b.frN + 1, by simp, rfl, rfl, rfl⟩⟩
  refine ⟨j, s0, s1, s2, s3, s4, _, aA, _, _, 0, t0, 5, its, an, (List.mem_cons_of_mem _ List.mem_cons_self), (List.mem_cons_of_mem _ (List.mem_cons_of_mem _ List.mem_cons_self)), (List.mem_cons_of_mem _ (List.mem_cons_of_mem _ (List.mem_cons_of_mem _ (List.mem_cons_of_mem _ hm)))), ?_⟩
  rcases hk with ⟨hk, v, hv⟩ | ⟨rfl, rfl, rfl⟩
  · exact .args v hk hv
  · refine .const tf aA an t2 rfl rfl rfl hl1 rfl ?_ (List.mem_cons_of_mem _ (List.mem_cons_of_mem _ (List.mem_cons_of_mem _ (List.mem_cons_of_mem _ hm)))) ?_
    · show (b.fa ++ [_])[b.fn.length]? = _
      rw [← hl2]; simp
    · show (b.fr ++ [_])[b.fn.length]? = _
      rw [← hl3]; simp
theorem brought_dn {prog : Program} {w : World} {b : Bk} {y : Sy} {rest mid : Led} {nm : Str} {t : Tok} {hA : Addr} {hn : Nat} {us : List (Nat × Tok × Value)} {k : Nat} {tb : Tok} {so : Value} {kvs : List (Str × Value)} {bs : List (Str × Nat × Nat)} {kind val : Nat} {news news' : Led} {r : Value} (hfun : FunsOK w b rest kvs bs)
    (hk : (kind = 0 ∧ ∃ u, us = [u]) ∨ (kind = 1 ∧ us = [] ∧ val = k ∧ 0 < k))
    (h : PostDn prog w (b, y, mid ++ rest, nm, t, hA, hn, us, k, tb, so, kvs) news news' r) : Brought prog w b y rest nm kvs bs kind val news' (.bool true) := by
  obtain ⟨h1, h2, h3, h⟩ := h
  refine ex17 h ?_
  clear h
  rintro o a t1 t3 n n2 i j s0 s1 s2 s3 s4 v0 sA sn new ⟨rfl, ho, -⟩
  refine .inr ⟨rfl, h1, h2, funs_none hfun h3, b, o, a, n, (a, tupOf [.str "fun" t1, .str nm t3] n2) :: (i, instObj 427 j) :: (j, dictOf (feAttrs w s0 s1 s2 s3 s4 v0 (.ref sA) so (.ref hA) (.int (k : Nat) tb)) 5) :: (sA, tupOf (us.map (·.2.2)) sn) :: (new ++ mid), i, by simp only [List.cons_append, List.append_assoc], ho, ?_, ⟨t1, t3, n2, List.mem_cons_self⟩, .refl b⟩
  refine ⟨j, s0, s1, s2, s3, s4, v0, sA, so, _, k, tb, 5, us.map (·.2.2), sn, (List.mem_cons_of_mem _ List.mem_cons_self), (List.mem_cons_of_mem _ (List.mem_cons_of_mem _ List.mem_cons_self)), (List.mem_cons_of_mem _ (List.mem_cons_of_mem _ (List.mem_cons_of_mem _ List.mem_cons_self))), ?_⟩
  rcases hk with ⟨rfl, u, rfl⟩ | ⟨rfl, rfl, rfl, hp⟩
  · exact .args _ rfl rfl
  · exact .body rfl rfl rfl (by omega)
theorem Full.preIb {prog : Program} {w : World} {b : Bk} {y : Sy} {t : Lw} {rest R : Led} {el : Addr} {ts : List (List (Str × Value))} {kvs : List (Str × Value)} {bs : List (Str × Nat × Nat)} {xs : List (TKey × Addr × Value)} {ks : List Nat} {kd n way k1 k4 : Nat} {tw tn t1 t4 : Tok} {nm : Str} (I : Full prog w b y t rest el ts kvs bs xs ks kd n) (hs : ∀ p ∈ rest, p ∈ R) (hw : way < 4) (hnm : nm ∈ five) (hop : b.op.length < 900) (h4 : k4 < b.op.length) (h1 : k1 < b.op.length) (h1p : 0 < k1) :
    PreIb prog w (b, y, R, way, tw, nm, tn, k4, t4, k1, t1, kvs, bs) (bled w b ++ (sled w y ++ R)) [.ref y.inst, .int (way : Nat) tw, .str nm tn, .int (k4 : Nat) t4, .int (k1 : Nat) t1] := by
  have V := I.inv
  have lso := V.bok.lso
  have hbr : y.br.length = kvs.length := by rw [V.bro.1, List.length_map]
  have := V.kl
  have := V.fl
  exact ⟨rfl, rfl, hw, V.bk, hnm, V.fu, V.lo, V.funs.mono (.refl b) hs, by omega, by omega, by omega, V.fl2, V.fl3, by omega, h1p, by omega, ⟨_, List.getElem?_eq_getElem (by omega)⟩, ⟨_, List.getElem?_eq_getElem (by omega)⟩⟩
theorem BExt.ge {b b' : Bk} (h : BExt b b') : b.op.length ≤ b'.op.length := by
  obtain ⟨l1, n1, l2, n2, l3, n3, l4, n4, o, rfl⟩ := h
  simp
noncomputable def PostAr2 (prog : Program) (w : World) (x : Bk × Sy × Lw × Led × Addr × List (List (Str × Value)) × List (Str × Value) × List (Str × Nat × Nat) × List (TKey × Addr × Value)) (_news news' : Led) (r : Value) : Prop := match x with
  | (b, y, t, rest, el, ts, kvs, bs, _) => ∃ b' new xs', news' = bled w b' ++ (sled w y ++ (tled t ++ (new ++ rest))) ∧ Inv prog w b' y t (new ++ rest) el ts kvs bs xs' ∧ (b.op.length ≤ b'.op.length ∧ b'.op.length ≤ b.op.length + 10) ∧ b'.fn = b.fn ∧ r = .bool true
noncomputable def PreBi (_w : World) (_x : Unit) (_news : Led) (vs : List Value) : Prop := vs = []
noncomputable def PostBi (prog : Program) (w : World) (_x : Unit) (news news' : Led) (r : Value) : Prop :=
  ∃ b new xs, r = .ref b.inst ∧ news' = bled w b ++ (new ++ news) ∧ BOKx prog w b new xs ∧ BKey xs 1 ⟨"true", [], 0, 0⟩ ∧ BKey xs 2 ⟨"false", [], 0, 0⟩ ∧ b.fn = [] ∧ b.fa = [] ∧ b.fr = [] ∧ b.op.length = 3
theorem fin1 {P new rest : Led} {a c : Addr × Obj} : P ++ (new ++ (a :: c :: rest)) = P ++ ((new ++ [a, c]) ++ rest) := by rw [List.append_assoc]; rfl
theorem BExt.fas {b b' : Bk} (h : BExt b b') : b'.fa = b.fa ∧ b'.fr = b.fr := by
  obtain ⟨l1, n1, l2, n2, l3, n3, l4, n4, o, rfl⟩ := h
  exact ⟨rfl, rfl⟩
noncomputable def PreFc (prog : Program) (w : World) (x : Bk × Led × Led × Str × Tok × Int × Tok × List (TKey × Addr × Value)) (news : Led) (vs : List Value) : Prop := match x with
  | (b, rest, r0, nm, t1, so, t2, xs) => news = bled w b ++ rest ∧ vs = [.ref b.inst, .str nm t1, .int so t2] ∧ (∀ p ∈ r0, p ∈ rest) ∧ BOKx prog w b r0 xs ∧ b.fn.length < 900 ∧ b.fa.length < 900 ∧ b.fr.length < 900 ∧ b.op.length < 900
noncomputable def PostFc (prog : Program) (w : World) (x : Bk × Led × Led × Str × Tok × Int × Tok × List (TKey × Addr × Value)) (_news news' : Led) (r : Value) : Prop := match x with
  | (b, rest, r0, _, _, so, _, xs) => ∃ b' new n t xs', r = .int (n : Nat) t ∧ news' = bled w b' ++ (new ++ rest) ∧ BOKx prog w b' (new ++ r0) xs' ∧ BKey xs' n ⟨"app", [], so, (b.fn.length : Nat)⟩ ∧ (∀ z ∈ xs, z ∈ xs') ∧ b'.inst = b.inst ∧ b'.fn.length = b.fn.length + 1 ∧ b'.fa.length = b.fa.length + 1 ∧ b'.fr.length = b.fr.length + 1 ∧ b'.op.length ≤ b.op.length + 1
noncomputable def PreWa (w : World) (x : Bk × Led × Nat × Tok × Int × Tok × Tok × Str × Tok) (news : Led) (vs : List Value) : Prop := match x with
  | (b, rest, k, t1, so, t2, t3, wh, t4) => news = bled w b ++ rest ∧ vs = [.ref b.inst, .int (k : Nat) t1, .int so t2, .str wh t4] ∧ b.so[k]? = some (.int so t3) ∧ k < 900
noncomputable def PreNo (prog : Program) (w : World) (x : Bk × Led × Led × Nat × Tok × Int × List (TKey × Addr × Value)) (news : Led) (vs : List Value) : Prop := match x with
  | (b, rest, r0, k, t1, f, xs) => news = bled w b ++ rest ∧ vs = [.ref b.inst, .int (k : Nat) t1] ∧ (∀ p ∈ r0, p ∈ rest) ∧ BOKx prog w b r0 xs ∧ BKey xs k ⟨"app", [], 0, f⟩ ∧ BKey xs 1 ⟨"true", [], 0, 0⟩ ∧ BKey xs 2 ⟨"false", [], 0, 0⟩ ∧ b.op.length < 800
theorem not_lit {prog : Program} {w : World} {b : Bk} {r : Led} {xs : List (TKey × Addr × Value)} (H : BOKx prog w b r xs) {k n : Nat} {k1 k2 : TKey} (h : BKey xs k k1) (h' : BKey xs n k2) (hne : k1.op ≠ k2.op) : k ≠ n := by
  rintro rfl
  obtain ⟨-, -, ⟨t1, e1⟩, -⟩ := h.term H
  obtain ⟨-, -, ⟨t2, e2⟩, -⟩ := h'.term H
  rw [e1] at e2
  injection e2 with e2
  injection e2 with e2
  exact hne e2
noncomputable def PreAn (prog : Program) (w : World) (x : Bk × Led × Led × Addr × Nat × Nat × Tok × Tok × Nat × Tok × Tok × List (TKey × Addr × Value)) (news : Led) (vs : List Value) : Prop := match x with
  | (b, rest, r0, a, n, k1, t1, s1, k2, t2, s2, xs) => news = bled w b ++ rest ∧ vs = [.ref b.inst, .ref a] ∧ (a, listOf [.int (k1 : Nat) t1, .int (k2 : Nat) t2].toArray n) ∈ rest ∧ (∀ p ∈ r0, p ∈ rest) ∧ BOKx prog w b r0 xs ∧ b.so[k1]? = some (.int 0 s1) ∧ b.so[k2]? = some (.int 0 s2) ∧ k1 < 800 ∧ k2 < 800 ∧ b.op.length < 800
noncomputable def PreSyi (_w : World) (b : Addr) (_news : Led) (vs : List Value) : Prop := vs = [.ref b]
noncomputable def PostSyi (prog : Program) (w : World) (b : Addr) (news news' : Led) (r : Value) : Prop :=
  ∃ y p, r = .ref y.inst ∧ news' = sled w y ++ (p :: news) ∧ y.bk = b ∧ y.br = [] ∧ y.sc = [] ∧ y.le = [] ∧ y.fuO.IsDictOf (PySem.strKind prog w) [] ∧ (y.fuA == sysModules) = false
noncomputable def PreSr (_w : World) (x : Value × Value) (_news : Led) (vs : List Value) : Prop := vs = [x.1, x.2]
noncomputable def PostSr (_w : World) (_x : Value × Value) (news news' : Led) (r : Value) : Prop := ∃ i j o, r = .ref i ∧ news' = (i, instObj 682 j) :: (j, o) :: news
noncomputable def PreCe (_w : World) (x : Addr × Addr) (_news : Led) (vs : List Value) : Prop := vs = [.ref x.1, .ref x.2]
noncomputable def PostCe (w : World) (x : Addr × Addr) (news news' : Led) (r : Value) : Prop := ∃ el new, r = .ref el ∧ news' = new ++ news ∧ ElAt w new el x.1 x.2
set_option hygiene false
local macro_rules | `(tactic| walk_at "qa") => `(tactic| ((case k1m => k_asm); (case k2m => k_asm); (case k3m => assumption); (case k4m => exact Nat.le_of_ble_eq_true rfl)))
local macro_rules | `(tactic| walk_at "qb") => `(tactic| ((case Fm => k_asm); (case Nm => k_asm); (case NDm => assumption); (case hmm => k_mem)))
local macro_rules | `(tactic| walk_at "qc") => `(tactic| ((case sm => with_unfolding_all rfl); (case tm => kmk_pure); (case zm => ((try dsimp only); omega))))
local macro_rules | `(tactic| walk_at "qf") => `(tactic| ((case Nm => k_asm); (case hpm => k_mem); (case hdm => assumption)))
set_option hygiene true
local macro_rules | `(tactic| walk_at "qg") => `(tactic| ((intro x' h' F' N' ND'); (try k_sweep)))
set_option hygiene false
local macro_rules | `(tactic| walk_at "qh") => `(tactic| ((first | omega | (simp only [List.length_append, List.length_cons, List.length_nil]; omega))))
local macro_rules | `(tactic| walk_at "qi") => `(tactic| ((case k1m => k_asm); (case k2m => k_mem)))
local macro_rules | `(tactic| walk_at "qj") => `(tactic| ((case k1m => k_asm); (case k2m => k_asm)))
local macro_rules | `(tactic| walk_at "qk") => `(tactic| ((repeat (with_reducible refine fits_app (by first | assumption | decide +kernel) ?_)); with_reducible exact fits_0))
local macro_rules | `(tactic| walk_at "ql") => `(tactic| ((case hbm => exact isSome_of (by assumption))))
local macro_rules | `(tactic| walk_at "qm") => `(tactic| ((case hbm => exact isNone_of (by assumption))))
local macro_rules | `(tactic| walk_at "qn") => `(tactic| ((with_reducible show wpAny _ _ (call (Value.builtin _) [Value.ref _]) _ _ _)))
local macro_rules | `(tactic| walk_at "qo") => `(tactic| ((with_reducible show wpAny _ _ (subscriptTail _ (PySem.Expr.Slice none none (some _) _) (Value.ref _) (Value.ref _)) _ _ _)))
local macro_rules | `(tactic| walk_at "qp") => `(tactic| ((with_reducible show wpAny _ _ (subscriptTail _ (PySem.Expr.Slice none (some _) none _) (Value.ref _) (Value.ref _)) _ _ _)))
local macro_rules | `(tactic| walk_at "qq") => `(tactic| ((with_reducible show wpAny _ _ (exec _ _) _ _ _)))
local macro_rules | `(tactic| walk_at "qr") => `(tactic| (refine hold_of ?_))
set_option hygiene true
local macro_rules | `(tactic| walk_at "qs") => `(tactic| ((intro d' h' o' F' N' ND' lo' hd'); (try k_sweep)))
local macro_rules | `(tactic| walk_at "qt") => `(tactic| ((intro t' tk'); (try dsimp only)))
local macro_rules | `(tactic| walk_at "qu") => `(tactic| ((intro h' F' N'); (try dsimp only at N'); (have ND' := nd_of N' (by assumption) (by exact rfl)); (try k_sweep)))
set_option hygiene false
local macro_rules | `(tactic| walk_at "qv") => `(tactic| ((with_reducible show wpAny _ _ (call (Value.builtin _) [Value.ref _, _]) _ _ _)))
local macro_rules | `(tactic| walk_at "qw") => `(tactic| ((case k1m => k_asm); (case k2m => ((repeat (with_reducible refine look_skip (by decide) ?_)); with_reducible assumption)); k_whole))
local macro_rules | `(tactic| walk_at "qx") => `(tactic| ((case kom => first | exact .inl rfl | exact .inr rfl)))
local macro_rules | `(tactic| walk_at "qy") => `(tactic| ((case k4m => first | exact Nat.le_of_ble_eq_true rfl | assumption | omega)))
local macro_rules | `(tactic| walk_at "w0") => `(tactic| (k_here; walk_at "qq"; walk_at "qr"))
local macro_rules | `(tactic| walk_at "w1") => `(tactic| (k_here; (with_reducible show wpAny _ _ (setItem _ _ _) _ _ _); walk_at "qr"))
local macro_rules | `(tactic| walk_at "w2") => `(tactic| (k_here; (with_reducible show wpAny _ _ (subscriptTail _ _ (Value.ref _) (Value.int _ _)) _ _ _); with_unfolding_all (refine' item_O ?k1m ?k2m ?kom ?k3m ?k4m ?k5m ?_ ?k6m; walk_at "qi"; walk_at "qx"; (case k3m => omega); (case k4m => first | assumption | (simp only [Int.toNat_natCast]; assumption) | (simp only [Int.reduceToNat]; assumption) | rfl); (case k5m => omega); (case k6m => with_unfolding_all rfl))))
local macro_rules | `(tactic| walk_at "w3") => `(tactic| (k_here; (with_reducible show wpAny _ _ (subscriptTail _ _ (Value.ref _) (Value.str _ _)) _ _ _); with_unfolding_all (refine' kda_item (knd := PySem.strKind _ _) ?Nm ?hpm ?hdm (strKind_is _ _ _ _) ?hlm ?_ ?hsm ?hgm; walk_at "qf"; (case hlm => with_reducible first | assumption | exact nat_dict_at | exact nat_dict_ce | exact sd_bo | exact sd_br | exact sd_mk); (case hsm => with_unfolding_all rfl); (case hgm => (intro _; with_unfolding_all rfl)))))
local macro_rules | `(tactic| walk_at "w4") => `(tactic| (k_here; (with_reducible show wpAny _ _ (compareOp _ (Value.ref _) (Value.ref _)) _ _ _); walk_at "qr"))
local macro_rules | `(tactic| walk_at "w5") => `(tactic| (k_here; walk_at "qn"; walk_at "qr"))
local macro_rules | `(tactic| walk_at "w6") => `(tactic| (k_here; (first | (with_reducible show wpAny _ _ (subscriptTail _ _ (Value.ref _) (Value.str _ _)) _ _ _) | (with_reducible show wpAny _ _ (subscriptTail _ _ (Value.ref _) (Value.ref _)) _ _ _)); k_dflt (refine kba_turn (value' := PySem.Expr.Name (PySem.Str.ofString "_") ⟨0, 0, 0, 0⟩) (fun _ => rfl) ?_)))
local macro_rules | `(tactic| k_mem) => `(tactic| with_reducible first | exact List.mem_cons_self | (refine List.mem_cons_of_mem _ ?_; k_mem) | exact bm_inst | exact bm_dct | exact bm_fn | exact bm_fa | exact bm_fr | exact bm_op | exact bm_ar | exact bm_so | exact bm_da | exact bm_nu | (refine bm_r ?_; k_mem) | exact sm_inst | exact sm_dct | exact sm_fu | exact sm_br | exact sm_sc | exact sm_le | (refine sm_r ?_; k_mem) | exact tm_di | exact tm_ce | exact tm_st | exact tm_bo | exact tm_br | exact tm_mk | exact tm_sm | (refine tm_r ?_; k_mem) | assumption | (refine List.mem_append_right _ ?_; k_mem))
local macro_rules | `(tactic| walk_at "call builtin:list.append") => `(tactic| (k_here; walk_at "qv"; k_dflt (refine' append_L ?k1m ?k2m ?kUm ?k4m ?_; walk_at "qj"; (case kUm => first | exact bu_fn (by assumption) | exact bu_fa (by assumption) | exact bu_fr (by assumption) | exact bu_op (by assumption) | exact bu_ar (by assumption) | exact bu_so (by assumption) | exact bu_da (by assumption) | exact su_br (by assumption) | exact su_sc (by assumption) | exact su_le (by assumption) | exact tu_bo (by assumption) | exact tu_br (by assumption) | exact tu_mk (by assumption)); (case k4m => ((try dsimp only); omega))); walk_at "qu"))
local macro_rules | `(tactic| walk_at "newTuple") => `(tactic| (k_here; k_dflt (first | (refine' newTup_R2 ?k1m ?k2m ?k3m ?k4m ?_; walk_at "qa") | (refine' newTup_R ?k1m ?k2m ?k3m ?k4m ?_; walk_at "qa")); walk_at "qg"))
local macro_rules | `(tactic| walk_at "getMethod ref") => `(tactic| (k_here; (with_reducible show wpAny _ _ (getMethod (Value.ref _) _ _) _ _ _); k_dflt (refine' method_inst ?k1m ?k2m ?k3m ?k4m ?k5m ?k6m ?k7m ?_; walk_at "qj"; (case k3m => k_inst); (case k4m => k_is); (case k5m => k_is); (case k6m => k_is); (case k7m => k_get); k_whole)))
local macro_rules | `(tactic| walk_at "getMethod ref") => `(tactic| (k_here; (with_reducible show wpAny _ _ (getMethod (Value.ref _) (Str.ofString "get") _) _ _ _); k_dflt (refine' meth_T PySem.F.slot_dict_get PySem.F.type_dict_get ?k1m ?k2m ?k3m ?_; walk_at "qi"; (case k3m => first | assumption | exact HD.exact (by assumption)))))
local macro_rules | `(tactic| walk_at "compareOp Eq int int") => `(tactic| (k_here; first | (refine' eqF ?km ?_; (case km => walk_at "qh")) | (refine' eqT ?km ?_; (case km => walk_at "qh"))))
local macro_rules | `(tactic| walk_at "compareOp NotEq int int") => `(tactic| (k_here; first | (refine' neF ?km ?_; (case km => walk_at "qh")) | (refine' neT ?km ?_; (case km => walk_at "qh"))))
local macro_rules | `(tactic| walk_at "compareOp Lt int int") => `(tactic| (k_here; first | (refine' ltF ?km ?_; (case km => walk_at "qh")) | (refine' ltT ?km ?_; (case km => walk_at "qh"))))
local macro_rules | `(tactic| walk_at "compareOp Gt int int") => `(tactic| (k_here; first | (refine' gtF ?km ?_; (case km => walk_at "qh")) | (refine' gtT ?km ?_; (case km => walk_at "qh"))))
local macro_rules | `(tactic| walk_at "newList") => `(tactic| (k_here; k_dflt (first | (refine' newLst_R2 ?k1m ?k2m ?k3m ?k4m ?_; walk_at "qa") | (refine' newLst_R ?k1m ?k2m ?k3m ?k4m ?_; walk_at "qa")); walk_at "qg"))
local macro_rules | `(tactic| walk_at "call type:tuple") => `(tactic| (k_here; (with_reducible show wpAny _ _ (call (Value.type _) [Value.ref _]) _ _ _); k_dflt (first | (refine' tuple_L ?k1m ?k2m ?_; walk_at "qi") | ((first | (refine' tupleL_R2 ?k1m ?k2m ?k3m ?k5m ?k4m ?_; walk_at "qj"; (case k3m => assumption); (case k5m => k_mem); walk_at "qy") | (refine' tupleL_R ?k1m ?k2m ?k3m ?k5m ?k4m ?_; walk_at "qj"; (case k3m => assumption); (case k5m => k_mem); walk_at "qy")); walk_at "qg"))))
local macro_rules | `(tactic| walk_at "exec For Tuple Call cons nil") => `(tactic| walk_at "w0")
local macro_rules | `(tactic| walk_at "exec For Name Call cons nil") => `(tactic| walk_at "w0")
local macro_rules | `(tactic| walk_at "exec For Name Name cons nil") => `(tactic| walk_at "w0")
local macro_rules | `(tactic| walk_at "exec For Name Subscript cons nil") => `(tactic| walk_at "w0")
local macro_rules | `(tactic| walk_at "exec While Compare cons nil") => `(tactic| walk_at "w0")
set_option hygiene true
local macro_rules | `(tactic| walk_at "eval Name") => `(tactic| (k_here; (with_reducible rename MapMark _ => mmX); name_kind "local"; k_dflt (refine' ld ?k1m ?k2m ?_; walk_at "qw")))
set_option hygiene false
local macro_rules | `(tactic| walk_at "getMethod ref") => `(tactic| (k_here; (with_reducible show wpAny _ _ (getMethod (Value.ref _) (Str.ofString "pop") _) _ _ _); k_dflt (refine' kob_method (knd := PySem.strKind _ _) PySem.F.slot_dict_pop PySem.F.type_dict_pop ?k1m ?k2m ?k3m ?_; (case k1m => k_asm); (case k3m => assumption); (case k2m => k_mem))))
local macro_rules | `(tactic| walk_at "eval Dict nil nil") => `(tactic| (k_here; k_dflt (refine' newDict_R2 ?k1m ?k2m ?k3m (TopRead.nolimit (by k_asm)) ?_; walk_at "qj"; (case k3m => assumption)); walk_at "qs"))
local macro_rules | `(tactic| walk_at "exec Raise some none") => `(tactic| walk_at "w0")
local macro_rules | `(tactic| k_upd) => `(tactic| exact upd_nd (pre := [_]) (nd_same (show Nd ((_, _) :: (_, _) :: _) by assumption) (by exact rfl)))
local macro_rules | `(tactic| k_upd) => `(tactic| exact upd_in (pre := [_, _]) (by assumption))
local macro_rules | `(tactic| walk_at "eval ListComp") => `(tactic| (k_here; (with_reducible show wpAny _ _ (eval _ _) _ _ _); walk_at "qr"))
local macro_rules | `(tactic| walk_at "formatField int") => `(tactic| (k_here; with_reducible refine fmt_one ?_))
local macro_rules | `(tactic| walk_at "And") => `(tactic| (k_here; (with_reducible show PySem.Str.length (_ ++ _) ≤ sizeLine ∧ wpAny _ _ (joinParts _ _) _ _ _); refine ⟨fits_800 ?_, ?_⟩; (focus (walk_at "qk"))))
local macro_rules | `(tactic| walk_at "joinParts") => `(tactic| (k_here; (with_reducible show wpAny _ _ (joinParts _ (evalEach [] _)) _ _ _); k_dflt (refine' joinParts_nil ?_ ?fzm; (case fzm => (refine fits_800 ?_; walk_at "qk")))))
local macro_rules | `(tactic| walk_at "call builtin:len") => `(tactic| (k_here; (with_reducible show wpAny _ _ (call (Value.builtin "len") [Value.ref _]) _ _ _); k_dflt (refine' len_O ?k1m ?k2m ?k4m ?k3m ?_; walk_at "qi"; (case k4m => first | exact .inl rfl | exact .inr rfl); (case k3m => ((try dsimp only); (try simp only [List.length_append, List.length_cons, List.length_nil]); omega))); walk_at "qt"))
local macro_rules | `(tactic| walk_at "setItem ref str int") => `(tactic| walk_at "w1")
local macro_rules | `(tactic| walk_at "setItem ref str ref") => `(tactic| walk_at "w1")
local macro_rules | `(tactic| walk_at "setItem ref ref int") => `(tactic| walk_at "w1")
local macro_rules | `(tactic| walk_at "subscriptTail Attribute") => `(tactic| walk_at "w2")
local macro_rules | `(tactic| walk_at "subscriptTail Subscript") => `(tactic| walk_at "w2")
local macro_rules | `(tactic| walk_at "subscriptTail Name") => `(tactic| walk_at "w2")
local macro_rules | `(tactic| walk_at "subscriptTail Name Constant ref int") => `(tactic| walk_at "w2")
local macro_rules | `(tactic| walk_at "subscriptTail Name") => `(tactic| walk_at "w3")
local macro_rules | `(tactic| walk_at "subscriptTail Name Constant ref str") => `(tactic| walk_at "w3")
local macro_rules | `(tactic| walk_at "pyIter ref") => `(tactic| (k_here; (with_reducible show wpAny _ _ (pyIter _) (fun it s₂ => LoopAtV _ _ _ _ _ _ _ _ _ it s₂) _ _); walk_at "qr"))
local macro_rules | `(tactic| walk_at "call ref") => `(tactic| (k_here; (with_reducible show wpAny _ _ (call (Value.ref _) _) _ _ _); walk_at "qr"))
set_option hygiene true
local macro_rules | `(tactic| walk_at "getMethod ref") => `(tactic| (k_here; (with_reducible show wpAny _ _ (getMethod (Value.ref (Sy.bk _)) _ _) _ _ _); (with_reducible rename Sy.bk _ = Bk.inst _ => hbkX); rw [hbkX]))
set_option hygiene false
local macro_rules | `(tactic| walk_at "binaryOp Mult ref int") => `(tactic| (k_here; (with_reducible show wpAny _ _ (binaryOp _ (Value.ref _) (Value.int _ _)) _ _ _); k_dflt first | (refine' mul_tup1 ?hxm ?k1m ?k2m ?_; (case hxm => omega); walk_at "qi") | (refine' mul_tup0_R2 ?hxm ?k1m ?k2m ?k3m ?k4m ?_; (case hxm => omega); walk_at "qj"; (case k3m => assumption); (case k4m => k_mem); walk_at "qg")))
local macro_rules | `(tactic| walk_at "compareOp In str ref") => `(tactic| (k_here; k_dflt (refine' ltup_in ?Nm ?hmm ?hsm ?hbm ?_; (case Nm => k_asm); (case hmm => k_mem); (case hsm => exact rfl); (case hbm => first | assumption | exact (rfl : _ = true) | exact (rfl : _ = false)))))
local macro_rules | `(tactic| walk_at "compareOp In str ref") => `(tactic| (k_here; k_dflt (first | (refine' kda_in (knd := PySem.strKind _ _) ?Nm ?hpm ?hdm ?lom (strKind_is _ _ _ _) true ?hbm ?_; walk_at "qf"; (case lom => assumption); walk_at "ql") | (refine' kda_in (knd := PySem.strKind _ _) ?Nm ?hpm ?hdm ?lom (strKind_is _ _ _ _) false ?hbm ?_; walk_at "qf"; (case lom => assumption); walk_at "qm"))))
local macro_rules | `(tactic| walk_at "compareOp NotIn str ref") => `(tactic| (k_here; k_dflt (refine' ltup_notin ?Nm ?hmm ?hsm ?hbm ?_; (case Nm => k_asm); (case hmm => k_mem); (case hsm => exact rfl); (case hbm => first | assumption | exact (rfl : _ = true) | exact (rfl : _ = false)))))
local macro_rules | `(tactic| walk_at "compareOp NotIn str ref") => `(tactic| (k_here; k_dflt (first | (refine' kda_notin ?Nm ?hpm ?hdm ?lom (strKind_is _ _ _ _) true ?hbm ?_; walk_at "qf"; (case lom => assumption); walk_at "ql") | (refine' kda_notin ?Nm ?hpm ?hdm ?lom (strKind_is _ _ _ _) false ?hbm ?_; walk_at "qf"; (case lom => assumption); walk_at "qm"))))
local macro_rules | `(tactic| walk_at "newTuple") => `(tactic| (k_here; k_dflt (refine' newTup_R2o ?k1m ?k2m ?k3m ?k4m ?_; walk_at "qa"; walk_at "qg")))
local macro_rules | `(tactic| walk_at "compareOp NotEq ref ref") => `(tactic| walk_at "w4")
local macro_rules | `(tactic| walk_at "compareOp Eq ref ref") => `(tactic| walk_at "w4")
local macro_rules | `(tactic| walk_at "call builtin:sorted") => `(tactic| walk_at "w5")
local macro_rules | `(tactic| walk_at "call builtin:list.pop") => `(tactic| walk_at "w5")
local macro_rules | `(tactic| walk_at "subscriptTail Name Slice ref ref") => `(tactic| (k_here; walk_at "qo"; k_dflt (refine' rev_R2 ?Fm ?Nm ?NDm ?hmm ?km ?_ ?sm ?tm ?zm; walk_at "qb"; (case km => exact IsPart.int _ _); walk_at "qc"); walk_at "qg"))
local macro_rules | `(tactic| walk_at "subscriptTail Name Slice ref ref") => `(tactic| (k_here; walk_at "qp"; k_dflt (refine' upto_R2 ?Fm ?Nm ?NDm ?hmm ?_ ?sm ?tm ?zm; walk_at "qb"; walk_at "qc"); walk_at "qg"))
local macro_rules | `(tactic| walk_at "subscriptTail Tuple") => `(tactic| walk_at "w2")
local macro_rules | `(tactic| walk_at "getMethod ref") => `(tactic| (k_here; (with_reducible show wpAny _ _ (getMethod (Value.ref _) (PySem.Str.ofString "append") _) _ _ _); k_dflt (refine' listMethod_K ?Nm ?mm PySem.F.slot_list_append PySem.F.type_list_append ?_; (case Nm => k_asm); (case mm => k_mem))))
local macro_rules | `(tactic| walk_at "call builtin:dict.get") => `(tactic| (k_here; (with_reducible show wpAny _ _ (call (Value.builtin _) (Value.ref _ :: Value.ref _ :: _)) _ _ _); walk_at "qr"))
local macro_rules | `(tactic| ktr_room) => `(tactic| first | ((first | refine' room_ok ?hm ?em | refine' room_1 ?hm ?em); (case hm => assumption); (case em => exact rfl)) | fail)
local macro_rules | `(tactic| ktr_units) => `(tactic| first | ((first | refine' units_ok ?hm ?em | refine' units_1 ?hm ?em); (case hm => assumption); (case em => exact rfl)) | fail)
local macro_rules | `(tactic| walk_at "callWith ref") => `(tactic| (k_here; (with_reducible show wpAny _ _ (callWith _ (Value.ref _) _ (backTo _ (starEach [] _)) []) _ _ _); k_dflt (refine' callWith_K0 ?k1m ?k2m ?_; (case k1m => exact Frag.In.keeps (by with_reducible assumption) (Fr.keep (by with_reducible assumption))); (case k2m => k_is); k_whole)))
local macro_rules | `(tactic| walk_at "compareOp In str ref") => `(tactic| (k_here; k_dflt (refine' ktup_in ?Fm ?Xm ?hom ?hsm ?hbm ?_; (case Fm => k_asm); (case Xm => k_asm); (case hom => k_is); (case hsm => rfl); (case hbm => first | exact (rfl : _ = true) | exact (rfl : _ = false)))))
local macro_rules | `(tactic| walk_at "getAttr ref") => `(tactic| (k_here; k_dflt (refine' get_own ?k1m ?k2m ?k3m ?k4m ?k5m ?k6m ?k7m ?k8m ?k9m ?_; walk_at "qj"; (case k3m => k_inst); (case k4m => k_is); (case k5m => k_is); (case k6m => k_is); (case k7m => k_is); (case k8m => k_get); (case k9m => k_handed); k_whole)))
local macro_rules | `(tactic| walk_at "subscriptTail Attribute") => `(tactic| walk_at "w6")
local macro_rules | `(tactic| walk_at "subscriptTail Subscript") => `(tactic| walk_at "w6")
local macro_rules | `(tactic| walk_at "getMethod ref") => `(tactic| (k_here; (with_reducible show wpAny _ _ (getMethod (Value.ref (Lw.maA _)) _ _) _ _ _); k_dflt (refine' listMethod_K ?Nm ?mm PySem.F.slot_list_pop PySem.F.type_list_pop ?_; (case Nm => k_asm); (case mm => k_mem))))
set_option hygiene true
local macro_rules | `(tactic| walk_at "setItem ref") => `(tactic| ((with_reducible rename PMH => pmX); k_here; walk_at "qr"))
set_option hygiene false
local macro_rules | `(tactic| walk_at "ne") => `(tactic| first | exact ⟨default⟩ | exact ne_world | exact ne_shared | exact ne_around | exact ne_bk | exact ne_sy | exact ne_lw | exact ne_tk | exact ne_pc)
set_option hygiene true
local macro_rules | `(tactic| exists $x:ident, $_) => do
  `(tactic| (refine' all_pick $(Lean.quote (← Lean.MonadQuotation.getCurrMacroScope)) (i := ?iim) ?_; (case iim => walk_at "ne"); intros $x:ident; clear_value $x:ident))
local macro_rules | `(tactic| intro $x:ident) => `(tactic| ((with_reducible rename PMI => pmI); first | exists $x:ident, $x:ident | intros $x:ident))
local macro_rules | `(tactic| intro _) => `(tactic| ((with_reducible rename PMI => pmI); intro z0))
local macro_rules | `(tactic| intro $x:term $y:term $ys:term*) => `(tactic| ((with_reducible rename PMI => pmI); intro $x:term; intro $y:term $ys:term*))
local macro_rules | `(tactic| exists $x:ident) => `(tactic| ((with_reducible rename PMI => pmI); first | exists $x:ident, $x:ident | ((set_option tactic.hygienic false in intro); exists $x:ident)))
local macro_rules | `(tactic| k_fold) => `(tactic| (with_reducible rename PMI => pmI))
local macro_rules | `(tactic| walk_at "subscriptTail Name") => `(tactic| ((with_reducible rename PMD => pmX); (k_here; (with_reducible show wpAny _ _ (subscriptTail (PySem.Expr.Name (PySem.Str.ofString "_law_names") _) _ _ _) _ _ _); walk_at "qr")))
local macro_rules | `(tactic| walk_at "call type:zip") => `(tactic| ((with_reducible rename PMD => pmX); (k_here; (with_reducible show wpAny _ _ (call (Value.type _) [Value.ref _, Value.ref _]) _ _ _); walk_at "qr")))
local macro_rules | `(tactic| walk_at "call type:dict") => `(tactic| ((with_reducible rename PMD => pmX); (k_here; (with_reducible show wpAny _ _ (call (Value.type _) [Value.ref _]) _ _ _); walk_at "qr")))
local macro_rules | `(tactic| walk_at "call builtin:list.append") => `(tactic| ((with_reducible rename PMD => pmX); ((with_reducible rename PMH => pmX); k_here; walk_at "qv"; walk_at "qr")))
local macro_rules | `(tactic| k_upd) => `(tactic| ((with_reducible rename PMA => pmX); first | exact upd_nd (pre := []) (nd_same (by assumption) (by exact rfl)) | exact upd_nd (pre := [_]) (nd_same (by assumption) (by exact rfl)) | exact upd_nd (pre := [_, _]) (nd_same (by assumption) (by exact rfl)) | exact upd_nd (pre := [_, _, _]) (nd_same (by assumption) (by exact rfl)) | exact upd_nd (pre := [_, _, _, _]) (nd_same (by assumption) (by exact rfl)) | exact upd_nd (pre := [_, _, _, _, _]) (nd_same (by assumption) (by exact rfl)) | exact upd_nd (pre := [_, _, _, _, _, _]) (nd_same (by assumption) (by exact rfl)) | exact upd_nd (pre := [_, _, _, _, _, _, _]) (nd_same (by assumption) (by exact rfl)) | exact upd_nd (pre := [_, _, _, _, _, _, _, _]) (nd_same (by assumption) (by exact rfl)) | exact upd_nd (pre := [_, _, _, _, _, _, _, _, _]) (nd_same (by assumption) (by exact rfl)) | exact upd_nd (pre := [_, _, _, _, _, _, _, _, _, _]) (nd_same (by assumption) (by exact rfl)) | exact upd_nd (pre := [_, _, _, _, _, _, _, _, _, _, _]) (nd_same (by assumption) (by exact rfl)) | exact upd_nd (pre := [_, _, _, _, _, _, _, _, _, _, _, _]) (nd_same (by assumption) (by exact rfl)) | exact upd_nd (pre := [_, _, _, _, _, _, _, _, _, _, _, _, _]) (nd_same (by assumption) (by exact rfl)) | exact upd_nd (pre := [_, _, _, _, _, _, _, _, _, _, _, _, _, _]) (nd_same (by assumption) (by exact rfl)) | exact upd_nd (pre := [_, _, _, _, _, _, _, _, _, _, _, _, _, _, _]) (nd_same (by assumption) (by exact rfl)) | exact upd_nd (pre := [_, _, _, _, _, _, _, _, _, _, _, _, _, _, _, _]) (nd_same (by assumption) (by exact rfl)) | exact upd_nd (pre := [_, _, _, _, _, _, _, _, _, _, _, _, _, _, _, _, _]) (nd_same (by assumption) (by exact rfl))))
local macro_rules | `(tactic| walk_at "newTuple") => `(tactic| ((with_reducible rename PMC => pmX); (k_here; k_dflt (refine' newTup_A ?k1m ?k2m ?k3m ?k4m ?_; walk_at "qa"); walk_at "qg")))
local macro_rules | `(tactic| walk_at "newList") => `(tactic| ((with_reducible rename PMB => pmX); (k_here; k_dflt (refine' newLst_A ?k1m ?k2m ?k3m ?k4m ?_; walk_at "qa"); walk_at "qg")))
local macro_rules | `(tactic| walk_at "eval Dict nil nil") => `(tactic| ((with_reducible rename PMB => pmX); (k_here; k_dflt (refine' newDict_A ?k1m ?k2m ?k3m (TopRead.nolimit (by k_asm)) ?_; walk_at "qj"; (case k3m => assumption)); walk_at "qs")))
local macro_rules | `(tactic| walk_at "call builtin:list.append") => `(tactic| ((with_reducible rename PMC => pmX); (k_here; walk_at "qv"; k_dflt (refine' append_L ?k1m ?k2m ?kUm ?k4m ?_; walk_at "qj"; (case kUm => k_upd); (case k4m => exact Nat.le_of_ble_eq_true rfl)); walk_at "qu")))
local macro_rules | `(tactic| k_updF) => `(tactic| ((with_reducible rename PML => pmX); exact updF_in (Q := _ :: _) (pre := [_, _, _]) (by assumption)))
local macro_rules | `(tactic| walk_at "eval Dict") => `(tactic| ((with_reducible rename PML => pmX); (k_here; kdn_look; walk_at "qr")))
local macro_rules | `(tactic| walk_at "exec Assign cons ListComp") => `(tactic| ((with_reducible rename PML => pmX); (k_here; walk_at "qr")))
local macro_rules | `(tactic| walk_at "eval Name") => `(tactic| ((with_reducible rename PML => pmX); (k_here; (with_reducible rename MapMark _ => mmX); k_dflt (refine' ldC ?k1m ?k2m ?_; walk_at "qw"))))
local macro_rules | `(tactic| k_go0) => `(tactic| ((with_reducible rename PML => pmX); (k_fill; intro w s₀ s₁ mg mb G Y fa o pm cd doc dV kV ho hd hcd hD hmg hg args vals as hpre hlay hrd hwl hlo; have KX := kIn_of Y; k_behind G ho hd hcd hD hmg hpre hlay hrd hwl hlo cd)))
@[irreducible] noncomputable def Aim : Prop := PySem.Challenge.rw_rg0217_01.Holds
set_option Elab.async true in
set_option maxRecDepth 100000 in
set_option maxHeartbeats 0 in
theorem hd : Aim := by
  unfold Aim
  (o_law; k_head; (case hw => w_witness2))
  refine cut (T := Spec _root_.Mine.hd.heap_1_39 PySem.Challenge.rw_rg0217_01.row.prog 182 1 Pre0 Post0) ?_ fun c_fun_count => ?_
  · skip
    have pmI : PMI := trivial
    k_fill
    refine spec_at ?_
    refine prod_all ?_
    intro b
    intro rest
    refine at_in ?_
    intro c0
    generalize c0.w = w; generalize c0.p = p; generalize c0.loose = loose; generalize c0.mean = mean; generalize c0.mg = mg; generalize c0.mb = mb; generalize c0.dp = dp; generalize c0.un = un; generalize c0.gd = gd; generalize c0.cn = cn; generalize c0.cs = cs; generalize c0.a = a; generalize c0.ccd = ccd; generalize c0.cl = cl; generalize c0.outer = outer; generalize c0.A₀ = A₀; generalize c0.base = base; generalize c0.h₀ = h₀; generalize c0.L = L; generalize c0.m = m; generalize c0.s = s; generalize c0.Q = Q; generalize c0.E = E; generalize c0.news = news; generalize c0.vs = vs
    refine sb_in ?_
    intros hpre
    intros B F X N T hk ND hd hu ret
    dsimp only [Pre0] at hpre
    obtain ⟨rfl, rfl, hl⟩ := hpre
    refine wpAny_call ?_
    k_dflt ktr_enter
    k_steps
    exact ret _ _ _ _ (by assumption) (by assumption) ND ⟨rfl, _, rfl⟩
  refine cut (T := Spec _root_.Mine.hd.heap_1_39 PySem.Challenge.rw_rg0217_01.row.prog 189 1 (PreI Bk.op) PostI) ?_ fun c_op => ?_
  · skip
    clear c_fun_count
    have pmI : PMI := trivial
    k_fill
    refine spec_at ?_
    refine prod_all ?_
    intro b
    refine prod_all ?_
    intro rest
    refine prod_all ?_
    intro i
    intro v
    refine at_in ?_
    intro c0
    generalize c0.w = w; generalize c0.p = p; generalize c0.loose = loose; generalize c0.mean = mean; generalize c0.mg = mg; generalize c0.mb = mb; generalize c0.dp = dp; generalize c0.un = un; generalize c0.gd = gd; generalize c0.cn = cn; generalize c0.cs = cs; generalize c0.a = a; generalize c0.ccd = ccd; generalize c0.cl = cl; generalize c0.outer = outer; generalize c0.A₀ = A₀; generalize c0.base = base; generalize c0.h₀ = h₀; generalize c0.L = L; generalize c0.m = m; generalize c0.s = s; generalize c0.Q = Q; generalize c0.E = E; generalize c0.news = news; generalize c0.vs = vs
    refine sb_in ?_
    intros hpre
    intros B F X N T hk ND hd hu ret
    dsimp only [PreI] at hpre
    obtain ⟨rfl, ⟨t, rfl⟩, hv, hi⟩ := hpre
    revert t
    intro t
    refine wpAny_call ?_
    k_dflt ktr_enter
    k_steps
    exact ret _ _ _ _ (by assumption) (by assumption) ND ⟨rfl, rfl⟩
  refine cut (T := Spec _root_.Mine.hd.heap_1_39 PySem.Challenge.rw_rg0217_01.row.prog 196 1 (PreI Bk.ar) PostI) ?_ fun c_args => ?_
  · skip
    clear c_fun_count c_op
    have pmI : PMI := trivial
    k_fill
    refine spec_at ?_
    refine prod_all ?_
    intro b
    refine prod_all ?_
    intro rest
    refine prod_all ?_
    intro i
    intro v
    refine at_in ?_
    intro c0
    generalize c0.w = w; generalize c0.p = p; generalize c0.loose = loose; generalize c0.mean = mean; generalize c0.mg = mg; generalize c0.mb = mb; generalize c0.dp = dp; generalize c0.un = un; generalize c0.gd = gd; generalize c0.cn = cn; generalize c0.cs = cs; generalize c0.a = a; generalize c0.ccd = ccd; generalize c0.cl = cl; generalize c0.outer = outer; generalize c0.A₀ = A₀; generalize c0.base = base; generalize c0.h₀ = h₀; generalize c0.L = L; generalize c0.m = m; generalize c0.s = s; generalize c0.Q = Q; generalize c0.E = E; generalize c0.news = news; generalize c0.vs = vs
    refine sb_in ?_
    intros hpre
    intros B F X N T hk ND hd hu ret
    dsimp only [PreI] at hpre
    obtain ⟨rfl, ⟨t, rfl⟩, hv, hi⟩ := hpre
    revert t
    intro t
    refine wpAny_call ?_
    k_dflt ktr_enter
    k_steps
    exact ret _ _ _ _ (by assumption) (by assumption) ND ⟨rfl, rfl⟩
  refine cut (T := Spec _root_.Mine.hd.heap_1_39 PySem.Challenge.rw_rg0217_01.row.prog 203 1 (PreI Bk.so) PostI) ?_ fun c_sort => ?_
  · skip
    clear c_fun_count c_op c_args
    have pmI : PMI := trivial
    k_fill
    refine spec_at ?_
    refine prod_all ?_
    intro b
    refine prod_all ?_
    intro rest
    refine prod_all ?_
    intro i
    intro v
    refine at_in ?_
    intro c0
    generalize c0.w = w; generalize c0.p = p; generalize c0.loose = loose; generalize c0.mean = mean; generalize c0.mg = mg; generalize c0.mb = mb; generalize c0.dp = dp; generalize c0.un = un; generalize c0.gd = gd; generalize c0.cn = cn; generalize c0.cs = cs; generalize c0.a = a; generalize c0.ccd = ccd; generalize c0.cl = cl; generalize c0.outer = outer; generalize c0.A₀ = A₀; generalize c0.base = base; generalize c0.h₀ = h₀; generalize c0.L = L; generalize c0.m = m; generalize c0.s = s; generalize c0.Q = Q; generalize c0.E = E; generalize c0.news = news; generalize c0.vs = vs
    refine sb_in ?_
    intros hpre
    intros B F X N T hk ND hd hu ret
    dsimp only [PreI] at hpre
    obtain ⟨rfl, ⟨t, rfl⟩, hv, hi⟩ := hpre
    revert t
    intro t
    refine wpAny_call ?_
    k_dflt ktr_enter
    k_steps
    exact ret _ _ _ _ (by assumption) (by assumption) ND ⟨rfl, rfl⟩
  refine cut (T := Spec _root_.Mine.hd.heap_1_39 PySem.Challenge.rw_rg0217_01.row.prog 210 1 (PreI Bk.da) PostI) ?_ fun c_data => ?_
  · skip
    clear c_fun_count c_op c_args c_sort
    have pmI : PMI := trivial
    k_fill
    refine spec_at ?_
    refine prod_all ?_
    intro b
    refine prod_all ?_
    intro rest
    refine prod_all ?_
    intro i
    intro v
    refine at_in ?_
    intro c0
    generalize c0.w = w; generalize c0.p = p; generalize c0.loose = loose; generalize c0.mean = mean; generalize c0.mg = mg; generalize c0.mb = mb; generalize c0.dp = dp; generalize c0.un = un; generalize c0.gd = gd; generalize c0.cn = cn; generalize c0.cs = cs; generalize c0.a = a; generalize c0.ccd = ccd; generalize c0.cl = cl; generalize c0.outer = outer; generalize c0.A₀ = A₀; generalize c0.base = base; generalize c0.h₀ = h₀; generalize c0.L = L; generalize c0.m = m; generalize c0.s = s; generalize c0.Q = Q; generalize c0.E = E; generalize c0.news = news; generalize c0.vs = vs
    refine sb_in ?_
    intros hpre
    intros B F X N T hk ND hd hu ret
    dsimp only [PreI] at hpre
    obtain ⟨rfl, ⟨t, rfl⟩, hv, hi⟩ := hpre
    revert t
    intro t
    refine wpAny_call ?_
    k_dflt ktr_enter
    k_steps
    exact ret _ _ _ _ (by assumption) (by assumption) ND ⟨rfl, rfl⟩
  refine cut (T := Spec _root_.Mine.hd.heap_1_39 PySem.Challenge.rw_rg0217_01.row.prog 280 1 PreB PostB) ?_ fun c_bool_term => ?_
  · skip
    clear c_fun_count c_op c_args c_sort c_data
    have pmI : PMI := trivial
    k_fill
    refine spec_at ?_
    refine prod_all ?_
    intro b
    refine prod_all ?_
    intro rest
    intro v
    refine at_in ?_
    intro c0
    generalize c0.w = w; generalize c0.p = p; generalize c0.loose = loose; generalize c0.mean = mean; generalize c0.mg = mg; generalize c0.mb = mb; generalize c0.dp = dp; generalize c0.un = un; generalize c0.gd = gd; generalize c0.cn = cn; generalize c0.cs = cs; generalize c0.a = a; generalize c0.ccd = ccd; generalize c0.cl = cl; generalize c0.outer = outer; generalize c0.A₀ = A₀; generalize c0.base = base; generalize c0.h₀ = h₀; generalize c0.L = L; generalize c0.m = m; generalize c0.s = s; generalize c0.Q = Q; generalize c0.E = E; generalize c0.news = news; generalize c0.vs = vs
    refine sb_in ?_
    intros hpre
    intros B F X N T hk ND hd hu ret
    dsimp only [PreB] at hpre
    obtain ⟨rfl, rfl⟩ := hpre
    rcases Bool.eq_false_or_eq_true v with hE | hE <;> (revert ret; rw [hE]; intros ret)
    all_goals (
      refine wpAny_call ?_
      k_dflt ktr_enter
      k_steps
      exact ret _ _ _ _ (by assumption) (by assumption) ND ⟨rfl, _, rfl⟩)
  refine cut (T := Spec _root_.Mine.hd.heap_1_39 PySem.Challenge.rw_rg0217_01.row.prog 140 1 PreD PostD) ?_ fun c_declare_fun => ?_
  · skip
    clear c_fun_count c_op c_args c_sort c_data c_bool_term
    have pmI : PMI := trivial
    k_fill
    refine spec_at ?_
    refine prod_all ?_
    intro b
    refine prod_all ?_
    intro rest
    refine prod_all ?_
    intro nm
    refine prod_all ?_
    intro t1
    refine prod_all ?_
    intro aA
    refine prod_all ?_
    intro its
    refine prod_all ?_
    intro n
    refine prod_all ?_
    intro res
    intro t2
    refine at_in ?_
    intro c0
    generalize c0.w = w; generalize c0.p = p; generalize c0.loose = loose; generalize c0.mean = mean; generalize c0.mg = mg; generalize c0.mb = mb; generalize c0.dp = dp; generalize c0.un = un; generalize c0.gd = gd; generalize c0.cn = cn; generalize c0.cs = cs; generalize c0.a = a; generalize c0.ccd = ccd; generalize c0.cl = cl; generalize c0.outer = outer; generalize c0.A₀ = A₀; generalize c0.base = base; generalize c0.h₀ = h₀; generalize c0.L = L; generalize c0.m = m; generalize c0.s = s; generalize c0.Q = Q; generalize c0.E = E; generalize c0.news = news; generalize c0.vs = vs
    refine sb_in ?_
    intros hpre
    intros B F X N T hk ND hd hu ret
    dsimp only [PreD] at hpre
    obtain ⟨rfl, rfl, hm, hl1, hl2, hl3⟩ := hpre
    refine wpAny_call ?_
    k_dflt ktr_enter
    k_steps
    all_goals exact ret _ _ _ _ (by assumption) (by assumption) (by assumption) ⟨rfl, int_eq (by simp only [List.length_append, List.length_cons, List.length_nil]; omega)⟩
  refine cut (T := Spec _root_.Mine.hd.heap_1_39 PySem.Challenge.rw_rg0217_01.row.prog 231 1 (PreM2 PySem.Challenge.rw_rg0217_01.row.prog) (PostM2 PySem.Challenge.rw_rg0217_01.row.prog)) ?_ fun c_make => ?_
  · skip
    clear c_fun_count c_op c_args c_sort c_data c_bool_term c_declare_fun
    have pmI : PMI := trivial
    k_fill
    refine spec_at ?_
    refine prod_all ?_
    intro b
    refine prod_all ?_
    intro rest
    refine prod_all ?_
    intro r0
    refine prod_all ?_
    intro op
    refine prod_all ?_
    intro t1
    refine prod_all ?_
    intro aA
    refine prod_all ?_
    intro ks
    refine prod_all ?_
    intro so
    refine prod_all ?_
    intro t3
    refine prod_all ?_
    intro da
    refine prod_all ?_
    intro t4
    intro xs
    refine at_in ?_
    intro c0
    generalize c0.w = w; generalize c0.p = p; generalize c0.loose = loose; generalize c0.mean = mean; generalize c0.mg = mg; generalize c0.mb = mb; generalize c0.dp = dp; generalize c0.un = un; generalize c0.gd = gd; generalize c0.cn = cn; generalize c0.cs = cs; generalize c0.a = a; generalize c0.ccd = ccd; generalize c0.cl = cl; generalize c0.outer = outer; generalize c0.A₀ = A₀; generalize c0.base = base; generalize c0.h₀ = h₀; generalize c0.L = L; generalize c0.m = m; generalize c0.s = s; generalize c0.Q = Q; generalize c0.E = E; generalize c0.news = news; generalize c0.vs = vs
    refine sb_in ?_
    intros hpre
    intros B F X N T hk ND hd hu ret
    dsimp only [PreM2] at hpre
    obtain ⟨rfl, hsub, rfl, hT, HB, hl⟩ := hpre
    have H := HB.hd
    have hcL := cLine_is
    have l1 := HB.lar
    have l2 := HB.lso
    have l3 := HB.lda
    have l4 := HB.len
    refine wpAny_call ?_
    k_dflt ktr_enter
    k_steps
    (with_reducible rename News _ _ _ _ => N1)
    (with_reducible rename Nd _ => ND1)
    k_dflt (refine' get_T (k := ⟨op, ks, so, da⟩) N1 ?k2q H HB.keys ?k4q ?k5q HB.lo ?k6q ?_; (case k2q => k_mem); (case k4q => exact fun p hp => bm_r (List.mem_cons_of_mem _ (hsub p hp))); (case k5q => (simp only [ktrTop, Around.deeper] at *; omega)); (case k6q => exact ⟨t1, aA, t3, t4, 0, bm_r List.mem_cons_self, hT.mono fun p hp => bm_r (List.mem_cons_of_mem _ (hsub p hp))⟩))
    intro tkG
    cases hak : atKey xs ⟨op, ks, so, da⟩ with
    | some pv =>
      have hmem := atKey_mem hak
      obtain ⟨n, t, e1, e2, e3⟩ := HB.vals _ hmem
      revert pv n t; exists pv; exists n; exists t; set_option tactic.hygienic false in intros
      dsimp only at e1
      simp only [Option.map_some, Option.getD_some]
      rw [e1]
      k_steps
      refine ret _ _ _ _ (by assumption) (by assumption) (by assumption) (in_5_8 b ([(_, tupOf [.str op t1, .ref aA, .int so t3, .int da t4] 0)]) n t xs rfl e2 rfl (HB.mono (fun p hp => List.mem_cons_of_mem _ hp)) (⟨pv.1, t, ?_⟩) (fun _ h => h) (.refl b) (by omega))
      obtain ⟨p1, p2⟩ := pv
      dsimp only at e1
      rw [← e1]
      exact hmem
    | none =>
      simp only [Option.map_none, Option.getD_none]
      k_steps
      (with_reducible rename News _ _ _ _ => N2)
      (with_reducible rename Nd _ => ND2)
      (with_reducible rename Fr _ _ _ _ => F2)
      k_dflt (refine' set_T (k := ⟨op, ks, so, da⟩) F2 N2 ?k2q (bu_nu ND2) H HB.keys ?k4q ?k5q ?k6q hak ?k7q ?_; (case k2q => k_mem); (case k4q => exact fun p hp => bm_r (List.mem_cons_of_mem _ (hsub p hp))); (case k5q => (simp only [ktrTop, Around.deeper] at *; omega)); (case k6q => exact ⟨t1, aA, t3, t4, 0, bm_r List.mem_cons_self, hT.mono fun p hp => bm_r (List.mem_cons_of_mem _ (hsub p hp))⟩); (case k7q => omega))
      intro h3 o3 tk3 F3 N3 H3
      dsimp only at N3
      have ND3 := nd_of N3 ND2 rfl
      k_steps
      (with_reducible rename News _ _ _ _ => N9)
      (with_reducible rename Nd _ => ND9)
      have hX := BOKx_new (t1 := t1) (t3 := t3) (t4 := t4) (n1 := b.opN + 1) (n2 := b.arN + 1) (n3 := b.soN + 1) (n4 := b.daN + 1) (HB.mono fun p hp => List.mem_cons_of_mem _ hp) (hT.mono fun p hp => List.mem_cons_of_mem _ hp) ⟨t1, aA, t3, t4, 0, List.mem_cons_self, hT.mono fun p hp => List.mem_cons_of_mem _ hp⟩ H3
      exact ret _ _ _ _ (by assumption) N9 ND9 (in_5_8 _ ([(_, tupOf [.str op t1, .ref aA, .int so t3, .int da t4] 0)]) b.op.length _ _ rfl HB.pos rfl hX (⟨_, _, List.mem_append_right _ List.mem_cons_self⟩) (fun x hx => List.mem_append_left _ hx) (⟨_, _, _, _, _, _, _, _, _, rfl⟩) (by simp))
  refine cut (T := Spec _root_.Mine.hd.heap_1_39 PySem.Challenge.rw_rg0217_01.row.prog 378 2 (PreA2 PySem.Challenge.rw_rg0217_01.row.prog) (PostA2 PySem.Challenge.rw_rg0217_01.row.prog)) ?_ fun c_app => ?_
  · skip
    clear c_fun_count c_op c_args c_sort c_data c_bool_term c_declare_fun
    have pmI : PMI := trivial
    k_fill
    refine spec_at ?_
    refine prod_all ?_
    intro b
    refine prod_all ?_
    intro rest
    refine prod_all ?_
    intro r0
    refine prod_all ?_
    intro f
    refine prod_all ?_
    intro t
    refine prod_all ?_
    intro sA
    refine prod_all ?_
    intro sn
    refine prod_all ?_
    intro aA
    refine prod_all ?_
    intro n
    refine prod_all ?_
    intro t5
    intro xs
    refine at_in ?_
    intro c0
    generalize c0.w = w; generalize c0.p = p; generalize c0.loose = loose; generalize c0.mean = mean; generalize c0.mg = mg; generalize c0.mb = mb; generalize c0.dp = dp; generalize c0.un = un; generalize c0.gd = gd; generalize c0.cn = cn; generalize c0.cs = cs; generalize c0.a = a; generalize c0.ccd = ccd; generalize c0.cl = cl; generalize c0.outer = outer; generalize c0.A₀ = A₀; generalize c0.base = base; generalize c0.h₀ = h₀; generalize c0.L = L; generalize c0.m = m; generalize c0.s = s; generalize c0.Q = Q; generalize c0.E = E; generalize c0.news = news; generalize c0.vs = vs
    refine sb_in ?_
    intros hpre
    intros B F X N T hk ND hd hu ret
    dsimp only [PreA2] at hpre
    obtain ⟨rfl, hsub, rfl, hs, hfa, ha, hfr, HB, hl, hf⟩ := hpre
    refine wpAny_call ?_
    k_dflt ktr_enter
    k_steps
    (with_reducible rename News _ _ _ _ => N1)
    (with_reducible rename Fr _ _ _ _ => F1)
    refine For_turns F1 ?_
    k_steps
    with_unfolding_all (refine' ze_turns (ys := []) rfl F1 N1 ?k1q ?k2q ?_; (case k1q => exact bm_r hs); (case k2q => exact bm_r ha))
    intro h2 tk2 F2 N2
    k_steps
    k_dflt (refine' use_specE c_make ?kBq ?kFq ?kXq ?kNq ?kTq ?kKq ?kDq ?kdq ?kuq ((b, _ :: rest, _ :: r0, _, _, _, [], _, _, _, _, xs)) ?kpq ?_; (case kFq => k_asm); (case kBq => k_asm); (case kXq => k_asm); (case kNq => k_asm); (case kTq => k_asm); (case kKq => first | exact rfl | assumption); (case kDq => assumption); (case kdq => ktr_room); (case kuq => ktr_units); (case kpq => refine' (in_0_6 rfl ((fun p hp => by rcases List.mem_cons.mp hp with rfl | hp; exact List.mem_cons_self; exact List.mem_cons_of_mem _ (hsub p hp))) rfl (⟨[], 0, List.mem_cons_self, .nil⟩) (HB.mono (fun p hp => List.mem_cons_of_mem _ hp)) hl)))
    intro news3 r3 hpost
    intro h3 tk3 F3 N3 ND3
    have hM := Made.cons hpost
    obtain ⟨b', new, n', t', xs', rfl, hn, rfl, hB', hT', hE, hle⟩ := hpost
    k_steps
    exact ret _ _ _ _ (by assumption) (by assumption) (by assumption) hM
  refine cut (T := Spec _root_.Mine.hd.heap_1_39 PySem.Challenge.rw_rg0217_01.row.prog 459 1 PreS0 PostDp) ?_ fun c_depth => ?_
  · skip
    clear c_fun_count c_op c_args c_sort c_data c_bool_term c_declare_fun c_make c_app
    have pmI : PMI := trivial
    k_fill
    refine spec_at ?_
    refine prod_all ?_
    intro b
    refine prod_all ?_
    intro y
    intro rest
    refine at_in ?_
    intro c0
    generalize c0.w = w; generalize c0.p = p; generalize c0.loose = loose; generalize c0.mean = mean; generalize c0.mg = mg; generalize c0.mb = mb; generalize c0.dp = dp; generalize c0.un = un; generalize c0.gd = gd; generalize c0.cn = cn; generalize c0.cs = cs; generalize c0.a = a; generalize c0.ccd = ccd; generalize c0.cl = cl; generalize c0.outer = outer; generalize c0.A₀ = A₀; generalize c0.base = base; generalize c0.h₀ = h₀; generalize c0.L = L; generalize c0.m = m; generalize c0.s = s; generalize c0.Q = Q; generalize c0.E = E; generalize c0.news = news; generalize c0.vs = vs
    refine sb_in ?_
    intros hpre
    intros B F X N T hk ND hd hu ret
    dsimp only [PreS0] at hpre
    obtain ⟨rfl, rfl, hl1, hl2⟩ := hpre
    refine wpAny_call ?_
    k_dflt ktr_enter
    k_steps
    exact ret _ _ _ _ (by assumption) (by assumption) ND ⟨rfl, _, rfl⟩
  refine cut (T := Spec _root_.Mine.hd.heap_1_39 PySem.Challenge.rw_rg0217_01.row.prog 466 1 PreS0 PostPush) ?_ fun c_push => ?_
  · skip
    clear c_fun_count c_op c_args c_sort c_data c_bool_term c_declare_fun c_make c_app c_depth
    have pmI : PMI := trivial
    k_fill
    refine spec_at ?_
    refine prod_all ?_
    intro b
    refine prod_all ?_
    intro y
    intro rest
    refine at_in ?_
    intro c0
    generalize c0.w = w; generalize c0.p = p; generalize c0.loose = loose; generalize c0.mean = mean; generalize c0.mg = mg; generalize c0.mb = mb; generalize c0.dp = dp; generalize c0.un = un; generalize c0.gd = gd; generalize c0.cn = cn; generalize c0.cs = cs; generalize c0.a = a; generalize c0.ccd = ccd; generalize c0.cl = cl; generalize c0.outer = outer; generalize c0.A₀ = A₀; generalize c0.base = base; generalize c0.h₀ = h₀; generalize c0.L = L; generalize c0.m = m; generalize c0.s = s; generalize c0.Q = Q; generalize c0.E = E; generalize c0.news = news; generalize c0.vs = vs
    refine sb_in ?_
    intros hpre
    intros B F X N T hk ND hd hu ret
    dsimp only [PreS0] at hpre
    obtain ⟨rfl, rfl, hl1, hl2⟩ := hpre
    refine wpAny_call ?_
    k_dflt ktr_enter
    k_steps
    exact ret _ _ _ _ (by assumption) (by assumption) (by assumption) (in_1_2 _ rfl rfl)
  refine cut (T := Spec _root_.Mine.hd.heap_1_39 PySem.Challenge.rw_rg0217_01.row.prog 548 1 PreU PostU) ?_ fun c_unbind => ?_
  · skip
    clear c_fun_count c_op c_args c_sort c_data c_bool_term c_declare_fun c_make c_app c_depth c_push
    have pmI : PMI := trivial
    k_fill
    refine spec_at ?_
    refine prod_all ?_
    intro b
    refine prod_all ?_
    intro y
    refine prod_all ?_
    intro rest
    refine prod_all ?_
    intro k
    intro t
    refine at_in ?_
    intro c0
    generalize c0.w = w; generalize c0.p = p; generalize c0.loose = loose; generalize c0.mean = mean; generalize c0.mg = mg; generalize c0.mb = mb; generalize c0.dp = dp; generalize c0.un = un; generalize c0.gd = gd; generalize c0.cn = cn; generalize c0.cs = cs; generalize c0.a = a; generalize c0.ccd = ccd; generalize c0.cl = cl; generalize c0.outer = outer; generalize c0.A₀ = A₀; generalize c0.base = base; generalize c0.h₀ = h₀; generalize c0.L = L; generalize c0.m = m; generalize c0.s = s; generalize c0.Q = Q; generalize c0.E = E; generalize c0.news = news; generalize c0.vs = vs
    refine sb_in ?_
    intros hpre
    intros B F X N T hk ND hd hu ret
    dsimp only [PreU] at hpre
    obtain ⟨rfl, rfl, hk1, hk2⟩ := hpre
    refine wpAny_call ?_
    k_dflt ktr_enter
    k_steps
    (with_reducible rename News _ _ _ _ => N1)
    (with_reducible rename Fr _ _ _ _ => F1)
    refine While_inv (n₀ := y.le.length) (fun j m₁ news₁ => m₁ = _ ∧ ∃ l n, l <+: y.le ∧ l.length = j ∧ k ≤ j ∧ news₁ = bled w b ++ (sled w { y with le := l, leN := n } ++ rest)) F1 N1 ⟨rfl, y.le, y.leN, List.prefix_rfl, rfl, hk1, rfl⟩ ?_
    rintro j m₁ news₁ h₁ tk₁ F2 N2 ⟨rfl, l, n, hl, hj, hkj, rfl⟩
    revert j h₁ tk₁ l n; exists j; exists h₁; exists tk₁; exists l; exists n; set_option tactic.hygienic false in intros
    have ND2 := nd_of N2 ND rfl
    have hlen := hl.length_le
    clear F1 N1
    by_cases hlt : k < j
    · obtain ⟨p, v, rfl⟩ := last_split (l := l) (by omega)
      revert p v; exists p; exists v; set_option tactic.hygienic false in intros
      simp only [List.length_append, List.length_cons, List.length_nil] at hlen hj
      k_steps
      (with_reducible rename News _ _ _ _ => N3)
      (with_reducible rename Fr _ _ _ _ => F3)
      k_dflt (refine' pop_L (p := p) (y := v) rfl F3 N3 ?kUq ?k4q ?_; (case kUq => exact su_le (by assumption)); (case k4q => omega))
      intro h4 F4 N4
      dsimp only at N4
      k_steps
      exact WhileStep.intro (n' := p.length) (by assumption) (by assumption) (by omega) ⟨rfl, p, _, take_split hl, rfl, by omega, rfl⟩
    · k_steps
      have hkl : l.length = k := by omega
      obtain rfl := prefix_take hl hkl
      exact ret _ _ _ _ (by assumption) (by assumption) (by assumption) (in_1_2 n rfl rfl)
  refine cut (T := Spec _root_.Mine.hd.heap_1_39 PySem.Challenge.rw_rg0217_01.row.prog 487 1 (PreR PySem.Challenge.rw_rg0217_01.row.prog) (PostR PySem.Challenge.rw_rg0217_01.row.prog)) ?_ fun c_roll_back => ?_
  · skip
    clear c_fun_count c_op c_args c_sort c_data c_bool_term c_declare_fun c_make c_app c_depth c_push c_unbind
    have pmI : PMI := trivial
    k_fill
    refine spec_at ?_
    refine prod_all ?_
    intro b
    refine prod_all ?_
    intro y
    refine prod_all ?_
    intro rest
    refine prod_all ?_
    intro kvs
    refine prod_all ?_
    intro k
    intro t
    refine at_in ?_
    intro c0
    generalize c0.w = w; generalize c0.p = p; generalize c0.loose = loose; generalize c0.mean = mean; generalize c0.mg = mg; generalize c0.mb = mb; generalize c0.dp = dp; generalize c0.un = un; generalize c0.gd = gd; generalize c0.cn = cn; generalize c0.cs = cs; generalize c0.a = a; generalize c0.ccd = ccd; generalize c0.cl = cl; generalize c0.outer = outer; generalize c0.A₀ = A₀; generalize c0.base = base; generalize c0.h₀ = h₀; generalize c0.L = L; generalize c0.m = m; generalize c0.s = s; generalize c0.Q = Q; generalize c0.E = E; generalize c0.news = news; generalize c0.vs = vs
    refine sb_in ?_
    intros hpre
    intros B F X N T hk ND hd hu ret
    dsimp only [PreR] at hpre
    obtain ⟨rfl, rfl, hd0, hb0, hk1, hk2⟩ := hpre
    refine wpAny_call ?_
    k_dflt ktr_enter
    k_steps
    (with_reducible rename News _ _ _ _ => N1)
    (with_reducible rename Fr _ _ _ _ => F1)
    refine While_inv (n₀ := kvs.length) (fun j m₁ news₁ => m₁ "self" = some (.ref y.inst) ∧ m₁ "mark" = some (.int (k : Nat) t) ∧ ∃ l kv n fo, l <+: y.br ∧ kv <+: kvs ∧ kv.length = j ∧ k ≤ j ∧ fo.IsDictOf (PySem.strKind PySem.Challenge.rw_rg0217_01.row.prog w) kv ∧ BrOK rest l (kv.map (·.1)) ∧ news₁ = bled w b ++ (sled w { y with br := l, brN := n, fuO := fo } ++ rest)) F1 N1 ⟨by with_unfolding_all rfl, by with_unfolding_all rfl, y.br, kvs, y.brN, y.fuO, List.prefix_rfl, List.prefix_rfl, rfl, hk1, hd0, hb0, rfl⟩ ?_
    rintro j m₁ news₁ h₁ tk₁ F2 N2 ⟨hm1, hm2, l, kv, n, fo, hl, hkv, hj, hkj, hdk, hbk, rfl⟩
    revert j m₁ h₁ tk₁ l kv n fo; exists j; exists m₁; exists h₁; exists tk₁; exists l; exists kv; exists n; exists fo; set_option tactic.hygienic false in intros
    have hMM : MapMark m₁ := trivial
    have ND2 := nd_of N2 ND rfl
    have hlen := hkv.length_le
    have hbl := hbk.1
    simp only [List.length_map] at hbl
    clear F1 N1
    by_cases hlt : k < j
    · obtain ⟨kp, ⟨kn, kval⟩, hE1⟩ := last_split (l := kv) (by omega)
      revert kp kn kval; exists kp; exists kn; exists kval; set_option tactic.hygienic false in intros
      rw [hE1] at hlen hj hdk hbk hkv hbl
      simp only [List.length_append, List.length_cons, List.length_nil] at hlen hj hbl
      obtain ⟨lp, lv, hE2⟩ := last_split (l := l) (by omega)
      revert lp lv; exists lp; exists lv; set_option tactic.hygienic false in intros
      (with_reducible rename Fr _ _ _ _ => F2)
      (with_reducible rename News _ _ _ _ => N2)
      (with_reducible rename Nd _ => ND2)
      rw [hE2] at N2 ND2 hbk hbl hl
      simp only [List.length_append, List.length_cons, List.length_nil] at hbl
      rw [List.map_append, List.map_cons, List.map_nil] at hbk
      obtain ⟨hbk', ta, t1, t2, tn, hE3, htm⟩ := hbk.last
      revert ta t1 t2 tn; exists ta; exists t1; exists t2; exists tn; set_option tactic.hygienic false in intros
      rw [hE3] at N2 ND2
      dsimp only at htm
      k_steps
      (with_reducible rename News _ _ _ _ => N3)
      (with_reducible rename Fr _ _ _ _ => F3)
      k_dflt (refine' pop_L (p := lp) rfl F3 N3 ?kUq ?k4q ?_; (case kUq => exact su_br (by assumption)); (case k4q => omega))
      intro h4 F4 N4
      dsimp only at N4
      have ND4 := nd_of N4 ND2 rfl
      k_steps
      (with_reducible rename News _ _ _ _ => N5)
      (with_reducible rename Fr _ _ _ _ => F5)
      have hnd : (((kp ++ [(kn, kval)]).map (·.1)).Nodup) := by obtain ⟨_, _, _, _, _, _, q⟩ := hdk; exact q
      k_dflt (refine' kob_pop (knd := PySem.strKind _ _) (more := []) F5 N5 ?kUq hdk (strKind_is _ _ _ _) (.inl rfl) (by rfl) (PySem.F.args_dict_pop_2 _ _) (valueAt_last hnd) ?kzq ?_; (case kUq => exact su_fu ND4); (case kzq => (rw [sizeLine_eq]; simp only [List.length_append, List.length_cons, List.length_nil]; omega)))
      intro h6 fo6 F6 N6 hd6
      rw [without_last hnd] at hd6
      dsimp only at N6
      k_steps
      exact WhileStep.intro (n' := kp.length) (by assumption) (by assumption) (by omega) ⟨by with_unfolding_all exact hm1, by with_unfolding_all exact hm2, lp, kp, _, fo6, take_split hl, take_split hkv, rfl, by omega, hd6, hbk', rfl⟩
    · k_steps
      have hkl : kv.length = k := by omega
      have hll : l.length = k := by omega
      have hE4 := prefix_take hkv hkl
      have hE5 := prefix_take hl hll
      rw [hE4] at hdk
      exact ret _ _ _ _ (by assumption) (by assumption) (by assumption) (in_2_3 n fo (by rw [hE5]) hdk rfl)
  refine cut (T := Spec _root_.Mine.hd.heap_1_39 PySem.Challenge.rw_rg0217_01.row.prog 473 2 (PrePp PySem.Challenge.rw_rg0217_01.row.prog) (PostPp PySem.Challenge.rw_rg0217_01.row.prog)) ?_ fun c_pop => ?_
  · skip
    clear c_fun_count c_op c_args c_sort c_data c_bool_term c_declare_fun c_make c_app c_depth c_push c_unbind
    have pmI : PMI := trivial
    k_fill
    refine spec_at ?_
    refine prod_all ?_
    intro b
    refine prod_all ?_
    intro y
    refine prod_all ?_
    intro rest
    refine prod_all ?_
    intro kvs
    refine prod_all ?_
    intro sc
    refine prod_all ?_
    intro k
    intro t
    refine at_in ?_
    intro c0
    generalize c0.w = w; generalize c0.p = p; generalize c0.loose = loose; generalize c0.mean = mean; generalize c0.mg = mg; generalize c0.mb = mb; generalize c0.dp = dp; generalize c0.un = un; generalize c0.gd = gd; generalize c0.cn = cn; generalize c0.cs = cs; generalize c0.a = a; generalize c0.ccd = ccd; generalize c0.cl = cl; generalize c0.outer = outer; generalize c0.A₀ = A₀; generalize c0.base = base; generalize c0.h₀ = h₀; generalize c0.L = L; generalize c0.m = m; generalize c0.s = s; generalize c0.Q = Q; generalize c0.E = E; generalize c0.news = news; generalize c0.vs = vs
    refine sb_in ?_
    intros hpre
    intros B F X N T hk ND hd hu ret
    dsimp only [PrePp] at hpre
    obtain ⟨rfl, rfl, hsc, hsl, hd0, hb0, hk1, hk2⟩ := hpre
    refine wpAny_call ?_
    k_dflt ktr_enter
    k_steps
    (with_reducible rename News _ _ _ _ => N3)
    (with_reducible rename Fr _ _ _ _ => F3)
    k_dflt (refine' pop_L (p := sc) hsc F3 N3 ?kUq ?k4q ?_; (case kUq => exact su_sc ND); (case k4q => omega))
    intro h4 F4 N4
    try dsimp only at N4
    have ND4 := nd_of N4 ND rfl
    k_steps
    k_dflt (refine' use_specE c_roll_back ?kBq ?kFq ?kXq ?kNq ?kTq ?kKq ?kDq ?kdq ?kuq ((_, _, _, kvs, _, _)) ?kpq ?_; (case kFq => k_asm); (case kBq => k_asm); (case kXq => k_asm); (case kNq => k_asm); (case kTq => k_asm); (case kKq => first | exact rfl | assumption); (case kDq => assumption); (case kdq => ktr_room); (case kuq => ktr_units); (case kpq => refine' (in_0_6 rfl rfl hd0 hb0 hk1 hk2)))
    refine elq_0_2_3_0_2 ?_
    intro n fo hfo h5 tk5 F5 N5 ND5
    try dsimp only at N5 ND5
    k_steps
    exact ret _ _ _ _ (by assumption) (by assumption) (by assumption) (in_3_3 _ _ fo rfl hfo rfl)
  refine cut (T := Spec _root_.Mine.hd.heap_1_39 PySem.Challenge.rw_rg0217_01.row.prog 541 1 PreBd (PostBd PySem.Challenge.rw_rg0217_01.row.prog)) ?_ fun c_bind => ?_
  · skip
    clear c_fun_count c_op c_args c_sort c_data c_bool_term c_declare_fun c_make c_app c_depth c_push c_unbind c_roll_back c_pop
    have pmI : PMI := trivial
    k_fill
    refine spec_at ?_
    refine prod_all ?_
    intro b
    refine prod_all ?_
    intro y
    refine prod_all ?_
    intro rest
    refine prod_all ?_
    intro nA
    refine prod_all ?_
    intro tA
    refine prod_all ?_
    intro ps
    refine prod_all ?_
    intro n1
    intro n2
    refine at_in ?_
    intro c0
    generalize c0.w = w; generalize c0.p = p; generalize c0.loose = loose; generalize c0.mean = mean; generalize c0.mg = mg; generalize c0.mb = mb; generalize c0.dp = dp; generalize c0.un = un; generalize c0.gd = gd; generalize c0.cn = cn; generalize c0.cs = cs; generalize c0.a = a; generalize c0.ccd = ccd; generalize c0.cl = cl; generalize c0.outer = outer; generalize c0.A₀ = A₀; generalize c0.base = base; generalize c0.h₀ = h₀; generalize c0.L = L; generalize c0.m = m; generalize c0.s = s; generalize c0.Q = Q; generalize c0.E = E; generalize c0.news = news; generalize c0.vs = vs
    refine sb_in ?_
    intros hpre
    intros B F X N T hk ND hd hu ret
    dsimp only [PreBd] at hpre
    obtain ⟨rfl, rfl, hn, ht, hnd, hpl, hyl⟩ := hpre
    refine wpAny_call ?_
    k_dflt ktr_enter
    k_steps
    (with_reducible rename News _ _ _ _ => N1)
    (with_reducible rename Fr _ _ _ _ => F1)
    (with_reducible rename Nd _ => ND1)
    refine For_turns F1 ?_
    rename_i d0 hX o0 lo0 hd0 h0
    k_steps
    have hnd0 : Nd ((d0, o0) :: rest) := nd_right (nd_right ND1)
    have hls : d0 ∉ [nA, tA] := by
      intro hq
      simp only [List.mem_cons, List.not_mem_nil, or_false] at hq
      rcases hq with e | e
      · exact nd_ne hnd0 hn e.symm
      · exact nd_ne hnd0 ht e.symm
    refine zip_loop (xs := ps.map fun p => Value.str p.1 p.2.1) (ys := ps.map (·.2.2)) (fun i m₁ news₁ => m₁ "self" = some (.ref y.inst) ∧ m₁ "table" = some (.ref d0) ∧ ∃ o, o.IsDictOf (PySem.strKind PySem.Challenge.rw_rg0217_01.row.prog w) ((ps.take i).map fun p => (p.1, p.2.2)) ∧ news₁ = bled w b ++ (sled w y ++ ((d0, o) :: rest)))
      (by rfl) F1 N1 (bm_r (sm_r (List.mem_cons_of_mem _ hn))) (bm_r (sm_r (List.mem_cons_of_mem _ ht))) (by simp) ⟨by with_unfolding_all rfl, by with_unfolding_all rfl, o0, by simpa using hd0, rfl⟩ ?_ ?_
    · rintro i x y' T m₁ news₁ h₁ tk₁ own hx hy hadr ⟨hm1, hm2, o, ho, rfl⟩ hown hT F2 N2
      have hMM : MapMark m₁ := trivial
      rw [List.getElem?_map] at hx hy
      obtain ⟨⟨pn, pt, pv⟩, hp, rfl⟩ := Option.map_eq_some_iff.mp hx
      rw [hp] at hy
      simp only [Option.map_some, Option.some.injEq] at hy
      subst hy
      revert i T m₁ h₁ tk₁ own o pn pt pv; exists i; exists T; exists m₁; exists h₁; exists tk₁; exists own; exists o; exists pn; exists pt; exists pv; set_option tactic.hygienic false in intros
      clear F1 N1
      have pmH : PMH := trivial
      k_steps
      unfold Hold
      (with_reducible rename PMH => pmH)
      clear pmH
      (with_reducible rename News _ _ _ _ => N3)
      (with_reducible rename Fr _ _ _ _ => F3)
      have ND3 : Nd (bled w b ++ (sled w y ++ ((d0, o) :: rest))) := nd_same ND1 rfl
      have hol : (((ps.take i).map fun p => (p.1, p.2.2)) : List (Str × Value)).length ≤ 100 := by simp only [List.length_map, List.length_take]; omega
      k_dflt (refine' kda_set (knd := PySem.strKind _ _) F3 N3 (updF_own (own_ne hown hls ?kdq) (su_r0 ND3)) ho (strKind_is _ _ _ _) ?kzq ?_; (case kdq => exact List.mem_map.mpr ⟨(d0, o0), bm_r (sm_r List.mem_cons_self), rfl⟩); (case kzq => (rw [sizeLine_eq]; omega)))
      intro h4 o4 F4 N4 ho4
      rw [stored_new hnd hp] at ho4
      k_steps
      exact TEnd.intro (by assumption) (by assumption) (by exact hadr) ⟨by with_unfolding_all exact hm1, by with_unfolding_all exact hm2, o4, ho4, rfl⟩
    · rintro m' news' h₂ tk₂ ⟨hm1, hm2, o, ho, rfl⟩ hadr F2 N2
      revert m' h₂ tk₂ o; exists m'; exists h₂; exists tk₂; exists o; set_option tactic.hygienic false in intros
      have hMM : MapMark m' := trivial
      have ND2 := nd_of N2 ND1 rfl
      clear F1 N1
      k_steps
      simp only [List.length_map, List.take_length] at ho
      exact ret _ _ _ _ (by assumption) (by assumption) (by assumption) (in_2_4 d0 o rfl lo0 ho rfl)
  refine cut (T := Spec _root_.Mine.hd.heap_1_39 PySem.Challenge.rw_rg0217_01.row.prog 555 1 (PreBo PySem.Challenge.rw_rg0217_01.row.prog) PostBo) ?_ fun c_bound => ?_
  · skip
    clear c_fun_count c_op c_args c_sort c_data c_bool_term c_declare_fun c_make c_app c_depth c_push c_unbind c_roll_back c_pop c_bind
    have pmI : PMI := trivial
    k_fill
    refine spec_at ?_
    refine prod_all ?_
    intro b
    refine prod_all ?_
    intro y
    refine prod_all ?_
    intro rest
    refine prod_all ?_
    intro nm
    refine prod_all ?_
    intro t
    intro ts
    refine at_in ?_
    intro c0
    generalize c0.w = w; generalize c0.p = p; generalize c0.loose = loose; generalize c0.mean = mean; generalize c0.mg = mg; generalize c0.mb = mb; generalize c0.dp = dp; generalize c0.un = un; generalize c0.gd = gd; generalize c0.cn = cn; generalize c0.cs = cs; generalize c0.a = a; generalize c0.ccd = ccd; generalize c0.cl = cl; generalize c0.outer = outer; generalize c0.A₀ = A₀; generalize c0.base = base; generalize c0.h₀ = h₀; generalize c0.L = L; generalize c0.m = m; generalize c0.s = s; generalize c0.Q = Q; generalize c0.E = E; generalize c0.news = news; generalize c0.vs = vs
    refine sb_in ?_
    intros hpre
    intros B F X N T hk ND hd hu ret
    dsimp only [PreBo] at hpre
    obtain ⟨rfl, rfl, ⟨hl1, hl2⟩, htl⟩ := hpre
    refine wpAny_call ?_
    k_dflt ktr_enter
    k_steps
    (with_reducible rename News _ _ _ _ => N1)
    (with_reducible rename Fr _ _ _ _ => F1)
    with_unfolding_all refine For_invVF F1 (by rfl) (by rfl) ?_
    k_steps
    (with_reducible rename News _ _ _ _ => N2)
    (with_reducible rename Fr _ _ _ _ => F2)
    (with_reducible rename IsRange _ _ _ _ _ _ _ _ => hR)
    refine range_loop (n := ts.length) (fun i m₁ news₁ => m₁ "self" = some (.ref y.inst) ∧ m₁ "name" = some (.str nm t) ∧ news₁ = bled w b ++ (sled w y ++ rest) ∧ (ts.reverse.take i).findSome? (fun kvs => valueAt kvs nm) = none) (by rfl) hR ?_ ?_ F2 N2 ⟨by with_unfolding_all rfl, by with_unfolding_all rfl, rfl, rfl⟩ ?_ ?_
    · exact small_down (by omega) (by omega) (by omega) (by omega)
    · rw [rangeSize_downNat]; omega
    · rintro i t' m₁ news₁ h₁ tk₁ own hi hadr ⟨hm1, hm2, rfl, hno⟩ hown F3 N3
      have hMM : MapMark m₁ := trivial
      clear F2 N2
      obtain ⟨j, hj⟩ : ∃ j : Nat, j = ts.length - 1 - i := ⟨_, rfl⟩
      have e1 : (y.le.length : Int) - 1 + (i : Int) * -1 = ((j : Nat) : Int) := by omega
      rw [e1] at F3
      obtain ⟨kvs, hkv⟩ : ∃ kvs, ts[j]? = some kvs := ⟨_, List.getElem?_eq_getElem (by omega)⟩
      obtain ⟨d, o, hx, hm, lo, hd⟩ := hl2 j kvs hkv
      revert i t' m₁ h₁ tk₁ own j kvs d o; exists i; exists t'; exists m₁; exists h₁; exists tk₁; exists own; exists j; exists kvs; exists d; exists o; set_option tactic.hygienic false in intros
      have hrev : ts.reverse[i]? = some kvs := by
        rw [List.getElem?_reverse (by omega), ← hj]; exact hkv
      have htk : ts.reverse.take (i + 1) = ts.reverse.take i ++ [kvs] := by rw [List.take_add_one, hrev]; rfl
      have hjl : j < 1000 := by omega
      cases hv : valueAt kvs nm with
      | none =>
        k_steps
        exact TEnd.intro (by assumption) (by assumption) (by exact hadr) ⟨by with_unfolding_all exact hm1, by with_unfolding_all exact hm2, rfl, by rw [htk, List.findSome?_append, hno]; simp [hv]⟩
      | some v =>
        revert v; exists v; set_option tactic.hygienic false in intros
        k_steps
        (with_reducible rename News _ _ _ _ => N4)
        have N5 := News.right N4
        clear N4
        unfold TEnd
        dsimp only
        k_steps
        refine ret _ _ _ _ (by assumption) (by assumption) ND ⟨rfl, .inl ?_⟩
        have hcut : ts.reverse = (ts.reverse.take i ++ [kvs]) ++ ts.reverse.drop (i + 1) := by rw [← htk, List.take_append_drop]
        show (ts.reverse.findSome? fun kvs => valueAt kvs nm) = some v
        rw [hcut, List.findSome?_append, List.findSome?_append, hno]
        simp [hv]
    · rintro m' news' h₂ tk₂ ⟨hm1, hm2, rfl, hno⟩ hadr F3 N3
      revert m' h₂ tk₂; exists m'; exists h₂; exists tk₂; set_option tactic.hygienic false in intros
      have hMM : MapMark m' := trivial
      have ND2 := nd_of N3 ND rfl
      clear F2 N2
      k_steps
      refine ret _ _ _ _ (by assumption) (by assumption) (by assumption) ⟨rfl, .inr ⟨?_, _, rfl⟩⟩
      rw [← List.length_reverse, List.take_length] at hno
      exact hno
  refine cut (T := Spec _root_.Mine.hd.heap_1_39 PySem.Challenge.rw_rg0217_01.row.prog 67 2 PreX PostX) ?_ fun c_sf => ?_
  · skip
    clear c_fun_count c_op c_args c_sort c_data c_bool_term c_declare_fun c_make c_app c_depth c_push c_unbind c_roll_back c_pop c_bind c_bound
    have pmI : PMI := trivial
    k_fill
    refine spec_at ?_
    intro x
    refine at_in ?_
    intro c0
    generalize c0.w = w; generalize c0.p = p; generalize c0.loose = loose; generalize c0.mean = mean; generalize c0.mg = mg; generalize c0.mb = mb; generalize c0.dp = dp; generalize c0.un = un; generalize c0.gd = gd; generalize c0.cn = cn; generalize c0.cs = cs; generalize c0.a = a; generalize c0.ccd = ccd; generalize c0.cl = cl; generalize c0.outer = outer; generalize c0.A₀ = A₀; generalize c0.base = base; generalize c0.h₀ = h₀; generalize c0.L = L; generalize c0.m = m; generalize c0.s = s; generalize c0.Q = Q; generalize c0.E = E; generalize c0.news = news; generalize c0.vs = vs
    refine sb_in ?_
    intros hpre
    intros B F X N T hk ND hd hu ret
    dsimp only [PreX] at hpre
    obtain rfl := hpre
    k_dflt (refine' sf_make ?k1q ?k2q ?k3q ?k4q ?k5q ?k6q ?k7q ?k8q ?k9q ?k10q ?k11q ?_; (case k1q => k_asm); (case k2q => k_asm); (case k3q => k_asm); (case k4q => k_is); (case k5q => rfl); (case k6q => rfl); (case k7q => rfl); (case k8q => k_is); (case k9q => k_is); (case k10q => k_is); (case k11q => k_is))
    intro e t0 h1 F1 N1 l1
    k_dflt (refine' ks_code_super ?k1q ?k2q ?k3q ?k4q ?k5q ?kAq ?kFq ?kKq ?k6q ?k7q ?k8q ?k9q ?kBq ?_ ?c1q ?c2q ?c3q ?c4q; (case kAq => exact rfl); (case kFq => exact rfl); (case kKq => assumption); (case k1q => k_asm); (case k2q => k_asm); (case k3q => k_asm); (case k4q => k_asm); (case k5q => k_asm); (case k6q => k_is); (case k7q => k_is); (case k8q => ktr_room); (case k9q => exact BindsTo.of_eq rfl); (case kBq => exact locs rfl); (case c1q => decide); (case c2q => exact rfl); (case c3q => exact rfl); (case c4q => exact rfl))
    intro g' L' h' FG' F' N' B' X' T' l2
    try dsimp only
    refine ks_wpAt_execs_cons ?_
    refine ks_wpAt_Expr_any ?_
    refine ks_wpAt_MethodCall ?_
    k_dflt (refine' ks_node ?Fq ?Xq ?Nq ?Tq ?hfq ?hpq ?hvq ?Iq ?hcodeq ?hvsq ?hfileq ?hcellq ?hDq ?hsubq ?hsuperq ?hatq ?hksq ?hkcq ?hkaq ?hkq ?htopq ?hbootq ?_; (case Fq => k_asm); (case Xq => k_asm); (case Nq => k_asm); (case Tq => k_asm); (case hfq => k_is); (case hpq => rfl); (case hvq => rfl); (case Iq => exact inst_exc (N' _ List.mem_cons_self).1); (case hcodeq => k_is); (case hvsq => rfl); (case hfileq => kernel_rfl); (case hcellq => k_is); (case hDq => k_is); (case hsubq => k_is); (case hsuperq => k_is); (case hatq => decide); (case hksq => decide); (case hkcq => decide); (case hkaq => decide); (case hkq => rfl); (case htopq => kernel_rfl); (case hbootq => kernel_rfl))
    intro so h2 F2 N2 l3
    k_dflt (refine' sf_meth ?Fq ?Xq ?Nq ?hsoq ?hxq ?hoq ?hmq ?hsubq ?_; (case Fq => k_asm); (case Xq => k_asm); (case Nq => k_asm); (case hsoq => exact List.mem_cons_self); (case hxq => exact List.mem_cons_of_mem _ List.mem_cons_self); (case hoq => k_is); (case hmq => ks_is); (case hsubq => k_is))
    intro q h3 F3 N3 l4
    dsimp only
    refine callWith_W (x := e) ?_
    k_steps
    · exact (N3 _ List.mem_cons_self).1
    have q1 : ∀ p ∈ [(q, wrapObj e), (so, ks_superObj 47 e 67)], p.1 ≠ e := by
      intros p hp
      have a1 := l3 (e, excO 67 (.ref t0) none) List.mem_cons_self
      have a2 := l4 (e, excO 67 (.ref t0) none) (List.mem_cons_of_mem _ List.mem_cons_self)
      simp only [List.mem_cons, List.not_mem_nil, or_false] at hp
      rcases hp with rfl | rfl
      · exact Nat.ne_of_gt a2
      · exact Nat.ne_of_gt a1
    have q2 : ∀ p ∈ news, p.1 ≠ e := fun p hp => Nat.ne_of_lt (l1 p hp)
    k_dflt (refine' sf_wrap (pre := [(q, wrapObj e), (so, ks_superObj 47 e 67)]) (post := news) ?Fq ?Xq ?Nq ?hqq ?hcq ?h1q ?h2q ?_; (case Fq => k_asm); (case Xq => k_asm); (case Nq => exact N3); (case hqq => exact List.mem_cons_self); (case hcq => k_is); (case h1q => exact q1); (case h2q => exact q2))
    intro t1 h4 F4 N4
    refine _root_.PySem.wpAt_of_wpAny ?_
    k_steps
    k_dflt (refine' sf_set (D := 47) (pre := [(q, wrapObj e), (so, ks_superObj 47 e 67)]) (post := news) ?Fq ?Xq ?Nq ?hcq ?hmq ?haq ?hdq ?hsq ?h1q ?h2q ?_; (case Fq => k_asm); (case Xq => k_asm); (case Nq => exact N4); (case hcq => k_is); (case hmq => rfl); (case haq => k_is); (case hdq => rfl); (case hsq => k_is); (case h1q => exact q1); (case h2q => exact q2))
    intro d h5 tk5 F5 N5
    k_steps
    (with_reducible rename News _ _ _ _ => N6)
    exact ret _ _ _ _ (by assumption) (news_sub N6 fun p hp => List.mem_cons_of_mem _ (List.mem_cons_of_mem _ hp)) (nd_cons ND l1) (in_3_2 e t1 d rfl rfl)
  refine cut (T := SpecR _root_.Mine.hd.heap_1_39 PySem.Challenge.rw_rg0217_01.row.prog 515 3 (PreBf PySem.Challenge.rw_rg0217_01.row.prog) (PostBf PySem.Challenge.rw_rg0217_01.row.prog) PostBfR) ?_ fun c_bring => ?_
  · skip
    clear c_fun_count c_op c_args c_sort c_data c_bool_term c_declare_fun c_make c_app c_depth c_push c_unbind c_roll_back c_pop c_bind c_bound
    have pmI : PMI := trivial
    k_fill
    refine spec_atR ?_
    refine prod_all ?_
    intro b
    refine prod_all ?_
    intro y
    refine prod_all ?_
    intro rest
    refine prod_all ?_
    intro nm
    refine prod_all ?_
    intro t
    refine prod_all ?_
    intro en
    intro kvs
    refine at_inR ?_
    intro c0
    generalize c0.w = w; generalize c0.p = p; generalize c0.loose = loose; generalize c0.mean = mean; generalize c0.mg = mg; generalize c0.mb = mb; generalize c0.dp = dp; generalize c0.un = un; generalize c0.gd = gd; generalize c0.cn = cn; generalize c0.cs = cs; generalize c0.a = a; generalize c0.ccd = ccd; generalize c0.cl = cl; generalize c0.outer = outer; generalize c0.A₀ = A₀; generalize c0.base = base; generalize c0.h₀ = h₀; generalize c0.L = L; generalize c0.m = m; generalize c0.s = s; generalize c0.Q = Q; generalize c0.E = E; generalize c0.news = news; generalize c0.vs = vs
    refine sb_inR ?_
    intros hpre
    intros B F X N T hk ND hd hu ret rai
    dsimp only [PreBf] at hpre
    obtain ⟨rfl, rfl, hnm, hd0, lo0, hkl, hbl⟩ := hpre
    refine wpAny_call ?_
    simp only [five, List.mem_cons, List.not_mem_nil, or_false] at hnm
    rcases hnm with hE | hE | hE | hE | hE <;> (revert ret rai; rw [hE]; intros ret rai)
    · cases hv : valueAt kvs "a" with
      | none =>
        k_dflt ktr_enter
        k_steps
        (with_reducible rename News _ _ _ _ => N1)
        (with_reducible rename Fr _ _ _ _ => F1)
        k_dflt (refine' kda_set (knd := PySem.strKind _ _) F1 N1 (su_fu ND) hd0 (strKind_is _ _ _ _) ?kzq ?_; (case kzq => (rw [sizeLine_eq]; omega)))
        intro h4 o4 F4 N4 ho4
        rw [stored_none hv] at ho4
        (try dsimp only at N4)
        have ND4 := nd_of N4 ND rfl
        clear F1 N1
        k_steps
        exact ret _ _ _ _ (by assumption) (by assumption) (by assumption) ⟨by decide, by decide, hv, _, _, _, _, _, _, rfl, ho4, rfl⟩
      | some v =>
        k_dflt ktr_enter
        k_steps
        k_dflt (refine' raise_K (C := 67) ?Fq ?Xq ?hoq ?hbq ?hhq ?_; (case Fq => k_asm); (case Xq => k_asm); (case hoq => k_is); (case hbq => rfl); (case hhq => rfl))
        k_steps
        k_dflt (refine' use_specE c_sf ?kBq ?kFq ?kXq ?kNq ?kTq ?kKq ?kDq ?kdq ?kuq (_) ?kpq ?_; (case kFq => k_asm); (case kBq => k_asm); (case kXq => k_asm); (case kNq => k_asm); (case kTq => k_asm); (case kKq => first | exact rfl | assumption); (case kDq => assumption); (case kdq => ktr_room); (case kuq => ktr_units); (case kpq => refine' rfl))
        refine elq_0_3_2_1_0 ?_
        intro e a0 d h3 tk3 F3 N3 ND3
        refine ⟨e, .ref a0, some d, rfl, Frag.In.keeps (by assumption) F3.keep, (N3 _ List.mem_cons_self).1, ?_⟩
        k_dflt (refine' leave_sf ?Bq ?Fq ?Nq ?hneq ?_ ?hkq; (case Bq => assumption); (case Fq => exact F3); (case Nq => exact N3); (case hneq => exact nd_head ND3); (case hkq => rfl))
        intro h4 R4 U4
        dsimp only
        refine rai _ _ _ _ _ ?_ R4 U4 (nd_tail ND3) (⟨rfl, .inr (.inr (by rw [hv]; rfl))⟩)
        assumption
    · cases hv : valueAt kvs "b" with
      | none =>
        k_dflt ktr_enter
        k_steps
        (with_reducible rename News _ _ _ _ => N1)
        (with_reducible rename Fr _ _ _ _ => F1)
        k_dflt (refine' kda_set (knd := PySem.strKind _ _) F1 N1 (su_fu ND) hd0 (strKind_is _ _ _ _) ?kzq ?_; (case kzq => (rw [sizeLine_eq]; omega)))
        intro h4 o4 F4 N4 ho4
        rw [stored_none hv] at ho4
        (try dsimp only at N4)
        have ND4 := nd_of N4 ND rfl
        clear F1 N1
        k_steps
        exact ret _ _ _ _ (by assumption) (by assumption) (by assumption) ⟨by decide, by decide, hv, _, _, _, _, _, _, rfl, ho4, rfl⟩
      | some v =>
        k_dflt ktr_enter
        k_steps
        k_dflt (refine' raise_K (C := 67) ?Fq ?Xq ?hoq ?hbq ?hhq ?_; (case Fq => k_asm); (case Xq => k_asm); (case hoq => k_is); (case hbq => rfl); (case hhq => rfl))
        k_steps
        k_dflt (refine' use_specE c_sf ?kBq ?kFq ?kXq ?kNq ?kTq ?kKq ?kDq ?kdq ?kuq (_) ?kpq ?_; (case kFq => k_asm); (case kBq => k_asm); (case kXq => k_asm); (case kNq => k_asm); (case kTq => k_asm); (case kKq => first | exact rfl | assumption); (case kDq => assumption); (case kdq => ktr_room); (case kuq => ktr_units); (case kpq => refine' rfl))
        refine elq_0_3_2_1_0 ?_
        intro e a0 d h3 tk3 F3 N3 ND3
        refine ⟨e, .ref a0, some d, rfl, Frag.In.keeps (by assumption) F3.keep, (N3 _ List.mem_cons_self).1, ?_⟩
        k_dflt (refine' leave_sf ?Bq ?Fq ?Nq ?hneq ?_ ?hkq; (case Bq => assumption); (case Fq => exact F3); (case Nq => exact N3); (case hneq => exact nd_head ND3); (case hkq => rfl))
        intro h4 R4 U4
        dsimp only
        refine rai _ _ _ _ _ ?_ R4 U4 (nd_tail ND3) (⟨rfl, .inr (.inr (by rw [hv]; rfl))⟩)
        assumption
    · cases hv : valueAt kvs "c" with
      | none =>
        k_dflt ktr_enter
        k_steps
        (with_reducible rename News _ _ _ _ => N1)
        (with_reducible rename Fr _ _ _ _ => F1)
        k_dflt (refine' kda_set (knd := PySem.strKind _ _) F1 N1 (su_fu ND) hd0 (strKind_is _ _ _ _) ?kzq ?_; (case kzq => (rw [sizeLine_eq]; omega)))
        intro h4 o4 F4 N4 ho4
        rw [stored_none hv] at ho4
        (try dsimp only at N4)
        have ND4 := nd_of N4 ND rfl
        clear F1 N1
        k_steps
        exact ret _ _ _ _ (by assumption) (by assumption) (by assumption) ⟨by decide, by decide, hv, _, _, _, _, _, _, rfl, ho4, rfl⟩
      | some v =>
        k_dflt ktr_enter
        k_steps
        k_dflt (refine' raise_K (C := 67) ?Fq ?Xq ?hoq ?hbq ?hhq ?_; (case Fq => k_asm); (case Xq => k_asm); (case hoq => k_is); (case hbq => rfl); (case hhq => rfl))
        k_steps
        k_dflt (refine' use_specE c_sf ?kBq ?kFq ?kXq ?kNq ?kTq ?kKq ?kDq ?kdq ?kuq (_) ?kpq ?_; (case kFq => k_asm); (case kBq => k_asm); (case kXq => k_asm); (case kNq => k_asm); (case kTq => k_asm); (case kKq => first | exact rfl | assumption); (case kDq => assumption); (case kdq => ktr_room); (case kuq => ktr_units); (case kpq => refine' rfl))
        refine elq_0_3_2_1_0 ?_
        intro e a0 d h3 tk3 F3 N3 ND3
        refine ⟨e, .ref a0, some d, rfl, Frag.In.keeps (by assumption) F3.keep, (N3 _ List.mem_cons_self).1, ?_⟩
        k_dflt (refine' leave_sf ?Bq ?Fq ?Nq ?hneq ?_ ?hkq; (case Bq => assumption); (case Fq => exact F3); (case Nq => exact N3); (case hneq => exact nd_head ND3); (case hkq => rfl))
        intro h4 R4 U4
        dsimp only
        refine rai _ _ _ _ _ ?_ R4 U4 (nd_tail ND3) (⟨rfl, .inr (.inr (by rw [hv]; rfl))⟩)
        assumption
    · k_dflt ktr_enter
      k_steps
      k_dflt (refine' raise_K (C := 67) ?Fq ?Xq ?hoq ?hbq ?hhq ?_; (case Fq => k_asm); (case Xq => k_asm); (case hoq => k_is); (case hbq => rfl); (case hhq => rfl))
      k_steps
      k_dflt (refine' use_specE c_sf ?kBq ?kFq ?kXq ?kNq ?kTq ?kKq ?kDq ?kdq ?kuq (_) ?kpq ?_; (case kFq => k_asm); (case kBq => k_asm); (case kXq => k_asm); (case kNq => k_asm); (case kTq => k_asm); (case kKq => first | exact rfl | assumption); (case kDq => assumption); (case kdq => ktr_room); (case kuq => ktr_units); (case kpq => refine' rfl))
      refine elq_0_3_2_1_0 ?_
      intro e a0 d h3 tk3 F3 N3 ND3
      refine ⟨e, .ref a0, some d, rfl, Frag.In.keeps (by assumption) F3.keep, (N3 _ List.mem_cons_self).1, ?_⟩
      k_dflt (refine' leave_sf ?Bq ?Fq ?Nq ?hneq ?_ ?hkq; (case Bq => assumption); (case Fq => exact F3); (case Nq => exact N3); (case hneq => exact nd_head ND3); (case hkq => rfl))
      intro h4 R4 U4
      dsimp only
      refine rai _ _ _ _ _ ?_ R4 U4 (nd_tail ND3) (⟨rfl, .inl rfl⟩)
      assumption
    · k_dflt ktr_enter
      k_steps
      k_dflt (refine' raise_K (C := 67) ?Fq ?Xq ?hoq ?hbq ?hhq ?_; (case Fq => k_asm); (case Xq => k_asm); (case hoq => k_is); (case hbq => rfl); (case hhq => rfl))
      k_steps
      k_dflt (refine' use_specE c_sf ?kBq ?kFq ?kXq ?kNq ?kTq ?kKq ?kDq ?kdq ?kuq (_) ?kpq ?_; (case kFq => k_asm); (case kBq => k_asm); (case kXq => k_asm); (case kNq => k_asm); (case kTq => k_asm); (case kKq => first | exact rfl | assumption); (case kDq => assumption); (case kdq => ktr_room); (case kuq => ktr_units); (case kpq => refine' rfl))
      refine elq_0_3_2_1_0 ?_
      intro e a0 d h3 tk3 F3 N3 ND3
      refine ⟨e, .ref a0, some d, rfl, Frag.In.keeps (by assumption) F3.keep, (N3 _ List.mem_cons_self).1, ?_⟩
      k_dflt (refine' leave_sf ?Bq ?Fq ?Nq ?hneq ?_ ?hkq; (case Bq => assumption); (case Fq => exact F3); (case Nq => exact N3); (case hneq => exact nd_head ND3); (case hkq => rfl))
      intro h4 R4 U4
      dsimp only
      refine rai _ _ _ _ _ ?_ R4 U4 (nd_tail ND3) (⟨rfl, .inr (.inl rfl)⟩)
      assumption
  refine cut (T := Spec _root_.Mine.hd.heap_1_39 PySem.Challenge.rw_rg0217_01.row.prog 427 2 PreFe PostFe) ?_ fun c_fe => ?_
  · skip
    clear c_fun_count c_op c_args c_sort c_data c_bool_term c_declare_fun c_make c_app c_depth c_push c_unbind c_roll_back c_pop c_bind c_bound c_sf c_bring
    have pmI : PMI := trivial
    k_fill
    refine spec_at ?_
    refine prod_all ?_
    intro v0
    refine prod_all ?_
    intro v1
    refine prod_all ?_
    intro v2
    refine prod_all ?_
    intro v3
    intro v4
    refine at_in ?_
    intro c0
    generalize c0.w = w; generalize c0.p = p; generalize c0.loose = loose; generalize c0.mean = mean; generalize c0.mg = mg; generalize c0.mb = mb; generalize c0.dp = dp; generalize c0.un = un; generalize c0.gd = gd; generalize c0.cn = cn; generalize c0.cs = cs; generalize c0.a = a; generalize c0.ccd = ccd; generalize c0.cl = cl; generalize c0.outer = outer; generalize c0.A₀ = A₀; generalize c0.base = base; generalize c0.h₀ = h₀; generalize c0.L = L; generalize c0.m = m; generalize c0.s = s; generalize c0.Q = Q; generalize c0.E = E; generalize c0.news = news; generalize c0.vs = vs
    refine sb_in ?_
    intros hpre
    intros B F X N T hk ND hd hu ret
    dsimp only [PreFe] at hpre
    obtain rfl := hpre
    k_dflt (refine' call_cls ?k1q ?k2q ?k3q ?k4q ?k5q ?k6q ?_; (case k1q => k_asm); (case k2q => k_asm); (case k3q => k_asm); (case k4q => k_is); (case k5q => k_is); (case k6q => k_is))
    intro i j h1 F1 N1 l1 l2
    have ND1 : Nd ((i, instObj 427 j) :: (j, dictOf [] 0) :: news) := nd_cons (nd_cons ND l1) (by
      intros p hp
      rcases List.mem_cons.mp hp with rfl | hp
      · exact l2
      · exact Nat.lt_trans (l1 p hp) l2)
    k_dflt ktr_enter
    k_steps
    (with_reducible rename News _ _ _ _ => N9)
    exact ret _ _ _ _ (by assumption) N9 (nd_same ND1 rfl) (in_7_2 i j _ _ _ _ _ rfl rfl)
  refine cut (T := Spec _root_.Mine.hd.heap_1_39 PySem.Challenge.rw_rg0217_01.row.prog 424 1 PreId PostId) ?_ fun c_is_defined => ?_
  · skip
    clear c_fun_count c_op c_args c_sort c_data c_bool_term c_declare_fun c_make c_app c_depth c_push c_unbind c_roll_back c_pop c_bind c_bound c_sf c_bring c_fe
    have pmI : PMI := trivial
    k_fill
    refine spec_at ?_
    refine prod_all ?_
    intro i
    refine prod_all ?_
    intro j
    refine prod_all ?_
    intro t0
    refine prod_all ?_
    intro t1
    refine prod_all ?_
    intro t2
    refine prod_all ?_
    intro t3
    refine prod_all ?_
    intro t4
    refine prod_all ?_
    intro v0
    refine prod_all ?_
    intro v1
    refine prod_all ?_
    intro v2
    refine prod_all ?_
    intro v3
    refine prod_all ?_
    intro k
    refine prod_all ?_
    intro tk
    intro n
    refine at_in ?_
    intro c0
    generalize c0.w = w; generalize c0.p = p; generalize c0.loose = loose; generalize c0.mean = mean; generalize c0.mg = mg; generalize c0.mb = mb; generalize c0.dp = dp; generalize c0.un = un; generalize c0.gd = gd; generalize c0.cn = cn; generalize c0.cs = cs; generalize c0.a = a; generalize c0.ccd = ccd; generalize c0.cl = cl; generalize c0.outer = outer; generalize c0.A₀ = A₀; generalize c0.base = base; generalize c0.h₀ = h₀; generalize c0.L = L; generalize c0.m = m; generalize c0.s = s; generalize c0.Q = Q; generalize c0.E = E; generalize c0.news = news; generalize c0.vs = vs
    refine sb_in ?_
    intros hpre
    intros B F X N T hk ND hd hu ret
    dsimp only [PreId] at hpre
    obtain ⟨rfl, hi, hj⟩ := hpre
    refine wpAny_call ?_
    k_dflt ktr_enter
    by_cases hk0 : k = 0
    · k_steps
      exact ret _ _ _ _ (by assumption) (by assumption) (by assumption) ⟨rfl, by simp [hk0]⟩
    · k_steps
      exact ret _ _ _ _ (by assumption) (by assumption) (by assumption) ⟨rfl, by simp [hk0]⟩
  refine cut (T := SpecR _root_.Mine.hd.heap_1_39 PySem.Challenge.rw_rg0217_01.row.prog 522 5 (PreDf PySem.Challenge.rw_rg0217_01.row.prog) (PostDf PySem.Challenge.rw_rg0217_01.row.prog) PostDfR) ?_ fun c_df => ?_
  · skip
    clear c_fun_count c_op c_args c_sort c_data c_bool_term c_make c_app c_depth c_push c_unbind c_roll_back c_pop c_bind c_bound c_sf c_is_defined
    have pmI : PMI := trivial
    k_fill
    refine spec_atR ?_
    refine prod_all ?_
    intro b
    refine prod_all ?_
    intro y
    refine prod_all ?_
    intro rest
    refine prod_all ?_
    intro nm
    refine prod_all ?_
    intro t
    refine prod_all ?_
    intro aA
    refine prod_all ?_
    intro its
    refine prod_all ?_
    intro an
    refine prod_all ?_
    intro res
    refine prod_all ?_
    intro t2
    intro kvs
    refine at_inR ?_
    intro c0
    generalize c0.w = w; generalize c0.p = p; generalize c0.loose = loose; generalize c0.mean = mean; generalize c0.mg = mg; generalize c0.mb = mb; generalize c0.dp = dp; generalize c0.un = un; generalize c0.gd = gd; generalize c0.cn = cn; generalize c0.cs = cs; generalize c0.a = a; generalize c0.ccd = ccd; generalize c0.cl = cl; generalize c0.outer = outer; generalize c0.A₀ = A₀; generalize c0.base = base; generalize c0.h₀ = h₀; generalize c0.L = L; generalize c0.m = m; generalize c0.s = s; generalize c0.Q = Q; generalize c0.E = E; generalize c0.news = news; generalize c0.vs = vs
    refine sb_inR ?_
    intros hpre
    intros B F X N T hk ND hd hu ret rai
    dsimp only [PreDf] at hpre
    obtain ⟨rfl, rfl, hbk, hm, hnm, hd0, lo0, hkl, hbl, hl1, hl2, hl3⟩ := hpre
    refine wpAny_call ?_
    k_dflt ktr_enter
    k_steps
    k_dflt (refine' use_specE c_fe ?kBq ?kFq ?kXq ?kNq ?kTq ?kKq ?kDq ?kdq ?kuq (_, _, _, _, _) ?kpq ?_; (case kFq => k_asm); (case kBq => k_asm); (case kXq => k_asm); (case kNq => k_asm); (case kTq => k_asm); (case kKq => first | exact rfl | assumption); (case kDq => assumption); (case kdq => ktr_room); (case kuq => ktr_units); (case kpq => refine' rfl))
    refine elq_0_7_2_1_0 ?_
    intro i j s0 s1 s2 s3 s4 h3 tk3 F3 N3 ND3
    have N4 := news_perm N3 canon2
    have ND4 := nd_perm ND3 canon2
    clear N3 ND3
    (try k_sweep)
    k_steps
    k_dflt (refine' use_specR c_bring ?kBq ?kFq ?kXq ?kNq ?kTq ?kKq ?kDq ?kdq ?kuq (b, y, _, nm, t, i, kvs) ?kpq ?_ ?_; (case kFq => k_asm); (case kBq => k_asm); (case kXq => k_asm); (case kNq => k_asm); (case kTq => k_asm); (case kKq => first | exact rfl | assumption); (case kDq => assumption); (case kdq => ktr_room); (case kuq => ktr_units); (case kpq => refine' (in_0_7 rfl rfl hnm hd0 lo0 hkl hbl)))
    · intro news5 r5 hpost
      obtain ⟨hn1, hn2, hn3, o, a1, t1, t3, n, n2, rfl, ho, rfl⟩ := hpost
      intro h5 tk5 F5 N5 ND5
      (try k_sweep)
      k_steps
      k_dflt (refine' use_specE c_declare_fun ?kBq ?kFq ?kXq ?kNq ?kTq ?kKq ?kDq ?kdq ?kuq (b, _, nm, t, aA, its, an, res, t2) ?kpq ?_; (case kFq => k_asm); (case kBq => k_asm); (case kXq => k_asm); (case kNq => k_asm); (case kTq => k_asm); (case kKq => first | exact rfl | assumption); (case kDq => assumption); (case kdq => ktr_room); (case kuq => ktr_units); (case kpq => refine' (in_0_6 rfl rfl (sm_r (List.mem_cons_of_mem _ (List.mem_cons_of_mem _ (List.mem_cons_of_mem _ (List.mem_cons_of_mem _ hm))))) hl1 hl2 hl3)))
      refine elq_1_1_1_0_1 ?_
      intro tr h6 tk6 F6 N6 ND6
      (try k_sweep)
      k_steps
      (with_reducible rename News _ _ _ _ => N9)
      exact ret _ _ _ _ (by assumption) N9 (nd_same ND6 rfl) ⟨hn1, hn2, hn3, _, _, _, _, _, _, _, _, _, _, _, _, _, _, _, _, _, rfl, ho, _, rfl⟩
    · intro e news5 h5 tk5 G F5 R5 U5 ND5 hpost
      obtain ⟨rfl, hno⟩ := hpost
      k_dflt (refine' leave_onSN ?Kq ?Fq R5 U5 ?_; (case Kq => assumption); (case Fq => exact F5))
      intro h6 R6 _ U6
      dsimp only
      refine rai _ _ _ _ _ ?_ R6 U6 ND5 ⟨hno, [_, _, _], rfl⟩
      assumption
  refine cut (T := SpecR _root_.Mine.hd.heap_1_39 PySem.Challenge.rw_rg0217_01.row.prog 527 5 (PreDn PySem.Challenge.rw_rg0217_01.row.prog) (PostDn PySem.Challenge.rw_rg0217_01.row.prog) PostDnR) ?_ fun c_dn => ?_
  · skip
    clear c_fun_count c_op c_args c_data c_bool_term c_declare_fun c_make c_app c_depth c_push c_unbind c_roll_back c_pop c_bind c_bound c_sf c_is_defined c_df
    have pmI : PMI := trivial
    k_fill
    refine spec_atR ?_
    refine prod_all ?_
    intro b
    refine prod_all ?_
    intro y
    refine prod_all ?_
    intro rest
    refine prod_all ?_
    intro nm
    refine prod_all ?_
    intro t
    refine prod_all ?_
    intro hA
    refine prod_all ?_
    intro hn
    refine prod_all ?_
    intro us
    refine prod_all ?_
    intro k
    refine prod_all ?_
    intro tb
    refine prod_all ?_
    intro so
    intro kvs
    refine at_inR ?_
    intro c0
    generalize c0.w = w; generalize c0.p = p; generalize c0.loose = loose; generalize c0.mean = mean; generalize c0.mg = mg; generalize c0.mb = mb; generalize c0.dp = dp; generalize c0.un = un; generalize c0.gd = gd; generalize c0.cn = cn; generalize c0.cs = cs; generalize c0.a = a; generalize c0.ccd = ccd; generalize c0.cl = cl; generalize c0.outer = outer; generalize c0.A₀ = A₀; generalize c0.base = base; generalize c0.h₀ = h₀; generalize c0.L = L; generalize c0.m = m; generalize c0.s = s; generalize c0.Q = Q; generalize c0.E = E; generalize c0.news = news; generalize c0.vs = vs
    refine sb_inR ?_
    intros hpre
    intros B F X N T hk ND hd hu ret rai
    dsimp only [PreDn] at hpre
    obtain ⟨rfl, rfl, hbk, hm, hnm, hd0, lo0, hkl, hbl, hs, hk9, hul, hus⟩ := hpre
    refine wpAny_call ?_
    k_dflt (refine' code_defC ?k1q ?k2q ?k3q ?k4q ?k5q ?kAq ?kFq ?kKq ?k6q ?k7q ?k8q ?k9q ?kBq ?kDq ?_ ?c2q ?c3q ?c4q; (case kAq => exact rfl); (case kFq => exact rfl); (case kKq => assumption); (case k1q => k_asm); (case k2q => k_asm); (case k3q => k_asm); (case k4q => k_asm); (case k5q => k_asm); (case k6q => k_is); (case k7q => k_is); (case k8q => ktr_room); (case k9q => exact BindsTo.of_eq rfl); (case kBq => exact rfl); (case kDq => decide +kernel); (case c2q => exact rfl); (case c3q => exact rfl); (case c4q => exact rfl); k_whole; intro g' L' h' tk'; intros cells' FG' F' N' Y' B' X' T' l1; (try k_lt l1); (first | (have hY := CellsAre.one Y'; obtain ⟨oY, hE', dY⟩ := hY; subst hE'; clear Y'; revert oY; exists oY; set_option tactic.hygienic false in intros) | (k_cells Y')); (try simp only [List.cons_append, List.nil_append] at N'); (try dsimp only); (try k_fold))
    have ND1 := nd_cell N' ND (fun p hp => Nat.lt_succ_of_lt (l1 p hp))
    have N1 := news_perm N' canon1
    have ND2 := nd_perm ND1 canon1
    clear N'
    k_steps
    k_dflt (refine comp_T (_F₀ := by k_asm) (by rfl) (by decide) (by rfl) (by decide) (by rfl) ?_)
    k_steps
    refine ⟨hA, _, _, rfl, rfl, by k_asm, by k_asm, ⟨hn, by k_mem⟩, by (rw [sizeLine_eq, List.size_toArray, List.length_map]; omega), ?_⟩
    rintro _ ⟨g9, rfl⟩
    revert g9; exists g9; set_option tactic.hygienic false in intros
    refine comp_ind (fun i ys nw => ys = (us.map (·.2.2)).take i ∧ nw = bled w b ++ (sled w y ++ ((L' + 1, _) :: rest))) ?_ ?_ _ 0 [] _ (Nat.zero_add _) ⟨rfl, rfl⟩
    · rintro i ys nw hi ⟨rfl, rfl⟩ v I oI C oC D m2 h4 tk4 E' hv hC hx F4 N4 off ne
      have ND4 := nd_three (oI := oI) (oC := oC) (oD := lst ((us.map (·.2.2)).take i)) off ne ND2
      have N5 := news_perm N4 canon3
      have ND5 := nd_perm ND4 canon3
      clear N4
      simp only [List.size_toArray, List.length_map] at hi
      obtain ⟨u, huu⟩ : ∃ u, us[i]? = some u := ⟨_, List.getElem?_eq_getElem hi⟩
      have hv' : v = .int (u.1 : Nat) u.2.1 := by
        simp only [List.getElem?_toArray, List.getElem?_map, huu, Option.map_some, Option.some.injEq] at hv
        exact hv.symm
      subst hv'
      revert i I oI C oC D m2 h4 tk4 E' u; exists i; exists I; exists oI; exists C; exists oC; exists D; exists m2; exists h4; exists tk4; exists E'; exists u; set_option tactic.hygienic false in intros
      obtain ⟨hu1, hu2⟩ := hus u (List.mem_of_getElem? huu)
      k_steps
      k_dflt (refine' use_specE c_sort ?kBq ?kFq ?kXq ?kNq ?kTq ?kKq ?kDq ?kdq ?kuq (b, _, u.1, u.2.2) ?kpq ?_; (case kFq => k_asm); (case kBq => k_asm); (case kXq => k_asm); (case kNq => k_asm); (case kTq => k_asm); (case kKq => first | exact rfl | assumption); (case kDq => assumption); (case kdq => ktr_room); (case kuq => ktr_units); (case kpq => refine' (in_0_4 rfl (⟨_, rfl⟩) hu1 (Nat.lt_trans hu2 (by decide)))))
      refine elq_0_0_2_0_1 ?_
      intro  h6 tk6 F6 N6 ND6
      (try k_sweep)
      k_steps
      exact CompEnd.intro (by assumption) N6 _ (fun p hp => canon3.mem_iff.mp hp) off ⟨hn, by k_mem⟩ ⟨by rw [List.take_add_one, List.getElem?_map, huu]; rfl, rfl⟩
    · rintro ys nw ⟨hys, rfl⟩
      have hys' : ys = us.map (·.2.2) := by rw [hys]; exact List.take_of_length_le (by simp)
      clear hys
      subst hys'
      have hlen : (us.map (·.2.2)).length ≤ 900 := by rw [List.length_map]; omega
      unfold FinE
      intro D h4 tk4 F4 N4 o4
      obtain ⟨N5, ND5⟩ := canon_off (o := listOf (us.map (·.2.2)).toArray (us.map (·.2.2)).length) N4 o4 ND2
      clear N4
      k_steps
      k_dflt (refine' use_specE c_sort ?kBq ?kFq ?kXq ?kNq ?kTq ?kKq ?kDq ?kdq ?kuq (b, _, k, so) ?kpq ?_; (case kFq => k_asm); (case kBq => k_asm); (case kXq => k_asm); (case kNq => k_asm); (case kTq => k_asm); (case kKq => first | exact rfl | assumption); (case kDq => assumption); (case kdq => ktr_room); (case kuq => ktr_units); (case kpq => refine' (in_0_4 rfl (⟨_, rfl⟩) hs (Nat.lt_trans hk9 (by decide)))))
      refine elq_0_0_2_0_1 ?_
      intro  h6 tk6 F6 N6 ND6
      (try k_sweep)
      k_steps
      k_dflt (refine' use_specE c_fe ?kBq ?kFq ?kXq ?kNq ?kTq ?kKq ?kDq ?kdq ?kuq (_, _, _, _, _) ?kpq ?_; (case kFq => k_asm); (case kBq => k_asm); (case kXq => k_asm); (case kNq => k_asm); (case kTq => k_asm); (case kKq => first | exact rfl | assumption); (case kDq => assumption); (case kdq => ktr_room); (case kuq => ktr_units); (case kpq => refine' rfl))
      refine elq_0_7_2_1_0 ?_
      intro i j s0 s1 s2 s3 s4 h7 tk7 F7 N7 ND7
      have N8 := news_perm N7 canon2
      have ND8 := nd_perm ND7 canon2
      clear N7 ND7
      (try k_sweep)
      k_steps
      k_dflt (refine' use_specR c_bring ?kBq ?kFq ?kXq ?kNq ?kTq ?kKq ?kDq ?kdq ?kuq (b, y, _, nm, t, i, kvs) ?kpq ?_ ?_; (case kFq => k_asm); (case kBq => k_asm); (case kXq => k_asm); (case kNq => k_asm); (case kTq => k_asm); (case kKq => first | exact rfl | assumption); (case kDq => assumption); (case kdq => ktr_room); (case kuq => ktr_units); (case kpq => refine' (in_0_7 rfl rfl hnm hd0 lo0 hkl hbl)))
      · intro news9 r9 hpost
        obtain ⟨hn1, hn2, hn3, o, a1, t1, t3, n, n2, rfl, ho, rfl⟩ := hpost
        intro h9 tk9 F9 N9 ND9
        (try k_sweep)
        k_steps
        exact ret _ _ _ _ (by assumption) (by assumption) ND9 ⟨hn1, hn2, hn3, o, a1, t1, t3, n, n2, i, j, s0, s1, s2, s3, s4, _, _, _, [_, _], rfl, ho, rfl⟩
      · intro e news9 h9 tk9 G F9 R9 U9 ND9 hpost
        obtain ⟨rfl, hno⟩ := hpost
        k_dflt (refine' leave_onX (L := L') ?hfq ?Kq ?Fq R9 U9 ?_; (case hfq => rfl); (case Kq => assumption); (case Fq => exact F9))
        intro h10 R10 U10
        dsimp only
        refine rai _ _ _ _ _ ?_ R10 U10 ND9 ⟨hno, [_, _, _, _, _], rfl⟩
        assumption
  refine cut (T := SpecT _root_.Mine.hd.heap_1_39 PySem.Challenge.rw_rg0217_01.row.prog 872 8 (PreIb PySem.Challenge.rw_rg0217_01.row.prog) (PostIb PySem.Challenge.rw_rg0217_01.row.prog)) ?_ fun c_isb => ?_
  · skip
    clear c_fun_count c_op c_args c_sort c_data c_bool_term c_declare_fun c_make c_app c_depth c_push c_unbind c_roll_back c_pop c_bind c_bound c_sf c_bring c_fe c_is_defined
    have pmI : PMI := trivial
    k_fill
    refine spec_atT ?_
    refine prod_all ?_
    intro b
    refine prod_all ?_
    intro y
    refine prod_all ?_
    intro rest
    refine prod_all ?_
    intro way
    refine prod_all ?_
    intro tw
    refine prod_all ?_
    intro nm
    refine prod_all ?_
    intro tn
    refine prod_all ?_
    intro k1
    refine prod_all ?_
    intro t1
    refine prod_all ?_
    intro k2
    refine prod_all ?_
    intro t2
    refine prod_all ?_
    intro kvs
    intro bs
    refine at_inT ?_
    intro c0
    generalize c0.w = w; generalize c0.p = p; generalize c0.loose = loose; generalize c0.mean = mean; generalize c0.mg = mg; generalize c0.mb = mb; generalize c0.dp = dp; generalize c0.un = un; generalize c0.gd = gd; generalize c0.cn = cn; generalize c0.cs = cs; generalize c0.a = a; generalize c0.ccd = ccd; generalize c0.cl = cl; generalize c0.outer = outer; generalize c0.A₀ = A₀; generalize c0.base = base; generalize c0.h₀ = h₀; generalize c0.L = L; generalize c0.m = m; generalize c0.s = s; generalize c0.Q = Q; generalize c0.E = E; generalize c0.news = news; generalize c0.vs = vs
    refine sb_inT ?_
    intros hpre
    intros B F X N T hk ND XB TB D hd hu ret
    dsimp only [PreIb] at hpre
    obtain ⟨rfl, rfl, hw, hbk, hnm, hd0, lo0, hfun, hkl, hbl, hl1, hl2, hl3, hk1, hk2, hk2', ⟨s1, hs1⟩, ⟨s2, hs2⟩⟩ := hpre
    revert s1 hs1 s2 hs2
    intro s1 hs1 s2 hs2
    have hw4 : way = 0 ∨ way = 1 ∨ way = 2 ∨ way = 3 := by omega
    clear hw
    refine wpAny_call ?_
    rcases hw4 with hwE | hwE | hwE | hwE <;> (revert ret; rw [hwE]; intros ret)
    · skip
      k_dflt (refine' code_defT ?k1q ?k2q ?k3q ?k4q ?k5q ?XBq ?TBq ?Dq ?kAq ?kFq ?kKq ?k6q ?k7q ?k8q ?k9q ?kBq ?_ ?c2q ?c3q ?c4q ?c5q; (case kAq => exact rfl); (case kFq => exact rfl); (case kKq => assumption); (case XBq => assumption); (case TBq => assumption); (case Dq => assumption); (case k1q => k_asm); (case k2q => k_asm); (case k3q => k_asm); (case k4q => k_asm); (case k5q => k_asm); (case k6q => k_is); (case k7q => k_is); (case k8q => ktr_room); (case k9q => exact BindsTo.of_eq rfl); (case c5q => decide); (case kBq => exact locs rfl); (case c2q => exact rfl); (case c3q => exact rfl); (case c4q => exact rfl); k_whole; intro g' L' h' FG' F' N' B' X' T' D'; (try dsimp only); (try k_fold))
      k_steps
      k_dflt (refine' use_specR c_df ?kBq ?kFq ?kXq ?kNq ?kTq ?kKq ?kDq ?kdq ?kuq (b, y, _, nm, tn, _, [], 0, 0, _, kvs) ?kpq ?_ ?_; (case kFq => k_asm); (case kBq => k_asm); (case kXq => k_asm); (case kNq => k_asm); (case kTq => k_asm); (case kKq => first | exact rfl | assumption); (case kDq => assumption); (case kdq => ktr_room); (case kuq => ktr_units); (case kpq => refine' (in_0_12 rfl rfl hbk List.mem_cons_self hnm hd0 lo0 hkl hbl hl1 (hl2 ▸ hl1) (hl3 ▸ hl1))))
      · intro news3 r3 hpost
        intro h3 tk3 F3 N3 ND3
        revert news3; exists news3; set_option tactic.hygienic false in intros
        k_steps
        refine leaveT_of KtsTurn.refl (by assumption) (by assumption) ?_
        intro h9 T9 F9 N9 B9 X9 P9 D9
        exact ret _ _ _ _ _ T9 F9 N9 B9 X9 P9 D9 ND3 (brought_df (mid := [_, _]) hfun List.mem_cons_self (.inr ⟨rfl, rfl, rfl⟩) hl1 hl2 hl3 hpost)
      · intro e news5 h5 tk5 G F5 R5 U5 ND5 hpost
        obtain ⟨hno, new, rfl⟩ := hpost
        revert new; exists new; set_option tactic.hygienic false in intros
        dsimp only
        k_steps
        dsimp only
        refine leaveT_of (by assumption) (by assumption) (by assumption) ?_
        intro h9 T9 F9 N9 B9 X9 P9 D9
        exact ret _ _ _ _ _ T9 F9 N9 B9 X9 P9 D9 ND5 (brought_no (mid := [_, _]) hfun hno)
    · skip
      k_dflt (refine' code_defT ?k1q ?k2q ?k3q ?k4q ?k5q ?XBq ?TBq ?Dq ?kAq ?kFq ?kKq ?k6q ?k7q ?k8q ?k9q ?kBq ?_ ?c2q ?c3q ?c4q ?c5q; (case kAq => exact rfl); (case kFq => exact rfl); (case kKq => assumption); (case XBq => assumption); (case TBq => assumption); (case Dq => assumption); (case k1q => k_asm); (case k2q => k_asm); (case k3q => k_asm); (case k4q => k_asm); (case k5q => k_asm); (case k6q => k_is); (case k7q => k_is); (case k8q => ktr_room); (case k9q => exact BindsTo.of_eq rfl); (case c5q => decide); (case kBq => exact locs rfl); (case c2q => exact rfl); (case c3q => exact rfl); (case c4q => exact rfl); k_whole; intro g' L' h' FG' F' N' B' X' T' D'; (try dsimp only); (try k_fold))
      k_steps
      k_dflt (refine' use_specR c_df ?kBq ?kFq ?kXq ?kNq ?kTq ?kKq ?kDq ?kdq ?kuq (b, y, _, nm, tn, _, [_], 0, 0, _, kvs) ?kpq ?_ ?_; (case kFq => k_asm); (case kBq => k_asm); (case kXq => k_asm); (case kNq => k_asm); (case kTq => k_asm); (case kKq => first | exact rfl | assumption); (case kDq => assumption); (case kdq => ktr_room); (case kuq => ktr_units); (case kpq => refine' (in_0_12 rfl rfl hbk List.mem_cons_self hnm hd0 lo0 hkl hbl hl1 (hl2 ▸ hl1) (hl3 ▸ hl1))))
      · intro news3 r3 hpost
        intro h3 tk3 F3 N3 ND3
        revert news3; exists news3; set_option tactic.hygienic false in intros
        k_steps
        refine leaveT_of KtsTurn.refl (by assumption) (by assumption) ?_
        intro h9 T9 F9 N9 B9 X9 P9 D9
        exact ret _ _ _ _ _ T9 F9 N9 B9 X9 P9 D9 ND3 (brought_df (mid := [_]) hfun List.mem_cons_self (.inl ⟨rfl, _, rfl⟩) hl1 hl2 hl3 hpost)
      · intro e news5 h5 tk5 G F5 R5 U5 ND5 hpost
        obtain ⟨hno, new, rfl⟩ := hpost
        revert new; exists new; set_option tactic.hygienic false in intros
        dsimp only
        k_steps
        dsimp only
        refine leaveT_of (by assumption) (by assumption) (by assumption) ?_
        intro h9 T9 F9 N9 B9 X9 P9 D9
        exact ret _ _ _ _ _ T9 F9 N9 B9 X9 P9 D9 ND5 (brought_no (mid := [_]) hfun hno)
    · skip
      k_dflt (refine' code_defT ?k1q ?k2q ?k3q ?k4q ?k5q ?XBq ?TBq ?Dq ?kAq ?kFq ?kKq ?k6q ?k7q ?k8q ?k9q ?kBq ?_ ?c2q ?c3q ?c4q ?c5q; (case kAq => exact rfl); (case kFq => exact rfl); (case kKq => assumption); (case XBq => assumption); (case TBq => assumption); (case Dq => assumption); (case k1q => k_asm); (case k2q => k_asm); (case k3q => k_asm); (case k4q => k_asm); (case k5q => k_asm); (case k6q => k_is); (case k7q => k_is); (case k8q => ktr_room); (case k9q => exact BindsTo.of_eq rfl); (case c5q => decide); (case kBq => exact locs rfl); (case c2q => exact rfl); (case c3q => exact rfl); (case c4q => exact rfl); k_whole; intro g' L' h' FG' F' N' B' X' T' D'; (try dsimp only); (try k_fold))
      k_steps
      k_dflt (refine' use_specR c_dn ?kBq ?kFq ?kXq ?kNq ?kTq ?kKq ?kDq ?kdq ?kuq (b, y, _, nm, tn, _, 0, [], k2, t2, s2, kvs) ?kpq ?_ ?_; (case kFq => k_asm); (case kBq => k_asm); (case kXq => k_asm); (case kNq => k_asm); (case kTq => k_asm); (case kKq => first | exact rfl | assumption); (case kDq => assumption); (case kdq => ktr_room); (case kuq => ktr_units); (case kpq => refine' ⟨rfl, rfl, hbk, List.mem_cons_self, hnm, hd0, lo0, hkl, hbl, hs2, hk2', Nat.zero_le _, fun u hu => by cases hu⟩))
      · intro news3 r3 hpost
        intro h3 tk3 F3 N3 ND3
        revert news3; exists news3; set_option tactic.hygienic false in intros
        k_steps
        refine leaveT_of KtsTurn.refl (by assumption) (by assumption) ?_
        intro h9 T9 F9 N9 B9 X9 P9 D9
        exact ret _ _ _ _ _ T9 F9 N9 B9 X9 P9 D9 ND3 (brought_dn (mid := [_, _]) hfun (.inr ⟨rfl, rfl, rfl, hk2⟩) hpost)
      · intro e news5 h5 tk5 G F5 R5 U5 ND5 hpost
        obtain ⟨hno, new, rfl⟩ := hpost
        revert new; exists new; set_option tactic.hygienic false in intros
        dsimp only
        k_steps
        dsimp only
        refine leaveT_of (by assumption) (by assumption) (by assumption) ?_
        intro h9 T9 F9 N9 B9 X9 P9 D9
        exact ret _ _ _ _ _ T9 F9 N9 B9 X9 P9 D9 ND5 (brought_no (mid := [_, _]) hfun hno)
    · skip
      k_dflt (refine' code_defT ?k1q ?k2q ?k3q ?k4q ?k5q ?XBq ?TBq ?Dq ?kAq ?kFq ?kKq ?k6q ?k7q ?k8q ?k9q ?kBq ?_ ?c2q ?c3q ?c4q ?c5q; (case kAq => exact rfl); (case kFq => exact rfl); (case kKq => assumption); (case XBq => assumption); (case TBq => assumption); (case Dq => assumption); (case k1q => k_asm); (case k2q => k_asm); (case k3q => k_asm); (case k4q => k_asm); (case k5q => k_asm); (case k6q => k_is); (case k7q => k_is); (case k8q => ktr_room); (case k9q => exact BindsTo.of_eq rfl); (case c5q => decide); (case kBq => exact locs rfl); (case c2q => exact rfl); (case c3q => exact rfl); (case c4q => exact rfl); k_whole; intro g' L' h' FG' F' N' B' X' T' D'; (try dsimp only); (try k_fold))
      k_steps
      k_dflt (refine' use_specR c_dn ?kBq ?kFq ?kXq ?kNq ?kTq ?kKq ?kDq ?kdq ?kuq (b, y, _, nm, tn, _, 0, [(k1, t1, s1)], k2, t2, s2, kvs) ?kpq ?_ ?_; (case kFq => k_asm); (case kBq => k_asm); (case kXq => k_asm); (case kNq => k_asm); (case kTq => k_asm); (case kKq => first | exact rfl | assumption); (case kDq => assumption); (case kdq => ktr_room); (case kuq => ktr_units); (case kpq => refine' ⟨rfl, rfl, hbk, List.mem_cons_self, hnm, hd0, lo0, hkl, hbl, hs2, hk2', by simp, fun u hu => by rw [List.mem_singleton.mp hu]; exact ⟨hs1, hk1⟩⟩))
      · intro news3 r3 hpost
        intro h3 tk3 F3 N3 ND3
        revert news3; exists news3; set_option tactic.hygienic false in intros
        k_steps
        refine leaveT_of KtsTurn.refl (by assumption) (by assumption) ?_
        intro h9 T9 F9 N9 B9 X9 P9 D9
        exact ret _ _ _ _ _ T9 F9 N9 B9 X9 P9 D9 ND3 (brought_dn (mid := [_]) hfun (.inl ⟨rfl, _, rfl⟩) hpost)
      · intro e news5 h5 tk5 G F5 R5 U5 ND5 hpost
        obtain ⟨hno, new, rfl⟩ := hpost
        revert new; exists new; set_option tactic.hygienic false in intros
        dsimp only
        k_steps
        dsimp only
        refine leaveT_of (by assumption) (by assumption) (by assumption) ?_
        intro h9 T9 F9 N9 B9 X9 P9 D9
        exact ret _ _ _ _ _ T9 F9 N9 B9 X9 P9 D9 ND5 (brought_no (mid := [_]) hfun hno)
  refine cut (T := Spec _root_.Mine.hd.heap_1_39 PySem.Challenge.rw_rg0217_01.row.prog 879 2 (PreDu PySem.Challenge.rw_rg0217_01.row.prog) PostDu) ?_ fun c_due => ?_
  · skip
    clear c_fun_count c_op c_args c_sort c_data c_declare_fun c_make c_app c_depth c_push c_unbind c_roll_back c_pop c_bind c_bound c_sf c_bring c_fe c_is_defined c_df c_dn c_isb
    have pmI : PMI := trivial
    k_fill
    refine spec_at ?_
    refine prod_all ?_
    intro b
    refine prod_all ?_
    intro y
    refine prod_all ?_
    intro t
    refine prod_all ?_
    intro rest
    refine prod_all ?_
    intro nm
    refine prod_all ?_
    intro tn
    refine prod_all ?_
    intro ts
    intro bs
    refine at_in ?_
    intro c0
    generalize c0.w = w; generalize c0.p = p; generalize c0.loose = loose; generalize c0.mean = mean; generalize c0.mg = mg; generalize c0.mb = mb; generalize c0.dp = dp; generalize c0.un = un; generalize c0.gd = gd; generalize c0.cn = cn; generalize c0.cs = cs; generalize c0.a = a; generalize c0.ccd = ccd; generalize c0.cl = cl; generalize c0.outer = outer; generalize c0.A₀ = A₀; generalize c0.base = base; generalize c0.h₀ = h₀; generalize c0.L = L; generalize c0.m = m; generalize c0.s = s; generalize c0.Q = Q; generalize c0.E = E; generalize c0.news = news; generalize c0.vs = vs
    refine sb_in ?_
    intros hpre
    intros B F X N T hk ND hd hu ret
    dsimp only [PreDu] at hpre
    obtain ⟨rfl, rfl, ⟨hst, hslo⟩, hlets, hpos, hts, hbr, hbl, hnm⟩ := hpre
    have hlb := hlets.1
    have hlr := hbr.len
    refine wpAny_call ?_
    k_dflt ktr_enter
    k_steps
    unfold Hold
    (with_reducible rename Fr _ _ _ _ => F1)
    with_unfolding_all refine For_invVF F1 (by rfl) (by rfl) ?_
    k_steps
    unfold Hold
    (with_reducible rename News _ _ _ _ => N2)
    (with_reducible rename Fr _ _ _ _ => F2)
    (with_reducible rename Nd _ => ND2)
    rename_i x2 h2
    refine list_loop (xs := t.bo.reverse) (fun i m₁ news₁ => m₁ "bank" = some (.ref b.inst) ∧ m₁ "state" = some (.ref t.stA) ∧ m₁ "name" = some (.str nm tn) ∧ news₁ = bled w b ++ (sled w y ++ ((x2, listOf t.bo.reverse.toArray 0) :: (tled t ++ rest))) ∧ (ts.reverse.take i).findSome? (fun kvs => valueAt kvs nm) = none) (by rfl) F2 N2 (bm_r (sm_r List.mem_cons_self)) ⟨by with_unfolding_all rfl, by with_unfolding_all rfl, by with_unfolding_all rfl, rfl, rfl⟩ ?_ ?_
    · rintro i v m₁ news₁ h₁ tk₁ own hv hadr ⟨hm1, hm2, hm3, rfl, hno⟩ hown F3 N3
      have hMM : MapMark m₁ := trivial
      clear F2 N2
      have hil : i < t.bo.length := by have := (List.getElem?_eq_some_iff.mp hv).1; simpa using this
      rw [List.getElem?_reverse hil] at hv
      obtain ⟨kvs, hkv⟩ : ∃ kvs, ts[t.bo.length - 1 - i]? = some kvs := ⟨_, List.getElem?_eq_getElem (by omega)⟩
      obtain ⟨d, o, hx, hm, lo, hd⟩ := hlets.2 _ kvs hkv
      rw [hv] at hx
      cases hx
      revert i m₁ h₁ tk₁ own kvs d o; exists i; exists m₁; exists h₁; exists tk₁; exists own; exists kvs; exists d; exists o; set_option tactic.hygienic false in intros
      have hrev : ts.reverse[i]? = some kvs := by
        rw [List.getElem?_reverse (by omega), ← hlb]; exact hkv
      have htk : ts.reverse.take (i + 1) = ts.reverse.take i ++ [kvs] := by rw [List.take_add_one, hrev]; rfl
      cases hva : valueAt kvs nm with
      | none =>
        k_steps
        exact TEnd.intro (by assumption) (by assumption) (by exact hadr) ⟨by with_unfolding_all exact hm1, by with_unfolding_all exact hm2, by with_unfolding_all exact hm3, rfl, by rw [htk, List.findSome?_append, hno]; simp [hva]⟩
      | some v =>
        revert v; exists v; set_option tactic.hygienic false in intros
        k_steps
        (with_reducible rename News _ _ _ _ => N4)
        (with_reducible rename Nd _ => ND4)
        have N5 := News.right N4
        clear N4
        unfold TEnd
        dsimp only
        k_steps
        have hlk : lookRev ts nm = some v := by
          have hcut : ts.reverse = (ts.reverse.take i ++ [kvs]) ++ ts.reverse.drop (i + 1) := by rw [← htk, List.take_append_drop]
          show (ts.reverse.findSome? fun kvs => valueAt kvs nm) = some v
          rw [hcut, List.findSome?_append, List.findSome?_append, hno]
          simp [hva]
        obtain ⟨dk, dt, hvE, hdp⟩ := hpos.look hlk
        (with_reducible rename News _ _ _ _ => NQ)
        (with_reducible rename Nd _ => NDQ)
        rw [hvE] at hlk NQ NDQ
        exact due_end (c := 1) (d := dk) (new := [_]) (by assumption) (by assumption) (by assumption) ret (.inl ⟨_, hlk, rfl⟩)
    · rintro m' news' h₂ tk₂ ⟨hm1, hm2, hm3, rfl, hno⟩ hadr F3 N3
      revert m' h₂ tk₂; exists m'; exists h₂; exists tk₂; set_option tactic.hygienic false in intros
      have hMM : MapMark m' := trivial
      have ND3 := nd_of N3 ND2 rfl
      clear F2 N2
      have hlk : lookRev ts nm = none := by
        rw [List.length_reverse, hlb, ← List.length_reverse, List.take_length] at hno
        exact hno
      by_cases hn1 : nm = "true"
      · revert ret hm3 hlk
        rw [hn1]
        set_option tactic.hygienic false in intros
        k_steps
        k_dflt (refine' use_specE c_bool_term ?kBq ?kFq ?kXq ?kNq ?kTq ?kKq ?kDq ?kdq ?kuq (b, _, true) ?kpq ?_; (case kFq => k_asm); (case kBq => k_asm); (case kXq => k_asm); (case kNq => k_asm); (case kTq => k_asm); (case kKq => first | exact rfl | assumption); (case kDq => assumption); (case kdq => ktr_room); (case kuq => ktr_units); (case kpq => refine' (in_0_2 rfl rfl)))
        refine elq_1_1_1_0_1 ?_
        intro tq h4 tk4 F4 N4 ND4
        (try k_sweep)
        k_steps
        exact due_end (c := 1) (d := 1) (new := [_, _]) (by assumption) (by assumption) (by assumption) ret (.inr ⟨hlk, .inl ⟨rfl, rfl, rfl⟩⟩)
      by_cases hn2 : nm = "false"
      · revert ret hm3 hlk
        rw [hn2]
        set_option tactic.hygienic false in intros
        k_steps
        k_dflt (refine' use_specE c_bool_term ?kBq ?kFq ?kXq ?kNq ?kTq ?kKq ?kDq ?kdq ?kuq (b, _, false) ?kpq ?_; (case kFq => k_asm); (case kBq => k_asm); (case kXq => k_asm); (case kNq => k_asm); (case kTq => k_asm); (case kKq => first | exact rfl | assumption); (case kDq => assumption); (case kdq => ktr_room); (case kuq => ktr_units); (case kpq => refine' (in_0_2 rfl rfl)))
        refine elq_1_1_1_0_1 ?_
        intro tq h4 tk4 F4 N4 ND4
        (try k_sweep)
        k_steps
        exact due_end (c := 1) (d := 2) (new := [_, _]) (by assumption) (by assumption) (by assumption) ret (.inr ⟨hlk, .inr (.inl ⟨rfl, rfl, rfl⟩)⟩)
      have hany : [Str.ofString "true", Str.ofString "false"].any (· == nm) = false := by simpa using ⟨fun h => hn1 h.symm, fun h => hn2 h.symm⟩
      k_steps
      unfold Hold
      (with_reducible rename Fr _ _ _ _ => F4)
      with_unfolding_all refine For_invVF F4 (by rfl) (by rfl) ?_
      k_steps
      unfold Hold
      (with_reducible rename News _ _ _ _ => N5)
      (with_reducible rename Fr _ _ _ _ => F5)
      (with_reducible rename Nd _ => ND5)
      refine list_loop (xs := t.br) (fun i m₁ news₁ => m₁ "bank" = some (.ref b.inst) ∧ m₁ "state" = some (.ref t.stA) ∧ m₁ "name" = some (.str nm tn) ∧ news₁ = _ ∧ lookB (bs.take i) nm = none) (by rfl) F5 N5 (bm_r (sm_r (List.mem_cons_of_mem _ (List.mem_cons_of_mem _ tm_br)))) ⟨by with_unfolding_all exact hm1, by with_unfolding_all exact hm2, by with_unfolding_all exact hm3, rfl, rfl⟩ ?_ ?_
      · rintro i v m₁ news₁ h₁ tk₁ own hv hadr ⟨gm1, gm2, gm3, rfl, hno2⟩ hown F6 N6
        have hMM1 : MapMark m₁ := trivial
        clear F5 N5
        obtain ⟨rn, rk, rv, hbi, ra, w1, w2, w3, rc, rfl, hra⟩ := hbr.get hv
        revert i m₁ h₁ tk₁ own rn rk rv ra w1 w2 w3 rc; exists i; exists m₁; exists h₁; exists tk₁; exists own; exists rn; exists rk; exists rv; exists ra; exists w1; exists w2; exists w3; exists rc; set_option tactic.hygienic false in intros
        have hra' := tm_r (t := t) hra
        by_cases hrn : rn = nm
        · have hrb : (rn == nm) = true := by simpa using hrn
          k_steps
          (with_reducible rename News _ _ _ _ => N7)
          (with_reducible rename Nd _ => ND7)
          have N8 := News.right N7
          clear N7
          unfold TEnd
          dsimp only
          k_steps
          exact due_end (c := rk) (d := rv) (new := [_, _]) (by assumption) (by assumption) ND7 ret (.inr ⟨hlk, .inr (.inr ⟨hn1, hn2, .inl (lookB_hit (hrn ▸ hbi) hno2)⟩)⟩)
        · have hrb : (rn == nm) = false := by simpa using hrn
          k_steps
          exact TEnd.intro (by assumption) (by assumption) (by exact hadr) ⟨by with_unfolding_all exact gm1, by with_unfolding_all exact gm2, by with_unfolding_all exact gm3, rfl, lookB_miss hbi hrn hno2⟩
      · rintro m₂ news₂ h₂ tk₂ ⟨gm1, gm2, gm3, rfl, hno2⟩ hadr F6 N6
        revert m₂ h₂ tk₂; exists m₂; exists h₂; exists tk₂; set_option tactic.hygienic false in intros
        have hMM2 : MapMark m₂ := trivial
        have ND6 := nd_of N6 ND5 rfl
        clear F5 N5
        rw [hlr, List.take_length] at hno2
        k_steps
        exact due_end (c := 0) (d := 0) (new := [_, _]) (by assumption) (by assumption) (by assumption) ret (.inr ⟨hlk, .inr (.inr ⟨hn1, hn2, .inr ⟨hno2, rfl, rfl⟩⟩)⟩)
  refine cut (T := SpecR _root_.Mine.hd.heap_1_39 PySem.Challenge.rw_rg0217_01.row.prog 782 5 (PreSt PySem.Challenge.rw_rg0217_01.row.prog) (PostSt PySem.Challenge.rw_rg0217_01.row.prog) PostStR) ?_ fun c_symt => ?_
  · skip
    clear c_fun_count c_op c_args c_sort c_data c_declare_fun c_make c_depth c_push c_unbind c_roll_back c_pop c_bind c_bring c_fe c_df c_dn c_isb c_due
    have pmI : PMI := trivial
    k_fill
    refine spec_atR ?_
    refine prod_all ?_
    intro b
    refine prod_all ?_
    intro y
    refine prod_all ?_
    intro rest
    refine prod_all ?_
    intro r0
    refine prod_all ?_
    intro el
    refine prod_all ?_
    intro nm
    refine prod_all ?_
    intro t
    refine prod_all ?_
    intro ts
    refine prod_all ?_
    intro kvs
    refine prod_all ?_
    intro bs
    intro xs
    refine at_inR ?_
    intro c0
    generalize c0.w = w; generalize c0.p = p; generalize c0.loose = loose; generalize c0.mean = mean; generalize c0.mg = mg; generalize c0.mb = mb; generalize c0.dp = dp; generalize c0.un = un; generalize c0.gd = gd; generalize c0.cn = cn; generalize c0.cs = cs; generalize c0.a = a; generalize c0.ccd = ccd; generalize c0.cl = cl; generalize c0.outer = outer; generalize c0.A₀ = A₀; generalize c0.base = base; generalize c0.h₀ = h₀; generalize c0.L = L; generalize c0.m = m; generalize c0.s = s; generalize c0.Q = Q; generalize c0.E = E; generalize c0.news = news; generalize c0.vs = vs
    refine sb_inR ?_
    intros hpre
    intros B F X N T hk ND hd hu ret rai
    dsimp only [PreSt] at hpre
    obtain ⟨rfl, rfl, hsub, ⟨d, n, t0, t1, t2, sr, he1, he2⟩, hbk, hnm, hlets, hts, hpos, hd0, lo0, hfun, HB, hop⟩ := hpre
    revert d n t0 t1 t2 sr; exists d; exists n; exists t0; exists t1; exists t2; exists sr; set_option tactic.hygienic false in intros
    refine wpAny_call ?_
    k_dflt ktr_enter
    k_steps
    k_dflt (refine' use_specE c_bound ?kBq ?kFq ?kXq ?kNq ?kTq ?kKq ?kDq ?kdq ?kuq (b, y, rest, nm, t, ts) ?kpq ?_; (case kFq => k_asm); (case kBq => k_asm); (case kXq => k_asm); (case kNq => k_asm); (case kTq => k_asm); (case kKq => first | exact rfl | assumption); (case kDq => assumption); (case kdq => ktr_room); (case kuq => ktr_units); (case kpq => refine' (in_0_4 rfl rfl hlets hts)))
    intros news3 r3 hpost
    obtain ⟨rfl, hpost⟩ := hpost
    revert r3 hpost
    intro r3
    intros hpost
    intro h3 tk3 F3 N3 ND3
    (try k_sweep)
    rcases hpost with hv | ⟨hv, tz, hr3⟩
    · obtain ⟨k, tk, hr3, hk0⟩ := hpos.look hv
      revert k tk; exists k; exists tk; set_option tactic.hygienic false in intros
      rw [hr3] at hv ⊢
      k_steps
      exact ret _ _ _ _ (by assumption) (by assumption) ND (Told.same HB (.inl ⟨_, hv, hk0⟩))
    revert tz; exists tz; set_option tactic.hygienic false in intros
    rw [hr3]
    by_cases hn1 : nm = "true"
    · (with_reducible rename Fr _ _ _ _ => FX)
      revert ret rai hv FX
      rw [hn1]
      set_option tactic.hygienic false in intros
      k_steps
      k_dflt (refine' use_specE c_bool_term ?kBq ?kFq ?kXq ?kNq ?kTq ?kKq ?kDq ?kdq ?kuq (b, _, true) ?kpq ?_; (case kFq => k_asm); (case kBq => k_asm); (case kXq => k_asm); (case kNq => k_asm); (case kTq => k_asm); (case kKq => first | exact rfl | assumption); (case kDq => assumption); (case kdq => ktr_room); (case kuq => ktr_units); (case kpq => refine' (in_0_2 rfl rfl)))
      refine elq_1_1_1_0_1 ?_
      intro tq h4 tk4 F4 N4 ND4
      (try k_sweep)
      k_steps
      exact ret _ _ _ _ (by assumption) (by assumption) ND (Told.same (k := 1) HB (.inr ⟨hv, .inl ⟨rfl, rfl⟩⟩))
    by_cases hn2 : nm = "false"
    · (with_reducible rename Fr _ _ _ _ => FX)
      revert ret rai hv FX
      rw [hn2]
      set_option tactic.hygienic false in intros
      k_steps
      k_dflt (refine' use_specE c_bool_term ?kBq ?kFq ?kXq ?kNq ?kTq ?kKq ?kDq ?kdq ?kuq (b, _, false) ?kpq ?_; (case kFq => k_asm); (case kBq => k_asm); (case kXq => k_asm); (case kNq => k_asm); (case kTq => k_asm); (case kKq => first | exact rfl | assumption); (case kDq => assumption); (case kdq => ktr_room); (case kuq => ktr_units); (case kpq => refine' (in_0_2 rfl rfl)))
      refine elq_1_1_1_0_1 ?_
      intro tq h4 tk4 F4 N4 ND4
      (try k_sweep)
      k_steps
      exact ret _ _ _ _ (by assumption) (by assumption) ND (Told.same (k := 2) HB (.inr ⟨hv, .inr (.inl ⟨rfl, rfl⟩)⟩))
    have hb1 : (nm == Str.ofString "true") = false := by simpa using hn1
    have hb2 : (nm == Str.ofString "false") = false := by simpa using hn2
    have hnl := five_len hnm
    rcases hfun.look with ⟨hq, hlb⟩ | ⟨en, kind, val, hq, hlb, hE⟩
    · k_steps
      k_dflt (refine' raise_K (C := 67) ?Fq ?Xq ?hoq ?hbq ?hhq ?_; (case Fq => k_asm); (case Xq => k_asm); (case hoq => k_is); (case hbq => rfl); (case hhq => rfl))
      k_steps
      k_dflt (refine' use_specE c_sf ?kBq ?kFq ?kXq ?kNq ?kTq ?kKq ?kDq ?kdq ?kuq (_) ?kpq ?_; (case kFq => k_asm); (case kBq => k_asm); (case kXq => k_asm); (case kNq => k_asm); (case kTq => k_asm); (case kKq => first | exact rfl | assumption); (case kDq => assumption); (case kdq => ktr_room); (case kuq => ktr_units); (case kpq => refine' rfl))
      refine elq_0_3_2_1_0 ?_
      intro e a0 d h3 tk3 F3 N3 ND3
      refine ⟨e, .ref a0, some d, rfl, Frag.In.keeps (by assumption) F3.keep, (N3 _ List.mem_cons_self).1, ?_⟩
      k_dflt (refine' leave_sf ?Bq ?Fq ?Nq ?hneq ?_ ?hkq; (case Bq => assumption); (case Fq => exact F3); (case Nq => exact N3); (case hneq => exact nd_head ND3); (case hkq => rfl))
      intro h4 R4 U4
      dsimp only
      refine rai _ _ _ _ _ ?_ R4 U4 (nd_tail ND3) (⟨⟨[], rfl⟩, .inr ⟨hv, .inr (.inr ⟨hn1, hn2, .inl ⟨.inl hlb, rfl⟩⟩)⟩⟩)
      assumption
    · obtain ⟨j, s0, s1, s2, s3, s4, v0, sA, v2, v3, bo, tb, ne, its, sn, hE1, hE2, hE3, hE5⟩ := hE
      rcases hE5 with ⟨v9, rfl, rfl⟩ | ⟨rfl, rfl, rfl, hz⟩ | ⟨tf, aA, an, t5, rfl, rfl, rfl, hv9, rfl, hfa, haA, hfr⟩
      · skip
        revert en val j s0 s1 s2 s3 s4 v0 sA v2 v3 bo tb ne sn v9; exists en; exists val; exists j; exists s0; exists s1; exists s2; exists s3; exists s4; exists v0; exists sA; exists v2; exists v3; exists bo; exists tb; exists ne; exists sn; exists v9; set_option tactic.hygienic false in intros
        k_steps
        k_dflt (refine' raise_K (C := 67) ?Fq ?Xq ?hoq ?hbq ?hhq ?_; (case Fq => k_asm); (case Xq => k_asm); (case hoq => k_is); (case hbq => rfl); (case hhq => rfl))
        k_steps
        k_dflt (refine' use_specE c_sf ?kBq ?kFq ?kXq ?kNq ?kTq ?kKq ?kDq ?kdq ?kuq (_) ?kpq ?_; (case kFq => k_asm); (case kBq => k_asm); (case kXq => k_asm); (case kNq => k_asm); (case kTq => k_asm); (case kKq => first | exact rfl | assumption); (case kDq => assumption); (case kdq => ktr_room); (case kuq => ktr_units); (case kpq => refine' rfl))
        refine elq_0_3_2_1_0 ?_
        intro e a0 d h3 tk3 F3 N3 ND3
        refine ⟨e, .ref a0, some d, rfl, Frag.In.keeps (by assumption) F3.keep, (N3 _ List.mem_cons_self).1, ?_⟩
        k_dflt (refine' leave_sf ?Bq ?Fq ?Nq ?hneq ?_ ?hkq; (case Bq => assumption); (case Fq => exact F3); (case Nq => exact N3); (case hneq => exact nd_head ND3); (case hkq => rfl))
        intro h4 R4 U4
        dsimp only
        refine rai _ _ _ _ _ ?_ R4 U4 (nd_tail ND3) (⟨⟨[], rfl⟩, .inr ⟨hv, .inr (.inr ⟨hn1, hn2, .inl ⟨.inr ⟨_, hlb⟩, rfl⟩⟩)⟩⟩)
        assumption
      · skip
        revert en val j s0 s1 s2 s3 s4 v0 sA v2 v3 tb ne sn; exists en; exists val; exists j; exists s0; exists s1; exists s2; exists s3; exists s4; exists v0; exists sA; exists v2; exists v3; exists tb; exists ne; exists sn; set_option tactic.hygienic false in intros
        k_steps
        k_dflt (refine' use_specE c_is_defined ?kBq ?kFq ?kXq ?kNq ?kTq ?kKq ?kDq ?kdq ?kuq (en, j, s0, s1, s2, s3, s4, v0, _, v2, v3, _, tb, ne) ?kpq ?_; (case kFq => k_asm); (case kBq => k_asm); (case kXq => k_asm); (case kNq => k_asm); (case kTq => k_asm); (case kKq => first | exact rfl | assumption); (case kDq => assumption); (case kdq => ktr_room); (case kuq => ktr_units); (case kpq => refine' (in_0_3 rfl (bm_r (sm_r hE1)) (bm_r (sm_r hE2)))))
        refine elq_0_0_2_0_1 ?_
        intro  h4 tk4 F4 N4 ND4
        (try k_sweep)
        rw [show decide (((val : Nat) : Int) ≠ 0) = true from by simpa using hz]
        k_steps
        exact ret _ _ _ _ (by assumption) (by assumption) ND (Told.same HB (.inr ⟨hv, .inr (.inr ⟨hn1, hn2, .inr (.inl ⟨hlb, Nat.pos_of_ne_zero hz⟩)⟩)⟩))
      · skip
        revert en val j s0 s1 s2 s3 s4 sA v2 v3 tb ne sn tf aA an t5; exists en; exists val; exists j; exists s0; exists s1; exists s2; exists s3; exists s4; exists sA; exists v2; exists v3; exists tb; exists ne; exists sn; exists tf; exists aA; exists an; exists t5; set_option tactic.hygienic false in intros
        k_steps
        k_dflt (refine' use_specE c_is_defined ?kBq ?kFq ?kXq ?kNq ?kTq ?kKq ?kDq ?kdq ?kuq (en, j, s0, s1, s2, s3, s4, _, _, v2, v3, _, tb, ne) ?kpq ?_; (case kFq => k_asm); (case kBq => k_asm); (case kXq => k_asm); (case kNq => k_asm); (case kTq => k_asm); (case kKq => first | exact rfl | assumption); (case kDq => assumption); (case kdq => ktr_room); (case kuq => ktr_units); (case kpq => refine' (in_0_3 rfl (bm_r (sm_r hE1)) (bm_r (sm_r hE2)))))
        refine elq_0_0_2_0_1 ?_
        intro  h4 tk4 F4 N4 ND4
        (try k_sweep)
        rw [show decide ((0 : Int) ≠ 0) = false from rfl]
        k_steps
        k_dflt (refine' use_specE c_app ?kBq ?kFq ?kXq ?kNq ?kTq ?kKq ?kDq ?kdq ?kuq (b, sled w y ++ (_ :: rest), r0, val, tf, _, 0, aA, an, t5, xs) ?kpq ?_; (case kFq => k_asm); (case kBq => k_asm); (case kXq => k_asm); (case kNq => k_asm); (case kTq => k_asm); (case kKq => first | exact rfl | assumption); (case kDq => assumption); (case kdq => ktr_room); (case kuq => ktr_units); (case kpq => refine' (in_0_10 rfl ((fun p hp => sm_r (List.mem_cons_of_mem _ (hsub p hp)))) rfl (sm_r List.mem_cons_self) hfa (sm_r (List.mem_cons_of_mem _ haA)) hfr HB hop hv9)))
        intro news5 r5 hpost
        intro h5 tk5 F5 N5 ND5
        obtain ⟨news6, hperm, hT⟩ := Told.made hv hn1 hn2 hlb hpost
        revert news6; exists news6; set_option tactic.hygienic false in intros
        have N6 := news_perm N5 hperm
        have ND6 := nd_perm ND5 hperm
        clear N5
        (try k_sweep)
        have hT' := hT
        obtain ⟨b', new, k', tk', xs', rfl, -⟩ := hT'
        k_steps
        exact ret _ _ _ _ (by assumption) (by assumption) ND6 hT
  refine cut (T := SpecT _root_.Mine.hd.heap_1_39 PySem.Challenge.rw_rg0217_01.row.prog 865 7 (PreSt PySem.Challenge.rw_rg0217_01.row.prog) (PostSt PySem.Challenge.rw_rg0217_01.row.prog)) ?_ fun c_told => ?_
  · skip
    clear c_fun_count c_op c_args c_sort c_data c_bool_term c_declare_fun c_make c_app c_depth c_push c_unbind c_roll_back c_pop c_bind c_bound c_sf c_bring c_fe c_is_defined c_df c_dn c_isb c_due
    have pmI : PMI := trivial
    k_fill
    refine spec_atT ?_
    refine prod_all ?_
    intro b
    refine prod_all ?_
    intro y
    refine prod_all ?_
    intro rest
    refine prod_all ?_
    intro r0
    refine prod_all ?_
    intro el
    refine prod_all ?_
    intro nm
    refine prod_all ?_
    intro t
    refine prod_all ?_
    intro ts
    refine prod_all ?_
    intro kvs
    refine prod_all ?_
    intro bs
    intro xs
    refine at_inT ?_
    intro c0
    generalize c0.w = w; generalize c0.p = p; generalize c0.loose = loose; generalize c0.mean = mean; generalize c0.mg = mg; generalize c0.mb = mb; generalize c0.dp = dp; generalize c0.un = un; generalize c0.gd = gd; generalize c0.cn = cn; generalize c0.cs = cs; generalize c0.a = a; generalize c0.ccd = ccd; generalize c0.cl = cl; generalize c0.outer = outer; generalize c0.A₀ = A₀; generalize c0.base = base; generalize c0.h₀ = h₀; generalize c0.L = L; generalize c0.m = m; generalize c0.s = s; generalize c0.Q = Q; generalize c0.E = E; generalize c0.news = news; generalize c0.vs = vs
    refine sb_inT ?_
    intros hpre
    intros B F X N T hk ND XB TB D hd hu ret
    dsimp only [PreSt] at hpre
    obtain ⟨rfl, rfl, hsub, ⟨de, ne, u0, u1, u2, sr, hel1, hel2⟩, hq1, hq2, hq3, hq4, hq5, hq6, hq7, hq8, HB, hq9⟩ := hpre
    revert de ne u0 u1 u2 sr; exists de; exists ne; exists u0; exists u1; exists u2; exists sr; set_option tactic.hygienic false in intros
    refine wpAny_call ?_
    k_dflt (refine' code_defT ?k1q ?k2q ?k3q ?k4q ?k5q ?XBq ?TBq ?Dq ?kAq ?kFq ?kKq ?k6q ?k7q ?k8q ?k9q ?kBq ?_ ?c2q ?c3q ?c4q ?c5q; (case kAq => exact rfl); (case kFq => exact rfl); (case kKq => assumption); (case XBq => assumption); (case TBq => assumption); (case Dq => assumption); (case k1q => k_asm); (case k2q => k_asm); (case k3q => k_asm); (case k4q => k_asm); (case k5q => k_asm); (case k6q => k_is); (case k7q => k_is); (case k8q => ktr_room); (case k9q => exact BindsTo.of_eq rfl); (case c5q => decide); (case kBq => exact locs rfl); (case c2q => exact rfl); (case c3q => exact rfl); (case c4q => exact rfl); k_whole; intro g' L' h' FG' F' N' B' X' T' D'; (try dsimp only); (try k_fold))
    k_steps
    k_dflt (refine' use_specR c_symt ?kBq ?kFq ?kXq ?kNq ?kTq ?kKq ?kDq ?kdq ?kuq (b, y, rest, r0, el, nm, t, ts, kvs, bs, xs) ?kpq ?_ ?_; (case kFq => k_asm); (case kBq => k_asm); (case kXq => k_asm); (case kNq => k_asm); (case kTq => k_asm); (case kKq => first | exact rfl | assumption); (case kDq => assumption); (case kdq => ktr_room); (case kuq => ktr_units); (case kpq => refine' (in_0_14 rfl rfl hsub (⟨de, ne, u0, u1, u2, sr, hel1, hel2⟩) hq1 hq2 hq3 hq4 hq5 hq6 hq7 hq8 HB hq9)))
    · intro news3 r3 hpost
      intro h3 tk3 F3 N3 ND3
      revert news3; exists news3; set_option tactic.hygienic false in intros
      k_steps
      refine leaveT_of KtsTurn.refl F3 N3 ?_
      intro h9 T9 F9 N9 B9 X9 P9 D9
      exact ret _ _ _ _ _ T9 F9 N9 B9 X9 P9 D9 ND3 hpost
    · intro e news5 h5 tk5 G F5 R5 U5 ND5 hpost
      obtain ⟨⟨new, rfl⟩, hS⟩ := hpost
      revert new; exists new; set_option tactic.hygienic false in intros
      dsimp only
      k_steps
      dsimp only
      refine leaveT_of (by assumption) (by assumption) (by assumption) ?_
      intro h9 T9 F9 N9 B9 X9 P9 D9
      exact ret _ _ _ _ _ T9 F9 N9 B9 X9 P9 D9 ND5 ⟨b, new, 0, _, xs, rfl, rfl, HB.mono sub_left, fun _ h => h, .refl b, by omega, hS⟩
  refine cut (T := Spec _root_.Mine.hd.heap_1_39 PySem.Challenge.rw_rg0217_01.row.prog 858 1 (PreSc PySem.Challenge.rw_rg0217_01.row.prog) (PostSc PySem.Challenge.rw_rg0217_01.row.prog)) ?_ fun c_scrape => ?_
  · skip
    clear c_fun_count c_op c_args c_sort c_data c_bool_term c_declare_fun c_make c_app c_depth c_push c_unbind c_roll_back c_pop c_bind c_bound c_sf c_bring c_fe c_is_defined c_df c_dn c_isb c_due c_symt c_told
    have pmI : PMI := trivial
    k_fill
    refine spec_at ?_
    refine prod_all ?_
    intro b
    refine prod_all ?_
    intro y
    refine prod_all ?_
    intro t
    refine prod_all ?_
    intro rest
    refine prod_all ?_
    intro k
    refine prod_all ?_
    intro many
    intro tm
    refine at_in ?_
    intro c0
    generalize c0.w = w; generalize c0.p = p; generalize c0.loose = loose; generalize c0.mean = mean; generalize c0.mg = mg; generalize c0.mb = mb; generalize c0.dp = dp; generalize c0.un = un; generalize c0.gd = gd; generalize c0.cn = cn; generalize c0.cs = cs; generalize c0.a = a; generalize c0.ccd = ccd; generalize c0.cl = cl; generalize c0.outer = outer; generalize c0.A₀ = A₀; generalize c0.base = base; generalize c0.h₀ = h₀; generalize c0.L = L; generalize c0.m = m; generalize c0.s = s; generalize c0.Q = Q; generalize c0.E = E; generalize c0.news = news; generalize c0.vs = vs
    refine sb_in ?_
    intros hpre
    intros B F X N T hk ND hd hu ret
    dsimp only [PreSc] at hpre
    obtain ⟨rfl, rfl, ⟨⟨ta, hdi⟩, hlo, ⟨ns, hns⟩, hcl⟩, hk9, hm0, hm9⟩ := hpre
    revert ta ns; exists ta; exists ns; set_option tactic.hygienic false in intros
    have hva := nat_dict_at (v := .ref t.ceA) (w := .int (k : Nat) ta)
    refine wpAny_call ?_
    k_dflt ktr_enter
    k_steps
    (with_reducible rename News _ _ _ _ => N1)
    (with_reducible rename Fr _ _ _ _ => F1)
    k_dflt (refine' kda_set (knd := PySem.strKind _ _) F1 N1 (tu_di ND) hdi (strKind_is _ _ _ _) ?kzq ?_; (case kzq => (rw [sizeLine_eq]; exact Nat.le_of_ble_eq_true rfl)))
    intro h4 o4 F4 N4 hd4
    rw [stored_at] at hd4
    (try dsimp only at N4)
    have ND4 : Nd (bled w b ++ (sled w y ++ (tled { t with diO := o4 } ++ rest))) := nd_same ND rfl
    clear F1 N1
    rw [show ((k : Nat) : Int) + 1 = ((k + 1 : Nat) : Int) from rfl] at hd4
    have hm1 : (many : Int) ≠ 0 := by omega
    by_cases hlt : k < t.ce.length
    · obtain ⟨c, u, hcu⟩ := IntsAre.getI hns hlt
      revert c u; exists c; exists u; set_option tactic.hygienic false in intros
      k_steps
      obtain ⟨z, hz, e⟩ := fmod_nat _ hm0
      revert z; exists z; set_option tactic.hygienic false in intros
      rw [e]
      exact ret _ _ _ _ (by assumption) (by assumption) ND4 (in_3_4 o4 z _ rfl (⟨⟨_, hd4⟩, hlo, ⟨ns, hns⟩, hcl⟩) rfl hz)
    · k_steps
      obtain ⟨z, hz, e⟩ := fmod_nat _ hm0
      revert z; exists z; set_option tactic.hygienic false in intros
      rw [e]
      exact ret _ _ _ _ (by assumption) (by assumption) ND4 (in_3_4 o4 z _ rfl (⟨⟨_, hd4⟩, hlo, ⟨ns, hns⟩, hcl⟩) rfl hz)
  refine cut (T := SpecT _root_.Mine.hd.heap_1_39 PySem.Challenge.rw_rg0217_01.row.prog 891 14 (PreDd PySem.Challenge.rw_rg0217_01.row.prog) (PostDd PySem.Challenge.rw_rg0217_01.row.prog)) ?_ fun c_deed => ?_
  · skip
    clear c_op c_args c_sort c_data c_bool_term c_declare_fun c_make c_app c_depth c_roll_back c_bound c_sf c_bring c_fe c_is_defined c_df c_dn c_due c_symt c_told
    have pmPMD : PMD := trivial
    have pmI : PMI := trivial
    k_fill
    refine spec_atT ?_
    refine prod_all ?_
    intro b
    refine prod_all ?_
    intro y
    refine prod_all ?_
    intro t
    refine prod_all ?_
    intro rest
    refine prod_all ?_
    intro el
    refine prod_all ?_
    intro ts
    refine prod_all ?_
    intro kvs
    refine prod_all ?_
    intro bs
    refine prod_all ?_
    intro xs
    refine prod_all ?_
    intro ks
    refine prod_all ?_
    intro kd
    intro n
    refine at_inT ?_
    intro c0
    generalize c0.w = w; generalize c0.p = p; generalize c0.loose = loose; generalize c0.mean = mean; generalize c0.mg = mg; generalize c0.mb = mb; generalize c0.dp = dp; generalize c0.un = un; generalize c0.gd = gd; generalize c0.cn = cn; generalize c0.cs = cs; generalize c0.a = a; generalize c0.ccd = ccd; generalize c0.cl = cl; generalize c0.outer = outer; generalize c0.A₀ = A₀; generalize c0.base = base; generalize c0.h₀ = h₀; generalize c0.L = L; generalize c0.m = m; generalize c0.s = s; generalize c0.Q = Q; generalize c0.E = E; generalize c0.news = news; generalize c0.vs = vs
    refine sb_inT ?_
    intros hpre
    intros B F X N T hk ND XB TB D hd hu ret
    dsimp only [PreDd] at hpre
    obtain ⟨rfl, rfl, I, hop, hn18⟩ := hpre
    obtain ⟨hst, hslo⟩ := I.inv.st
    have hlb := I.inv.letsB.1
    have hle := I.inv.lets.1
    have hlr := I.inv.rows.len
    have hlf := I.inv.funs.len
    have hlbr : y.br.length = kvs.length := by rw [I.inv.bro.1, List.length_map]
    have hlsc := I.sc.1
    have hlma := I.ma.1
    have q1 := I.b1
    have q2 := I.b2
    have q3 := I.b3
    have q4 := I.b4
    have hb5 := I.b5
    have hn20 := I.hn
    refine wpAny_call ?_
    k_dflt (refine' code_defT ?k1q ?k2q ?k3q ?k4q ?k5q ?XBq ?TBq ?Dq ?kAq ?kFq ?kKq ?k6q ?k7q ?k8q ?k9q ?kBq ?_ ?c2q ?c3q ?c4q ?c5q; (case kAq => exact rfl); (case kFq => exact rfl); (case kKq => assumption); (case XBq => assumption); (case TBq => assumption); (case Dq => assumption); (case k1q => k_asm); (case k2q => k_asm); (case k3q => k_asm); (case k4q => k_asm); (case k5q => k_asm); (case k6q => k_is); (case k7q => k_is); (case k8q => ktr_room); (case k9q => exact BindsTo.of_eq rfl); (case c5q => decide); (case kBq => exact locs rfl); (case c2q => exact rfl); (case c3q => exact rfl); (case c4q => exact rfl); k_whole; intro g' L' h' FG' F' N' B' X' T' D'; (try dsimp only); (try k_fold))
    k_steps
    k_dflt (refine' use_specE c_scrape ?kBq ?kFq ?kXq ?kNq ?kTq ?kKq ?kDq ?kdq ?kuq (b, y, t, rest, kd, 8, _) ?kpq ?_; (case kFq => k_asm); (case kBq => k_asm); (case kXq => k_asm); (case kNq => k_asm); (case kTq => k_asm); (case kKq => first | exact rfl | assumption); (case kDq => assumption); (case kdq => ktr_room); (case kuq => ktr_units); (case kpq => refine' (in_0_6 rfl rfl I.dish (by omega) (by decide) (by decide))))
    refine elq_0_3_4_0_2 ?_
    intro o1 way tw hd1 hway h1 tk1 F1 N1 ND1
    (try k_sweep)
    k_steps
    k_dflt (refine' use_specE c_scrape ?kBq ?kFq ?kXq ?kNq ?kTq ?kKq ?kDq ?kdq ?kuq (b, y, { t with diO := o1 }, rest, kd + 1, 5, _) ?kpq ?_; (case kFq => k_asm); (case kBq => k_asm); (case kXq => k_asm); (case kNq => k_asm); (case kTq => k_asm); (case kKq => first | exact rfl | assumption); (case kDq => assumption); (case kdq => ktr_room); (case kuq => ktr_units); (case kpq => refine' (in_0_6 rfl rfl hd1 (by omega) (by decide) (by decide))))
    refine elq_0_3_4_0_2 ?_
    intro o2 z2 tz2 hd2 hz2 h2 tk2 F2 N2 ND2
    (try k_sweep)
    k_steps
    unfold Hold
    k_dflt (refine' ktup_any (k := z2) ?Fq ?Xq ?hoq ?hltq ?hkq ?_ ?hsq; (case Fq => k_asm); (case Xq => k_asm); (case hoq => k_is); (case hltq => exact hz2); (case hkq => omega); (case hsq => with_unfolding_all rfl))
    intros v hv
    obtain ⟨nm, tn, rfl, hnm, -⟩ := five_of rfl hv
    revert nm tn; exists nm; exists tn; set_option tactic.hygienic false in intros
    clear hv
    k_steps
    k_dflt (refine' use_specE c_scrape ?kBq ?kFq ?kXq ?kNq ?kTq ?kKq ?kDq ?kdq ?kuq (b, y, { t with diO := o2 }, rest, kd + 1 + 1, 4, _) ?kpq ?_; (case kFq => k_asm); (case kBq => k_asm); (case kXq => k_asm); (case kNq => k_asm); (case kTq => k_asm); (case kKq => first | exact rfl | assumption); (case kDq => assumption); (case kdq => ktr_room); (case kuq => ktr_units); (case kpq => refine' (in_0_6 rfl rfl hd2 (by omega) (by decide) (by decide))))
    refine elq_0_3_4_0_2 ?_
    intro o3 z3 tz3 hd3 hz3 h3 tk3 F3 N3 ND3
    (try k_sweep)
    obtain ⟨k1, t1, hk1, hk1p, hk1l⟩ := I.sm.2 z3 (by omega)
    revert k1 t1; exists k1; exists t1; set_option tactic.hygienic false in intros
    obtain ⟨k4, t4, hk4, hk4p, hk4l⟩ := I.sm.2 4 (by omega)
    revert k4 t4; exists k4; exists t4; set_option tactic.hygienic false in intros
    obtain ⟨k0, t0, hk0, hk0p, hk0l⟩ := I.sm.2 0 (by omega)
    revert k0 t0; exists k0; exists t0; set_option tactic.hygienic false in intros
    by_cases hw4 : way < 4
    · by_cases hn1 : nm = "true"
      · (try clear_value nm)
        subst hn1
        k_steps
        (with_reducible rename News _ _ _ _ => Na)
        (with_reducible rename Nd _ => NDa)
        obtain ⟨mid, -, -, Nb, NDb⟩ := mid2 Na NDa
        revert mid; exists mid; set_option tactic.hygienic false in intros
        clear Na NDa
        k_dflt (refine' use_specT c_isb ?kBq ?kFq ?kXq ?kNq ?kTq ?kKq ?kDq ?kXBq ?kTBq ?kKDq ?kdq ?kuq (b, y, _, way, tw, _, tn, k4, t4, k1, t1, kvs, bs) ?kpq ?_; (case kFq => k_asm); (case kBq => k_asm); (case kXq => k_asm); (case kNq => k_asm); (case kTq => k_asm); (case kKq => first | exact rfl | assumption); (case kDq => assumption); (case kXBq => assumption); (case kTBq => assumption); (case kKDq => assumption); (case kdq => ktr_room); (case kuq => ktr_units); (case kpq => refine' I.preIb (fun p hp => tm_r (List.mem_append_right mid hp)) hw4 hnm hop hk4l hk1l hk1p))
        intro news6 r6 hpost
        intro h6 tk6 g6 T6 F6 N6 B6 X6 P6 D6 ND6
        rcases hpost with ⟨rfl, -, new, rfl⟩ | ⟨-, e1, e2, -⟩
        · skip
          revert new; exists new; set_option tactic.hygienic false in intros
          k_steps
          (with_reducible rename Nd _ => NDz)
          dsimp only
          refine leaveT_of T6 (by assumption) (by assumption) ?_
          intro h9 T9 F9 N9 B9 X9 P9 D9
          have Ne := news_perm N9 canonT4
          have NDe := nd_perm NDz canonT4
          have I9 := (I.weak (new := mid)).weak (new := new)
          exact ret _ _ _ _ _ T9 F9 Ne B9 X9 P9 D9 NDe (in_9_9 b y ({ t with diO := o3 }) (new ++ mid) ts kvs bs _ _ (by simp only [List.append_assoc]) (by simpa only [List.append_assoc] using I9.keep hn18 (j := 3) (by decide) hd3) rfl rfl rfl rfl rfl rfl rfl)
        · exact absurd rfl e1
      by_cases hn2 : nm = "false"
      · (try clear_value nm)
        subst hn2
        k_steps
        (with_reducible rename News _ _ _ _ => Na)
        (with_reducible rename Nd _ => NDa)
        obtain ⟨mid, -, -, Nb, NDb⟩ := mid2 Na NDa
        revert mid; exists mid; set_option tactic.hygienic false in intros
        clear Na NDa
        k_dflt (refine' use_specT c_isb ?kBq ?kFq ?kXq ?kNq ?kTq ?kKq ?kDq ?kXBq ?kTBq ?kKDq ?kdq ?kuq (b, y, _, way, tw, _, tn, k4, t4, k1, t1, kvs, bs) ?kpq ?_; (case kFq => k_asm); (case kBq => k_asm); (case kXq => k_asm); (case kNq => k_asm); (case kTq => k_asm); (case kKq => first | exact rfl | assumption); (case kDq => assumption); (case kXBq => assumption); (case kTBq => assumption); (case kKDq => assumption); (case kdq => ktr_room); (case kuq => ktr_units); (case kpq => refine' I.preIb (fun p hp => tm_r (List.mem_append_right mid hp)) hw4 hnm hop hk4l hk1l hk1p))
        intro news6 r6 hpost
        intro h6 tk6 g6 T6 F6 N6 B6 X6 P6 D6 ND6
        rcases hpost with ⟨rfl, -, new, rfl⟩ | ⟨-, e1, e2, -⟩
        · skip
          revert new; exists new; set_option tactic.hygienic false in intros
          k_steps
          (with_reducible rename Nd _ => NDz)
          dsimp only
          refine leaveT_of T6 (by assumption) (by assumption) ?_
          intro h9 T9 F9 N9 B9 X9 P9 D9
          have Ne := news_perm N9 canonT4
          have NDe := nd_perm NDz canonT4
          have I9 := (I.weak (new := mid)).weak (new := new)
          exact ret _ _ _ _ _ T9 F9 Ne B9 X9 P9 D9 NDe (in_9_9 b y ({ t with diO := o3 }) (new ++ mid) ts kvs bs _ _ (by simp only [List.append_assoc]) (by simpa only [List.append_assoc] using I9.keep hn18 (j := 3) (by decide) hd3) rfl rfl rfl rfl rfl rfl rfl)
        · exact absurd rfl e2
      have hany : [Str.ofString "true", Str.ofString "false"].any (· == nm) = false := by simpa using ⟨fun h => hn1 h.symm, fun h => hn2 h.symm⟩
      k_steps
      unfold Hold
      (with_reducible rename News _ _ _ _ => Na)
      (with_reducible rename Nd _ => NDa)
      obtain ⟨mid, -, -, Nb, NDb⟩ := mid2 Na NDa
      revert mid; exists mid; set_option tactic.hygienic false in intros
      clear Na NDa
      k_dflt (refine comp_L (_F₀ := by k_asm) (by rfl) (by decide) (by rfl) (by decide) (by rfl) ?_)
      k_steps
      refine ⟨t.brA, t.br, _, rfl, rfl, by k_asm, by k_asm, ⟨_, by k_mem⟩, (by rw [sizeLine_eq, List.size_toArray]; omega), ?_⟩
      rintro _ ⟨g9, rfl⟩
      revert g9; exists g9; set_option tactic.hygienic false in intros
      refine comp_ind (fun i ys nw => StrsAre ys ((bs.take i).map (·.1)) ∧ nw = bled w b ++ (sled w y ++ (tled { t with diO := o3 } ++ (mid ++ rest)))) ?_ ?_ _ 0 [] _ (Nat.zero_add _) ⟨StrsAre.nil, rfl⟩
      · rintro i ys nw hi ⟨hS, rfl⟩ v It oI C oC D m2 h4 tk4 E' hv hC hx F4 N4 off ne
        revert i ys v It oI C oC D m2 h4 tk4 E'; exists i; exists ys; exists v; exists It; exists oI; exists C; exists oC; exists D; exists m2; exists h4; exists tk4; exists E'; set_option tactic.hygienic false in intros
        simp only [List.getElem?_toArray] at hv
        obtain ⟨rn, rk, rv, hbi, ra, w1, w2, w3, rc, rfl, hra⟩ := I.inv.rows.get hv
        revert rn rk rv ra w1 w2 w3 rc; exists rn; exists rk; exists rv; exists ra; exists w1; exists w2; exists w3; exists rc; set_option tactic.hygienic false in intros
        have hra' := List.mem_append_right mid hra
        k_steps
        refine CompEnd.intro (by assumption) N4 _ (fun p hp => hp) off ⟨_, by k_mem⟩ ⟨?_, rfl⟩
        rw [List.take_add_one, hbi]
        simp only [Option.toList_some, List.map_append, List.map_cons, List.map_nil]
        exact strsAre_snoc hS
      · rintro ys nw ⟨hS, rfl⟩
        revert ys; exists ys; set_option tactic.hygienic false in intros
        have hbt : bs.take t.br.toArray.size = bs := by rw [List.size_toArray, hlr, List.take_length]
        rw [hbt] at hS
        unfold FinE
        intro D h4 tk4 F4 N4 o4
        obtain ⟨N5, ND5⟩ := canon_off (o := listOf ys.toArray ys.length) N4 o4 NDb
        obtain ⟨mm, hDm, N7, ND7⟩ := mid0 N5 ND5
        revert mm; exists mm; set_option tactic.hygienic false in intros
        have hDm' := List.mem_append_left (mid ++ rest) hDm
        clear N4 N5 ND5
        have hab := any_lookB (bs := bs) (nm := nm)
        cases hlk : lookB bs nm with
        | some cd =>
          rw [hlk] at hab
          have hab' : (bs.map (·.1)).any (· == nm) = true := hab
          k_dflt (refine' llst_notin (b := true) N7 ?hmq hS hab' ?_; (case hmq => k_mem))
          k_steps
          k_dflt (refine' use_specT c_isb ?kBq ?kFq ?kXq ?kNq ?kTq ?kKq ?kDq ?kXBq ?kTBq ?kKDq ?kdq ?kuq (b, y, _, way, tw, _, tn, k4, t4, k1, t1, kvs, bs) ?kpq ?_; (case kFq => k_asm); (case kBq => k_asm); (case kXq => k_asm); (case kNq => k_asm); (case kTq => k_asm); (case kKq => first | exact rfl | assumption); (case kDq => assumption); (case kXBq => assumption); (case kTBq => assumption); (case kKDq => assumption); (case kdq => ktr_room); (case kuq => ktr_units); (case kpq => refine' I.preIb (fun p hp => tm_r (List.mem_append_right mm (List.mem_append_right mid hp))) hw4 hnm hop hk4l hk1l hk1p))
          intro news6 r6 hpost
          intro h6 tk6 g6 T6 F6 N6 B6 X6 P6 D6 ND6
          rcases hpost with ⟨rfl, -, new, rfl⟩ | ⟨-, e1, e2, e3, -⟩
          · skip
            revert new; exists new; set_option tactic.hygienic false in intros
            k_steps
            (with_reducible rename Nd _ => NDz)
            dsimp only
            refine leaveT_of T6 (by assumption) (by assumption) ?_
            intro h9 T9 F9 N9 B9 X9 P9 D9
            have Ne := news_perm N9 canonT4
            have NDe := nd_perm NDz canonT4
            have I9 := ((I.weak (new := mid)).weak (new := mm)).weak (new := new)
            exact ret _ _ _ _ _ T9 F9 Ne B9 X9 P9 D9 NDe (in_9_9 b y ({ t with diO := o3 }) (new ++ (mm ++ mid)) ts kvs bs _ _ (by simp only [List.append_assoc]) (by simpa only [List.append_assoc] using I9.keep hn18 (j := 3) (by decide) hd3) rfl rfl rfl rfl rfl rfl rfl)
          · rw [hlk] at e3; cases e3
        | none =>
          rw [hlk] at hab
          have hab' : (bs.map (·.1)).any (· == nm) = false := hab
          k_dflt (refine' llst_notin (b := false) N7 ?hmq hS hab' ?_; (case hmq => k_mem))
          k_steps
          k_dflt (refine' use_specT c_isb ?kBq ?kFq ?kXq ?kNq ?kTq ?kKq ?kDq ?kXBq ?kTBq ?kKDq ?kdq ?kuq (b, y, _, way, tw, _, tn, k4, t4, k1, t1, kvs, bs) ?kpq ?_; (case kFq => k_asm); (case kBq => k_asm); (case kXq => k_asm); (case kNq => k_asm); (case kTq => k_asm); (case kKq => first | exact rfl | assumption); (case kDq => assumption); (case kXBq => assumption); (case kTBq => assumption); (case kKDq => assumption); (case kdq => ktr_room); (case kuq => ktr_units); (case kpq => refine' I.preIb (fun p hp => tm_r (List.mem_append_right mm (List.mem_append_right mid hp))) hw4 hnm hop hk4l hk1l hk1p))
          intro news6 r6 hpost
          intro h6 tk6 g6 T6 F6 N6 B6 X6 P6 D6 ND6
          rcases hpost with ⟨-, e1, -⟩ | ⟨rfl, -, -, -, b', o, a, n', new, en, rfl, ho, hEnt, hbt', hBF⟩
          · rcases e1 with e1 | e1 | e1
            · exact absurd e1 hn1
            · exact absurd e1 hn2
            · exact absurd hlk e1
          · have N8 := news_perm N6 canonT4
            have ND8 := nd_perm ND6 canonT4
            clear N6 ND6
            have hw' : way = 0 ∨ way = 1 ∨ way = 2 ∨ way = 3 := by omega
            have hBF' := hBF
            obtain ⟨l1, n1, l2, n2, l3, n3, hl1, hl2, hl3, rfl⟩ := hBF'
            revert o a n' new en l1 n1 l2 n2 l3 n3; exists o; exists a; exists n'; exists new; exists en; exists l1; exists n1; exists l2; exists n2; exists l3; exists n3; set_option tactic.hygienic false in intros
            have hab3 : nm ∈ abc := five_abc hnm hn1 hn2
            have hf9 : (b.fn ++ l1).length < 900 := by rw [List.length_append]; omega
            (try clear_value way)
            rcases hw' with rfl | rfl | rfl | rfl
            · have hlen := ent_len (en := en) (v := b.fn.length) hEnt
              have hl0 : l1.length = 1 := by have := I.inv.fl2; simp only [List.length_append] at hlen; omega
              k_steps
              k_dflt (refine' use_specE c_fun_count ?kBq ?kFq ?kXq ?kNq ?kTq ?kKq ?kDq ?kdq ?kuq (_, _) ?kpq ?_; (case kFq => k_asm); (case kBq => k_asm); (case kXq => k_asm); (case kNq => k_asm); (case kTq => k_asm); (case kKq => first | exact rfl | assumption); (case kDq => assumption); (case kdq => ktr_room); (case kuq => ktr_units); (case kpq => refine' (in_0_3 rfl rfl hf9)))
              refine elq_1_1_1_0_1 ?_
              intro tk8 h7 tk7 F7 N7' ND7'
              (try k_sweep)
              dsimp only
              rw [show (((b.fn ++ l1).length : Nat) : Int) = ((b.fn.length : Nat) : Int) + 1 by rw [List.length_append]; omega]
              have pmH : PMH := trivial
              k_steps
              unfold Hold
              (with_reducible rename PMH => pmH)
              clear pmH
              try rw [show ((b.fn.length : Nat) : Int) + 1 - 1 = ((b.fn.length : Nat) : Int) by omega] at *
              (with_reducible rename News _ _ _ _ => Np)
              (with_reducible rename Nd _ => NDp)
              have Nq := news_perm Np canonT5
              have NDq := nd_perm NDp canonT5
              clear Np NDp
              k_steps
              (with_reducible rename Nd _ => NDz)
              refine leaveT_of T6 (by assumption) (by assumption) ?_
              intro h9 T9 F9 N9 B9 X9 P9 D9
              exact ret _ _ _ _ _ T9 F9 N9 B9 X9 P9 D9 NDz (in_9_9 _ _ _ _ ts _ _ ks _ fin_eq (Full.assoc (((I.weak (new := mid)).weak (new := mm)).bring (new := _ :: _ :: new) hn18 (j := 3) (by decide) hd3 hab3 hBF (kind := 2) (val := b.fn.length) ho (hEnt.mono (.refl _) (fun p hp => List.mem_cons_of_mem _ (List.mem_cons_of_mem _ (List.mem_append_left _ hp)))) (let ⟨q1, q2, q3, q4⟩ := hbt'; ⟨q1, q2, q3, List.mem_cons_of_mem _ (List.mem_cons_of_mem _ (List.mem_append_left _ q4))⟩) (.inr (.inr rfl)) ⟨_, _, _, _, List.mem_cons_self⟩)) rfl rfl rfl rfl rfl rfl rfl)
            · have pmH : PMH := trivial
              k_steps
              unfold Hold
              (with_reducible rename PMH => pmH)
              clear pmH
              (with_reducible rename News _ _ _ _ => Np)
              (with_reducible rename Nd _ => NDp)
              have Nq := news_perm Np canonT5
              have NDq := nd_perm NDp canonT5
              clear Np NDp
              k_steps
              (with_reducible rename Nd _ => NDz)
              refine leaveT_of T6 (by assumption) (by assumption) ?_
              intro h9 T9 F9 N9 B9 X9 P9 D9
              exact ret _ _ _ _ _ T9 F9 N9 B9 X9 P9 D9 NDz (in_9_9 _ _ _ _ ts _ _ ks _ fin_eq (Full.assoc (((I.weak (new := mid)).weak (new := mm)).bring (new := _ :: _ :: new) hn18 (j := 3) (by decide) hd3 hab3 hBF (kind := 0) (val := k1) ho (hEnt.mono (.refl _) (fun p hp => List.mem_cons_of_mem _ (List.mem_cons_of_mem _ (List.mem_append_left _ hp)))) (let ⟨q1, q2, q3, q4⟩ := hbt'; ⟨q1, q2, q3, List.mem_cons_of_mem _ (List.mem_cons_of_mem _ (List.mem_append_left _ q4))⟩) (.inl rfl) ⟨_, _, _, _, List.mem_cons_self⟩)) rfl rfl rfl rfl rfl rfl rfl)
            · have pmH : PMH := trivial
              k_steps
              unfold Hold
              (with_reducible rename PMH => pmH)
              clear pmH
              (with_reducible rename News _ _ _ _ => Np)
              (with_reducible rename Nd _ => NDp)
              have Nq := news_perm Np canonT5
              have NDq := nd_perm NDp canonT5
              clear Np NDp
              k_steps
              (with_reducible rename Nd _ => NDz)
              refine leaveT_of T6 (by assumption) (by assumption) ?_
              intro h9 T9 F9 N9 B9 X9 P9 D9
              exact ret _ _ _ _ _ T9 F9 N9 B9 X9 P9 D9 NDz (in_9_9 _ _ _ _ ts _ _ ks _ fin_eq (Full.assoc (((I.weak (new := mid)).weak (new := mm)).bring (new := _ :: _ :: new) hn18 (j := 3) (by decide) hd3 hab3 hBF (kind := 1) (val := k1) ho (hEnt.mono (.refl _) (fun p hp => List.mem_cons_of_mem _ (List.mem_cons_of_mem _ (List.mem_append_left _ hp)))) (let ⟨q1, q2, q3, q4⟩ := hbt'; ⟨q1, q2, q3, List.mem_cons_of_mem _ (List.mem_cons_of_mem _ (List.mem_append_left _ q4))⟩) (.inr (.inl rfl)) ⟨_, _, _, _, List.mem_cons_self⟩)) rfl rfl rfl rfl rfl rfl rfl)
            · have pmH : PMH := trivial
              k_steps
              unfold Hold
              (with_reducible rename PMH => pmH)
              clear pmH
              (with_reducible rename News _ _ _ _ => Np)
              (with_reducible rename Nd _ => NDp)
              have Nq := news_perm Np canonT5
              have NDq := nd_perm NDp canonT5
              clear Np NDp
              k_steps
              (with_reducible rename Nd _ => NDz)
              refine leaveT_of T6 (by assumption) (by assumption) ?_
              intro h9 T9 F9 N9 B9 X9 P9 D9
              exact ret _ _ _ _ _ T9 F9 N9 B9 X9 P9 D9 NDz (in_9_9 _ _ _ _ ts _ _ ks _ fin_eq (Full.assoc (((I.weak (new := mid)).weak (new := mm)).bring (new := _ :: _ :: new) hn18 (j := 3) (by decide) hd3 hab3 hBF (kind := 0) (val := k1) ho (hEnt.mono (.refl _) (fun p hp => List.mem_cons_of_mem _ (List.mem_cons_of_mem _ (List.mem_append_left _ hp)))) (let ⟨q1, q2, q3, q4⟩ := hbt'; ⟨q1, q2, q3, List.mem_cons_of_mem _ (List.mem_cons_of_mem _ (List.mem_append_left _ q4))⟩) (.inl rfl) ⟨_, _, _, _, List.mem_cons_self⟩)) rfl rfl rfl rfl rfl rfl rfl)
    by_cases hw4' : way = 4
    · k_steps
      (with_reducible rename News _ _ _ _ => Na)
      (with_reducible rename Nd _ => NDa)
      have Nb := news_perm Na canonT7
      have NDb := nd_perm NDa canonT7
      clear Na NDa
      k_dflt (refine' use_specE c_scrape ?kBq ?kFq ?kXq ?kNq ?kTq ?kKq ?kDq ?kdq ?kuq (b, y, { t with diO := o3 }, _, kd + 1 + 1 + 1, 5, _) ?kpq ?_; (case kFq => k_asm); (case kBq => k_asm); (case kXq => k_asm); (case kNq => k_asm); (case kTq => k_asm); (case kKq => first | exact rfl | assumption); (case kDq => assumption); (case kdq => ktr_room); (case kuq => ktr_units); (case kpq => refine' (in_0_6 rfl rfl hd3 (by omega) (by decide) (by decide))))
      refine elq_0_3_4_0_2 ?_
      intro o4 z4 tz4 hd4 hz4 h4 tk4 F4 N4 ND4
      (try k_sweep)
      k_steps
      unfold Hold
      k_dflt (refine' ktup_any (k := z4) ?Fq ?Xq ?hoq ?hltq ?hkq ?_ ?hsq; (case Fq => k_asm); (case Xq => k_asm); (case hoq => k_is); (case hltq => exact hz4); (case hkq => omega); (case hsq => with_unfolding_all rfl))
      intros v hv
      obtain ⟨lt, tl, rfl, hltm, -⟩ := five_of rfl hv
      revert lt tl; exists lt; exists tl; set_option tactic.hygienic false in intros
      clear hv
      k_steps
      · unfold Hold
        k_dflt (refine' use_specE c_bind ?kBq ?kFq ?kXq ?kNq ?kTq ?kKq ?kDq ?kdq ?kuq (b, y, _, _, _, [(nm, tn, .int (k1 : Nat) t1)], 0, 0) ?kpq ?_; (case kFq => k_asm); (case kBq => k_asm); (case kXq => k_asm); (case kNq => k_asm); (case kTq => k_asm); (case kKq => first | exact rfl | assumption); (case kDq => assumption); (case kdq => ktr_room); (case kuq => ktr_units); (case kpq => refine' (in_0_7 rfl rfl (by k_mem) (by k_mem) (by simp) (Nat.le_of_ble_eq_true rfl) (by omega))))
        refine elq_0_2_4_0_3 ?_
        intro d5 o5 lo5 hd5 h5 tk5 F5 N5 ND5
        (try k_sweep)
        k_steps
        unfold Hold
        k_dflt (refine' zip_R (ps := [(nm, tn, .int (k1 : Nat) t1)]) ?Fq ?Nq ?m1q ?m2q ?_; (case Fq => k_asm); (case Nq => k_asm); (case m1q => k_mem); (case m2q => k_mem))
        intro z8 h8 F8 N8 Z8
        k_steps
        unfold Hold
        k_dflt (refine' dict_zip ?hhq ?hbq ?Fq ?Nq Z8 ?hnq ?hlq ?_; (case hhq => rfl); (case hbq => exact TopRead.nolimit (by k_asm)); (case Fq => exact F8); (case Nq => exact N8); (case hnq => exact (by simp)); (case hlq => exact Nat.le_of_ble_eq_true rfl))
        intro d6 h9 o6 tk9 F9 N9 l9 lo9 hd9
        have ND9 := nd_perm (nd_perm (nd_cons (o := o6) ND5 l9) canon1) canonT8
        have N9' := news_perm (news_perm N9 canon1) canonT8
        clear N9 N8 F8 Z8
        (try k_sweep)
        k_steps
        (with_reducible rename Nd _ => NDz)
        refine leaveT_of KtsTurn.refl (by assumption) (by assumption) ?_
        intro h9 T9 F9 N9 B9 X9 P9 D9
        exact ret _ _ _ _ _ T9 F9 N9 B9 X9 P9 D9 NDz (in_9_9 b _ _ ([_, _, _, _, _, _]) (ts ++ [_]) kvs bs _ _ rfl ((I.weak (new := [_, _, _, _, _, _])).bind hn18 (j := 4) (by decide) hd4 (List.mem_cons_of_mem _ List.mem_cons_self) List.mem_cons_self hd5 hd9 lo5 lo9 (fun q hq => by rw [List.mem_singleton.mp hq]; exact ⟨_, _, rfl, hk1p⟩)) rfl rfl rfl rfl rfl rfl rfl)
      · have hne : ¬ nm = lt := fun e => by (subst e; rename (_ == _) = false => hq; simp at hq)
        have hnd2 : (([(nm, tn, Value.int (k1 : Nat) t1), (lt, tl, Value.int (k0 : Nat) t0)] : List (Str × Tok × Value)).map (·.1)).Nodup := by simp [hne]
        unfold Hold
        k_dflt (refine' use_specE c_bind ?kBq ?kFq ?kXq ?kNq ?kTq ?kKq ?kDq ?kdq ?kuq (b, y, _, _, _, [(nm, tn, .int (k1 : Nat) t1), (lt, tl, .int (k0 : Nat) t0)], 0, 0) ?kpq ?_; (case kFq => k_asm); (case kBq => k_asm); (case kXq => k_asm); (case kNq => k_asm); (case kTq => k_asm); (case kKq => first | exact rfl | assumption); (case kDq => assumption); (case kdq => ktr_room); (case kuq => ktr_units); (case kpq => refine' (in_0_7 rfl rfl (by k_mem) (by k_mem) hnd2 (Nat.le_of_ble_eq_true rfl) (by omega))))
        refine elq_0_2_4_0_3 ?_
        intro d5 o5 lo5 hd5 h5 tk5 F5 N5 ND5
        (try k_sweep)
        k_steps
        unfold Hold
        k_dflt (refine' zip_R (ps := [(nm, tn, .int (k1 : Nat) t1), (lt, tl, .int (k0 : Nat) t0)]) ?Fq ?Nq ?m1q ?m2q ?_; (case Fq => k_asm); (case Nq => k_asm); (case m1q => k_mem); (case m2q => k_mem))
        intro z8 h8 F8 N8 Z8
        k_steps
        unfold Hold
        k_dflt (refine' dict_zip ?hhq ?hbq ?Fq ?Nq Z8 ?hnq ?hlq ?_; (case hhq => rfl); (case hbq => exact TopRead.nolimit (by k_asm)); (case Fq => exact F8); (case Nq => exact N8); (case hnq => exact (hnd2)); (case hlq => exact Nat.le_of_ble_eq_true rfl))
        intro d6 h9 o6 tk9 F9 N9 l9 lo9 hd9
        have ND9 := nd_perm (nd_perm (nd_cons (o := o6) ND5 l9) canon1) canonT8
        have N9' := news_perm (news_perm N9 canon1) canonT8
        clear N9 N8 F8 Z8
        (try k_sweep)
        k_steps
        (with_reducible rename Nd _ => NDz)
        refine leaveT_of KtsTurn.refl (by assumption) (by assumption) ?_
        intro h9 T9 F9 N9 B9 X9 P9 D9
        exact ret _ _ _ _ _ T9 F9 N9 B9 X9 P9 D9 NDz (in_9_9 b _ _ ([_, _, _, _, _, _]) (ts ++ [_]) kvs bs _ _ rfl ((I.weak (new := [_, _, _, _, _, _])).bind hn18 (j := 4) (by decide) hd4 (List.mem_cons_of_mem _ List.mem_cons_self) List.mem_cons_self hd5 hd9 lo5 lo9 (fun q hq => by
            rcases List.mem_cons.mp hq with rfl | hq
            · exact ⟨_, _, rfl, hk1p⟩
            · rw [List.mem_singleton.mp hq]; exact ⟨_, _, rfl, hk0p⟩)) rfl rfl rfl rfl rfl rfl rfl)
    by_cases hw5 : way = 5
    · k_steps
      (with_reducible rename News _ _ _ _ => Na)
      (with_reducible rename Nd _ => NDa)
      have Nb := news_perm Na canonT7
      have NDb := nd_perm NDa canonT7
      clear Na NDa
      k_dflt (refine' use_specE c_scrape ?kBq ?kFq ?kXq ?kNq ?kTq ?kKq ?kDq ?kdq ?kuq (b, y, { t with diO := o3 }, _, kd + 1 + 1 + 1, t.bo.length + 1, _) ?kpq ?_; (case kFq => k_asm); (case kBq => k_asm); (case kXq => k_asm); (case kNq => k_asm); (case kTq => k_asm); (case kKq => first | exact rfl | assumption); (case kDq => assumption); (case kdq => ktr_room); (case kuq => ktr_units); (case kpq => refine' (in_0_6 rfl rfl hd3 (by omega) (by omega) (by omega))))
      refine elq_0_3_4_0_2 ?_
      intro o4 z4 tz4 hd4 hz4 h4 tk4 F4 N4 ND4
      (try k_sweep)
      k_steps
      k_dflt (refine' use_specE c_unbind ?kBq ?kFq ?kXq ?kNq ?kTq ?kKq ?kDq ?kdq ?kuq (b, y, _, z4, tz4) ?kpq ?_; (case kFq => k_asm); (case kBq => k_asm); (case kXq => k_asm); (case kNq => k_asm); (case kTq => k_asm); (case kKq => first | exact rfl | assumption); (case kDq => assumption); (case kdq => ktr_room); (case kuq => ktr_units); (case kpq => refine' (in_0_4 rfl rfl (by omega) (by omega))))
      refine elq_0_1_2_0_1 ?_
      intro n5 h5 tk5 F5 N5 ND5
      (try k_sweep)
      k_steps
      unfold Hold
      (with_reducible rename News _ _ _ _ => Nc)
      (with_reducible rename Nd _ => NDc)
      (with_reducible rename Fr _ _ _ _ => Fc)
      have Nd' := news_perm Nc canonT7
      have NDd := nd_perm NDc canonT7
      clear Nc NDc
      k_dflt (refine' kda_set (knd := PySem.strKind _ _) Fc Nd' (tu_st NDd) hst (strKind_is _ _ _ _) ?kzq ?_; (case kzq => (rw [sizeLine_eq]; exact Nat.le_of_ble_eq_true rfl)))
      intro h6 o6 F6 N6 hd6
      rw [ss_bo] at hd6
      (try dsimp only at N6)
      have ND6 := nd_of N6 NDd rfl
      clear Fc Nd' NDd
      k_steps
      refine leaveT_of KtsTurn.refl (by assumption) (by assumption) ?_
      intro h9 T9 F9 N9 B9 X9 P9 D9
      have Ne := news_perm N9 swap_bo
      have NDe := nd_perm ND6 swap_bo
      exact ret _ _ _ _ _ T9 F9 Ne B9 X9 P9 D9 NDe (in_9_9 b _ _ ([_, _]) (ts.take z4) kvs bs _ _ rfl ((I.weak (new := [_, _])).cut hn18 (j := 4) (by decide) hd4 hd6 hslo) rfl rfl rfl rfl rfl rfl rfl)
    by_cases hw6 : way = 6
    · k_steps
      (with_reducible rename News _ _ _ _ => Na)
      (with_reducible rename Nd _ => NDa)
      have Nb := news_perm Na canonT7
      have NDb := nd_perm NDa canonT7
      clear Na NDa
      k_dflt (refine' use_specE c_push ?kBq ?kFq ?kXq ?kNq ?kTq ?kKq ?kDq ?kdq ?kuq (b, y, _) ?kpq ?_; (case kFq => k_asm); (case kBq => k_asm); (case kXq => k_asm); (case kNq => k_asm); (case kTq => k_asm); (case kKq => first | exact rfl | assumption); (case kDq => assumption); (case kdq => ktr_room); (case kuq => ktr_units); (case kpq => refine' (in_0_4 rfl rfl (by show y.sc.length < 900; omega) (by show y.br.length < 900; omega))))
      refine elq_0_1_2_0_1 ?_
      intro tq h4 tk4 F4 N4 ND4
      (try k_sweep)
      k_steps
      (with_reducible rename Nd _ => NDz)
      refine leaveT_of KtsTurn.refl (by assumption) (by assumption) ?_
      intro h9 T9 F9 N9 B9 X9 P9 D9
      exact ret _ _ _ _ _ T9 F9 N9 B9 X9 P9 D9 NDz (in_9_9 b _ _ ([_]) ts kvs bs _ _ rfl ((I.weak (new := [_])).push hn18 (j := 3) (by decide) hd3) rfl rfl rfl rfl rfl rfl rfl)
    · k_steps
      unfold Hold
      have hcases : ks = [] ∨ ∃ ks' k0, ks = ks' ++ [k0] := by
        rcases List.eq_nil_or_concat ks with h | ⟨a, c, h⟩
        · exact .inl h
        · exact .inr ⟨a, c, by rw [h, List.concat_eq_append]⟩
      (try clear_value ks)
      rcases hcases with rfl | ⟨ks, k0, rfl⟩
      · have hm0 : t.ma = [] := List.eq_nil_of_length_eq_zero (by rw [I.ma.1]; rfl)
        k_dflt (refine' ne_nil_F ?Nq ?h1q ?h2q hm0 ?huq ?_; (case Nq => k_asm); (case h1q => k_mem); (case h2q => k_mem); (case huq => (have hcL := cLine_is; simp only [ktrTop, Around.deeper] at *; omega)))
        k_steps
        (with_reducible rename Nd _ => NDz)
        refine leaveT_of KtsTurn.refl (by assumption) (by assumption) ?_
        intro h9 T9 F9 N9 B9 X9 P9 D9
        have Ne := news_perm N9 canonT5
        have NDe := nd_perm NDz canonT5
        exact ret _ _ _ _ _ T9 F9 Ne B9 X9 P9 D9 NDe (in_9_9 b _ _ ([_, _]) ts kvs bs _ _ rfl ((I.weak (new := [_, _])).keep hn18 (j := 3) (by decide) hd3) rfl rfl rfl rfl rfl rfl rfl)
      · skip
        revert ks k0; exists ks; exists k0; set_option tactic.hygienic false in intros
        obtain ⟨ma', u1, hma1, hma2⟩ := I.ma.last
        revert ma' u1; exists ma'; exists u1; set_option tactic.hygienic false in intros
        obtain ⟨sc', u2, hsc1, hsc2⟩ := I.sc.last
        revert sc' u2; exists sc'; exists u2; set_option tactic.hygienic false in intros
        have hml : 0 < t.ma.length := by rw [hma1]; simp
        have hk0 : k0 ≤ bs.length := I.le k0 (by simp)
        have hscl := hsc2.1
        have hmal := hma2.1
        simp only [List.length_append, List.length_cons, List.length_nil] at q4
        k_dflt (refine' ne_nil_T ?Nq ?h1q ?h2q hml ?huq ?_; (case Nq => k_asm); (case h1q => k_mem); (case h2q => k_mem); (case huq => (have hcL := cLine_is; simp only [ktrTop, Around.deeper] at *; omega)))
        k_steps
        (with_reducible rename News _ _ _ _ => Na)
        (with_reducible rename Nd _ => NDa)
        have Nb := news_perm Na canonT5
        have NDb := nd_perm NDa canonT5
        clear Na NDa
        k_dflt (refine' use_specE c_pop ?kBq ?kFq ?kXq ?kNq ?kTq ?kKq ?kDq ?kdq ?kuq (b, y, _, kvs, sc', k0, u2) ?kpq ?_; (case kFq => k_asm); (case kBq => k_asm); (case kXq => k_asm); (case kNq => k_asm); (case kTq => k_asm); (case kKq => first | exact rfl | assumption); (case kDq => assumption); (case kdq => ktr_room); (case kuq => ktr_units); (case kpq => refine' (in_0_8 rfl rfl hsc1 (by omega) I.inv.fu (I.inv.bro.mono (fun p hp => tm_r (List.mem_cons_of_mem _ (List.mem_cons_of_mem _ hp)))) (by omega) (by omega))))
        refine elq_0_3_3_0_2 ?_
        intro n5 n6 fo hfo h5 tk5 F5 N5 ND5
        (try k_sweep)
        k_steps
        unfold Hold
        (with_reducible rename News _ _ _ _ => Nc)
        (with_reducible rename Nd _ => NDc)
        (with_reducible rename Fr _ _ _ _ => Fc)
        k_dflt (refine' pop_L (p := ma') hma1 Fc Nc ?kUq ?k4q ?_; (case kUq => exact tu_mk (by assumption)); (case k4q => omega))
        intro h6 F6 N6
        (try dsimp only at N6)
        have ND6 := nd_of N6 NDc rfl
        clear Fc Nc NDc
        have hlt' : t.br.length ≤ 1000 := by omega
        k_steps
        unfold Hold
        (with_reducible rename News _ _ _ _ => Nd1)
        (with_reducible rename Nd _ => NDd1)
        (with_reducible rename Fr _ _ _ _ => Fd1)
        have Ne1 := news_perm Nd1 canonT7
        have NDe1 := nd_perm NDd1 canonT7
        clear Nd1 NDd1
        k_dflt (refine' kda_set (knd := PySem.strKind _ _) Fd1 Ne1 (tu_st NDe1) hst (strKind_is _ _ _ _) ?kzq ?_; (case kzq => (rw [sizeLine_eq]; exact Nat.le_of_ble_eq_true rfl)))
        intro h8 o8 F8 N8 hd8
        rw [ss_br] at hd8
        (try dsimp only at N8)
        have ND8 := nd_of N8 NDe1 rfl
        clear Fd1 Ne1 NDe1
        k_steps
        refine leaveT_of KtsTurn.refl (by assumption) (by assumption) ?_
        intro h9 T9 F9 N9 B9 X9 P9 D9
        have Ne := news_perm N9 swap_br
        have NDe := nd_perm ND8 swap_br
        exact ret _ _ _ _ _ T9 F9 Ne B9 X9 P9 D9 NDe (in_9_9 b _ _ ([_, _, _]) ts (kvs.take k0) (bs.take k0) _ _ rfl ((I.weak (new := [_, _, _])).popd hn18 (j := 3) (by decide) hd3 hsc2 hma2 hfo hd8 hslo) rfl rfl rfl rfl rfl rfl rfl)
  refine cut (T := SpecT _root_.Mine.hd.heap_1_39 PySem.Challenge.rw_rg0217_01.row.prog 886 12 (PreAr PySem.Challenge.rw_rg0217_01.row.prog) (PostAr2 PySem.Challenge.rw_rg0217_01.row.prog)) ?_ fun c_are => ?_
  · skip
    clear c_bool_term c_declare_fun c_make c_app c_push c_unbind c_roll_back c_pop c_bind c_bound c_sf c_bring c_fe c_is_defined c_df c_dn c_isb c_symt c_scrape c_deed
    have pmI : PMI := trivial
    k_fill
    refine spec_atT ?_
    refine prod_all ?_
    intro b
    refine prod_all ?_
    intro y
    refine prod_all ?_
    intro t
    refine prod_all ?_
    intro rest
    refine prod_all ?_
    intro el
    refine prod_all ?_
    intro ts
    refine prod_all ?_
    intro kvs
    refine prod_all ?_
    intro bs
    intro xs
    refine at_inT ?_
    intro c0
    generalize c0.w = w; generalize c0.p = p; generalize c0.loose = loose; generalize c0.mean = mean; generalize c0.mg = mg; generalize c0.mb = mb; generalize c0.dp = dp; generalize c0.un = un; generalize c0.gd = gd; generalize c0.cn = cn; generalize c0.cs = cs; generalize c0.a = a; generalize c0.ccd = ccd; generalize c0.cl = cl; generalize c0.outer = outer; generalize c0.A₀ = A₀; generalize c0.base = base; generalize c0.h₀ = h₀; generalize c0.L = L; generalize c0.m = m; generalize c0.s = s; generalize c0.Q = Q; generalize c0.E = E; generalize c0.news = news; generalize c0.vs = vs
    refine sb_inT ?_
    intros hpre
    intros B F X N T hk ND XB TB D hd hu ret
    dsimp only [PreAr] at hpre
    obtain ⟨rfl, rfl, I, hsc, hop⟩ := hpre
    have hfl := I.fl
    have hbr : y.br.length = kvs.length := by rw [I.bro.1, List.length_map]
    have hkl := I.kl
    have hle := I.lets.1
    have htl := I.tl
    refine wpAny_call ?_
    k_dflt (refine' code_defT ?k1q ?k2q ?k3q ?k4q ?k5q ?XBq ?TBq ?Dq ?kAq ?kFq ?kKq ?k6q ?k7q ?k8q ?k9q ?kBq ?_ ?c2q ?c3q ?c4q ?c5q; (case kAq => exact rfl); (case kFq => exact rfl); (case kKq => assumption); (case XBq => assumption); (case TBq => assumption); (case Dq => assumption); (case k1q => k_asm); (case k2q => k_asm); (case k3q => k_asm); (case k4q => k_asm); (case k5q => k_asm); (case k6q => k_is); (case k7q => k_is); (case k8q => ktr_room); (case k9q => exact BindsTo.of_eq rfl); (case c5q => decide); (case kBq => exact locs rfl); (case c2q => exact rfl); (case c3q => exact rfl); (case c4q => exact rfl); k_whole; intro g' L' h' FG' F' N' B' X' T' D'; (try dsimp only); (try k_fold))
    k_steps
    k_dflt (refine' use_specE c_fun_count ?kBq ?kFq ?kXq ?kNq ?kTq ?kKq ?kDq ?kdq ?kuq (b, _) ?kpq ?_; (case kFq => k_asm); (case kBq => k_asm); (case kXq => k_asm); (case kNq => k_asm); (case kTq => k_asm); (case kKq => first | exact rfl | assumption); (case kDq => assumption); (case kdq => ktr_room); (case kuq => ktr_units); (case kpq => refine' (in_0_3 rfl rfl (Nat.lt_trans hfl (by decide)))))
    refine elq_1_1_1_0_1 ?_
    intro tk4 h3 tk3 F3 N3 ND3
    (try k_sweep)
    k_steps
    unfold Hold
    k_dflt (refine' sorted_R2 ?hhq ?Fq ?Nq ?NDq ?hmq I.fu I.lo ?hlq ?_; (case hhq => rfl); (case Fq => k_asm); (case Nq => k_asm); (case NDq => assumption); (case hmq => k_mem); (case hlq => omega))
    intro D1 h5 tk5 vs1 ss1 e1 F5 N5 ND5 hS1 hP1 hO1
    (try k_sweep)
    k_steps
    k_dflt (refine' use_specE c_depth ?kBq ?kFq ?kXq ?kNq ?kTq ?kKq ?kDq ?kdq ?kuq (b, y, _) ?kpq ?_; (case kFq => k_asm); (case kBq => k_asm); (case kXq => k_asm); (case kNq => k_asm); (case kTq => k_asm); (case kKq => first | exact rfl | assumption); (case kDq => assumption); (case kdq => ktr_room); (case kuq => ktr_units); (case kpq => refine' (in_0_4 rfl rfl (by omega) (by have q1 := I.bro.1; rw [List.length_map] at q1; have q2 := I.kl; omega))))
    refine elq_1_1_1_0_1 ?_
    intro tk7 h6 tk6 F6 N6 ND6
    (try k_sweep)
    k_steps
    unfold Hold
    (with_reducible rename News _ _ _ _ => N7)
    (with_reducible rename Nd _ => ND7)
    (with_reducible rename Fr _ _ _ _ => F7)
    rename_i TB _ _
    obtain ⟨mid, hTB, hD1, N8, ND8⟩ := mid2 N7 ND7
    revert mid; exists mid; set_option tactic.hygienic false in intros
    clear N7 ND7
    refine For_tupG (_root_.Mine.hd.heap_1_39 w.params) F7 (by rfl) (by rfl) ?_
    k_steps
    k_dflt (refine' tupG_intro (fun g => KtsTurn ((envX cn cs L a ccd cl :: outer).filterMap (·.frame)) g' g ∧ Below (ktrTop dp un gd cn cs L a ccd cl outer) base (envX cn cs L a ccd cl :: outer) g ∧ (_root_.Mine.hd.heap_1_39 w.params).In g ∧ Top p loose mean mg mb g ∧ KtsDicts ((envX cn cs L a ccd cl :: outer).filterMap (·.frame)) g) (fun i m₁ news₁ => m₁ "bank" = some (.ref b.inst) ∧ m₁ "symbols" = some (.ref y.inst) ∧ m₁ "reader" = some (.ref el) ∧ m₁ "state" = some (.ref t.stA) ∧ m₁ "before" = some (.ref TB) ∧ Nd news₁ ∧ ∃ b₁ new xs₁, news₁ = bled w b₁ ++ (sled w y ++ (tled t ++ (new ++ (mid ++ rest)))) ∧ Inv PySem.Challenge.rw_rg0217_01.row.prog w b₁ y t (new ++ (mid ++ rest)) el ts kvs bs xs₁ ∧ (b.op.length ≤ b₁.op.length ∧ b₁.op.length ≤ b.op.length + 2 * i) ∧ b₁.fn = b.fn ∧ b₁.inst = b.inst) ?hoq ?hhq ?hFq N8 ⟨KtsTurn.refl, B', X', T', D'⟩ (fun g h => h.2.2.1) (fun g b h => h.1.none_ b) ?h0q ?turnq ?doneq; (case hoq => k_is); (case hhq => rfl); (case hFq => k_asm))
    case h0q => exact ⟨by with_unfolding_all rfl, by with_unfolding_all rfl, by with_unfolding_all rfl, by with_unfolding_all rfl, by with_unfolding_all rfl, ND8, b, [], xs, rfl, I.grow (new := mid) (.refl b) (I.bok.mono sub_left), by omega, rfl, rfl⟩
    case turnq =>
      rintro i v m₁ news₁ g h tk It oI hv ⟨hm1, hm2, hm3, hm4, hm5, NDt, b₁, new, xs₁, rfl, I₁, hlen, hfn, hin⟩ ⟨T0, B0, X0, P0, D0⟩ hnI Ft Nt
      obtain ⟨nm, tn, rfl, hnm, hi5⟩ := five_of rfl hv
      revert i m₁ g h tk It oI b₁ new xs₁ nm tn; exists i; exists m₁; exists g; exists h; exists tk; exists It; exists oI; exists b₁; exists new; exists xs₁; exists nm; exists tn; set_option tactic.hygienic false in intros
      have N1 := news_perm Nt canonT1
      have ND1 := nd_perm (nd_consI (p := (It, oI)) NDt hnI) canonT1
      have hop1 : b₁.op.length < 900 := by omega
      have hMM : MapMark m₁ := trivial
      clear Nt N8 ND8 F7 B' X' T' D'
      k_steps
      k_dflt (refine' use_specT c_told ?kBq ?kFq ?kXq ?kNq ?kTq ?kKq ?kDq ?kXBq ?kTBq ?kKDq ?kdq ?kuq (b₁, y, _, new ++ (mid ++ rest), el, nm, tn, ts, kvs, bs, xs₁) ?kpq ?_; (case kFq => k_asm); (case kBq => k_asm); (case kXq => k_asm); (case kNq => k_asm); (case kTq => k_asm); (case kKq => first | exact rfl | assumption); (case kDq => assumption); (case kXBq => assumption); (case kTBq => assumption); (case kKDq => assumption); (case kdq => ktr_room); (case kuq => ktr_units); (case kpq => refine' I₁.pre (fun p hp => tm_r (List.mem_cons_of_mem _ hp)) hnm hop1))
      refine elq_0_5_7_1_0 ?_
      intro b₂ new2 k tk3 xs₂ HB2 hx2 hE2 hle2 hS2 h2 tk2 g2 T2 F2 N2 B2 X2 P2 D2 ND2
      have I₂ := I₁.grow hE2 HB2
      have hge2 := hE2.ge
      have N3 := news_perm N2 canonT2
      have ND3 := nd_perm ND2 canonT2
      have T02 := T0.trans T2
      clear T0 T2 B0 X0 P0 D0 N2 ND2 N1 ND1 Ft
      k_steps
      have hin2 := hE2.inst.trans hin
      have hfn2 := hE2.fns.trans hfn
      k_dflt (refine' use_specE c_due ?kBq ?kFq ?kXq ?kNq ?kTq ?kKq ?kDq ?kdq ?kuq (b₂, y, t, _, nm, tn, ts, bs) ?kpq ?_; (case kFq => k_asm); (case kBq => k_asm); (case kXq => k_asm); (case kNq => k_asm); (case kTq => k_asm); (case kKq => first | exact rfl | assumption); (case kDq => assumption); (case kdq => ktr_room); (case kuq => ktr_units); (case kpq => refine' hin2 ▸ I₂.preDu (fun p hp => List.mem_cons_of_mem _ hp) hnm))
      refine elq_0_7_4_0_1 ?_
      intro new4 TD c d u1 u2 dn hTD hDu h4 tk5 F4 N4 ND4
      have N5 := news_perm N4 canonT3
      have ND5 := nd_perm ND4 canonT3
      clear N4 ND4 F2 N3 ND3
      k_steps
      (with_reducible rename News _ _ _ _ => Nx)
      (with_reducible rename Nd _ => NDx)
      obtain ⟨mm, -, Ny, NDy⟩ := mid1 Nx NDx
      revert mm; exists mm; set_option tactic.hygienic false in intros
      clear Nx NDx
      have I₂' := I₂.grow (new := new4) (.refl b₂) (I₂.bok.mono sub_left)
      have I₃ := I₂'.grow (new := mm) (.refl b₂) (I₂'.bok.mono sub_left)
      have hop2 : b₂.op.length < 900 := by omega
      k_dflt (refine' use_specT c_told ?kBq ?kFq ?kXq ?kNq ?kTq ?kKq ?kDq ?kXBq ?kTBq ?kKDq ?kdq ?kuq (b₂, y, _, mm ++ (new4 ++ (new2 ++ (new ++ (mid ++ rest)))), el, nm, tn, ts, kvs, bs, xs₂) ?kpq ?_; (case kFq => k_asm); (case kBq => k_asm); (case kXq => k_asm); (case kNq => k_asm); (case kTq => k_asm); (case kKq => first | exact rfl | assumption); (case kDq => assumption); (case kXBq => assumption); (case kTBq => assumption); (case kKDq => assumption); (case kdq => ktr_room); (case kuq => ktr_units); (case kpq => refine' I₃.pre (fun p hp => tm_r (List.mem_cons_of_mem _ hp)) hnm hop2))
      refine elq_0_5_7_1_0 ?_
      intro b₅ new5 k2 tk7 xs₅ HB5 hx5 hE5 hle5 hS5 h6' tk6 g6 T6 F6 N6 B6 X6 P6 D6 ND6
      have I₅ := I₃.grow hE5 HB5
      have hge5 := hE5.ge
      have N7 := news_perm N6 canonT2
      have ND7 := nd_perm ND6 canonT2
      have T06 := T02.trans T6
      have hin5 := hE5.inst.trans hin2
      have hfn5 := hE5.fns.trans hfn2
      have hkk := Says.inj I₅.bok (hS2.mono hx5) hS5
      rw [← hkk]
      have hTD' : (TD, tupOf [.int (c : Nat) u1, .int (d : Nat) u2] dn) ∈ new5 ++ (mm ++ (new4 ++ (new2 ++ (new ++ (mid ++ rest))))) := List.mem_append_right _ (List.mem_append_right _ (List.mem_append_left _ hTD))
      clear T02 T6 B2 X2 P2 D2 N6 ND6 Ny NDy
      replace hm1 := hm1
      rw [← hin5] at hm1
      rcases told_due I.kinds hS2 hDu with ⟨hcE, hdE, hk0⟩ | ⟨hcE, hdE⟩ | ⟨hcE, hk0, hK⟩
      · rw [hcE, hdE] at hTD'
        k_steps
        exact GEnd.canon ⟨T06, by assumption, by assumption, by assumption, by assumption⟩ (by assumption) (by assumption) (by assumption) fun q => ⟨by have q1 := hm1; rw [hin5] at q1; with_unfolding_all exact q1, by with_unfolding_all exact hm2, by with_unfolding_all exact hm3, by with_unfolding_all exact hm4, by with_unfolding_all exact hm5, q, b₅, new5 ++ (mm ++ (new4 ++ (new2 ++ new))), xs₅, by simp only [List.append_assoc], by have q2 := I₅; simpa only [List.append_assoc] using q2, by omega, hfn5, hin5⟩
      · rw [hcE] at hTD'
        k_steps
        exact GEnd.canon ⟨T06, by assumption, by assumption, by assumption, by assumption⟩ (by assumption) (by assumption) (by assumption) fun q => ⟨by have q1 := hm1; rw [hin5] at q1; with_unfolding_all exact q1, by with_unfolding_all exact hm2, by with_unfolding_all exact hm3, by with_unfolding_all exact hm4, by with_unfolding_all exact hm5, q, b₅, new5 ++ (mm ++ (new4 ++ (new2 ++ new))), xs₅, by simp only [List.append_assoc], by have q2 := I₅; simpa only [List.append_assoc] using q2, by omega, hfn5, hin5⟩
      · rw [hcE] at hTD'
        have hK5 := hK.mono hx5
        obtain ⟨-, ⟨hlt, ⟨w1, ho1⟩, ⟨aA, ho2, haA⟩, ⟨w3, ho3⟩, w4, ho4⟩⟩ := hK5.term I₅.bok
        obtain ⟨an, haA⟩ := haA.nil
        revert w1 aA w3 w4 an; exists w1; exists aA; exists w3; exists w4; exists an; set_option tactic.hygienic false in intros
        have hk9 : k < 1000 := by omega
        k_steps
        k_dflt (refine' use_specE c_op ?kBq ?kFq ?kXq ?kNq ?kTq ?kKq ?kDq ?kdq ?kuq (b₅, _, k, _) ?kpq ?_; (case kFq => k_asm); (case kBq => k_asm); (case kXq => k_asm); (case kNq => k_asm); (case kTq => k_asm); (case kKq => first | exact rfl | assumption); (case kDq => assumption); (case kdq => ktr_room); (case kuq => ktr_units); (case kpq => refine' (in_0_4 rfl (⟨_, rfl⟩) ho1 hk9)))
        refine elq_0_0_2_0_1 ?_
        intro  h8 tk8 F8 N8 ND8
        (try k_sweep)
        k_steps
        k_dflt (refine' use_specE c_args ?kBq ?kFq ?kXq ?kNq ?kTq ?kKq ?kDq ?kdq ?kuq (b₅, _, k, _) ?kpq ?_; (case kFq => k_asm); (case kBq => k_asm); (case kXq => k_asm); (case kNq => k_asm); (case kTq => k_asm); (case kKq => first | exact rfl | assumption); (case kDq => assumption); (case kdq => ktr_room); (case kuq => ktr_units); (case kpq => refine' (in_0_4 rfl (⟨_, rfl⟩) ho2 hk9)))
        refine elq_0_0_2_0_1 ?_
        intro  h9 tk9 F9 N9 ND9
        (try k_sweep)
        k_steps
        k_dflt (refine' use_specE c_data ?kBq ?kFq ?kXq ?kNq ?kTq ?kKq ?kDq ?kdq ?kuq (b₅, _, k, _) ?kpq ?_; (case kFq => k_asm); (case kBq => k_asm); (case kXq => k_asm); (case kNq => k_asm); (case kTq => k_asm); (case kKq => first | exact rfl | assumption); (case kDq => assumption); (case kdq => ktr_room); (case kuq => ktr_units); (case kpq => refine' (in_0_4 rfl (⟨_, rfl⟩) ho4 hk9)))
        refine elq_0_0_2_0_1 ?_
        intro  h10 tk10 F10 N10 ND10
        (try k_sweep)
        k_steps
        k_dflt (refine' use_specE c_sort ?kBq ?kFq ?kXq ?kNq ?kTq ?kKq ?kDq ?kdq ?kuq (b₅, _, k, _) ?kpq ?_; (case kFq => k_asm); (case kBq => k_asm); (case kXq => k_asm); (case kNq => k_asm); (case kTq => k_asm); (case kKq => first | exact rfl | assumption); (case kDq => assumption); (case kdq => ktr_room); (case kuq => ktr_units); (case kpq => refine' (in_0_4 rfl (⟨_, rfl⟩) ho3 hk9)))
        refine elq_0_0_2_0_1 ?_
        intro  h11 tk11 F11 N11 ND11
        (try k_sweep)
        k_steps
        unfold Hold
        k_dflt (refine' ne_app ?Nq ?h1q ?h2q ?g1q ?g2q ?huq ?_; (case Nq => k_asm); (case h1q => k_mem); (case h2q => k_mem); (case g1q => k_mem); (case g2q => k_mem); (case huq => (have hcL := cLine_is; simp only [ktrTop, Around.deeper] at *; omega)))
        k_steps
        (with_reducible rename News _ _ _ _ => Nz)
        (with_reducible rename Nd _ => NDz)
        obtain ⟨mz, Nz', NDz'⟩ := mid3 Nz NDz
        have I₆ := I₅.grow (new := mz) (.refl b₅) (I₅.bok.mono sub_left)
        exact GEnd.canon ⟨T06, by assumption, by assumption, by assumption, by assumption⟩ (by assumption) Nz' NDz' fun q => ⟨by have q1 := hm1; rw [hin5] at q1; with_unfolding_all exact q1, by with_unfolding_all exact hm2, by with_unfolding_all exact hm3, by with_unfolding_all exact hm4, by with_unfolding_all exact hm5, q, b₅, mz ++ (new5 ++ (mm ++ (new4 ++ (new2 ++ new)))), xs₅, by simp only [List.append_assoc], by have q2 := I₆; simpa only [List.append_assoc] using q2, by omega, hfn5, hin5⟩
    case doneq =>
      rintro g h tk m₁ news₁ ⟨T0, B0, X0, P0, D0⟩ Ft Nt ⟨hm1, hm2, hm3, hm4, hm5, NDt, b₁, new, xs₁, rfl, I₁, hlen, hfn, hin⟩
      revert g h tk m₁ b₁ new xs₁; exists g; exists h; exists tk; exists m₁; exists b₁; exists new; exists xs₁; set_option tactic.hygienic false in intros
      have hMM : MapMark m₁ := trivial
      replace hm1 := hm1
      rw [← hin] at hm1
      have hTB2 := List.mem_append_left rest hTB
      have hD12 := List.mem_append_left rest hD1
      have hl10 : b.op.length ≤ b₁.op.length ∧ b₁.op.length ≤ b.op.length + 10 := hlen
      clear N8 ND8 F7 B' X' T' D' hTB hD1
      k_steps
      k_dflt (refine' use_specE c_fun_count ?kBq ?kFq ?kXq ?kNq ?kTq ?kKq ?kDq ?kdq ?kuq (b₁, _) ?kpq ?_; (case kFq => k_asm); (case kBq => k_asm); (case kXq => k_asm); (case kNq => k_asm); (case kTq => k_asm); (case kKq => first | exact rfl | assumption); (case kDq => assumption); (case kdq => ktr_room); (case kuq => ktr_units); (case kpq => refine' (in_0_3 rfl rfl (Nat.lt_trans (hfn ▸ hfl) (by decide)))))
      refine elq_1_1_1_0_1 ?_
      intro tk4' h3' tk3 F3 N3 ND3'
      (try dsimp only)
      rw [hfn]
      (try k_sweep)
      k_steps
      unfold Hold
      k_dflt (refine' sorted_R2 ?hhq ?Fq ?Nq ?NDq ?hmq I.fu I.lo ?hlq ?_; (case hhq => rfl); (case Fq => k_asm); (case Nq => k_asm); (case NDq => assumption); (case hmq => k_mem); (case hlq => omega))
      intro D2 h5' tk5' vs2 ss2 e2 F5' N5' ND5' hS2 hP2 hO2
      (try k_sweep)
      k_steps
      k_dflt (refine' use_specE c_depth ?kBq ?kFq ?kXq ?kNq ?kTq ?kKq ?kDq ?kdq ?kuq (b₁, y, _) ?kpq ?_; (case kFq => k_asm); (case kBq => k_asm); (case kXq => k_asm); (case kNq => k_asm); (case kTq => k_asm); (case kKq => first | exact rfl | assumption); (case kDq => assumption); (case kdq => ktr_room); (case kuq => ktr_units); (case kpq => refine' (in_0_4 rfl rfl (by omega) (by have q1 := I.bro.1; rw [List.length_map] at q1; have q2 := I.kl; omega))))
      refine elq_1_1_1_0_1 ?_
      intro tk7' h6' tk6' F6' N6' ND6'
      (try k_sweep)
      k_steps
      unfold Hold
      have hss := sorted_uniq I.names hP1 hP2 hO1 hO2
      rw [← hss] at hS2
      k_dflt (refine' eq_before ?Nq ?h1q ?h2q ?g1q ?g2q hS1 hS2 ?huq ?_; (case Nq => k_asm); (case h1q => k_mem); (case h2q => k_mem); (case g1q => k_mem); (case g2q => k_mem); (case huq => (have hcL := cLine_is; simp only [ktrTop, Around.deeper] at *; omega)))
      k_steps
      (with_reducible rename Nd _ => NDz)
      refine leaveT_of T0 (by assumption) (by assumption) ?_
      intro h9 T9 F9 N9 B9 X9 P9 D9
      obtain ⟨mz, -, -, Nz, NDz'⟩ := mid2 N9 NDz
      have I₂ := I₁.grow (new := mz) (.refl b₁) (I₁.bok.mono sub_left)
      exact ret _ _ _ _ _ T9 F9 Nz B9 X9 P9 D9 NDz' (in_3_5 b₁ (mz ++ (new ++ mid)) xs₁ (by simp only [List.append_assoc]) (by simpa only [List.append_assoc] using I₂) hl10 hfn rfl)
  refine cut (T := Spec _root_.Mine.hd.heap_1_39 PySem.Challenge.rw_rg0217_01.row.prog 400 2 PreBi (PostBi PySem.Challenge.rw_rg0217_01.row.prog)) ?_ fun c_bi => ?_
  · skip
    clear c_fun_count c_op c_args c_sort c_data c_bool_term c_declare_fun c_make c_app c_depth c_push c_unbind c_roll_back c_pop c_bind c_bound c_sf c_bring c_fe c_is_defined c_df c_dn c_isb c_due c_symt c_told c_scrape c_deed c_are
    have pmPMA : PMA := trivial
    have pmPMB : PMB := trivial
    have pmPMC : PMC := trivial
    have pmI : PMI := trivial
    k_fill
    refine spec_at ?_
    intro x
    refine at_in ?_
    intro c0
    generalize c0.w = w; generalize c0.p = p; generalize c0.loose = loose; generalize c0.mean = mean; generalize c0.mg = mg; generalize c0.mb = mb; generalize c0.dp = dp; generalize c0.un = un; generalize c0.gd = gd; generalize c0.cn = cn; generalize c0.cs = cs; generalize c0.a = a; generalize c0.ccd = ccd; generalize c0.cl = cl; generalize c0.outer = outer; generalize c0.A₀ = A₀; generalize c0.base = base; generalize c0.h₀ = h₀; generalize c0.L = L; generalize c0.m = m; generalize c0.s = s; generalize c0.Q = Q; generalize c0.E = E; generalize c0.news = news; generalize c0.vs = vs
    refine sb_in ?_
    intros hpre
    intros B F X N T hk ND hd hu ret
    dsimp only [PreBi] at hpre
    subst hpre
    have hcL := cLine_is
    have hcu : ∀ vs, (Code.builtin "type.__call__" vs).cUnits = 1 := fun _ => rfl
    k_dflt (refine' call_cls ?k1q ?k2q ?k3q ?k4q ?k5q ?k6q ?_; (case k1q => k_asm); (case k2q => k_asm); (case k3q => k_asm); (case k4q => k_is); (case k5q => k_is); (case k6q => k_is))
    intro i j h1 F1 N1 l1 l2
    have ND1 : Nd ((i, instObj 400 j) :: (j, dictOf [] 0) :: news) := nd_cons (nd_cons ND l1) (by
      intros p hp
      rcases List.mem_cons.mp hp with rfl | hp
      · exact l2
      · exact Nat.lt_trans (l1 p hp) l2)
    k_dflt ktr_enter
    k_steps
    unfold Hold
    refine wpAny_call ?_
    k_dflt (refine' code_def ?k1q ?k2q ?k3q ?k4q ?k5q ?kAq ?kFq ?kKq ?k6q ?k7q ?k8q ?k9q ?kBq ?_ ?c2q ?c3q ?c4q ?c5q; (case kAq => exact rfl); (case kFq => exact rfl); (case kKq => exact rfl); (case k1q => k_asm); (case k2q => k_asm); (case k3q => k_asm); (case k4q => k_asm); (case k5q => k_asm); (case k6q => k_is); (case k7q => k_is); (case k8q => ktr_room); (case k9q => exact BindsTo.of_eq rfl); (case c5q => decide); (case kBq => exact locs rfl); (case c2q => exact rfl); (case c3q => exact rfl); (case c4q => exact rfl); k_whole; intro g' L' h' FG' F' N' B' X' T'; (try dsimp only); (try k_fold))
    k_steps
    (with_reducible rename News _ _ _ _ => Na)
    (with_reducible rename Nd _ => NDa)
    (with_reducible rename Obj.IsDictOf _ _ _ => hd0)
    have H0 := HD_nil hd0
    k_dflt (refine' get_T (r := []) (xs := []) (k := ⟨"true", [], 0, 0⟩) Na ?k2q H0 (fun x hx => nomatch hx) (fun p hp => nomatch hp) ?k5q ?loq ?k6q ?_; (case k2q => k_mem); (case loq => assumption); (case k5q => (simp only [ktrTop, Around.deeper, Around.under, hcu] at *; omega)); (case k6q => exact ⟨_, _, _, _, _, List.mem_cons_self, _, _, List.mem_cons_of_mem _ List.mem_cons_self, .nil⟩))
    intro tkG
    rw [show atKey ([] : List (TKey × Addr × Value)) ⟨"true", [], 0, 0⟩ = none from rfl]
    simp only [Option.map_none, Option.getD_none]
    k_steps
    unfold Hold
    (with_reducible rename News _ _ _ _ => Nb)
    (with_reducible rename Nd _ => NDb)
    (with_reducible rename Fr _ _ _ _ => Fb)
    k_dflt (refine' set_T (r := []) (k := ⟨"true", [], 0, 0⟩) Fb Nb ?k2q (updF_nd (pre := [_, _]) NDb) H0 (fun x hx => nomatch hx) (fun p hp => nomatch hp) ?k5q ?k6q rfl ?k7q ?_; (case k2q => k_mem); (case k5q => (simp only [ktrTop, Around.deeper, Around.under, hcu] at *; omega)); (case k6q => exact ⟨_, _, _, _, _, List.mem_cons_self, _, _, List.mem_cons_of_mem _ List.mem_cons_self, .nil⟩); (case k7q => exact Nat.le_of_ble_eq_true rfl))
    intro h3 o3 tk3 F3 N3 H3
    dsimp only [List.cons_append, List.nil_append] at N3 H3
    have ND3 := nd_of N3 NDb rfl
    clear Nb NDb Fb
    k_steps
    unfold Hold
    refine wpAny_call ?_
    k_dflt (refine' code_def ?k1q ?k2q ?k3q ?k4q ?k5q ?kAq ?kFq ?kKq ?k6q ?k7q ?k8q ?k9q ?kBq ?_ ?c2q ?c3q ?c4q ?c5q; (case kAq => exact rfl); (case kFq => exact rfl); (case kKq => exact rfl); (case k1q => k_asm); (case k2q => k_asm); (case k3q => k_asm); (case k4q => k_asm); (case k5q => k_asm); (case k6q => k_is); (case k7q => k_is); (case k8q => ktr_room); (case k9q => exact BindsTo.of_eq rfl); (case c5q => decide); (case kBq => exact locs rfl); (case c2q => exact rfl); (case c3q => exact rfl); (case c4q => exact rfl); k_whole; intro g' L' h' FG' F' N' B' X' T'; (try dsimp only); (try k_fold))
    k_steps
    (with_reducible rename News _ _ _ _ => Nc)
    (with_reducible rename Nd _ => NDc)
    (try dsimp only [List.nil_append] at H3)
    k_dflt (refine' get_T (k := ⟨"false", [], 0, 0⟩) Nc ?k2q H3 ?kkq (fun p hp => hp) ?k5q ?loq ?k6q ?_; (case k2q => k_mem); (case loq => assumption); (case k5q => (simp only [ktrTop, Around.deeper, Around.under, hcu] at *; omega)); (case k6q => exact ⟨_, _, _, _, _, List.mem_cons_self, _, _, List.mem_cons_of_mem _ List.mem_cons_self, .nil⟩); (case kkq => (intros x hx; rw [List.mem_singleton.mp hx]; exact ⟨_, _, _, _, _, List.mem_cons_of_mem _ (List.mem_cons_of_mem _ List.mem_cons_self), _, _, List.mem_cons_of_mem _ (List.mem_cons_of_mem _ (List.mem_cons_of_mem _ List.mem_cons_self)), .nil⟩)))
    intro tkG
    have hat : ∀ (a : Addr) (v : Value), atKey [((⟨"true", [], 0, 0⟩ : TKey), a, v)] ⟨"false", [], 0, 0⟩ = none := fun _ _ => rfl
    rw [hat]
    simp only [Option.map_none, Option.getD_none]
    k_steps
    unfold Hold
    (with_reducible rename News _ _ _ _ => Nb)
    (with_reducible rename Nd _ => NDb)
    (with_reducible rename Fr _ _ _ _ => Fb)
    k_dflt (refine' set_T (k := ⟨"false", [], 0, 0⟩) Fb Nb ?k2q (updF_nd (pre := [_, _, _, _]) NDb) H3 ?kkq (fun p hp => hp) ?k5q ?k6q rfl ?k7q ?_; (case k2q => k_mem); (case k5q => (simp only [ktrTop, Around.deeper, Around.under, hcu] at *; omega)); (case k6q => exact ⟨_, _, _, _, _, List.mem_cons_self, _, _, List.mem_cons_of_mem _ List.mem_cons_self, .nil⟩); (case k7q => exact Nat.le_of_ble_eq_true rfl); (case kkq => (intros x hx; rw [List.mem_singleton.mp hx]; exact ⟨_, _, _, _, _, List.mem_cons_of_mem _ (List.mem_cons_of_mem _ List.mem_cons_self), _, _, List.mem_cons_of_mem _ (List.mem_cons_of_mem _ (List.mem_cons_of_mem _ List.mem_cons_self)), .nil⟩)))
    intro h4 o4 tk4 F4 N4 H4
    dsimp only [List.cons_append, List.nil_append] at N4 H4
    have ND4 := nd_of N4 NDb rfl
    clear Nb NDb Fb
    k_steps
    (with_reducible rename News _ _ _ _ => N9)
    (with_reducible rename Nd _ => ND9)
    obtain ⟨b, new, xs, e0, N10, ND10, hB, hkt, hkf, hf1, hf2, hf3, hop⟩ := bi_end N9 (nd_same ND9 rfl) H4 (by assumption) rfl rfl rfl
    exact ret _ _ _ _ (by assumption) N10 ND10 (in_3_9 b new xs (by rw [e0]) rfl hB hkt hkf hf1 hf2 hf3 hop)
  refine cut (T := Spec _root_.Mine.hd.heap_1_39 PySem.Challenge.rw_rg0217_01.row.prog 154 3 (PreFc PySem.Challenge.rw_rg0217_01.row.prog) (PostFc PySem.Challenge.rw_rg0217_01.row.prog)) ?_ fun c_fc => ?_
  · skip
    clear c_fun_count c_op c_args c_sort c_data c_bool_term c_app c_depth c_push c_unbind c_roll_back c_pop c_bind c_bound c_sf c_bring c_fe c_is_defined c_df c_dn c_isb c_due c_symt c_told c_scrape c_deed c_are c_bi
    have pmI : PMI := trivial
    k_fill
    refine spec_at ?_
    refine prod_all ?_
    intro b
    refine prod_all ?_
    intro rest
    refine prod_all ?_
    intro r0
    refine prod_all ?_
    intro nm
    refine prod_all ?_
    intro t1
    refine prod_all ?_
    intro so
    refine prod_all ?_
    intro t2
    intro xs
    refine at_in ?_
    intro c0
    generalize c0.w = w; generalize c0.p = p; generalize c0.loose = loose; generalize c0.mean = mean; generalize c0.mg = mg; generalize c0.mb = mb; generalize c0.dp = dp; generalize c0.un = un; generalize c0.gd = gd; generalize c0.cn = cn; generalize c0.cs = cs; generalize c0.a = a; generalize c0.ccd = ccd; generalize c0.cl = cl; generalize c0.outer = outer; generalize c0.A₀ = A₀; generalize c0.base = base; generalize c0.h₀ = h₀; generalize c0.L = L; generalize c0.m = m; generalize c0.s = s; generalize c0.Q = Q; generalize c0.E = E; generalize c0.news = news; generalize c0.vs = vs
    refine sb_in ?_
    intros hpre
    intros B F X N T hk ND hd hu ret
    dsimp only [PreFc] at hpre
    obtain ⟨rfl, rfl, hsub, HB, l1, l2, l3, l4⟩ := hpre
    refine wpAny_call ?_
    k_dflt ktr_enter
    k_steps
    k_dflt (refine' use_specE c_declare_fun ?kBq ?kFq ?kXq ?kNq ?kTq ?kKq ?kDq ?kdq ?kuq (b, _, _, _, _, [], 0, _, _) ?kpq ?_; (case kFq => k_asm); (case kBq => k_asm); (case kXq => k_asm); (case kNq => k_asm); (case kTq => k_asm); (case kKq => first | exact rfl | assumption); (case kDq => assumption); (case kdq => ktr_room); (case kuq => ktr_units); (case kpq => refine' (in_0_6 rfl rfl List.mem_cons_self l1 l2 l3)))
    refine elq_1_1_1_0_1 ?_
    intro tq h3 tk3 F3 N3 ND3
    (try k_sweep)
    k_steps
    k_dflt (refine' use_specE c_make ?kBq ?kFq ?kXq ?kNq ?kTq ?kKq ?kDq ?kdq ?kuq (_, _, _ :: r0, _, _, _, [], _, _, _, _, xs) ?kpq ?_; (case kFq => k_asm); (case kBq => k_asm); (case kXq => k_asm); (case kNq => k_asm); (case kTq => k_asm); (case kKq => first | exact rfl | assumption); (case kDq => assumption); (case kdq => ktr_room); (case kuq => ktr_units); (case kpq => refine' (in_0_6 rfl ((fun p hp => by rcases List.mem_cons.mp hp with rfl | hp; exact List.mem_cons_of_mem _ List.mem_cons_self; exact List.mem_cons_of_mem _ (List.mem_cons_of_mem _ (hsub p hp)))) rfl (⟨[], 0, List.mem_cons_self, .nil⟩) (⟨HB.hd, fun z hz => (HB.keys z hz).mono (fun p hp => List.mem_cons_of_mem _ hp), fun z hz => let ⟨n, t, e, p, q⟩ := HB.vals z hz; ⟨n, t, e, p, (let ⟨u1, u2, ⟨ua, u3, u4⟩, u5, u6⟩ := q; ⟨u1, u2, ⟨ua, u3, u4.mono (fun p hp => List.mem_cons_of_mem _ hp)⟩, u5, u6⟩)⟩, HB.lo, HB.len, HB.lar, HB.lso, HB.lda, HB.pos⟩) l4)))
    refine elq_0_5_8_2_0 ?_
    intro b' new n t xs' hn hB' hK hs hE hle h4 tk4 F4 N4 ND4
    have hin := hE.inst
    have hfn := hE.fns
    obtain ⟨hfa, hfr⟩ := hE.fas
    (try k_sweep)
    k_steps
    exact ret _ _ _ _ (by assumption) (by assumption) (by assumption) ⟨b', new ++ [_, _], n, t, xs', rfl, fin1, hB'.mono (fun p hp => by
      rcases List.mem_append.mp hp with hp | hp
      · exact List.mem_append_left _ (List.mem_append_left _ hp)
      · rcases List.mem_cons.mp hp with rfl | hp
        · exact List.mem_append_left _ (List.mem_append_right _ (List.mem_cons_of_mem _ List.mem_cons_self))
        · exact List.mem_append_right _ hp), hK, hs, hin, by rw [hfn]; simp, by rw [hfa]; simp, by rw [hfr]; simp, hle⟩
  refine cut (T := Spec _root_.Mine.hd.heap_1_39 PySem.Challenge.rw_rg0217_01.row.prog 252 1 PreWa (fun _ _ news news' r => news' = news ∧ r = .none)) ?_ fun c_want => ?_
  · skip
    clear c_fun_count c_op c_args c_sort c_data c_bool_term c_declare_fun c_make c_app c_depth c_push c_unbind c_roll_back c_pop c_bind c_bound c_sf c_bring c_fe c_is_defined c_df c_dn c_isb c_due c_symt c_told c_scrape c_deed c_are c_bi c_fc
    have pmI : PMI := trivial
    k_fill
    refine spec_at ?_
    refine prod_all ?_
    intro b
    refine prod_all ?_
    intro rest
    refine prod_all ?_
    intro k
    refine prod_all ?_
    intro t1
    refine prod_all ?_
    intro so
    refine prod_all ?_
    intro t2
    refine prod_all ?_
    intro t3
    refine prod_all ?_
    intro wh
    intro t4
    refine at_in ?_
    intro c0
    generalize c0.w = w; generalize c0.p = p; generalize c0.loose = loose; generalize c0.mean = mean; generalize c0.mg = mg; generalize c0.mb = mb; generalize c0.dp = dp; generalize c0.un = un; generalize c0.gd = gd; generalize c0.cn = cn; generalize c0.cs = cs; generalize c0.a = a; generalize c0.ccd = ccd; generalize c0.cl = cl; generalize c0.outer = outer; generalize c0.A₀ = A₀; generalize c0.base = base; generalize c0.h₀ = h₀; generalize c0.L = L; generalize c0.m = m; generalize c0.s = s; generalize c0.Q = Q; generalize c0.E = E; generalize c0.news = news; generalize c0.vs = vs
    refine sb_in ?_
    intros hpre
    intros B F X N T hk ND hd hu ret
    dsimp only [PreWa] at hpre
    obtain ⟨rfl, rfl, hs, hk⟩ := hpre
    refine wpAny_call ?_
    k_dflt ktr_enter
    k_steps
    exact ret _ _ _ _ (by assumption) (by assumption) ND ⟨rfl, rfl⟩
  refine cut (T := Spec _root_.Mine.hd.heap_1_39 PySem.Challenge.rw_rg0217_01.row.prog 315 3 (PreNo PySem.Challenge.rw_rg0217_01.row.prog) (fun w x _ news' r => Made PySem.Challenge.rw_rg0217_01.row.prog w x.1 x.2.1 x.2.2.1 x.2.2.2.2.2.2 ⟨"not", [(x.2.2.2.1 : Nat)], 0, 0⟩ news' r)) ?_ fun c_not => ?_
  · skip
    clear c_fun_count c_op c_args c_sort c_data c_bool_term c_declare_fun c_app c_depth c_push c_unbind c_roll_back c_pop c_bind c_bound c_sf c_bring c_fe c_is_defined c_df c_dn c_isb c_due c_symt c_told c_scrape c_deed c_are c_bi c_fc
    have pmI : PMI := trivial
    k_fill
    refine spec_at ?_
    refine prod_all ?_
    intro b
    refine prod_all ?_
    intro rest
    refine prod_all ?_
    intro r0
    refine prod_all ?_
    intro k
    refine prod_all ?_
    intro t1
    refine prod_all ?_
    intro f
    intro xs
    refine at_in ?_
    intro c0
    generalize c0.w = w; generalize c0.p = p; generalize c0.loose = loose; generalize c0.mean = mean; generalize c0.mg = mg; generalize c0.mb = mb; generalize c0.dp = dp; generalize c0.un = un; generalize c0.gd = gd; generalize c0.cn = cn; generalize c0.cs = cs; generalize c0.a = a; generalize c0.ccd = ccd; generalize c0.cl = cl; generalize c0.outer = outer; generalize c0.A₀ = A₀; generalize c0.base = base; generalize c0.h₀ = h₀; generalize c0.L = L; generalize c0.m = m; generalize c0.s = s; generalize c0.Q = Q; generalize c0.E = E; generalize c0.news = news; generalize c0.vs = vs
    refine sb_in ?_
    intros hpre
    intros B F X N T hk ND hd hu ret
    dsimp only [PreNo] at hpre
    obtain ⟨rfl, rfl, hsub, HB, hK, hT, hF, hl⟩ := hpre
    have n1 := not_lit HB hK hT (show ("app" : Str) ≠ "true" by decide)
    have n2 := not_lit HB hK hF (show ("app" : Str) ≠ "false" by decide)
    obtain ⟨hk0, hk1, ⟨to, ho⟩, ha, ⟨ts, hso⟩, hda⟩ := hK.term HB
    revert to ts; exists to; exists ts; set_option tactic.hygienic false in intros
    dsimp only at ho hso
    have l3 := HB.lso
    refine wpAny_call ?_
    k_dflt ktr_enter
    k_steps
    k_dflt (refine' use_specE c_want ?kBq ?kFq ?kXq ?kNq ?kTq ?kKq ?kDq ?kdq ?kuq (b, _, k, _, 0, _, ts, _, _) ?kpq ?_; (case kFq => k_asm); (case kBq => k_asm); (case kXq => k_asm); (case kNq => k_asm); (case kTq => k_asm); (case kKq => first | exact rfl | assumption); (case kDq => assumption); (case kdq => ktr_room); (case kuq => ktr_units); (case kpq => refine' (in_0_4 rfl rfl hso (by omega))))
    intro news3 r3 hpost
    obtain ⟨rfl, rfl⟩ := hpost
    intro h3 tk3 F3 N3 ND3
    (try k_sweep)
    k_steps
    k_dflt (refine' use_specE c_make ?kBq ?kFq ?kXq ?kNq ?kTq ?kKq ?kDq ?kdq ?kuq (b, _ :: rest, _ :: r0, _, _, _, [(k : Nat)], _, _, _, _, xs) ?kpq ?_; (case kFq => k_asm); (case kBq => k_asm); (case kXq => k_asm); (case kNq => k_asm); (case kTq => k_asm); (case kKq => first | exact rfl | assumption); (case kDq => assumption); (case kdq => ktr_room); (case kuq => ktr_units); (case kpq => refine' (in_0_6 rfl ((fun p hp => by rcases List.mem_cons.mp hp with rfl | hp; exact List.mem_cons_self; exact List.mem_cons_of_mem _ (hsub p hp))) rfl (⟨_, 0, List.mem_cons_self, .cons _ _ .nil⟩) (HB.mono (fun p hp => List.mem_cons_of_mem _ hp)) (by omega))))
    intro news4 r4 hpost
    intro h4 tk4 F4 N4 ND4
    (try k_sweep)
    have hM := Made.cons hpost
    obtain ⟨b', new, n', t', xs', rfl, hn, rfl, hB', hT', hE, hle⟩ := hpost
    k_steps
    exact ret _ _ _ _ (by assumption) (by assumption) (by assumption) hM
  refine cut (T := Spec _root_.Mine.hd.heap_1_39 PySem.Challenge.rw_rg0217_01.row.prog 322 4 (PreAn PySem.Challenge.rw_rg0217_01.row.prog) (fun w x _ news' r => Made PySem.Challenge.rw_rg0217_01.row.prog w x.1 x.2.1 x.2.2.1 x.2.2.2.2.2.2.2.2.2.2.2 ⟨"and", [(x.2.2.2.2.2.1 : Nat), (x.2.2.2.2.2.2.2.2.1 : Nat)], 0, 0⟩ news' r)) ?_ fun c_and => ?_
  · skip
    clear c_fun_count c_op c_args c_sort c_data c_bool_term c_declare_fun c_app c_depth c_push c_unbind c_roll_back c_pop c_bind c_bound c_sf c_bring c_fe c_is_defined c_df c_dn c_isb c_due c_symt c_told c_scrape c_deed c_are c_bi c_fc c_want c_not
    have pmI : PMI := trivial
    k_fill
    refine spec_at ?_
    refine prod_all ?_
    intro b
    refine prod_all ?_
    intro rest
    refine prod_all ?_
    intro r0
    refine prod_all ?_
    intro a'
    refine prod_all ?_
    intro n
    refine prod_all ?_
    intro k1
    refine prod_all ?_
    intro t1
    refine prod_all ?_
    intro s1
    refine prod_all ?_
    intro k2
    refine prod_all ?_
    intro t2
    refine prod_all ?_
    intro s2
    intro xs
    refine at_in ?_
    intro c0
    generalize c0.w = w; generalize c0.p = p; generalize c0.loose = loose; generalize c0.mean = mean; generalize c0.mg = mg; generalize c0.mb = mb; generalize c0.dp = dp; generalize c0.un = un; generalize c0.gd = gd; generalize c0.cn = cn; generalize c0.cs = cs; generalize c0.a = a; generalize c0.ccd = ccd; generalize c0.cl = cl; generalize c0.outer = outer; generalize c0.A₀ = A₀; generalize c0.base = base; generalize c0.h₀ = h₀; generalize c0.L = L; generalize c0.m = m; generalize c0.s = s; generalize c0.Q = Q; generalize c0.E = E; generalize c0.news = news; generalize c0.vs = vs
    refine sb_in ?_
    intros hpre
    intros B F X N T hk ND hd hu ret
    dsimp only [PreAn] at hpre
    obtain ⟨rfl, rfl, hm, hsub, HB, hs1, hs2, hk1, hk2, hl⟩ := hpre
    refine wpAny_call ?_
    k_dflt ktr_enter
    k_steps
    unfold Hold
    refine wpAny_call ?_
    k_dflt (refine' code_def ?k1q ?k2q ?k3q ?k4q ?k5q ?kAq ?kFq ?kKq ?k6q ?k7q ?k8q ?k9q ?kBq ?_ ?c2q ?c3q ?c4q ?c5q; (case kAq => exact rfl); (case kFq => exact rfl); (case kKq => exact rfl); (case k1q => k_asm); (case k2q => k_asm); (case k3q => k_asm); (case k4q => k_asm); (case k5q => k_asm); (case k6q => k_is); (case k7q => k_is); (case k8q => ktr_room); (case k9q => exact BindsTo.of_eq rfl); (case c5q => decide); (case kBq => exact locs rfl); (case c2q => exact rfl); (case c3q => exact rfl); (case c4q => exact rfl); k_whole; intro g' L' h' FG' F' N' B' X' T'; (try dsimp only); (try k_fold))
    k_steps
    unfold Hold
    (with_reducible rename Fr _ _ _ _ => F2)
    with_unfolding_all refine For_invVF F2 (by rfl) (by rfl) ?_
    k_steps
    unfold Hold
    (with_reducible rename News _ _ _ _ => N3)
    (with_reducible rename Fr _ _ _ _ => F3)
    refine list_loop (xs := [.int (k1 : Nat) t1, .int (k2 : Nat) t2]) (fun i m₁ news₁ => m₁ "self" = some (.ref b.inst) ∧ (∃ u, m₁ "s" = some (.int 0 u)) ∧ (∃ u, m₁ "where" = some (.str "and" u)) ∧ news₁ = bled w b ++ rest) (by rfl) F3 N3 (bm_r hm) ⟨by with_unfolding_all rfl, ⟨_, by with_unfolding_all rfl⟩, ⟨_, by with_unfolding_all rfl⟩, rfl⟩ ?_ ?_
    · rintro i v m₁ news₁ h₁ tk₁ own hv hadr ⟨hm1, ⟨u1, hm2⟩, ⟨u2, hm3⟩, rfl⟩ hown F4 N4
      have hMM : MapMark m₁ := trivial
      have hv' : ∃ (k : Nat) (t : Tok) (sx : Tok), v = .int (k : Nat) t ∧ b.so[k]? = some (.int 0 sx) ∧ k < 800 := by
        match i, hv with
        | 0, h => cases h; exact ⟨_, _, _, rfl, hs1, hk1⟩
        | 1, h => cases h; exact ⟨_, _, _, rfl, hs2, hk2⟩
        | n + 2, h => simp at h
      obtain ⟨k, tk9, sx, rfl, hso, hk9⟩ := hv'
      revert i m₁ h₁ tk₁ own u1 u2 k tk9 sx; exists i; exists m₁; exists h₁; exists tk₁; exists own; exists u1; exists u2; exists k; exists tk9; exists sx; set_option tactic.hygienic false in intros
      clear F3 N3
      k_steps
      unfold Hold
      refine wpAny_call ?_
      k_dflt (refine' code_def ?k1q ?k2q ?k3q ?k4q ?k5q ?kAq ?kFq ?kKq ?k6q ?k7q ?k8q ?k9q ?kBq ?_ ?c2q ?c3q ?c4q ?c5q; (case kAq => exact rfl); (case kFq => exact rfl); (case kKq => exact rfl); (case k1q => k_asm); (case k2q => k_asm); (case k3q => k_asm); (case k4q => k_asm); (case k5q => k_asm); (case k6q => k_is); (case k7q => k_is); (case k8q => ktr_room); (case k9q => exact BindsTo.of_eq rfl); (case c5q => decide); (case kBq => exact locs rfl); (case c2q => exact rfl); (case c3q => exact rfl); (case c4q => exact rfl); k_whole; intro g' L' h' FG' F' N' B' X' T'; (try dsimp only); (try k_fold))
      k_steps
      exact TEnd.intro (by assumption) (by assumption) (by exact hadr) ⟨by with_unfolding_all exact hm1, ⟨u1, by with_unfolding_all exact hm2⟩, ⟨u2, by with_unfolding_all exact hm3⟩, rfl⟩
    · rintro m' news' h₂ tk₂ ⟨hm1, ⟨u1, hm2⟩, ⟨u2, hm3⟩, rfl⟩ hadr F4 N4
      revert m' h₂ tk₂ u1 u2; exists m'; exists h₂; exists tk₂; exists u1; exists u2; set_option tactic.hygienic false in intros
      have hMM : MapMark m' := trivial
      clear F3 N3
      k_steps
      k_dflt (refine' use_specE c_make ?kBq ?kFq ?kXq ?kNq ?kTq ?kKq ?kDq ?kdq ?kuq (b, _ :: rest, _ :: r0, _, _, _, [(k1 : Nat), (k2 : Nat)], _, _, _, _, xs) ?kpq ?_; (case kFq => k_asm); (case kBq => k_asm); (case kXq => k_asm); (case kNq => k_asm); (case kTq => k_asm); (case kKq => first | exact rfl | assumption); (case kDq => assumption); (case kdq => ktr_room); (case kuq => ktr_units); (case kpq => refine' (in_0_6 rfl ((fun p hp => by rcases List.mem_cons.mp hp with rfl | hp; exact List.mem_cons_self; exact List.mem_cons_of_mem _ (hsub p hp))) rfl (⟨_, 0, List.mem_cons_self, .cons _ _ (.cons _ _ .nil)⟩) (HB.mono (fun p hp => List.mem_cons_of_mem _ hp)) (by omega))))
      intro news4 r4 hpost
      intro h4 tk4 F4 N4 ND4
      (try k_sweep)
      have hM := Made.cons hpost
      obtain ⟨b', new, n', t', xs', rfl, hn, rfl, hB', hT', hE, hle⟩ := hpost
      k_steps
      exact ret _ _ _ _ (by assumption) (by assumption) (by assumption) hM
  refine cut (T := Spec _root_.Mine.hd.heap_1_39 PySem.Challenge.rw_rg0217_01.row.prog 558 3 PreSyi (PostSyi PySem.Challenge.rw_rg0217_01.row.prog)) ?_ fun c_syi => ?_
  · skip
    clear c_fun_count c_op c_args c_sort c_data c_bool_term c_declare_fun c_make c_app c_depth c_push c_unbind c_roll_back c_pop c_bind c_bound c_sf c_bring c_fe c_is_defined c_df c_dn c_isb c_due c_symt c_told c_scrape c_deed c_are c_bi c_fc c_want c_not c_and
    have pmPMA : PMA := trivial
    have pmPMB : PMB := trivial
    have pmI : PMI := trivial
    k_fill
    refine spec_at ?_
    intro x
    refine at_in ?_
    intro c0
    generalize c0.w = w; generalize c0.p = p; generalize c0.loose = loose; generalize c0.mean = mean; generalize c0.mg = mg; generalize c0.mb = mb; generalize c0.dp = dp; generalize c0.un = un; generalize c0.gd = gd; generalize c0.cn = cn; generalize c0.cs = cs; generalize c0.a = a; generalize c0.ccd = ccd; generalize c0.cl = cl; generalize c0.outer = outer; generalize c0.A₀ = A₀; generalize c0.base = base; generalize c0.h₀ = h₀; generalize c0.L = L; generalize c0.m = m; generalize c0.s = s; generalize c0.Q = Q; generalize c0.E = E; generalize c0.news = news; generalize c0.vs = vs
    refine sb_in ?_
    intros hpre
    intros B F X N T hk ND hd hu ret
    dsimp only [PreSyi] at hpre
    subst hpre
    k_dflt (refine' call_cls ?k1q ?k2q ?k3q ?k4q ?k5q ?k6q ?_; (case k1q => k_asm); (case k2q => k_asm); (case k3q => k_asm); (case k4q => k_is); (case k5q => k_is); (case k6q => k_is))
    intro i j h1 F1 N1 l1 l2
    have ND1 : Nd ((i, instObj 558 j) :: (j, dictOf [] 0) :: news) := nd_cons (nd_cons ND l1) (by
      intros p hp
      rcases List.mem_cons.mp hp with rfl | hp
      · exact l2
      · exact Nat.lt_trans (l1 p hp) l2)
    k_dflt ktr_enter
    k_steps
    unfold Hold
    refine wpAny_call ?_
    k_dflt (refine' code_def ?k1q ?k2q ?k3q ?k4q ?k5q ?kAq ?kFq ?kKq ?k6q ?k7q ?k8q ?k9q ?kBq ?_ ?c2q ?c3q ?c4q ?c5q; (case kAq => exact rfl); (case kFq => exact rfl); (case kKq => exact rfl); (case k1q => k_asm); (case k2q => k_asm); (case k3q => k_asm); (case k4q => k_asm); (case k5q => k_asm); (case k6q => k_is); (case k7q => k_is); (case k8q => ktr_room); (case k9q => exact BindsTo.of_eq rfl); (case c5q => decide); (case kBq => exact locs rfl); (case c2q => exact rfl); (case c3q => exact rfl); (case c4q => exact rfl); k_whole; intro g' L' h' FG' F' N' B' X' T'; (try dsimp only); (try k_fold))
    k_steps
    (with_reducible rename News _ _ _ _ => N9)
    (with_reducible rename Nd _ => ND9)
    (with_reducible rename Obj.IsDictOf _ _ _ => hd0)
    (with_reducible rename (_ == sysModules) = false => lo0)
    obtain ⟨y, q, e0, N10, ND10, e1, e2, e3, e4, e5, e6⟩ := syi_end N9 (nd_same ND9 rfl) hd0 lo0 rfl
    exact ret _ _ _ _ (by assumption) N10 ND10 (in_2_8 y q (by rw [e0]) rfl e1 e2 e3 e4 e5 e6)
  refine cut (T := Spec _root_.Mine.hd.heap_1_39 PySem.Challenge.rw_rg0217_01.row.prog 682 2 PreSr PostSr) ?_ fun c_sr => ?_
  · skip
    clear c_fun_count c_op c_args c_sort c_data c_bool_term c_declare_fun c_make c_app c_depth c_push c_unbind c_roll_back c_pop c_bind c_bound c_sf c_bring c_fe c_is_defined c_df c_dn c_isb c_due c_symt c_told c_scrape c_deed c_are c_bi c_fc c_want c_not c_and c_syi
    have pmPMA : PMA := trivial
    have pmI : PMI := trivial
    k_fill
    refine spec_at ?_
    refine prod_all ?_
    intro v0
    intro v1
    refine at_in ?_
    intro c0
    generalize c0.w = w; generalize c0.p = p; generalize c0.loose = loose; generalize c0.mean = mean; generalize c0.mg = mg; generalize c0.mb = mb; generalize c0.dp = dp; generalize c0.un = un; generalize c0.gd = gd; generalize c0.cn = cn; generalize c0.cs = cs; generalize c0.a = a; generalize c0.ccd = ccd; generalize c0.cl = cl; generalize c0.outer = outer; generalize c0.A₀ = A₀; generalize c0.base = base; generalize c0.h₀ = h₀; generalize c0.L = L; generalize c0.m = m; generalize c0.s = s; generalize c0.Q = Q; generalize c0.E = E; generalize c0.news = news; generalize c0.vs = vs
    refine sb_in ?_
    intros hpre
    intros B F X N T hk ND hd hu ret
    dsimp only [PreSr] at hpre
    obtain rfl := hpre
    k_dflt (refine' call_cls ?k1q ?k2q ?k3q ?k4q ?k5q ?k6q ?_; (case k1q => k_asm); (case k2q => k_asm); (case k3q => k_asm); (case k4q => k_is); (case k5q => k_is); (case k6q => k_is))
    intro i j h1 F1 N1 l1 l2
    have ND1 : Nd ((i, instObj 682 j) :: (j, dictOf [] 0) :: news) := nd_cons (nd_cons ND l1) (by
      intros p hp
      rcases List.mem_cons.mp hp with rfl | hp
      · exact l2
      · exact Nat.lt_trans (l1 p hp) l2)
    k_dflt ktr_enter
    k_steps
    (with_reducible rename News _ _ _ _ => N9)
    exact ret _ _ _ _ (by assumption) N9 (nd_same ND1 rfl) (in_3_2 i j _ rfl rfl)
  refine cut (T := Spec _root_.Mine.hd.heap_1_39 PySem.Challenge.rw_rg0217_01.row.prog 846 4 PreCe PostCe) ?_ fun c_ce => ?_
  · skip
    clear c_fun_count c_op c_args c_sort c_data c_bool_term c_declare_fun c_make c_app c_depth c_push c_unbind c_roll_back c_pop c_bind c_bound c_sf c_bring c_fe c_is_defined c_df c_dn c_isb c_due c_symt c_told c_scrape c_deed c_are c_bi c_fc c_want c_not c_and c_syi
    have pmPMA : PMA := trivial
    have pmI : PMI := trivial
    k_fill
    refine spec_at ?_
    refine prod_all ?_
    intro v0
    intro v1
    refine at_in ?_
    intro c0
    generalize c0.w = w; generalize c0.p = p; generalize c0.loose = loose; generalize c0.mean = mean; generalize c0.mg = mg; generalize c0.mb = mb; generalize c0.dp = dp; generalize c0.un = un; generalize c0.gd = gd; generalize c0.cn = cn; generalize c0.cs = cs; generalize c0.a = a; generalize c0.ccd = ccd; generalize c0.cl = cl; generalize c0.outer = outer; generalize c0.A₀ = A₀; generalize c0.base = base; generalize c0.h₀ = h₀; generalize c0.L = L; generalize c0.m = m; generalize c0.s = s; generalize c0.Q = Q; generalize c0.E = E; generalize c0.news = news; generalize c0.vs = vs
    refine sb_in ?_
    intros hpre
    intros B F X N T hk ND hd hu ret
    dsimp only [PreCe] at hpre
    obtain rfl := hpre
    k_dflt (refine' call_cls ?k1q ?k2q ?k3q ?k4q ?k5q ?k6q ?_; (case k1q => k_asm); (case k2q => k_asm); (case k3q => k_asm); (case k4q => k_is); (case k5q => k_is); (case k6q => k_is))
    intro i j h1 F1 N1 l1 l2
    have ND1 : Nd ((i, instObj 846 j) :: (j, dictOf [] 0) :: news) := nd_cons (nd_cons ND l1) (by
      intros p hp
      rcases List.mem_cons.mp hp with rfl | hp
      · exact l2
      · exact Nat.lt_trans (l1 p hp) l2)
    k_dflt ktr_enter
    k_steps
    have hcu : (({ depth := dp, frames := some (envX cn cs L a ccd cl :: outer), guards := gd, units := un } : Around).under (Code.builtin "type.__call__" { pos := [Value.ref 846, Value.ref v0, Value.ref v1] })).units = un + 1 := rfl
    k_dflt (refine' use_specE c_sr ?kBq ?kFq ?kXq ?kNq ?kTq ?kKq ?kDq ?kdq ?kuq (_, _) ?kpq ?_; (case kFq => k_asm); (case kBq => k_asm); (case kXq => k_asm); (case kNq => k_asm); (case kTq => k_asm); (case kKq => first | exact rfl | assumption); (case kDq => assumption); (case kdq => ktr_room); (case kuq => ktr_units); (case kpq => refine' rfl))
    refine elq_0_3_2_1_0 ?_
    intro i2 j2 o2 h3 tk3 F3 N3 ND3
    (try k_sweep)
    k_steps
    (with_reducible rename News _ _ _ _ => N9)
    (with_reducible rename Nd _ => ND9)
    exact ret _ _ _ _ (by assumption) N9 (nd_same ND9 rfl) ⟨i, [_, _, _, _], rfl, rfl, _, _, _, _, _, _, List.mem_cons_of_mem _ (List.mem_cons_of_mem _ List.mem_cons_self), List.mem_cons_of_mem _ (List.mem_cons_of_mem _ (List.mem_cons_of_mem _ List.mem_cons_self))⟩
  clear c_fun_count c_op c_args c_sort c_data c_bool_term c_declare_fun c_make c_app c_depth c_push c_unbind c_roll_back c_pop c_bind c_bound c_sf c_bring c_fe c_is_defined c_df c_dn c_isb c_due c_symt c_told c_want c_sr
  have pmPML : PML := trivial
  have pmI : PMI := trivial
  k_go0
  all_goals (try k_fold)
  rename_i zA1 zO1 _ zA2 zA3 _ zL1 _ _ _ _ _ zL2 zL3 zA4 zV1 zL4 _ _ _ _ _ _ _ _ _ _ zh1 ztk _ zO2 _ _ _
  (with_reducible rename Below _ _ _ _ => K0)
  replace K0 := K0
  dsimp only [Top.heap] at K0
  revert zA1 zO1 zA2 zA3 zL1 zL2 zL3 zA4 zV1 zL4 zh1 ztk zO2; exists zA1; exists zO1; exists zA2; exists zA3; exists zL1; exists zL2; exists zL3; exists zA4; exists zV1; exists zL4; exists zh1; exists ztk; exists zO2; set_option tactic.hygienic false in intros
  k_steps
  unfold Hold
  k_dflt (refine' kdn_str ?zqq ?zFq ?zNq ?zbq ?zaq ?zlq ?zeq ?znq ?_; (case zqq => rfl); (case zFq => k_asm); (case zNq => k_asm); (case zbq => exact Top.nolimit (by k_asm)); (case zaq => rfl); (case zlq => rfl); (case zeq => exact List.cons_ne_nil _ _); (case znq => exact Nat.le_of_ble_eq_true rfl))
  intro dA hA oA FA NA lA loA hdA
  k_steps
  unfold Hold
  k_dflt (refine comp_L (_F₀ := by k_asm) (by rfl) (by decide) (by rfl) (by decide) (by rfl) ?_)
  k_steps
  (with_reducible rename News _ _ _ _ => N1)
  (with_reducible rename IntsAre _ _ => hI1)
  rename_i l2
  have hlen1 := hI1.length
  have ND1 := nd3 N1 (lA _ List.mem_cons_self) l2
  refine ⟨_, _, _, rfl, rfl, by k_asm, N1, ⟨_, List.mem_cons_self⟩, (by (rw [sizeLine_eq, List.size_toArray, hlen1, List.length_take]; omega)), ?_⟩
  rintro _ ⟨g9, rfl⟩
  revert g9; exists g9; set_option tactic.hygienic false in intros
  refine comp_ind (fun i ys nw => (∃ zs, IntsAre ys zs) ∧ ys.length = i ∧ nw = _) ?_ ?_ _ 0 [] _ (Nat.zero_add _) ⟨⟨[], .nil⟩, rfl, rfl⟩
  · rintro i ys nw hi ⟨⟨zs, hz⟩, hyl, rfl⟩ v It oI C oC D m2 h4 tk4 E' hv hC hx F4 N4 off ne
    revert i ys zs v It oI C oC D m2 h4 tk4 E'; exists i; exists ys; exists zs; exists v; exists It; exists oI; exists C; exists oC; exists D; exists m2; exists h4; exists tk4; exists E'; set_option tactic.hygienic false in intros
    simp only [List.getElem?_toArray] at hv
    obtain ⟨c9, u9, hcu⟩ := IntsAre.getI hI1 (i := i) (by simpa using hi)
    revert c9 u9; exists c9; exists u9; set_option tactic.hygienic false in intros
    rw [hcu] at hv
    obtain rfl := Option.some.inj hv
    clear N1
    k_steps
    exact CompEnd.intro (by assumption) N4 _ (fun p hp => hp) off ⟨_, List.mem_cons_self⟩ ⟨⟨zs ++ [c9], intsAre_snoc hz⟩, by simp [hyl], rfl⟩
  · rintro ys nw ⟨⟨zs, hz⟩, hyl, rfl⟩
    revert ys zs; exists ys; exists zs; set_option tactic.hygienic false in intros
    unfold FinE
    intro D h4 tk4 F4 N4 o4
    have ND4 := nd_off (o := listOf ys.toArray ys.length) o4 ND1
    clear N1
    k_steps
    k_dflt (refine' kdn_made_str ?Fq N4 (updF_nd (pre := [_, _]) ND4) hdA rfl ?znq ?_; (case Fq => k_asm); (case znq => exact of_decide_eq_true rfl))
    intro h5 o5 F5 N5 hd5
    (try dsimp only [List.cons_append, List.nil_append] at N5)
    have ND5 := nd_of N5 ND4 rfl
    clear N4 ND4
    k_steps
    k_dflt (refine' use_specE c_bi ?kBq ?kFq ?kXq ?kNq ?kTq ?kKq ?kDq ?kdq ?kuq (()) ?kpq ?_; (case kFq => k_asm); (case kBq => k_asm); (case kXq => k_asm); (case kNq => k_asm); (case kTq => k_asm); (case kKq => first | exact rfl | assumption); (case kDq => assumption); (case kdq => ktr_room); (case kuq => ktr_units); (case kpq => refine' rfl))
    refine elq_0_3_9_1_0 ?_
    intro b nw6 xs HB hkt hkf hf1 hf2 hf3 hop h6 tk6 F6 N6 ND6
    (try k_sweep)
    k_steps
    (with_reducible rename News _ _ _ _ => N7)
    (with_reducible rename Nd _ => ND7)
    (with_reducible rename Obj.data _ = Data.cell _ => hcd)
    have ND8 := nd_in N7 ND7
    obtain ⟨X, N8, ND9, HB1, hcm1⟩ := start1 N7 ND8 HB
    revert X; exists X; set_option tactic.hygienic false in intros
    clear N7 ND7 ND8 HB
    (try clear ND1 ND5 ND6)
    k_dflt (refine' use_specE c_syi ?kBq ?kFq ?kXq ?kNq ?kTq ?kKq ?kDq ?kdq ?kuq (b.inst) ?kpq ?_; (case kFq => k_asm); (case kBq => k_asm); (case kXq => k_asm); (case kNq => k_asm); (case kTq => k_asm); (case kKq => first | exact rfl | assumption); (case kDq => assumption); (case kdq => ktr_room); (case kuq => ktr_units); (case kpq => refine' rfl))
    refine elq_0_2_8_1_0 ?_
    intro y p6 hyb hybr hysc hyle hyfu hylo h6 tk6 F6 N6 ND6
    obtain ⟨X, N8b, ND9b, HB2, hcm2⟩ := start2 N6 ND6 HB1 hcm1
    revert X; exists X; set_option tactic.hygienic false in intros
    clear N6 ND6 HB1 hcm1
    (try k_sweep)
    k_steps
    k_dflt (refine' use_specE c_ce ?kBq ?kFq ?kXq ?kNq ?kTq ?kKq ?kDq ?kdq ?kuq ((b.inst, y.inst)) ?kpq ?_; (case kFq => k_asm); (case kBq => k_asm); (case kXq => k_asm); (case kNq => k_asm); (case kTq => k_asm); (case kKq => first | exact rfl | assumption); (case kDq => assumption); (case kdq => ktr_room); (case kuq => ktr_units); (case kpq => refine' rfl))
    refine elq_0_2_3_1_0 ?_
    intro el nE hEl h7 tk7 F7 N7 ND7
    obtain ⟨X, N8c, ND9c, HB3, hcm3, hEl3⟩ := start3 N7 ND7 HB2 hcm2 hEl
    revert X; exists X; set_option tactic.hygienic false in intros
    clear N7 ND7 HB2 hcm2 hEl
    (try k_sweep)
    k_steps
    unfold Hold
    k_dflt (refine' kdn_str ?zqq ?zFq ?zNq ?zbq ?zaq ?zlq ?zeq ?znq ?_; (case zqq => rfl); (case zFq => k_asm); (case zNq => k_asm); (case zbq => exact Top.nolimit (by k_asm)); (case zaq => rfl); (case zlq => rfl); (case zeq => exact List.cons_ne_nil _ _); (case znq => exact Nat.le_of_ble_eq_true rfl))
    intro dS hS oS FS NS lS loS hdS
    have NDS := nd_perm (nd_cons (o := oS) ND9c lS) canon1
    have NS' := news_perm NS canon1
    clear NS N8c ND9c
    k_steps
    (with_reducible rename Obj.IsDictOf _ _ _ => hdS2)
    (with_reducible rename News _ _ _ _ => NT)
    (with_reducible rename Nd _ => NDT)
    obtain ⟨X, NU, NDU, HB, hcm, hEl⟩ := start4 NT NDT HB3 hcm3 hEl3
    revert X; exists X; set_option tactic.hygienic false in intros
    clear NT NDT HB3 hcm3 hEl3
    have S0 : St0 PySem.Challenge.rw_rg0217_01.row.prog _ b b X xs xs el y.inst (_, _) 0 0 := ⟨HB, fun _ h => h, rfl, by rw [hf1]; rfl, by rw [hf2]; rfl, by rw [hf3]; rfl, by omega, hEl, hcm⟩
    clear HB hcm hEl NDS
    unfold Hold
    k_dflt (refine Assign_T (_F₀ := by k_asm) (by rfl) (by with_unfolding_all rfl) (by rfl) (by decide) (by rfl) (by decide) (by rfl) (by rfl) (by rfl) ?_)
    k_steps
    (with_reducible rename News _ _ _ _ => NV)
    (with_reducible rename Nd _ => NDV)
    refine ⟨_, _, _, rfl, rfl, by k_asm, NV, ⟨_, List.mem_append_right _ (List.mem_append_right _ List.mem_cons_self)⟩, (by rw [sizeLine_eq]; exact Nat.le_of_ble_eq_true rfl), ?_⟩
    rintro _ ⟨g9, rfl⟩
    revert g9; exists g9; set_option tactic.hygienic false in intros
    refine comp_ind (fun i ys nw => ∃ b' X' xs', nw = bled _ b' ++ (sled _ y ++ (_ :: (sixOf _ _ _ _ _ _ ++ X'))) ∧ Nd nw ∧ St0 PySem.Challenge.rw_rg0217_01.row.prog _ b b' X' xs xs' el y.inst (_, _) i i ∧ YsOK xs' ys i) ?_ ?_ _ 0 [] _ (Nat.zero_add _) ⟨b, X, xs, rfl, NDV, S0, rfl, fun j hj => absurd hj (Nat.not_lt_zero _)⟩
    · rintro i ys nw hi ⟨b', X', xs', rfl, NDW, S1, hY⟩ v It oI C oC D2 m2 h4 tk4 E' hv hC hx F4 N4 off ne
      revert i ys b' X' xs' v It oI C oC D2 m2 h4 tk4 E'; exists i; exists ys; exists b'; exists X'; exists xs'; exists v; exists It; exists oI; exists C; exists oC; exists D2; exists m2; exists h4; exists tk4; exists E'; set_option tactic.hygienic false in intros
      have ND4 := nd_perm (nd_three (oI := oI) (oC := oC) (oD := lst ys) off ne NDW) canon3
      have N5 := news_perm N4 canon3
      clear N4 NV
      have hcm := S1.cel
      have HB := S1.bok
      have hcd' : Obj.data _ = Data.cell (some (.ref b'.inst)) := hcd.trans (by rw [S1.inst])
      have hv' : ∃ nm t, v = .str nm t := by
        match i, hv with
        | 0, h => cases h; exact ⟨_, _, rfl⟩
        | 1, h => cases h; exact ⟨_, _, rfl⟩
        | n + 2, h => simp at h
      obtain ⟨nm, tn, rfl⟩ := hv'
      revert nm tn; exists nm; exists tn; set_option tactic.hygienic false in intros
      clear hcd
      k_steps
      have hi2 : i < 2 := hi
      have ee1 := S1.fn
      have ee2 := S1.fa
      have ee3 := S1.fr
      have ee4 := S1.op
      k_dflt (refine' use_specE c_fc ?kBq ?kFq ?kXq ?kNq ?kTq ?kKq ?kDq ?kdq ?kuq (b', _, X', nm, _, 0, _, xs') ?kpq ?_; (case kFq => k_asm); (case kBq => k_asm); (case kXq => k_asm); (case kNq => k_asm); (case kTq => k_asm); (case kKq => first | exact rfl | assumption); (case kDq => assumption); (case kdq => ktr_room); (case kuq => ktr_units); (case kpq => refine' (in_0_8 rfl rfl ((fun p hp => sm_r (List.mem_cons_of_mem _ (List.mem_cons_of_mem _ (List.mem_cons_of_mem _ (List.mem_cons_of_mem _ (List.mem_append_right _ hp))))))) HB (by omega) (by omega) (by omega) (by omega))))
      refine elq_0_5_10_1_0 ?_
      intro b2 new n t9 xs2 hB2 hK hs2 hin2 q1 q2 q3 q4 h6 tk6 F6 N6 ND6
      obtain ⟨c1, c2, c3⟩ := comp_end ND6
      exact CompEnd.intro (by assumption) N6 _ c1 c2 ⟨_, List.mem_append_right _ (List.mem_append_right _ List.mem_cons_self)⟩ ⟨b2, new ++ X', xs2, rfl, c3, S1.fresh hB2 hs2 hin2 q1 q2 q3 q4, hY.snoc hs2 hK⟩
    · rintro ys2 nw ⟨b', X', xs', rfl, NDW, S1, hY⟩
      revert ys2 b' X' xs'; exists ys2; exists b'; exists X'; exists xs'; set_option tactic.hygienic false in intros
      replace S1 : St0 PySem.Challenge.rw_rg0217_01.row.prog _ b b' X' xs xs' el y.inst (_, _) 2 2 := S1
      obtain ⟨k1, t1, f1, k2, t2, f2, rfl, hk1, hk2⟩ := YsOK.two hY
      revert k1 t1 f1 k2 t2 f2; exists k1; exists t1; exists f1; exists k2; exists t2; exists f2; set_option tactic.hygienic false in intros
      unfold FinA
      intro D2 h4 tk4 F4 N4 o4
      obtain ⟨N5, ND5⟩ := canon_off (o := lst [.int (k1 : Nat) t1, .int (k2 : Nat) t2]) N4 o4 NDW
      clear N4 NV
      have hcm := S1.cel
      have HB := S1.bok
      have hcd' : Obj.data _ = Data.cell (some (.ref b'.inst)) := hcd.trans (by rw [S1.inst])
      clear hcd
      k_steps
      have ee1 := S1.fn
      have ee2 := S1.fa
      have ee3 := S1.fr
      have ee4 := S1.op
      k_dflt (refine' use_specE c_not ?kBq ?kFq ?kXq ?kNq ?kTq ?kKq ?kDq ?kdq ?kuq (b', _, X', k1, t1, f1, xs') ?kpq ?_; (case kFq => k_asm); (case kBq => k_asm); (case kXq => k_asm); (case kNq => k_asm); (case kTq => k_asm); (case kKq => first | exact rfl | assumption); (case kDq => assumption); (case kdq => ktr_room); (case kuq => ktr_units); (case kpq => refine' (in_0_8 rfl rfl ((fun p hp => sm_r (List.mem_cons_of_mem _ (List.mem_cons_of_mem _ (List.mem_append_right _ hp))))) HB hk1 (hkt.mono S1.sub) (hkf.mono S1.sub) (by omega))))
      refine elq_0_5_8_2_0 ?_
      intro b3 n3 m3 t3 xs3 hmm3 hB3 hK3 hs3 hE3 hle3 h6 tk6 F6 N6 ND6
      have S2 := S1.made hB3 hs3 hE3 hle3
      obtain ⟨N7, ND7⟩ := start5 (T := _ :: _ :: sixOf _ _ _ _ _ _) N6 ND6
      dsimp only [List.cons_append] at N7 ND7
      clear N6 ND6 ND5 HB hcm
      have hcm := S2.cel
      have hcd3 : Obj.data _ = Data.cell (some (.ref b3.inst)) := hcd'.trans (by rw [hE3.inst])
      clear hcd'
      (try k_sweep)
      obtain ⟨-, hk1l, -, -, ⟨s1, hs1⟩, -⟩ := (hk1.mono hs3).term hB3
      revert s1; exists s1; set_option tactic.hygienic false in intros
      obtain ⟨-, hk2l, -, -, ⟨s2, hs2⟩, -⟩ := (hk2.mono hs3).term hB3
      revert s2; exists s2; set_option tactic.hygienic false in intros
      have ee5 := S2.op
      k_steps
      k_dflt (refine' use_specE c_and ?kBq ?kFq ?kXq ?kNq ?kTq ?kKq ?kDq ?kdq ?kuq (b3, _, n3 ++ X', D2, _, k1, t1, s1, k2, t2, s2, xs3) ?kpq ?_; (case kFq => k_asm); (case kBq => k_asm); (case kXq => k_asm); (case kNq => k_asm); (case kTq => k_asm); (case kKq => first | exact rfl | assumption); (case kDq => assumption); (case kdq => ktr_room); (case kuq => ktr_units); (case kpq => refine' (in_0_10 rfl rfl (sm_r List.mem_cons_self) ((fun p hp => sm_r (List.mem_cons_of_mem _ (List.mem_cons_of_mem _ (List.mem_append_right _ hp))))) hB3 hs1 hs2 (by omega) (by omega) (by omega))))
      refine elq_0_5_8_2_0 ?_
      intro b4 n4 m4 t4 xs4 hmm4 hB4 hK4 hs4 hE4 hle4 h8 tk8 F8 N8 ND8
      have S3 := S2.made hB4 hs4 hE4 hle4
      obtain ⟨N9, ND9⟩ := start5 (T := _ :: _ :: sixOf _ _ _ _ _ _) N8 ND8
      dsimp only [List.cons_append] at N9 ND9
      clear N8 ND8 ND7 hcm
      have hcm := S3.cel
      have hcd4 : Obj.data _ = Data.cell (some (.ref b4.inst)) := hcd3.trans (by rw [hE4.inst])
      clear hcd3
      (try k_sweep)
      have ee6 := S3.op
      have ee7 := S3.fn
      have ee8 := S3.fa
      have ee9 := S3.fr
      k_steps
      k_dflt (refine' use_specE c_fc ?kBq ?kFq ?kXq ?kNq ?kTq ?kKq ?kDq ?kdq ?kuq (b4, _, n4 ++ (n3 ++ X'), _, _, 1, _, xs4) ?kpq ?_; (case kFq => k_asm); (case kBq => k_asm); (case kXq => k_asm); (case kNq => k_asm); (case kTq => k_asm); (case kKq => first | exact rfl | assumption); (case kDq => assumption); (case kdq => ktr_room); (case kuq => ktr_units); (case kpq => refine' (in_0_8 rfl rfl ((fun p hp => sm_r (List.mem_cons_of_mem _ (List.mem_cons_of_mem _ (List.mem_append_right _ hp))))) hB4 (by omega) (by omega) (by omega) (by omega))))
      refine elq_0_5_10_1_0 ?_
      intro b5 n5 m5 t5 xs5 hB5 hK5 hs5 hin5 q1 q2 q3 q4 h10 tk10 F10 N10 ND10
      have S4 := S3.fresh hB5 hs5 hin5 q1 q2 q3 q4
      obtain ⟨N11, ND11⟩ := start5 (T := _ :: _ :: sixOf _ _ _ _ _ _) N10 ND10
      dsimp only [List.cons_append] at N11 ND11
      clear N10 ND10 ND9 hcm
      have hcm := S4.cel
      have hcd5 : Obj.data _ = Data.cell (some (.ref b5.inst)) := hcd4.trans (by rw [hin5])
      clear hcd4
      (try k_sweep)
      k_steps
      (with_reducible rename News _ _ _ _ => NW)
      (with_reducible rename Nd _ => NDW)
      (with_reducible rename Fr _ _ _ _ => FW)
      have NDW2 := nd_front NW NDW (by assumption)
      have hcl : ys.length < 900 := by rw [hyl, List.size_toArray, hlen1, List.length_take]; omega
      have hop5 := S4.op
      obtain ⟨t, rest, e1, e2, e3, N13, ND13, HF, hcm'⟩ := begin_all NW NDW2 S4 hyb hybr hysc hyle hyfu hylo hdS2 loS hd5 loA hz hcl (someOK hB5 (((hk1.mono hs3).mono hs4).mono hs5) (((hk2.mono hs3).mono hs4).mono hs5) ((hK3.mono hs4).mono hs5) (hK4.mono hs5) hK5)
      revert t rest; exists t; exists rest; set_option tactic.hygienic false in intros
      subst e1 e2 e3
      clear NW NDW NDW2 hcm
      unfold Hold
      with_unfolding_all refine For_rngG FW (by rfl) (by rfl) ?_
      k_steps
      k_dflt (refine' use_specE c_scrape ?kBq ?kFq ?kXq ?kNq ?kTq ?kKq ?kDq ?kdq ?kuq (b5, y, t, rest, 0, 10, _) ?kpq ?_; (case kFq => k_asm); (case kBq => k_asm); (case kXq => k_asm); (case kNq => k_asm); (case kTq => k_asm); (case kKq => first | exact rfl | assumption); (case kDq => assumption); (case kdq => ktr_room); (case kuq => ktr_units); (case kpq => refine' (in_0_6 rfl rfl HF.dish (by omega) (by decide) (by decide))))
      refine elq_0_3_4_0_2 ?_
      intro o9 z tz hd9 hz9 h12 tk12 F12 N12 ND12
      have HF1 := HF.scraped hd9 (by decide)
      (try k_sweep)
      k_steps
      (with_reducible rename IsRange _ _ _ _ _ _ _ _ => hR)
      (with_reducible rename News _ _ _ _ => NX)
      (with_reducible rename Fr _ _ _ _ => FX)
      refine ⟨_, 0, 8 + (z : Int), 1, _, _, _, 8 + z, _, _, fun g => g = _, LapJ PySem.Challenge.rw_rg0217_01.row.prog _ b5 y t el (_, _), rfl, rfl, hR, small_one (by omega) (by omega) (by omega) (by omega), rng8, FX, NX, rfl, ?_, ⟨by with_unfolding_all rfl, by with_unfolding_all rfl, by with_unfolding_all rfl, by with_unfolding_all rfl, by with_unfolding_all rfl, b5, y, _, rest, [], [], [], xs5, [], _, rfl, ND12, HF1, by omega, rfl, rfl, rfl, rfl, rfl, hcm'⟩, ?_, ?_⟩
      · rintro g b rfl e
        exact e
      · rintro i t' m₁ news₁ g h tk It oI hi hoI ⟨hm1, hm2, hm3, hm4, hm5, b2, y2, t2, rest2, ts, kvs, bs, xs2, ks, kd, rfl, NDt, HF2, hop2, hin2, hyi2, e1, e2, e3, hcm2⟩ rfl hnI Ft Nt
        revert i t' m₁ h tk It oI b2 y2 t2 rest2 ts kvs bs xs2 ks kd; exists i; exists t'; exists m₁; exists h; exists tk; exists It; exists oI; exists b2; exists y2; exists t2; exists rest2; exists ts; exists kvs; exists bs; exists xs2; exists ks; exists kd; set_option tactic.hygienic false in intros
        change Fr _ (Array.size _) _ _ at Ft
        change News _ (Array.size _) _ _ at Nt
        replace hm1 := hm1
        rw [← e1] at hm1
        replace hm2 := hm2
        rw [← hyi2] at hm2
        replace hm4 := hm4
        rw [← e2] at hm4
        replace hm5 := hm5
        rw [← e3] at hm5
        have hcdT : Obj.data _ = Data.cell (some (.ref b2.inst)) := hcd5.trans (by rw [hin2])
        have hMM : MapMark m₁ := trivial
        have N1 := news_perm Nt canonT1
        have ND1 := nd_perm (nd_consI (p := (It, oI)) NDt hnI) canonT1
        have hcm3 := List.mem_cons_of_mem (It, oI) hcm2
        have hi18 : i < 18 := by omega
        have hKD := fr_dicts Ft
        have hcmK : True ∧ _ ∈ rest2 := ⟨trivial, hcm2⟩
        clear Nt NX FX hcd5 hcm2
        have HF3 := HF2.front (It, oI)
        k_steps
        k_dflt (refine' use_specT c_deed ?kBq ?kFq ?kXq ?kNq ?kTq ?kKq ?kDq ?kXBq ?kTBq ?kKDq ?kdq ?kuq (b2, y2, t2, (It, oI) :: rest2, el, ts, kvs, bs, xs2, ks, kd, i) ?kpq ?_; (case kFq => k_asm); (case kBq => k_asm); (case kXq => k_asm); (case kNq => k_asm); (case kTq => k_asm); (case kKq => first | exact rfl | assumption); (case kDq => assumption); (case kXBq => assumption); (case kTBq => assumption); (case kKDq => assumption); (case kdq => ktr_room); (case kuq => ktr_units); (case kpq => refine' (in_0_5 rfl rfl HF3 (by omega) hi18)))
        refine elq_0_9_9_0_8 ?_
        intro b3 y3 t3 nw3 ts3 kvs3 bs3 ks3 kd3 HF4 q1 q2 q3 q4 q5 q6 h20 tk20 g20 T20 F20 N20 B20 X20 P20 D20 ND20
        replace F20 := fr_back T20 F20
        replace N20 := news_back T20 N20
        clear T20 B20 X20 P20 D20 HF3 HF2 N1 ND1
        have hcm4 := List.mem_append_right nw3 hcm3
        have hcdU : Obj.data _ = Data.cell (some (.ref b3.inst)) := hcdT.trans (by rw [q2])
        clear hcdT
        replace hm1 := hm1
        rw [← q4] at hm1
        replace hm2 := hm2
        rw [← q3] at hm2
        replace hm4 := hm4
        rw [← q5] at hm4
        replace hm5 := hm5
        rw [← q6] at hm5
        (try k_sweep)
        k_steps
        k_dflt (refine' use_specT c_are ?kBq ?kFq ?kXq ?kNq ?kTq ?kKq ?kDq ?kXBq ?kTBq ?kKDq ?kdq ?kuq (b3, y3, t3, nw3 ++ ((It, oI) :: rest2), el, ts3, kvs3, bs3, xs2) ?kpq ?_; (case kFq => k_asm); (case kBq => k_asm); (case kXq => k_asm); (case kNq => k_asm); (case kTq => k_asm); (case kKq => first | exact rfl | assumption); (case kDq => assumption); (case kXBq => assumption); (case kTBq => assumption); (case kKDq => assumption); (case kdq => ktr_room); (case kuq => ktr_units); (case kpq => refine' (in_0_5 rfl rfl HF4.inv (by have u1 := HF4.sc.1; have u2 := HF4.b4; omega) (by rw [q1]; omega))))
        refine elq_0_3_5_0_4 ?_
        intro b4 new4 xs4 V4 zq5 hfn4 h21 tk21 g21 T21 F21 N21 B21 X21 P21 D21 ND21
        have o1 := zq5.1
        have o2 := zq5.2
        replace F21 := fr_back T21 F21
        replace N21 := news_back T21 N21
        clear T21 B21 X21 P21 D21
        (try k_sweep)
        k_steps
        have N22 := news_regroup N21
        have ND22 := nd_regroup ND21
        exact GEnd.canonM rfl (by assumption) N22 ND22 fun q => lap_next q hoI HF4 V4 hfn4 (by rw [q1]; omega) o1 o2 ((V4.bk.symm.trans HF4.inv.bk).trans (q2.trans hin2)) (q3.trans hyi2) (q4.trans e1) (q5.trans e2) (q6.trans e3) hcmK.2 (by with_unfolding_all exact hm1) (by with_unfolding_all exact hm2) (by with_unfolding_all exact hm3) (by with_unfolding_all exact hm4) (by with_unfolding_all exact hm5)
      · rintro g h' tk m' news' rfl Ft Nt ⟨hm1, hm2, hm3, hm4, hm5, b2, y2, t2, rest2, ts, kvs, bs, xs2, ks, kd, rfl, NDt, HF2, hop2, hin2, hyi2, e1, e2, e3, hcm2⟩
        revert h' tk m' b2 y2 t2 rest2 ts kvs bs xs2 ks kd; exists h'; exists tk; exists m'; exists b2; exists y2; exists t2; exists rest2; exists ts; exists kvs; exists bs; exists xs2; exists ks; exists kd; set_option tactic.hygienic false in intros
        clear NX FX
        k_steps
end Mine
theorem PySem.Challenge.cw_rg0217_01_holds : PySem.Challenge.rw_rg0217_01.Holds := by
  have h := Mine.hd
  unfold Mine.Aim at h
  exact h
