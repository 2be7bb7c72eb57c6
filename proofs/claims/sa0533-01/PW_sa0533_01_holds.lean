import PyProof.Rows.All
import Wide.All
import OpenK.AllK
import Wide.FinOn
import PySem.Challenge.RW_sa0533_01
open PySem PySem.Spec PySem.Calls PySem.W PyProof.Rows
set_option Elab.async false
set_option compiler.extract_closed false
set_option maxRecDepth 100000
set_option maxHeartbeats 8000000
set_option rowWalk.seconds 0
set_option linter.unusedVariables false
namespace Mine
local macro_rules | `(tactic| walk_at $s:str) => do `(tactic| k_extra $(Lean.Syntax.mkStrLit ("mine " ++ s.getString)))
/- THE HEAD: the text's top is run, what it leaves is hd.heap_1_39, what is left to prove is a premise. -/
noncomputable def Shown (_ : Nat) : Prop := True
theorem shown0 (_ : PySem.Challenge.rw_sa0533_01.Holds) : Shown 0 = True := rfl
theorem shown1 : Shown 1 = True := rfl
/-- a premise T that the head leaves open is abstracted into its lemma -/
theorem behind {T X : Prop} (_ : T) (h : X) : X := h
/- The library's aid (Open.Fast) lays a twin, Mine.hd.tw<hash>, of each constant that the head makes. The proofs
   of the twins of the big ones (trees of 546 objects) would compile to 98 MB, and the head needs none of them: where a
   twin's name is taken the aid lays none and goes on. So their names are taken here, by nothing. -/
theorem hd.tw846194442515241098 : True := trivial
theorem hd.tw10727248033764811480 : True := trivial
theorem hd.tw3182686827377200529 : True := trivial
theorem hd.tw6067372596601214235 : True := trivial
theorem hd.tw14488336819298241945 : True := trivial
theorem hd.tw26425463804135960 : True := trivial
theorem hd.tw18437946751001850788 : True := trivial
theorem hd.tw5685143178939927108 : True := trivial
theorem hd.tw17901807376057305687 : True := trivial
theorem hd.tw10471273241005507999 : True := trivial
theorem hd.tw8539849791538168078 : True := trivial
theorem hd.tw3650960628870763488 : True := trivial
theorem hd.tw16631945168110365508 : True := trivial
theorem hd.tw10777412646154022912 : True := trivial
theorem hd.tw2019206820559194160 : True := trivial
theorem hd.tw13728328747796770334 : True := trivial
theorem hd.tw2799067240506288376 : True := trivial
theorem hd.tw11011131195910976488 : True := trivial
theorem hd.tw7721951785955056133 : True := trivial
theorem hd.tw16879956485299554121 : True := trivial
theorem hd.tw15043168886218598503 : True := trivial
theorem hd.tw7922709476020998847 : True := trivial
theorem hd.tw3915529967508079626 : True := trivial
theorem hd.tw2129695795049404400 : True := trivial
theorem hd.tw6584466549712930423 : True := trivial
theorem hd.tw14772383043592177042 : True := trivial
theorem hd.tw8242931771332617035 : True := trivial
theorem hd.tw17491280204586788870 : True := trivial
theorem hd.tw17739348878880393726 : True := trivial
theorem hd.tw1588505670450824345 : True := trivial
theorem hd.tw1836080755315867724 : True := trivial
theorem hd.tw15367242080415987702 : True := trivial
theorem hd.tw17901334829092211166 : True := trivial
theorem hd.tw14745743045033390146 : True := trivial
theorem hd.tw8228950375871286339 : True := trivial
theorem hd.tw14310624532144728618 : True := trivial
theorem hd.tw5283464899586487735 : True := trivial
theorem hd.tw11319892378374348655 : True := trivial
theorem hd.tw11631947586910100387 : True := trivial
theorem hd.tw4551032450796863993 : True := trivial
theorem hd.tw16091413853298234908 : True := trivial
theorem hd.tw12239354291974867115 : True := trivial
theorem hd.tw9153386212771759811 : True := trivial
theorem hd.tw11631869004601391166 : True := trivial
theorem hd.tw4343815846532229135 : True := trivial
theorem hd.tw7382370116671421104 : True := trivial
theorem hd.tw15683763237869141255 : True := trivial
theorem hd.tw2252305205657439004 : True := trivial
theorem hd.tw17130151131035750659 : True := trivial
theorem hd.tw4159134105002834734 : True := trivial
theorem hd.tw16171809288044610508 : True := trivial
theorem hd.tw12058812876911547015 : True := trivial
theorem hd.tw2887051446865420828 : True := trivial
theorem hd.tw17447410573909459338 : True := trivial
theorem hd.tw9228397985900620932 : True := trivial
theorem hd.tw15103106377680225435 : True := trivial
theorem hd.tw15852365999677673905 : True := trivial
theorem hd.tw1222794163293265305 : True := trivial
theorem hd.tw15213948185873263833 : True := trivial
theorem hd.tw442638132926106271 : True := trivial
theorem hd.tw12487502673411948298 : True := trivial
theorem hd.tw10752148897807903841 : True := trivial
theorem hd.tw6683769817339685419 : True := trivial
theorem hd.tw11801993109049149486 : True := trivial
theorem hd.tw8457440626546761165 : True := trivial
theorem hd.tw12127338746724423809 : True := trivial
theorem hd.tw7510230149288206974 : True := trivial
theorem hd.tw6820862383352777685 : True := trivial
theorem hd.tw13289513938125300765 : True := trivial
theorem hd.tw1194904439430580092 : True := trivial
theorem hd.tw12602439190401603521 : True := trivial
theorem hd.tw16649331688326792143 : True := trivial
theorem hd.tw2788664435532181463 : True := trivial
theorem hd.tw2304311442786299043 : True := trivial
theorem hd.tw15508949281206285077 : True := trivial
theorem hd.tw1760603350576429475 : True := trivial
theorem hd.tw2315301623876862497 : True := trivial
theorem hd.tw395138700845864316 : True := trivial
theorem hd.tw17234923516513369237 : True := trivial
theorem hd.tw7494724483528729301 : True := trivial
theorem hd.tw6882427118574961969 : True := trivial
theorem hd.tw18166333605607142505 : True := trivial
theorem hd.tw3451239065008710300 : True := trivial
theorem hd.tw10556086555744776959 : True := trivial
theorem hd.tw6596136833678090234 : True := trivial
theorem hd.tw6804821044290156842 : True := trivial
theorem hd.tw4383666589626881386 : True := trivial
theorem hd.tw12901994302517312135 : True := trivial
theorem hd.tw8789358453043137523 : True := trivial
theorem hd.tw17843490464661113860 : True := trivial
theorem hd.tw5781342201191254626 : True := trivial
theorem hd.tw280609765759037681 : True := trivial
theorem hd.tw16211521421427940678 : True := trivial
theorem hd.tw9960721518486171458 : True := trivial
theorem hd.tw6164396464334811476 : True := trivial
theorem hd.tw16853341256802265648 : True := trivial
theorem hd.tw13866372431405929976 : True := trivial
theorem hd.tw15089522573102190283 : True := trivial
theorem hd.tw22551697357593593 : True := trivial
theorem hd.tw12070051907170230399 : True := trivial
theorem hd.tw13855946660403688772 : True := trivial
theorem hd.tw14060154772996877548 : True := trivial
theorem hd.tw17387473266821786944 : True := trivial
theorem hd.tw2603259988358896889 : True := trivial
theorem hd.tw5238241317806426387 : True := trivial
theorem hd.tw15615537253650120727 : True := trivial
theorem hd.tw15595854959937240912 : True := trivial
theorem hd.tw12936449754285732098 : True := trivial
theorem hd.tw9120999728284197611 : True := trivial
theorem hd.tw17672654358674132775 : True := trivial
theorem hd.tw8428860471423672150 : True := trivial
theorem hd.tw15615420239508185596 : True := trivial
theorem hd.tw3530705653197291679 : True := trivial
theorem hd.tw17574625026820762457 : True := trivial
theorem hd.tw16904818350239718627 : True := trivial
theorem hd.tw9345929723534960622 : True := trivial
theorem hd.tw1869635642477389258 : True := trivial
theorem hd.tw13638418597567726942 : True := trivial
theorem hd.tw16157073509204512506 : True := trivial
theorem hd.tw13047593935725612058 : True := trivial
theorem hd.tw3429492842335990350 : True := trivial
theorem hd.tw16155205043701107222 : True := trivial
theorem hd.tw6868836192036940282 : True := trivial
theorem hd.tw8068729725432388964 : True := trivial
theorem hd.tw11802353813225856 : True := trivial
theorem hd.tw7610815399733428385 : True := trivial
theorem hd.tw15422856539912107476 : True := trivial
theorem hd.tw15527848837575444561 : True := trivial
theorem hd.tw1011335219593555734 : True := trivial
theorem hd.tw16240987189780228909 : True := trivial
theorem hd.tw5343241284826551009 : True := trivial
theorem hd.tw12113243949977362033 : True := trivial
theorem hd.tw3759623122121258479 : True := trivial
theorem hd.tw12614811148066621264 : True := trivial
theorem hd.tw7540655947842036084 : True := trivial
theorem hd.tw16868993833207775613 : True := trivial
theorem hd.tw4225703048834024713 : True := trivial
theorem hd.tw6293948785866598258 : True := trivial
theorem hd.tw12023040214023829324 : True := trivial
theorem hd.tw1997569388931296116 : True := trivial
theorem hd.tw16713699803418581334 : True := trivial
theorem hd.tw1848646778235469078 : True := trivial
theorem hd.tw978945382295711627 : True := trivial
theorem hd.tw5716766192118558609 : True := trivial
theorem hd.tw17986969038992634876 : True := trivial
theorem hd.tw16011055738799735888 : True := trivial
theorem hd.tw6438293893037913957 : True := trivial
theorem hd.tw2329189449893159454 : True := trivial
theorem hd.tw14553816603554493358 : True := trivial
theorem hd.tw6291416237084387574 : True := trivial
theorem hd.tw10012880186880212623 : True := trivial
theorem hd.tw7023726343779634624 : True := trivial
theorem hd.tw13790719812936386609 : True := trivial
theorem hd.tw8990313861142287110 : True := trivial
theorem hd.tw13368278939475635651 : True := trivial
theorem hd.tw10919297434634762262 : True := trivial
theorem hd.tw5657824000916062451 : True := trivial
theorem hd.tw17681399029576232318 : True := trivial
theorem hd.tw2867327485932766208 : True := trivial
theorem hd.tw4360684699965382250 : True := trivial
theorem hd.tw8735263284916673568 : True := trivial
theorem hd.tw16194383521188589630 : True := trivial
theorem hd.tw8977307856219701671 : True := trivial
theorem hd.tw14103535550066685397 : True := trivial
theorem hd.tw16945582573551092051 : True := trivial
theorem hd.tw17714235663813219645 : True := trivial
theorem hd.tw18093812233618175256 : True := trivial
theorem hd.tw16920754564084929960 : True := trivial
theorem hd.tw11754176132448286083 : True := trivial
theorem hd.tw6924109203229866365 : True := trivial
theorem hd.tw5732804406350252772 : True := trivial
theorem hd.tw8959176491354863721 : True := trivial
theorem hd.tw9533747618267967006 : True := trivial
theorem hd.tw5902613922787404954 : True := trivial
theorem hd.tw11136197038861592535 : True := trivial
theorem hd.tw1409312971732116557 : True := trivial
theorem hd.tw11213053971927718326 : True := trivial
theorem hd.tw8047900516022102942 : True := trivial
theorem hd.tw5608270528595127837 : True := trivial
theorem hd.tw14955159897011116063 : True := trivial
theorem hd.tw4402725079659364252 : True := trivial
theorem hd.tw14560493823538711346 : True := trivial
theorem hd.tw13225837485096350037 : True := trivial
theorem hd.tw5363564295841288755 : True := trivial
theorem hd.tw5278057926702712004 : True := trivial
theorem hd.tw6578402527460240241 : True := trivial
theorem hd.tw1013155817946168525 : True := trivial
theorem hd.tw7366208706002141716 : True := trivial
theorem hd.tw3704167492566942397 : True := trivial
theorem hd.tw15616948245753086127 : True := trivial
theorem hd.tw15416985209724490359 : True := trivial
theorem hd.tw6264232113106981867 : True := trivial
theorem hd.tw16858285156579221889 : True := trivial
theorem hd.tw1712922718373300912 : True := trivial
theorem hd.tw10603584201595350602 : True := trivial
theorem hd.tw10879034167726328663 : True := trivial
theorem hd.tw17420951861521290806 : True := trivial
theorem hd.tw17893044597097874663 : True := trivial
theorem hd.tw519851828213033955 : True := trivial
theorem hd.tw16007149819294483003 : True := trivial
theorem hd.tw17087091549796120035 : True := trivial
theorem hd.tw9421340871869096474 : True := trivial
theorem hd.tw4851647983119433812 : True := trivial
theorem hd.tw162610821266807592 : True := trivial
theorem hd.tw16259696140248634718 : True := trivial
theorem hd.tw2274498078352570744 : True := trivial
theorem hd.tw10170382586518783626 : True := trivial
theorem hd.tw15987713032478767096 : True := trivial
theorem hd.tw6998783941825042932 : True := trivial
theorem hd.tw10246146449241189800 : True := trivial
theorem hd.tw5562173858411828344 : True := trivial
theorem hd.tw2386827423013361158 : True := trivial
theorem hd.tw16432713993328977331 : True := trivial
theorem hd.tw7654286748164834634 : True := trivial
theorem hd.tw18241275227582772068 : True := trivial
theorem hd.tw11893437276241958245 : True := trivial
theorem hd.tw5130813555471234732 : True := trivial
theorem hd.tw4788038989552484473 : True := trivial
theorem hd.tw16037735763661986305 : True := trivial
theorem hd.tw3789350110615891812 : True := trivial
theorem hd.tw1580110805410547442 : True := trivial
theorem hd.tw2195365466389143174 : True := trivial
theorem hd.tw3646829019195819677 : True := trivial
theorem hd.tw18300207936620678264 : True := trivial
theorem hd.tw13903934854276604550 : True := trivial
theorem hd.tw1847840615245081061 : True := trivial
theorem hd.tw4642405928176397000 : True := trivial
theorem hd.tw1781861727890032366 : True := trivial
theorem hd.tw2051048951616859547 : True := trivial
theorem hd.tw10860895700388868024 : True := trivial
theorem hd.tw190519026028168232 : True := trivial
theorem hd.tw13038990169509382042 : True := trivial
theorem hd.tw13893168526513508166 : True := trivial
theorem hd.tw14598272352848978880 : True := trivial
theorem hd.tw3795277891434052102 : True := trivial
theorem hd.tw8356816923877370021 : True := trivial
theorem hd.tw11778180911958503814 : True := trivial
theorem hd.tw2845679848157327705 : True := trivial
theorem hd.tw8516288146210602744 : True := trivial
theorem hd.tw6196171512934965099 : True := trivial
theorem hd.tw5190246844813560578 : True := trivial
theorem hd.tw13466754112058979494 : True := trivial
theorem hd.tw13315533130655954831 : True := trivial
theorem hd.tw1452849714261714991 : True := trivial
theorem hd.tw10030107230732127627 : True := trivial
theorem hd.tw15083628210047938546 : True := trivial
theorem hd.tw7793673504863384051 : True := trivial
theorem hd.tw307737655149646647 : True := trivial
theorem hd.tw16794629799341752650 : True := trivial
theorem hd.tw7676003278276379012 : True := trivial
theorem hd.tw8716120427605611371 : True := trivial
theorem hd.tw10404513684093684653 : True := trivial
theorem hd.tw11953376511379268794 : True := trivial
theorem hd.tw5505005885091257285 : True := trivial
theorem hd.tw250903467453971090 : True := trivial
theorem hd.tw9719896912496429819 : True := trivial
theorem hd.tw12744807935193187038 : True := trivial
theorem hd.tw13483081372092288885 : True := trivial
theorem hd.tw11513968764499736323 : True := trivial
theorem hd.tw7540741092611519060 : True := trivial
theorem hd.tw3919010098100093602 : True := trivial
theorem hd.tw13372043803930879067 : True := trivial
theorem hd.tw4297731678662094536 : True := trivial
theorem hd.tw16970440968685349367 : True := trivial
theorem hd.tw4971549296188076032 : True := trivial
theorem hd.tw6082411064634330575 : True := trivial
theorem hd.tw17258206423299326598 : True := trivial
theorem hd.tw3182187488490625086 : True := trivial
theorem hd.tw17606422857730326317 : True := trivial
theorem hd.tw3443669649825651883 : True := trivial
theorem hd.tw15790720579355451973 : True := trivial
theorem hd.tw12647368939536790636 : True := trivial
theorem hd.tw3452082135128663414 : True := trivial
theorem hd.tw12092154237167983948 : True := trivial
theorem hd.tw7120233287515763914 : True := trivial
theorem hd.tw4856431653887292112 : True := trivial
theorem hd.tw5635641802508607975 : True := trivial
theorem hd.tw9566141503761928105 : True := trivial
theorem hd.tw12949589719889679912 : True := trivial
theorem hd.tw17377529257436501650 : True := trivial
theorem hd.tw1129884963351977449 : True := trivial
theorem hd.tw17948085552500728524 : True := trivial
theorem hd.tw3828038474966422129 : True := trivial
theorem hd.tw3350844169311001129 : True := trivial
theorem hd.tw9298403506768410418 : True := trivial
theorem hd.tw4706079058837389440 : True := trivial
theorem hd.tw9657781627882305391 : True := trivial
theorem hd.tw13783031573616600631 : True := trivial
theorem hd.tw8965841893048198262 : True := trivial
theorem hd.tw8609351116199087170 : True := trivial
theorem hd.tw17562767543260142214 : True := trivial
theorem hd.tw541196102884509978 : True := trivial
theorem hd.tw15948780112781908787 : True := trivial
theorem hd.tw11151547217846952531 : True := trivial
theorem hd.tw13321331477185743149 : True := trivial
theorem hd.tw15220180469806662145 : True := trivial
theorem hd.tw15910714762333108613 : True := trivial
theorem hd.tw7746578258024575070 : True := trivial
theorem hd.tw8134915037123179040 : True := trivial
theorem hd.tw189712035060473897 : True := trivial
theorem hd.tw11032806212648032379 : True := trivial
theorem hd.tw4494801613693538912 : True := trivial
theorem hd.tw18322514126500204803 : True := trivial
theorem hd.tw4086058157674990017 : True := trivial
theorem hd.tw16634568088961857937 : True := trivial
theorem hd.tw9673543361469618366 : True := trivial
theorem hd.tw3571134770919094901 : True := trivial
theorem hd.tw6785817131721698500 : True := trivial
theorem hd.tw16056359734778111409 : True := trivial
theorem hd.tw17062030032774818151 : True := trivial
theorem hd.tw18293732401869909652 : True := trivial
theorem hd.tw16772102934027710169 : True := trivial
theorem hd.tw2101469004524951375 : True := trivial
theorem hd.tw7355570028127101125 : True := trivial
theorem hd.tw4138081844389336918 : True := trivial
theorem hd.tw9430268157657104642 : True := trivial
theorem hd.tw5174551420813472067 : True := trivial
theorem hd.tw14400467628812073631 : True := trivial
theorem hd.tw3229955645248102723 : True := trivial
theorem hd.tw11917015161858427179 : True := trivial
theorem hd.tw8458067239894703972 : True := trivial
theorem hd.tw6394381022753523788 : True := trivial
theorem hd.tw7523672394736509286 : True := trivial
theorem hd.tw7519716089354478335 : True := trivial
theorem hd.tw12050417470231563642 : True := trivial
theorem hd.tw15166520500009309586 : True := trivial
theorem hd.tw18219297243305740317 : True := trivial
theorem hd.tw17975533764899295144 : True := trivial
theorem hd.tw2999033326186475339 : True := trivial
theorem hd.tw16006246977917349235 : True := trivial
theorem hd.tw14960593345356199642 : True := trivial
theorem hd.tw4272726840584523970 : True := trivial
theorem hd.tw6819123309680001836 : True := trivial
theorem hd.tw2930668341846507884 : True := trivial
theorem hd.tw9748044761591592747 : True := trivial
theorem hd.tw9170477692918782315 : True := trivial
theorem hd.tw3442329435671937591 : True := trivial
theorem hd.tw3259873300814134281 : True := trivial
theorem hd.tw15368132723985388332 : True := trivial
theorem hd.tw15344866539931968096 : True := trivial
theorem hd.tw12173100003817136821 : True := trivial
theorem hd.tw10784824025267889561 : True := trivial
theorem hd.tw464777395874653626 : True := trivial
theorem hd.tw17001982702790524580 : True := trivial
theorem hd.tw11713075325732132258 : True := trivial
theorem hd.tw4115565904173853331 : True := trivial
theorem hd.tw7082855905992002993 : True := trivial
theorem hd.tw11251137523995926341 : True := trivial
theorem hd.tw6442067068224118133 : True := trivial
theorem hd.tw17311223219408574766 : True := trivial
theorem hd.tw10792051664901133789 : True := trivial
theorem hd.tw4993660671451451078 : True := trivial
theorem hd.tw9345676750909349944 : True := trivial
theorem hd.tw6545403380812914513 : True := trivial
theorem hd.tw6123773746684550334 : True := trivial
theorem hd.tw12271959270614036898 : True := trivial
theorem hd.tw6906073325868019850 : True := trivial
theorem hd.tw6838551448383532254 : True := trivial
theorem hd.tw1865391376527767206 : True := trivial
theorem hd.tw17542962492245011380 : True := trivial
theorem hd.tw13609717118414637909 : True := trivial
theorem hd.tw10458740792067480800 : True := trivial
theorem hd.tw6830512106363814048 : True := trivial
theorem hd.tw15813434630575017362 : True := trivial
theorem hd.tw10424393626065333798 : True := trivial
theorem hd.tw17711083657039698284 : True := trivial
theorem hd.tw7068711184596962023 : True := trivial
theorem hd.tw16412773359747925120 : True := trivial
theorem hd.tw17650839729002327288 : True := trivial
theorem hd.tw13267510147771200024 : True := trivial
theorem hd.tw14892549342360969540 : True := trivial
theorem hd.tw15042006015671813226 : True := trivial
theorem hd.tw16722109127936396110 : True := trivial
theorem hd.tw14176624398918483544 : True := trivial
theorem hd.tw6767318904944593275 : True := trivial
theorem hd.tw11054480109507316185 : True := trivial
theorem hd.tw6982297934935202809 : True := trivial
theorem hd.tw2608437505485318709 : True := trivial
theorem hd.tw10743916045514856203 : True := trivial
theorem hd.tw17213754286329925777 : True := trivial
theorem hd.tw7880807054014371918 : True := trivial
theorem hd.tw18293851220164018083 : True := trivial
theorem hd.tw8343274005884668182 : True := trivial
theorem hd.tw17599816209265215132 : True := trivial
theorem hd.tw12629568148972539762 : True := trivial
theorem hd.tw8184699220007379433 : True := trivial
theorem hd.tw991583007596301734 : True := trivial
theorem hd.tw15946388913382835224 : True := trivial
theorem hd.tw7270182246851987180 : True := trivial
theorem hd.tw3493717111155160527 : True := trivial
theorem hd.tw10738003575532504788 : True := trivial
theorem hd.tw697623264460660564 : True := trivial
theorem hd.tw16477043939570097188 : True := trivial
theorem hd.tw5987830557187376847 : True := trivial
theorem hd.tw6305734824756694309 : True := trivial
theorem hd.tw15759970867653108152 : True := trivial
theorem hd.tw5511420028821071320 : True := trivial
theorem hd.tw6060742912462422084 : True := trivial
theorem hd.tw3694398316872202419 : True := trivial
theorem hd.tw5629675986466331604 : True := trivial
theorem hd.tw9702936160620672325 : True := trivial
theorem hd.tw15048261121198461528 : True := trivial
theorem hd.tw16154546982801380032 : True := trivial
theorem hd.tw4377701919642642989 : True := trivial
theorem hd.tw8770205317985620760 : True := trivial
theorem hd.tw6407587892757256292 : True := trivial
theorem hd.tw10111801491309104144 : True := trivial
theorem hd.tw4065347644161347641 : True := trivial
theorem hd.tw402640490398009360 : True := trivial
theorem hd.tw728884934406724761 : True := trivial
theorem hd.tw5148922909946612681 : True := trivial
theorem hd.tw3404104791013757517 : True := trivial
theorem hd.tw10491609206876299696 : True := trivial
theorem hd.tw6528754448969337418 : True := trivial
theorem hd.tw18291419657060728153 : True := trivial
theorem hd.tw17673860158736603733 : True := trivial
theorem hd.tw17252143746492648416 : True := trivial
theorem hd.tw18185175575083235020 : True := trivial
theorem hd.tw4478964076566166474 : True := trivial
theorem hd.tw1506431575118746342 : True := trivial
theorem hd.tw3953601041324332601 : True := trivial
theorem hd.tw3008623586974134963 : True := trivial
theorem hd.tw920214292312260371 : True := trivial
theorem hd.tw8081886968326746073 : True := trivial
theorem hd.tw10614716105012338702 : True := trivial
theorem hd.tw11587034568685482758 : True := trivial
theorem hd.tw17047115858639842297 : True := trivial
theorem hd.tw13285133528070534704 : True := trivial
theorem hd.tw13277076834127875243 : True := trivial
theorem hd.tw6411954120941647267 : True := trivial
theorem hd.tw13919464512627920130 : True := trivial
theorem hd.tw14294001040229213422 : True := trivial
theorem hd.tw2114630138375439770 : True := trivial
theorem hd.tw15837987909243819085 : True := trivial
theorem hd.tw9386895884608548742 : True := trivial
theorem hd.tw11551083187376567056 : True := trivial
theorem hd.tw1600037746751723098 : True := trivial
theorem hd.tw7526368328331116154 : True := trivial
theorem hd.tw5373601922739893978 : True := trivial
theorem hd.tw18103420901670897651 : True := trivial
theorem hd.tw8934143017859847078 : True := trivial
theorem hd.tw11652457597714270106 : True := trivial
theorem hd.tw10403243965636340961 : True := trivial
theorem hd.tw8381844023166312768 : True := trivial
theorem hd.tw1610171440888473627 : True := trivial
theorem hd.tw14906377314874228009 : True := trivial
theorem hd.tw15643275761693703936 : True := trivial
theorem hd.tw3219085151875037572 : True := trivial
theorem hd.tw11210553801493137410 : True := trivial
theorem hd.tw14478148883734587675 : True := trivial
theorem hd.tw4702841417184801058 : True := trivial
theorem hd.tw11465210709893060100 : True := trivial
theorem hd.tw13828106393651249627 : True := trivial
theorem hd.tw16473244170626142550 : True := trivial
theorem hd.tw2068664650715991707 : True := trivial
theorem hd.tw5416991563250132298 : True := trivial
theorem hd.tw15642763164714097627 : True := trivial
theorem hd.tw13770079208771991547 : True := trivial
theorem hd.tw17919194246423945575 : True := trivial
theorem hd.tw432457690288141553 : True := trivial
theorem hd.tw12591134339009171964 : True := trivial
theorem hd.tw100483095206116625 : True := trivial
theorem hd.tw2323474266016966308 : True := trivial
theorem hd.tw7085514621470718492 : True := trivial
theorem hd.tw9557236495431379559 : True := trivial
theorem hd.tw17950676927832955104 : True := trivial
theorem hd.tw4315991029959535628 : True := trivial
theorem hd.tw15529170255622000948 : True := trivial
theorem hd.tw758273949599710562 : True := trivial
theorem hd.tw11117797201346649052 : True := trivial
theorem hd.tw14852329139284432860 : True := trivial
theorem hd.tw11660266114150955751 : True := trivial
theorem hd.tw18264374347568628810 : True := trivial
theorem hd.tw7289634563603522867 : True := trivial
theorem hd.tw10678649693572172417 : True := trivial
theorem hd.tw5054737718236178183 : True := trivial
theorem hd.tw13181700845877081190 : True := trivial
theorem hd.tw2502866573005156581 : True := trivial
theorem hd.tw13220430256171166289 : True := trivial
theorem hd.tw6184460063843016694 : True := trivial
theorem hd.tw1241404454085649124 : True := trivial
theorem hd.tw845060206244984605 : True := trivial
theorem hd.tw9277588360372424766 : True := trivial
theorem hd.tw5961118342813265553 : True := trivial
theorem hd.tw16332348944364537037 : True := trivial
theorem hd.tw5480042469492414594 : True := trivial
theorem hd.tw13330244855972007585 : True := trivial
theorem hd.tw7512474625130614241 : True := trivial
theorem hd.tw212345690472687942 : True := trivial
theorem hd.tw12588582704262371052 : True := trivial
theorem hd.tw8545014587354053640 : True := trivial
theorem hd.tw6759412095888398321 : True := trivial
theorem hd.tw4172343393113369950 : True := trivial
theorem hd.tw4014540891139286612 : True := trivial
theorem hd.tw13431754692932380062 : True := trivial
theorem hd.tw13642289790063256904 : True := trivial
theorem hd.tw8684328023851190084 : True := trivial
theorem hd.tw13217225542625558698 : True := trivial
theorem hd.tw5366084841770067474 : True := trivial
theorem hd.tw2167537188350426706 : True := trivial
theorem hd.tw6038821095411175016 : True := trivial
theorem hd.tw6276725880618359904 : True := trivial
theorem hd.tw8004679753235328684 : True := trivial
theorem hd.tw14620637471214046174 : True := trivial
theorem hd.tw6423634429210846174 : True := trivial
theorem hd.tw5292301768408028288 : True := trivial
theorem hd.tw2708950531961675432 : True := trivial
theorem hd.tw12575139184659369484 : True := trivial
theorem hd.tw4478166936697009375 : True := trivial
theorem hd.tw6818987989461384207 : True := trivial
theorem hd.tw11402939732021071671 : True := trivial
theorem hd.tw5245234834050458271 : True := trivial
theorem hd.tw1882180444382439491 : True := trivial
theorem hd.tw3381375190539634487 : True := trivial
theorem hd.tw3309697970292668127 : True := trivial
theorem hd.tw7534799579077118603 : True := trivial
theorem hd.tw301355949136372926 : True := trivial
/- The head as a lemma, hd._proof_1_693, and its law's own look, hd._proof_1_694. They are laid while simp tries its
   side goal; the try itself falls (the premise stays open), what it laid stays. Elab.async: the names are Mine.hd's. -/
set_option Elab.async true in
theorem hd : Shown 0 ∧ Shown 1 := by
  simp (disch := k_dflt (
    clear hd
    refine' behind (?away : _) ?goal
    (case' goal => (as_aux_lemma =>
      w_on; o_law
      as_aux_lemma =>
        k_head
        (case hw => w_witness2)
        exact ?away)))) only [shown0, shown1]
  exact ⟨trivial, trivial⟩
noncomputable abbrev Led := List (Addr × Obj)
/-- a call's contract: the def at f, called with vs, comes back with a value that R takes; what stood stands -/
@[irreducible] noncomputable def Does (w : World) (f : Addr) (d : Nat) (news : Led) (vs : List Value) (R : Value → Prop) : Prop :=
  ∀ (mean : ExcName → Option Value) (mg mb : Str → Option Value) (dp un : Nat) (gd : Option (List Code)) (cn : Str) (cs : Scope) (a : Addr) (ccd : Value) (cl : List (Str × Addr)) (outer : List Env) (A₀ : Around) (base h₀ : Heap) (L : Addr) (m : Str → Option Value) (s : Shared) (Q E : Value → Shared → Prop),
    Below A₀ base outer h₀ → Fr h₀ L s.heap m → (hd.heap_1_39 w.params).In h₀ → News h₀ L s.heap news → Top hd.view_1_40 (looseW hd.view_1_40 [Str.ofString "Limits"]) mean mg mb h₀ → cs.kind = .function →
    dp + d < recursionLimit → un + 8 * d < cLine →
    (∀ (r : Value) (h' : Heap) (tk' : Nat), R r → Fr h₀ L h' m → News h₀ L h' news → Q r { s with heap := h', toks := tk' }) →
    wpAny (model PySem.Challenge.rw_sa0533_01.row.prog w) (ktrTop dp un gd cn cs L a ccd cl outer) (call (.ref f) vs) Q E s
theorem Does.use {w : World} {f : Addr} {d : Nat} {news : Led} {vs : List Value} {R : Value → Prop} {mean : ExcName → Option Value} {mg mb : Str → Option Value} {dp un : Nat} {gd : Option (List Code)} {cn : Str} {cs : Scope} {a : Addr} {ccd : Value} {cl : List (Str × Addr)} {outer : List Env} {A₀ : Around} {base h₀ : Heap} {L : Addr} {m : Str → Option Value} {s : Shared} {Q E : Value → Shared → Prop}
    (C : Does w f d news vs R)
    (B : Below A₀ base outer h₀) (F : Fr h₀ L s.heap m) (X : (hd.heap_1_39 w.params).In h₀) (N : News h₀ L s.heap news) (T : Top hd.view_1_40 (looseW hd.view_1_40 [Str.ofString "Limits"]) mean mg mb h₀) (hk : cs.kind = .function)
    (hd : dp + d < recursionLimit) (hu : un + 8 * d < cLine)
    (ret : ∀ (r : Value) (h' : Heap) (tk' : Nat), R r → Fr h₀ L h' m → News h₀ L h' news → Q r { s with heap := h', toks := tk' }) :
    wpAny (model PySem.Challenge.rw_sa0533_01.row.prog w) (ktrTop dp un gd cn cs L a ccd cl outer) (call (.ref f) vs) Q E s :=
  by unfold Does at C; exact C mean mg mb dp un gd cn cs a ccd cl outer A₀ base h₀ L m s Q E B F X N T hk hd hu ret
theorem Does.at {w : World} {f : Addr} {d : Nat} {news : Led} {vs : List Value} {R : Value → Prop} {mean : ExcName → Option Value} {mg mb : Str → Option Value} {dp un : Nat} {gd : Option (List Code)} {cn : Str} {cs : Scope} {a : Addr} {ccd : Value} {cl : List (Str × Addr)} {outer : List Env} {A₀ : Around} {base h₀ : Heap} {L : Addr} {m : Str → Option Value} {s : Shared} {Q E : Value → Shared → Prop}
    (B : Below A₀ base outer h₀) (F : Fr h₀ L s.heap m) (X : (hd.heap_1_39 w.params).In h₀) (N : News h₀ L s.heap news) (T : Top hd.view_1_40 (looseW hd.view_1_40 [Str.ofString "Limits"]) mean mg mb h₀) (hk : cs.kind = .function)
    (hd : dp + d < recursionLimit) (hu : un + 8 * d < cLine) (C : Does w f d news vs R)
    (ret : ∀ (r : Value) (h' : Heap) (tk' : Nat), R r → Fr h₀ L h' m → News h₀ L h' news → Q r { s with heap := h', toks := tk' }) :
    wpAny (model PySem.Challenge.rw_sa0533_01.row.prog w) (ktrTop dp un gd cn cs L a ccd cl outer) (call (.ref f) vs) Q E s := C.use B F X N T hk hd hu ret
theorem intR {x y : Int} {t : Tok} (e : y = x) : ∃ t', Value.int y t = Value.int x t' := ⟨t, by rw [e]⟩
theorem rules_F_1 : True := by
  k_with "mine mine pre0" => (((any_goals ((with_reducible show Below _ _ _ _); k_asm)); (any_goals ((with_reducible show Fr _ _ _ _); k_asm)); (any_goals ((with_reducible show Frag.In _ _); k_asm)); (any_goals ((with_reducible show News _ _ _ _); k_asm)); (any_goals ((with_reducible show Top _ _ _ _ _ _); k_asm))))
  k_with "mine mine pre1" => (((any_goals ((with_reducible show _ = ScopeKind.function); (first | exact rfl | assumption))); (any_goals ((with_reducible show _ < recursionLimit); ktr_room)); (any_goals ((with_reducible show _ < cLine); ktr_units))))
  k_with "mine mine pre" => ((walk_at "mine pre0"; walk_at "mine pre1"))
  k_with "mine mine int" => ((intro r9 h9 tk9 e9 F9 N9; obtain ⟨t9, e9⟩ := e9; subst e9; (try dsimp only); (try k_fold)))
  k_with "mine mine eq" => ((intro r9 h9 tk9 e9 F9 N9; subst e9; (try dsimp only); (try k_fold)))
  k_with "mine mine eq0" => (walk_at "mine eq")
  trivial
local macro_rules | `(tactic| k_room) => `(tactic| ktr_room)
local macro_rules | `(tactic| k_units) => `(tactic| ktr_units)
theorem rules_F_2 : True := by
  k_with "mine eval Call Name cons nil" => ((k_here; refine Call_ ?_))
  trivial
local macro_rules | `(tactic| walk_at "eval Name") => `(tactic| (k_here; k_dflt (first
  | (refine' ld ?k1 ?k2 ?_; (case k1 => k_asm); (case k2 => exact rfl); k_whole)
  | ((with_reducible rename Fr _ _ _ _ => kF); with_unfolding_all refine guard_global (by rfl) ?_; refine' name_K kF ?k1 ?k2 ?k3 ?_; (case k1 | k2 => k_asm); (case k3 => k_is); k_whole))))
local macro_rules | `(tactic| walk_at "call ref") => `(tactic| (k_here; k_dflt (refine wpAny_call ?_; cell_enter)))
/-- the wrapped number, as the code reckons it -/
noncomputable def wrapZ (n wd : Int) : Int :=
  if (n.fmod (1 * 2 ^ wd.toNat)).fdiv (2 ^ (wd - 1).toNat) = 0 then n.fmod (1 * 2 ^ wd.toNat) else n.fmod (1 * 2 ^ wd.toNat) - 1 * 2 ^ wd.toNat
theorem two_pow_ne (k : Nat) : ¬ ((1 : Int) * 2 ^ k = 0) := by
  rw [Int.one_mul]; exact Int.pow_ne_zero (by decide)
theorem wrap_does (w : World) (news : Led) (n wd : Int) (t u : Tok) (h3 : 3 ≤ wd) (h64 : wd ≤ 64) : Does w 60 1 news [.int n t, .int wd u] (fun r => ∃ t, r = .int (wrapZ n wd) t) := by
  unfold Does
  intro mean mg mb dp un gd cn cs a ccd cl outer A₀ base h₀ L m s Q E B F X N T hk hd hu hret
  refine wpAny_call ?_
  k_dflt cell_enter
  k_steps
  · exact absurd (by assumption) (two_pow_ne _)
  · exact hret _ _ _ (intR (by rw [wrapZ, if_neg (by assumption)])) (by assumption) (by assumption)
  · exact hret _ _ _ (intR (by rw [wrapZ, if_pos (by assumption)])) (by assumption) (by assumption)
local macro_rules | `(tactic| walk_at "call ref") => `(tactic| (k_here; k_dflt (refine' Does.at ?_ ?_ ?_ ?_ ?_ ?_ ?_ ?_ (wrap_does _ _ _ _ _ _ ?k3 ?k4) ?_; walk_at "mine pre"; (case k3 | k4 => assumption); walk_at "mine int")))
noncomputable abbrev limDict (h1 h2 h3 h4 h5 : Int) (k1 k2 k3 k4 k5 t1 : Tok) (v2 v3 v4 v5 : Value) (wd : Int) : List DictEntry :=
  [⟨h1, .str (Str.ofString "width") k1, .int wd t1⟩, ⟨h2, .str (Str.ofString "depth") k2, v2⟩, ⟨h3, .str (Str.ofString "steps") k3, v3⟩, ⟨h4, .str (Str.ofString "text") k4, v4⟩, ⟨h5, .str (Str.ofString "items") k5, v5⟩]
/-- the limits stand in the ledger, with this width -/
noncomputable def LimAt (news : Led) (lim : Addr) (wd : Int) : Prop :=
  ∃ (dx : Addr) (n : Nat) (h1 h2 h3 h4 h5 : Int) (k1 k2 k3 k4 k5 t1 : Tok) (v2 v3 v4 v5 : Value), (lim, instObj 477 dx) ∈ news ∧ (dx, dictOf (limDict h1 h2 h3 h4 h5 k1 k2 k3 k4 k5 t1 v2 v3 v4 v5 wd) n) ∈ news
theorem news_more {h₀ h : Heap} {L : Addr} {news : Led} (N : News h₀ L h news) {p : Addr × Obj} (hp : p ∈ news) : News h₀ L h (p :: news) := fun q hq => by
  rcases List.mem_cons.mp hq with rfl | hq
  · exact N _ hp
  · exact N _ hq
theorem news_sub {h₀ h : Heap} {L : Addr} {news news' : Led} (N : News h₀ L h news) (hs : ∀ p ∈ news', p ∈ news) : News h₀ L h news' := fun p hp => N p (hs p hp)
/-- a contract over the ledger with the limits written ahead is one over the ledger that holds them -/
theorem does_lim {w : World} {f : Addr} {d : Nat} {news : Led} {vs : List Value} {R : Value → Prop} {lim : Addr} {wd : Int} (hl : LimAt news lim wd)
    (C : ∀ (dx : Addr) (kn : Nat) (h1 h2 h3 h4 h5 : Int) (k1 k2 k3 k4 k5 t1 : Tok) (v2 v3 v4 v5 : Value), Does w f d ((lim, instObj 477 dx) :: (dx, dictOf (limDict h1 h2 h3 h4 h5 k1 k2 k3 k4 k5 t1 v2 v3 v4 v5 wd) kn) :: news) vs R) : Does w f d news vs R := by
  unfold Does at C ⊢
  obtain ⟨dx, kn, h1, h2, h3, h4, h5, k1, k2, k3, k4, k5, t1, v2, v3, v4, v5, m1, m2⟩ := hl
  intro mean mg mb dp un gd cn cs a ccd cl outer A₀ base h₀ L m s Q E B F X N T hk hd hu hret
  exact C dx kn h1 h2 h3 h4 h5 k1 k2 k3 k4 k5 t1 v2 v3 v4 v5 mean mg mb dp un gd cn cs a ccd cl outer A₀ base h₀ L m s Q E B F X (news_more (news_more N m2) (.tail _ m1)) T hk hd hu
    fun r h' tk' hr F' N' => hret r h' tk' hr F' (news_sub N' fun p hp => .tail _ (.tail _ hp))
section
variable {M : Model} {A : Around} {E : Value → Shared → Prop} {h : Heap} {g : Array GenState} {d : Drawn} {t : Nat} {os : OsState}
variable {nm q : Str} {C N : Addr} {bs bm bmB : List Value} {hdct : Bool} {sn : List Str} {sub : List Value} {ab : Bool} {col : Option Bool} {dd : Option Addr} {k0 k1 k2 k3 k5 : Option Value} {B newId initId : String}
theorem die_check_new (F : ExcBaseFacts B newId initId bmB) (hB : bm.contains (.type B) = true) {rest : List Value} {Q : Unit → Shared → Prop} (hC : h.get? C = some (excClassObj nm q C N bs bm hdct sn sub ab col dd k0 k1 k2 k3 k5 newId))
    (hq : Q () ⟨h, g, d, t, os⟩) : wpAny M A (checkBuiltinCall newId ⟨.ref C :: rest, []⟩) Q E ⟨h, g, d, t, os⟩ := by
  have hcont : (Value.ref C :: bm).contains (.type B) = true := by rw [List.contains_cons, hB, Bool.or_true]
  have hstar := F.noStar
  simp only [checkBuiltinCall, F.newKind, F.newSplit, F.newRow]
  repeat (first | refine wpAny_loadPart_at hC ?_ | (refine wpAny_isSubtype_exc hC ?_; rw [hcont]) | refine wpAny_staticBase_exc hC ?_ | refine wpAny_madeBy_exc hC ?_ | simp only [bne_self_eq_false, Bool.false_eq_true, if_false] | wp_step)
  exact hq
end
noncomputable abbrev dieObj (C t : Addr) : Obj := { cls := .ref C, data := .fields #[.ref t, .none, .none, .none, .bool false, .none] }
noncomputable abbrev dieObjD (C t dx : Addr) : Obj := { cls := .ref C, dict := some dx, data := .fields #[.ref t, .none, .none, .none, .bool false, .none] }
noncomputable abbrev dieTup (rest : List Value) : Obj := { cls := .type "tuple", data := .seq rest.toArray }
section
variable {prog : Program} {w : World} {A : Around} {R : Result → Shared → Prop} {h : Heap} {g : Array GenState} {d : Drawn} {t : Nat} {os : OsState}
variable {nm q : Str} {C N : Addr} {bs bm bmB : List Value} {hdct : Bool} {sn : List Str} {sub : List Value} {ab : Bool} {col : Option Bool} {dd : Option Addr} {k0 k1 k2 k3 k5 : Option Value} {B newId initId : String}
theorem die_new (F : ExcBaseFacts B newId initId bmB) (hB : bm.contains (.type B) = true) (hA : bm.contains (.type "AttributeError") = false) (hN : bm.contains (.type "NameError") = false) {rest : List Value}
    (hC : h.get? C = some (excClassObj nm q C N bs bm hdct sn sub ab col dd k0 k1 k2 k3 k5 newId))
    (hq : R (.ok (.ret (.ref (h.objs.size + 1)))) ⟨(h.push (dieTup rest)).push (dieObj C h.objs.size), g, d, t, os⟩) (hrest : rest.length ≤ sizeLine) :
    codeAny (model prog w) A (.builtin newId ⟨.ref C :: rest, []⟩) R ⟨h, g, d, t, os⟩ := by
  have hends := F.ends
  have hcB : (Value.ref C :: bm).contains (.type B) = true := by rw [List.contains_cons, hB, Bool.or_true]
  have hcA : (Value.ref C :: bm).contains (.type "AttributeError") = false := by rw [List.contains_cons, hA]; rfl
  have hcN : (Value.ref C :: bm).contains (.type "NameError") = false := by rw [List.contains_cons, hN]; rfl
  refine codeAny_builtinAt F.entry ?_
  unfold Builtin.«BaseException.__new__»
  refine PySem.wpAt_bind ?_
  show PySem.wpAt _ _ _ (stack >>= _) _ _ _
  refine PySem.wpAt_bind (PySem.wpAt_stack fun p below => PySem.wpAt_of_wpAny ?_)
  wp_walk
  refine PySem.wpAt_of_wpAny ?_
  rw [F.owner]
  repeat (first | with_reducible refine wpAny_madeHere_exc F.canon hC ?_ | with_reducible refine wpAny_loadPart_at hC ?_ | (with_reducible refine wpAny_isSubtype_exc hC ?_; first | rw [hcB] | rw [hcA] | rw [hcN]) | wp_step)
  show R _ _
  rw [Heap.size_push]
  exact hq

theorem die_call_core (F : ExcBaseFacts B newId initId bmB) (hB : bm.contains (.type B) = true) (hA : bm.contains (.type "AttributeError") = false) (hN : bm.contains (.type "NameError") = false) {rest : List Value} {init : Value}
    (hC : h.get? C = some (excClassObj nm q C N bs bm hdct sn sub ab col dd k0 k1 k2 k3 k5 newId)) (hrest : rest.length ≤ sizeLine)
    (call : Looks (model prog w) h (specialOf (.ref C) "__call__") (some (.builtin "type.__call__"))) (typ : Looks (model prog w) h (isInstance (.ref C) (.type "type")) true)
    (hi : Looks (model prog w) h (typeLookup (.ref C) "__init__") (some init)) (hb : ∀ self, Looks (model prog w) h (bindSpecial init self) (init, [self]))
    (hq : codeAny (model prog w) (A.under (.builtin "type.__call__" ⟨.ref C :: rest, []⟩)) (.call init ⟨.ref (h.objs.size + 1) :: rest, []⟩) (InitBack (h.objs.size + 1) R) ⟨(h.push (dieTup rest)).push (dieObj C h.objs.size), g, d, t, os⟩) :
    codeAny (model prog w) A (.call (.ref C) ⟨rest, []⟩) R ⟨h, g, d, t, os⟩ := by
  have hC' := hC
  refine codeAny_of_tree ?_
  show wpAny _ _ (callAny (.ref C) _) _ _ _
  refine nd_load hC ?_
  show wpAny _ _ (callAny.viaDunder (.ref C) _) _ _ _
  unfold callAny.viaDunder
  refine wpAny_bind (call.at ?_)
  dsimp only
  rw [tc_bind]
  refine wpAny_bind (wpAny_pure (wpAny_bind (wpAny_pure ?_)))
  refine wpAny_pure (a := Fin.again (.call (.builtin "type.__call__") ⟨.ref C :: rest, []⟩)) (And.intro rfl ?_)
  refine codeAny_call_builtin_at (Code.quiet_builtin _ (by decide +kernel)) entry_typeCall (check_slot tc_kind tc_split typ (tc_args _ _ _) ?_)
  unfold Builtin.«type.__call__»
  repeat (first | with_reducible refine wpAny_loadPart_at hC ?_ | with_reducible refine wpAny_mroOf_exc hC ?_ | with_reducible refine wpAny_madeBy_exc hC ?_ | wp_step)
  refine codeAny_call_builtin_code (Code.quiet_builtin _ F.quiet) (die_check_new F hB hC ?_)
  refine die_new F hB hA hN hC ?_ hrest
  have k : ∀ b o, h.get? b = some o → ((h.push (dieTup rest)).push (dieObj C h.objs.size)).get? b = some o := fun b o e => Heap.get?_push_of_some _ (Heap.get?_push_of_some _ e)
  have hx : ((h.push (dieTup rest)).push (dieObj C h.objs.size)).get? (h.objs.size + 1) = some (dieObj C h.objs.size) := by heap_get
  have hC₁ := k _ _ hC
  have hcC : (Value.ref C :: bm).contains (.ref C) = true := by simp
  have t1 : Looks (model prog w) ((h.push (dieTup rest)).push (dieObj C h.objs.size)) (typeOf (.ref (h.objs.size + 1))) (.ref C) := (Looks.ld hx).andThen .now
  have i1 := hi.keeps k
  have b1 := (hb (.ref (h.objs.size + 1))).keeps k
  show wpAny _ _ _ _ _ _
  have self₁ : Looks (model prog w) ((h.push (dieTup rest)).push (dieObj C h.objs.size)) (isSubtype (.ref C) (.ref C)) true := by
    intro A Q E s hk hq
    obtain ⟨hp, g', d', t', os'⟩ := s
    refine wpAny_isSubtype_exc (hk _ _ hC₁) ?_
    rw [hcC]; exact hq
  unfold isInstance callSpecial? specialOf
  repeat (first | with_reducible refine wpAny_call ?_ | lk)
  refine codeAny_mono hq fun r s' z => ?_
  rcases r with e | (v | _ | _ | _) <;> first | exact z | exact z.elim | skip
  obtain ⟨rfl, z⟩ := z
  exact wpAny_pure (wpAny_pure z)
end
section
variable {prog : Program} {w : World} {A : Around} {R : Result → Shared → Prop} {s : Shared} {K : Frag} {h₀ : Heap} {L C fI : Addr} {m : Str → Option Value} {news : Led}
variable {nm q : Str} {N : Addr} {bs bm bmB : List Value} {hdct : Bool} {sn : List Str} {sub : List Value} {ab : Bool} {col : Option Bool} {dd : Option Addr} {k0 k1 k2 k3 k5 : Option Value} {B newId initId : String}
theorem die_K (FB : ExcBaseFacts B newId initId bmB) {rest : List Value} (F : Fr h₀ L s.heap m) (X₀ : K.In h₀) (Nw : News h₀ L s.heap news)
    (hl : K.lookup C = some (excClassObj nm q C N bs bm hdct sn sub ab col dd k0 k1 k2 k3 k5 newId))
    (hB : bm.contains (.type B) = true) (hA : bm.contains (.type "AttributeError") = false) (hN : bm.contains (.type "NameError") = false)
    (hc : specialIn K (.ref C) "__call__" = some (some (.builtin "type.__call__"))) (ht : instIn K (.ref C) (.type "type") = some true) (hi : findIn K (.ref C) "__init__" = some (some (.ref fI))) (hf : isFn K (.ref fI) = true) (hrest : rest.length ≤ sizeLine)
    (h : ∀ x t h', Fr h₀ L h' m → News h₀ L h' ((x, dieObj C t) :: (t, dieTup rest) :: news) → (∀ p ∈ news, p.1 < t) → t < x → s.heap.get? x = none → s.heap.StaysIn h' →
      codeAny (model prog w) (A.under (.builtin "type.__call__" ⟨.ref C :: rest, []⟩)) (.call (.ref fI) ⟨.ref x :: rest, []⟩) (InitBack x R) { s with heap := h' }) :
    codeAny (model prog w) A (.call (.ref C) ⟨rest, []⟩) R s := by
  have X := X₀.keeps F.keep
  obtain ⟨hh, g, d, t, os⟩ := s
  have Nn := (Nw.push F (dieTup rest)).push (F.push _) (dieObj C hh.objs.size)
  rw [Heap.size_push] at Nn
  exact die_call_core FB hB hA hN (X _ _ hl) hrest (looks_specialIn X hc) (looks_instIn X ht) (looks_findIn X hi) (fun self => bind_fn X self (beq_iff_eq.mp hf))
    (h _ hh.objs.size _ ((F.push _).push _) Nn (fun p hp => Heap.lt_size (Nw p hp).1) (Nat.lt_succ_self _) (Heap.get?_none_of_le (Nat.le_succ _)) (fun b o e => Heap.get?_push_of_some _ (Heap.get?_push_of_some _ e)))
end
/-- an mro of own classes over Exception -/
noncomputable def dieMro : List Value → Bool
  | [.type a, .type b, .type c] => a == "Exception" && b == "BaseException" && c == "object"
  | .ref _ :: r => dieMro r
  | _ => false
theorem die_refuse (self : Value) : ∀ {l : List Value}, dieMro l = true → refuseLoop self "__setattr__" l = pure ()
  | [.type a, .type b, .type c], e => by
    unfold dieMro at e
    simp only [Bool.and_eq_true, beq_iff_eq] at e
    obtain ⟨⟨rfl, rfl⟩, rfl⟩ := e
    exact PySem.F.store_Exception.passes self
  | .ref c :: r, e => by rw [refuseLoop_ref]; exact die_refuse self (by unfold dieMro at e; exact e)
theorem die_has : ∀ {l : List Value}, dieMro l = true → l.contains (.type "object") = true
  | [.type a, .type b, .type c], e => by
    unfold dieMro at e
    simp only [Bool.and_eq_true, beq_iff_eq] at e
    obtain ⟨⟨rfl, rfl⟩, rfl⟩ := e
    decide
  | .ref c :: r, e => by rw [List.contains_cons, die_has (l := r) (by unfold dieMro at e; exact e), Bool.or_true]
noncomputable def dieOver (K : Frag) (C : Addr) : Bool := (clsIn K C).any fun cd => dieMro cd.mro && !cd.mro.isEmpty
section
open Builtin Builtin.ObjectAttr
variable {prog : Program} {w : World} {A : Around} {E : Value → Shared → Prop} {R : Result → Shared → Prop} {s : Shared} {K : Frag} {h₀ : Heap} {L C x : Addr} {m : Str → Option Value} {news : Led}
theorem die_osa_open {ox : Obj} {od : Option Obj} {name : Str} {tk : Tok} {v : Value} (X : K.In s.heap) (I : InstAt s.heap x ox C od) (hp : dieOver K C = true) (ht : takerIn K C name = some none)
    (h : ∀ b, wpAny (model prog w) A.in1 (storeInOwnDict (.ref x) (.ref C) (.str name tk) name v b)
      (fun fin s' => match fin with | .done f => R (.ok f) s' | .again c' => c'.quiet = true ∧ codeAny (model prog w) A c' R s') (fun e s' => R (.error e) s') s) :
    codeAny (model prog w) A (.call (.builtin "object.__setattr__") ⟨[.ref x, .str name tk, v], []⟩) R s := by
  have SF := PySem.F.store_Exception
  obtain ⟨cd, hc, ho⟩ := any_some hp
  obtain ⟨ho, ne⟩ := Bool.and_eq_true_iff.mp ho
  have ne : cd.mro.isEmpty = false := by simpa using ne
  have sub : Looks (model prog w) s.heap (isInstance (.ref x) (.type "object")) true := I.type.andThen (looks_mroIn X (by unfold mroIn; rw [hc, Option.bind_some, if_neg (by rw [ne]; decide), die_has ho]))
  refine codeAny_call_builtin SF.slot.plain SF.entry (@check_slot (model prog w) _ _ s "object.__setattr__" "object" "__setattr__" (.ref x) [.str name tk, v] [] _ SF.kind SF.split sub (SF.args (.ref x) (.str name tk) v) ?_)
  obtain ⟨attr, ha, hr⟩ := Option.bind_eq_some_iff.mp ht
  have hm : Looks (model prog w) s.heap (mroOf (.ref C)) cd.mro := (looks_clsIn X hc).andThen .now
  have L3 : Looks (model prog w) s.heap (storeTaker? attr) none := by
    cases attr with
    | none => cases hr; exact .now
    | some a =>
      obtain ⟨b, hb, hr⟩ := Option.map_eq_some_iff.mp hr
      refine (looks_takesIn X hb).andThen ?_
      cases b <;> first | exact .now | cases hr
  rw [osa_eq, refuse_eq]
  refine wpAny_bind (wpAny_bind (I.type.here (wpAny_bind (hm.here ?_))))
  rw [die_refuse _ ho]
  refine wpAny_pure (wpAny_bind (I.type.here (wpAny_bind ((looks_findIn X ha).here (wpAny_bind (L3.here ?_))))))
  exact h _

theorem die_set1 {t : Addr} {name : Str} {v : Value} {Q : Unit → Shared → Prop} (F : Fr h₀ L s.heap m) (X₀ : K.In h₀) (N : News h₀ L s.heap ((x, dieObj C t) :: news)) (hne : ∀ p ∈ news, p.1 ≠ x)
    (hs : findIn K (.ref C) "__setattr__" = some (some (.builtin "object.__setattr__"))) (ht : takerIn K C name = some none) (hp : dieOver K C = true) (hh : hasDictIn K C = true)
    (h : ∀ dx h', Fr h₀ L h' m → News h₀ L h' ((dx, dictOf [⟨PyData.keyHash w.params name, .str name (s.toks + 1), v⟩] 1) :: (x, dieObjD C t dx) :: news) → (∀ p ∈ (x, dieObjD C t dx) :: news, p.1 ≠ dx) → Q () { s with heap := h', toks := s.toks + 2 }) :
    wpAny (model prog w) A (setAttr (.ref x) name v) Q E s := by
  have X := X₀.keeps F.keep
  have hx := (N _ (.head _)).1
  have I : InstAt s.heap x (dieObj C t) C none := ⟨hx, rfl, rfl, True.intro⟩
  refine set_plain X I hs (die_osa_open (s := { s with toks := s.toks + 1 }) X I hp ht fun b => ?_)
  obtain ⟨cd, hc, hd'⟩ := any_some hh
  have F1 := F.push emptyDict
  have N1 := N.push F emptyDict
  have hlt : ∀ p ∈ (x, dieObj C t) :: news, p.1 ≠ s.heap.objs.size := fun p hp => Nat.ne_of_lt (Heap.lt_size (N p hp).1)
  obtain ⟨F2, N2⟩ := news_upd (pre := [(s.heap.objs.size, emptyDict)]) (d := x) (o := dieObj C t) (o' := dieObjD C t s.heap.objs.size) (post := news) (f := fun o => { o with dict := some s.heap.objs.size }) F1 N1
    (fun p hp => by rcases List.mem_cons.mp hp with rfl | hp; exact (hlt _ (.head _)).symm; cases hp) hne rfl rfl
  obtain ⟨F3, N3⟩ := news_upd (pre := []) (d := s.heap.objs.size) (o := emptyDict) (o' := dictOf [⟨PyData.keyHash w.params name, .str name (s.toks + 1), v⟩] 1) (post := (x, dieObjD C t s.heap.objs.size) :: news)
    (f := Obj.putName name (PyData.keyHash w.params name) (.str name (s.toks + 1)) v) F2 N2 (fun _ hp => nomatch hp)
    (fun p hp => by rcases List.mem_cons.mp hp with rfl | hp; exact hlt (x, dieObj C t) (.head _); exact hlt _ (.tail _ hp)) (putName_dict name _ _ v [] 0) rfl
  have D := (N2 (s.heap.objs.size, emptyDict) (.head _)).1
  have D' := (N3 _ (.head _)).1
  have hx1 : (s.heap.push emptyDict).get? x = some (dieObj C t) := Heap.get?_push_of_some _ hx
  refine wpAny_bind (wpAny_pure (wpAny_bind (wpAny_bind (wpAny_loadPart hx (wpAny_bind ((looks_clsIn X hc).at ?_))))))
  rw [hd']
  refine wpAny_bind (wpAny_alloc (wpAny_bind (wpAny_update (o := dieObj C t) hx1 ?_)))
  refine wpAny_pure (a := some s.heap.objs.size) (wpAny_bind (wpAny_pure (wpAny_bind ?_)))
  unfold nsSet
  refine wpAny_bind (wpAny_bind (wpAny_askSetting (wpAny_pure (wpAny_bind (wpAny_mkText (wpAny_bind (wpAny_loadPart D ?_)))))))
  refine wpAny_updatePart D ?_
  refine wpAny_bind (wpAny_lookBehind D' (by exact pastItsLine_dict (by rw [sizeLine_eq]; show (1 : Nat) ≤ _; decide)) ?_)
  exact wpAny_pure (h _ _ F3 N3 fun p hp => by rcases List.mem_cons.mp hp with rfl | hp; exact hlt (x, dieObj C t) (.head _); exact hlt _ (.tail _ hp))

theorem die_set2 {ox : Obj} {dx : Addr} {name : Str} {v : Value} {Q : Unit → Shared → Prop} {post : Led} {es es' : List DictEntry} {n n' : Nat} (F : Fr h₀ L s.heap m) (X₀ : K.In h₀) (N : News h₀ L s.heap ((dx, dictOf es n) :: post))
    (I : InstAt s.heap x ox C (some (dictOf es n))) (hd : ox.dict = some dx)
    (hs : findIn K (.ref C) "__setattr__" = some (some (.builtin "object.__setattr__"))) (ht : takerIn K C name = some none) (hp : dieOver K C = true) (hh : hasDictIn K C = true)
    (hl : (getL name es).isSome = true) (h2 : ∀ p ∈ post, p.1 ≠ dx)
    (e : (putL name (PyData.keyHash w.params name) (.str name (s.toks + 1)) v es, putN name es n) = (es', n')) (hz : es'.length ≤ 1000)
    (h : ∀ h', Fr h₀ L h' m → News h₀ L h' ((dx, dictOf es' n') :: post) → Q () { s with heap := h', toks := s.toks + 2 }) :
    wpAny (model prog w) A (setAttr (.ref x) name v) Q E s := by
  have X := X₀.keeps F.keep
  obtain ⟨e1, e2⟩ := Prod.mk.inj e
  refine set_plain X I hs (die_osa_open (s := { s with toks := s.toks + 1 }) X I hp ht fun b => ?_)
  obtain ⟨cd, hc, hd'⟩ := any_some hh
  obtain ⟨U1, U2⟩ := news_upd (pre := []) (f := Obj.putName name (PyData.keyHash w.params name) (.str name (s.toks + 1)) v) (o' := dictOf es' n') F N (fun _ hp => nomatch hp) h2 (by rw [putName_dict, e1, e2]) rfl
  have D := (N (dx, dictOf es n) (by simp)).1
  have D' := (U2 (dx, dictOf es' n') (by simp)).1
  obtain ⟨hx, hcl, hn, -⟩ := I
  obtain ⟨oc, odi, oda, osl⟩ := ox
  dsimp only at hcl hd
  subst hcl hd
  refine wpAny_bind (wpAny_pure (wpAny_bind (wpAny_bind (wpAny_loadPart hx (wpAny_bind ((looks_clsIn X hc).at ?_))))))
  rw [hd']
  refine wpAny_pure (a := some dx) (wpAny_bind (wpAny_pure (wpAny_bind ?_)))
  unfold nsSet
  refine wpAny_bind (wpAny_bind (wpAny_askSetting (wpAny_pure (wpAny_bind (wpAny_mkText (wpAny_bind (wpAny_loadPart D ?_)))))))
  dsimp only
  have c : (!es.toArray.any (·.key.isStr name) && es.toArray.any (·.refKey)) = false := by
    rw [← Array.any_toList, ← Array.any_toList]
    unfold getL at hl
    split at hl
    · rename_i en he
      rw [List.any_eq_true.mpr ⟨en, List.mem_of_find?_eq_some he, List.find?_some he⟩]; rfl
    · split at hl
      · cases hl
      · rename_i z; rw [Bool.not_eq_true] at z; rw [z, Bool.and_false]
  rw [aRefKeyMayBeTheName_at, c]
  refine wpAny_updatePart D ?_
  refine wpAny_bind (wpAny_lookBehind D' (by exact pastItsLine_dict (by rw [List.size_toArray, sizeLine_eq]; omega)) ?_)
  exact wpAny_pure (h _ U1 U2)
end
section
variable {prog : Program} {w : World} {A : Around} {E : Value → Shared → Prop} {s : Shared} {K : Frag} {h₀ : Heap} {L C x : Addr} {m : Str → Option Value} {news : Led}
variable {nm q : Str} {N : Addr} {bs bm bmB : List Value} {hdct : Bool} {sn : List Str} {sub : List Value} {ab : Bool} {col : Option Bool} {dd : Option Addr} {k0 k1 k2 k3 k5 : Option Value} {B newId newId' initId : String}
theorem die_init {t : Addr} {rest : List Value} {Q : Value → Shared → Prop} (FB : ExcBaseFacts B newId initId bmB) (F : Fr h₀ L s.heap m) (X₀ : K.In h₀) (Nw : News h₀ L s.heap ((x, dieObj C t) :: news)) (hne : ∀ p ∈ news, p.1 ≠ x)
    (hl : K.lookup C = some (excClassObj nm q C N bs bm hdct sn sub ab col dd k0 k1 k2 k3 k5 newId')) (hB : bm.contains (.type B) = true) (hrest : rest.length ≤ sizeLine)
    (h : ∀ t' h', Fr h₀ L h' m → News h₀ L h' ((x, dieObj C t') :: (t', dieTup rest) :: news) → (∀ p ∈ (t', dieTup rest) :: news, p.1 ≠ x) → Q .none { s with heap := h' }) :
    wpAny (model prog w) A (call (.builtin initId) (.ref x :: rest)) Q E s := by
  have X := X₀.keeps F.keep
  obtain ⟨hh, g, d, tk, os⟩ := s
  have hC := X _ _ hl
  have hx := (Nw _ (.head _)).1
  have hcB : (Value.ref C :: bm).contains (.type B) = true := by rw [List.contains_cons, hB, Bool.or_true]
  have chk : ∀ {M : Model} {A' : Around} {Q' : Unit → Shared → Prop} {E' : Value → Shared → Prop}, Q' () ⟨hh, g, d, tk, os⟩ → wpAny M A' (checkBuiltinCall initId ⟨.ref x :: rest, []⟩) Q' E' ⟨hh, g, d, tk, os⟩ := by
    intro M A' Q' E' hq
    have hshort := FB.noStar
    simp only [checkBuiltinCall, FB.initKind, FB.initSplit, FB.initRow]
    repeat (first | (with_reducible refine wpAny_loadPart_at hx ?_) | with_reducible refine wpAny_loadPart_at hC ?_ | (with_reducible refine wpAny_isSubtype_exc hC ?_; rw [hcB]) | wp_step)
    refine wpAny_onRaise ?_
    rw [show ∀ (a b : String) (n : Nat), Bind.check ⟨.positional, "*", B, .self, [⟨"args", .varPos, false⟩]⟩ a b n (List.map (fun x => x.fst) ({ pos := Value.ref x :: rest } : Args).kw) = pure () from
      fun a b n => check_star_args _ _ _ _ _ _]
    exact wpAny_pure hq
  refine wpAny_call (codeAny_call_builtin FB.init.plain FB.initEntry (chk ?_))
  have hx1 : (hh.push (dieTup rest)).get? x = some (dieObj C t) := Heap.get?_push_of_some _ hx
  have F1 := F.push (dieTup rest)
  have N1 := Nw.push F (dieTup rest)
  have hlt : ∀ p ∈ (x, dieObj C t) :: news, p.1 ≠ hh.objs.size := fun p hp => Nat.ne_of_lt (Heap.lt_size (Nw p hp).1)
  obtain ⟨F2, N2⟩ := news_upd (pre := [(hh.objs.size, dieTup rest)]) (d := x) (o := dieObj C t) (o' := dieObj C hh.objs.size) (post := news) (f := Obj.mapFields (·.setIfInBounds 0 (.ref hh.objs.size))) F1 N1
    (fun p hp => by rcases List.mem_cons.mp hp with rfl | hp; exact (hlt _ (.head _)).symm; cases hp) hne rfl rfl
  unfold Builtin.«BaseException.__init__» Builtin.BaseException.bexcPut
  repeat (first | (with_reducible refine wpAny_loadPart_at hx1 ?_) | wp_step)
  exact h hh.objs.size _ F2 (news_sub N2 fun p hp => by
    rcases List.mem_cons.mp hp with rfl | hp
    · exact .tail _ (.head _)
    · rcases List.mem_cons.mp hp with rfl | hp
      · exact .head _
      · exact .tail _ (.tail _ hp)) fun p hp => by
    rcases List.mem_cons.mp hp with rfl | hp
    · exact (hlt _ (.head _)).symm
    · exact hne p hp
end
/-- an exception of the class C: what a raise asks of it -/
structure DieIs (ob : Obj) (C : Addr) : Prop where
  cls : ob.cls = .ref C
  data : ∃ vs a0, ob.data = .fields vs ∧ vs[0]? = some a0 ∧ vs[1]? = some .none
section
variable {M : Model} {A : Around} {E : Value → Shared → Prop} {s' : Shared} {base g : Heap} {outer : List Env} {L a e C : Addr} {m : Str → Option Value} {name : Str} {scope : Scope} {cd : Value} {Q : Unit → Shared → Prop} {news : Led} {ob : Obj}
theorem die_leave (hx : DieIs ob C) (hne : ∀ p ∈ news, p.1 ≠ e) (K : Below A base outer g) (F : Fr g L s'.heap m) (N : News g L s'.heap ((e, ob) :: news))
    (hQ : ∀ h', RaisedN base outer e (.ref C) news h' → g.UpToSlots h' → Q () { s' with heap := h' }) (hk : scope.kind = .function := by rfl) :
    wpAny M (A.deeper (envOf name scope L a cd)) (leaving (envOf name scope L a cd) (.ref e)) Q E s' := by
  have K' := K.push (name := name) (a := a) (cd := cd) F hk
  have hbe : base.get? e = none := fresh_of_stays K.stays (N _ (.head _)).2.2
  have hin : ∀ env ∈ (envOf name scope L a cd :: outer), ∀ b, env.frame = some b → b ∈ e :: (envOf name scope L a cd :: outer).filterMap (·.frame) := fun env he b hb => .tail _ (List.mem_filterMap.mpr ⟨env, he, hb⟩)
  have st : base.StaysIn (hideAll s'.heap (e :: (envOf name scope L a cd :: outer).filterMap (·.frame))) := fun b o q => hideAll_get _ (K'.stays b o q) fun hm => by
    rcases List.mem_cons.mp hm with rfl | hm
    · rw [hbe] at q; cases q
    · rw [(K'.frames.mem hm).1] at q; cases q
  have hl : ∀ q ∈ news, (hideAll s'.heap (e :: (envOf name scope L a cd :: outer).filterMap (·.frame))).get? q.1 = some q.2 ∧ base.get? q.1 = none := fun q hq => by
    have P := N q (.tail _ hq)
    refine ⟨hideAll_get _ P.1 fun hm => ?_, fresh_of_stays K.stays P.2.2⟩
    rcases List.mem_cons.mp hm with q' | hm
    · exact hne q hq q'
    obtain ⟨env, he, hf⟩ := List.mem_filterMap.mp hm
    rcases List.mem_cons.mp he with rfl | he
    · exact P.2.1 (Option.some.inj hf).symm
    · obtain ⟨o, ho, _⟩ := (K.frames.mem (List.mem_filterMap.mpr ⟨env, he, hf⟩)).2
      rw [P.2.2] at ho; cases ho
  obtain ⟨hcls, vs, tp, hd, hv0, hv1⟩ := hx
  have he := (N _ (.head _)).1
  have hen : (hideAll s'.heap (e :: (envOf name scope L a cd :: outer).filterMap (·.frame))).get? e = none := hideAll_none _ (.head _)
  refine wpAny_leaving_firstW (a0 := tp) K'.stack (funFrames_hide K'.frames hin) rfl he (fun b o hb => of_hideAll _ hb) hen hd hv1 hv0 fun h' hL => ?_
  obtain ⟨k1, ⟨_, _, k2⟩, k3, k4⟩ := hL
  exact hQ h' ⟨_, tp, st, hl, k1, hen, k2, by rw [← hcls]; exact k3⟩ ((Heap.UpToSlots.of_keeps F.keep).trans k4)
end
section
variable {prog : Program} {w : World} {A₀ : Around} {E : Value → Shared → Prop} {s' : Shared} {h₀ h : Heap} {outer : List Env} {L a e : Addr} {m : Str → Option Value} {name : Str} {scope : Scope} {cd : Value}
  {b₀ : Stmt} {suite : List Stmt} {pos np : Pos} {rest : List ExceptHandler} {Q : Flow → Shared → Prop} {news : Led} {KF : Frag} {C : Addr} {p : Program} {loose : List Str} {mean : ExcName → Option Value} {mg mb : Str → Option Value} {x : Str}
  {nm q : Str} {Nn : Addr} {bs bm : List Value} {hdct : Bool} {sn : List Str} {sub : List Value} {ab : Bool} {col : Option Bool} {dd : Option Addr} {k0 k1 k2 k3 k5 : Option Value} {newId : String}
theorem die_caught (K : Below A₀ h₀ outer h₀) (F : Fr h₀ L h m) (hsm : h.UpToSlots s'.heap) (R : RaisedN h₀ (envOf name scope L a cd :: outer) e (.ref C) news s'.heap)
    (X : KF.In h₀) (T : TopRead p loose mg mb h₀) (ex : nsIn KF mainGlobals x = some (some (.ref C))) (hl : KF.lookup C = some (excClassObj nm q C Nn bs bm hdct sn sub ab col dd k0 k1 k2 k3 k5 newId)) (hbase : bm.contains (.type "BaseException") = true)
    (k : ∀ h', Fr h₀ L h' m → News h₀ L h' news →
      wpAny (model prog w) ((A₀.deeper (envOf name scope L a cd)).mark (some (.ref e))) (execs (b₀ :: suite) (envOf name scope L a cd)) Q E { s' with heap := h' })
    (hk : scope.kind = .function := by rfl) (hx : (envOf name scope L a cd).kindOf x = some .globalImplicit := by rfl) (hd : (x == ("__debug__" : Str)) = false := by decide)
    (hE : PassesOwnAt (model prog w) ((A₀.deeper (envOf name scope L a cd)).mark (some (.ref e))) (A₀.deeper (envOf name scope L a cd)) (envOf name scope L a cd) E := by passes_own) :
    wpAny (model prog w) (A₀.deeper (envOf name scope L a cd)) (noteFrame (.ref e) (envOf name scope L a cd))
      (fun _ s₂ => wpAny (model prog w) (A₀.deeper (envOf name scope L a cd)) (setFlight (.ref e) none) (fun _ s₃ =>
        wpAny (model prog w) (A₀.deeper (envOf name scope L a cd)) (handleBy (.ref e) (envOf name scope L a cd) (.ExceptHandler (some (.Name x np)) none (b₀ :: suite) pos :: rest)) Q E s₃) E s₂) E s' := by
  obtain ⟨B, a0, hB, hln, hfl⟩ := R
  have hL : B.get? L = none := by
    obtain ⟨_, ⟨L', _, hf, hn', _⟩, _⟩ := hfl.2.2.1
    obtain rfl : L = L' := Option.some.inj hf
    exact hn'
  refine wpAny_looks_onW (Around.frames_deeper K.stack) rfl hfl fun h₄ hheld₄ hsm₄ => ?_
  refine wpAny_landsW hheld₄ fun h₅ hheld hsm₅' => ?_
  have hsm₅ := hsm₄.trans hsm₅'
  have hheld' := flyingW_base hB hheld
  have F₅ := F.of_stays hheld'.1 (hsm.trans hsm₅)
  obtain ⟨ob, hob, hobc⟩ := hheld'.there
  refine wpAny_handleBy_cons (codeAny_handlers_test (name_K F₅ X T ex ?_ hk hx hd)) (by intro q; cases q)
  refine wpAny_excMatches_sub_self ((X.keeps F₅.keep) _ _ hl) hob hobc hbase (codeAny_handlers_suite ?_)
  refine lands_againW hheld fun h₆ hfl₆ hsm₆ => ?_
  have F₆ := F.of_stays (flyingW_base hB hfl₆).1 ((hsm.trans hsm₅).trans hsm₆)
  exact wpAny_passesOwnAt hE (k h₆ F₆ fun q hq => ⟨hfl₆.1 _ _ (hln q hq).1, (fun z => by have := (hln q hq).1; rw [z, hL] at this; cases this), (hln q hq).2⟩)
end
theorem die_meta : typeOf (.type "Exception") = pure (.type "type") := by kernel_rfl
theorem die_ne1 {x t : Addr} {o : Obj} {news : Led} (l1 : ∀ p ∈ news, p.1 < t) (l2 : t < x) : ∀ p ∈ (t, o) :: news, p.1 ≠ x := by
  intro p hp
  rcases List.mem_cons.mp hp with rfl | hp
  · exact Nat.ne_of_lt l2
  · exact Nat.ne_of_lt (Nat.lt_trans (l1 p hp) l2)
theorem die_ne2 {x t : Addr} {o : Obj} {news : Led} (h : x ≠ t) (l1 : ∀ p ∈ news, p.1 ≠ x) : ∀ p ∈ (t, o) :: news, p.1 ≠ x := by
  intro p hp
  rcases List.mem_cons.mp hp with rfl | hp
  · exact h.symm
  · exact l1 p hp
theorem die_ne3 {x t : Addr} {o : Obj} {news : Led} (h : x ≠ t) (l1 : ∀ p ∈ news, p.1 ≠ t) : ∀ p ∈ (x, o) :: news, p.1 ≠ t := by
  intro p hp
  rcases List.mem_cons.mp hp with rfl | hp
  · exact h
  · exact l1 p hp
/-- Die called: a new exception, and what stood stands -/
@[irreducible] noncomputable def DieCall (w : World) (d : Nat) (news : Led) (vs : List Value) : Prop :=
  ∀ (mean : ExcName → Option Value) (mg mb : Str → Option Value) (dp un : Nat) (gd : Option (List Code)) (cn : Str) (cs : Scope) (a : Addr) (ccd : Value) (cl : List (Str × Addr)) (outer : List Env) (A₀ : Around) (base h₀ : Heap) (L : Addr) (m : Str → Option Value) (s : Shared) (Q E : Value → Shared → Prop),
    Below A₀ base outer h₀ → Fr h₀ L s.heap m → (hd.heap_1_39 w.params).In h₀ → News h₀ L s.heap news → Top hd.view_1_40 (looseW hd.view_1_40 [Str.ofString "Limits"]) mean mg mb h₀ → cs.kind = .function →
    dp + d < recursionLimit → un + 8 * d < cLine →
    (∀ (e : Addr) (ob : Obj) (h' : Heap) (tk' : Nat), DieIs ob 51 → (∀ p ∈ news, p.1 ≠ e) → Fr h₀ L h' m → News h₀ L h' ((e, ob) :: news) → Q (.ref e) { s with heap := h', toks := tk' }) →
    wpAny (model PySem.Challenge.rw_sa0533_01.row.prog w) (ktrTop dp un gd cn cs L a ccd cl outer) (call (.ref 51) vs) Q E s
theorem DieCall.use {w : World} {d : Nat} {news : Led} {vs : List Value} {mean : ExcName → Option Value} {mg mb : Str → Option Value} {dp un : Nat} {gd : Option (List Code)} {cn : Str} {cs : Scope} {a : Addr} {ccd : Value} {cl : List (Str × Addr)} {outer : List Env} {A₀ : Around} {base h₀ : Heap} {L : Addr} {m : Str → Option Value} {s : Shared} {Q E : Value → Shared → Prop}
    (C : DieCall w d news vs)
    (B : Below A₀ base outer h₀) (F : Fr h₀ L s.heap m) (X : (hd.heap_1_39 w.params).In h₀) (N : News h₀ L s.heap news) (T : Top hd.view_1_40 (looseW hd.view_1_40 [Str.ofString "Limits"]) mean mg mb h₀) (hk : cs.kind = .function)
    (hd : dp + d < recursionLimit) (hu : un + 8 * d < cLine)
    (ret : ∀ (e : Addr) (ob : Obj) (h' : Heap) (tk' : Nat), DieIs ob 51 → (∀ p ∈ news, p.1 ≠ e) → Fr h₀ L h' m → News h₀ L h' ((e, ob) :: news) → Q (.ref e) { s with heap := h', toks := tk' }) :
    wpAny (model PySem.Challenge.rw_sa0533_01.row.prog w) (ktrTop dp un gd cn cs L a ccd cl outer) (call (.ref 51) vs) Q E s :=
  by unfold DieCall at C; exact C mean mg mb dp un gd cn cs a ccd cl outer A₀ base h₀ L m s Q E B F X N T hk hd hu ret
local macro_rules | `(tactic| walk_at "getMethod type:Exception") => `(tactic| (k_here; refine' method_type ?F ?X ?m (by decide +kernel) ?e ?h ?_; (case F | X => k_asm); (case m => exact die_meta); (case e => k_dflt k_is); (case h => k_handed)))
local macro_rules | `(tactic| walk_at "call builtin:Exception.__init__") => `(tactic| (k_here; k_dflt (refine' die_init PySem.F.excBase_Exception ?F ?X ?N ?hne ?hl ?hB ?hr ?_; (case F | X | N => k_asm); (case hne => assumption); (case hl => k_is); (case hB => decide); (case hr => exact Nat.le_of_ble_eq_true rfl); (intro t9 h9 F9 N9 hne9; (try dsimp only); (try k_fold)))))
local macro_rules | `(tactic| walk_at "setAttr ref") => `(tactic| (k_here; k_dflt (refine' die_set1 ?F ?X ?N ?hne ?hs ?ht ?hp ?hh ?_; (case F | X | N => k_asm); (case hne => assumption); (case hs => k_is); (case ht | hp => exact rfl); (case hh => k_is); (intro dx9 h9 F9 N9 hn9; (try dsimp only); (try k_fold)))))
theorem die_inst {h₀ h : Heap} {L x C t dx : Addr} {news : Led} {od : Obj} (N : News h₀ L h news) (h1 : (x, dieObjD C t dx) ∈ news) (h2 : (dx, od) ∈ news) :
    InstAt h x (dieObjD C t dx) C (some od) := ⟨(N _ h1).1, rfl, rfl, (N _ h2).1⟩
local macro_rules | `(tactic| walk_at "setAttr ref") => `(tactic| (k_here; k_dflt (refine' die_set2 ?F ?X ?N ?I ?d ?hs ?ht ?hp ?hh ?hl ?h2 ?e ?hz ?_; (case F | X | N => k_asm); (case I => exact die_inst (by k_asm) (by k_mem) (by k_mem)); (case d => exact rfl); (case hs => k_is); (case ht | hp => exact rfl); (case hh => k_is); (case hl => k_get); (case h2 => assumption); (case e => k_put); (case hz => exact Nat.le_of_ble_eq_true rfl); (intro h9 F9 N9; (try dsimp only); (try k_fold)))))
theorem die_close {h₀ h : Heap} {L : Addr} {p1 p q r : Addr × Obj} {news : Led} (N : News h₀ L h (p1 :: p :: q :: r :: news)) : News h₀ L h (p :: news) :=
  news_sub N fun z hz => by
    rcases List.mem_cons.mp hz with rfl | hz
    · exact .tail _ (.head _)
    · exact .tail _ (.tail _ (.tail _ (.tail _ hz)))
theorem die_call (w : World) (news : Led) (tk : Tok) (msg : Str) : DieCall w 5 news [.str msg tk] := by
  unfold DieCall
  intro mean mg mb dp un gd cn cs a ccd cl outer A₀ base h₀ L m s Q E B F X N T hk hd hu hret
  refine wpAny_call ?_
  refine' die_K PySem.F.excBase_Exception ?F ?X ?N ?hl ?hB ?hA ?hN ?hc ?ht ?hi ?hf ?hr ?h
  case F => k_asm
  case X => k_asm
  case N => k_asm
  case hl => k_is
  case hB => decide
  case hA => decide
  case hN => decide
  case hc => k_is
  case ht => k_is
  case hi => k_is
  case hf => k_is
  case hr => exact Nat.le_of_ble_eq_true rfl
  intro x t h' F' N' l1 l2 hnew hst
  have hne := die_ne1 (o := dieTup [.str msg tk]) l1 l2
  k_dflt cell_enter
  k_steps
  exact hret x (dieObjD 51 _ _) _ _ ⟨rfl, _, _, rfl, rfl, rfl⟩ (fun p hp => Nat.ne_of_lt (Nat.lt_trans (l1 p hp) l2)) (by assumption) (die_close (by assumption))
/-- what a raise of an own exception asks for -/
noncomputable def DieUp (C : Addr) (K : Frag) (E : Value → Shared → Prop) (v : Value) (s₁ : Shared) : Prop :=
  ∃ e ob, v = .ref e ∧ K.In s₁.heap ∧ s₁.heap.get? e = some ob ∧ DieIs ob C ∧ E (.ref e) s₁
theorem dieUp_of {C e L : Addr} {K : Frag} {E : Value → Shared → Prop} {s : Shared} {h₀ : Heap} {m : Str → Option Value} {ob : Obj} {news : Led} (X : K.In h₀) (F : Fr h₀ L s.heap m) (N : News h₀ L s.heap ((e, ob) :: news)) (D : DieIs ob C) (hE : E (.ref e) s) :
    DieUp C K E (.ref e) s := ⟨e, ob, rfl, X.keeps F.keep, (N _ (.head _)).1, D, hE⟩
/-- raise, of an own exception that stands there -/
theorem die_raise {M : Model} {A : Around} {E : Value → Shared → Prop} {env : Env} {s : Shared} {e : Expr} {pos : Pos} {Q : Flow → Shared → Prop} {C : Addr} {K : Frag}
    {nm q : Str} {Nn : Addr} {bs bm : List Value} {hdct : Bool} {sn : List Str} {sub : List Value} {ab : Bool} {col : Option Bool} {dd : Option Addr} {k0 k1 k2 k3 k5 : Option Value} {newId : String}
    {h₀ : Heap} (_X : K.In h₀) (hl : K.lookup C = some (excClassObj nm q C Nn bs bm hdct sn sub ab col dd k0 k1 k2 k3 k5 newId)) (hbase : bm.contains (.type "BaseException") = true) (hh : A.handled = none)
    (h : wpAny M A (eval e env) (fun v s₁ => DieUp C K E v s₁) E s) :
    wpAny M A (exec (.Raise (some e) none pos) env) Q E s := by
  have hcB : (Value.ref C :: bm).contains (.type "BaseException") = true := by rw [List.contains_cons, hbase, Bool.or_true]
  show wpAny M A (do standAt pos; raiseStmt env (some (do let v ← eval e env; standAt pos; pure v)) none) Q E s
  refine wpAny_bind (wpAny_standAt ?_)
  unfold raiseStmt
  dsimp only
  refine wpAny_bind (wpAny_bind (wpAny_mono h (fun v s₁ h₁ => wpAny_bind (wpAny_standAt (wpAny_pure ?_))) fun _ _ x => x))
  obtain ⟨e, ob, rfl, hK, he, ⟨hcls, vs, a0, hd, h0, h1⟩, hE⟩ := h₁
  have hC := hK _ _ hl
  obtain ⟨hp, g, d, tk, os⟩ := s₁
  repeat (first | (with_reducible refine wpAny_loadPart_at he ?_; first | rw [hcls] | rw [hd]) | with_reducible refine wpAny_loadPart_at hC ?_ | (with_reducible refine wpAny_isSubtype_exc hC ?_; rw [hcB]) | wp_step)
  rw [hd]
  refine wpAny_pure (a := vs) ?_
  rw [h1]
  refine wpAny_pure (a := Value.none) ?_
  rw [if_neg (by decide)]
  exact wpAny_pure (wpAny_raiseNew_none hh hE)
local macro_rules | `(tactic| walk_at "exec Raise some none") => `(tactic| (k_here; (with_reducible show wpAny _ _ (exec (Stmt.Raise (some (Expr.Call (Expr.Name _ _) _ [] _)) none _) _) _ _ _); k_dflt (refine' die_raise (C := 51) ?X ?l ?b ?hh ?_; (case X => k_asm); (case l => k_is); (case b => decide); (case hh => rfl); k_whole)))
local macro_rules | `(tactic| walk_at "DieUp") => `(tactic| (k_dflt (refine' dieUp_of ?X ?F ?N ?D ?_; (case X | F | N => k_asm); (case D => assumption); (try dsimp only); (try k_fold); k_unfold)))
local macro_rules | `(tactic| walk_at "call ref") => `(tactic| (k_here; k_dflt (refine' DieCall.use (die_call _ _ _ _) ?B ?F ?X ?N ?T ?hk ?hd ?hu ?_; (case B | F => k_asm); (case X | N | T => k_asm); (case hk => first | exact rfl | assumption); (case hd => ktr_room); (case hu => ktr_units); intro e9 ob9 h9 tk9 D9 hne9 F9 N9; (try dsimp only); (try k_fold))))
local macro_rules | `(tactic| walk_at "leaving ref") => `(tactic| (k_here; k_dflt (refine' die_leave ?D ?hne ?K ?F ?N ?_; (case D | hne => assumption); (case K | F | N => assumption); k_whole; intro h' R' U'; (try dsimp only at R' U' ⊢))))
local macro_rules | `(tactic| walk_at "noteFrame ref") => `(tactic| (k_here; (rename RaisedN _ _ _ _ _ _ => rkX); k_dflt (refine' die_caught ?K ?F ?U rkX ?X ?T ?ex ?hl ?hb ?_; (case K | F | U => assumption); (case X | T => k_asm); (case ex | hl => k_is); (case hb => rfl); k_whole); intro h' F' N'; (try k_sweep)))
section
variable {M : Model} {A : Around} {E : Value → Shared → Prop} {s' : Shared} {base g : Heap} {outer : List Env} {L a e C : Addr} {m : Str → Option Value} {name : Str} {scope : Scope} {cd : Value} {Q : Unit → Shared → Prop} {news : Led} {ob : Obj}
theorem die_leaveS (hx : DieIs ob C) (hne : ∀ p ∈ news, p.1 ≠ e) (K : Below A base outer g) (F : Fr g L s'.heap m) (N : News g L s'.heap ((e, ob) :: news))
    (hQ : ∀ h', RaisedSN base g outer e (.ref C) news h' → RaisedN base outer e (.ref C) news h' → g.UpToSlots h' → Q () { s' with heap := h' }) (hk : scope.kind = .function := by rfl) :
    wpAny M (A.deeper (envOf name scope L a cd)) (leaving (envOf name scope L a cd) (.ref e)) Q E s' := by
  have K' := K.push (name := name) (a := a) (cd := cd) F hk
  have hge : g.get? e = none := (N _ (.head _)).2.2
  have hbe : base.get? e = none := fresh_of_stays K.stays hge
  have hin : ∀ env ∈ (envOf name scope L a cd :: outer), ∀ b, env.frame = some b → b ∈ e :: (envOf name scope L a cd :: outer).filterMap (·.frame) := fun env he b hb => .tail _ (List.mem_filterMap.mpr ⟨env, he, hb⟩)
  have st : base.StaysIn (hideAll s'.heap (e :: (envOf name scope L a cd :: outer).filterMap (·.frame))) := fun b o q => hideAll_get _ (K'.stays b o q) fun hm => by
    rcases List.mem_cons.mp hm with rfl | hm
    · rw [hbe] at q; cases q
    · rw [(K'.frames.mem hm).1] at q; cases q
  have sg : ∀ b o, g.get? b = some o → b ∉ outer.filterMap (·.frame) → (hideAll s'.heap (e :: (envOf name scope L a cd :: outer).filterMap (·.frame))).get? b = some o := fun b o q nm => hideAll_get _ (F.keep b o q) fun hm => by
    rcases List.mem_cons.mp hm with rfl | hm
    · rw [hge] at q; cases q
    · rcases kts_mem hm with z | z
      · rw [z, kts_self F] at q
        cases q
      · exact nm z
  have hl : ∀ q ∈ news, (hideAll s'.heap (e :: (envOf name scope L a cd :: outer).filterMap (·.frame))).get? q.1 = some q.2 ∧ g.get? q.1 = none ∧ base.get? q.1 = none := fun q hq => by
    have P := N q (.tail _ hq)
    refine ⟨hideAll_get _ P.1 fun hm => ?_, P.2.2, fresh_of_stays K.stays P.2.2⟩
    rcases List.mem_cons.mp hm with q' | hm
    · exact hne q hq q'
    obtain ⟨env, he, hf⟩ := List.mem_filterMap.mp hm
    rcases List.mem_cons.mp he with rfl | he
    · exact P.2.1 (Option.some.inj hf).symm
    · obtain ⟨o, ho, _⟩ := (K.frames.mem (List.mem_filterMap.mpr ⟨env, he, hf⟩)).2
      rw [P.2.2] at ho; cases ho
  obtain ⟨hcls, vs, tp, hd, hv0, hv1⟩ := hx
  have he := (N _ (.head _)).1
  have hen : (hideAll s'.heap (e :: (envOf name scope L a cd :: outer).filterMap (·.frame))).get? e = none := hideAll_none _ (.head _)
  refine wpAny_leaving_firstW (a0 := tp) K'.stack (funFrames_hide K'.frames hin) rfl he (fun b o hb => of_hideAll _ hb) hen hd hv1 hv0 fun h' hL => ?_
  obtain ⟨k1, ⟨_, _, k2⟩, k3, k4⟩ := hL
  have R : RaisedSN base g outer e (.ref C) news h' := ⟨_, tp, st, sg, hl, k1, hen, k2, by rw [← hcls]; exact k3⟩
  exact hQ h' R R.toN ((Heap.UpToSlots.of_keeps F.keep).trans k4)
end
section
variable {prog : Program} {w : World} {A₀ : Around} {E : Value → Shared → Prop} {s' : Shared} {base g g₀ G : Heap} {outer : List Env} {L a e : Addr} {m : Str → Option Value} {name : Str} {scope : Scope} {cd : Value}
  {b₀ : Stmt} {suite : List Stmt} {pos np : Pos} {rest : List ExceptHandler} {Q : Flow → Shared → Prop} {news : Led} {KF : Frag} {C : Addr} {p : Program} {loose : List Str} {mean : ExcName → Option Value} {mg mb : Str → Option Value} {x : Str}
  {nm q : Str} {Nn : Addr} {bs bm : List Value} {hdct : Bool} {sn : List Str} {sub : List Value} {ab : Bool} {col : Option Bool} {dd : Option Addr} {k0 k1 k2 k3 k5 : Option Value} {newId : String}
theorem die_caughtS (R : RaisedSN base G (envOf name scope L a cd :: outer) e (.ref C) news s'.heap) (F : Fr g L G m) (K : Below A₀ base outer g) (hsm : G.UpToSlots s'.heap) (XB : KF.In base) (TB : Top p loose mean mg mb base)
    (D : KtsDicts (outer.filterMap (·.frame)) g) (T0 : KtsTurn (outer.filterMap (·.frame)) g₀ g)
    (ex : nsIn KF mainGlobals x = some (some (.ref C))) (hl : KF.lookup C = some (excClassObj nm q C Nn bs bm hdct sn sub ab col dd k0 k1 k2 k3 k5 newId)) (hbase : bm.contains (.type "BaseException") = true)
    (k : ∀ h' g', KtsTurn (outer.filterMap (·.frame)) g₀ g' → Fr g' L h' m → News g' L h' news → Below A₀ base outer g' → KF.In g' → Top p loose mean mg mb g' → KtsDicts (outer.filterMap (·.frame)) g' →
      wpAny (model prog w) ((A₀.deeper (envOf name scope L a cd)).mark (some (.ref e))) (execs (b₀ :: suite) (envOf name scope L a cd)) Q E { s' with heap := h' })
    (hk : scope.kind = .function := by rfl) (hx : (envOf name scope L a cd).kindOf x = some .globalImplicit := by rfl) (hd : (x == ("__debug__" : Str)) = false := by decide)
    (hE : PassesOwnAt (model prog w) ((A₀.deeper (envOf name scope L a cd)).mark (some (.ref e))) (A₀.deeper (envOf name scope L a cd)) (envOf name scope L a cd) E := by passes_own) :
    wpAny (model prog w) (A₀.deeper (envOf name scope L a cd)) (noteFrame (.ref e) (envOf name scope L a cd))
      (fun _ s₂ => wpAny (model prog w) (A₀.deeper (envOf name scope L a cd)) (setFlight (.ref e) none) (fun _ s₃ =>
        wpAny (model prog w) (A₀.deeper (envOf name scope L a cd)) (handleBy (.ref e) (envOf name scope L a cd) (.ExceptHandler (some (.Name x np)) none (b₀ :: suite) pos :: rest)) Q E s₃) E s₂) E s' := by
  obtain ⟨B, a0, hB, hBG, hln, hfl⟩ := R
  have hL : B.get? L = none := by
    obtain ⟨_, ⟨L', _, hf, hn', _⟩, _⟩ := hfl.2.2.1
    obtain rfl : L = L' := Option.some.inj hf
    exact hn'
  refine wpAny_looks_onW (Around.frames_deeper K.stack) rfl hfl fun h₄ hheld₄ hsm₄ => ?_
  refine wpAny_landsW hheld₄ fun h₅ hheld hsm₅' => ?_
  have hsm₅ := hsm₄.trans hsm₅'
  obtain ⟨g₅, T₅, F₅, K₅⟩ := kts_ground K F hBG hheld.1 (hsm.trans hsm₅)
  have X₅ : KF.In g₅ := XB.keeps K₅.stays
  have P₅ : TopRead p loose mg mb g₅ := topRead_of (TB.keeps K₅.stays)
  obtain ⟨ob, hob, hobc⟩ := hheld.there
  refine wpAny_handleBy_cons (codeAny_handlers_test (name_K F₅ X₅ P₅ ex ?_ hk hx hd)) (by intro q; cases q)
  refine wpAny_excMatches_sub_self ((X₅.keeps F₅.keep) _ _ hl) hob hobc hbase (codeAny_handlers_suite ?_)
  refine lands_againW hheld fun h₆ hfl₆ hsm₆ => ?_
  obtain ⟨g₆, T₆, F₆, K₆⟩ := kts_ground K F hBG hfl₆.1 ((hsm.trans hsm₅).trans hsm₆)
  have Nl : News g₆ L h₆ news := fun q hq => ⟨hfl₆.1 _ _ (hln q hq).1, (fun z => by have := (hln q hq).1; rw [z, hL] at this; cases this), T₆.none_ _ (kts_none F.keep (hln q hq).2.1)⟩
  exact wpAny_passesOwnAt hE (k h₆ g₆ (T0.trans T₆) F₆ Nl K₆ (XB.keeps K₆.stays) (TB.keeps K₆.stays) (D.turn T₆))
end
section
variable {prog : Program} {w : World} {A₀ A : Around} {s : Shared} {base h₀ g₀ : Heap} {L a : Addr} {m : Str → Option Value} {cn : Str} {cs : Scope} {ccd : Value} {cl : List (Str × Addr)} {news : Led} {K : Frag} {p : Program} {loose : List Str} {mean : ExcName → Option Value} {mg mb : Str → Option Value}
    {R : Result → Shared → Prop} {name qual : Str} {params : Arguments} {body : List Stmt} {scope : Scope} {dV kV doc pm cdv ct oc : Value} {an od : Option Addr} {osl : Array (Option Value)} {f : Addr} {args : Args} {binds : List (Str × Value)}
/-- a call from the lowest frame (which may keep cells), into a function beneath which something may be caught -/
theorem enter0 (B : Below A₀ base [] h₀) (F : Fr h₀ L s.heap m) (X₀ : K.In h₀) (N : News h₀ L s.heap news) (T : Top p loose mean mg mb h₀) (hA : A.frames = some [envX cn cs L a ccd cl])
    (ho : K.lookup f = some ⟨oc, od, .func (fnOf name qual params body scope dV kV doc pm an cdv ct), osl⟩) (hcd : codeIn K cdv qual = true) (hroom : A.depth < recursionLimit)
    (hbind : BindsTo s (fnOf name qual params body scope dV kV doc pm an cdv ct) args binds) (hloc : ∀ y ∈ binds, scope.names.lookup y.1 = some .local)
    (h : ∀ g L' h₁, Fr h₀ L g m → Fr g L' h₁ (fun y => binds.reverse.lookup y) → News g L' h₁ news → Below A base [envX cn cs L a ccd cl] g → K.In g → Top p loose mean mg mb g → KtsDicts ([envX cn cs L a ccd cl].filterMap (·.frame)) g →
      wpAny (model prog w) (A.deeper (envOf qual scope L' f cdv)) (execs body (envOf qual scope L' f cdv))
        (fun fl s' => LeaveS0 ([envX cn cs L a ccd cl].filterMap (·.frame)) h₀ L m g R (match fl with | .ret v => v | _ => .none) s')
        (fun e s' => wpAny (model prog w) (A.deeper (envOf qual scope L' f cdv)) (leaving (envOf qual scope L' f cdv) e) (fun _ s'' => R (.error e) s'') (fun e' s'' => R (.error e') s'') s')
        { s with heap := h₁, toks := s.toks + binds.length })
    (hck : cs.kind = .function) (hco : scope.isCoroutine = false) (hgen : scope.isGenerator = false) (hk : scope.kind = .function)
    (hcell : ∀ x ∈ scope.names, x.2 ≠ .cell) : codeAny (model prog w) A (.call (.ref f) args) R s := by
  have X := X₀.keeps F.keep
  refine codeAny_call_def (fd := fnOf name qual params body scope dV kV doc pm an cdv ct) (body := body) (binds := binds) hroom (X _ _ ho) rfl (T.nolimit.keeps F.keep) (codeRec_of X hcd) rfl hbind hcell hloc (fun h₁ hns hk₁ => ?_) hco hgen hk
  obtain ⟨oL, es, ep, hLg, hLd, hN, hNs, st, B₁⟩ := kts_enter (A := { A with frames := some [envOf cn cs L a ccd] }) B F N rfl hck
  have B₂ : Below A base [envX cn cs L a ccd cl] (hideAll s.heap (news.map (·.1))) := ⟨hA, B₁.stays, B₁.frames⟩
  refine wpAny_mono (h _ s.heap.objs.size h₁ ⟨hN _ hLg, st, F.above⟩ ⟨hns, fun b o e => hk₁ b o (of_hideAll _ e), Nat.le_of_eq (hideAll_size _ _)⟩
    (fun p hp => ⟨hk₁ _ _ (N p hp).1, Nat.ne_of_lt (Heap.lt_size (N p hp).1), hideAll_none _ (List.mem_map_of_mem hp)⟩) B₂ (X₀.keeps st) (T.keeps st) (fun b hb => by
      rcases List.mem_cons.mp (show b ∈ [L] from hb) with rfl | z
      · exact ⟨oL, es, ep, hLg, hLd⟩
      · cases z)) (fun fl s' hl => ?_) fun _ _ y => y
  obtain ⟨g', L', m', news', T', F', N', k⟩ := hl
  have nL₀ : h₀.get? L = none := kts_self F
  obtain ⟨sl, hs⟩ := T'.up hLg
  refine k ⟨hNs sl _ (F'.keep _ _ hs), fun b o e => F'.keep b o (T'.other b o (st b o e) (fun q => by
    rcases List.mem_cons.mp (show b ∈ [L] from q) with z | z
    · rw [z, nL₀] at e
      cases e
    · cases z)), F.above⟩ fun p hp => ⟨(N' p hp).1, fun q => ?_, ?_⟩
  · have := (N' p hp).2.2; rw [q, hs] at this; cases this
  · cases q : h₀.get? p.1 with
    | none => rfl
    | some o =>
      obtain ⟨sl', hs'⟩ := T'.up (st _ _ q)
      have := (N' p hp).2.2
      rw [hs'] at this
      cases this
end
/-- a contract of a call beneath which an exception is caught: the frames of those who wait may have been looked at -/
@[irreducible] noncomputable def DoesS (w : World) (f : Addr) (d : Nat) (news : Led) (vs : List Value) (R : Value → Prop) : Prop :=
  ∀ (mean : ExcName → Option Value) (mg mb : Str → Option Value) (dp un : Nat) (gd : Option (List Code)) (cn : Str) (cs : Scope) (a : Addr) (ccd : Value) (outer : List Env) (A₀ : Around) (base h₀ g₀ : Heap) (L : Addr) (m : Str → Option Value) (s : Shared) (Q E : Value → Shared → Prop),
    Below A₀ base outer h₀ → Fr h₀ L s.heap m → (hd.heap_1_39 w.params).In h₀ → News h₀ L s.heap news → Top hd.view_1_40 (looseW hd.view_1_40 [Str.ofString "Limits"]) mean mg mb h₀ → cs.kind = .function →
    (hd.heap_1_39 w.params).In base → Top hd.view_1_40 (looseW hd.view_1_40 [Str.ofString "Limits"]) mean mg mb base → KtsDicts (outer.filterMap (·.frame)) h₀ → KtsTurn (outer.filterMap (·.frame)) g₀ h₀ →
    dp + d < recursionLimit → un + 8 * d < cLine →
    (∀ (r : Value) (h' : Heap) (tk' : Nat) (h₀' : Heap), R r → KtsTurn (outer.filterMap (·.frame)) g₀ h₀' → Fr h₀' L h' m → News h₀' L h' news → Below A₀ base outer h₀' → (hd.heap_1_39 w.params).In h₀' → Top hd.view_1_40 (looseW hd.view_1_40 [Str.ofString "Limits"]) mean mg mb h₀' →
      KtsDicts (outer.filterMap (·.frame)) h₀' → Q r { s with heap := h', toks := tk' }) →
    wpAny (model PySem.Challenge.rw_sa0533_01.row.prog w) (ktrTop dp un gd cn cs L a ccd [] outer) (call (.ref f) vs) Q E s
theorem DoesS.use {w : World} {f : Addr} {d : Nat} {news : Led} {vs : List Value} {R : Value → Prop} {mean : ExcName → Option Value} {mg mb : Str → Option Value} {dp un : Nat} {gd : Option (List Code)} {cn : Str} {cs : Scope} {a : Addr} {ccd : Value} {outer : List Env} {A₀ : Around} {base h₀ g₀ : Heap} {L : Addr} {m : Str → Option Value} {s : Shared} {Q E : Value → Shared → Prop}
    (C : DoesS w f d news vs R)
    (B : Below A₀ base outer h₀) (F : Fr h₀ L s.heap m) (X : (hd.heap_1_39 w.params).In h₀) (N : News h₀ L s.heap news) (T : Top hd.view_1_40 (looseW hd.view_1_40 [Str.ofString "Limits"]) mean mg mb h₀) (hk : cs.kind = .function)
    (XB : (hd.heap_1_39 w.params).In base) (TB : Top hd.view_1_40 (looseW hd.view_1_40 [Str.ofString "Limits"]) mean mg mb base) (D : KtsDicts (outer.filterMap (·.frame)) h₀) (T0 : KtsTurn (outer.filterMap (·.frame)) g₀ h₀)
    (hdp : dp + d < recursionLimit) (hu : un + 8 * d < cLine)
    (ret : ∀ (r : Value) (h' : Heap) (tk' : Nat) (h₀' : Heap), R r → KtsTurn (outer.filterMap (·.frame)) g₀ h₀' → Fr h₀' L h' m → News h₀' L h' news → Below A₀ base outer h₀' → (hd.heap_1_39 w.params).In h₀' → Top hd.view_1_40 (looseW hd.view_1_40 [Str.ofString "Limits"]) mean mg mb h₀' →
      KtsDicts (outer.filterMap (·.frame)) h₀' → Q r { s with heap := h', toks := tk' }) :
    wpAny (model PySem.Challenge.rw_sa0533_01.row.prog w) (ktrTop dp un gd cn cs L a ccd [] outer) (call (.ref f) vs) Q E s :=
  by unfold DoesS at C; exact C mean mg mb dp un gd cn cs a ccd outer A₀ base h₀ g₀ L m s Q E B F X N T hk XB TB D T0 hdp hu ret
theorem DoesS.at {w : World} {f : Addr} {d : Nat} {news : Led} {vs : List Value} {R : Value → Prop} {mean : ExcName → Option Value} {mg mb : Str → Option Value} {dp un : Nat} {gd : Option (List Code)} {cn : Str} {cs : Scope} {a : Addr} {ccd : Value} {outer : List Env} {A₀ : Around} {base h₀ g₀ : Heap} {L : Addr} {m : Str → Option Value} {s : Shared} {Q E : Value → Shared → Prop}
    (B : Below A₀ base outer h₀) (F : Fr h₀ L s.heap m) (X : (hd.heap_1_39 w.params).In h₀) (N : News h₀ L s.heap news) (T : Top hd.view_1_40 (looseW hd.view_1_40 [Str.ofString "Limits"]) mean mg mb h₀) (hk : cs.kind = .function)
    (XB : (hd.heap_1_39 w.params).In base) (TB : Top hd.view_1_40 (looseW hd.view_1_40 [Str.ofString "Limits"]) mean mg mb base) (D : KtsDicts (outer.filterMap (·.frame)) h₀) (T0 : KtsTurn (outer.filterMap (·.frame)) g₀ h₀)
    (hdp : dp + d < recursionLimit) (hu : un + 8 * d < cLine) (C : DoesS w f d news vs R)
    (ret : ∀ (r : Value) (h' : Heap) (tk' : Nat) (h₀' : Heap), R r → KtsTurn (outer.filterMap (·.frame)) g₀ h₀' → Fr h₀' L h' m → News h₀' L h' news → Below A₀ base outer h₀' → (hd.heap_1_39 w.params).In h₀' → Top hd.view_1_40 (looseW hd.view_1_40 [Str.ofString "Limits"]) mean mg mb h₀' →
      KtsDicts (outer.filterMap (·.frame)) h₀' → Q r { s with heap := h', toks := tk' }) :
    wpAny (model PySem.Challenge.rw_sa0533_01.row.prog w) (ktrTop dp un gd cn cs L a ccd [] outer) (call (.ref f) vs) Q E s := C.use B F X N T hk XB TB D T0 hdp hu ret
theorem doesS_lim {w : World} {f : Addr} {d : Nat} {news : Led} {vs : List Value} {R : Value → Prop} {lim : Addr} {wd : Int} (hl : LimAt news lim wd)
    (C : ∀ (dx : Addr) (kn : Nat) (h1 h2 h3 h4 h5 : Int) (k1 k2 k3 k4 k5 t1 : Tok) (v2 v3 v4 v5 : Value), DoesS w f d ((lim, instObj 477 dx) :: (dx, dictOf (limDict h1 h2 h3 h4 h5 k1 k2 k3 k4 k5 t1 v2 v3 v4 v5 wd) kn) :: news) vs R) : DoesS w f d news vs R := by
  unfold DoesS at C ⊢
  obtain ⟨dx, kn, h1, h2, h3, h4, h5, k1, k2, k3, k4, k5, t1, v2, v3, v4, v5, m1, m2⟩ := hl
  intro mean mg mb dp un gd cn cs a ccd outer A₀ base h₀ g₀ L m s Q E B F X N T hk XB TB D T0 hd hu hret
  exact C dx kn h1 h2 h3 h4 h5 k1 k2 k3 k4 k5 t1 v2 v3 v4 v5 mean mg mb dp un gd cn cs a ccd outer A₀ base h₀ g₀ L m s Q E B F X (news_more (news_more N m2) (.tail _ m1)) T hk XB TB D T0 hd hu
    fun r h' tk' h₀' hr T' F' N' => hret r h' tk' h₀' hr T' F' (news_sub N' fun p hp => .tail _ (.tail _ hp))
theorem rules_F_3 : True := by
  k_with "mine mine preS" => ((walk_at "mine pre0"; (any_goals ((with_reducible show KtsDicts _ _); assumption)); (any_goals ((with_reducible show KtsTurn _ _ _); (first | assumption | exact KtsTurn.refl))); walk_at "mine pre1"))
  k_with "mine mine dies" => ((intro r9 h9 tk9 g9 e9 T9 F9 N9 B9 X9 P9 D9; obtain ⟨t9, e9⟩ := e9; subst e9; (try dsimp only); (try k_lift B9); (try k_fold)))
  trivial
local macro_rules | `(tactic| walk_at "leaving ref") => `(tactic| (k_here; (with_reducible rename KtsDicts _ _ => kdX); k_dflt (refine' die_leaveS ?D ?hne ?K ?F ?N ?_; (case D | hne => assumption); (case K | F | N => assumption); k_whole; intro h' S' R' U'; (try dsimp only at S' R' U' ⊢))))
local macro_rules | `(tactic| walk_at "noteFrame ref") => `(tactic| (k_here; (rename RaisedSN _ _ _ _ _ _ _ => rsX); k_dflt (refine' die_caughtS rsX ?F ?K ?U ?XB ?TB ?D ?T0 ?ex ?hl ?hb ?_; (case F | K => assumption); (case U | XB => assumption); (case TB | D => assumption); (case T0 => first | assumption | exact KtsTurn.refl); (case ex | hl => k_is); (case hb => rfl); k_whole); intro h' g' T' F' N' K' X' P' D'; (try k_lift K'); (try k_sweep)))
theorem tonum_int (w : World) (news : Led) (n : Int) (t : Tok) (l : Addr) : Does w 333 1 news [.int n t, .ref l] (fun r => ∃ t, r = .int n t) := by
  unfold Does
  intro mean mg mb dp un gd cn cs a ccd cl outer A₀ base h₀ L m s Q E B F X N T hk hd hu hret
  refine wpAny_call ?_
  k_dflt cell_enter
  k_steps
  exact hret _ _ _ (intR rfl) (by assumption) (by assumption)
theorem tonum_none (w : World) (news : Led) (l : Addr) : Does w 333 1 news [.none, .ref l] (fun r => ∃ t, r = .int 0 t) := by
  unfold Does
  intro mean mg mb dp un gd cn cs a ccd cl outer A₀ base h₀ L m s Q E B F X N T hk hd hu hret
  refine wpAny_call ?_
  k_dflt cell_enter
  k_steps
  exact hret _ _ _ (intR rfl) (by assumption) (by assumption)
theorem go_none (w : World) (news : Led) (n : Int) (t : Tok) : Does w 424 1 news [.none, .int n t] (fun r => r = .bool false) := by
  unfold Does
  intro mean mg mb dp un gd cn cs a ccd cl outer A₀ base h₀ L m s Q E B F X N T hk hd hu hret
  refine wpAny_call ?_
  k_dflt cell_enter
  k_steps
  exact hret _ _ _ rfl (by assumption) (by assumption)
theorem go_int (w : World) (news : Led) (n x : Int) (t u : Tok) : Does w 424 1 news [.int x u, .int n t] (fun r => r = .bool false) := by
  unfold Does
  intro mean mg mb dp un gd cn cs a ccd cl outer A₀ base h₀ L m s Q E B F X N T hk hd hu hret
  refine wpAny_call ?_
  k_dflt cell_enter
  k_steps
  exact hret _ _ _ rfl (by assumption) (by assumption)
theorem go_str (w : World) (news : Led) (n : Int) (x : Str) (t u : Tok) : Does w 424 1 news [.str x u, .int n t] (fun r => r = .bool false) := by
  unfold Does
  intro mean mg mb dp un gd cn cs a ccd cl outer A₀ base h₀ L m s Q E B F X N T hk hd hu hret
  refine wpAny_call ?_
  k_dflt cell_enter
  k_steps
  exact hret _ _ _ rfl (by assumption) (by assumption)
noncomputable abbrev Small (n : Int) : Prop := n.natAbs < 2 ^ 64
theorem small_abs_py {y : Int} (h : Small y) : (if y < 0 then -y else y).natAbs.log2 < 9000 := by
  have h1 : (if y < 0 then -y else y).natAbs = y.natAbs := by split <;> omega
  rw [h1]
  by_cases h0 : y.natAbs = 0
  · rw [h0]; decide +kernel
  · have h2 : y.natAbs.log2 < 64 := (Nat.log2_lt h0).mpr h
    omega
theorem abs_ne {y : Int} (h : y ≠ 0) : (if y < 0 then -y else y) ≠ 0 := by split <;> omega
theorem abs_nat (x : Int) : (if x < 0 then -x else x) = (x.natAbs : Int) := by split <;> omega
theorem cut_same {x y : Int} (h : (decide (x < 0)) = decide (y < 0)) : (if x < 0 then -x else x).fdiv (if y < 0 then -y else y) = x.tdiv y := by
  rw [abs_nat, abs_nat, Int.fdiv_eq_ediv_of_nonneg _ (Int.natCast_nonneg _)]
  rcases Int.lt_or_le x 0 with hx | hx <;> rcases Int.lt_or_le y 0 with hy | hy
  · rw [Int.ofNat_natAbs_of_nonpos (by omega), Int.ofNat_natAbs_of_nonpos (by omega), ← Int.tdiv_eq_ediv_of_nonneg (by omega), Int.neg_tdiv_neg]
  · simp [hx, Int.not_lt.mpr hy] at h
  · simp [hy, Int.not_lt.mpr hx] at h
  · rw [Int.natAbs_of_nonneg hx, Int.natAbs_of_nonneg hy, Int.tdiv_eq_ediv_of_nonneg hx]
theorem cut_other {x y : Int} (h : (decide (x < 0)) ≠ decide (y < 0)) : -((if x < 0 then -x else x).fdiv (if y < 0 then -y else y)) = x.tdiv y := by
  rw [abs_nat, abs_nat, Int.fdiv_eq_ediv_of_nonneg _ (Int.natCast_nonneg _)]
  rcases Int.lt_or_le x 0 with hx | hx <;> rcases Int.lt_or_le y 0 with hy | hy
  · simp [hx, hy] at h
  · rw [Int.ofNat_natAbs_of_nonpos (by omega), Int.natAbs_of_nonneg hy, ← Int.tdiv_eq_ediv_of_nonneg (by omega), Int.neg_tdiv, Int.neg_neg]
  · rw [Int.natAbs_of_nonneg hx, Int.ofNat_natAbs_of_nonpos (by omega), ← Int.tdiv_eq_ediv_of_nonneg (by omega), Int.tdiv_neg, Int.neg_neg]
  · simp [Int.not_lt.mpr hy, Int.not_lt.mpr hx] at h
local macro_rules | `(tactic| walk_at "binaryOp FloorDiv int int") => `(tactic| (k_here; (with_reducible refine floordiv_int ?ne ?_ (Or.inl (PyProof.noPylong_of_log2 ?py))); (case ne | py => assumption)))
theorem cutq_does (w : World) (news : Led) (x y : Int) (t u : Tok) (hy : y ≠ 0) (hs : Small y) : Does w 88 1 news [.int x u, .int y t] (fun r => ∃ t, r = .int (x.tdiv y) t) := by
  unfold Does
  have h1 := abs_ne hy
  have h2 := small_abs_py hs
  intro mean mg mb dp un gd cn cs a ccd cl outer A₀ base h₀ L m s Q E B F X N T hk hd hu hret
  refine wpAny_call ?_
  k_dflt cell_enter
  k_steps
  · exact hret _ _ _ (intR (cut_other (bne_iff_ne.mp (by assumption)))) (by assumption) (by assumption)
  · exact hret _ _ _ (intR (cut_same (by simpa using (by assumption : (decide (x < 0) != decide (y < 0)) = false)))) (by assumption) (by assumption)
local macro_rules | `(tactic| walk_at "call ref") => `(tactic| (k_here; k_dflt (refine' Does.at ?_ ?_ ?_ ?_ ?_ ?_ ?_ ?_ (cutq_does _ _ _ _ _ _ ?k3 ?k4) ?_; walk_at "mine pre"; (case k3 | k4 => assumption); walk_at "mine int")))
theorem pow_half {wd : Int} (h : 1 ≤ wd) : ∃ k : Nat, wd.toNat = k + 1 ∧ (wd - 1).toNat = k := ⟨wd.toNat - 1, by omega, by omega⟩
theorem pow_pos2 (k : Nat) : (0 : Int) < 2 ^ k := Int.pow_pos (by decide)
theorem wrapZ_eq {n wd : Int} (h : 1 ≤ wd) : wrapZ n wd = n.bmod (2 ^ wd.toNat) := by
  obtain ⟨k, hk, hk2⟩ := pow_half h
  unfold wrapZ Int.bmod
  rw [hk, hk2, Int.one_mul]
  have hp := pow_pos2 k
  have e2 : (2 : Int) ^ (k + 1) = 2 * 2 ^ k := by rw [Int.pow_succ, Int.mul_comm]
  have ec : (((2 ^ (k + 1) : Nat)) : Int) = 2 ^ (k + 1) := by rw [Int.natCast_pow]; rfl
  rw [ec, e2, Int.fmod_eq_emod_of_nonneg _ (by omega), Int.fdiv_eq_ediv_of_nonneg _ (by omega)]
  have h0 := Int.emod_nonneg n (show (2 * 2 ^ k : Int) ≠ 0 by omega)
  have h1 := Int.emod_lt_of_pos n (show (0 : Int) < 2 * 2 ^ k by omega)
  generalize n % (2 * 2 ^ k) = r at *
  generalize (2 : Int) ^ k = p at *
  have e3 : (2 * p + 1) / 2 = p := by omega
  rw [e3]
  by_cases hr : r < p
  · rw [Int.ediv_eq_zero_of_lt h0 hr, if_pos rfl, if_pos hr]
  · have : r / p ≠ 0 := by
      intro z
      have h9 := (Int.ediv_lt_iff_lt_mul hp).mp (show r / p < 1 by omega)
      omega
    rw [if_neg this, if_neg hr]
theorem small_wrap {n wd : Int} (h3 : 3 ≤ wd) (h64 : wd ≤ 64) : Small (wrapZ n wd) := by
  obtain ⟨k, hk, hk2⟩ := pow_half (show 1 ≤ wd by omega)
  rw [wrapZ_eq (by omega), hk]
  have h1 := Int.le_bmod (x := n) (m := 2 ^ (k + 1)) (Nat.pow_pos (by decide))
  have h2 := Int.bmod_lt (x := n) (m := 2 ^ (k + 1)) (Nat.pow_pos (by decide))
  have h4 : (2 : Nat) ^ (k + 1) ≤ 2 ^ 64 := Nat.pow_le_pow_right (by decide) (by omega)
  unfold Small
  generalize n.bmod (2 ^ (k + 1)) = r at *
  have h5 : (((2 : Nat) ^ (k + 1) : Nat) : Int) ≤ ((2 ^ 64 : Nat) : Int) := by exact_mod_cast h4
  generalize (2 : Nat) ^ (k + 1) = p at *
  omega
theorem mulOk_small {a b : Int} (ha : Small a) (hb : Small b) : IntMulOk a b :=
  mulOk_of_bits (intBits_le ha) (intBits_le hb) (by decide)
theorem wrapZ_congr {x y wd : Int} (h : 1 ≤ wd) (e : x.bmod (2 ^ wd.toNat) = y.bmod (2 ^ wd.toNat)) : wrapZ x wd = wrapZ y wd := by rw [wrapZ_eq h, wrapZ_eq h, e]
theorem wrapZ_mul_l {x y wd : Int} (h : 1 ≤ wd) : wrapZ (wrapZ x wd * y) wd = wrapZ (x * y) wd := by
  rw [wrapZ_eq h, wrapZ_eq h, wrapZ_eq h, Int.bmod_mul_bmod]
theorem wrapZ_mul_r {x y wd : Int} (h : 1 ≤ wd) : wrapZ (x * wrapZ y wd) wd = wrapZ (x * y) wd := by
  rw [Int.mul_comm, wrapZ_mul_l h, Int.mul_comm]
theorem wrapZ_pow {x wd : Int} (h : 1 ≤ wd) (k : Nat) : wrapZ (wrapZ x wd ^ k) wd = wrapZ (x ^ k) wd := by
  induction k with
  | zero => rw [Int.pow_zero, Int.pow_zero]
  | succ k ih => rw [Int.pow_succ, Int.pow_succ, wrapZ_mul_r h, ← wrapZ_mul_l h, ih, wrapZ_mul_l h]
noncomputable def PowI (x0 n0 wd r b k : Int) : Prop := 3 ≤ wd ∧ 0 ≤ k ∧ Small r ∧ Small b ∧ wrapZ (r * b ^ k.toNat) wd = wrapZ (x0 ^ n0.toNat) wd
theorem PowI.sr {x0 n0 wd r b k : Int} (h : PowI x0 n0 wd r b k) : Small r := h.2.2.1
theorem PowI.sb {x0 n0 wd r b k : Int} (h : PowI x0 n0 wd r b k) : Small b := h.2.2.2.1
theorem PowI.odd {x0 n0 wd r b k : Int} (h : PowI x0 n0 wd r b k) (h64 : wd ≤ 64) (hk : k.fmod 2 = 1) : PowI x0 n0 wd (wrapZ (r * b) wd) (wrapZ (b * b) wd) (k.fdiv 2) := by
  obtain ⟨h3, h0, _, _, e⟩ := h
  rw [Int.fmod_eq_emod_of_nonneg _ (by decide)] at hk
  rw [Int.fdiv_eq_ediv_of_nonneg _ (by decide)]
  refine ⟨h3, by omega, small_wrap h3 h64, small_wrap h3 h64, ?_⟩
  have hkk : k.toNat = 2 * (k / 2).toNat + 1 := by omega
  rw [← e, wrapZ_mul_l (by omega), Int.mul_assoc, ← wrapZ_mul_r (x := r) (by omega), ← wrapZ_mul_r (x := b) (by omega), wrapZ_pow (by omega), wrapZ_mul_r (x := b) (by omega), wrapZ_mul_r (x := r) (by omega), hkk, Int.pow_succ, Int.pow_mul]
  congr 2
  rw [Int.mul_comm]
  congr 1
  rw [Int.pow_succ, Int.pow_succ, Int.pow_zero, Int.one_mul]
theorem PowI.even {x0 n0 wd r b k : Int} (h : PowI x0 n0 wd r b k) (h64 : wd ≤ 64) (hk : k.fmod 2 ≠ 1) : PowI x0 n0 wd r (wrapZ (b * b) wd) (k.fdiv 2) := by
  obtain ⟨h3, h0, hr, _, e⟩ := h
  rw [Int.fmod_eq_emod_of_nonneg _ (by decide)] at hk
  rw [Int.fdiv_eq_ediv_of_nonneg _ (by decide)]
  refine ⟨h3, by omega, hr, small_wrap h3 h64, ?_⟩
  have hkk : k.toNat = 2 * (k / 2).toNat := by omega
  rw [← e, ← wrapZ_mul_r (x := r) (by omega), wrapZ_pow (by omega), wrapZ_mul_r (x := r) (by omega), hkk, Int.pow_mul]
  congr 3
  rw [Int.pow_succ, Int.pow_succ, Int.pow_zero, Int.one_mul]
theorem PowI.done {x0 n0 wd r b k : Int} (h : PowI x0 n0 wd r b k) (hk : ¬ 0 < k) : wrapZ r wd = wrapZ (x0 ^ n0.toNat) wd := by
  obtain ⟨h3, h0, hr, _, e⟩ := h
  have : k.toNat = 0 := by omega
  rw [← e, this, Int.pow_zero, Int.mul_one]
theorem fdiv_less {k : Int} (h : 0 < k) : (k.fdiv 2).toNat < k.toNat := by
  rw [Int.fdiv_eq_ediv_of_nonneg _ (by decide)]; omega
theorem inv_x {x : Int} (hx : x ≠ 0) (h1 : x ≠ 1) (h2 : x ≠ -1) : Int.tdiv 1 x = 0 := by
  rcases Int.lt_or_le x 0 with h | h
  · rw [← Int.neg_neg x, Int.tdiv_neg, Int.tdiv_eq_ediv_of_nonneg (by decide), Int.ediv_eq_zero_of_lt (by decide) (by omega)]; rfl
  · rw [Int.tdiv_eq_ediv_of_nonneg (by decide), Int.ediv_eq_zero_of_lt (by decide) (by omega)]
local macro_rules | `(tactic| walk_at "binaryOp Mult int int") => `(tactic| (k_here; (with_reducible refine mul_int ?_ (mulOk_small ?a ?b)); (case a => first | assumption | exact PowI.sr (by assumption) | exact PowI.sb (by assumption)); (case b => first | assumption | exact PowI.sb (by assumption) | exact PowI.sr (by assumption))))
local macro_rules | `(tactic| kst_p) => `(tactic| first | assumption | exact PowI.odd (by assumption) (by assumption) (by assumption) | exact PowI.even (by assumption) (by assumption) (by assumption))
theorem pow_nn (w : World) (news : Led) (x n wd : Int) (t u v : Tok) (h3 : 3 ≤ wd) (h64 : wd ≤ 64) (hn : 0 ≤ n) (hx : Small x) : Does w 109 3 news [.int x t, .int n u, .int wd v] (fun r => ∃ t, r = .int (wrapZ (x ^ n.toNat) wd) t) := by
  unfold Does
  have hi : PowI x n wd 1 x n := ⟨h3, hn, by decide, hx, by rw [Int.one_mul]⟩
  have hlt : ¬ n < 0 := by omega
  k_with "exec While Compare cons nil" => k_while (fun _ r b k => PowI x n wd r b k) (fun _ _ _ k => k.toNat) "result" "x" "n"
  intro mean mg mb dp un gd cn cs a ccd cl outer A₀ base h₀ L m s Q E B F X N T hk hd hu hret
  refine wpAny_call ?_
  k_dflt cell_enter
  k_with "measure" => exact fdiv_less (by assumption)
  k_steps
  exact hret _ _ _ (intR (PowI.done (by assumption) (by assumption))) (by assumption) (by assumption)
theorem pow_neg1 (w : World) (news : Led) (x wd : Int) (t u v : Tok) (hx : x ≠ 0) : Does w 109 3 news [.int x t, .int (-1) u, .int wd v] (fun r => ∃ t, r = .int (Int.tdiv 1 x) t) := by
  unfold Does
  intro mean mg mb dp un gd cn cs a ccd cl outer A₀ base h₀ L m s Q E B F X N T hk hd hu hret
  refine wpAny_call ?_
  k_dflt cell_enter
  k_steps
  all_goals first
    | (exfalso; omega)
    | (have hx1 : x = 1 := by assumption
       subst hx1
       exact hret _ _ _ (intR (by decide)) (by assumption) (by assumption))
    | (have hx1 : x = -1 := by assumption
       subst hx1
       exact hret _ _ _ (intR (by decide)) (by assumption) (by assumption))
    | exact hret _ _ _ (intR (by rw [inv_x hx (by assumption) (by assumption)])) (by assumption) (by assumption)
local macro_rules | `(tactic| walk_at "call ref") => `(tactic| (k_here; k_dflt (first | (refine' Does.at ?_ ?_ ?_ ?_ ?_ ?_ ?_ ?_ (pow_neg1 _ _ _ _ _ _ _ ?a1) ?_; walk_at "mine pre"; (case a1 => assumption); walk_at "mine int") | (refine' Does.at ?_ ?_ ?_ ?_ ?_ ?_ ?_ ?_ (pow_nn _ _ _ _ _ _ _ _ ?a1 ?a2 ?a3 ?a4) ?_; walk_at "mine pre"; (case a1 | a2 => assumption); (case a3 | a4 => assumption); walk_at "mine int"))))
noncomputable def downZ (x n wd : Int) : Int := if wd ≤ n then (if x < 0 then -1 else 0) else x.fdiv (2 ^ n.toNat)
noncomputable def upZ (x n wd : Int) : Int := if wd ≤ n then 0 else wrapZ (x * 2 ^ n.toNat) wd
local macro_rules | `(tactic| walk_at "binaryOp LShift int int") => `(tactic| (k_here; (with_reducible refine lshift_int_small ?a ?b ?c ?_); (case a => first | assumption | omega); (case b => omega); (case c => assumption)))
local macro_rules | `(tactic| walk_at "binaryOp RShift int int") => `(tactic| (k_here; (with_reducible refine rshift_int ?a ?_); (case a => first | assumption | omega)))
theorem down_nn (w : World) (news : Led) (x n wd : Int) (t u v : Tok) (hn : 0 ≤ n) : Does w 123 1 news [.int x t, .int n u, .int wd v] (fun r => ∃ t, r = .int (downZ x n wd) t) := by
  unfold Does
  intro mean mg mb dp un gd cn cs a ccd cl outer A₀ base h₀ L m s Q E B F X N T hk hd hu hret
  refine wpAny_call ?_
  k_dflt cell_enter
  k_steps
  · exact hret _ _ _ (intR (by rw [downZ, if_pos (by assumption), if_pos (by assumption)])) (by assumption) (by assumption)
  · exact hret _ _ _ (intR (by rw [downZ, if_pos (by assumption), if_neg (by assumption)])) (by assumption) (by assumption)
  · exact hret _ _ _ (intR (by rw [downZ, if_neg (by assumption)])) (by assumption) (by assumption)
theorem up_nn (w : World) (news : Led) (x n wd : Int) (t u v : Tok) (hn : 0 ≤ n) (hx : Small x) (h3 : 3 ≤ wd) (h64 : wd ≤ 64) : Does w 116 3 news [.int x t, .int n u, .int wd v] (fun r => ∃ t, r = .int (upZ x n wd) t) := by
  unfold Does
  intro mean mg mb dp un gd cn cs a ccd cl outer A₀ base h₀ L m s Q E B F X N T hk hd hu hret
  refine wpAny_call ?_
  k_dflt cell_enter
  k_steps
  · exact hret _ _ _ (intR (by rw [upZ, if_pos (by assumption)])) (by assumption) (by assumption)
  · exact hret _ _ _ (intR (by rw [upZ, if_neg (by assumption)])) (by assumption) (by assumption)
local macro_rules | `(tactic| walk_at "call ref") => `(tactic| (k_here; k_dflt (first | (refine' Does.at ?_ ?_ ?_ ?_ ?_ ?_ ?_ ?_ (up_nn _ _ _ _ _ _ _ _ ?a1 ?a2 ?a3 ?a4) ?_; walk_at "mine pre"; (case a1 => (focus (first | assumption | omega))); (case a2 | a3 | a4 => assumption); walk_at "mine int") | (refine' Does.at ?_ ?_ ?_ ?_ ?_ ?_ ?_ ?_ (down_nn _ _ _ _ _ _ _ _ ?a1) ?_; walk_at "mine pre"; (case a1 => (focus (first | assumption | omega))); walk_at "mine int"))))
theorem up_neg (w : World) (news : Led) (x n wd : Int) (t u v : Tok) (hn : n < 0) : Does w 116 4 news [.int x t, .int n u, .int wd v] (fun r => ∃ t, r = .int (downZ x (-n) wd) t) := by
  unfold Does
  intro mean mg mb dp un gd cn cs a ccd cl outer A₀ base h₀ L m s Q E B F X N T hk hd hu hret
  refine wpAny_call ?_
  k_dflt cell_enter
  k_steps
  exact hret _ _ _ (intR rfl) (by assumption) (by assumption)
theorem down_neg (w : World) (news : Led) (x n wd : Int) (t u v : Tok) (hn : n < 0) (hx : Small x) (h3 : 3 ≤ wd) (h64 : wd ≤ 64) : Does w 123 4 news [.int x t, .int n u, .int wd v] (fun r => ∃ t, r = .int (upZ x (-n) wd) t) := by
  unfold Does
  intro mean mg mb dp un gd cn cs a ccd cl outer A₀ base h₀ L m s Q E B F X N T hk hd hu hret
  refine wpAny_call ?_
  k_dflt cell_enter
  k_steps
  exact hret _ _ _ (intR rfl) (by assumption) (by assumption)
noncomputable def shlZ (x n wd : Int) : Int := if n < 0 then downZ x (-n) wd else upZ x n wd
noncomputable def shrZ (x n wd : Int) : Int := if n < 0 then upZ x (-n) wd else downZ x n wd
theorem Does.more {w : World} {f : Addr} {d d' : Nat} {news : Led} {vs : List Value} {R R' : Value → Prop} (C : Does w f d news vs R) (hd : d ≤ d') (hR : ∀ r, R r → R' r) : Does w f d' news vs R' := by
  unfold Does at C ⊢
  intro mean mg mb dp un gd cn cs a ccd cl outer A₀ base h₀ L m s Q E B F X N T hk h1 h2 hret
  exact C mean mg mb dp un gd cn cs a ccd cl outer A₀ base h₀ L m s Q E B F X N T hk (by omega) (by omega) fun r h' tk' hr F' N' => hret r h' tk' (hR r hr) F' N'
theorem shl_does (w : World) (news : Led) (x n wd : Int) (t u v : Tok) (hx : Small x) (h3 : 3 ≤ wd) (h64 : wd ≤ 64) : Does w 116 4 news [.int x t, .int n u, .int wd v] (fun r => ∃ t, r = .int (shlZ x n wd) t) := by
  unfold shlZ
  by_cases h : n < 0
  · rw [if_pos h]; exact up_neg w news x n wd t u v h
  · rw [if_neg h]; exact (up_nn w news x n wd t u v (by omega) hx h3 h64).more (by decide) fun _ z => z
theorem shr_does (w : World) (news : Led) (x n wd : Int) (t u v : Tok) (hx : Small x) (h3 : 3 ≤ wd) (h64 : wd ≤ 64) : Does w 123 4 news [.int x t, .int n u, .int wd v] (fun r => ∃ t, r = .int (shrZ x n wd) t) := by
  unfold shrZ
  by_cases h : n < 0
  · rw [if_pos h]; exact down_neg w news x n wd t u v h hx h3 h64
  · rw [if_neg h]; exact (down_nn w news x n wd t u v (by omega)).more (by decide) fun _ z => z
local macro_rules | `(tactic| walk_at "call ref") => `(tactic| (k_here; k_dflt (first | (refine' Does.at ?_ ?_ ?_ ?_ ?_ ?_ ?_ ?_ (shr_does _ _ _ _ _ _ _ _ ?a1 ?a2 ?a3) ?_; walk_at "mine pre"; (case a1 | a2 | a3 => assumption); walk_at "mine int") | (refine' Does.at ?_ ?_ ?_ ?_ ?_ ?_ ?_ ?_ (shl_does _ _ _ _ _ _ _ _ ?a1 ?a2 ?a3) ?_; walk_at "mine pre"; (case a1 | a2 | a3 => assumption); walk_at "mine int"))))
-- NORULES
section
noncomputable abbrev textOf (a : Int) : Str := Str.ofString "  " ++ Str.ofString (toString a) ++ Str.ofString "x"
/-- the figures of a number -/
noncomputable def figs (m : Nat) : List Nat := (Nat.toDigits 10 m).map Char.toNat
theorem figs_val (m : Nat) : PySem.NumText.digitsVal (figs m) = m := KIN.val_back m
theorem figs_all (m : Nat) : ∀ c ∈ figs m, 48 ≤ c ∧ c ≤ 57 := fun c hc => by
  obtain ⟨ch, hch, e⟩ := List.mem_map.mp hc
  rw [← e]
  exact digit_range (Nat.isDigit_of_mem_toDigits (by decide) (by decide) hch)
theorem figs_ne (m : Nat) : figs m ≠ [] := fun e => by
  have h := tDigits_len_ge 10 m
  rw [List.map_eq_nil_iff.mp e] at h
  exact absurd h (by decide)
noncomputable def signOf (a : Int) : List Nat := if a < 0 then [45] else []
theorem signs_int (a : Int) : (Str.ofString (toString a)).cps.toList = signOf a ++ figs a.natAbs := by
  unfold signOf
  cases a with
  | ofNat m =>
    rw [if_neg (by show ¬ ((m : Nat) : Int) < 0; omega)]
    exact KIN.signs_num m
  | negSucc m =>
    rw [if_pos (Int.negSucc_lt_zero m)]
    rw [signs_ofString]
    show ("-" ++ Nat.repr (m + 1)).toList.map Char.toNat = _
    rw [String.toList_append, List.map_append, Nat.toList_repr]
    rfl
theorem text_list (a : Int) : (textOf a).cps.toList = 32 :: 32 :: (signOf a ++ figs a.natAbs ++ [120]) := by
  show ((Str.ofString "  " ++ Str.ofString (toString a)) ++ Str.ofString "x").cps.toList = _
  rw [Str.cps_append, Array.toList_append, Str.cps_append, Array.toList_append, signs_int]
  rfl
/-- a text of two blanks, signs, and one more that is no figure -/
structure TextIs (x : Str) (a : Int) (e : Int) : Prop where
  list : x.cps.toList = 32 :: 32 :: (signOf a ++ figs a.natAbs ++ [120])
  len : e = 2 + ((signOf a ++ figs a.natAbs).length : Int)
  small : e < 100
theorem sign_len (a : Int) : ((signOf a).length : Int) = if a < 0 then 1 else 0 := by unfold signOf; split <;> rfl
theorem contains_one (y : Str) (c : Nat) : (!(Builtin.Str.occurrences y ⟨#[c]⟩ 0 y.length 1).isEmpty) = decide (c ∈ y.cps.toList) := StrLaws.found_one y c
theorem mem_fig (c : Nat) : c ∈ (Str.ofString "0123456789").cps.toList ↔ 48 ≤ c ∧ c < 48 + 10 := by
  have hl : (Str.ofString "0123456789").cps.toList = List.range' 48 10 := by decide +kernel
  rw [hl, List.mem_range'_1]
section
variable {x : Str} {a e : Int} (T : TextIs x a e)
include T
theorem TextIs.length : (x.length : Int) = e + 1 := by
  have h : x.length = x.cps.toList.length := by simp [PySem.Str.length]
  rw [h, T.list, T.len]
  simp
  omega
theorem TextIs.first : (if a < 0 then (3 : Int) else 2) < e := by
  have := T.len
  have h1 := sign_len a
  have h2 : 0 < (figs a.natAbs).length := List.length_pos_iff.mpr (figs_ne _)
  rw [List.length_append] at this
  split <;> rename_i h <;> simp only [h, if_true, if_false] at h1 <;> omega
theorem TextIs.at {i : Int} (h0 : 0 ≤ i) (h1 : i ≤ e) : Txt.item x i = ⟨#[(x.cps.toList[i.toNat]?).getD 0]⟩ := by
  have hl := T.length
  unfold Txt.item Txt.charAt
  have : seqIndex? i x.length = some i.toNat := by
    unfold seqIndex?
    have h2 : ¬ i < 0 := by omega
    simp only [h2, if_false]
    rw [if_pos]
    rw [decide_eq_true (by omega), decide_eq_true (by omega)]
    rfl
  rw [this]
  simp
theorem TextIs.blank {i : Int} (h0 : 0 ≤ i) (h1 : i ≤ 2) : (!(Builtin.Str.occurrences (Str.ofString " \t\n\r\x0c\x0b") (Txt.item x i) 0 (Str.ofString " \t\n\r\x0c\x0b").length 1).isEmpty) = decide (i < 2) := by
  have hf := T.first
  rw [T.at h0 (by split at hf <;> omega), contains_one, T.list]
  have hl : (Str.ofString " \t\n\r\x0c\x0b").cps.toList = [32, 9, 10, 13, 12, 11] := by decide +kernel
  rw [hl]
  obtain rfl | rfl | rfl : i = 0 ∨ i = 1 ∨ i = 2 := by omega
  · exact decide_eq_true (by show (32 : Nat) ∈ _; decide)
  · exact decide_eq_true (by show (32 : Nat) ∈ _; decide)
  · have : ¬ (((32 :: 32 :: (signOf a ++ figs a.natAbs ++ [120]))[(2 : Int).toNat]?).getD 0 ∈ [32, 9, 10, 13, 12, 11]) := by
      show ¬ (((signOf a ++ figs a.natAbs ++ [120])[0]?).getD 0 ∈ [32, 9, 10, 13, 12, 11])
      unfold signOf
      split
      · show ¬ ((45 : Nat) ∈ _); decide
      · cases h : figs a.natAbs with
        | nil => exact absurd h (figs_ne _)
        | cons c r =>
          have hc := figs_all a.natAbs c (by rw [h]; exact .head _)
          simp
          omega
    rw [decide_eq_false this]
    decide
theorem TextIs.figure {i : Int} (h0 : (if a < 0 then (3 : Int) else 2) ≤ i) (h1 : i ≤ e) : (!(Builtin.Str.occurrences (Str.ofString "0123456789") (Txt.item x i) 0 (Str.ofString "0123456789").length 1).isEmpty) = decide (i < e) := by
  have hs := sign_len a
  have h0 : (2 : Int) + ((signOf a).length : Int) ≤ i := by rw [hs]; split at h0 <;> simp only [*, if_true, if_false] <;> omega
  have h2 : 0 ≤ i := by omega
  rw [T.at h2 h1, contains_one, T.list]
  have hn := T.len
  rw [List.length_append] at hn
  obtain ⟨k, hk⟩ : ∃ k : Nat, i.toNat = k + 2 := ⟨i.toNat - 2, by omega⟩
  rw [hk, decide_eq_decide, mem_fig]
  show 48 ≤ ((signOf a ++ figs a.natAbs ++ [120])[k]?).getD 0 ∧ ((signOf a ++ figs a.natAbs ++ [120])[k]?).getD 0 < 48 + 10 ↔ _
  have hk2 : (signOf a).length ≤ k := by omega
  rw [List.append_assoc, List.getElem?_append_right hk2]
  by_cases hi : i < e
  · have hk3 : k - (signOf a).length < (figs a.natAbs).length := by omega
    rw [List.getElem?_append_left hk3, List.getElem?_eq_getElem hk3, iff_true_right hi]
    have := figs_all a.natAbs _ (List.getElem_mem hk3)
    exact ⟨this.1, Nat.lt_succ_of_le this.2⟩
  · have hk3 : k - (signOf a).length = (figs a.natAbs).length := by omega
    rw [hk3, List.getElem?_append_right (Nat.le_refl _), Nat.sub_self, iff_false_right hi]
    show ¬ (48 ≤ 120 ∧ 120 < 48 + 10)
    decide
theorem TextIs.cut {i j : Int} (h : 0 ≤ i ∧ i ≤ j ∧ j ≤ e + 1) : Txt.slice x (some i) (some j) = ⟨((x.cps.toList.drop i.toNat).take (j - i).toNat).toArray⟩ := by
  have hl := T.length
  have hx : x.length = x.cps.toList.length := by simp [PySem.Str.length]
  have := PyProof.Rows.slice_closes (x := x) (i := i) (j := j) (by omega)
  simpa using this
theorem TextIs.second : ∃ c, Txt.slice x (some 2) (some (2 + 1)) = ⟨#[c]⟩ ∧ ((a < 0 ∧ c = 45) ∨ (¬ a < 0 ∧ 48 ≤ c ∧ c ≤ 57)) := by
  have hf := T.first
  rw [T.cut (by split at hf <;> omega), T.list]
  show ∃ c, (⟨((signOf a ++ figs a.natAbs ++ [120]).take 1).toArray⟩ : Str) = _ ∧ _
  unfold signOf
  split
  · rename_i h
    exact ⟨45, rfl, .inl ⟨h, rfl⟩⟩
  · rename_i h
    cases hh : figs a.natAbs with
    | nil => exact absurd hh (figs_ne _)
    | cons c r => exact ⟨c, rfl, .inr ⟨h, figs_all a.natAbs c (by rw [hh]; exact .head _)⟩⟩
theorem TextIs.plus {i : Int} (hi : i = 2) : (Txt.slice x (some i) (some (i + 1)) == Str.ofString "+") = false := by
  subst hi
  obtain ⟨c, e1, hc⟩ := T.second
  rw [e1]
  have hp : Str.ofString "+" = ⟨#[43]⟩ := by decide +kernel
  rw [hp, beq_eq_false_iff_ne]
  intro h
  injection h with h
  injection h with h
  injection h with h
  omega
theorem TextIs.minus {i : Int} (hi : i = 2) : (Txt.slice x (some i) (some (i + 1)) == Str.ofString "-") = decide (a < 0) := by
  subst hi
  obtain ⟨c, e1, hc⟩ := T.second
  rw [e1]
  have hp : Str.ofString "-" = ⟨#[45]⟩ := by decide +kernel
  rw [hp]
  rcases hc with ⟨h1, rfl⟩ | ⟨h1, h2, h3⟩
  · rw [decide_eq_true h1, beq_self_eq_true]
  · rw [decide_eq_false h1, beq_eq_false_iff_ne]
    intro h
    injection h with h
    injection h with h
    injection h with h
    omega
theorem TextIs.sign {i : Int} (hi : i = 2) : (Txt.item x i == Str.ofString "-") = decide (a < 0) := by
  have h1 := T.minus hi
  have hf := T.first
  rw [T.cut (by split at hf <;> omega), T.list] at h1
  rw [T.at (by omega) (by split at hf <;> omega), T.list]
  rw [← h1]
  subst hi
  congr 2
  cases signOf a ++ figs a.natAbs <;> rfl
theorem TextIs.core {i : Int} (hi : i = 2) : KStt.codes (Txt.slice x (some i) (some e)) = (signOf a ++ figs a.natAbs).map fun (c : Nat) => (c : Int) := by
  subst hi
  have hf := T.first
  have hn := T.len
  rw [T.cut (by split at hf <;> omega), T.list]
  have h2 : (e - 2).toNat = (signOf a ++ figs a.natAbs).length := by omega
  rw [h2]
  show List.map _ ((signOf a ++ figs a.natAbs ++ [120]).take (signOf a ++ figs a.natAbs).length) = _
  rw [List.take_left]
end
/-- what the loop has read so far -/
noncomputable def readZ (m : Int) (pre : List Int) : Int := pre.foldl (fun n c => if 48 ≤ c ∧ c ≤ 57 then (n * 10 + (c - 48)).fmod m else n) 0
theorem readZ_snoc (m : Int) (pre : List Int) (c : Int) : readZ m (pre ++ [c]) = if 48 ≤ c ∧ c ≤ 57 then (readZ m pre * 10 + (c - 48)).fmod m else readZ m pre := by
  unfold readZ
  rw [List.foldl_append]
  rfl
theorem readZ_figs {m : Int} (hm : 0 < m) (cs : List Nat) (h : ∀ c ∈ cs, 48 ≤ c ∧ c ≤ 57) : ∀ n : Nat, (cs.map fun (c : Nat) => (c : Int)).foldl (fun n c => if 48 ≤ c ∧ c ≤ 57 then (n * 10 + (c - 48)).fmod m else n) ((n : Int).fmod m) = ((cs.foldl (fun acc c => acc * 10 + (c - 48)) n : Nat) : Int).fmod m := by
  induction cs with
  | nil => intro n; rfl
  | cons c r ih =>
    intro n
    have hc := h c (.head _)
    rw [List.map_cons, List.foldl_cons, List.foldl_cons, if_pos (by omega), ← ih (fun d hd => h d (.tail _ hd))]
    congr 1
    rw [Int.fmod_eq_emod_of_nonneg _ (by omega), Int.fmod_eq_emod_of_nonneg _ (by omega), Int.fmod_eq_emod_of_nonneg _ (by omega), Int.add_emod, Int.mul_emod, Int.emod_emod, ← Int.mul_emod, ← Int.add_emod]
    congr 1
    omega
theorem readZ_all {m : Int} (hm : 0 < m) (a : Int) : readZ m ((signOf a ++ figs a.natAbs).map fun (c : Nat) => (c : Int)) = (a.natAbs : Int).fmod m := by
  have h0 := readZ_figs hm (figs a.natAbs) (figs_all _) 0
  have h1 : (figs a.natAbs).foldl (fun acc c => acc * 10 + (c - 48)) 0 = a.natAbs := figs_val a.natAbs
  rw [h1, show ((0 : Nat) : Int).fmod m = 0 from Int.zero_fmod m] at h0
  unfold readZ
  rw [← h0]
  unfold signOf
  split
  · rfl
  · rfl
section
variable {prog : Program} {w : World} {A : Around} {E : Value → Shared → Prop} {s : Shared} {x y : Str} {t u : Tok} {Q : Value → Shared → Prop} {b : Bool}
theorem in_is (e : (!(Builtin.Str.occurrences x y 0 x.length 1).isEmpty) = b) (h : Q (.bool b) s) : wpAny (model prog w) A (compareOp .In (.str y u) (.str x t)) Q E s := PyProof.Rows.in_str (by rw [e]; exact h)
theorem eq_is (e : (x == y) = b) (h : Q (.bool b) s) : wpAny (model prog w) A (compareOp .Eq (.str x t) (.str y u)) Q E s := PyProof.Rows.eq_str (by rw [e]; exact h)
end
noncomputable abbrev tupObj (vs : List Value) : Obj := { cls := .type "tuple", data := .seq vs.toArray }
local macro_rules | `(tactic| walk_at "compareOp In str str") => `(tactic| (k_here; (rename TextIs _ _ _ => hT9); (first | (refine' in_is (TextIs.blank hT9 ?a ?b) ?_) | (refine' in_is (TextIs.figure hT9 ?a ?b) ?_)); (case a => first | omega | (simp only [*, if_true, if_false]; omega)); (case b => omega)))
local macro_rules | `(tactic| walk_at "compareOp Eq str str") => `(tactic| (k_here; (rename TextIs _ _ _ => hT9); (first | (refine' eq_is (TextIs.plus hT9 ?a) ?_) | (refine' eq_is (TextIs.minus hT9 ?a) ?_) | (refine' eq_is (TextIs.sign hT9 ?a) ?_)); (case a => omega)))
/-- number_head called: a new pair of places, and what stood stands -/
@[irreducible] noncomputable def HeadCall (w : World) (d : Nat) (news : Led) (vs : List Value) (e : Int) : Prop :=
  ∀ (mean : ExcName → Option Value) (mg mb : Str → Option Value) (dp un : Nat) (gd : Option (List Code)) (cn : Str) (cs : Scope) (a : Addr) (ccd : Value) (cl : List (Str × Addr)) (outer : List Env) (A₀ : Around) (base h₀ : Heap) (L : Addr) (m : Str → Option Value) (s : Shared) (Q E : Value → Shared → Prop),
    Below A₀ base outer h₀ → Fr h₀ L s.heap m → (hd.heap_1_39 w.params).In h₀ → News h₀ L s.heap news → Top hd.view_1_40 (looseW hd.view_1_40 [Str.ofString "Limits"]) mean mg mb h₀ → cs.kind = .function →
    dp + d < recursionLimit → un + 8 * d < cLine →
    (∀ (q : Addr) (i j : Int) (t1 t2 : Tok) (h' : Heap) (tk' : Nat), i = 2 → j = e → Fr h₀ L h' m → News h₀ L h' ((q, tupObj [.int i t1, .int j t2]) :: news) → Q (.ref q) { s with heap := h', toks := tk' }) →
    wpAny (model PySem.Challenge.rw_sa0533_01.row.prog w) (ktrTop dp un gd cn cs L a ccd cl outer) (call (.ref 158) vs) Q E s
theorem HeadCall.use {w : World} {d : Nat} {news : Led} {vs : List Value} {e : Int} {mean : ExcName → Option Value} {mg mb : Str → Option Value} {dp un : Nat} {gd : Option (List Code)} {cn : Str} {cs : Scope} {a : Addr} {ccd : Value} {cl : List (Str × Addr)} {outer : List Env} {A₀ : Around} {base h₀ : Heap} {L : Addr} {m : Str → Option Value} {s : Shared} {Q E : Value → Shared → Prop}
    (C : HeadCall w d news vs e)
    (B : Below A₀ base outer h₀) (F : Fr h₀ L s.heap m) (X : (hd.heap_1_39 w.params).In h₀) (N : News h₀ L s.heap news) (T : Top hd.view_1_40 (looseW hd.view_1_40 [Str.ofString "Limits"]) mean mg mb h₀) (hk : cs.kind = .function)
    (hd : dp + d < recursionLimit) (hu : un + 8 * d < cLine)
    (ret : ∀ (q : Addr) (i j : Int) (t1 t2 : Tok) (h' : Heap) (tk' : Nat), i = 2 → j = e → Fr h₀ L h' m → News h₀ L h' ((q, tupObj [.int i t1, .int j t2]) :: news) → Q (.ref q) { s with heap := h', toks := tk' }) :
    wpAny (model PySem.Challenge.rw_sa0533_01.row.prog w) (ktrTop dp un gd cn cs L a ccd cl outer) (call (.ref 158) vs) Q E s :=
  by unfold HeadCall at C; exact C mean mg mb dp un gd cn cs a ccd cl outer A₀ base h₀ L m s Q E B F X N T hk hd hu ret
theorem head_neg (w : World) (news : Led) (x : Str) (t : Tok) (a e : Int) (T9 : TextIs x a e) (ha : a < 0) : HeadCall w 1 news [.str x t] e := by
  unfold HeadCall
  have hl := T9.length
  have hf := T9.first
  rw [if_pos ha] at hf
  have hs := T9.small
  have hx : x.length ≤ 100 := by omega
  k_with "exec While BoolOp cons nil" => first | k_while (fun _ e' => 3 ≤ e' ∧ e' ≤ e) (fun _ e' => (e - e').toNat) "end" | k_while (fun _ a => 0 ≤ a ∧ a ≤ 2) (fun _ a => (2 - a).toNat) "at"
  intro mean mg mb dp un gd cn cs a₀ ccd cl outer A₀ base h₀ L m s Q E B F X N T hk hd hu hret
  refine wpAny_call ?_
  k_dflt cell_enter
  k_steps
  · exfalso; omega
  · refine hret _ _ _ _ _ _ _ ?_ ?_ (by assumption) (by assumption) <;> omega
theorem head_pos (w : World) (news : Led) (x : Str) (t : Tok) (a e : Int) (T9 : TextIs x a e) (ha : ¬ a < 0) : HeadCall w 1 news [.str x t] e := by
  unfold HeadCall
  have hl := T9.length
  have hf := T9.first
  rw [if_neg ha] at hf
  have hs := T9.small
  have hx : x.length ≤ 100 := by omega
  k_with "exec While BoolOp cons nil" => first | k_while (fun _ e' => 2 ≤ e' ∧ e' ≤ e) (fun _ e' => (e - e').toNat) "end" | k_while (fun _ a => 0 ≤ a ∧ a ≤ 2) (fun _ a => (2 - a).toNat) "at"
  intro mean mg mb dp un gd cn cs a₀ ccd cl outer A₀ base h₀ L m s Q E B F X N T hk hd hu hret
  refine wpAny_call ?_
  k_dflt cell_enter
  k_steps
  · exfalso; omega
  · refine hret _ _ _ _ _ _ _ ?_ ?_ (by assumption) (by assumption) <;> omega
theorem head_all (w : World) (news : Led) (x : Str) (t : Tok) (a e : Int) (T9 : TextIs x a e) : HeadCall w 1 news [.str x t] e := by
  by_cases h : a < 0
  · exact head_neg w news x t a e T9 h
  · exact head_pos w news x t a e T9 h

local macro_rules | `(tactic| walk_at "call ref") => `(tactic| (k_here; k_dflt (refine' HeadCall.use (head_all _ _ _ _ _ _ ?t9) ?B ?F ?X ?N ?T ?hk ?hd ?hu ?_; (case t9 => assumption); (case B | F => k_asm); (case X | N | T => k_asm); (case hk => first | exact rfl | assumption); (case hd => ktr_room); (case hu => ktr_units); intro q9 i9 j9 t9 u9 h9 tk9 ei9 ej9 F9 N9; subst ei9; subst ej9; (try dsimp only); (try k_fold))))
theorem in_fig (c : Nat) : (!(Builtin.Str.occurrences (Str.ofString "0123456789") ⟨#[c]⟩ 0 (Str.ofString "0123456789").length 1).isEmpty) = decide (48 ≤ (c : Int) ∧ (c : Int) ≤ 57) := by
  rw [contains_one, decide_eq_decide, mem_fig]
  omega
theorem find_ten : ∀ d : Nat, d < 10 → Txt.find (Str.ofString "0123456789") ⟨#[48 + d]⟩ = (d : Int) := by decide +kernel
theorem find_fig (c : Nat) (h : 48 ≤ (c : Int) ∧ (c : Int) ≤ 57) : Txt.find (Str.ofString "0123456789") ⟨#[c]⟩ = (c : Int) - 48 := by
  have h1 := find_ten (c - 48) (by omega)
  rw [show 48 + (c - 48) = c by omega] at h1
  rw [h1]
  omega
theorem read_yes {k : Nat} {n : Int} {pre : List Int} {c : Nat} (hk : k ≤ 64) (hp : n = readZ (1 * 2 ^ k) pre) (hc : 48 ≤ (c : Int) ∧ (c : Int) ≤ 57) :
    (n * 10 + Txt.find (Str.ofString "0123456789") ⟨#[c]⟩).fmod (1 * 2 ^ k) = readZ (1 * 2 ^ k) (pre ++ [(c : Int)]) ∧ Small ((n * 10 + Txt.find (Str.ofString "0123456789") ⟨#[c]⟩).fmod (1 * 2 ^ k)) := by
  subst hp
  rw [find_fig c hc, readZ_snoc, if_pos hc]
  refine ⟨rfl, ?_⟩
  generalize readZ (1 * 2 ^ k) pre * 10 + ((c : Int) - 48) = X
  have h1 : (2 : Nat) ^ k ≤ 2 ^ 64 := Nat.pow_le_pow_right (by decide) hk
  have h2 : (((2 : Nat) ^ k : Nat) : Int) = (2 : Int) ^ k := by rw [Int.natCast_pow]; rfl
  rw [Int.one_mul, ← h2]
  have h3 : 0 < (2 : Nat) ^ k := Nat.pow_pos (by decide)
  unfold Small
  generalize (2 : Nat) ^ k = p at *
  rw [Int.fmod_eq_emod_of_nonneg _ (by omega)]
  have h4 := Int.emod_nonneg X (show ((p : Nat) : Int) ≠ 0 by omega)
  have h5 := Int.emod_lt_of_pos X (show 0 < ((p : Nat) : Int) by omega)
  omega
theorem read_no {k : Nat} {n : Int} {pre : List Int} {c : Nat} (hp : n = readZ (1 * 2 ^ k) pre) (hs : Small n) (hc : ¬ (48 ≤ (c : Int) ∧ (c : Int) ≤ 57)) :
    n = readZ (1 * 2 ^ k) (pre ++ [(c : Int)]) ∧ Small n := by
  rw [readZ_snoc, if_neg hc]
  exact ⟨hp, hs⟩
theorem read_nil {k : Nat} : (0 : Int) = readZ (1 * 2 ^ k) [] ∧ Small 0 := ⟨rfl, by decide⟩
theorem wd_le {wd : Int} (h : wd ≤ 64) : wd.toNat ≤ 64 := by omega
theorem emod_neg_emod (y m : Int) : (-(y % m)) % m = (-y) % m := by
  rw [← Int.zero_sub (y % m), ← Int.zero_sub y, Int.sub_emod, Int.emod_emod, ← Int.sub_emod]
theorem read_end {wd a : Int} (h3 : 3 ≤ wd) : (¬ a < 0 → wrapZ (readZ (1 * 2 ^ wd.toNat) ((signOf a ++ figs a.natAbs).map fun (c : Nat) => (c : Int))) wd = wrapZ a wd) ∧ (a < 0 → wrapZ (-readZ (1 * 2 ^ wd.toNat) ((signOf a ++ figs a.natAbs).map fun (c : Nat) => (c : Int))) wd = wrapZ a wd) := by
  have hp := pow_pos2 wd.toNat
  rw [readZ_all (by omega), Int.one_mul, wrapZ_eq (by omega), wrapZ_eq (by omega), wrapZ_eq (by omega), Int.fmod_eq_emod_of_nonneg _ (by omega)]
  have ec : (((2 ^ wd.toNat : Nat)) : Int) = 2 ^ wd.toNat := by rw [Int.natCast_pow]; rfl
  unfold Int.bmod
  rw [ec]
  refine ⟨fun h => ?_, fun h => ?_⟩
  · rw [Int.emod_emod, Int.natAbs_of_nonneg (by omega)]
  · rw [emod_neg_emod, Int.ofNat_natAbs_of_nonpos (by omega), Int.neg_neg]
theorem read_neg {x : Str} {a e wd n : Int} (T : TextIs x a e) (h3 : 3 ≤ wd) (hn : n = readZ (1 * 2 ^ wd.toNat) (KStt.codes (Txt.slice x (some 2) (some e)))) (ha : a < 0) : wrapZ (-n) wd = wrapZ a wd := by
  rw [hn, T.core rfl]; exact (read_end h3).2 ha
theorem read_pos {x : Str} {a e wd n : Int} (T : TextIs x a e) (h3 : 3 ≤ wd) (hn : n = readZ (1 * 2 ^ wd.toNat) (KStt.codes (Txt.slice x (some 2) (some e)))) (ha : ¬ a < 0) : wrapZ n wd = wrapZ a wd := by
  rw [hn, T.core rfl]; exact (read_end h3).1 ha
local macro_rules | `(tactic| walk_at "compareOp In str str") => `(tactic| (k_here; (refine' in_is (in_fig _) ?_)))
local macro_rules | `(tactic| walk_at "binaryOp Mult int int") => `(tactic| (k_here; (with_reducible refine mul_int ?_ (mulOk_small (by assumption) (by decide)))))
local macro_rules | `(tactic| walk_at "exec For") => `(tactic| (k_here; (rename Fr _ _ _ _ => lF'); (with_unfolding_all refine' For_invVF lF' ?k1 ?k2 ?_; (case k1 | k2 => exact rfl); k_whole)))
local macro_rules | `(tactic| kst_p) => `(tactic| first | exact read_nil | exact read_yes (wd_le (by assumption)) (by assumption) (by assumption) | exact read_no (by assumption) (by assumption) (by assumption))
theorem num_text (w : World) (news : Led) (x : Str) (t u : Tok) (a e wd : Int) (T9 : TextIs x a e) (h3 : 3 ≤ wd) (h64 : wd ≤ 64) : Does w 165 3 news [.str x t, .int wd u] (fun r => ∃ t, r = .int (wrapZ a wd) t) := by
  unfold Does
  have hl := T9.length
  have hf := T9.first
  have hs := T9.small
  have hx : x.length ≤ 100 := by omega
  have h2e : 2 < e := by split at hf <;> omega
  k_with "pyIter str" => k_state (fun pre n => n = readZ (1 * 2 ^ wd.toNat) pre ∧ Small n) "n"
  intro mean mg mb dp un gd cn cs a₀ ccd cl outer A₀ base h₀ L m s Q E B F X N T hk hd hu hret
  refine wpAny_call ?_
  k_dflt cell_enter
  k_steps
  · exact hret _ _ _ (intR (read_neg (by assumption) h3 (by assumption) (by assumption))) (by assumption) (news_sub (by assumption) fun p hp => .tail _ hp)
  · exact hret _ _ _ (intR (read_pos (by assumption) h3 (by assumption) (by assumption))) (by assumption) (news_sub (by assumption) fun p hp => .tail _ hp)
local macro_rules | `(tactic| walk_at "call ref") => `(tactic| (k_here; k_dflt (refine' Does.at ?_ ?_ ?_ ?_ ?_ ?_ ?_ ?_ (num_text _ _ _ _ _ _ _ _ ?t9 ?a1 ?a2) ?_; walk_at "mine pre"; (case t9 | a1 | a2 => assumption); walk_at "mine int")))
theorem text_is (a : Int) (h : Small a) : TextIs (textOf a) a (2 + ((signOf a ++ figs a.natAbs).length : Int)) := by
  refine ⟨text_list a, rfl, ?_⟩
  have h1 : (figs a.natAbs).length ≤ 20 := by
    unfold figs
    rw [List.length_map]
    exact digits10_le (by decide) (Nat.lt_trans h (by decide))
  have h2 := sign_len a
  rw [List.length_append]
  split at h2 <;> omega
theorem tonum_text (w : World) (news : Led) (lim : Addr) (wd a : Int) (t : Tok) (hl : LimAt news lim wd) (h3 : 3 ≤ wd) (h64 : wd ≤ 64) (ha : Small a) : Does w 333 6 news [.str (textOf a) t, .ref lim] (fun r => ∃ t, r = .int (wrapZ a wd) t) := by
  have T9 := text_is a ha
  generalize textOf a = x at T9 ⊢
  refine does_lim hl ?_
  intro dx kn g1 g2 g3 g4 g5 k1 k2 k3 k4 k5 t1 v2 v3 v4 v5
  unfold Does
  intro mean mg mb dp un gd cn cs a₀ ccd cl outer A₀ base h₀ L m s Q E B F X N T hk hd hu hret
  refine wpAny_call ?_
  k_dflt cell_enter
  k_steps
  exact hret _ _ _ (intR rfl) (by assumption) (by assumption)
end
/-- a number, undef, or a text of blanks, a number and a letter; and the number it counts as -/
inductive NumOf (wd : Int) : Value → Int → Prop
  | int (n : Int) (t : Tok) (h : Small n) : NumOf wd (.int n t) n
  | none : NumOf wd .none 0
  | text (a : Int) (t : Tok) (h : Small a) : NumOf wd (.str (textOf a) t) (wrapZ a wd)
theorem NumOf.small {wd n : Int} {v : Value} (h : NumOf wd v n) (h3 : 3 ≤ wd) (h64 : wd ≤ 64) : Small n := by
  cases h with
  | int _ _ h => exact h
  | none => decide
  | text => exact small_wrap h3 h64
theorem tonum_does (w : World) (news : Led) (lim : Addr) (wd : Int) (v : Value) (n : Int) (hl : LimAt news lim wd) (h3 : 3 ≤ wd) (h64 : wd ≤ 64) (hv : NumOf wd v n) : Does w 333 6 news [v, .ref lim] (fun r => ∃ t, r = .int n t) := by
  cases hv with
  | int _ t _ => exact (tonum_int w news n t lim).more (by decide) fun _ z => z
  | none => exact (tonum_none w news lim).more (by decide) fun _ z => z
  | text a t ha => exact tonum_text w news lim wd a t hl h3 h64 ha
theorem go_does (w : World) (news : Led) (wd : Int) (v : Value) (n m : Int) (u : Tok) (hv : NumOf wd v n) : Does w 424 1 news [v, .int m u] (fun r => r = .bool false) := by
  cases hv with
  | int _ t _ => exact go_int w news m n u t
  | none => exact go_none w news m u
  | text a t _ => exact go_str w news m _ u t
theorem limAt_of {news : Led} {lim : Addr} {wd : Int} {dx : Addr} {n : Nat} {h1 h2 h3 h4 h5 : Int} {k1 k2 k3 k4 k5 t1 : Tok} {v2 v3 v4 v5 : Value} (m1 : (lim, instObj 477 dx) ∈ news) (m2 : (dx, dictOf (limDict h1 h2 h3 h4 h5 k1 k2 k3 k4 k5 t1 v2 v3 v4 v5 wd) n) ∈ news) : LimAt news lim wd :=
  ⟨dx, n, h1, h2, h3, h4, h5, k1, k2, k3, k4, k5, t1, v2, v3, v4, v5, m1, m2⟩
theorem limAt_cons {news : Led} {lim : Addr} {wd : Int} {p : Addr × Obj} (h : LimAt news lim wd) : LimAt (p :: news) lim wd := by
  obtain ⟨dx, n, h1, h2, h3, h4, h5, k1, k2, k3, k4, k5, t1, v2, v3, v4, v5, m1, m2⟩ := h
  exact ⟨dx, n, h1, h2, h3, h4, h5, k1, k2, k3, k4, k5, t1, v2, v3, v4, v5, .tail _ m1, .tail _ m2⟩
theorem small_tdiv {x y : Int} (h : Small x) : Small (x.tdiv y) := by
  have := Int.natAbs_tdiv_le_natAbs x y
  unfold Small at *
  omega
theorem rules_F_4 : True := by
  k_with "mine mine lim" => (focus (repeat (first | assumption | refine limAt_cons ?_)))
  k_with "mine mine num" => (focus (first | assumption | exact NumOf.none | (refine NumOf.int _ _ ?_; first | assumption | exact small_wrap (by assumption) (by assumption) | decide)))
  k_with "mine mine small" => (focus (first | assumption | exact small_wrap (by assumption) (by assumption) | decide))
  k_with "mine mine ne" => (focus (first | assumption | decide | omega))
  trivial
local macro_rules | `(tactic| walk_at "call ref") => `(tactic| (k_here; k_dflt (first | (refine' Does.at ?_ ?_ ?_ ?_ ?_ ?_ ?_ ?_ (go_does _ _ _ _ _ _ _ ?a1) ?_; walk_at "mine pre"; (case a1 => assumption); walk_at "mine eq") | (refine' Does.at ?_ ?_ ?_ ?_ ?_ ?_ ?_ ?_ (tonum_does _ _ _ _ _ _ ?l ?a1 ?a2 ?a3) ?_; walk_at "mine pre"; (case l => walk_at "mine lim"); (case a1 | a2 | a3 => assumption); walk_at "mine int"))))
-- NORULES
section
theorem rules_F_5 : True := by
  k_with "mine mine other" => (skip)
  trivial
theorem useC {w : World} {f : Addr} {d : Nat} {news news' : Led} {vs : List Value} {R : Value → Prop} (C : ∀ news' : Led, (∀ p ∈ news, p ∈ news') → Does w f d news' vs R) (h : ∀ p ∈ news, p ∈ news') : Does w f d news' vs R := C news' h
local macro_rules | `(tactic| walk_at "call ref") => `(tactic| (k_here; k_dflt (refine' Does.at ?_ ?_ ?_ ?_ ?_ ?_ ?_ ?_ (useC (by assumption) ?sub) ?_; walk_at "mine pre"; (case sub => (intro p hp; repeat (first | exact hp | refine List.Mem.tail _ ?_))); intro r9 h9 tk9 e9 F9 N9; (try dsimp only); (try k_fold))))
theorem made_bit (w : World) (news : Led) (lim : Addr) (name : Str) (tk : Tok) (f : Addr) (v v' : Value) (R : Value → Prop)
    (hn : (name = Str.ofString "&" ∧ f = 431) ∨ (name = Str.ofString "|" ∧ f = 438) ∨ (name = Str.ofString "^" ∧ f = 445) ∨ (name = Str.ofString "<<" ∧ f = 410) ∨ (name = Str.ofString ">>" ∧ f = 417))
    (C : ∀ news' : Led, (∀ p ∈ news, p ∈ news') → Does w f 9 news' [v, v', .ref lim] R) : Does w 502 12 news [.str name tk, v, v', .ref lim] R := by
  unfold Does
  intro mean mg mb dp un gd cn cs a ccd cl outer A₀ base h₀ L m s Q E B F X N T hk hd hu hret
  refine wpAny_call ?_
  k_dflt cell_enter
  k_steps
  · rcases hn with ⟨rfl, rfl⟩ | ⟨rfl, rfl⟩ | ⟨rfl, rfl⟩ | ⟨rfl, rfl⟩ | ⟨rfl, rfl⟩
    all_goals k_steps
    all_goals exact hret _ _ _ (by assumption) (by assumption) (news_sub (by assumption) fun p hp => by repeat (first | exact hp | refine List.Mem.tail _ ?_))
  · exfalso
    rcases hn with ⟨rfl, rfl⟩ | ⟨rfl, rfl⟩ | ⟨rfl, rfl⟩ | ⟨rfl, rfl⟩ | ⟨rfl, rfl⟩
    all_goals exact absurd (by assumption) (by decide +kernel : ¬ ([Str.ofString "&", Str.ofString "|", Str.ofString "^", Str.ofString "<<", Str.ofString ">>"].any _) = false)
theorem made_arith (w : World) (news : Led) (lim : Addr) (name : Str) (tk : Tok) (f : Addr) (v v' : Value) (R : Value → Prop)
    (hn : (name = Str.ofString "+" ∧ f = 368) ∨ (name = Str.ofString "-" ∧ f = 375) ∨ (name = Str.ofString "*" ∧ f = 382) ∨ (name = Str.ofString "/" ∧ f = 389) ∨ (name = Str.ofString "%" ∧ f = 396) ∨ (name = Str.ofString "**" ∧ f = 403))
    (C : ∀ news' : Led, (∀ p ∈ news, p ∈ news') → Does w f 9 news' [v, v', .ref lim] R) : Does w 502 12 news [.str name tk, v, v', .ref lim] R := by
  unfold Does
  intro mean mg mb dp un gd cn cs a ccd cl outer A₀ base h₀ L m s Q E B F X N T hk hd hu hret
  refine wpAny_call ?_
  k_dflt cell_enter
  k_steps
  · exfalso
    rcases hn with ⟨rfl, rfl⟩ | ⟨rfl, rfl⟩ | ⟨rfl, rfl⟩ | ⟨rfl, rfl⟩ | ⟨rfl, rfl⟩ | ⟨rfl, rfl⟩
    all_goals exact absurd (by assumption) (by decide +kernel : ¬ ([Str.ofString "&", Str.ofString "|", Str.ofString "^", Str.ofString "<<", Str.ofString ">>"].any _) = true)
  · rcases hn with ⟨rfl, rfl⟩ | ⟨rfl, rfl⟩ | ⟨rfl, rfl⟩ | ⟨rfl, rfl⟩ | ⟨rfl, rfl⟩ | ⟨rfl, rfl⟩
    all_goals k_steps
    all_goals exact hret _ _ _ (by assumption) (by assumption) (news_sub (by assumption) fun p hp => by repeat (first | exact hp | refine List.Mem.tail _ ?_))
end
theorem LimAt.mono {news news' : Led} {lim : Addr} {wd : Int} (h : LimAt news lim wd) (hs : ∀ p ∈ news, p ∈ news') : LimAt news' lim wd := by
  obtain ⟨dx, n, h1, h2, h3, h4, h5, k1, k2, k3, k4, k5, t1, v2, v3, v4, v5, m1, m2⟩ := h
  exact ⟨dx, n, h1, h2, h3, h4, h5, k1, k2, k3, k4, k5, t1, v2, v3, v4, v5, hs _ m1, hs _ m2⟩
theorem strR {x : Str} (t : Tok) : ∃ t', Value.str x t = Value.str x t' := ⟨t, rfl⟩
theorem op_add (w : World) (news : Led) (lim : Addr) (wd : Int) (v v' : Value) (x y : Int) (hl : LimAt news lim wd) (h3 : 3 ≤ wd) (h64 : wd ≤ 64) (hx : NumOf wd v x) (hy : NumOf wd v' y) : Does w 368 9 news [v, v', .ref lim] (fun r => ∃ t, r = .int (wrapZ (x + y) wd) t) := by
  refine does_lim hl ?_
  intro dx kn g1 g2 g3 g4 g5 k1 k2 k3 k4 k5 t1 v2 v3 v4 v5
  unfold Does
  have sx := hx.small h3 h64
  have sy := hy.small h3 h64
  intro mean mg mb dp un gd cn cs a ccd cl outer A₀ base h₀ L m s Q E B F X N T hk hd hu hret
  refine wpAny_call ?_
  k_dflt cell_enter
  k_steps
  exact hret _ _ _ (intR rfl) (by assumption) (news_sub (by assumption) fun p hp => by repeat (first | exact hp | refine List.Mem.tail _ ?_))
theorem made_add (w : World) (news : Led) (lim : Addr) (wd : Int) (tk : Tok) (v v' : Value) (x y : Int) (hl : LimAt news lim wd) (h3 : 3 ≤ wd) (h64 : wd ≤ 64) (hx : NumOf wd v x) (hy : NumOf wd v' y) : Does w 502 12 news [.str (Str.ofString "+") tk, v, v', .ref lim] (fun r => ∃ t, r = .int (wrapZ (x + y) wd) t) :=
  made_arith w news lim _ tk 368 _ _ _ (.inl ⟨rfl, rfl⟩) fun news' h => op_add w news' lim wd v v' x y (hl.mono h) h3 h64 hx hy
theorem op_sub (w : World) (news : Led) (lim : Addr) (wd : Int) (v v' : Value) (x y : Int) (hl : LimAt news lim wd) (h3 : 3 ≤ wd) (h64 : wd ≤ 64) (hx : NumOf wd v x) (hy : NumOf wd v' y) : Does w 375 9 news [v, v', .ref lim] (fun r => ∃ t, r = .int (wrapZ (x - y) wd) t) := by
  refine does_lim hl ?_
  intro dx kn g1 g2 g3 g4 g5 k1 k2 k3 k4 k5 t1 v2 v3 v4 v5
  unfold Does
  have sx := hx.small h3 h64
  have sy := hy.small h3 h64
  intro mean mg mb dp un gd cn cs a ccd cl outer A₀ base h₀ L m s Q E B F X N T hk hd hu hret
  refine wpAny_call ?_
  k_dflt cell_enter
  k_steps
  exact hret _ _ _ (intR rfl) (by assumption) (news_sub (by assumption) fun p hp => by repeat (first | exact hp | refine List.Mem.tail _ ?_))
theorem made_sub (w : World) (news : Led) (lim : Addr) (wd : Int) (tk : Tok) (v v' : Value) (x y : Int) (hl : LimAt news lim wd) (h3 : 3 ≤ wd) (h64 : wd ≤ 64) (hx : NumOf wd v x) (hy : NumOf wd v' y) : Does w 502 12 news [.str (Str.ofString "-") tk, v, v', .ref lim] (fun r => ∃ t, r = .int (wrapZ (x - y) wd) t) :=
  made_arith w news lim _ tk 375 _ _ _ (.inr (.inl ⟨rfl, rfl⟩)) fun news' h => op_sub w news' lim wd v v' x y (hl.mono h) h3 h64 hx hy
theorem op_mul (w : World) (news : Led) (lim : Addr) (wd : Int) (v v' : Value) (x y : Int) (hl : LimAt news lim wd) (h3 : 3 ≤ wd) (h64 : wd ≤ 64) (hx : NumOf wd v x) (hy : NumOf wd v' y) : Does w 382 9 news [v, v', .ref lim] (fun r => ∃ t, r = .int (wrapZ (x * y) wd) t) := by
  refine does_lim hl ?_
  intro dx kn g1 g2 g3 g4 g5 k1 k2 k3 k4 k5 t1 v2 v3 v4 v5
  unfold Does
  have sx := hx.small h3 h64
  have sy := hy.small h3 h64
  intro mean mg mb dp un gd cn cs a ccd cl outer A₀ base h₀ L m s Q E B F X N T hk hd hu hret
  refine wpAny_call ?_
  k_dflt cell_enter
  k_steps
  exact hret _ _ _ (intR rfl) (by assumption) (news_sub (by assumption) fun p hp => by repeat (first | exact hp | refine List.Mem.tail _ ?_))
theorem made_mul (w : World) (news : Led) (lim : Addr) (wd : Int) (tk : Tok) (v v' : Value) (x y : Int) (hl : LimAt news lim wd) (h3 : 3 ≤ wd) (h64 : wd ≤ 64) (hx : NumOf wd v x) (hy : NumOf wd v' y) : Does w 502 12 news [.str (Str.ofString "*") tk, v, v', .ref lim] (fun r => ∃ t, r = .int (wrapZ (x * y) wd) t) :=
  made_arith w news lim _ tk 382 _ _ _ (.inr (.inr (.inl ⟨rfl, rfl⟩))) fun news' h => op_mul w news' lim wd v v' x y (hl.mono h) h3 h64 hx hy
theorem op_div (w : World) (news : Led) (lim : Addr) (wd : Int) (v v' : Value) (x y : Int) (hl : LimAt news lim wd) (h3 : 3 ≤ wd) (h64 : wd ≤ 64) (hx : NumOf wd v x) (hy : NumOf wd v' y) (hy0 : y ≠ 0) : Does w 389 9 news [v, v', .ref lim] (fun r => ∃ t, r = .int (wrapZ (x.tdiv y) wd) t) := by
  refine does_lim hl ?_
  intro dx kn g1 g2 g3 g4 g5 k1 k2 k3 k4 k5 t1 v2 v3 v4 v5
  unfold Does
  have sx := hx.small h3 h64
  have sy := hy.small h3 h64
  intro mean mg mb dp un gd cn cs a ccd cl outer A₀ base h₀ L m s Q E B F X N T hk hd hu hret
  refine wpAny_call ?_
  k_dflt cell_enter
  k_steps
  · exact absurd (by assumption : y = 0) hy0
  exact hret _ _ _ (intR rfl) (by assumption) (news_sub (by assumption) fun p hp => by repeat (first | exact hp | refine List.Mem.tail _ ?_))
theorem made_div (w : World) (news : Led) (lim : Addr) (wd : Int) (tk : Tok) (v v' : Value) (x y : Int) (hl : LimAt news lim wd) (h3 : 3 ≤ wd) (h64 : wd ≤ 64) (hx : NumOf wd v x) (hy : NumOf wd v' y) (hy0 : y ≠ 0) : Does w 502 12 news [.str (Str.ofString "/") tk, v, v', .ref lim] (fun r => ∃ t, r = .int (wrapZ (x.tdiv y) wd) t) :=
  made_arith w news lim _ tk 389 _ _ _ (.inr (.inr (.inr (.inl ⟨rfl, rfl⟩)))) fun news' h => op_div w news' lim wd v v' x y (hl.mono h) h3 h64 hx hy hy0
theorem op_mod (w : World) (news : Led) (lim : Addr) (wd : Int) (v v' : Value) (x y : Int) (hl : LimAt news lim wd) (h3 : 3 ≤ wd) (h64 : wd ≤ 64) (hx : NumOf wd v x) (hy : NumOf wd v' y) (hy0 : y ≠ 0) : Does w 396 9 news [v, v', .ref lim] (fun r => ∃ t, r = .int (wrapZ (x - y * x.tdiv y) wd) t) := by
  refine does_lim hl ?_
  intro dx kn g1 g2 g3 g4 g5 k1 k2 k3 k4 k5 t1 v2 v3 v4 v5
  unfold Does
  have sx := hx.small h3 h64
  have sy := hy.small h3 h64
  have sq : Small (x.tdiv y) := small_tdiv sx
  intro mean mg mb dp un gd cn cs a ccd cl outer A₀ base h₀ L m s Q E B F X N T hk hd hu hret
  refine wpAny_call ?_
  k_dflt cell_enter
  k_steps
  · exact absurd (by assumption : y = 0) hy0
  exact hret _ _ _ (intR rfl) (by assumption) (news_sub (by assumption) fun p hp => by repeat (first | exact hp | refine List.Mem.tail _ ?_))
theorem made_mod (w : World) (news : Led) (lim : Addr) (wd : Int) (tk : Tok) (v v' : Value) (x y : Int) (hl : LimAt news lim wd) (h3 : 3 ≤ wd) (h64 : wd ≤ 64) (hx : NumOf wd v x) (hy : NumOf wd v' y) (hy0 : y ≠ 0) : Does w 502 12 news [.str (Str.ofString "%") tk, v, v', .ref lim] (fun r => ∃ t, r = .int (wrapZ (x - y * x.tdiv y) wd) t) :=
  made_arith w news lim _ tk 396 _ _ _ (.inr (.inr (.inr (.inr (.inl ⟨rfl, rfl⟩))))) fun news' h => op_mod w news' lim wd v v' x y (hl.mono h) h3 h64 hx hy hy0
theorem op_pow (w : World) (news : Led) (lim : Addr) (wd : Int) (v v' : Value) (x y : Int) (hl : LimAt news lim wd) (h3 : 3 ≤ wd) (h64 : wd ≤ 64) (hx : NumOf wd v x) (hy : NumOf wd v' y) (hy0 : 0 ≤ y) : Does w 403 9 news [v, v', .ref lim] (fun r => ∃ t, r = .int (wrapZ (x ^ y.toNat) wd) t) := by
  refine does_lim hl ?_
  intro dx kn g1 g2 g3 g4 g5 k1 k2 k3 k4 k5 t1 v2 v3 v4 v5
  unfold Does
  have sx := hx.small h3 h64
  have sy := hy.small h3 h64
  intro mean mg mb dp un gd cn cs a ccd cl outer A₀ base h₀ L m s Q E B F X N T hk hd hu hret
  refine wpAny_call ?_
  k_dflt cell_enter
  k_steps
  exact hret _ _ _ (intR rfl) (by assumption) (news_sub (by assumption) fun p hp => by repeat (first | exact hp | refine List.Mem.tail _ ?_))
theorem made_pow (w : World) (news : Led) (lim : Addr) (wd : Int) (tk : Tok) (v v' : Value) (x y : Int) (hl : LimAt news lim wd) (h3 : 3 ≤ wd) (h64 : wd ≤ 64) (hx : NumOf wd v x) (hy : NumOf wd v' y) (hy0 : 0 ≤ y) : Does w 502 12 news [.str (Str.ofString "**") tk, v, v', .ref lim] (fun r => ∃ t, r = .int (wrapZ (x ^ y.toNat) wd) t) :=
  made_arith w news lim _ tk 403 _ _ _ (.inr (.inr (.inr (.inr (.inr ⟨rfl, rfl⟩))))) fun news' h => op_pow w news' lim wd v v' x y (hl.mono h) h3 h64 hx hy hy0
theorem op_inv (w : World) (news : Led) (lim : Addr) (wd : Int) (v v' : Value) (x : Int) (hl : LimAt news lim wd) (h3 : 3 ≤ wd) (h64 : wd ≤ 64) (hx : NumOf wd v x) (hy : NumOf wd v' (-1)) (hx0 : x ≠ 0) : Does w 403 9 news [v, v', .ref lim] (fun r => ∃ t, r = .int (Int.tdiv 1 x) t) := by
  refine does_lim hl ?_
  intro dx kn g1 g2 g3 g4 g5 k1 k2 k3 k4 k5 t1 v2 v3 v4 v5
  unfold Does
  have sx := hx.small h3 h64
  have sy := hy.small h3 h64
  intro mean mg mb dp un gd cn cs a ccd cl outer A₀ base h₀ L m s Q E B F X N T hk hd hu hret
  refine wpAny_call ?_
  k_dflt cell_enter
  k_steps
  exact hret _ _ _ (intR rfl) (by assumption) (news_sub (by assumption) fun p hp => by repeat (first | exact hp | refine List.Mem.tail _ ?_))
theorem made_inv (w : World) (news : Led) (lim : Addr) (wd : Int) (tk : Tok) (v v' : Value) (x : Int) (hl : LimAt news lim wd) (h3 : 3 ≤ wd) (h64 : wd ≤ 64) (hx : NumOf wd v x) (hy : NumOf wd v' (-1)) (hx0 : x ≠ 0) : Does w 502 12 news [.str (Str.ofString "**") tk, v, v', .ref lim] (fun r => ∃ t, r = .int (Int.tdiv 1 x) t) :=
  made_arith w news lim _ tk 403 _ _ _ (.inr (.inr (.inr (.inr (.inr ⟨rfl, rfl⟩))))) fun news' h => op_inv w news' lim wd v v' x (hl.mono h) h3 h64 hx hy hx0
theorem op_shl (w : World) (news : Led) (lim : Addr) (wd : Int) (v v' : Value) (x y : Int) (hl : LimAt news lim wd) (h3 : 3 ≤ wd) (h64 : wd ≤ 64) (hx : NumOf wd v x) (hy : NumOf wd v' y) : Does w 410 9 news [v, v', .ref lim] (fun r => ∃ t, r = .int (shlZ x y wd) t) := by
  refine does_lim hl ?_
  intro dx kn g1 g2 g3 g4 g5 k1 k2 k3 k4 k5 t1 v2 v3 v4 v5
  unfold Does
  have sx := hx.small h3 h64
  have sy := hy.small h3 h64
  intro mean mg mb dp un gd cn cs a ccd cl outer A₀ base h₀ L m s Q E B F X N T hk hd hu hret
  refine wpAny_call ?_
  k_dflt cell_enter
  k_steps
  exact hret _ _ _ (intR rfl) (by assumption) (news_sub (by assumption) fun p hp => by repeat (first | exact hp | refine List.Mem.tail _ ?_))
theorem made_shl (w : World) (news : Led) (lim : Addr) (wd : Int) (tk : Tok) (v v' : Value) (x y : Int) (hl : LimAt news lim wd) (h3 : 3 ≤ wd) (h64 : wd ≤ 64) (hx : NumOf wd v x) (hy : NumOf wd v' y) : Does w 502 12 news [.str (Str.ofString "<<") tk, v, v', .ref lim] (fun r => ∃ t, r = .int (shlZ x y wd) t) :=
  made_bit w news lim _ tk 410 _ _ _ (.inr (.inr (.inr (.inl ⟨rfl, rfl⟩)))) fun news' h => op_shl w news' lim wd v v' x y (hl.mono h) h3 h64 hx hy
theorem op_shr (w : World) (news : Led) (lim : Addr) (wd : Int) (v v' : Value) (x y : Int) (hl : LimAt news lim wd) (h3 : 3 ≤ wd) (h64 : wd ≤ 64) (hx : NumOf wd v x) (hy : NumOf wd v' y) : Does w 417 9 news [v, v', .ref lim] (fun r => ∃ t, r = .int (shrZ x y wd) t) := by
  refine does_lim hl ?_
  intro dx kn g1 g2 g3 g4 g5 k1 k2 k3 k4 k5 t1 v2 v3 v4 v5
  unfold Does
  have sx := hx.small h3 h64
  have sy := hy.small h3 h64
  intro mean mg mb dp un gd cn cs a ccd cl outer A₀ base h₀ L m s Q E B F X N T hk hd hu hret
  refine wpAny_call ?_
  k_dflt cell_enter
  k_steps
  exact hret _ _ _ (intR rfl) (by assumption) (news_sub (by assumption) fun p hp => by repeat (first | exact hp | refine List.Mem.tail _ ?_))
theorem made_shr (w : World) (news : Led) (lim : Addr) (wd : Int) (tk : Tok) (v v' : Value) (x y : Int) (hl : LimAt news lim wd) (h3 : 3 ≤ wd) (h64 : wd ≤ 64) (hx : NumOf wd v x) (hy : NumOf wd v' y) : Does w 502 12 news [.str (Str.ofString ">>") tk, v, v', .ref lim] (fun r => ∃ t, r = .int (shrZ x y wd) t) :=
  made_bit w news lim _ tk 417 _ _ _ (.inr (.inr (.inr (.inr ⟨rfl, rfl⟩)))) fun news' h => op_shr w news' lim wd v v' x y (hl.mono h) h3 h64 hx hy
theorem op_and (w : World) (news : Led) (lim : Addr) (wd : Int) (v : Value) (x y : Int) (u : Tok) (hl : LimAt news lim wd) (h3 : 3 ≤ wd) (h64 : wd ≤ 64) (hx : NumOf wd v x) (sy : Small y) : Does w 431 9 news [v, .int y u, .ref lim] (fun r => ∃ t, r = .int (wrapZ (Builtin.bitAnd x y) wd) t) := by
  refine does_lim hl ?_
  intro dx kn g1 g2 g3 g4 g5 k1 k2 k3 k4 k5 t1 v2 v3 v4 v5
  unfold Does
  have sx := hx.small h3 h64
  have hy : NumOf wd (.int y u) y := .int y u sy
  intro mean mg mb dp un gd cn cs a ccd cl outer A₀ base h₀ L m s Q E B F X N T hk hd hu hret
  refine wpAny_call ?_
  k_dflt cell_enter
  k_steps
  exact hret _ _ _ (intR rfl) (by assumption) (news_sub (by assumption) fun p hp => by repeat (first | exact hp | refine List.Mem.tail _ ?_))
theorem made_and (w : World) (news : Led) (lim : Addr) (wd : Int) (tk : Tok) (v : Value) (x y : Int) (u : Tok) (hl : LimAt news lim wd) (h3 : 3 ≤ wd) (h64 : wd ≤ 64) (hx : NumOf wd v x) (sy : Small y) : Does w 502 12 news [.str (Str.ofString "&") tk, v, .int y u, .ref lim] (fun r => ∃ t, r = .int (wrapZ (Builtin.bitAnd x y) wd) t) :=
  made_bit w news lim _ tk 431 _ _ _ (.inl ⟨rfl, rfl⟩) fun news' h => op_and w news' lim wd v x y u (hl.mono h) h3 h64 hx sy
theorem op_or (w : World) (news : Led) (lim : Addr) (wd : Int) (v : Value) (x y : Int) (u : Tok) (hl : LimAt news lim wd) (h3 : 3 ≤ wd) (h64 : wd ≤ 64) (hx : NumOf wd v x) (sy : Small y) : Does w 438 9 news [v, .int y u, .ref lim] (fun r => ∃ t, r = .int (wrapZ (Builtin.bitOr x y) wd) t) := by
  refine does_lim hl ?_
  intro dx kn g1 g2 g3 g4 g5 k1 k2 k3 k4 k5 t1 v2 v3 v4 v5
  unfold Does
  have sx := hx.small h3 h64
  have hy : NumOf wd (.int y u) y := .int y u sy
  intro mean mg mb dp un gd cn cs a ccd cl outer A₀ base h₀ L m s Q E B F X N T hk hd hu hret
  refine wpAny_call ?_
  k_dflt cell_enter
  k_steps
  exact hret _ _ _ (intR rfl) (by assumption) (news_sub (by assumption) fun p hp => by repeat (first | exact hp | refine List.Mem.tail _ ?_))
theorem made_or (w : World) (news : Led) (lim : Addr) (wd : Int) (tk : Tok) (v : Value) (x y : Int) (u : Tok) (hl : LimAt news lim wd) (h3 : 3 ≤ wd) (h64 : wd ≤ 64) (hx : NumOf wd v x) (sy : Small y) : Does w 502 12 news [.str (Str.ofString "|") tk, v, .int y u, .ref lim] (fun r => ∃ t, r = .int (wrapZ (Builtin.bitOr x y) wd) t) :=
  made_bit w news lim _ tk 438 _ _ _ (.inr (.inl ⟨rfl, rfl⟩)) fun news' h => op_or w news' lim wd v x y u (hl.mono h) h3 h64 hx sy
theorem op_xor (w : World) (news : Led) (lim : Addr) (wd : Int) (v : Value) (x y : Int) (u : Tok) (hl : LimAt news lim wd) (h3 : 3 ≤ wd) (h64 : wd ≤ 64) (hx : NumOf wd v x) (sy : Small y) : Does w 445 9 news [v, .int y u, .ref lim] (fun r => ∃ t, r = .int (wrapZ (Builtin.bitXor x y) wd) t) := by
  refine does_lim hl ?_
  intro dx kn g1 g2 g3 g4 g5 k1 k2 k3 k4 k5 t1 v2 v3 v4 v5
  unfold Does
  have sx := hx.small h3 h64
  have hy : NumOf wd (.int y u) y := .int y u sy
  intro mean mg mb dp un gd cn cs a ccd cl outer A₀ base h₀ L m s Q E B F X N T hk hd hu hret
  refine wpAny_call ?_
  k_dflt cell_enter
  k_steps
  exact hret _ _ _ (intR rfl) (by assumption) (news_sub (by assumption) fun p hp => by repeat (first | exact hp | refine List.Mem.tail _ ?_))
theorem made_xor (w : World) (news : Led) (lim : Addr) (wd : Int) (tk : Tok) (v : Value) (x y : Int) (u : Tok) (hl : LimAt news lim wd) (h3 : 3 ≤ wd) (h64 : wd ≤ 64) (hx : NumOf wd v x) (sy : Small y) : Does w 502 12 news [.str (Str.ofString "^") tk, v, .int y u, .ref lim] (fun r => ∃ t, r = .int (wrapZ (Builtin.bitXor x y) wd) t) :=
  made_bit w news lim _ tk 445 _ _ _ (.inr (.inr (.inl ⟨rfl, rfl⟩))) fun news' h => op_xor w news' lim wd v x y u (hl.mono h) h3 h64 hx sy
theorem made_dd (w : World) (news : Led) (lim : Addr) (wd : Int) (tk : Tok) (v : Value) (x : Int) (u : Tok) (hl : LimAt news lim wd) (h3 : 3 ≤ wd) (h64 : wd ≤ 64) (hx : NumOf wd v x) : DoesS w 502 12 news [.str (Str.ofString "/") tk, v, .int 0 u, .ref lim] (fun r => ∃ t, r = .str (Str.ofString "dies") t) := by
  refine doesS_lim hl ?_
  intro dx kn g1 g2 g3 g4 g5 k1 k2 k3 k4 k5 t1 v2 v3 v4 v5
  unfold DoesS
  have sx := hx.small h3 h64
  have hy : NumOf wd (.int 0 u) 0 := .int 0 u (by decide)
  intro mean mg mb dp un gd cn cs a ccd outer A₀ base h₀ g₀ L m s Q E B F X N T hk XB TB D T0 hd hu hret
  refine wpAny_call ?_
  k_dflt (refine' code_defS ?k1 ?k2 ?k3 ?k4 ?k5 ?XB ?TB ?D ?T0 ?kA ?k6 ?k7 ?k8 ?k9 ?kB ?_ ?cK ?c2 ?c3 ?c4 ?c5; (case kA => exact rfl); (case k2 | k1 => k_asm); (case XB | TB => assumption); (case D | T0 => assumption); (case k3 | k4 | k5 => k_asm); (case k6 | k7 => k_is); (case k8 => k_room); (case k9 => exact BindsTo.of_eq rfl); (case kB => exact locs rfl); (case cK => assumption); (case c2 | c3 | c4 => exact rfl); (case c5 => decide); k_whole; intro g' L' h' FG' F' N' B' X' T' D'; (try dsimp only); (try k_lift B'); (try k_fold))
  k_steps
  exact hret _ _ _ _ (strR _) (by assumption) (by assumption) (news_sub (by assumption) fun p hp => by repeat (first | exact hp | refine List.Mem.tail _ ?_)) (by assumption) (by assumption) (by assumption) (by assumption)
theorem made_dm (w : World) (news : Led) (lim : Addr) (wd : Int) (tk : Tok) (v : Value) (x : Int) (u : Tok) (hl : LimAt news lim wd) (h3 : 3 ≤ wd) (h64 : wd ≤ 64) (hx : NumOf wd v x) : DoesS w 502 12 news [.str (Str.ofString "%") tk, v, .int 0 u, .ref lim] (fun r => ∃ t, r = .str (Str.ofString "dies") t) := by
  refine doesS_lim hl ?_
  intro dx kn g1 g2 g3 g4 g5 k1 k2 k3 k4 k5 t1 v2 v3 v4 v5
  unfold DoesS
  have sx := hx.small h3 h64
  have hy : NumOf wd (.int 0 u) 0 := .int 0 u (by decide)
  intro mean mg mb dp un gd cn cs a ccd outer A₀ base h₀ g₀ L m s Q E B F X N T hk XB TB D T0 hd hu hret
  refine wpAny_call ?_
  k_dflt (refine' code_defS ?k1 ?k2 ?k3 ?k4 ?k5 ?XB ?TB ?D ?T0 ?kA ?k6 ?k7 ?k8 ?k9 ?kB ?_ ?cK ?c2 ?c3 ?c4 ?c5; (case kA => exact rfl); (case k2 | k1 => k_asm); (case XB | TB => assumption); (case D | T0 => assumption); (case k3 | k4 | k5 => k_asm); (case k6 | k7 => k_is); (case k8 => k_room); (case k9 => exact BindsTo.of_eq rfl); (case kB => exact locs rfl); (case cK => assumption); (case c2 | c3 | c4 => exact rfl); (case c5 => decide); k_whole; intro g' L' h' FG' F' N' B' X' T' D'; (try dsimp only); (try k_lift B'); (try k_fold))
  k_steps
  exact hret _ _ _ _ (strR _) (by assumption) (by assumption) (news_sub (by assumption) fun p hp => by repeat (first | exact hp | refine List.Mem.tail _ ?_)) (by assumption) (by assumption) (by assumption) (by assumption)
local macro_rules | `(tactic| walk_at "call ref") => `(tactic| (k_here; k_dflt (first | (refine' DoesS.at ?_ ?_ ?_ ?_ ?_ ?_ ?_ ?_ ?_ ?_ ?_ ?_ (made_dm _ _ _ _ _ _ _ _ ?l ?a1 ?a2 ?hx ) ?_; walk_at "mine preS"; (case l => walk_at "mine lim"); (case a1 | a2 => assumption); (case hx => walk_at "mine num"); walk_at "mine dies") | (refine' DoesS.at ?_ ?_ ?_ ?_ ?_ ?_ ?_ ?_ ?_ ?_ ?_ ?_ (made_dd _ _ _ _ _ _ _ _ ?l ?a1 ?a2 ?hx ) ?_; walk_at "mine preS"; (case l => walk_at "mine lim"); (case a1 | a2 => assumption); (case hx => walk_at "mine num"); walk_at "mine dies") | (refine' Does.at ?_ ?_ ?_ ?_ ?_ ?_ ?_ ?_ (made_xor _ _ _ _ _ _ _ _ _ ?l ?a1 ?a2 ?hx ?sy ) ?_; walk_at "mine pre"; (case l => walk_at "mine lim"); (case a1 | a2 => assumption); (case hx => walk_at "mine num"); (case sy => walk_at "mine small"); walk_at "mine int") | (refine' Does.at ?_ ?_ ?_ ?_ ?_ ?_ ?_ ?_ (made_or _ _ _ _ _ _ _ _ _ ?l ?a1 ?a2 ?hx ?sy ) ?_; walk_at "mine pre"; (case l => walk_at "mine lim"); (case a1 | a2 => assumption); (case hx => walk_at "mine num"); (case sy => walk_at "mine small"); walk_at "mine int") | (refine' Does.at ?_ ?_ ?_ ?_ ?_ ?_ ?_ ?_ (made_and _ _ _ _ _ _ _ _ _ ?l ?a1 ?a2 ?hx ?sy ) ?_; walk_at "mine pre"; (case l => walk_at "mine lim"); (case a1 | a2 => assumption); (case hx => walk_at "mine num"); (case sy => walk_at "mine small"); walk_at "mine int") | (refine' Does.at ?_ ?_ ?_ ?_ ?_ ?_ ?_ ?_ (made_shr _ _ _ _ _ _ _ _ _ ?l ?a1 ?a2 ?hx ?hy ) ?_; walk_at "mine pre"; (case l => walk_at "mine lim"); (case a1 | a2 => assumption); (case hx | hy => walk_at "mine num"); walk_at "mine int") | (refine' Does.at ?_ ?_ ?_ ?_ ?_ ?_ ?_ ?_ (made_shl _ _ _ _ _ _ _ _ _ ?l ?a1 ?a2 ?hx ?hy ) ?_; walk_at "mine pre"; (case l => walk_at "mine lim"); (case a1 | a2 => assumption); (case hx | hy => walk_at "mine num"); walk_at "mine int") | (refine' Does.at ?_ ?_ ?_ ?_ ?_ ?_ ?_ ?_ (made_inv _ _ _ _ _ _ _ _ ?l ?a1 ?a2 ?hx ?hy ?e) ?_; walk_at "mine pre"; (case l => walk_at "mine lim"); (case a1 | a2 => assumption); (case hx | hy => walk_at "mine num"); (case e => walk_at "mine ne"); walk_at "mine int") | (refine' Does.at ?_ ?_ ?_ ?_ ?_ ?_ ?_ ?_ (made_pow _ _ _ _ _ _ _ _ _ ?l ?a1 ?a2 ?hx ?hy ?e) ?_; walk_at "mine pre"; (case l => walk_at "mine lim"); (case a1 | a2 => assumption); (case hx | hy => walk_at "mine num"); (case e => walk_at "mine ne"); walk_at "mine int") | (refine' Does.at ?_ ?_ ?_ ?_ ?_ ?_ ?_ ?_ (made_mod _ _ _ _ _ _ _ _ _ ?l ?a1 ?a2 ?hx ?hy ?e) ?_; walk_at "mine pre"; (case l => walk_at "mine lim"); (case a1 | a2 => assumption); (case hx | hy => walk_at "mine num"); (case e => walk_at "mine ne"); walk_at "mine int") | (refine' Does.at ?_ ?_ ?_ ?_ ?_ ?_ ?_ ?_ (made_div _ _ _ _ _ _ _ _ _ ?l ?a1 ?a2 ?hx ?hy ?e) ?_; walk_at "mine pre"; (case l => walk_at "mine lim"); (case a1 | a2 => assumption); (case hx | hy => walk_at "mine num"); (case e => walk_at "mine ne"); walk_at "mine int") | (refine' Does.at ?_ ?_ ?_ ?_ ?_ ?_ ?_ ?_ (made_mul _ _ _ _ _ _ _ _ _ ?l ?a1 ?a2 ?hx ?hy ) ?_; walk_at "mine pre"; (case l => walk_at "mine lim"); (case a1 | a2 => assumption); (case hx | hy => walk_at "mine num"); walk_at "mine int") | (refine' Does.at ?_ ?_ ?_ ?_ ?_ ?_ ?_ ?_ (made_sub _ _ _ _ _ _ _ _ _ ?l ?a1 ?a2 ?hx ?hy ) ?_; walk_at "mine pre"; (case l => walk_at "mine lim"); (case a1 | a2 => assumption); (case hx | hy => walk_at "mine num"); walk_at "mine int") | (refine' Does.at ?_ ?_ ?_ ?_ ?_ ?_ ?_ ?_ (made_add _ _ _ _ _ _ _ _ _ ?l ?a1 ?a2 ?hx ?hy ) ?_; walk_at "mine pre"; (case l => walk_at "mine lim"); (case a1 | a2 => assumption); (case hx | hy => walk_at "mine num"); walk_at "mine int"))))
section
variable {prog : Program} {w : World} {A : Around} {E : Value → Shared → Prop} {s : Shared} {a b : Int} {t u : Tok} {Q : Value → Shared → Prop}
theorem eq_yes (e : a = b) (h : Q (.bool true) s) : wpAny (model prog w) A (compareOp .Eq (.int a t) (.int b u)) Q E s := PyProof.Rows.eq_int (by rw [e, beq_self_eq_true]; exact h)
theorem ne_no (e : a = b) (h : Q (.bool false) s) : wpAny (model prog w) A (compareOp .NotEq (.int a t) (.int b u)) Q E s := PyProof.Rows.ne_int (by rw [e, bne_self_eq_false]; exact h)
theorem eq_no (e : a ≠ b) (h : Q (.bool false) s) : wpAny (model prog w) A (compareOp .Eq (.int a t) (.int b u)) Q E s := PyProof.Rows.eq_int (by rw [beq_eq_false_iff_ne.mpr e]; exact h)
theorem ne_yes (e : a ≠ b) (h : Q (.bool true) s) : wpAny (model prog w) A (compareOp .NotEq (.int a t) (.int b u)) Q E s := PyProof.Rows.ne_int (by rw [bne_iff_ne.mpr e]; exact h)
end
local macro_rules | `(tactic| walk_at "compareOp Eq int int") => `(tactic| (k_here; (with_reducible refine' eq_no ?k1 ?_); (case k1 => assumption)))
local macro_rules | `(tactic| walk_at "compareOp Eq int int") => `(tactic| (k_here; (with_reducible refine' eq_yes ?k1 ?_); (case k1 => assumption)))
local macro_rules | `(tactic| walk_at "compareOp NotEq int int") => `(tactic| (k_here; (with_reducible refine' ne_yes ?k1 ?_); (case k1 => assumption)))
local macro_rules | `(tactic| walk_at "compareOp NotEq int int") => `(tactic| (k_here; (with_reducible refine' ne_no ?k1 ?_); (case k1 => assumption)))
theorem neg_does (w : World) (news : Led) (lim : Addr) (wd n : Int) (t : Tok) (hl : LimAt news lim wd) (h3 : 3 ≤ wd) (h64 : wd ≤ 64) (hn : Small n) : Does w 340 9 news [.int n t, .ref lim] (fun r => ∃ t, r = .int (wrapZ (0 - n) wd) t) := by
  refine does_lim hl ?_
  intro dx kn g1 g2 g3 g4 g5 k1 k2 k3 k4 k5 t1 v2 v3 v4 v5
  unfold Does
  have hy : NumOf wd (.int n t) n := .int n t hn
  intro mean mg mb dp un gd cn cs a ccd cl outer A₀ base h₀ L m s Q E B F X N T hk hd hu hret
  refine wpAny_call ?_
  k_dflt cell_enter
  k_steps
  exact hret _ _ _ (intR rfl) (by assumption) (news_sub (by assumption) fun p hp => by repeat (first | exact hp | refine List.Mem.tail _ ?_))
theorem compl_does (w : World) (news : Led) (lim : Addr) (wd n : Int) (t : Tok) (hl : LimAt news lim wd) (h3 : 3 ≤ wd) (h64 : wd ≤ 64) (hn : Small n) : Does w 354 9 news [.int n t, .ref lim] (fun r => ∃ t, r = .int (wrapZ (-1 - n) wd) t) := by
  refine does_lim hl ?_
  intro dx kn g1 g2 g3 g4 g5 k1 k2 k3 k4 k5 t1 v2 v3 v4 v5
  unfold Does
  have hy : NumOf wd (.int n t) n := .int n t hn
  intro mean mg mb dp un gd cn cs a ccd cl outer A₀ base h₀ L m s Q E B F X N T hk hd hu hret
  refine wpAny_call ?_
  k_dflt cell_enter
  k_steps
  exact hret _ _ _ (intR rfl) (by assumption) (news_sub (by assumption) fun p hp => by repeat (first | exact hp | refine List.Mem.tail _ ?_))
local macro_rules | `(tactic| walk_at "call ref") => `(tactic| (k_here; k_dflt (first | (refine' Does.at ?_ ?_ ?_ ?_ ?_ ?_ ?_ ?_ (compl_does _ _ _ _ _ _ ?l ?a1 ?a2 ?s) ?_; walk_at "mine pre"; (case l => walk_at "mine lim"); (case a1 | a2 => assumption); (case s => walk_at "mine small"); walk_at "mine int") | (refine' Does.at ?_ ?_ ?_ ?_ ?_ ?_ ?_ ?_ (neg_does _ _ _ _ _ _ ?l ?a1 ?a2 ?s) ?_; walk_at "mine pre"; (case l => walk_at "mine lim"); (case a1 | a2 => assumption); (case s => walk_at "mine small"); walk_at "mine int"))))
/-- in the numbers of this width -/
noncomputable def InW (wd n : Int) : Prop := -2 ^ (wd.toNat - 1) ≤ n ∧ n < 2 ^ (wd.toNat - 1)
theorem two_pow_le (k : Nat) (h : k ≤ 63) : (2 : Int) ^ k ≤ 2 ^ 63 := by
  have h1 : (2 : Nat) ^ k ≤ 2 ^ 63 := Nat.pow_le_pow_right (by decide) h
  have h2 : (((2 : Nat) ^ k : Nat) : Int) = (2 : Int) ^ k := by rw [Int.natCast_pow]; rfl
  rw [← h2]
  exact_mod_cast h1
theorem InW.small {wd n : Int} (h : InW wd n) (h64 : wd ≤ 64) : Small n := by
  obtain ⟨h1, h2⟩ := h
  have h3 := two_pow_le (wd.toNat - 1) (by omega)
  unfold Small
  generalize (2 : Int) ^ (wd.toNat - 1) = p at *
  omega
theorem wrapZ_add_l {x y wd : Int} (h : 1 ≤ wd) : wrapZ (wrapZ x wd + y) wd = wrapZ (x + y) wd := by
  rw [wrapZ_eq h, wrapZ_eq h, wrapZ_eq h, Int.bmod_add_bmod]
theorem wrapZ_add_r {x y wd : Int} (h : 1 ≤ wd) : wrapZ (x + wrapZ y wd) wd = wrapZ (x + y) wd := by
  rw [Int.add_comm, wrapZ_add_l h, Int.add_comm]
theorem wrapZ_sub_r {x y wd : Int} (h : 1 ≤ wd) : wrapZ (x - wrapZ y wd) wd = wrapZ (x - y) wd := by
  rw [wrapZ_eq h, wrapZ_eq h, wrapZ_eq h, Int.sub_bmod_bmod]
theorem wrapZ_sub_l {x y wd : Int} (h : 1 ≤ wd) : wrapZ (wrapZ x wd - y) wd = wrapZ (x - y) wd := by
  rw [wrapZ_eq h, wrapZ_eq h, wrapZ_eq h, Int.bmod_sub_bmod]
theorem wrapZ_id {n wd : Int} (h3 : 3 ≤ wd) (h : InW wd n) : wrapZ n wd = n := by
  obtain ⟨k, hk, hk2⟩ := pow_half (show 1 ≤ wd by omega)
  obtain ⟨h1, h2⟩ := h
  rw [hk, Nat.add_sub_cancel] at h1 h2
  rw [wrapZ_eq (by omega), hk]
  have hp := pow_pos2 k
  have e2 : (((2 ^ (k + 1) : Nat)) : Int) = 2 * 2 ^ k := by rw [Int.natCast_pow, Int.pow_succ, Int.mul_comm]; rfl
  unfold Int.bmod
  rw [e2]
  generalize (2 : Int) ^ k = p at *
  have e3 : (2 * p + 1) / 2 = p := by omega
  rw [e3]
  rcases Int.lt_or_le n 0 with hn | hn
  · have : n % (2 * p) = n + 2 * p := by
      rw [← Int.add_emod_right, Int.emod_eq_of_lt (by omega) (by omega)]
    rw [this, if_neg (by omega)]; omega
  · rw [Int.emod_eq_of_lt hn (by omega), if_pos h2]
theorem wrapZ_in {n wd : Int} (h3 : 3 ≤ wd) : InW wd (wrapZ n wd) := by
  obtain ⟨k, hk, hk2⟩ := pow_half (show 1 ≤ wd by omega)
  unfold InW
  rw [hk, Nat.add_sub_cancel, wrapZ_eq (by omega), hk]
  have h1 := Int.le_bmod (x := n) (m := 2 ^ (k + 1)) (Nat.pow_pos (by decide))
  have h2 := Int.bmod_lt (x := n) (m := 2 ^ (k + 1)) (Nat.pow_pos (by decide))
  have e2 : (((2 ^ (k + 1) : Nat)) : Int) = 2 * 2 ^ k := by rw [Int.natCast_pow, Int.pow_succ, Int.mul_comm]; rfl
  rw [e2] at h1 h2
  generalize n.bmod (2 ^ (k + 1)) = r at *
  generalize (2 : Int) ^ k = p at *
  omega
theorem wrapZ_wrapZ {n wd : Int} (h3 : 3 ≤ wd) : wrapZ (wrapZ n wd) wd = wrapZ n wd := wrapZ_id h3 (wrapZ_in h3)
-- the ring
section
variable {wd a b c : Int} (h3 : 3 ≤ wd)
include h3
theorem ring2 : wrapZ (wrapZ (a + b) wd + c) wd = wrapZ (a + wrapZ (b + c) wd) wd := by
  rw [wrapZ_add_l (by omega), wrapZ_add_r (by omega), Int.add_assoc]
theorem ring3 (ha : InW wd a) : wrapZ (wrapZ (a - b) wd + b) wd = a := by
  rw [wrapZ_add_l (by omega), Int.sub_add_cancel, wrapZ_id h3 ha]
theorem ring4 : wrapZ (a + wrapZ (0 - b) wd) wd = wrapZ (a - b) wd := by
  rw [wrapZ_add_r (by omega)]; congr 1; omega
theorem ring5 (ha : InW wd a) : wrapZ (0 - wrapZ (0 - a) wd) wd = a := by
  rw [wrapZ_sub_r (by omega), show 0 - (0 - a) = a by omega, wrapZ_id h3 ha]
theorem ring7 : wrapZ (wrapZ (a * b) wd * c) wd = wrapZ (a * wrapZ (b * c) wd) wd := by
  rw [wrapZ_mul_l (by omega), wrapZ_mul_r (by omega), Int.mul_assoc]
theorem ring8 : wrapZ (a * wrapZ (b + c) wd) wd = wrapZ (wrapZ (a * b) wd + wrapZ (a * c) wd) wd := by
  rw [wrapZ_mul_r (by omega), wrapZ_add_l (by omega), wrapZ_add_r (by omega), Int.mul_add]
-- the quotient
theorem div_back (ha : InW wd a) (hw : wd ≤ 64) : wrapZ (wrapZ (wrapZ (a.tdiv b) wd * b) wd + wrapZ (a - b * a.tdiv b) wd) wd = a := by
  rw [wrapZ_add_r (by omega), wrapZ_add_l (by omega), ← wrapZ_add_l (by omega), wrapZ_mul_l (by omega), wrapZ_add_l (by omega), Int.mul_comm, show b * a.tdiv b + (a - b * a.tdiv b) = a by omega, wrapZ_id h3 ha]
omit h3 in
theorem mod_is : a - b * a.tdiv b = a.tmod b := by rw [Int.tmod_def]
omit h3 in
theorem natAbs_tmod_lt (hb : b ≠ 0) : (a.tmod b).natAbs < b.natAbs := by
  rw [Int.natAbs_tmod]
  exact Nat.mod_lt _ (by omega)
theorem mod_in (hb : b ≠ 0) (hB : InW wd b) : wrapZ (a - b * a.tdiv b) wd = a.tmod b := by
  rw [mod_is, wrapZ_id h3]
  obtain ⟨h1, h2⟩ := hB
  have := natAbs_tmod_lt (a := a) hb
  unfold InW
  generalize (2 : Int) ^ (wd.toNat - 1) = p at *
  omega
omit h3 in
theorem mod_sign (a b : Int) : 0 ≤ a.tmod b * a := by
  rcases Int.lt_or_le a 0 with h | h
  · have : a.tmod b ≤ 0 := by
      rw [← Int.neg_neg a, Int.neg_tmod]
      have := Int.tmod_nonneg (a := -a) b (by omega)
      omega
    exact Int.mul_nonneg_of_nonpos_of_nonpos this (by omega)
  · exact Int.mul_nonneg (Int.tmod_nonneg _ h) h
-- powers
theorem pow0 : wrapZ (a ^ (0 : Int).toNat) wd = 1 := by
  rw [show (0 : Int).toNat = 0 from rfl, Int.pow_zero, wrapZ_id h3]
  unfold InW
  obtain ⟨k, hk⟩ : ∃ k, wd.toNat - 1 = k + 1 := ⟨wd.toNat - 2, by omega⟩
  rw [hk, Int.pow_succ]
  have := pow_pos2 k
  omega
theorem pow1 {n : Int} (hn : 0 ≤ n) : wrapZ (a ^ (n + 1).toNat) wd = wrapZ (wrapZ (a ^ n.toNat) wd * a) wd := by
  rw [wrapZ_mul_l (by omega), show (n + 1).toNat = n.toNat + 1 by omega, Int.pow_succ]
theorem inv_in (h : a ≠ 0) : wrapZ (Int.tdiv 1 a) wd = Int.tdiv 1 a := by
  refine wrapZ_id h3 ?_
  have h2 : (Int.tdiv 1 a).natAbs ≤ 1 := by
    have := Int.natAbs_tdiv_le_natAbs 1 a
    simpa using this
  unfold InW
  obtain ⟨k, hk⟩ : ∃ k, wd.toNat - 1 = k + 1 := ⟨wd.toNat - 2, by omega⟩
  rw [hk, Int.pow_succ]
  have := pow_pos2 k
  omega
end
noncomputable def STup (ax : Addr) (its : Array Value) (nw : Led) : Prop := False ∨ ∃ o, (ax, o) ∈ nw ∧ o.cls = .type "tuple" ∧ ∃ k, o.data = .seq its k
noncomputable def SrcT (prog : Program) (w : World) (A : Around) (h₀ : Heap) (L : Addr) (m : Str → Option Value) (env : Env) (elt : Expr) (x : Str) (scope : Scope) (cl : List (Str × Addr)) (Fin : Shared → List Value → Led → Prop) (xv : Value) (s₁ : Shared) : Prop :=
  ∃ ax its news, xv = .ref ax ∧ A.handled = none ∧ Fr h₀ L s₁.heap m ∧ News h₀ L s₁.heap news ∧ STup ax its news ∧ its.size ≤ sizeLine ∧
    ∀ s₂ : Shared, (∃ h, s₂ = { s₁ with heap := h }) → LCg.CompRest prog w A h₀ L m env elt x scope cl s₂ (STup ax its) (fun i v => its[i]? = some v) (Fin s₂) its.size 0 [] news
section
variable {prog : Program} {w : World} {A : Around} {E : Value → Shared → Prop} {s : Shared} {h₀ : Heap} {L : Addr} {m : Str → Option Value} {env : Env}
theorem STup.tup {h : Heap} {ax : Addr} {its : Array Value} {nw : Led} (x : STup ax its nw) (N : News h₀ L h nw) : h.IsTuple ax its := by
  rcases x with ⟨⟨⟩⟩ | ⟨o, hm, r⟩
  exact ⟨o, (N _ hm).1, r⟩
theorem SrcT.intro {elt : Expr} {x : Str} {scope : Scope} {cl : List (Str × Addr)} {Fin : Shared → List Value → Led → Prop} {ax : Addr} {its : Array Value} {k : Nat} {news : Led} {s₁ : Shared}
    (hh : A.handled = none) (F : Fr h₀ L s₁.heap m) (N : News h₀ L s₁.heap news) (hm : (ax, ({ cls := .type "tuple", data := .seq its k } : Obj)) ∈ news) (hsz : its.size ≤ sizeLine)
    (h : ∀ g, LCg.CompRest prog w A h₀ L m env elt x scope cl { s₁ with heap := g } (STup ax its) (fun i v => its[i]? = some v) (Fin { s₁ with heap := g }) its.size 0 [] news) :
    SrcT prog w A h₀ L m env elt x scope cl Fin (.ref ax) s₁ := ⟨ax, its, news, rfl, hh, F, N, .inr ⟨_, hm, rfl, _, rfl⟩, hsz, fun _ ⟨g, e⟩ => e ▸ h g⟩
theorem tup_st {ax I : Addr} {its : Array Value} : ∀ i (h h' : Heap) (o : Obj) (nw : Led), (h.IsTupleIter I ax i ∧ h.IsTuple ax its) → h.get? I = some o → h'.get? I = some o → (∀ b o, h₀.get? b = some o → h'.get? b = some o) → News h₀ L h' nw → STup ax its nw → (h'.IsTupleIter I ax i ∧ h'.IsTuple ax its) :=
  fun i h h' o nw st e e' k N S => ⟨by obtain ⟨o', q, r⟩ := st.1; rw [e] at q; cases q; exact ⟨o, e', r⟩, S.tup N⟩
/-- a list comprehension over a tuple that stands in the ledger -/
theorem comp_tup {elt iter : Expr} {x : Str} {px : Pos} {scope : Scope} {cl : List (Str × Addr)} {pos : Pos} {Q : Value → Shared → Prop} (F₀ : Fr h₀ L s.heap m)
    (hclos : closureFor scope env = pure cl) (hcell : ∀ y ∈ scope.names, y.2 ≠ .cell) (hkind : scope.kind = .function)
    (hnames : ∀ y ∈ scope.names, y.2 = .local → scope.names.lookup y.1 = some .local) (hx : scope.names.lookup x = some .local)
    (h : wpAny (model prog w) A (eval iter env) (SrcT prog w A h₀ L m env elt x scope cl (fun s₂ => LCg.FinE h₀ L m s₂ Q)) E s)
    (hs : ∀ x, foldedSetIterable iter env x = pure x := by intro _; rfl) :
    wpAny (model prog w) A (eval (.ListComp elt [⟨.Name x px, iter, [], 0⟩] scope pos) env) Q E s := by
  rw [eval_ListComp]
  refine wpAny_comprehension_free (use := none) rfl hs hclos hkind hnames (wpAny_mono h (fun xv s₁ h₁ => ?_) fun _ _ e => e)
  obtain ⟨ax, its, news, rfl, hh, F, N, S, hsz, R⟩ := h₁
  have hl := S.tup N
  have hlt : ax < s₁.heap.objs.size := by obtain ⟨_, e, _⟩ := hl; exact Heap.lt_size e
  refine wpAny_pyIter_tuple hl ?_
  have up : ∀ b o, s₁.heap.get? b = some o → (s₁.heap.push { cls := .type "tuple_iterator", data := .fields #[.ref ax, .int 0 0] }).get? b = some o := fun b o e => Heap.get?_push_of_some _ e
  refine LCg.block_U (Walks.tuple hh s₁.heap.objs.size ax (Nat.ne_of_lt hlt) its) hsz (fun i h st => by obtain ⟨o, e, _⟩ := st.1; exact ⟨o, e⟩) tup_st hcell hkind hx ⟨⟨_, Heap.get?_push_size _ rfl, rfl, rfl⟩, hl.push _⟩ (fun b hb => ?_)
    (F.keeps up) (N.grown up) (Nat.ne_of_lt F.ns.lt) (next_is_new F) (fun p hp => Nat.ne_of_lt (Heap.lt_size (N p hp).1)) S (R _ ⟨_, rfl⟩) ?_
  · show b < (s₁.heap.push _).objs.size
    rw [Heap.size_push]
    rcases List.mem_cons.mp hb with rfl | hb
    · exact Nat.lt_succ_self _
    · rw [List.mem_singleton.mp hb]; exact Nat.lt_succ_of_lt hlt
  · intro D C h tk m' ys news' F' N' o1 hn hC₀ hD₀ hCL hDL hCD offC fin
    refine ⟨m', hn, fun h'' hs'' => fin D h'' tk (F'.change hs'' hCL hC₀) (fun p hp => ?_) o1⟩
    refine ⟨hs''.extBut _ _ ?_ (N' p hp).1, (N' p hp).2⟩
    rcases List.mem_cons.mp hp with rfl | hp
    · exact Ne.symm hCD
    · exact offC p hp
/-- a name set to a list comprehension over a tuple that stands in the ledger -/
theorem comp_tup_assign {elt iter : Expr} {x y : Str} {px py : Pos} {scope : Scope} {cl : List (Str × Addr)} {pos spos : Pos} {Q : Flow → Shared → Prop} (F₀ : Fr h₀ L s.heap m) (hLe : env.locals = L)
    (hsw : swapsWith (.ListComp elt [⟨.Name x px, iter, [], 0⟩] scope pos) (some (.Name y py)) spos.line env = pure true)
    (hclos : closureFor scope env = pure cl) (hcell : ∀ z ∈ scope.names, z.2 ≠ .cell) (hkind : scope.kind = .function)
    (hnames : ∀ z ∈ scope.names, z.2 = .local → scope.names.lookup z.1 = some .local) (hx : scope.names.lookup x = some .local)
    (hy : env.kindOf y = some .local) (hp : (env.scope.kind == .class || (env.scope.kind == .module && env.locals != env.globals)) = false)
    (h : wpAny (model prog w) A (eval iter env) (SrcT prog w A h₀ L m env elt x scope cl (fun s₂ => LCg.FinA h₀ L m s₂ y Q)) E s)
    (hs : ∀ x, foldedSetIterable iter env x = pure x := by intro _; rfl) :
    wpAny (model prog w) A (exec (.Assign [.Name y py] (.ListComp elt [⟨.Name x px, iter, [], 0⟩] scope pos) spos) env) Q E s := by
  subst hLe
  rw [exec_Assign_Name_used _ _ _ _ hsw]
  refine wpAny_bind (wpAny_standAt (wpAny_bind ?_))
  show wpAny _ A (do let _ ← comprehension (.ListComp elt [⟨.Name x px, iter, [], 0⟩] scope pos) scope env _ (newList []) false (eval iter env) (some (assign (.Name y py) env))) _ _ s
  refine wpAny_bind (wpAny_mono (wpAny_comprehension_free (use := some (assign (.Name y py) env)) (Q := fun _ s' => Q .next s') rfl hs hclos hkind hnames
    (wpAny_mono h (fun xv s₁ h₁ => ?_) fun _ _ e => e)) (fun _ s' hq => wpAny_pure (wpAny_pure hq)) fun _ _ e => e)
  obtain ⟨ax, its, news, rfl, hh, F, N, S, hsz, R⟩ := h₁
  have hl := S.tup N
  have hlt : ax < s₁.heap.objs.size := by obtain ⟨_, e, _⟩ := hl; exact Heap.lt_size e
  refine wpAny_pyIter_tuple hl ?_
  have up : ∀ b o, s₁.heap.get? b = some o → (s₁.heap.push { cls := .type "tuple_iterator", data := .fields #[.ref ax, .int 0 0] }).get? b = some o := fun b o e => Heap.get?_push_of_some _ e
  refine LCg.block_U (Walks.tuple hh s₁.heap.objs.size ax (Nat.ne_of_lt hlt) its) hsz (fun i h st => by obtain ⟨o, e, _⟩ := st.1; exact ⟨o, e⟩) tup_st hcell hkind hx ⟨⟨_, Heap.get?_push_size _ rfl, rfl, rfl⟩, hl.push _⟩ (fun b hb => ?_)
    (F.keeps up) (N.grown up) (Nat.ne_of_lt F.ns.lt) (next_is_new F) (fun p hp => Nat.ne_of_lt (Heap.lt_size (N p hp).1)) S (R _ ⟨_, rfl⟩) ?_
  · show b < (s₁.heap.push _).objs.size
    rw [Heap.size_push]
    rcases List.mem_cons.mp hb with rfl | hb
    · exact Nat.lt_succ_self _
    · rw [List.mem_singleton.mp hb]; exact Nat.lt_succ_of_lt hlt
  · intro D C h' tk m' ys news' F' N' o1 hn hC₀ hD₀ hCL hDL hCD offC fin
    show wpAny _ A (assign (.Name y py) env (.ref D)) _ _ _
    refine wpAny_assign_Name (wpAny_storeName_local hy F'.ns (fun h₂ hn₂ hs₂ => ?_) hp)
    have hL₀ : h₀.get? env.locals = none := Heap.get?_none_of_le F'.above
    have F₂ : Fr h₀ env.locals h₂ (fun z => if z = y then some (.ref D) else m z) := ⟨hn₂, fun b o e => hs₂.extBut b o (fun q => by rw [q, hL₀] at e; cases e) (F'.keep b o e), F'.above⟩
    refine ⟨m', hn.sameBut hs₂ hCL, fun h'' hs'' => fin D h'' _ (F₂.change hs'' hCL hC₀) (fun p hp => ?_) o1⟩
    have z : h₂.get? p.1 = some p.2 := hs₂.extBut _ _ (N' p hp).2.1 (N' p hp).1
    refine ⟨hs''.extBut _ _ ?_ z, (N' p hp).2⟩
    rcases List.mem_cons.mp hp with rfl | hp
    · exact Ne.symm hCD
    · exact offC p hp
end
theorem rules_F_6 : True := by
  k_with "mine exec Assign cons ListComp" => ((k_here; (with_reducible show wpAny _ _ (exec (Stmt.Assign [Expr.Name _ _] (Expr.ListComp _ [⟨Expr.Name _ _, Expr.Tuple _ _ _, _, _⟩] _ _) _) _) _ _ _); k_dflt (refine comp_tup_assign (F₀ := by k_asm) (by rfl) (by with_unfolding_all rfl) (by with_unfolding_all rfl) (by decide) (by rfl) (by decide) (by rfl) (by rfl) (by rfl) ?_)))
  k_with "mine eval ListComp" => ((k_here; (with_reducible show wpAny _ _ (eval (Expr.ListComp _ [⟨Expr.Name _ _, Expr.Tuple _ _ _, _, _⟩] _ _) _) _ _ _); k_dflt (refine comp_tup (F₀ := by k_asm) (by with_unfolding_all rfl) (by decide) (by rfl) (by decide) (by rfl) ?_)))
  k_with "mine SrcT" => ((k_here; k_dflt (refine SrcT.intro (by rfl) (by k_asm) (by k_asm) (by k_mem) (by first | size_fits | exact Nat.le_of_ble_eq_true rfl) ?_; intro g'; lcg_lit)))
  k_with "mine CompRest" => ((with_unfolding_all first | (refine LCg.CompRest.succ ?_; intro v' I' oI' C' oC' D' m' h' tk' E' hv' hC' hx' F' N' off' ne'; (first | lcg_open hv' | (obtain ⟨t9', hv9'⟩ := hv'; subst hv9'))) | refine LCg.CompRest.zero ?_))
  trivial
local macro_rules | `(tactic| walk_at "CompEnd") => `(tactic| k_dflt (refine' LCg.CompEnd.intro ?F ?N _ (fun _ hp => hp) ?o ?S ?_; (case F | N | o => assumption); (case S => first | exact True.intro | exact Or.inr ⟨_, by k_mem, rfl, _, rfl⟩)))
local macro_rules | `(tactic| walk_at "eval Name") => `(tactic| (k_here; (with_reducible show wpAny _ _ (eval (Expr.Name _ _) (envOf _ _ _ _ _)) _ _ _); k_dflt (first
  | (refine' ld ?k1 ?k2 ?_ ?k3 ?k4; (case k4 | k3 => exact rfl); (case k1 => k_asm); (case k2 => exact rfl); k_whole)
  | (refine' name_K ?k0 ?k1 ?k2 ?k3 ?_ ?k4 ?k5; (case k5 | k4 => exact rfl); (case k0 | k1 | k2 => k_asm); (case k3 => k_is); k_whole))))
local macro_rules | `(tactic| walk_at "eval Name") => `(tactic| (k_here; (with_reducible show wpAny _ _ (eval (Expr.Name _ _) (envOfC _ _ _ _ _)) _ _ _); k_dflt (first
  | (refine' nameX_L ?k1 ?k2 ?_ ?k3 ?k4; (case k4 | k3 => exact rfl); (case k1 => k_asm); (case k2 => exact rfl); k_whole)
  | (refine' nameX_C ?N ?c ?m ?d ?_ ?a ?b; (case b | a => exact rfl); (case N => k_asm); (case c => rfl); (case m => k_mem); (case d => k_asm); k_whole)
  | (refine' nameX_K ?k0 ?k1 ?k2 ?k3 ?_ ?k4 ?k5; (case k5 | k4 => exact rfl); (case k0 | k1 | k2 => k_asm); (case k3 => k_is); k_whole))))
local macro_rules | `(tactic| walk_at "eval Name") => `(tactic| (k_here; (with_reducible show wpAny _ _ (eval (Expr.Name _ _) (compEnvC _ _ _ _)) _ _ _); k_dflt (first
  | (refine' LCgL.ld_own ?N ?m ?C ?x ?_ ?a ?b; (case b | a => exact rfl); (case N => k_asm); (case m => k_mem); (case C | x => assumption))
  | (refine' lcf_free ?N ?c ?m ?d ?_ ?a ?b; (case b | a => exact rfl); (case N => k_asm); (case c => rfl); (case m => k_mem); (case d => k_asm); k_whole)
  | (refine' lcf_cell ?N ?c ?m ?d ?_ ?a ?b; (case b | a => exact rfl); (case N => k_asm); (case c => rfl); (case m => k_mem); (case d => k_asm); k_whole)
  | (refine' LCgL.ld_global ?F ?X ?T ?e ?_ ?g ?a ?b; (case b | a | g => exact rfl); (case F | X | T => k_asm); (case e => k_is)))))
theorem rules_F_7 : True := by
  k_with "mine exec Assign cons ListComp" => ((k_here; (with_reducible show wpAny _ _ (exec (Stmt.Assign [Expr.Tuple _ _ _] (Expr.ListComp _ _ _ _) _) _) _ _ _); walk_at "exec Assign"))
  trivial
local macro_rules | `(tactic| walk_at "eval Name") => `(tactic| (k_here; (with_reducible show wpAny _ _ (eval (Expr.Name _ _) (envOf _ _ _ _ _)) _ _ _); k_dflt (refine' name_B ?k0 ?k1 ?k2 ?k3 ?k4 ?k5 ?_ ?k6 ?k7; (case k7 | k6 => exact rfl); (case k0 | k1 | k2 => k_asm); (case k3 => k_is); (case k4 => boot_by_name); (case k5 => decide); k_whole)))
local macro_rules | `(tactic| walk_at "eval Name") => `(tactic| (k_here; (with_reducible show wpAny _ _ (eval (Expr.Name _ _) (envOfC _ _ _ _ _)) _ _ _); k_dflt (refine' nameX_B ?k0 ?k1 ?k2 ?k3 ?k4 ?k5 ?_ ?k6 ?k7; (case k7 | k6 => exact rfl); (case k0 | k1 | k2 => k_asm); (case k3 => k_is); (case k4 => boot_by_name); (case k5 => decide); k_whole)))
/-- what is left of a loop over a tuple, the ground may turn from turn to turn -/
noncomputable def TupRest (prog : Program) (w : World) (A : Around) (E : Value → Shared → Prop) (env : Env) (target : Expr) (body : List Stmt) (Q : Flow → Shared → Prop) (s : Shared) (I : Addr) (news : Led) : List Value → Heap → (Str → Option Value) → Prop
  | [], h₀, m => ∀ h' tk, Fr h₀ env.locals h' m → News h₀ env.locals h' news → Q .next { s with heap := h', toks := tk }
  | v :: vs, h₀, m => ∀ h' tk oI, Fr h₀ env.locals h' m → News h₀ env.locals h' ((I, oI) :: news) →
      wpAny (model prog w) A (assign target env v) (fun _ s₂ => wpAny (model prog w) A (execs body env) (fun f s₃ => match f with
        | .ret v => Q (.ret v) s₃
        | .brk => Q .next s₃
        | _ => ∃ h₁ h'' tk'' m', s₃ = { s with heap := h'', toks := tk'' } ∧ Fr h₁ env.locals h'' m' ∧ News h₁ env.locals h'' ((I, oI) :: news) ∧ TupRest prog w A E env target body Q s I news vs h₁ m') E s₂) E { s with heap := h', toks := tk }
noncomputable def TupTurn (prog : Program) (w : World) (A : Around) (E : Value → Shared → Prop) (env : Env) (target : Expr) (body : List Stmt) (Q : Flow → Shared → Prop) (s : Shared) (I : Addr) (news : Led) (oI : Obj) (vs : List Value) (f : Flow) (s₃ : Shared) : Prop := match f with
  | .ret v => Q (.ret v) s₃
  | .brk => Q .next s₃
  | _ => ∃ h₁ h'' tk'' m', s₃ = { s with heap := h'', toks := tk'' } ∧ Fr h₁ env.locals h'' m' ∧ News h₁ env.locals h'' ((I, oI) :: news) ∧ TupRest prog w A E env target body Q s I news vs h₁ m'
section
variable {prog : Program} {w : World} {A : Around} {E : Value → Shared → Prop} {env : Env} {target : Expr} {body : List Stmt} {Q : Flow → Shared → Prop} {s : Shared} {I : Addr} {news : Led}
theorem TupRest.nil {h₀ : Heap} {m : Str → Option Value} (h : ∀ h' tk, Fr h₀ env.locals h' m → News h₀ env.locals h' news → Q .next { s with heap := h', toks := tk }) : TupRest prog w A E env target body Q s I news [] h₀ m := by
  unfold TupRest; exact h
theorem TupRest.cons {h₀ : Heap} {m : Str → Option Value} {v : Value} {vs : List Value} (h : ∀ h' tk oI, Fr h₀ env.locals h' m → News h₀ env.locals h' ((I, oI) :: news) →
      wpAny (model prog w) A (assign target env v) (fun _ s₂ => wpAny (model prog w) A (execs body env) (TupTurn prog w A E env target body Q s I news oI vs) E s₂) E { s with heap := h', toks := tk }) : TupRest prog w A E env target body Q s I news (v :: vs) h₀ m := by
  unfold TupRest; exact h
theorem TupTurn.next {oI : Obj} {vs : List Value} {h₁ h'' : Heap} {tk'' : Nat} {m' : Str → Option Value} (F : Fr h₁ env.locals h'' m') (N : News h₁ env.locals h'' ((I, oI) :: news)) (r : TupRest prog w A E env target body Q s I news vs h₁ m') :
    TupTurn prog w A E env target body Q s I news oI vs .next { s with heap := h'', toks := tk'' } := ⟨h₁, h'', tk'', m', rfl, F, N, r⟩
theorem TupRest.monoE {E' : Value → Shared → Prop} (hE : ∀ e s', E e s' → E' e s') : ∀ {vs : List Value} {h₀ : Heap} {m : Str → Option Value}, TupRest prog w A E env target body Q s I news vs h₀ m → TupRest prog w A E' env target body Q s I news vs h₀ m
  | [], h₀, m, h => by unfold TupRest at h ⊢; exact h
  | v :: vs, h₀, m, h => by
    unfold TupRest at h ⊢
    intro h' tk oI F N
    refine wpAny_mono (h h' tk oI F N) (fun _ s₂ h₂ => wpAny_mono h₂ (fun f s₃ h₃ => ?_) hE) hE
    cases f with
    | ret v => exact h₃
    | brk => exact h₃
    | cont => obtain ⟨h₁, h'', tk'', m', e, F', N', r⟩ := h₃; exact ⟨h₁, h'', tk'', m', e, F', N', TupRest.monoE hE r⟩
    | next => obtain ⟨h₁, h'', tk'', m', e, F', N', r⟩ := h₃; exact ⟨h₁, h'', tk'', m', e, F', N', TupRest.monoE hE r⟩
noncomputable def TupSrc (prog : Program) (w : World) (A : Around) (E : Value → Shared → Prop) (env : Env) (target : Expr) (body : List Stmt) (Q : Flow → Shared → Prop) (xv : Value) (s₁ : Shared) : Prop :=
  ∃ ax vs k m news h₀, xv = .ref ax ∧ A.handled = none ∧ Fr h₀ env.locals s₁.heap m ∧ News h₀ env.locals s₁.heap news ∧ (ax, ({ cls := .type "tuple", data := .seq vs k } : Obj)) ∈ news ∧
    ∀ I, (∀ p ∈ news, p.1 ≠ I) → TupRest prog w A E env target body Q s₁ I news vs.toList h₀ m
theorem TupSrc.intro {ax : Addr} {vs : Array Value} {k : Nat} {m : Str → Option Value} {h₀ : Heap} {s₁ : Shared} (hh : A.handled = none) (F : Fr h₀ env.locals s₁.heap m) (N : News h₀ env.locals s₁.heap news) (hm : (ax, ({ cls := .type "tuple", data := .seq vs k } : Obj)) ∈ news)
    (h : ∀ I, (∀ p ∈ news, p.1 ≠ I) → TupRest prog w A E env target body Q s₁ I news vs.toList h₀ m) : TupSrc prog w A E env target body Q (.ref ax) s₁ := ⟨ax, vs, k, m, news, h₀, rfl, hh, F, N, hm, h⟩
theorem for_tup {iter : Expr} {pos : Pos} (h : wpAny (model prog w) A (eval iter env) (TupSrc prog w A E env target body Q) E s)
    (hs : ∀ x, foldedSetIterable iter env x = pure x := by intro _; rfl)
    (hE : PassesOwn (model prog w) A env E := by passes_own) :
    wpAny (model prog w) A (exec (.For target iter body [] pos) env) Q E s := by
  refine wpAny_For (wpAny_mono h (fun xv s₁ h₁ => ?_) fun _ _ e => e) hs
  obtain ⟨ax, vs, k, m, news, h₀, rfl, hh, F, N, hm, rest⟩ := h₁
  have hl : s₁.heap.IsTuple ax vs := ⟨_, (N _ hm).1, rfl, _, rfl⟩
  have hlt : ax < s₁.heap.objs.size := Heap.lt_size (N _ hm).1
  refine wpAny_pyIter_tuple hl ?_
  have W := Walks.tuple (prog := prog) (w := w) hh s₁.heap.objs.size ax (Nat.ne_of_lt hlt) vs
  have off : ∀ p ∈ news, p.1 ≠ s₁.heap.objs.size := fun p hp => Nat.ne_of_lt (Heap.lt_size (N p hp).1)
  refine codeAny_forLoop_any
    (fun j s' => ∃ h' tk m' h₁ i oI, s' = { s₁ with heap := h', toks := tk } ∧ (h'.IsTupleIter s₁.heap.objs.size ax i ∧ h'.IsTuple ax vs) ∧ Fr h₁ env.locals h' m' ∧ News h₁ env.locals h' ((s₁.heap.objs.size, oI) :: news) ∧
      TupRest prog w A E env target body Q s₁ s₁.heap.objs.size news (vs.toList.drop i) h₁ m' ∧ i ≤ vs.size ∧ j = vs.size + 1 - i) ?_ (vs.size + 1)
    ⟨_, s₁.toks, m, h₀, 0, _, rfl, ⟨⟨_, Heap.get?_push_size _ rfl, rfl, rfl⟩, hl.at fun o e => Heap.get?_push_of_some _ e⟩, F.push _, N.push F _, rest _ off, Nat.zero_le _, rfl⟩
  rintro j s' ⟨h', tk, m', h₁, i, oI, rfl, hst, F', N', R, hi, rfl⟩
  have hI := N' _ (.head _)
  have after : ∀ h₂ : Heap, (∀ b o, b ∉ [s₁.heap.objs.size] → h'.get? b = some o → h₂.get? b = some o) → Fr h₁ env.locals h₂ m' ∧ News h₁ env.locals h₂ news := fun h₂ hk₂ =>
    ⟨LCg.fr_but F' hk₂ (Ne.symm hI.2.1) hI.2.2, LCg.news_but (fun p hp => N' p (.tail _ hp)) hk₂ off⟩
  by_cases hin : i < vs.size
  · refine W.item i _ _ _ hin hst fun v h₂ tk₂ hP hst₂ hk₂ => ?_
    obtain ⟨F₂, N₂⟩ := after h₂ hk₂
    obtain ⟨oI₂, e₂, -⟩ := hst₂.1
    have N₃ : News h₁ env.locals h₂ ((s₁.heap.objs.size, oI₂) :: news) := fun p hp => by
      rcases List.mem_cons.mp hp with rfl | hp
      · exact ⟨e₂, hI.2⟩
      · exact N₂ p hp
    have hdrop : vs.toList.drop i = v :: vs.toList.drop (i + 1) := by
      rw [List.drop_eq_getElem_cons (by simpa using hin)]
      congr 1
      have := Array.getElem?_eq_getElem hin
      rw [this] at hP
      simpa using hP
    rw [hdrop] at R
    unfold TupRest at R
    refine letGo_tupleiter hst₂.1 ?_
    refine wpAny_mono (R h₂ tk₂ oI₂ F₂ N₃) (fun _ s₂ h₂ => wpAny_mono h₂ (fun f s₃ h₃ => ?_) hE) hE
    have step : (∃ h₁ h'' tk'' m', s₃ = { s₁ with heap := h'', toks := tk'' } ∧ Fr h₁ env.locals h'' m' ∧ News h₁ env.locals h'' ((s₁.heap.objs.size, oI₂) :: news) ∧ TupRest prog w A E env target body Q s₁ s₁.heap.objs.size news (vs.toList.drop (i + 1)) h₁ m') →
        ∃ mm, mm < vs.size + 1 - i ∧ ∃ h' tk m' h₁ i oI, s₃ = { s₁ with heap := h', toks := tk } ∧ (h'.IsTupleIter s₁.heap.objs.size ax i ∧ h'.IsTuple ax vs) ∧ Fr h₁ env.locals h' m' ∧ News h₁ env.locals h' ((s₁.heap.objs.size, oI) :: news) ∧
      TupRest prog w A E env target body Q s₁ s₁.heap.objs.size news (vs.toList.drop i) h₁ m' ∧ i ≤ vs.size ∧ mm = vs.size + 1 - i := by
      rintro ⟨hq, h'', tk'', m'', rfl, F₃, N₄, R₃⟩
      refine ⟨vs.size + 1 - (i + 1), by omega, h'', tk'', m'', hq, i + 1, oI₂, rfl, ⟨?_, ⟨_, (N₄ _ (.tail _ hm)).1, rfl, _, rfl⟩⟩, F₃, N₄, R₃, hin, rfl⟩
      obtain ⟨o', e', r'⟩ := hst₂.1
      rw [e₂] at e'
      cases e'
      exact ⟨oI₂, (N₄ _ (.head _)).1, r'⟩
    cases f with
    | ret v => exact h₃
    | brk => exact h₃
    | cont => exact step h₃
    | next => exact step h₃
  · obtain rfl : i = vs.size := by omega
    have z : vs.toList.drop vs.size = [] := List.drop_eq_nil_of_le (by simp)
    rw [z] at R
    unfold TupRest at R
    refine W.done _ _ _ hst fun h₂ tk₂ hk₂ => wpAny_execs_nil ?_
    obtain ⟨F₂, N₂⟩ := after h₂ hk₂
    exact R h₂ tk₂ F₂ N₂
end
theorem rules_F_8 : True := by
  k_with "mine exec For Name Tuple cons nil" => ((k_here; (with_reducible show wpAny _ _ (exec (Stmt.For (Expr.Name _ _) (Expr.Tuple _ _ _) _ [] _) _) _ _ _); k_dflt (refine for_tup ?_)))
  k_with "mine TupSrc" => ((k_here; k_dflt (refine TupSrc.intro (by rfl) (by k_asm) (by k_asm) (by k_mem) ?_; intro I9 off9; (try dsimp only))))
  k_with "mine TupRest" => ((k_dflt (first | (refine TupRest.cons ?_; intro h' tk' oI' F' N'; (try dsimp only); (try k_fold)) | (refine TupRest.nil ?_; intro h' tk' F' N'; (try dsimp only); (try k_fold)))))
  trivial
local macro_rules | `(tactic| walk_at "TupTurn") => `(tactic| first
  | (k_dflt (refine' TupTurn.next ?F ?N ?_; (case F | N => assumption)))
  | (dsimp only [TupTurn]))
theorem bv_parts {w : Nat} (A B : BitVec w) : A = (A &&& ~~~B) + (A &&& B) := by
  rw [BitVec.add_eq_or_of_and_eq_zero _ _ (by ext i; simp; intro _ h _; exact h)]
  ext i
  simp
  cases A[i] <;> cases B[i] <;> decide
theorem bv_diff {w : Nat} (A B : BitVec w) : A - (A &&& B) = A &&& ~~~B :=
  (congrArg (· - (A &&& B)) (bv_parts A B)).trans (BitVec.add_sub_cancel _ _)
theorem bv_not (w : Nat) (n : Int) : BitVec.ofInt w (-n - 1) = ~~~BitVec.ofInt w n := by
  rw [BitVec.not_eq_neg_add, Int.sub_eq_add_neg, BitVec.ofInt_add, BitVec.ofInt_neg, BitVec.ofInt_neg, BitVec.sub_eq_add_neg]
  rfl
theorem bv_sub (w : Nat) (m n : Int) : BitVec.ofInt w (m - n) = BitVec.ofInt w m - BitVec.ofInt w n := by
  rw [Int.sub_eq_add_neg, BitVec.ofInt_add, BitVec.ofInt_neg, BitVec.sub_eq_add_neg]
theorem and_nn (m n : Nat) : Builtin.bitAnd (Int.ofNat m) (Int.ofNat n) = ((m &&& n : Nat) : Int) := rfl
theorem and_np (m n : Nat) : Builtin.bitAnd (Int.ofNat m) (Int.negSucc n) = (m : Int) - ((m &&& n : Nat) : Int) := by
  show (m : Int) - ((m &&& (-Int.negSucc n - 1).toNat : Nat) : Int) = _
  rw [show (-Int.negSucc n - 1).toNat = n by omega]
theorem and_pn (m n : Nat) : Builtin.bitAnd (Int.negSucc m) (Int.ofNat n) = (n : Int) - ((n &&& m : Nat) : Int) := by
  show (n : Int) - ((n &&& (-Int.negSucc m - 1).toNat : Nat) : Int) = _
  rw [show (-Int.negSucc m - 1).toNat = m by omega]
theorem and_pp (m n : Nat) : Builtin.bitAnd (Int.negSucc m) (Int.negSucc n) = Int.negSucc (m ||| n) := by
  show -(((-Int.negSucc m - 1).toNat ||| (-Int.negSucc n - 1).toNat : Nat) : Int) - 1 = _
  rw [show (-Int.negSucc m - 1).toNat = m by omega, show (-Int.negSucc n - 1).toNat = n by omega]
  omega
theorem bv_and (w : Nat) (x y : Int) : BitVec.ofInt w (Builtin.bitAnd x y) = BitVec.ofInt w x &&& BitVec.ofInt w y := by
  cases x with
  | ofNat m => cases y with
    | ofNat n => rw [and_nn]; exact BitVec.ofNat_and
    | negSucc n =>
      rw [and_np, bv_sub, BitVec.ofInt_negSucc_eq_not_ofNat]
      exact (congrArg (BitVec.ofNat w m - ·) BitVec.ofNat_and).trans (bv_diff _ _)
  | negSucc m => cases y with
    | ofNat n =>
      rw [and_pn, bv_sub, BitVec.ofInt_negSucc_eq_not_ofNat, BitVec.and_comm]
      exact (congrArg (BitVec.ofNat w n - ·) BitVec.ofNat_and).trans (bv_diff _ _)
    | negSucc n => rw [and_pp, BitVec.ofInt_negSucc_eq_not_ofNat, BitVec.ofInt_negSucc_eq_not_ofNat, BitVec.ofInt_negSucc_eq_not_ofNat, BitVec.ofNat_or, BitVec.not_or]
theorem bv_or (w : Nat) (x y : Int) : BitVec.ofInt w (Builtin.bitOr x y) = BitVec.ofInt w x ||| BitVec.ofInt w y := by
  show BitVec.ofInt w (-Builtin.bitAnd (-x - 1) (-y - 1) - 1) = _
  rw [bv_not, bv_and, bv_not, bv_not, ← BitVec.not_or, BitVec.not_not]
theorem bv_xor (w : Nat) (x y : Int) : BitVec.ofInt w (Builtin.bitXor x y) = BitVec.ofInt w x ^^^ BitVec.ofInt w y := by
  show BitVec.ofInt w (Builtin.bitOr x y - Builtin.bitAnd x y) = _
  rw [bv_sub, bv_or, bv_and]
  have h : ∀ A B : BitVec w, (A ||| B) - (A &&& B) = A ^^^ B := fun A B => by
    have := bv_diff (A ||| B) (A &&& B)
    rw [show (A ||| B) &&& (A &&& B) = A &&& B by ext i; simp; cases A[i] <;> cases B[i] <;> decide] at this
    rw [this]
    ext i
    simp
    cases A[i] <;> cases B[i] <;> decide
  exact h _ _
theorem bv_absorb {w : Nat} (A B : BitVec w) : A &&& (A ||| B) = A := by
  ext i; simp; cases A[i] <;> cases B[i] <;> decide
theorem bv_back {w : Nat} (A B : BitVec w) : (A ^^^ B) ^^^ B = A := by
  ext i; simp
theorem or_is (x y : Int) : Builtin.bitOr x y = x + y - Builtin.bitAnd x y := by
  have h1 := bitXor_and x y
  have h2 : Builtin.bitXor x y = Builtin.bitOr x y - Builtin.bitAnd x y := rfl
  omega
theorem and_high (k : Nat) (a : Int) : Builtin.bitAnd a (-1 * 2 ^ k) = a / 2 ^ k * 2 ^ k := by
  have hp : 0 < 2 ^ k := Nat.pow_pos (n := k) (show 0 < 2 by decide)
  have hc : (2 : Int) ^ k = ((2 ^ k : Nat) : Int) := by rw [Int.natCast_pow]; rfl
  obtain ⟨p, hq⟩ : ∃ p, 2 ^ k = p + 1 := ⟨2 ^ k - 1, by omega⟩
  have hy : (-1 : Int) * 2 ^ k = Int.negSucc p := by rw [hc, hq]; omega
  rw [hy, hc]
  have hm : ∀ m : Nat, m &&& p = m % 2 ^ k := fun m => by
    rw [show p = 2 ^ k - 1 by omega, Nat.and_two_pow_sub_one_eq_mod]
  cases a with
  | ofNat m =>
    rw [and_np, hm]
    have h1 := Nat.div_add_mod m (2 ^ k)
    show (m : Int) - ((m % 2 ^ k : Nat) : Int) = ((m / 2 ^ k : Nat) : Int) * ((2 ^ k : Nat) : Int)
    rw [← Int.natCast_mul, Nat.mul_comm]
    omega
  | negSucc m =>
    rw [and_pp]
    have h0 := or_is (m : Int) (p : Int)
    have h1 : Builtin.bitOr (m : Int) (p : Int) = ((m ||| p : Nat) : Int) := by
      show -Builtin.bitAnd (-(m : Int) - 1) (-(p : Int) - 1) - 1 = _
      rw [show -(m : Int) - 1 = Int.negSucc m by omega, show -(p : Int) - 1 = Int.negSucc p by omega, and_pp]
      omega
    have h2 : Builtin.bitAnd (m : Int) (p : Int) = ((m &&& p : Nat) : Int) := and_nn m p
    rw [h1, h2, hm] at h0
    have h3 := Nat.div_add_mod m (2 ^ k)
    have h4 : Int.negSucc m / ((2 ^ k : Nat) : Int) = -((m / 2 ^ k : Nat) : Int) - 1 := by
      have h6 := Nat.mod_lt m hp
      refine (kbt_unique (r := ((2 ^ k : Nat) : Int) - ((m % 2 ^ k : Nat) : Int) - 1) (by omega) ?_ (by omega) (by omega)).1
      rw [Int.mul_sub, Int.mul_neg, ← Int.natCast_mul]
      omega
    rw [h4, Int.sub_mul, Int.neg_mul, ← Int.natCast_mul, Nat.mul_comm]
    omega
theorem wrapZ_bv {n wd : Int} (h : 1 ≤ wd) : wrapZ n wd = (BitVec.ofInt wd.toNat n).toInt := by rw [wrapZ_eq h, BitVec.toInt_ofInt]
theorem bv_wrap {n wd : Int} (h : 1 ≤ wd) : BitVec.ofInt wd.toNat (wrapZ n wd) = BitVec.ofInt wd.toNat n := by rw [wrapZ_bv h, BitVec.ofInt_toInt]
theorem wrapZ_of_bv {x y wd : Int} (h : 1 ≤ wd) (e : BitVec.ofInt wd.toNat x = BitVec.ofInt wd.toNat y) : wrapZ x wd = wrapZ y wd := by rw [wrapZ_bv h, wrapZ_bv h, e]
theorem wrapZ_of_mod {x y wd : Int} (h : 1 ≤ wd) (e : x % 2 ^ wd.toNat = y % 2 ^ wd.toNat) : wrapZ x wd = wrapZ y wd := by
  rw [wrapZ_eq h, wrapZ_eq h]
  have ec : (((2 ^ wd.toNat : Nat)) : Int) = 2 ^ wd.toNat := by rw [Int.natCast_pow]; rfl
  unfold Int.bmod
  rw [ec, e]
theorem upZ_in {x n wd : Int} (h3 : 3 ≤ wd) : InW wd (upZ x n wd) := by
  unfold upZ
  split
  · unfold InW
    have := pow_pos2 (wd.toNat - 1)
    omega
  · exact wrapZ_in h3
section
variable {wd a b : Int} (h3 : 3 ≤ wd)
include h3
theorem shl1_is {v : Int} : shlZ v 1 wd = wrapZ (v * 2) wd := by
  unfold shlZ upZ
  rw [if_neg (by decide), if_neg (by omega)]
  rfl
theorem bits1 : wrapZ (wrapZ (Builtin.bitXor a b) wd + shlZ (wrapZ (Builtin.bitAnd a b) wd) 1 wd) wd = wrapZ (a + b) wd := by
  rw [shl1_is h3, wrapZ_mul_l (by omega), wrapZ_add_r (by omega), wrapZ_add_l (by omega), bitXor_and]
  congr 1
  omega
theorem bits2 : wrapZ (wrapZ (Builtin.bitOr a b) wd - wrapZ (Builtin.bitAnd a b) wd) wd = wrapZ (Builtin.bitXor a b) wd := by
  rw [wrapZ_sub_r (by omega), wrapZ_sub_l (by omega)]
  rfl
theorem bits3 (ha : InW wd a) : wrapZ (Builtin.bitAnd a (wrapZ (Builtin.bitOr a b) wd)) wd = a := by
  rw [wrapZ_of_bv (y := a) (by omega), wrapZ_id h3 ha]
  rw [bv_and, bv_wrap (by omega), bv_or, bv_absorb]
theorem bits4 : wrapZ (-1 - wrapZ (Builtin.bitAnd a b) wd) wd = wrapZ (Builtin.bitOr (wrapZ (-1 - a) wd) (wrapZ (-1 - b) wd)) wd := by
  refine wrapZ_of_bv (by omega) ?_
  have e : ∀ z : Int, -1 - z = -z - 1 := fun z => by omega
  rw [bv_or, bv_wrap (by omega), bv_wrap (by omega), e, e, e, bv_not, bv_not, bv_not, bv_wrap (by omega), bv_and, BitVec.not_and]
theorem bits6 (ha : InW wd a) : wrapZ (Builtin.bitXor (wrapZ (Builtin.bitXor a b) wd) b) wd = a := by
  rw [wrapZ_of_bv (y := a) (by omega), wrapZ_id h3 ha]
  rw [bv_xor, bv_wrap (by omega), bv_xor, bv_back]
-- shifts
theorem downZ_is {x n : Int} (hx : InW wd x) (h0 : 0 ≤ n) : downZ x n wd = x / 2 ^ n.toNat := by
  obtain ⟨h1, h2⟩ := hx
  unfold downZ
  split
  · have hle : (2 : Int) ^ (wd.toNat - 1) ≤ 2 ^ n.toNat := by
      have := Nat.pow_le_pow_right (n := 2) (by decide) (show wd.toNat - 1 ≤ n.toNat by omega)
      have e1 : (((2 ^ (wd.toNat - 1) : Nat)) : Int) = 2 ^ (wd.toNat - 1) := by rw [Int.natCast_pow]; rfl
      have e2 : (((2 ^ n.toNat : Nat)) : Int) = 2 ^ n.toNat := by rw [Int.natCast_pow]; rfl
      rw [← e1, ← e2]
      exact_mod_cast this
    generalize (2 : Int) ^ (wd.toNat - 1) = p at *
    have hp := pow_pos2 n.toNat
    generalize (2 : Int) ^ n.toNat = q at *
    split
    · symm
      exact (kbt_unique (b := q) (q := -1) (r := x + q) hp (by omega) (by omega) (by omega)).1
    · rw [Int.ediv_eq_zero_of_lt (by omega) (by omega)]
  · rw [Int.fdiv_eq_ediv_of_nonneg _ (Int.le_of_lt (pow_pos2 _))]
omit h3 in
theorem half_in {x : Int} (k : Nat) (hx : InW wd x) : InW wd (x / 2 ^ k) := by
  obtain ⟨h1, h2⟩ := hx
  unfold InW
  have hp := pow_pos2 k
  have h4 := Int.ediv_nonneg_iff_of_pos (a := x) hp
  have h5 : (x / 2 ^ k).natAbs ≤ x.natAbs ∨ True := Or.inr trivial
  rcases Int.lt_or_le x 0 with h | h
  · have h6 : x ≤ x / 2 ^ k := by
      rw [Int.le_ediv_iff_mul_le hp]
      have := Int.mul_le_mul_of_nonpos_left (a := x) (b := 2 ^ k) (c := 1) (by omega) (by omega)
      omega
    omega
  · have h6 : x / 2 ^ k ≤ x := Int.ediv_le_self _ h
    omega
theorem shrZ_in {x n : Int} (hx : InW wd x) : InW wd (shrZ x n wd) := by
  unfold shrZ
  split
  · exact upZ_in h3
  · rw [downZ_is h3 hx (by omega)]; exact half_in _ hx
theorem shlZ_in {x n : Int} (hx : InW wd x) : InW wd (shlZ x n wd) := by
  unfold shlZ
  split
  · rw [downZ_is h3 hx (by omega)]; exact half_in _ hx
  · exact upZ_in h3
theorem one_in : InW wd (-1) := by
  unfold InW
  have := pow_pos2 (wd.toNat - 1)
  omega
theorem up_all {x n : Int} (h0 : 0 ≤ n) : upZ x n wd = wrapZ (x * 2 ^ n.toNat) wd := by
  unfold upZ
  split
  · rw [wrapZ_of_mod (y := 0) (by omega)]
    · refine (wrapZ_id h3 ?_).symm
      unfold InW
      have := pow_pos2 (wd.toNat - 1)
      omega
    · obtain ⟨d, hd⟩ : ∃ d, n.toNat = wd.toNat + d := ⟨n.toNat - wd.toNat, by omega⟩
      rw [hd, Int.pow_add, show x * (2 ^ wd.toNat * 2 ^ d) = 2 ^ wd.toNat * (x * 2 ^ d) by rw [Int.mul_left_comm], Int.mul_emod_right, Int.zero_emod]
  · rfl
theorem sh1 {j : Int} (h0 : 0 ≤ j) : shlZ a j wd = wrapZ (a * wrapZ (2 ^ j.toNat) wd) wd := by
  unfold shlZ
  rw [if_neg (by omega), up_all h3 h0, wrapZ_mul_r (by omega)]
theorem sh23 {j : Int} (ha : InW wd a) (h0 : 0 ≤ j) : shlZ a (-j) wd = shrZ a j wd ∧ shrZ a (-j) wd = shlZ a j wd := by
  have z1 : upZ a 0 wd = a := by rw [up_all h3 (by decide), show (0 : Int).toNat = 0 from rfl, Int.pow_zero, Int.mul_one, wrapZ_id h3 ha]
  have z2 : downZ a 0 wd = a := by rw [downZ_is h3 ha (by decide), show (0 : Int).toNat = 0 from rfl, Int.pow_zero, Int.ediv_one]
  unfold shlZ shrZ
  by_cases hj : j = 0
  · subst hj
    rw [Int.neg_zero, if_neg (by decide), if_neg (by decide), z1, z2]
    exact ⟨rfl, rfl⟩
  · rw [if_pos (by omega), if_neg (by omega), Int.neg_neg, if_pos (by omega), if_neg (by omega)]
    exact ⟨rfl, rfl⟩
theorem shr_is {x j : Int} (hx : InW wd x) (h0 : 0 ≤ j) : shrZ x j wd = x / 2 ^ j.toNat := by
  unfold shrZ
  rw [if_neg (by omega), downZ_is h3 hx h0]
theorem sh4 {j k : Int} (ha : InW wd a) (h0 : 0 ≤ j) (hk : 0 ≤ k) : shrZ (shrZ a j wd) k wd = shrZ a (j + k) wd := by
  rw [shr_is h3 (shrZ_in h3 ha) hk, shr_is h3 ha h0, shr_is h3 ha (by omega), Int.ediv_ediv_of_nonneg (Int.le_of_lt (pow_pos2 _)), ← Int.pow_add, show (j + k).toNat = j.toNat + k.toNat by omega]
theorem sh5 {j : Int} (ha : InW wd a) (h0 : 0 ≤ j) : shlZ (shrZ a j wd) j wd = wrapZ (Builtin.bitAnd a (shlZ (-1) j wd)) wd := by
  rw [shr_is h3 ha h0]
  unfold shlZ
  rw [if_neg (by omega), if_neg (by omega), up_all h3 h0, up_all h3 h0]
  refine wrapZ_of_bv (by omega) ?_
  rw [bv_and, bv_wrap (by omega), ← bv_and, and_high]
end
theorem ring_does (w : World) (news : Led) (lim : Addr) (wd a b c : Int) (ta tb tc : Tok) (hl : LimAt news lim wd) (h3 : 3 ≤ wd) (h64 : wd ≤ 64) (ha : InW wd a) (hb : InW wd b) (hc : InW wd c) :
    Does w 514 20 news [.int a ta, .int b tb, .int c tc, .ref lim] (fun r => r = .bool true) := by
  unfold Does
  have sa := ha.small h64
  have sb := hb.small h64
  have sc := hc.small h64
  have e1 : wrapZ (a + b) wd = wrapZ (b + a) wd := by rw [Int.add_comm]
  have e2 : wrapZ (wrapZ (a + b) wd + c) wd = wrapZ (a + wrapZ (b + c) wd) wd := ring2 h3
  have e3 : wrapZ (wrapZ (a - b) wd + b) wd = a := ring3 h3 ha
  have e4 : wrapZ (a + wrapZ (0 - b) wd) wd = wrapZ (a - b) wd := ring4 h3
  have e5 : wrapZ (0 - wrapZ (0 - a) wd) wd = a := ring5 h3 ha
  have e6 : wrapZ (a * b) wd = wrapZ (b * a) wd := by rw [Int.mul_comm]
  have e7 : wrapZ (wrapZ (a * b) wd * c) wd = wrapZ (a * wrapZ (b * c) wd) wd := ring7 h3
  have e8 : wrapZ (a * wrapZ (b + c) wd) wd = wrapZ (wrapZ (a * b) wd + wrapZ (a * c) wd) wd := ring8 h3
  intro mean mg mb dp un gd cn cs a ccd cl outer A₀ base h₀ L m s Q E B F X N T hk hd hu hret
  refine wpAny_call ?_
  k_dflt (refine' code_defC ?k1 ?k2 ?k3 ?k4 ?k5 ?kA ?kF ?kK ?k6 ?k7 ?k8 ?k9 ?kB ?kD ?_ ?c2 ?c3 ?c4; (case kA | kF => exact rfl); (case kK => assumption); (case k1 | k2 => k_asm); (case k3 | k4 | k5 => k_asm); (case k6 | k7 => k_is); (case k8 => k_room); (case k9 => exact BindsTo.of_eq rfl); (case kB => exact rfl); (case kD => decide +kernel); (case c2 | c3 | c4 => exact rfl); k_whole; intro g' L' h' tk' cells' FG' F' N' Y' B' X' T' l1; (try k_lt l1); k_cells Y'; (try simp only [List.cons_append, List.nil_append] at N'); (try dsimp only); (try k_lift B'); (try k_fold))
  k_steps
  exact hret _ _ _ rfl (by assumption) (news_sub (by assumption) fun p hp => by repeat (first | exact hp | refine List.Mem.tail _ ?_))
theorem pw_does (w : World) (news : Led) (lim : Addr) (wd a n : Int) (ta tn : Tok) (hl : LimAt news lim wd) (h3 : 3 ≤ wd) (h64 : wd ≤ 64) (ha : InW wd a) (h0 : 0 ≤ n) (h8 : n ≤ 8) :
    Does w 521 20 news [.int a ta, .int n tn, .ref lim] (fun r => r = .bool true) := by
  unfold Does
  have sa := ha.small h64
  have s2 : Small (n + 1) := by unfold Small; omega
  have s1 : Small n := by unfold Small; omega
  have h01 : 0 ≤ n + 1 := by omega
  have e1 : wrapZ (a ^ (0 : Int).toNat) wd = 1 := pow0 h3
  have e3 := pow1 (a := a) h3 h0
  by_cases hz : a = 0
  · subst hz
    have z0 : (0 : Int) = 0 := rfl
    intro mean mg mb dp un gd cn cs a₀ ccd cl outer A₀ base h₀ L m s Q E B F X N T hk hd hu hret
    refine wpAny_call ?_
    k_dflt cell_enter
    k_steps
    exact hret _ _ _ rfl (by assumption) (news_sub (by assumption) fun p hp => by repeat (first | exact hp | refine List.Mem.tail _ ?_))
  · have e2 : Int.tdiv 1 a = wrapZ (Int.tdiv 1 a) wd := (inv_in h3 hz).symm
    intro mean mg mb dp un gd cn cs a₀ ccd cl outer A₀ base h₀ L m s Q E B F X N T hk hd hu hret
    refine wpAny_call ?_
    k_dflt cell_enter
    k_steps
    exact hret _ _ _ rfl (by assumption) (news_sub (by assumption) fun p hp => by repeat (first | exact hp | refine List.Mem.tail _ ?_))
theorem bits_does (w : World) (news : Led) (lim : Addr) (wd a b : Int) (ta tb : Tok) (hl : LimAt news lim wd) (h3 : 3 ≤ wd) (h64 : wd ≤ 64) (ha : InW wd a) (hb : InW wd b) :
    Does w 526 20 news [.int a ta, .int b tb, .ref lim] (fun r => r = .bool true) := by
  unfold Does
  have sa := ha.small h64
  have sb := hb.small h64
  have sA : Small (wrapZ (Builtin.bitAnd a b) wd) := small_wrap h3 h64
  have sS : Small (shlZ (wrapZ (Builtin.bitAnd a b) wd) 1 wd) := (shlZ_in h3 (wrapZ_in h3)).small h64
  have e1 : wrapZ (wrapZ (Builtin.bitXor a b) wd + shlZ (wrapZ (Builtin.bitAnd a b) wd) 1 wd) wd = wrapZ (a + b) wd := bits1 h3
  have e2 : wrapZ (wrapZ (Builtin.bitOr a b) wd - wrapZ (Builtin.bitAnd a b) wd) wd = wrapZ (Builtin.bitXor a b) wd := bits2 h3
  have e3 : wrapZ (Builtin.bitAnd a (wrapZ (Builtin.bitOr a b) wd)) wd = a := bits3 h3 ha
  have e4 : wrapZ (-1 - wrapZ (Builtin.bitAnd a b) wd) wd = wrapZ (Builtin.bitOr (wrapZ (-1 - a) wd) (wrapZ (-1 - b) wd)) wd := bits4 h3
  have e4' : [wrapZ (-1 - a) wd, wrapZ (-1 - b) wd, wrapZ (-1 - wrapZ (Builtin.bitAnd a b) wd) wd].getD (Int.toNat 2) 0 = wrapZ (Builtin.bitOr ([wrapZ (-1 - a) wd, wrapZ (-1 - b) wd, wrapZ (-1 - wrapZ (Builtin.bitAnd a b) wd) wd].getD (Int.toNat 0) 0) ([wrapZ (-1 - a) wd, wrapZ (-1 - b) wd, wrapZ (-1 - wrapZ (Builtin.bitAnd a b) wd) wd].getD (Int.toNat 1) 0)) wd := e4
  have e5' : [wrapZ (-1 - a) wd, wrapZ (-1 - b) wd, wrapZ (-1 - wrapZ (Builtin.bitAnd a b) wd) wd].getD (Int.toNat 0) 0 = wrapZ (-1 - a) wd := rfl
  have e5 : wrapZ (-1 - a) wd = wrapZ (-1 - a) wd := rfl
  have e6 : wrapZ (Builtin.bitXor (wrapZ (Builtin.bitXor a b) wd) b) wd = a := bits6 h3 ha
  intro mean mg mb dp un gd cn cs a₀ ccd cl outer A₀ base h₀ L m s Q E B F X N T hk hd hu hret
  refine wpAny_call ?_
  k_dflt (refine' code_defC ?k1 ?k2 ?k3 ?k4 ?k5 ?kA ?kF ?kK ?k6 ?k7 ?k8 ?k9 ?kB ?kD ?_ ?c2 ?c3 ?c4; (case kA | kF => exact rfl); (case kK => assumption); (case k1 | k2 => k_asm); (case k3 | k4 | k5 => k_asm); (case k6 | k7 => k_is); (case k8 => k_room); (case k9 => exact BindsTo.of_eq rfl); (case kB => exact rfl); (case kD => decide +kernel); (case c2 | c3 | c4 => exact rfl); k_whole; intro g' L' h' tk' cells' FG' F' N' Y' B' X' T' l1; (try k_lt l1); k_cells Y'; (try simp only [List.cons_append, List.nil_append] at N'); (try dsimp only); (try k_lift B'); (try k_fold))
  k_steps
  exact hret _ _ _ rfl (by assumption) (news_sub (by assumption) fun p hp => by repeat (first | exact hp | refine List.Mem.tail _ ?_))
theorem shifted_does (w : World) (news : Led) (lim : Addr) (wd a j k : Int) (ta tj tk : Tok) (hl : LimAt news lim wd) (h3 : 3 ≤ wd) (h64 : wd ≤ 64) (ha : InW wd a) (hj : 0 ≤ j) (hj2 : j ≤ 66) (hk0 : 0 ≤ k) (hk2 : k ≤ 66) :
    Does w 533 20 news [.int a ta, .int j tj, .int k tk, .ref lim] (fun r => r = .bool true) := by
  unfold Does
  have sa := ha.small h64
  have sj : Small j := by unfold Small; omega
  have sk : Small k := by unfold Small; omega
  have snj : Small (-j) := by unfold Small; omega
  have sjk : Small (j + k) := by unfold Small; omega
  have su : Small (shlZ a j wd) := (shlZ_in h3 ha).small h64
  have sd : Small (shrZ a j wd) := (shrZ_in h3 ha).small h64
  have s1 : Small (shlZ (-1) j wd) := (shlZ_in h3 (one_in h3)).small h64
  have e1 : shlZ a j wd = wrapZ (a * wrapZ (2 ^ j.toNat) wd) wd := sh1 h3 hj
  have e2 : shlZ a (-j) wd = shrZ a j wd := (sh23 h3 ha hj).1
  have e3 : shrZ a (-j) wd = shlZ a j wd := (sh23 h3 ha hj).2
  have e4 : shrZ (shrZ a j wd) k wd = shrZ a (j + k) wd := sh4 h3 ha hj hk0
  have e5 : shlZ (shrZ a j wd) j wd = wrapZ (Builtin.bitAnd a (shlZ (-1) j wd)) wd := sh5 h3 ha hj
  intro mean mg mb dp un gd cn cs a₀ ccd cl outer A₀ base h₀ L m s Q E B F X N T hk hd hu hret
  refine wpAny_call ?_
  k_dflt cell_enter
  k_steps
  exact hret _ _ _ rfl (by assumption) (news_sub (by assumption) fun p hp => by repeat (first | exact hp | refine List.Mem.tail _ ?_))
theorem NumOf.textIn {wd a : Int} {t : Tok} (h3 : 3 ≤ wd) (ha : InW wd a) (hs : Small a) : NumOf wd (.str (textOf a) t) a := by
  have := NumOf.text (wd := wd) a t hs
  rwa [wrapZ_id h3 ha] at this
theorem rules_F_9 : True := by
  k_with "mine mine num" => (focus (refine NumOf.textIn ?_ ?_ ?_ <;> assumption))
  trivial
local macro_rules | `(tactic| walk_at "compareOp NotEq int int") => `(tactic| (k_here; (with_reducible refine' ne_no ?k1 ?_); (case k1 => exact rfl)))
theorem wrap_zero {wd : Int} (h3 : 3 ≤ wd) : wrapZ 0 wd = 0 := by
  refine wrapZ_id h3 ?_
  unfold InW
  have := pow_pos2 (wd.toNat - 1)
  omega
/-- a contract of a call from the lowest frame -/
@[irreducible] noncomputable def Does0 (w : World) (f : Addr) (d : Nat) (news : Led) (vs : List Value) (R : Value → Prop) : Prop :=
  ∀ (mean : ExcName → Option Value) (mg mb : Str → Option Value) (dp un : Nat) (gd : Option (List Code)) (cn : Str) (cs : Scope) (a : Addr) (ccd : Value) (cl : List (Str × Addr)) (A₀ : Around) (h₀ : Heap) (L : Addr) (m : Str → Option Value) (s : Shared) (Q E : Value → Shared → Prop),
    Below A₀ h₀ [] h₀ → Fr h₀ L s.heap m → (hd.heap_1_39 w.params).In h₀ → News h₀ L s.heap news → Top hd.view_1_40 (looseW hd.view_1_40 [Str.ofString "Limits"]) mean mg mb h₀ → cs.kind = .function →
    dp + d < recursionLimit → un + 8 * d < cLine →
    (∀ (r : Value) (h' : Heap) (tk' : Nat), R r → Fr h₀ L h' m → News h₀ L h' news → Q r { s with heap := h', toks := tk' }) →
    wpAny (model PySem.Challenge.rw_sa0533_01.row.prog w) (ktrTop dp un gd cn cs L a ccd cl []) (call (.ref f) vs) Q E s
theorem Does0.use {w : World} {f : Addr} {d : Nat} {news : Led} {vs : List Value} {R : Value → Prop} {mean : ExcName → Option Value} {mg mb : Str → Option Value} {dp un : Nat} {gd : Option (List Code)} {cn : Str} {cs : Scope} {a : Addr} {ccd : Value} {cl : List (Str × Addr)} {A₀ : Around} {h₀ : Heap} {L : Addr} {m : Str → Option Value} {s : Shared} {Q E : Value → Shared → Prop}
    (C : Does0 w f d news vs R)
    (B : Below A₀ h₀ [] h₀) (F : Fr h₀ L s.heap m) (X : (hd.heap_1_39 w.params).In h₀) (N : News h₀ L s.heap news) (T : Top hd.view_1_40 (looseW hd.view_1_40 [Str.ofString "Limits"]) mean mg mb h₀) (hk : cs.kind = .function)
    (hdp : dp + d < recursionLimit) (hu : un + 8 * d < cLine)
    (ret : ∀ (r : Value) (h' : Heap) (tk' : Nat), R r → Fr h₀ L h' m → News h₀ L h' news → Q r { s with heap := h', toks := tk' }) :
    wpAny (model PySem.Challenge.rw_sa0533_01.row.prog w) (ktrTop dp un gd cn cs L a ccd cl []) (call (.ref f) vs) Q E s :=
  by unfold Does0 at C; exact C mean mg mb dp un gd cn cs a ccd cl A₀ h₀ L m s Q E B F X N T hk hdp hu ret
theorem Does0.at {w : World} {f : Addr} {d : Nat} {news : Led} {vs : List Value} {R : Value → Prop} {mean : ExcName → Option Value} {mg mb : Str → Option Value} {dp un : Nat} {gd : Option (List Code)} {cn : Str} {cs : Scope} {a : Addr} {ccd : Value} {cl : List (Str × Addr)} {A₀ : Around} {h₀ : Heap} {L : Addr} {m : Str → Option Value} {s : Shared} {Q E : Value → Shared → Prop}
    (B : Below A₀ h₀ [] h₀) (F : Fr h₀ L s.heap m) (X : (hd.heap_1_39 w.params).In h₀) (N : News h₀ L s.heap news) (T : Top hd.view_1_40 (looseW hd.view_1_40 [Str.ofString "Limits"]) mean mg mb h₀) (hk : cs.kind = .function)
    (hdp : dp + d < recursionLimit) (hu : un + 8 * d < cLine) (C : Does0 w f d news vs R)
    (ret : ∀ (r : Value) (h' : Heap) (tk' : Nat), R r → Fr h₀ L h' m → News h₀ L h' news → Q r { s with heap := h', toks := tk' }) :
    wpAny (model PySem.Challenge.rw_sa0533_01.row.prog w) (ktrTop dp un gd cn cs L a ccd cl []) (call (.ref f) vs) Q E s := C.use B F X N T hk hdp hu ret
theorem Does.zero {w : World} {f : Addr} {d : Nat} {news : Led} {vs : List Value} {R : Value → Prop} (C : Does w f d news vs R) : Does0 w f d news vs R := by
  unfold Does at C
  unfold Does0
  exact fun mean mg mb dp un gd cn cs a ccd cl A₀ h₀ L m s Q E B F X N T hk hdp hu ret => C mean mg mb dp un gd cn cs a ccd cl [] A₀ h₀ h₀ L m s Q E B F X N T hk hdp hu ret
theorem told_ne (w : World) (news : Led) (lim : Addr) (wd a b : Int) (ta tb : Tok) (hl : LimAt news lim wd) (h3 : 3 ≤ wd) (h64 : wd ≤ 64) (ha : InW wd a) (hb : InW wd b) (hb0 : b ≠ 0) :
    Does w 540 20 news [.int a ta, .int b tb, .ref lim] (fun r => r = .bool true) := by
  unfold Does
  have sa := ha.small h64
  have sb := hb.small h64
  have e1 : wrapZ (a + 0) wd = a := by rw [Int.add_zero, wrapZ_id h3 ha]
  have e2 : wrapZ (0 * b) wd = 0 := by rw [Int.zero_mul, wrap_zero h3]
  have t1 : ∀ t, NumOf wd (.str (textOf a) t) a := fun t => NumOf.textIn h3 ha sa
  intro mean mg mb dp un gd cn cs a₀ ccd cl outer A₀ base h₀ L m s Q E B F X N T hk hd hu hret
  refine wpAny_call ?_
  k_dflt cell_enter
  k_steps
  exact hret _ _ _ rfl (by assumption) (news_sub (by assumption) fun p hp => by repeat (first | exact hp | refine List.Mem.tail _ ?_))
theorem told_eq (w : World) (news : Led) (lim : Addr) (wd a : Int) (ta tb : Tok) (hl : LimAt news lim wd) (h3 : 3 ≤ wd) (h64 : wd ≤ 64) (ha : InW wd a) :
    Does0 w 540 20 news [.int a ta, .int 0 tb, .ref lim] (fun r => r = .bool true) := by
  unfold Does0
  have sa := ha.small h64
  have sb : Small 0 := by decide
  have e1 : wrapZ (a + 0) wd = a := by rw [Int.add_zero, wrapZ_id h3 ha]
  have e2 : wrapZ (0 * 0) wd = 0 := wrap_zero h3
  intro mean mg mb dp un gd cn cs a₀ ccd cl A₀ h₀ L m s Q E B F X N T hk hd hu hret
  refine wpAny_call ?_
  k_dflt (refine' enter0 ?k1 ?k2 ?k3 ?k4 ?k5 ?kA ?k6 ?k7 ?k8 ?k9 ?kB ?_ ?cK ?c2 ?c3 ?c4 ?c5; (case kA => exact rfl); (case k2 | k1 => k_asm); (case k3 | k4 | k5 => k_asm); (case k6 | k7 => k_is); (case k8 => k_room); (case k9 => exact BindsTo.of_eq rfl); (case kB => exact locs rfl); (case cK => assumption); (case c2 | c3 | c4 => exact rfl); (case c5 => decide); k_whole; intro g' L' h' FG' F' N' B' X' T' D'; (try dsimp only); (try k_lift B'); (try k_fold))
  k_steps
  exact hret _ _ _ rfl (by assumption) (news_sub (by assumption) fun p hp => by repeat (first | exact hp | refine List.Mem.tail _ ?_))
theorem told_all (w : World) (news : Led) (lim : Addr) (wd a b : Int) (ta tb : Tok) (hl : LimAt news lim wd) (h3 : 3 ≤ wd) (h64 : wd ≤ 64) (ha : InW wd a) (hb : InW wd b) :
    Does0 w 540 20 news [.int a ta, .int b tb, .ref lim] (fun r => r = .bool true) := by
  by_cases h : b = 0
  · subst h; exact told_eq w news lim wd a ta tb hl h3 h64 ha
  · exact (told_ne w news lim wd a b ta tb hl h3 h64 ha hb h).zero
local macro_rules | `(tactic| walk_at "binaryOp Mult int int") => `(tactic| (k_here; (with_reducible refine mul_int ?_ (mulOk_small ?a ?b)); (case a | b => first | assumption | exact small_wrap (by assumption) (by assumption))))
theorem divided_ne (w : World) (news : Led) (lim : Addr) (wd a b : Int) (ta tb : Tok) (hl : LimAt news lim wd) (h3 : 3 ≤ wd) (h64 : wd ≤ 64) (ha : InW wd a) (hb : InW wd b) (hb0 : b ≠ 0) :
    Does w 509 20 news [.int a ta, .int b tb, .ref lim] (fun r => r = .bool true) := by
  unfold Does
  have sa := ha.small h64
  have sb := hb.small h64
  have e1 : wrapZ (wrapZ (wrapZ (a.tdiv b) wd * b) wd + wrapZ (a - b * a.tdiv b) wd) wd = a := div_back h3 ha h64
  have em := mod_in (a := a) h3 hb0 hb
  have e2 : ¬ (if b < 0 then -b else b) ≤ (if wrapZ (a - b * a.tdiv b) wd < 0 then -wrapZ (a - b * a.tdiv b) wd else wrapZ (a - b * a.tdiv b) wd) := by
    rw [em, abs_nat, abs_nat]
    have := natAbs_tmod_lt (a := a) hb0
    omega
  have e3 : ¬ wrapZ (a - b * a.tdiv b) wd * a < 0 := by
    rw [em]
    have := mod_sign a b
    omega
  intro mean mg mb dp un gd cn cs a₀ ccd cl outer A₀ base h₀ L m s Q E B F X N T hk hd hu hret
  refine wpAny_call ?_
  k_dflt cell_enter
  k_steps
  exact hret _ _ _ rfl (by assumption) (news_sub (by assumption) fun p hp => by repeat (first | exact hp | refine List.Mem.tail _ ?_))
theorem divided_eq (w : World) (news : Led) (lim : Addr) (wd a : Int) (ta tb : Tok) (hl : LimAt news lim wd) (h3 : 3 ≤ wd) (h64 : wd ≤ 64) (ha : InW wd a) :
    Does0 w 509 20 news [.int a ta, .int 0 tb, .ref lim] (fun r => r = .bool true) := by
  unfold Does0
  have sa := ha.small h64
  have sb : Small 0 := by decide
  have z0 : (0 : Int) = 0 := rfl
  intro mean mg mb dp un gd cn cs a₀ ccd cl A₀ h₀ L m s Q E B F X N T hk hd hu hret
  refine wpAny_call ?_
  k_dflt (refine' enter0 ?k1 ?k2 ?k3 ?k4 ?k5 ?kA ?k6 ?k7 ?k8 ?k9 ?kB ?_ ?cK ?c2 ?c3 ?c4 ?c5; (case kA => exact rfl); (case k2 | k1 => k_asm); (case k3 | k4 | k5 => k_asm); (case k6 | k7 => k_is); (case k8 => k_room); (case k9 => exact BindsTo.of_eq rfl); (case kB => exact locs rfl); (case cK => assumption); (case c2 | c3 | c4 => exact rfl); (case c5 => decide); k_whole; intro g' L' h' FG' F' N' B' X' T' D'; (try dsimp only); (try k_lift B'); (try k_fold))
  k_steps
  exact hret _ _ _ rfl (by assumption) (news_sub (by assumption) fun p hp => by repeat (first | exact hp | refine List.Mem.tail _ ?_))
theorem divided_all (w : World) (news : Led) (lim : Addr) (wd a b : Int) (ta tb : Tok) (hl : LimAt news lim wd) (h3 : 3 ≤ wd) (h64 : wd ≤ 64) (ha : InW wd a) (hb : InW wd b) :
    Does0 w 509 20 news [.int a ta, .int b tb, .ref lim] (fun r => r = .bool true) := by
  by_cases h : b = 0
  · subst h; exact divided_eq w news lim wd a ta tb hl h3 h64 ha
  · exact (divided_ne w news lim wd a b ta tb hl h3 h64 ha hb h).zero
-- NORULES
section
/-- Limits called with a width: new limits, and what stood stands -/
@[irreducible] noncomputable def LimCall (w : World) (d : Nat) (news : Led) (wd : Int) (t : Tok) : Prop :=
  ∀ (mean : ExcName → Option Value) (mg mb : Str → Option Value) (dp un : Nat) (gd : Option (List Code)) (cn : Str) (cs : Scope) (a : Addr) (ccd : Value) (cl : List (Str × Addr)) (outer : List Env) (A₀ : Around) (base h₀ : Heap) (L : Addr) (m : Str → Option Value) (s : Shared) (Q E : Value → Shared → Prop),
    Below A₀ base outer h₀ → Fr h₀ L s.heap m → (hd.heap_1_39 w.params).In h₀ → News h₀ L s.heap news → Top hd.view_1_40 (looseW hd.view_1_40 [Str.ofString "Limits"]) mean mg mb h₀ → cs.kind = .function →
    dp + d < recursionLimit → un + 8 * d < cLine →
    (∀ (lim dx : Addr) (n : Nat) (h1 h2 h3 h4 h5 : Int) (k1 k2 k3 k4 k5 t1 : Tok) (v2 v3 v4 v5 : Value) (h' : Heap) (tk' : Nat), (∀ p ∈ news, p.1 < dx) → dx < lim → Fr h₀ L h' m → News h₀ L h' ((lim, instObj 477 dx) :: (dx, dictOf (limDict h1 h2 h3 h4 h5 k1 k2 k3 k4 k5 t1 v2 v3 v4 v5 wd) n) :: news) → Q (.ref lim) { s with heap := h', toks := tk' }) →
    wpAny (model PySem.Challenge.rw_sa0533_01.row.prog w) (ktrTop dp un gd cn cs L a ccd cl outer) (call (.ref 477) [] [(Str.ofString "width", .int wd t)]) Q E s
theorem LimCall.use {w : World} {d : Nat} {news : Led} {wd : Int} {t : Tok} {mean : ExcName → Option Value} {mg mb : Str → Option Value} {dp un : Nat} {gd : Option (List Code)} {cn : Str} {cs : Scope} {a : Addr} {ccd : Value} {cl : List (Str × Addr)} {outer : List Env} {A₀ : Around} {base h₀ : Heap} {L : Addr} {m : Str → Option Value} {s : Shared} {Q E : Value → Shared → Prop}
    (B : Below A₀ base outer h₀) (F : Fr h₀ L s.heap m) (X : (hd.heap_1_39 w.params).In h₀) (N : News h₀ L s.heap news) (T : Top hd.view_1_40 (looseW hd.view_1_40 [Str.ofString "Limits"]) mean mg mb h₀) (hk : cs.kind = .function)
    (hd : dp + d < recursionLimit) (hu : un + 8 * d < cLine) (C : LimCall w d news wd t)
    (ret : ∀ (lim dx : Addr) (n : Nat) (h1 h2 h3 h4 h5 : Int) (k1 k2 k3 k4 k5 t1 : Tok) (v2 v3 v4 v5 : Value) (h' : Heap) (tk' : Nat), (∀ p ∈ news, p.1 < dx) → dx < lim → Fr h₀ L h' m → News h₀ L h' ((lim, instObj 477 dx) :: (dx, dictOf (limDict h1 h2 h3 h4 h5 k1 k2 k3 k4 k5 t1 v2 v3 v4 v5 wd) n) :: news) → Q (.ref lim) { s with heap := h', toks := tk' }) :
    wpAny (model PySem.Challenge.rw_sa0533_01.row.prog w) (ktrTop dp un gd cn cs L a ccd cl outer) (call (.ref 477) [] [(Str.ofString "width", .int wd t)]) Q E s :=
  by unfold LimCall at C; exact C mean mg mb dp un gd cn cs a ccd cl outer A₀ base h₀ L m s Q E B F X N T hk hd hu ret
local macro_rules | `(tactic| k_all) => `(tactic| assumption)
theorem lim_call (w : World) (news : Led) (wd : Int) (t : Tok) : LimCall w 3 news wd t := by
  unfold LimCall
  intro mean mg mb dp un gd cn cs a ccd cl outer A₀ base h₀ L m s Q E B F X N T hk hd hu hret
  k_dflt (refine' call_cls ?k1 ?k2 ?k3 ?k4 ?k5 ?k6 ?_; (case k1 | k2 | k3 => k_asm); (case k4 | k5 | k6 => k_is); k_whole; intro x' d' h' F' N' l1 l2; (try k_sweep))
  have hne : ∀ p ∈ news, p.1 ≠ d' := fun p hp => Nat.ne_of_lt (l1 p hp)
  have l3 := l2
  k_lt2 l2
  k_dflt (refine' code_def ?k1 ?k2 ?k3 ?k4 ?k5 ?kA ?kF ?kK ?k6 ?k7 ?k8 ?k9 ?kB ?_ ?c2 ?c3 ?c4 ?c5; (case kA | kF => exact rfl); (case kK => assumption); (case k1 | k2 => k_asm); (case k3 | k4 | k5 => k_asm); (case k6 | k7 => k_is); (case k8 => ktr_room); (case k9 => exact binds_K (by k_in) rfl (by k_is) rfl rfl rfl); (case c5 => decide); (case kB => exact locs rfl); (case c2 | c3 | c4 => exact rfl); k_whole; intro g' L' h' FG' F' N' B' X' T'; (try dsimp only); (try k_lift B'); (try k_fold))
  k_steps
  exact hret _ _ _ _ _ _ _ _ _ _ _ _ _ _ _ _ _ _ _ _ l1 l3 (by assumption) (by assumption)
end
local macro_rules | `(tactic| walk_at "call ref") => `(tactic| (k_here; k_dflt (refine' LimCall.use ?_ ?_ ?_ ?_ ?_ ?_ ?_ ?_ (lim_call _ _ _ _) ?_; walk_at "mine pre"; intro li9 dx9 n9 g1 g2 g3 g4 g5 q1 q2 q3 q4 q5 t1 v2 v3 v4 v5 h9 tk9 l9 l8 F9 N9; k_lt l9; k_lt2 l8; (try dsimp only at N9); (try dsimp only); (try k_fold))))
local macro_rules | `(tactic| walk_at "binaryOp Mult int int") => `(tactic| (k_here; (with_reducible refine mul_int ?_ (mulOk_small ?a ?b)); (case a | b => first | assumption | decide | (unfold Small; omega))))
local macro_rules | `(tactic| walk_at "setItem ref int") => `(tactic| (k_here; k_dflt (refine' ki_set ?F ?N ?a ?b ?e ?U ?_; (case F | N => k_asm); (case U => exact Upd.head (by assumption)); (case a | b => decide); (case e => rfl)); ki_rest))
noncomputable abbrev purseO (sc : Addr) (k : Int) (t : Tok) (e : Nat) : Obj := W.listOf #[.ref sc, .int k t] e
/-- a call that takes up to n coins out of the purse and gives an int -/
@[irreducible] noncomputable def PurseAt (w : World) (f : Addr) (d : Nat) (news : Led) (pu sc : Addr) (vs : List Value) (e e2 : Nat) (k n : Int) (t : Tok) (args : List Value) (P : Int → Prop) : Prop :=
  ∀ (mean : ExcName → Option Value) (mg mb : Str → Option Value) (dp un : Nat) (gd : Option (List Code)) (cn : Str) (cs : Scope) (a : Addr) (ccd : Value) (cl : List (Str × Addr)) (outer : List Env) (A₀ : Around) (base h₀ : Heap) (L : Addr) (m : Str → Option Value) (s : Shared) (Q E : Value → Shared → Prop),
    Below A₀ base outer h₀ → Fr h₀ L s.heap m → (hd.heap_1_39 w.params).In h₀ → News h₀ L s.heap ((pu, purseO sc k t e) :: (sc, W.listOf vs.toArray e2) :: news) → Top hd.view_1_40 (looseW hd.view_1_40 [Str.ofString "Limits"]) mean mg mb h₀ → cs.kind = .function →
    dp + d < recursionLimit → un + 8 * d < cLine →
    (∀ (c k' : Int) (t' t2 : Tok) (h' : Heap) (tk' : Nat), P c → k ≤ k' → k' ≤ k + n → Fr h₀ L h' m → News h₀ L h' ((pu, purseO sc k' t2 e) :: (sc, W.listOf vs.toArray e2) :: news) → Q (.int c t') { s with heap := h', toks := tk' }) →
    wpAny (model PySem.Challenge.rw_sa0533_01.row.prog w) (ktrTop dp un gd cn cs L a ccd cl outer) (call (.ref f) args) Q E s
theorem PurseAt.use {w : World} {f : Addr} {d : Nat} {news : Led} {pu sc : Addr} {vs : List Value} {e e2 : Nat} {k n : Int} {t : Tok} {args : List Value} {P : Int → Prop} {mean : ExcName → Option Value} {mg mb : Str → Option Value} {dp un : Nat} {gd : Option (List Code)} {cn : Str} {cs : Scope} {a : Addr} {ccd : Value} {cl : List (Str × Addr)} {outer : List Env} {A₀ : Around} {base h₀ : Heap} {L : Addr} {m : Str → Option Value} {s : Shared} {Q E : Value → Shared → Prop}
    (C : PurseAt w f d news pu sc vs e e2 k n t args P)
    (B : Below A₀ base outer h₀) (F : Fr h₀ L s.heap m) (X : (hd.heap_1_39 w.params).In h₀) (N : News h₀ L s.heap ((pu, purseO sc k t e) :: (sc, W.listOf vs.toArray e2) :: news)) (T : Top hd.view_1_40 (looseW hd.view_1_40 [Str.ofString "Limits"]) mean mg mb h₀) (hk : cs.kind = .function)
    (hdp : dp + d < recursionLimit) (hu : un + 8 * d < cLine)
    (ret : ∀ (c k' : Int) (t' t2 : Tok) (h' : Heap) (tk' : Nat), P c → k ≤ k' → k' ≤ k + n → Fr h₀ L h' m → News h₀ L h' ((pu, purseO sc k' t2 e) :: (sc, W.listOf vs.toArray e2) :: news) → Q (.int c t') { s with heap := h', toks := tk' }) :
    wpAny (model PySem.Challenge.rw_sa0533_01.row.prog w) (ktrTop dp un gd cn cs L a ccd cl outer) (call (.ref f) args) Q E s :=
  by unfold PurseAt at C; exact C mean mg mb dp un gd cn cs a ccd cl outer A₀ base h₀ L m s Q E B F X N T hk hdp hu ret
/-- the same, of a ledger that holds the purse anywhere -/
theorem PurseAt.useF {w : World} {f : Addr} {d : Nat} {l : Led} {g : Obj → Led} {pu sc : Addr} {vs : List Value} {e e2 : Nat} {k n : Int} {t : Tok} {args : List Value} {P : Int → Prop} {mean : ExcName → Option Value} {mg mb : Str → Option Value} {dp un : Nat} {gd : Option (List Code)} {cn : Str} {cs : Scope} {a : Addr} {ccd : Value} {cl : List (Str × Addr)} {outer : List Env} {A₀ : Around} {base h₀ : Heap} {L : Addr} {m : Str → Option Value} {s : Shared} {Q E : Value → Shared → Prop}
    (B : Below A₀ base outer h₀) (F : Fr h₀ L s.heap m) (X : (hd.heap_1_39 w.params).In h₀) (N : News h₀ L s.heap l) (U : UpdF pu (purseO sc k t e) l g) (hs : (sc, W.listOf vs.toArray e2) ∈ l) (T : Top hd.view_1_40 (looseW hd.view_1_40 [Str.ofString "Limits"]) mean mg mb h₀) (hk : cs.kind = .function)
    (C : ∀ news : Led, (∀ p ∈ news, p.1 ≠ pu) → PurseAt w f d news pu sc vs e e2 k n t args P)
    (hdp : dp + d < recursionLimit) (hu : un + 8 * d < cLine)
    (ret : ∀ (c k' : Int) (t' t2 : Tok) (h' : Heap) (tk' : Nat), P c → k ≤ k' → k' ≤ k + n → Fr h₀ L h' m → News h₀ L h' (g (purseO sc k' t2 e)) → Q (.int c t') { s with heap := h', toks := tk' }) :
    wpAny (model PySem.Challenge.rw_sa0533_01.row.prog w) (ktrTop dp un gd cn cs L a ccd cl outer) (call (.ref f) args) Q E s := by
  obtain ⟨pre, post, rfl, hg, ha, hb⟩ := U.split
  refine (C (pre ++ post) fun p hp => ?_).use B F X (news_sub N fun p hp => ?_) T hk hdp hu fun c k' t' t2 h' tk' hP h1 h2 F' N' => ret c k' t' t2 h' tk' hP h1 h2 F' (news_sub N' fun p hp => ?_)
  · rcases List.mem_append.mp hp with hp | hp
    · exact ha p hp
    · exact hb p hp
  · rcases List.mem_cons.mp hp with rfl | hp
    · exact List.mem_append_right _ (.head _)
    · rcases List.mem_cons.mp hp with rfl | hp
      · exact hs
      · rcases List.mem_append.mp hp with hp | hp
        · exact List.mem_append_left _ hp
        · exact List.mem_append_right _ (.tail _ hp)
  · rw [hg] at hp
    rcases List.mem_append.mp hp with hp | hp
    · exact .tail _ (.tail _ (List.mem_append_left _ hp))
    · rcases List.mem_cons.mp hp with rfl | hp
      · exact .head _
      · exact .tail _ (.tail _ (List.mem_append_right _ hp))
theorem coin_range {x many : Int} (hm : 0 < many) : 0 ≤ x.fmod many ∧ x.fmod many < many := by
  rw [Int.fmod_eq_emod_of_nonneg _ (by omega)]
  exact ⟨Int.emod_nonneg _ (by omega), Int.emod_lt_of_pos _ hm⟩
theorem coin_does (w : World) (news : Led) (pu sc : Addr) (vs : List Value) (xs : List Int) (e e2 : Nat) (k many : Int) (t u : Tok) (hi : IntsAre vs xs) (hx : xs.length ≤ 40) (hps : sc ≠ pu) (hne : ∀ p ∈ news, p.1 ≠ pu) (hk0 : 0 ≤ k) (hk9 : k ≤ 1000) (hm : 0 < many) :
    PurseAt w 488 2 news pu sc vs e e2 k 1 t [.ref pu, .int many u] (fun c => 0 ≤ c ∧ c < many) := by
  unfold PurseAt
  have hne2 : ∀ p ∈ (sc, W.listOf vs.toArray e2) :: news, p.1 ≠ pu := fun p hp => by
    rcases List.mem_cons.mp hp with rfl | hp
    · exact hps
    · exact hne p hp
  intro mean mg mb dp un gd cn cs a ccd cl outer A₀ base h₀ L m s Q E B F X N T hk hd hu hret
  refine wpAny_call ?_
  k_dflt cell_enter
  k_steps
  · exact hret _ _ _ _ _ _ (coin_range hm) (Int.le_of_lt (Int.lt_succ k)) (Int.le_refl _) (by assumption) (by assumption)
  · exact hret _ _ _ _ _ _ (coin_range hm) (Int.le_of_lt (Int.lt_succ k)) (Int.le_refl _) (by assumption) (by assumption)
local macro_rules | `(tactic| walk_at "call ref") => `(tactic| (k_here; k_dflt (refine' PurseAt.use (coin_does _ _ _ _ _ _ _ _ _ _ _ _ ?hi ?hx ?hps ?hne ?hk0 ?hk9 ?hm) ?B ?F ?X ?N ?T ?hk ?hd ?hu ?_; (case B | F => k_asm); (case X | N | T => k_asm); (case hi | hx => assumption); (case hps | hne => assumption); (case hk0 | hk9 => omega); (case hm => first | decide | omega); (case hk => first | exact rfl | assumption); (case hd => ktr_room); (case hu => ktr_units); intro c9 k9 t9 u9 h9 tk9 P9 l9 m9 F9 N9; (try dsimp only); (try k_fold))))
theorem half_small {wd : Int} (h3 : 3 ≤ wd) (h64 : wd ≤ 64) : Small (2 ^ (wd - 1).toNat) := by
  have h := two_pow_le (wd - 1).toNat (by omega)
  have := pow_pos2 (wd - 1).toNat
  unfold Small
  omega
theorem inw_low {wd : Int} (h3 : 3 ≤ wd) : InW wd (-(2 ^ (wd - 1).toNat)) := by
  unfold InW
  rw [show wd.toNat - 1 = (wd - 1).toNat by omega]
  have := pow_pos2 (wd - 1).toNat
  omega
theorem inw_high {wd : Int} (h3 : 3 ≤ wd) : InW wd (2 ^ (wd - 1).toNat - 1) := by
  unfold InW
  rw [show wd.toNat - 1 = (wd - 1).toNat by omega]
  have := pow_pos2 (wd - 1).toNat
  omega
theorem inw_mid {wd x : Int} (h3 : 3 ≤ wd) : InW wd (x.fmod (2 * 2 ^ (wd - 1).toNat) - 2 ^ (wd - 1).toNat) := by
  unfold InW
  rw [show wd.toNat - 1 = (wd - 1).toNat by omega]
  have := pow_pos2 (wd - 1).toNat
  have := coin_range (x := x) (show 0 < 2 * 2 ^ (wd - 1).toNat by omega)
  omega
theorem sum_led {h₀ h : Heap} {L : Addr} {q p : Addr × Obj} {r : Led} (N : News h₀ L h (q :: p :: r)) : News h₀ L h (p :: r) := news_sub N fun _ hp => .tail _ hp
theorem sum_does (w : World) (news : Led) (pu sc : Addr) (vs : List Value) (xs : List Int) (e e2 : Nat) (k wd : Int) (t u : Tok) (hi : IntsAre vs xs) (hx : xs.length ≤ 40) (hps : sc ≠ pu) (hne : ∀ p ∈ news, p.1 ≠ pu) (hk0 : 0 ≤ k) (hk9 : k ≤ 900) (h3 : 3 ≤ wd) (h64 : wd ≤ 64) :
    PurseAt w 495 5 news pu sc vs e e2 k 2 t [.ref pu, .int wd u] (fun c => InW wd c) := by
  unfold PurseAt
  have hs := half_small h3 h64
  intro mean mg mb dp un gd cn cs a ccd cl outer A₀ base h₀ L m s Q E B F X N T hk hd hu hret
  refine wpAny_call ?_
  k_dflt cell_enter
  k_steps
  · refine hret _ _ _ _ _ _ (inw_low h3) ?_ ?_ (by assumption) (sum_led (by assumption)) <;> omega
  · refine hret _ _ _ _ _ _ (inw_high h3) ?_ ?_ (by assumption) (sum_led (by assumption)) <;> omega
  · refine hret _ _ _ _ _ _ (inw_mid h3) ?_ ?_ (by assumption) (sum_led (by assumption)) <;> omega
  · refine hret _ _ _ _ _ _ (inw_mid h3) ?_ ?_ (by assumption) (sum_led (by assumption)) <;> omega
theorem most_pos {wd : Int} (h : 3 ≤ wd) : 0 < (if wd + 3 < 2 ^ (wd - 1).toNat then wd + 3 else 2 ^ (wd - 1).toNat) := by
  have := pow_pos2 (wd - 1).toNat
  split <;> omega
theorem most_j {wd j : Int} (h64 : wd ≤ 64) (hj : 0 ≤ j ∧ j < (if wd + 3 < 2 ^ (wd - 1).toNat then wd + 3 else 2 ^ (wd - 1).toNat)) : j ≤ 66 := by
  have := pow_pos2 (wd - 1).toNat
  obtain ⟨_, h⟩ := hj
  split at h <;> omega
theorem coin_F {w : World} {pu sc : Addr} {vs : List Value} {xs : List Int} {e e2 : Nat} {k many : Int} {t u : Tok} (hi : IntsAre vs xs) (hx : xs.length ≤ 40) (hps : sc ≠ pu) (hk0 : 0 ≤ k) (hk9 : k ≤ 1000) (hm : 0 < many) :
    ∀ news : Led, (∀ p ∈ news, p.1 ≠ pu) → PurseAt w 488 2 news pu sc vs e e2 k 1 t [.ref pu, .int many u] (fun c => 0 ≤ c ∧ c < many) := fun news hne => coin_does w news pu sc vs xs e e2 k many t u hi hx hps hne hk0 hk9 hm
theorem sum_F {w : World} {pu sc : Addr} {vs : List Value} {xs : List Int} {e e2 : Nat} {k wd : Int} {t u : Tok} (hi : IntsAre vs xs) (hx : xs.length ≤ 40) (hps : sc ≠ pu) (hk0 : 0 ≤ k) (hk9 : k ≤ 900) (h3 : 3 ≤ wd) (h64 : wd ≤ 64) :
    ∀ news : Led, (∀ p ∈ news, p.1 ≠ pu) → PurseAt w 495 5 news pu sc vs e e2 k 2 t [.ref pu, .int wd u] (fun c => InW wd c) := fun news hne => sum_does w news pu sc vs xs e e2 k wd t u hi hx hps hne hk0 hk9 h3 h64
theorem off_I {I C D a : Addr} {o : Obj} {l : Led} (h : LCg.Off3 I C D l) (m : (a, o) ∈ l) : I ≠ a := fun e => (h.mem _ m).1 e.symm
theorem off_C {I C D a : Addr} {o : Obj} {l : Led} (h : LCg.Off3 I C D l) (m : (a, o) ∈ l) : C ≠ a := fun e => (h.mem _ m).2.1 e.symm
theorem off_D {I C D a : Addr} {o : Obj} {l : Led} (h : LCg.Off3 I C D l) (m : (a, o) ∈ l) : D ≠ a := fun e => (h.mem _ m).2.2 e.symm
theorem rules_F_10 : True := by
  k_with "mine mine off" => (((refine neN ?_); (try dsimp only); (first | exact off_I (by with_reducible assumption) (by k_mem) | exact off_C (by with_reducible assumption) (by k_mem) | exact off_D (by with_reducible assumption) (by k_mem) | omega)))
  k_with "mine mine updF" => ((first | (apply UpdF.head; k_all) | (apply UpdF.tail; (focus (walk_at "mine off")); (focus (walk_at "mine updF")))))
  trivial
local macro_rules | `(tactic| walk_at "call ref") => `(tactic| (k_here; k_dflt (refine' PurseAt.useF ?B ?F ?X ?N ?U ?hs ?T ?hk (coin_F ?hi ?hx ?hps ?hk0 ?hk9 ?hm) ?hd ?hu ?_; (case B | F => k_asm); (case X | N => k_asm); (case U => walk_at "mine updF"); (case hs => k_mem); (case T => k_asm); (case hi => assumption); (case hx => first | assumption | exact List.length_take_le _ _); (case hps => k_ne); (case hk0 | hk9 => omega); (case hm => first | decide | exact most_pos (by omega) | omega | assumption); (case hk => first | exact rfl | assumption); (case hd => ktr_room); (case hu => ktr_units); intro c9 k9 t9 u9 h9 tk9 P9 l9 m9 F9 N9; (try dsimp only at N9); (try dsimp only); (try k_fold))))
local macro_rules | `(tactic| walk_at "call ref") => `(tactic| (k_here; k_dflt (refine' PurseAt.useF ?B ?F ?X ?N ?U ?hs ?T ?hk (sum_F ?hi ?hx ?hps ?hk0 ?hk9 ?h3 ?h64) ?hd ?hu ?_; (case B | F => k_asm); (case X | N => k_asm); (case U => walk_at "mine updF"); (case hs => k_mem); (case T => k_asm); (case hi => assumption); (case hx => first | assumption | exact List.length_take_le _ _); (case hps => k_ne); (case hk0 | hk9 => omega); (case h3 | h64 => omega); (case hk => first | exact rfl | assumption); (case hd => ktr_room); (case hu => ktr_units); intro c9 k9 t9 u9 h9 tk9 P9 l9 m9 F9 N9; (try dsimp only at N9); (try dsimp only); (try k_fold))))
/-- what is left of a loop over a range -/
noncomputable def RRest (prog : Program) (w : World) (A : Around) (E : Value → Shared → Prop) (env : Env) (target : Expr) (body : List Stmt) (Q : Flow → Shared → Prop) (s : Shared) (I : Addr) (h₀ : Heap) (a : Int) : Nat → Nat → (Str → Option Value) → (Obj → Led) → Prop
  | 0, _, m, _ => ∀ h' tk, Fr h₀ env.locals h' m → News h₀ env.locals h' [] → Q .next { s with heap := h', toks := tk }
  | k + 1, i, m, g => ∀ t h' tk oI, Fr h₀ env.locals h' m → News h₀ env.locals h' (g oI) →
      wpAny (model prog w) A (assign target env (.int (a + (i : Int)) t)) (fun _ s₂ => wpAny (model prog w) A (execs body env) (fun f s₃ => match f with
        | .ret v => Q (.ret v) s₃
        | .brk => Q .next s₃
        | _ => ∃ h'' tk'' m' all g', s₃ = { s with heap := h'', toks := tk'' } ∧ Fr h₀ env.locals h'' m' ∧ News h₀ env.locals h'' all ∧ UpdF I oI all g' ∧ RRest prog w A E env target body Q s I h₀ a k (i + 1) m' g') E s₂) E { s with heap := h', toks := tk }
noncomputable def RTurn (prog : Program) (w : World) (A : Around) (E : Value → Shared → Prop) (env : Env) (target : Expr) (body : List Stmt) (Q : Flow → Shared → Prop) (s : Shared) (I : Addr) (h₀ : Heap) (a : Int) (k i : Nat) (oI : Obj) (f : Flow) (s₃ : Shared) : Prop := match f with
  | .ret v => Q (.ret v) s₃
  | .brk => Q .next s₃
  | _ => ∃ h'' tk'' m' all g', s₃ = { s with heap := h'', toks := tk'' } ∧ Fr h₀ env.locals h'' m' ∧ News h₀ env.locals h'' all ∧ UpdF I oI all g' ∧ RRest prog w A E env target body Q s I h₀ a k (i + 1) m' g'
section
variable {prog : Program} {w : World} {A : Around} {E : Value → Shared → Prop} {env : Env} {target : Expr} {body : List Stmt} {Q : Flow → Shared → Prop} {s : Shared} {I : Addr} {h₀ : Heap} {a : Int}
theorem RRest.zero {i : Nat} {m : Str → Option Value} {g : Obj → Led} (h : ∀ h' tk, Fr h₀ env.locals h' m → News h₀ env.locals h' [] → Q .next { s with heap := h', toks := tk }) : RRest prog w A E env target body Q s I h₀ a 0 i m g := by
  unfold RRest; exact h
theorem RRest.succ {k i : Nat} {m : Str → Option Value} {g : Obj → Led} (h : ∀ t h' tk oI, Fr h₀ env.locals h' m → News h₀ env.locals h' (g oI) →
      wpAny (model prog w) A (assign target env (.int (a + (i : Int)) t)) (fun _ s₂ => wpAny (model prog w) A (execs body env) (RTurn prog w A E env target body Q s I h₀ a k i oI) E s₂) E { s with heap := h', toks := tk }) : RRest prog w A E env target body Q s I h₀ a (k + 1) i m g := by
  unfold RRest; exact h
theorem RTurn.next {k i : Nat} {oI : Obj} {h'' : Heap} {tk'' : Nat} {m' : Str → Option Value} {all : Led} {g' : Obj → Led} (F : Fr h₀ env.locals h'' m') (N : News h₀ env.locals h'' all) (U : UpdF I oI all g') (r : RRest prog w A E env target body Q s I h₀ a k (i + 1) m' g') :
    RTurn prog w A E env target body Q s I h₀ a k i oI .next { s with heap := h'', toks := tk'' } := ⟨h'', tk'', m', all, g', rfl, F, N, U, r⟩
theorem RRest.monoE {E' : Value → Shared → Prop} (hE : ∀ e s', E e s' → E' e s') : ∀ {k i : Nat} {m : Str → Option Value} {g : Obj → Led}, RRest prog w A E env target body Q s I h₀ a k i m g → RRest prog w A E' env target body Q s I h₀ a k i m g
  | 0, i, m, g, h => by unfold RRest at h ⊢; exact h
  | k + 1, i, m, g, h => by
    unfold RRest at h ⊢
    intro t h' tk oI F N
    refine wpAny_mono (h t h' tk oI F N) (fun _ s₂ h₂ => wpAny_mono h₂ (fun f s₃ h₃ => ?_) hE) hE
    cases f with
    | ret v => exact h₃
    | brk => exact h₃
    | cont => obtain ⟨h'', tk'', m', all, g', e, F', N', U', r⟩ := h₃; exact ⟨h'', tk'', m', all, g', e, F', N', U', RRest.monoE hE r⟩
    | next => obtain ⟨h'', tk'', m', all, g', e, F', N', U', r⟩ := h₃; exact ⟨h'', tk'', m', all, g', e, F', N', U', RRest.monoE hE r⟩
noncomputable def RSrc (prog : Program) (w : World) (A : Around) (E : Value → Shared → Prop) (env : Env) (target : Expr) (body : List Stmt) (Q : Flow → Shared → Prop) (xv : Value) (s₁ : Shared) : Prop :=
  ∃ r b t u v n m news h₀, xv = .ref r ∧ A.handled = none ∧ Fr h₀ env.locals s₁.heap m ∧ News h₀ env.locals s₁.heap news ∧ IsRange s₁.heap r 0 b 1 t u v ∧ Builtin.Range.small 0 b 1 = true ∧ Builtin.Range.rangeSize 0 b 1 = ((n : Nat) : Int) ∧
    ∀ I, (∀ p ∈ news, p.1 < I) → RRest prog w A E env target body Q s₁ I h₀ 0 n 0 m (fun o => (I, o) :: news)
theorem RSrc.intro {r : Addr} {b : Int} {t u v : Tok} {m : Str → Option Value} {news : Led} {s₁ : Shared} (hh : A.handled = none) (F : Fr h₀ env.locals s₁.heap m) (N : News h₀ env.locals s₁.heap news) (hr : IsRange s₁.heap r 0 b 1 t u v) (hb : b = 1 ∨ b = 2)
    (h : ∀ k : Nat, k = 0 ∨ k = 1 → ∀ I, (∀ p ∈ news, p.1 < I) → RRest prog w A E env target body Q s₁ I h₀ 0 (k + 1) 0 m (fun o => (I, o) :: news)) : RSrc prog w A E env target body Q (.ref r) s₁ := by
  rcases hb with rfl | rfl
  · exact ⟨r, 1, t, u, v, 1, m, news, h₀, rfl, hh, F, N, hr, by decide, by decide, h 0 (.inl rfl)⟩
  · exact ⟨r, 2, t, u, v, 2, m, news, h₀, rfl, hh, F, N, hr, by decide, by decide, h 1 (.inr rfl)⟩
noncomputable def Apart (I pu sc c2 c1 : Addr) : Prop := pu ≠ I ∧ sc ≠ I ∧ c2 ≠ I ∧ c1 ≠ I
noncomputable abbrev lawLed (pu sc c1 c2 : Addr) (vs : Array Value) (e e2 : Nat) (o1 : Obj) (pk : Int) (t : Tok) (o2 : Obj) : Led := [(pu, purseO sc pk t e), (sc, W.listOf vs e2), (c2, o2), (c1, o1)]
/-- what a turn leaves to do -/
noncomputable def Again (prog : Program) (w : World) (A : Around) (E : Value → Shared → Prop) (env : Env) (target : Expr) (body : List Stmt) (Q : Flow → Shared → Prop) (s : Shared) (I : Addr) (h₀ : Heap) (pu sc c1 c2 : Addr) (vs : Array Value) (e e2 : Nat) (o1 : Obj) (k : Nat) (pk : Int) : Prop :=
  ∀ (i' : Nat) (m' : Str → Option Value) (pk' : Int) (t' : Tok) (o2' : Obj) (v' : Option Value), pk ≤ pk' → pk' ≤ pk + 19 → o2'.data = .cell v' → RRest prog w A E env target body Q s I h₀ 0 k i' m' (fun o => (I, o) :: lawLed pu sc c1 c2 vs e e2 o1 pk' t' o2')
theorem RTurn.again {k i : Nat} {oI : Obj} {h'' : Heap} {tk'' : Nat} {m' : Str → Option Value} {full : Led} {pu sc c1 c2 : Addr} {vs : Array Value} {e e2 : Nat} {o1 o2' : Obj} {pk pk' : Int} {t' : Tok} {v' : Option Value}
    (ih : Again prog w A E env target body Q s I h₀ pu sc c1 c2 vs e e2 o1 k pk) (hA : Apart I pu sc c2 c1) (F : Fr h₀ env.locals h'' m') (N : News h₀ env.locals h'' full)
    (hI : (I, oI) ∈ full) (m1 : (pu, purseO sc pk' t' e) ∈ full) (m2 : (sc, W.listOf vs e2) ∈ full) (m3 : (c2, o2') ∈ full) (m4 : (c1, o1) ∈ full) (hd : o2'.data = .cell v') (a1 : pk ≤ pk') (a2 : pk' ≤ pk + 19) :
    RTurn prog w A E env target body Q s I h₀ 0 k i oI .next { s with heap := h'', toks := tk'' } := by
  refine ⟨h'', tk'', m', (I, oI) :: lawLed pu sc c1 c2 vs e e2 o1 pk' t' o2', _, rfl, F, news_sub N ?_, UpdF.head ?_, ih (i + 1) m' pk' t' o2' v' a1 a2 hd⟩
  · intro p hp
    rcases List.mem_cons.mp hp with rfl | hp
    · exact hI
    rcases List.mem_cons.mp hp with rfl | hp
    · exact m1
    rcases List.mem_cons.mp hp with rfl | hp
    · exact m2
    rcases List.mem_cons.mp hp with rfl | hp
    · exact m3
    rcases List.mem_cons.mp hp with rfl | hp
    · exact m4
    · cases hp
  · obtain ⟨b1, b2, b3, b4⟩ := hA
    intro p hp
    rcases List.mem_cons.mp hp with rfl | hp
    · exact b1
    rcases List.mem_cons.mp hp with rfl | hp
    · exact b2
    rcases List.mem_cons.mp hp with rfl | hp
    · exact b3
    rcases List.mem_cons.mp hp with rfl | hp
    · exact b4
    · cases hp
theorem RSrc.law {r : Addr} {b : Int} {t u v : Tok} {m : Str → Option Value} {pu sc c1 c2 : Addr} {vs : Array Value} {e e2 : Nat} {o1 o2 : Obj} {pk : Int} {tp : Tok} {v₀ : Option Value} {s₁ : Shared} (hh : A.handled = none) (F : Fr h₀ env.locals s₁.heap m)
    (N : News h₀ env.locals s₁.heap (lawLed pu sc c1 c2 vs e e2 o1 pk tp o2)) (hr : IsRange s₁.heap r 0 b 1 t u v) (hb : b = 1 ∨ b = 2) (h0 : 0 ≤ pk) (h1 : pk ≤ 1) (hd : o2.data = .cell v₀)
    (turn : ∀ I, (∀ p ∈ lawLed pu sc c1 c2 vs e e2 o1 pk tp o2, p.1 < I) → ∀ (k i : Nat) (m : Str → Option Value) (pk : Int) (t : Tok) (o2 : Obj) (v₀ : Option Value), 0 ≤ pk → pk ≤ 20 → o2.data = .cell v₀ → Apart I pu sc c2 c1 →
      Again prog w A E env target body Q s₁ I h₀ pu sc c1 c2 vs e e2 o1 k pk → RRest prog w A E env target body Q s₁ I h₀ 0 (k + 1) i m (fun o => (I, o) :: lawLed pu sc c1 c2 vs e e2 o1 pk t o2))
    (fin : ∀ (m' : Str → Option Value) (h' : Heap) (tk : Nat), Fr h₀ env.locals h' m' → News h₀ env.locals h' [] → Q .next { s₁ with heap := h', toks := tk }) :
    RSrc prog w A E env target body Q (.ref r) s₁ := by
  refine RSrc.intro hh F N hr hb fun k hk I hI => ?_
  have hA : Apart I pu sc c2 c1 := ⟨Nat.ne_of_lt (hI _ (.head _)), Nat.ne_of_lt (hI _ (.tail _ (.head _))), Nat.ne_of_lt (hI _ (.tail _ (.tail _ (.head _)))), Nat.ne_of_lt (hI _ (.tail _ (.tail _ (.tail _ (.head _)))))⟩
  have z : ∀ i m g, RRest prog w A E env target body Q s₁ I h₀ 0 0 i m g := fun i m g => RRest.zero fun h' tk F' N' => fin m h' tk F' N'
  have one : ∀ i m (pk : Int) t o2 v₀, 0 ≤ pk → pk ≤ 20 → o2.data = .cell v₀ → RRest prog w A E env target body Q s₁ I h₀ 0 1 i m (fun o => (I, o) :: lawLed pu sc c1 c2 vs e e2 o1 pk t o2) :=
    fun i m pk t o2 v₀ a1 a2 a3 => turn I hI 0 i m pk t o2 v₀ a1 a2 a3 hA fun i' m' pk' t' o2' v' _ _ _ => z i' m' _
  rcases hk with rfl | rfl
  · exact one 0 m pk tp o2 v₀ h0 (by omega) hd
  · exact turn I hI 1 0 m pk tp o2 v₀ h0 (by omega) hd hA fun i' m' pk' t' o2' v' a1 a2 a3 => one i' m' pk' t' o2' v' (by omega) (by omega) a3
theorem for_range {iter : Expr} {x : Str} {px pos : Pos} (h : wpAny (model prog w) A (eval iter env) (RSrc prog w A E env (.Name x px) body Q) E s)
    (hs : ∀ x, foldedSetIterable iter env x = pure x := by intro _; rfl)
    (hE : PassesOwn (model prog w) A env E := by passes_own) :
    wpAny (model prog w) A (exec (.For (.Name x px) iter body [] pos) env) Q E s := by
  refine wpAny_For (wpAny_mono h (fun xv s₁ h₁ => ?_) fun _ _ e => e) hs
  obtain ⟨r, b, t, u, v, n, m, news, h₀, rfl, hh, F, N, hr, hsm, hn, rest⟩ := h₁
  refine wpAny_pyIter_range hr hsm ?_
  have W := LCg.range_walks (prog := prog) (w := w) (I := s₁.heap.objs.size) hh 0 n
  refine codeAny_forLoop_any
    (fun j s' => ∃ h' tk m' i oI g pre post, s' = { s₁ with heap := h', toks := tk } ∧ IsRangeIter h' s₁.heap.objs.size (0 + (i : Nat) * 1) ((n : Int) - (i : Nat)) 1 ∧ Fr h₀ env.locals h' m' ∧ News h₀ env.locals h' (pre ++ (s₁.heap.objs.size, oI) :: post) ∧ (∀ o, g o = pre ++ (s₁.heap.objs.size, o) :: post) ∧
      (∀ p ∈ pre, p.1 ≠ s₁.heap.objs.size) ∧ (∀ p ∈ post, p.1 ≠ s₁.heap.objs.size) ∧
      RRest prog w A E env (.Name x px) body Q s₁ s₁.heap.objs.size h₀ 0 (n - i) i m' g ∧ i ≤ n ∧ j = n + 1 - i) ?_ (n + 1)
    ⟨_, s₁.toks, m, 0, _, _, [], news, rfl, by show IsRangeIter _ _ _ _ _; rw [hn]; simpa using Heap.get?_push_size _ rfl, F.push _, N.push F _, fun _ => rfl, (fun p hp => by cases hp), fun p hp => Nat.ne_of_lt (Heap.lt_size (N p hp).1), rest _ fun p hp => Heap.lt_size (N p hp).1, Nat.zero_le _, rfl⟩
  rintro j s' ⟨h', tk, m', i, oI, g, pre, post, rfl, hst, F', N', hg, hpre, hpost, R, hi, rfl⟩
  have hI := N' (s₁.heap.objs.size, oI) (List.mem_append_right _ (.head _))
  have after : ∀ h₂ : Heap, (∀ b o, b ∉ [s₁.heap.objs.size] → h'.get? b = some o → h₂.get? b = some o) → ∀ o₂, h₂.get? s₁.heap.objs.size = some o₂ → Fr h₀ env.locals h₂ m' ∧ News h₀ env.locals h₂ (g o₂) := fun h₂ hk₂ o₂ e₂ =>
    ⟨LCg.fr_but F' hk₂ (Ne.symm hI.2.1) hI.2.2, fun p hp => by
      rw [hg] at hp
      rcases List.mem_append.mp hp with hp | hp
      · exact ⟨hk₂ _ _ (by simpa using hpre p hp) (N' p (List.mem_append_left _ hp)).1, (N' p (List.mem_append_left _ hp)).2⟩
      · rcases List.mem_cons.mp hp with rfl | hp
        · exact ⟨e₂, hI.2⟩
        · exact ⟨hk₂ _ _ (by simpa using hpost p hp) (N' p (List.mem_append_right _ (.tail _ hp))).1, (N' p (List.mem_append_right _ (.tail _ hp))).2⟩⟩
  by_cases hin : i < n
  · refine W.item i _ _ _ hin hst fun v h₂ tk₂ hP hst₂ hk₂ => ?_
    obtain ⟨tv, rfl⟩ := hP
    obtain ⟨F₂, N₂⟩ := after h₂ hk₂ _ hst₂
    have e : n - i = (n - (i + 1)) + 1 := by omega
    rw [e] at R
    unfold RRest at R
    refine wpAny_pure (a := ()) ?_
    refine wpAny_mono (R tv h₂ tk₂ _ F₂ N₂) (fun _ s₂ h₂' => wpAny_mono h₂' (fun f s₃ h₃ => ?_) hE) hE
    have step : ∀ oN : Obj, h₂.get? s₁.heap.objs.size = some oN → (∃ h'' tk'' m' all g', s₃ = { s₁ with heap := h'', toks := tk'' } ∧ Fr h₀ env.locals h'' m' ∧ News h₀ env.locals h'' all ∧ UpdF s₁.heap.objs.size oN all g' ∧ RRest prog w A E env (.Name x px) body Q s₁ s₁.heap.objs.size h₀ 0 (n - (i + 1)) (i + 1) m' g') →
        ∃ mm, mm < n + 1 - i ∧ ∃ h' tk m' i oI g pre post, s₃ = { s₁ with heap := h', toks := tk } ∧ IsRangeIter h' s₁.heap.objs.size (0 + (i : Nat) * 1) ((n : Int) - (i : Nat)) 1 ∧ Fr h₀ env.locals h' m' ∧ News h₀ env.locals h' (pre ++ (s₁.heap.objs.size, oI) :: post) ∧ (∀ o, g o = pre ++ (s₁.heap.objs.size, o) :: post) ∧
          (∀ p ∈ pre, p.1 ≠ s₁.heap.objs.size) ∧ (∀ p ∈ post, p.1 ≠ s₁.heap.objs.size) ∧
          RRest prog w A E env (.Name x px) body Q s₁ s₁.heap.objs.size h₀ 0 (n - i) i m' g ∧ i ≤ n ∧ mm = n + 1 - i := by
      rintro oN eN ⟨h'', tk'', m'', all, g', rfl, F₃, N₃, U, R₃⟩
      obtain ⟨pre', post', rfl, hg', ha, hb⟩ := U.split
      exact ⟨n + 1 - (i + 1), by omega, h'', tk'', m'', i + 1, oN, g', pre', post', rfl, (N₃ _ (List.mem_append_right _ (.head _))).1.trans (eN.symm.trans hst₂), F₃, N₃, hg', ha, hb, R₃, hin, rfl⟩
    cases f with
    | ret v => exact h₃
    | brk => exact h₃
    | cont => exact step _ hst₂ h₃
    | next => exact step _ hst₂ h₃
  · obtain rfl : i = n := by omega
    rw [Nat.sub_self] at R
    unfold RRest at R
    refine W.done _ _ _ hst fun h₂ tk₂ hk₂ => wpAny_execs_nil ?_
    exact R h₂ tk₂ (LCg.fr_but F' hk₂ (Ne.symm hI.2.1) hI.2.2) (fun p hp => by cases hp)
end
theorem rules_F_11 : True := by
  k_with "mine exec For Name Call cons nil" => ((k_here; (with_reducible show wpAny _ _ (exec (Stmt.For (Expr.Name _ _) (Expr.Call (Expr.Name ("range" : Str) _) _ _ _) _ [] _) _) _ _ _); k_dflt (refine for_range ?_)))
  trivial
local macro_rules | `(tactic| walk_at "RSrc") => `(tactic| (k_here; k_dflt (refine' RSrc.law ?hh ?F ?N ?hr ?hb ?h0 ?h1 ?hd ?turn ?fin; (case hh => rfl); (case F | N => k_asm); (case hr => assumption); (case hb | h0 | h1 => omega); (case hd => assumption); (case' turn => (intro I9 l9 k9 i9 m9 pk9 tp9 o9 v9 p0 p1 hd9 hA9 ih9; unfold lawLed at l9 ⊢; k_lt l9; (try dsimp only))); (case' fin => (intro m9 h' tk' F' N'; (try dsimp only); (try k_fold))))))
theorem rules_F_12 : True := by
  k_with "mine RRest" => ((k_dflt (first | (refine RRest.succ ?_; intro t' h' tk' oI' F' N'; (try dsimp only at N'); (try dsimp only); (try k_fold)) | (refine RRest.zero ?_; intro h' tk' F' N'; (try dsimp only at N'); (try dsimp only); (try k_fold)))))
  k_with "mine RTurn" => ((dsimp only [RTurn]))
  trivial
local macro_rules | `(tactic| walk_at "RTurn") => `(tactic| (k_dflt (refine' RTurn.again ?ih ?hA ?F ?N ?hI ?m1 ?m2 ?m3 ?m4 ?hd ?a1 ?a2; (case ih | hA => assumption); (case F | N => assumption); (case hI | m1 => k_mem); (case m2 | m3 | m4 => k_mem); (case hd => assumption); (case a1 | a2 => omega))))
theorem rules_F_13 : True := by
  k_with "mine eval ListComp" => ((k_here; (with_reducible show wpAny _ _ (eval (Expr.ListComp _ [⟨Expr.Name _ _, Expr.Call (Expr.Name ("range" : Str) _) _ _ _, _, _⟩] _ _) _) _ _ _); k_dflt (refine LCg.ListComp_U (F₀ := by k_asm) (by with_unfolding_all rfl) (by decide) (by rfl) (by decide) (by rfl) ?_)))
  k_with "mine CompSrc" => ((k_here; k_dflt (refine LCg.CompSrc.range (by rfl) (by k_asm) (by k_asm) (by assumption) (by first | decide | rfl) (by first | rfl | decide) (by first | size_fits | exact Nat.le_of_ble_eq_true rfl) ?_; intro g'; lcg_lit)))
  k_with "mine CompRest" => ((with_unfolding_all (refine LCg.CompRest.succ ?_; intro v' I' oI' C' oC' D' m' h' tk' E' hv' hC' hx' F' N' off' ne'; (have off2 := off'); (simp only [LCg.Off3, and_true] at off2); (first | lcg_open hv' | (obtain ⟨t9', hv9'⟩ := hv'; subst hv9')))))
  trivial-- NORULES
theorem most_j2 {wd j : Int} (hj : 0 ≤ j ∧ j < (if wd + 3 < 2 ^ (wd - 1).toNat then wd + 3 else 2 ^ (wd - 1).toNat)) (h64 : wd ≤ 64) : j ≤ 66 := most_j h64 hj
local macro_rules | `(tactic| walk_at "call ref") => `(tactic| (k_here; k_dflt (first | (refine' Does0.at ?_ ?_ ?_ ?_ ?_ ?_ ?_ ?_ (told_all _ _ _ _ _ _ _ _ ?l ?a1 ?a2 ?ha ?hb) ?_; walk_at "mine pre"; (case l => exact limAt_of (by k_mem) (by k_mem)); (case a1 | a2 => omega); (case ha | hb => assumption); walk_at "mine eq0") | (refine' Does0.at ?_ ?_ ?_ ?_ ?_ ?_ ?_ ?_ (divided_all _ _ _ _ _ _ _ _ ?l ?a1 ?a2 ?ha ?hb) ?_; walk_at "mine pre"; (case l => exact limAt_of (by k_mem) (by k_mem)); (case a1 | a2 => omega); (case ha | hb => assumption); walk_at "mine eq0") | (refine' Does.at ?_ ?_ ?_ ?_ ?_ ?_ ?_ ?_ (shifted_does _ _ _ _ _ _ _ _ _ _ ?l ?a1 ?a2 ?ha ?h0 ?h8 ?h1 ?h2) ?_; walk_at "mine pre"; (case l => exact limAt_of (by k_mem) (by k_mem)); (case a1 | a2 => omega); (case ha => assumption); (case h0 => exact And.left (by assumption)); (case h8 => exact most_j2 (by assumption) (by omega)); (case h1 => exact And.left (by assumption)); (case h2 => exact most_j2 (by assumption) (by omega)); walk_at "mine eq") | (refine' Does.at ?_ ?_ ?_ ?_ ?_ ?_ ?_ ?_ (bits_does _ _ _ _ _ _ _ _ ?l ?a1 ?a2 ?ha ?hb) ?_; walk_at "mine pre"; (case l => exact limAt_of (by k_mem) (by k_mem)); (case a1 | a2 => omega); (case ha | hb => assumption); walk_at "mine eq") | (refine' Does.at ?_ ?_ ?_ ?_ ?_ ?_ ?_ ?_ (pw_does _ _ _ _ _ _ _ _ ?l ?a1 ?a2 ?ha ?h0 ?h8) ?_; walk_at "mine pre"; (case l => exact limAt_of (by k_mem) (by k_mem)); (case a1 | a2 => omega); (case ha => assumption); (case h0 | h8 => omega); walk_at "mine eq") | (refine' Does.at ?_ ?_ ?_ ?_ ?_ ?_ ?_ ?_ (ring_does _ _ _ _ _ _ _ _ _ _ ?l ?a1 ?a2 ?ha ?hb ?hc) ?_; walk_at "mine pre"; (case l => exact limAt_of (by k_mem) (by k_mem)); (case a1 | a2 => omega); (case ha | hb | hc => assumption); walk_at "mine eq"))))
theorem law_all : PySem.Challenge.rw_sa0533_01.Holds := by
  refine hd._proof_1_694 fun said => hd._proof_1_693 said ?_
  clear said
  k_go0
  (all_goals try k_fold)
  k_steps
end Mine
theorem PySem.Challenge.cw_sa0533_01_holds : PySem.Challenge.rw_sa0533_01.Holds := by
  exact Mine.law_all
