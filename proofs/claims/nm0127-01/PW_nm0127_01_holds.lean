import PyProof.Rows.All
import Wide.All
import OpenK.AllK
import Wide.FinOn
import Lean
import PySem.Challenge.RW_nm0127_01
open PySem PySem.W PySem.Calls PyProof.Rows PyProof.V PySem.Spec
set_option Elab.async false
set_option maxRecDepth 100000
set_option maxHeartbeats 8000000
set_option linter.unusedVariables false
set_option compiler.extract_closed false
-- names of this file's own, taken ahead: where they stand, the head lays no quick twins of its data, and the compiled file stays small
theorem Mine.One.hd.tw17987757243099247519 : True := trivial
theorem Mine.One.hd.tw13390978719869992106 : True := trivial
theorem Mine.One.hd.tw11639166960693155984 : True := trivial
theorem Mine.One.hd.tw3469779259636310996 : True := trivial
theorem Mine.One.hd.tw5217499543308690871 : True := trivial
theorem Mine.One.hd.tw17547350302823522447 : True := trivial
theorem Mine.One.hd.tw809481261973162503 : True := trivial
theorem Mine.One.hd.tw17195228694008747519 : True := trivial
theorem Mine.One.hd.tw11733542890000961590 : True := trivial
theorem Mine.One.hd.tw14274540991870846443 : True := trivial
theorem Mine.One.hd.tw5635310949801509149 : True := trivial
theorem Mine.One.hd.tw5337957175025211939 : True := trivial
theorem Mine.One.hd.tw6603767868562175037 : True := trivial
theorem Mine.One.hd.tw18363044688289353486 : True := trivial
theorem Mine.One.hd.tw8600293134522980123 : True := trivial
theorem Mine.One.hd.tw6802065267026681804 : True := trivial
theorem Mine.One.hd.tw8370850667173912160 : True := trivial
theorem Mine.One.hd.tw12976056031990604894 : True := trivial
theorem Mine.One.hd.tw11119441117481767930 : True := trivial
theorem Mine.One.hd.tw4574199619335101169 : True := trivial
theorem Mine.One.hd.tw14185509437851710423 : True := trivial
theorem Mine.One.hd.tw3652362836275004476 : True := trivial
theorem Mine.One.hd.tw8326784543583267960 : True := trivial
theorem Mine.One.hd.tw14282824397994462498 : True := trivial
theorem Mine.One.hd.tw1141147348039216837 : True := trivial
theorem Mine.One.hd.tw14248438618715850494 : True := trivial
theorem Mine.One.hd.tw2241095845905131737 : True := trivial
theorem Mine.One.hd.tw25907110858373415 : True := trivial
theorem Mine.One.hd.tw150440395831480561 : True := trivial
theorem Mine.One.hd.tw13025606896846493872 : True := trivial
theorem Mine.One.hd.tw17606449342387006844 : True := trivial
theorem Mine.One.hd.tw6469878094683107415 : True := trivial
theorem Mine.One.hd.tw12948351667529049553 : True := trivial
theorem Mine.One.hd.tw13267138222819847566 : True := trivial
theorem Mine.One.hd.tw13970889629151777311 : True := trivial
theorem Mine.One.hd.tw8310317850793054730 : True := trivial
theorem Mine.One.hd.tw5145252423166491592 : True := trivial
theorem Mine.One.hd.tw5766066148230025476 : True := trivial
theorem Mine.One.hd.tw16026102036724956875 : True := trivial
theorem Mine.One.hd.tw2454638232033694657 : True := trivial
theorem Mine.One.hd.tw3532085832306209608 : True := trivial
theorem Mine.One.hd.tw18105488156132669209 : True := trivial
theorem Mine.One.hd.tw2462494888405952536 : True := trivial
theorem Mine.One.hd.tw8606024896343354253 : True := trivial
theorem Mine.One.hd.tw12506175760346197902 : True := trivial
theorem Mine.One.hd.tw6742683743246306420 : True := trivial
theorem Mine.One.hd.tw9924033406892185358 : True := trivial
theorem Mine.One.hd.tw3423932770538770273 : True := trivial
theorem Mine.One.hd.tw9936384938506694213 : True := trivial
theorem Mine.One.hd.tw11708026605138135982 : True := trivial
theorem Mine.One.hd.tw14857398024901264443 : True := trivial
theorem Mine.One.hd.tw3307149866363426625 : True := trivial
theorem Mine.One.hd.tw9561217538277842902 : True := trivial
theorem Mine.One.hd.tw16458050200563926416 : True := trivial
theorem Mine.One.hd.tw14421439455438217518 : True := trivial
theorem Mine.One.hd.tw4114168128209104765 : True := trivial
theorem Mine.One.hd.tw14184849584881825808 : True := trivial
theorem Mine.One.hd.tw17995106325780817531 : True := trivial
theorem Mine.One.hd.tw12160149001099834423 : True := trivial
theorem Mine.One.hd.tw428098489856952401 : True := trivial
theorem Mine.One.hd.tw17440117686176081491 : True := trivial
theorem Mine.One.hd.tw8873847923230922883 : True := trivial
theorem Mine.One.hd.tw9090149777375528803 : True := trivial
theorem Mine.One.hd.tw14519975932497198313 : True := trivial
theorem Mine.One.hd.tw45864414195730923 : True := trivial
theorem Mine.One.hd.tw13451590963042575144 : True := trivial
theorem Mine.One.hd.tw7400549841229555638 : True := trivial
theorem Mine.One.hd.tw13352742950799641563 : True := trivial
theorem Mine.One.hd.tw655454722920390780 : True := trivial
theorem Mine.One.hd.tw10723340520244419540 : True := trivial
theorem Mine.One.hd.tw7539876777076090724 : True := trivial
theorem Mine.One.hd.tw8149839981840581188 : True := trivial
theorem Mine.One.hd.tw8378547423997166824 : True := trivial
theorem Mine.One.hd.tw817552500148655516 : True := trivial
theorem Mine.One.hd.tw8414347139203295760 : True := trivial
theorem Mine.One.hd.tw1493343441992198952 : True := trivial
theorem Mine.One.hd.tw16378742053643765541 : True := trivial
theorem Mine.One.hd.tw1910769214973111686 : True := trivial
theorem Mine.One.hd.tw9684002196966527354 : True := trivial
theorem Mine.One.hd.tw15184651707091539593 : True := trivial
theorem Mine.One.hd.tw7104656321171969485 : True := trivial
theorem Mine.One.hd.tw5979124009861243123 : True := trivial
theorem Mine.One.hd.tw1951935386733805520 : True := trivial
theorem Mine.One.hd.tw5830949148683135671 : True := trivial
theorem Mine.One.hd.tw13247950248572220476 : True := trivial
theorem Mine.One.hd.tw6218346934884649084 : True := trivial
theorem Mine.One.hd.tw9678611362014826091 : True := trivial
theorem Mine.One.hd.tw16671664123750633602 : True := trivial
theorem Mine.One.hd.tw3675296957236829314 : True := trivial
theorem Mine.One.hd.tw8055671412630145522 : True := trivial
theorem Mine.One.hd.tw12089255233392035744 : True := trivial
theorem Mine.One.hd.tw15201208083042549940 : True := trivial
theorem Mine.One.hd.tw15137555328213419014 : True := trivial
theorem Mine.One.hd.tw15015194584461773088 : True := trivial
theorem Mine.One.hd.tw15235918917767634712 : True := trivial
theorem Mine.One.hd.tw482721862894194151 : True := trivial
theorem Mine.One.hd.tw17529162273301572394 : True := trivial
theorem Mine.One.hd.tw3271198456176404456 : True := trivial
theorem Mine.One.hd.tw1504094477257679210 : True := trivial
theorem Mine.One.hd.tw14973205625557851123 : True := trivial
theorem Mine.One.hd.tw10372683253788130065 : True := trivial
theorem Mine.One.hd.tw12988469385709622026 : True := trivial
theorem Mine.One.hd.tw4983113890972113138 : True := trivial
theorem Mine.One.hd.tw13363857531342475237 : True := trivial
theorem Mine.One.hd.tw17286631906899582274 : True := trivial
theorem Mine.One.hd.tw9230415679926150850 : True := trivial
theorem Mine.One.hd.tw9033193266750409352 : True := trivial
theorem Mine.One.hd.tw2925705571867047491 : True := trivial
theorem Mine.One.hd.tw8606518594240598874 : True := trivial
theorem Mine.One.hd.tw4042443708530699066 : True := trivial
theorem Mine.One.hd.tw16489989526480764259 : True := trivial
theorem Mine.One.hd.tw6823927058628637307 : True := trivial
theorem Mine.One.hd.tw17301276215509489130 : True := trivial
theorem Mine.One.hd.tw4080801565525199177 : True := trivial
theorem Mine.One.hd.tw12745590596584265299 : True := trivial
theorem Mine.One.hd.tw15548040451588590117 : True := trivial
theorem Mine.One.hd.tw6186538383546672760 : True := trivial
theorem Mine.One.hd.tw1375479604211435822 : True := trivial
theorem Mine.One.hd.tw13720699990786327997 : True := trivial
theorem Mine.One.hd.tw14406289086089247851 : True := trivial
theorem Mine.One.hd.tw13347228802750471052 : True := trivial
theorem Mine.One.hd.tw13079212121713756989 : True := trivial
theorem Mine.One.hd.tw14659266148249872855 : True := trivial
theorem Mine.One.hd.tw5636845510953177466 : True := trivial
theorem Mine.One.hd.tw2908768957808563865 : True := trivial
theorem Mine.One.hd.tw17658637137967950249 : True := trivial
theorem Mine.One.hd.tw13146129658003750952 : True := trivial
theorem Mine.One.hd.tw11925676029791763955 : True := trivial
theorem Mine.One.hd.tw13735786353207815368 : True := trivial
theorem Mine.One.hd.tw17275104927408808435 : True := trivial
theorem Mine.One.hd.tw2849336277386512445 : True := trivial
theorem Mine.One.hd.tw3948606027052116559 : True := trivial
theorem Mine.One.hd.tw16900261337527954737 : True := trivial
theorem Mine.One.hd.tw17912008218615641973 : True := trivial
theorem Mine.One.hd.tw16207581923850567176 : True := trivial
theorem Mine.One.hd.tw1141422526612430783 : True := trivial
theorem Mine.One.hd.tw18394644061432425614 : True := trivial
theorem Mine.One.hd.tw9260390690133247353 : True := trivial
theorem Mine.One.hd.tw13710352108344616911 : True := trivial
theorem Mine.One.hd.tw16604917322846724158 : True := trivial
theorem Mine.One.hd.tw11998853609257424034 : True := trivial
theorem Mine.One.hd.tw4402983899258901648 : True := trivial
theorem Mine.One.hd.tw2504816687917668181 : True := trivial
theorem Mine.One.hd.tw291712247374037119 : True := trivial
theorem Mine.One.hd.tw2233719120385662675 : True := trivial
theorem Mine.One.hd.tw17852585503186025764 : True := trivial
theorem Mine.One.hd.tw4378016312336537695 : True := trivial
theorem Mine.One.hd.tw4136995779634851840 : True := trivial
theorem Mine.One.hd.tw17880057919598559111 : True := trivial
theorem Mine.One.hd.tw12022648057846107044 : True := trivial
theorem Mine.One.hd.tw10227730687511910843 : True := trivial
theorem Mine.One.hd.tw9817720659761527179 : True := trivial
theorem Mine.One.hd.tw12247444008188560954 : True := trivial
theorem Mine.One.hd.tw11238827982093516614 : True := trivial
theorem Mine.One.hd.tw11234246799509834862 : True := trivial
theorem Mine.One.hd.tw7492481756699056465 : True := trivial
theorem Mine.One.hd.tw6599440033729891429 : True := trivial
theorem Mine.One.hd.tw4314032149621011964 : True := trivial
theorem Mine.One.hd.tw2995769972201886642 : True := trivial
theorem Mine.One.hd.tw11881372821498940644 : True := trivial
theorem Mine.One.hd.tw2049305743442280513 : True := trivial
theorem Mine.One.hd.tw4384944230551295969 : True := trivial
theorem Mine.One.hd.tw17714052972542887744 : True := trivial
theorem Mine.One.hd.tw7751518150560565727 : True := trivial
theorem Mine.One.hd.tw4314195561416374806 : True := trivial
theorem Mine.One.hd.tw696515163225670674 : True := trivial
theorem Mine.One.hd.tw7591360640919791918 : True := trivial
theorem Mine.One.hd.tw651783935594198309 : True := trivial
theorem Mine.One.hd.tw2258585239398146066 : True := trivial
theorem Mine.One.hd.tw17212028940510157492 : True := trivial
theorem Mine.One.hd.tw18235847600356426861 : True := trivial
theorem Mine.One.hd.tw15422542221713136916 : True := trivial
theorem Mine.One.hd.tw6750254395496699346 : True := trivial
theorem Mine.One.hd.tw10006840902403350530 : True := trivial
theorem Mine.One.hd.tw9438094084954339627 : True := trivial
theorem Mine.One.hd.tw490236095284810113 : True := trivial
theorem Mine.One.hd.tw11939194298508361975 : True := trivial
theorem Mine.One.hd.tw1072225811748124547 : True := trivial
theorem Mine.One.hd.tw9457725716738338689 : True := trivial
theorem Mine.One.hd.tw16973800456672578864 : True := trivial
theorem Mine.One.hd.tw16097094903211778635 : True := trivial
theorem Mine.One.hd.tw16964321241945574569 : True := trivial
theorem Mine.One.hd.tw8819416291560881989 : True := trivial
theorem Mine.One.hd.tw16366997404660015464 : True := trivial
theorem Mine.One.hd.tw1865739521607542461 : True := trivial
theorem Mine.One.hd.tw16209844532042314564 : True := trivial
theorem Mine.One.hd.tw12425103784251071075 : True := trivial
theorem Mine.One.hd.tw16882600060630713177 : True := trivial
theorem Mine.One.hd.tw1759197362348744482 : True := trivial
theorem Mine.One.hd.tw13503408430466529962 : True := trivial
theorem Mine.One.hd.tw14670315141832612037 : True := trivial
theorem Mine.One.hd.tw12725184408488454694 : True := trivial
theorem Mine.One.hd.tw18333949902843233211 : True := trivial
theorem Mine.One.hd.tw16184894231406765212 : True := trivial
theorem Mine.One.hd.tw6578064979583658956 : True := trivial
theorem Mine.One.hd.tw13902825011731624753 : True := trivial
theorem Mine.One.hd.tw3201548432510161492 : True := trivial
theorem Mine.One.hd.tw17181408841345705650 : True := trivial
theorem Mine.One.hd.tw3590923336176223189 : True := trivial
theorem Mine.One.hd.tw4270979783212021488 : True := trivial
theorem Mine.One.hd.tw3799651480754654540 : True := trivial
theorem Mine.One.hd.tw4084587697406601343 : True := trivial
theorem Mine.One.hd.tw6461272586946543785 : True := trivial
theorem Mine.One.hd.tw10833236521045699878 : True := trivial
theorem Mine.One.hd.tw7952468947838702847 : True := trivial
theorem Mine.One.hd.tw15060076979555465015 : True := trivial
theorem Mine.One.hd.tw14867518684830657270 : True := trivial
theorem Mine.One.hd.tw9022091498413220711 : True := trivial
theorem Mine.One.hd.tw12477253925587307643 : True := trivial
theorem Mine.One.hd.tw236075092705628731 : True := trivial
theorem Mine.One.hd.tw15140380978596803600 : True := trivial
theorem Mine.One.hd.tw10686007026454237133 : True := trivial
theorem Mine.One.hd.tw11391161700805946524 : True := trivial
theorem Mine.One.hd.tw10170757574655642608 : True := trivial
theorem Mine.One.hd.tw3407708947284412282 : True := trivial
theorem Mine.One.hd.tw9898376016436017760 : True := trivial
theorem Mine.One.hd.tw7832692938573617635 : True := trivial
theorem Mine.One.hd.tw16312716945353492097 : True := trivial
theorem Mine.One.hd.tw15818787988720118034 : True := trivial
theorem Mine.One.hd.tw5001101575405038739 : True := trivial
theorem Mine.One.hd.tw16351177185360644681 : True := trivial
theorem Mine.One.hd.tw11038212456688654773 : True := trivial
theorem Mine.One.hd.tw18197158724582866827 : True := trivial
theorem Mine.One.hd.tw18396787973090050870 : True := trivial
theorem Mine.One.hd.tw17782734251871380758 : True := trivial
theorem Mine.One.hd.tw15611314495321173446 : True := trivial
theorem Mine.One.hd.tw10356621363148546783 : True := trivial
theorem Mine.One.hd.tw13052860065436557080 : True := trivial
theorem Mine.One.hd.tw11220057649132499796 : True := trivial
theorem Mine.One.hd.tw15917513455778984217 : True := trivial
theorem Mine.One.hd.tw13488461114393409722 : True := trivial
theorem Mine.One.hd.tw13514766074402320219 : True := trivial
theorem Mine.One.hd.tw14502859056407279943 : True := trivial
theorem Mine.One.hd.tw13539858678773550131 : True := trivial
theorem Mine.One.hd.tw18168603690734593062 : True := trivial
theorem Mine.One.hd.tw14750936681518128147 : True := trivial
theorem Mine.One.hd.tw7927217458106862700 : True := trivial
theorem Mine.One.hd.tw7640808801097781912 : True := trivial
theorem Mine.One.hd.tw11038622508032769983 : True := trivial
theorem Mine.One.hd.tw8474714775645003309 : True := trivial
theorem Mine.One.hd.tw16521222430290902413 : True := trivial
theorem Mine.One.hd.tw13126071766043960627 : True := trivial
theorem Mine.One.hd.tw4963463787166481914 : True := trivial
theorem Mine.One.hd.tw17023564134217449117 : True := trivial
theorem Mine.One.hd.tw5080548777221922269 : True := trivial
theorem Mine.One.hd.tw3880869272091855661 : True := trivial
theorem Mine.One.hd.tw8065106722038310981 : True := trivial
theorem Mine.One.hd.tw15258028394175170149 : True := trivial
theorem Mine.One.hd.tw16929576212674746714 : True := trivial
theorem Mine.One.hd.tw12047152279388060781 : True := trivial
theorem Mine.One.hd.tw14204604534293116784 : True := trivial
theorem Mine.One.hd.tw5616687893970932393 : True := trivial
theorem Mine.One.hd.tw6709438757801875450 : True := trivial
theorem Mine.One.hd.tw35579902743039876 : True := trivial
theorem Mine.One.hd.tw117979990451524087 : True := trivial
theorem Mine.One.hd.tw17602596858971997108 : True := trivial
theorem Mine.One.hd.tw614366822121747510 : True := trivial
theorem Mine.law_holds.tw4503035019201841076 : True := trivial
theorem Mine.law_holds.tw11846676642670509255 : True := trivial
theorem Mine.law_holds.tw1414043511812021011 : True := trivial
theorem Mine.law_holds.tw8720880381367431298 : True := trivial
theorem Mine.law_holds.tw6860709855171689206 : True := trivial
theorem Mine.law_holds.tw9288214680346807717 : True := trivial
theorem Mine.law_holds.tw10028117763298573888 : True := trivial
theorem Mine.law_holds.tw16805829885119392726 : True := trivial
theorem Mine.law_holds.tw3035144380315620824 : True := trivial
theorem Mine.law_holds.tw4992725456586698614 : True := trivial
theorem Mine.law_holds.tw8509993157628066667 : True := trivial
theorem Mine.law_holds.tw7696488724909661519 : True := trivial
theorem Mine.law_holds.tw11097350217990362986 : True := trivial
theorem Mine.law_holds.tw2503670479209048990 : True := trivial
theorem Mine.law_holds.tw18326849912455186884 : True := trivial
theorem Mine.law_holds.tw3253568177066640346 : True := trivial
theorem Mine.law_holds.tw16893121556090616931 : True := trivial
theorem Mine.law_holds.tw10007947361888340627 : True := trivial
theorem Mine.law_holds.tw3756308257209627903 : True := trivial
theorem Mine.law_holds.tw18261290160731607033 : True := trivial
theorem Mine.law_holds.tw2907507879108658156 : True := trivial
theorem Mine.law_holds.tw12134408205421670959 : True := trivial
theorem Mine.law_holds.tw11633083819707477107 : True := trivial
theorem Mine.law_holds.tw1341266762083198811 : True := trivial
theorem Mine.law_holds.tw12459966957829302596 : True := trivial
theorem Mine.law_holds.tw17993387198741990920 : True := trivial
theorem Mine.law_holds.tw12889056044993165476 : True := trivial
theorem Mine.law_holds.tw5506821171919863439 : True := trivial
theorem Mine.law_holds.tw13397297893571687751 : True := trivial
theorem Mine.law_holds.tw11484002064277903863 : True := trivial
theorem Mine.law_holds.tw14774650325386425613 : True := trivial
theorem Mine.law_holds.tw2269544990204364226 : True := trivial
theorem Mine.law_holds.tw179590077315354965 : True := trivial
theorem Mine.law_holds.tw15472126771306010800 : True := trivial
theorem Mine.law_holds.tw3850334171643177529 : True := trivial
theorem Mine.law_holds.tw15609566024721092083 : True := trivial
theorem Mine.law_holds.tw9606376775287448836 : True := trivial
theorem Mine.law_holds.tw3186734533307500241 : True := trivial
theorem Mine.law_holds.tw12116493165278983582 : True := trivial
theorem Mine.law_holds.tw1385162719727133579 : True := trivial
theorem Mine.law_holds.tw14326059299131336239 : True := trivial
theorem Mine.law_holds.tw16461882675039125421 : True := trivial
theorem Mine.law_holds.tw907578622648922086 : True := trivial
theorem Mine.law_holds.tw15661869461025623997 : True := trivial
theorem Mine.law_holds.tw2152083551845799040 : True := trivial
theorem Mine.law_holds.tw18090433342136740992 : True := trivial
theorem Mine.law_holds.tw3776956092104397036 : True := trivial
theorem Mine.law_holds.tw15150646450996357022 : True := trivial
theorem Mine.law_holds.tw4581845663705801772 : True := trivial
theorem Mine.law_holds.tw9423440377400516374 : True := trivial
theorem Mine.law_holds.tw10829313771624777081 : True := trivial
theorem Mine.law_holds.tw14524495575359082726 : True := trivial
theorem Mine.law_holds.tw14822640431511872941 : True := trivial
theorem Mine.law_holds.tw8266603773606604290 : True := trivial
theorem Mine.law_holds.tw3438298445031660282 : True := trivial
theorem Mine.law_holds.tw14925382992726071281 : True := trivial
theorem Mine.law_holds.tw1905533677188600702 : True := trivial
theorem Mine.law_holds.tw6507877686720480950 : True := trivial
theorem Mine.law_holds.tw4370086069003782432 : True := trivial
theorem Mine.law_holds.tw4329158554759489670 : True := trivial
theorem Mine.law_holds.tw1762888911704233025 : True := trivial
theorem Mine.law_holds.tw16470317323979864763 : True := trivial
theorem Mine.law_holds.tw2618386414584295968 : True := trivial
theorem Mine.law_holds.tw5389484754426515990 : True := trivial
theorem Mine.law_holds.tw8249079356659094474 : True := trivial
theorem Mine.law_holds.tw4889031023730116350 : True := trivial
theorem Mine.law_holds.tw13766487248619392586 : True := trivial
theorem Mine.law_holds.tw17253691774821329096 : True := trivial
theorem Mine.law_holds.tw8857742495270377987 : True := trivial
theorem Mine.law_holds.tw1928719863018725356 : True := trivial
theorem Mine.law_holds.tw10666784280354678857 : True := trivial
theorem Mine.law_holds.tw2006301483956418059 : True := trivial
theorem Mine.law_holds.tw3850375180904979519 : True := trivial
theorem Mine.law_holds.tw2075624079617657780 : True := trivial
theorem Mine.law_holds.tw9875236377963488844 : True := trivial
theorem Mine.law_holds.tw10371022188087798493 : True := trivial
theorem Mine.law_holds.tw10958410103948607464 : True := trivial
theorem Mine.law_holds.tw11677100312832694166 : True := trivial
theorem Mine.law_holds.tw3366817510852727610 : True := trivial
theorem Mine.law_holds.tw545109181885906688 : True := trivial
theorem Mine.law_holds.tw676263390381983339 : True := trivial
theorem Mine.law_holds.tw9779807473162285230 : True := trivial
theorem Mine.law_holds.tw13182730311906835528 : True := trivial
theorem Mine.law_holds.tw784011647948385275 : True := trivial
theorem Mine.law_holds.tw11625900857008200698 : True := trivial
theorem Mine.law_holds.tw602461330855297101 : True := trivial
theorem Mine.law_holds.tw4037582482628031876 : True := trivial
theorem Mine.law_holds.tw15274831704391544125 : True := trivial
theorem Mine.law_holds.tw7120836010843673076 : True := trivial
theorem Mine.law_holds.tw699380112222796084 : True := trivial
theorem Mine.law_holds.tw13800757232730249582 : True := trivial
theorem Mine.law_holds.tw17255088995462705879 : True := trivial
theorem Mine.law_holds.tw1689763614830377041 : True := trivial
theorem Mine.law_holds.tw3253820488102484341 : True := trivial
theorem Mine.law_holds.tw575232530192455986 : True := trivial
theorem Mine.law_holds.tw7910590604623066228 : True := trivial
theorem Mine.law_holds.tw3943428198234077543 : True := trivial
theorem Mine.law_holds.tw3426384778480675251 : True := trivial
theorem Mine.law_holds.tw10566571302883470556 : True := trivial
theorem Mine.law_holds.tw15759456685926392790 : True := trivial
theorem Mine.law_holds.tw10817052189556005596 : True := trivial
theorem Mine.law_holds.tw14983226153234331074 : True := trivial
theorem Mine.law_holds.tw13280740594461564331 : True := trivial
theorem Mine.law_holds.tw13392613628428298086 : True := trivial
theorem Mine.law_holds.tw15014403891855920072 : True := trivial
theorem Mine.law_holds.tw6564709946809587534 : True := trivial
theorem Mine.law_holds.tw17180001009569633970 : True := trivial
theorem Mine.law_holds.tw10024239376800412576 : True := trivial
theorem Mine.law_holds.tw15607887362523206001 : True := trivial
theorem Mine.law_holds.tw7408322871517469003 : True := trivial
theorem Mine.law_holds.tw8970147916757833333 : True := trivial
theorem Mine.law_holds.tw11781800970755023335 : True := trivial
theorem Mine.law_holds.tw519298541982818421 : True := trivial
theorem Mine.law_holds.tw16406091861079842607 : True := trivial
theorem Mine.law_holds.tw17253903310271361901 : True := trivial
theorem Mine.law_holds.tw14498155544194170393 : True := trivial
theorem Mine.law_holds.tw13478230802861573701 : True := trivial
theorem Mine.law_holds.tw12889673554181485818 : True := trivial
theorem Mine.law_holds.tw2578278018795888234 : True := trivial
theorem Mine.law_holds.tw10188763426450519768 : True := trivial
theorem Mine.law_holds.tw1240693151401041967 : True := trivial
theorem Mine.law_holds.tw14571795756577361901 : True := trivial
theorem Mine.law_holds.tw9843604407834444796 : True := trivial
theorem Mine.law_holds.tw14289194402921355359 : True := trivial
theorem Mine.law_holds.tw1377309892636839040 : True := trivial
theorem Mine.law_holds.tw4818577856007422655 : True := trivial
theorem Mine.law_holds.tw8909828626151137519 : True := trivial
theorem Mine.law_holds.tw16273140198857503625 : True := trivial
theorem Mine.law_holds.tw18254337876149969668 : True := trivial
theorem Mine.law_holds.tw4593294709026258786 : True := trivial
theorem Mine.law_holds.tw653560878884961445 : True := trivial
theorem Mine.law_holds.tw4916342969005030805 : True := trivial
theorem Mine.law_holds.tw14988988175077273356 : True := trivial
theorem Mine.law_holds.tw11182679623053108816 : True := trivial
theorem Mine.law_holds.tw2143268655074302082 : True := trivial
theorem Mine.law_holds.tw5112083995522966620 : True := trivial
theorem Mine.law_holds.tw3910120701321347557 : True := trivial
theorem Mine.law_holds.tw13028658284911697911 : True := trivial
theorem Mine.law_holds.tw14883556706271630602 : True := trivial
theorem Mine.law_holds.tw12831907817818079685 : True := trivial
theorem Mine.law_holds.tw718173064312146323 : True := trivial
theorem Mine.law_holds.tw10486713781251687710 : True := trivial
theorem Mine.law_holds.tw4614512636035447770 : True := trivial
theorem Mine.law_holds.tw8634839017697508684 : True := trivial
theorem Mine.law_holds.tw9529696498207198238 : True := trivial
theorem Mine.law_holds.tw1832781179975386347 : True := trivial
theorem Mine.law_holds.tw3850404396616230974 : True := trivial
theorem Mine.law_holds.tw8835965917227929528 : True := trivial
theorem Mine.law_holds.tw7356724547972884604 : True := trivial
theorem Mine.law_holds.tw2136269947727277649 : True := trivial
theorem Mine.law_holds.tw8666519363043736892 : True := trivial
theorem Mine.law_holds.tw14385925486924208373 : True := trivial
theorem Mine.law_holds.tw6861490101519172755 : True := trivial
theorem Mine.law_holds.tw10052312794428304363 : True := trivial
theorem Mine.law_holds.tw8191475993861738794 : True := trivial
theorem Mine.law_holds.tw13154458805202713791 : True := trivial
theorem Mine.law_holds.tw6572314629012105047 : True := trivial
theorem Mine.law_holds.tw18234560199702728603 : True := trivial
theorem Mine.law_holds.tw3882201998751590657 : True := trivial
theorem Mine.law_holds.tw8854015012368427407 : True := trivial
theorem Mine.law_holds.tw11223184984439025696 : True := trivial
theorem Mine.law_holds.tw15617896438947887921 : True := trivial
theorem Mine.law_holds.tw4136765680202085937 : True := trivial
theorem Mine.law_holds.tw8984712037535005518 : True := trivial
theorem Mine.law_holds.tw2558664710541493025 : True := trivial
theorem Mine.law_holds.tw8652346329174877282 : True := trivial
theorem Mine.law_holds.tw1622690429015379626 : True := trivial
theorem Mine.law_holds.tw7304591109411159013 : True := trivial
theorem Mine.law_holds.tw14904137174637212347 : True := trivial
theorem Mine.law_holds.tw10841264019214440115 : True := trivial
theorem Mine.law_holds.tw6776455111828631412 : True := trivial
theorem Mine.law_holds.tw2643271747718453845 : True := trivial
theorem Mine.law_holds.tw5212653520564569363 : True := trivial
theorem Mine.law_holds.tw5001472149940979511 : True := trivial
theorem Mine.law_holds.tw7421483335098213213 : True := trivial
theorem Mine.law_holds.tw5731563423909890137 : True := trivial
theorem Mine.law_holds.tw4439653461905209652 : True := trivial
theorem Mine.law_holds.tw123295346585929383 : True := trivial
theorem Mine.law_holds.tw10609929442622069884 : True := trivial
theorem Mine.law_holds.tw6709271908398517637 : True := trivial
theorem Mine.law_holds.tw2043166853727251185 : True := trivial
theorem Mine.law_holds.tw15191720212996534143 : True := trivial
theorem Mine.law_holds.tw2644310842459337959 : True := trivial
theorem Mine.law_holds.tw13402424001964919149 : True := trivial
theorem Mine.law_holds.tw5640673133297012132 : True := trivial
theorem Mine.law_holds.tw14828999820898988419 : True := trivial
theorem Mine.law_holds.tw8549365171731915398 : True := trivial
theorem Mine.law_holds.tw498061464947678834 : True := trivial
theorem Mine.law_holds.tw10465528174321978529 : True := trivial
theorem Mine.law_holds.tw15352839923633478061 : True := trivial
theorem Mine.law_holds.tw9992725586745946429 : True := trivial
theorem Mine.law_holds.tw445335354869643106 : True := trivial
theorem Mine.law_holds.tw4781243967656130014 : True := trivial
theorem Mine.law_holds.tw14991590004735058009 : True := trivial
theorem Mine.law_holds.tw14997073306097389879 : True := trivial
theorem Mine.law_holds.tw3912811242725288453 : True := trivial
theorem Mine.law_holds.tw16098122237329998606 : True := trivial
theorem Mine.law_holds.tw15694993059591697976 : True := trivial
theorem Mine.law_holds.tw8330938851228082562 : True := trivial
theorem Mine.law_holds.tw5062152199769849712 : True := trivial
theorem Mine.law_holds.tw2322801206320994539 : True := trivial
theorem Mine.law_holds.tw5245404293758964705 : True := trivial
theorem Mine.law_holds.tw14335913921861858828 : True := trivial
theorem Mine.law_holds.tw8176227357466254829 : True := trivial
theorem Mine.law_holds.tw11841787010450559717 : True := trivial
theorem Mine.law_holds.tw11609493526922420660 : True := trivial
theorem Mine.law_holds.tw11924911360389889469 : True := trivial
theorem Mine.law_holds.tw16836969012518115619 : True := trivial
theorem Mine.law_holds.tw12476058986133298565 : True := trivial
theorem Mine.law_holds.tw9682718004065560343 : True := trivial
theorem Mine.law_holds.tw11098625913536864229 : True := trivial
theorem Mine.law_holds.tw6317479115527610633 : True := trivial
theorem Mine.law_holds.tw15802469936163623734 : True := trivial
theorem Mine.law_holds.tw8785698371604719795 : True := trivial
theorem Mine.law_holds.tw1186782194237197914 : True := trivial
theorem Mine.law_holds.tw1989176631692091739 : True := trivial
theorem Mine.law_holds.tw15527639110640922598 : True := trivial
theorem Mine.law_holds.tw8553002610548859549 : True := trivial
theorem Mine.law_holds.tw9552830710289189752 : True := trivial
theorem Mine.law_holds.tw4464252984393422682 : True := trivial
theorem Mine.law_holds.tw11764581739189218997 : True := trivial
theorem Mine.law_holds.tw4273555757443719353 : True := trivial
theorem Mine.law_holds.tw6934448944433832347 : True := trivial
theorem Mine.law_holds.tw1285599515219305098 : True := trivial
theorem Mine.law_holds.tw7820799176418779761 : True := trivial
theorem Mine.law_holds.tw13780023080261437657 : True := trivial
theorem Mine.law_holds.tw3956099054510807996 : True := trivial
theorem Mine.law_holds.tw6629495429873386292 : True := trivial
theorem Mine.law_holds.tw6765152471904792315 : True := trivial
theorem Mine.law_holds.tw576407869801174206 : True := trivial
theorem Mine.law_holds.tw13709617746848070560 : True := trivial
theorem Mine.law_holds.tw7407239408455114201 : True := trivial
theorem Mine.law_holds.tw15806970514647361693 : True := trivial
theorem Mine.law_holds.tw16099233806120587224 : True := trivial
theorem Mine.law_holds.tw17942709131360195518 : True := trivial
theorem Mine.law_holds.tw12223724995276690173 : True := trivial
theorem Mine.law_holds.tw12732824653754844360 : True := trivial
theorem Mine.law_holds.tw7497986649931050792 : True := trivial
theorem Mine.law_holds.tw9069877914133315304 : True := trivial
theorem Mine.law_holds.tw302768837105346163 : True := trivial
theorem Mine.law_holds.tw2295933128562542503 : True := trivial
theorem Mine.law_holds.tw9255152265573255198 : True := trivial
theorem Mine.law_holds.tw15544829507116839252 : True := trivial
theorem Mine.law_holds.tw12835091436910803158 : True := trivial
theorem Mine.law_holds.tw12115171985352901274 : True := trivial
theorem Mine.law_holds.tw7019463264422422977 : True := trivial
theorem Mine.law_holds.tw14390768473861134807 : True := trivial
theorem Mine.law_holds.tw13882729330811710610 : True := trivial
theorem Mine.law_holds.tw4030767218360268280 : True := trivial
theorem Mine.law_holds.tw11347954631545130290 : True := trivial
theorem Mine.law_holds.tw2387193687640843687 : True := trivial
theorem Mine.law_holds.tw8011658773829754393 : True := trivial
theorem Mine.law_holds.tw6723812968561706957 : True := trivial
theorem Mine.law_holds.tw11803358882649189518 : True := trivial
theorem Mine.law_holds.tw7636989558263936852 : True := trivial
namespace Mine

-- the part pure
/-! texts as lists of signs -/
/-- the text of a list of signs -/
noncomputable def tx (l : List Nat) : PySem.Str := ⟨l.toArray⟩
theorem tx_cps (l : List Nat) : (tx l).cps.toList = l := rfl
theorem tx_len (l : List Nat) : (tx l).length = l.length := List.size_toArray ..
theorem tx_inj {a b : List Nat} : tx a = tx b ↔ a = b := ⟨fun h => by have := congrArg (fun s : PySem.Str => s.cps.toList) h; exact this, fun h => by rw [h]⟩
theorem tx_append (a b : List Nat) : tx a ++ tx b = tx (a ++ b) := by
  apply Str.ext'
  rw [Str.cps_append]
  simp [tx]
theorem tx_beq (a b : List Nat) : (tx a == tx b) = decide (a = b) := by
  by_cases h : a = b
  · subst h; simp
  · rw [decide_eq_false h]; exact beq_eq_false_iff_ne.mpr fun q => h (tx_inj.mp q)
/-- in text T, at place i, what is left is R -/
noncomputable def At (T : PySem.Str) (i : Int) (R : List Nat) : Prop := ∃ P : List Nat, T = tx (P ++ R) ∧ i = (P.length : Int)
theorem At.nonneg {T : PySem.Str} {i : Int} {R : List Nat} (h : At T i R) : 0 ≤ i := by obtain ⟨P, _, rfl⟩ := h; omega
theorem At.len {T : PySem.Str} {i : Int} {R : List Nat} (h : At T i R) : i + (R.length : Int) = (T.length : Int) := by
  obtain ⟨P, rfl, rfl⟩ := h
  rw [tx_len, List.length_append]; omega
theorem At.next {T : PySem.Str} {i : Int} {c : Nat} {R : List Nat} (h : At T i (c :: R)) : At T (i + 1) R := by
  obtain ⟨P, rfl, rfl⟩ := h
  exact ⟨P ++ [c], by simp, by simp⟩
theorem At.skip {T : PySem.Str} {i : Int} (A : List Nat) {R : List Nat} (h : At T i (A ++ R)) : At T (i + (A.length : Int)) R := by
  obtain ⟨P, rfl, rfl⟩ := h
  exact ⟨P ++ A, by simp, by simp⟩
theorem At.start (l : List Nat) : At (tx l) 0 l := ⟨[], rfl, rfl⟩
theorem At.item {T : PySem.Str} {i : Int} {c : Nat} {R : List Nat} (h : At T i (c :: R)) : Txt.item T i = tx [c] := by
  have h0 := h.nonneg
  obtain ⟨P, rfl, rfl⟩ := h
  exact PyProof.Rows.item_meets (by omega) (by simp [tx])
theorem indices_clip {n : Nat} {i j : Int} (h : (n : Int) ≤ j) : Builtin.Str.strSliceIndices (some i) (some j) 1 n = Builtin.Str.strSliceIndices (some i) none 1 n := by
  have h0 : ¬ j < 0 := by omega
  simp only [Builtin.Str.strSliceIndices, h0, if_false, show (1 : Int) > 0 by decide, if_true, Int.min_eq_right h]
  congr 1
theorem At.slice {T : PySem.Str} {i j : Int} {R : List Nat} (h : At T i R) (hj : i ≤ j) : Txt.slice T (some i) (some j) = tx (R.take (j - i).toNat) := by
  have h0 := h.nonneg
  have hl := h.len
  have hd : T.cps.toList.drop i.toNat = R := by
    obtain ⟨P, rfl, rfl⟩ := h
    simp [tx]
  have hL : T.cps.toList.length = T.length := by rw [Array.length_toList]; rfl
  by_cases q : j ≤ (T.length : Int)
  · have e := beq_iff_eq.mp (slice_closes (x := T) (i := i) (j := j) ⟨h0, hj, by rw [hL]; exact q⟩)
    rw [e, hd]; rfl
  · have e : Txt.slice T (some i) (some j) = Txt.slice T (some i) none := by
      unfold Txt.slice
      rw [indices_clip (by omega)]
    rw [e, slice_from_eq (b := (T.length : Int)) h0 (by omega) rfl, hd]
    unfold tx
    rw [List.take_of_length_le (by omega), List.take_of_length_le (by omega)]
theorem At.here {T : PySem.Str} {i : Int} {R : List Nat} (h : At T i R) : Txt.slice T (some i) (some (i + 1)) = tx (R.take 1) := by
  rw [h.slice (by omega), show (i + 1 - i).toNat = 1 by omega]
theorem At.two {T : PySem.Str} {i : Int} {R : List Nat} (h : At T i R) : Txt.slice T (some i) (some (i + 2)) = tx (R.take 2) := by
  rw [h.slice (by omega), show (i + 2 - i).toNat = 2 by omega]
theorem At.part {T : PySem.Str} {i j : Int} {R : List Nat} (A : List Nat) (h : At T i (A ++ R)) (hj : j = i + (A.length : Int)) : Txt.slice T (some i) (some j) = tx A := by
  rw [h.slice (by omega), show (j - i).toNat = A.length by omega, List.take_left]
/-- where the pen stands behind one sign -/
noncomputable def nextRow (c : Nat) (R : List Nat) (row : Int) : Int := if c = 10 ∨ (c = 13 ∧ R.head? ≠ some 10) then row + 1 else row
noncomputable def nextCol (c : Nat) (R : List Nat) (col : Int) : Int := if c = 10 ∨ (c = 13 ∧ R.head? ≠ some 10) then 1 else col + 1

-- the part nlogic
open Sem (wp)
/-! a judgement over the contexts in which no decoder is under way -/
noncomputable def badIds : List String := Builtin.Bytes.decodersThatHold ++ ["bytearray.__contains__", "bytearray.__mod__", "bytearray.__rmod__", "_struct.pack_into.held", "bytearray.find.held"]
noncomputable def fineC (c : Code) : Bool := match c with
  | .builtin id _ => !badIds.contains id
  | _ => true
noncomputable def FineL (l : List (Code × Pos)) : Prop := ∀ q ∈ l, fineC q.1 = true
noncomputable def wpN {α : Type} (M : Model) (A : Around) (t : Sem α) (Q : α → Shared → Prop) (E : Value → Shared → Prop) (s : Shared) : Prop :=
  ∀ Γ p, Γ.In A → fineC Γ.code = true → FineL Γ.below → wp M Γ t (fun a _ s' => Q a s') (fun e _ s' => E e s') p s
noncomputable def codeN (M : Model) (A : Around) (c : Code) (R : Result → Shared → Prop) (s : Shared) : Prop :=
  ∀ Γ p, Γ.code = c → Γ.Below A → FineL Γ.below → wpCode M Γ R p s
section
variable {α β : Type} {M : Model} {A : Around} {E : Value → Shared → Prop} {s : Shared}
theorem wpN_any {t : Sem α} {Q : α → Shared → Prop} (h : wpAny M A t Q E s) : wpN M A t Q E s := fun Γ p hΓ _ _ => h Γ p hΓ
theorem codeN_any {c : Code} {R : Result → Shared → Prop} (h : codeAny M A c R s) : codeN M A c R s := fun Γ p hc hΓ _ => h Γ p hc hΓ
theorem wpN_pure {a : α} {Q : α → Shared → Prop} (h : Q a s) : wpN M A (pure a) Q E s := wpN_any (wpAny_pure h)
theorem wpN_mono {t : Sem α} {Q Q' : α → Shared → Prop} {E' : Value → Shared → Prop} (h : wpN M A t Q E s)
    (hQ : ∀ a s, Q a s → Q' a s) (hE : ∀ e s, E e s → E' e s) : wpN M A t Q' E' s :=
  fun Γ p hΓ h1 h2 => Sem.wp_mono M Γ t (fun a _ s => hQ a s) (fun e _ s => hE e s) p s (h Γ p hΓ h1 h2)
theorem wpN_bind {m : Sem α} {f : α → Sem β} {Q : β → Shared → Prop} (h : wpN M A m (fun a s' => wpN M A (f a) Q E s') E s) :
    wpN M A (m >>= f) Q E s := fun Γ p hΓ h1 h2 => by
  rw [Sem.wp_bind']
  exact Sem.wp_mono M Γ m (fun a p' s' h' => h' Γ p' hΓ h1 h2) (fun _ _ _ h' => h') p s (h Γ p hΓ h1 h2)
/-- a first part by the library's own rules -/
theorem wpN_bindA {m : Sem α} {f : α → Sem β} {Q : β → Shared → Prop} (h : wpAny M A m (fun a s' => wpN M A (f a) Q E s') E s) :
    wpN M A (m >>= f) Q E s := wpN_bind (wpN_any h)
theorem wpN_map {m : Sem α} {f : α → β} {Q : β → Shared → Prop} (h : wpN M A m (fun a s' => Q (f a) s') E s) :
    wpN M A (f <$> m) Q E s := fun Γ p hΓ h1 h2 => by rw [Sem.wp_map]; exact h Γ p hΓ h1 h2
theorem wpN_tryCatch {m : Sem α} {k : Value → Sem α} {Q : α → Shared → Prop} (h : wpN M A m Q (fun e s' => wpN M A (k e) Q E s') s) :
    wpN M A (tryCatch m k) Q E s := fun Γ p hΓ h1 h2 => by
  rw [Sem.wp_tryCatch']
  exact Sem.wp_mono M Γ m (fun _ _ _ h' => h') (fun e p' s' h' => h' Γ p' hΓ h1 h2) p s (h Γ p hΓ h1 h2)
theorem wpN_onRaise {m : Sem α} {k : Value → Sem Unit} {Q : α → Shared → Prop}
    (h : wpN M A m Q (fun e s' => wpN M A (k e) (fun _ s'' => E e s'') E s') s) : wpN M A (m.onRaise k) Q E s := fun Γ p hΓ h1 h2 => by
  rw [Sem.wp_onRaise]
  exact Sem.wp_mono M Γ m (fun _ _ _ h' => h') (fun e p' s' h' => h' Γ p' hΓ h1 h2) p s (h Γ p hΓ h1 h2)
theorem wpN_attempt {m : Sem α} {Q : Except Value α → Shared → Prop} (h : wpN M A m (fun a => Q (.ok a)) (fun e => Q (.error e)) s) :
    wpN M A m.attempt Q E s := fun Γ p hΓ h1 h2 => by rw [Sem.wp_attempt]; exact h Γ p hΓ h1 h2
theorem wpN_holding {vs : List Value} {m : Sem α} {Q : α → Shared → Prop} (h : wpN M A m Q E s) : wpN M A (holding vs m) Q E s :=
  fun Γ p hΓ h1 h2 => by rw [Sem.wp_holding]; exact h Γ p hΓ h1 h2
theorem wpN_ite_t {c : Prop} [Decidable c] {a b : Sem α} {Q : α → Shared → Prop} (hc : c) (h : wpN M A a Q E s) : wpN M A (if c then a else b) Q E s := by rw [if_pos hc]; exact h
theorem wpN_ite_f {c : Prop} [Decidable c] {a b : Sem α} {Q : α → Shared → Prop} (hc : ¬ c) (h : wpN M A b Q E s) : wpN M A (if c then a else b) Q E s := by rw [if_neg hc]; exact h
theorem codeN_mono {c : Code} {R R' : Result → Shared → Prop} (h : codeN M A c R s) (hR : ∀ r s, R r s → R' r s) : codeN M A c R' s :=
  fun Γ p hc hΓ h2 => wpCode_mono hR (h Γ p hc hΓ h2)
theorem fine_enter {Γ : PySem.Ctx} {c : Code} {h : Option Value} {p : Pos} (h1 : fineC Γ.code = true) (h2 : FineL Γ.below) : FineL (Γ.enter c h p).below := fun q hq => by
  rcases List.mem_cons.mp hq with rfl | hq
  · exact h1
  · exact h2 q hq
theorem wpN_run {c : Code} {h : Option Value} {Q : Flow → Shared → Prop}
    (hc : codeN M (A.mark h) c (fun r s' => match r with | .ok f => Q f s' | .error e => E e s') s) (hnb : h ≠ some byPass := by intro x; cases x) :
    wpN M A (run c h) Q E s :=
  fun Γ p hΓ h1 h2 => by rw [Sem.wp_run]; exact hc _ p rfl (hΓ.enter c h p hnb) (fine_enter h1 h2)
theorem wpN_runValue {c : Code} {Q : Value → Shared → Prop}
    (hc : codeN M A c (fun r s' => match r with | .ok (.ret v) => Q v s' | .ok _ => False | .error e => E e s') s) :
    wpN M A (runValue c) Q E s := fun Γ p hΓ h1 h2 => by rw [Sem.wp_runValue]; exact hc _ p rfl (hΓ.enter c none p (by intro x; cases x)) (fine_enter h1 h2)
theorem wpN_call {f : Value} {pos : List Value} {kw : List (PySem.Str × Value)} {Q : Value → Shared → Prop}
    (hc : codeN M A (.call f ⟨pos, kw⟩) (fun r s' => match r with | .ok (.ret v) => Q v s' | .ok _ => False | .error e => E e s') s) :
    wpN M A (call f pos kw) Q E s := wpN_runValue hc
theorem codeN_tree {c : Code} {R : Result → Shared → Prop} (hf : fineC c = true)
    (h : wpN M (A.under c) (M.den c) (fun fin s' => match fin with | .done f => R (.ok f) s' | .again c' => c'.quiet = true ∧ codeN M A c' R s')
      (fun e s' => R (.error e) s') s) : codeN M A c R s := fun Γ p hc hΓ h2 => by
  rw [wpCode_iff_wp, hc]
  refine Sem.wp_mono M Γ _ (fun fin p' s' h' => ?_) (fun _ _ _ h' => h') p s (h Γ p (hc ▸ hΓ.in) (hc ▸ hf) h2)
  cases fin with
  | done f => exact h'
  | again c' => exact ⟨h'.1, h'.2 (Γ.goto c') p' rfl (hΓ.goto c') h2⟩
theorem codeN_loop {c : Code} {R : Result → Shared → Prop} (hf : fineC c = true) (hq : c.quiet = true) (I : Nat → Shared → Prop)
    (turn : ∀ n s, I n s → wpN M (A.under c) (M.den c)
      (fun fin s' => match fin with | .done f => R (.ok f) s' | .again c' => c' = c ∧ ∃ m, m < n ∧ I m s') (fun e s' => R (.error e) s') s)
    (n : Nat) (h : I n s) : codeN M A c R s := by
  induction n using Nat.strongRecOn generalizing s with
  | ind n ih =>
    refine codeN_tree hf (wpN_mono (turn n s h) (fun fin s' hf => ?_) fun _ _ h' => h')
    cases fin with
    | done f => exact hf
    | again c' => obtain ⟨rfl, m, hm, hI⟩ := hf; exact ⟨hq, ih m hm hI⟩
theorem fine_of {id : String} {a : Args} (h : fineC (.builtin id a) = true) : badIds.contains id = false := (Bool.not_eq_true' _).mp h
theorem exported_no {v : Value} {Q : Bool → Shared → Prop} (h : Q false s) : wpN M A (Builtin.Bytes.exported v) Q E s := fun Γ p hΓ h1 h2 => by
  have key : ∀ q ∈ (Γ.code, p) :: Γ.below, fineC q.1 = true := fun q hq => by
    rcases List.mem_cons.mp hq with rfl | hq
    · exact h1
    · exact h2 q hq
  have hh : ∀ F : Code × Pos → Bool, (∀ q, fineC q.1 = true → F q = false) → Q (List.any ((Γ.code, p) :: Γ.below) F) s := fun F hF => by
    have e : List.any ((Γ.code, p) :: Γ.below) F = false := List.any_eq_false.mpr fun q hq => by rw [hF q (key q hq)]; exact Bool.false_ne_true
    rw [e]; exact h
  refine hh _ ?_
  rintro ⟨c, q⟩ hf
  dsimp only at hf ⊢
  unfold Builtin.Bytes.exported.match_1
  cases c with
  | builtin id a =>
    have hb := fine_of hf
    have ne : ∀ b ∈ badIds, ¬ id = b := fun b hb' e => by subst e; rw [List.contains_eq_mem, decide_eq_false_iff_not] at hb; exact hb hb'
    have hd : Builtin.Bytes.decodersThatHold.contains id = false := by rw [List.contains_eq_mem, decide_eq_false_iff_not]; exact fun h => ne id (List.mem_append_left _ h) rfl
    obtain ⟨pos, kw⟩ := a
    refine Eq.trans (dif_neg (ne "bytearray.__contains__" (by decide))) ?_
    refine Eq.trans (dif_neg (ne "bytearray.__mod__" (by decide))) ?_
    refine Eq.trans (dif_neg (ne "bytearray.__rmod__" (by decide))) ?_
    refine Eq.trans (dif_neg (ne "_struct.pack_into.held" (by decide))) ?_
    refine Eq.trans (dif_neg (ne "bytearray.find.held" (by decide))) ?_
    cases pos with
    | nil => rfl
    | cons x r => exact (congrArg (Builtin.Bytes.sameRef x v && ·) hd).trans (Bool.and_false _)
  | _ => rfl
end

-- the part head
/-! the head, asked only of the caller's own context -/
section
theorem fine_caller : fineC (.builtin "claim.caller" {}) = true := by decide
theorem ends_N {prog : Program} {w : World} {t : Sem Fin} {s : Shared} {R : Result → Shared → Prop} (hreg : s.asleep)
    (h : wpN (model prog w) callerA t (fun fin s' => ∃ f, fin = .done f ∧ (R (.ok f) s' ∧ leftWithCleanup s'.gens = false)) (fun e s' => R (.error e) s' ∧ leftWithCleanup s'.gens = false) s) :
    ∃ n r s' s'', runN (denote table) prog w n s ⟨t, .builtin "claim.caller" {}, default, []⟩ = .halted (outcomeOf r) s' ∧
      schedN (denote table) prog w n (.single s ⟨t, .builtin "claim.caller" {}, default, []⟩) = .halted (outcomeOf r) s' ∧ s'.forget = s''.forget ∧ R r s'' := by
  have h0 := h ⟨.builtin "claim.caller" {}, none, none, [], none⟩ default caller_in fine_caller (fun q hq => nomatch hq)
  obtain ⟨n, r, s₁, s₂, hs, hn, hfo, hR⟩ := wp_halts_full (M := model prog w) (R := R) hreg
    (Sem.wp_mono _ _ t (fun fin p' s' h' => by obtain ⟨f, rfl, hf⟩ := h'; exact hf) (fun _ _ _ h' => h') default s h0)
  exact ⟨n, r, s₂, s₁, hn, hs, hfo, hR⟩
/-- a call laid from outside, by its end in the caller's own context -/
theorem spec_N {c : ClaimW} {tree : List Value → Sem Fin} {w : World} {s : Shared} {free : Addr → Prop} {gens : Prop} {kept : Heap → Prop} (hz : s.asleep) (hgens : s.gens = #[])
    (hspec : ∀ args, c.pre args = true → WData.layableAll args = true → ∀ ord : List DictEntry → List DictEntry, (∀ l, (ord l).Perm l) → ∃ vs s₁, layAllW c.records (classAt s.heap) w.params ord args s = some (vs, s₁) ∧
      wpN (model c.prog w) callerA (tree vs) (fun fin s' => ∃ f, fin = .done f ∧ ((c.Ends s args vs s₁ (.ok f) s' ∧ s'.os = s.os ∧ kept s'.heap) ∧ leftWithCleanup s'.gens = false))
        (fun e s' => (c.Ends s args vs s₁ (.error e) s' ∧ s'.os = s.os ∧ kept s'.heap) ∧ leftWithCleanup s'.gens = false) s₁) :
    c.CallFrom (fun vs => ⟨tree vs, .builtin "claim.caller" {}, default, []⟩) w free gens kept s := by
  intro args hpre hlay ord hord
  obtain ⟨vs, s₁, hlaid, hcode⟩ := hspec args hpre hlay ord hord
  have hal := layAllW_rest _ _ _ hlaid
  obtain ⟨k, x, s', s'', hrun, hsched, hfo, hcase, hos, hkp⟩ := ends_N (R := fun x s' => c.Ends s args vs s₁ x s' ∧ s'.os = s.os ∧ kept s'.heap) (Shared.asleep_of_life hal.2.2.2 hz) hcode
  obtain ⟨eh, _, _, eo, _⟩ := Shared.forget_eq hfo
  have hcase := hcase.congr eh
  rw [← eo] at hos
  rw [← eh] at hkp
  have hlife : s'.heap.life = s.heap.life := (runN_life _ _ _ hrun).trans hal.2.2.2
  refine ⟨vs, s₁, hlaid, k, _, s', hsched, ?_, (fun _ i x hx => by rw [hgens] at hx; simp at hx), hkp, by rw [hlife], Shared.rest_eq hos⟩
  rcases hcase with ⟨v, rfl, d1, d2, d3, d4, d5⟩ | ⟨e, ob, cls, rfl, d1, d2, d3, d4, d5⟩
  · exact .inl ⟨v, rfl, d1, d2, d3, fun b o y _ => d4 b o y, d5⟩
  · exact .inr ⟨e, ob, cls, rfl, d1, d2, d3, d4, fun b o y _ => d5 b o y⟩
noncomputable abbrev WalkS (q : Program) (loose : List PySem.Str) (XP : (PySem.Str → Option Value) → Heap → Prop) (YP : World → Heap → Prop) (r : RowW) (d : DefRec) (kwd : List (PySem.Str × PySem.Expr)) : Prop :=
  ∀ (w : World) (s₀ s₁ : Shared) (mg mb : PySem.Str → Option Value), Ground q loose r.records XP w s₀ mg mb s₁.heap → YP w s₁.heap → ∀ (a : Addr) (o : Obj) (pm cd doc dV kV : Value), s₁.heap.get? a = some o →
    o.data = .func { docDef d.name d.params d.body d.scope pm cd doc with defaults := dV, kwdefaults := kV } → s₁.heap.CodeRec cd d.name → Dflts mg s₁.heap d.params kwd dV kV → mg d.name = some (.ref a) → s₁.gens = #[] →
    ∀ (args : List WData) (vals : List Value) (as : List Addr), r.claim.pre args = true → WData.layableAll args = true → ReadsAllW r.records (classAt s₀.heap) s₁.heap vals args as → WellAll w.params s₁.heap vals args → (∀ a ∈ as, (a == sysModules) = false) →
      wpN (model r.prog w) callerA (PySem.call (.ref a) vals) (fun v s' => GoodWG r.claim (classAt s₀.heap) (ExcName.means s₀.heap) args s₁ (.ok (.ret v)) s')
        (fun e s' => GoodWG r.claim (classAt s₀.heap) (ExcName.means s₀.heap) args s₁ (.error e) s') s₁
theorem PySem.W.holds_open {r : OpenRow} {q : Program} {loose : List PySem.Str} {Xt : Shared → Bool} {XP : (PySem.Str → Option Value) → Heap → Prop} {α : Type} {Yf : Shared → α} {Ya : World → α} {YP : World → Heap → Prop} {d : DefRec} {kwd : List (PySem.Str × PySem.Expr)} {N : Nat}
    (left : LeftO r.prog q loose Xt Yf Ya N) (hY : ∀ w s, Yf s = Ya w → YP w s.heap) (hYk : ∀ w h h', YP w h → (∀ b o, h.get? b = some o → h'.get? b = some o) → YP w h')
    (hX : ∀ s, Xt s = true → XP (s.heap.nsMap mainGlobals) s.heap) (hXk : ∀ mg h h', XP mg h → (∀ b o, h.get? b = some o → h'.get? b = some o) → XP mg h')
    (hdef : defOf q r.name = some (d, kwd)) (hp : r.prog.theDef r.name = some (d.params, d.body, d.scope)) (hk : kwWritten? d.params.kwonlyargs d.params.kw_defaults = some kwd) (hRf : ∀ s, Xt s = true → RecFacts r.records s.heap) (hwr : (!r.writes || r.records.isEmpty) = true)
    (k1 : r.wellSaid = true) (ok : (chainsOk q && opensWell r.prog && (frees r.toRowW && r.within.isEmpty)) = true) (hb : r.prog.bare) (hw : r.toRowW.promised)
    (call : WalkS q loose XP YP r.toRowW d kwd) : r.Holds := by
  refine ⟨k1, hw, ?_⟩
  obtain ⟨ok, k5⟩ := Bool.and_eq_true_iff.mp ok
  obtain ⟨hch, o1⟩ := Bool.and_eq_true_iff.mp ok
  obtain ⟨k5, k6⟩ := Bool.and_eq_true_iff.mp k5
  obtain ⟨hsame, hu, ha, hap, hm⟩ := frees_parts k5
  refine ⟨⟨hb, o1, by show r.toRowW.makers.map _ = []; rw [hm]; rfl⟩, hw.witness, fun w => ⟨(left.behind hX hch w).1, fun s' hs' => ?_⟩⟩
  obtain ⟨s₀, hf, hg0, s, hT, hz, hgens, hg, G00, y⟩ := (left.behind (XP := fun mg h => XP mg h ∧ RecFacts r.records h) (fun s hs => ⟨hX s hs, hRf s hs⟩) hch w).2 s' hs'
  have G0 : Ground q loose [] XP w s (s.heap.nsMap mainGlobals) (s.heap.nsMap builtinsNs) s.heap := ⟨G00.T, G00.B, G00.D, G00.TE, G00.TD, G00.W, G00.X.1, G00.cls, G00.has, G00.apart, G00.once, G00.K⟩
  have RF := G00.X.2
  have hT' := hT
  have hgens : s.gens = #[] := Array.eq_empty_of_size_eq_zero (beq_iff_eq.mp hgens)
  have G : Ground q loose r.records XP w s _ _ s.heap := RF.ground G0
  refine ⟨s₀, hf, hg0, s, hT, fun n hn => ?_, RF.1, RF.2.1, spec_N (c := r.toRowW.claim) hz hgens fun args hpre hlay ord hord => ?_⟩
  · have e : n = r.name := by split at hn <;> first | exact List.mem_singleton.mp hn | cases hn
    subst e
    exact pinned_of_view hg G0 hdef hp hk
  obtain ⟨⟨vs, s₁⟩, hlaid⟩ := Option.isSome_iff_exists.mp (layAllW_isSome (P := w.params) (ord := ord) G.has args r.toRowW.args s (pre_splitW hpre).1)
  have keeps := layAllW_keeps _ _ _ hlaid
  have hal := layAllW_rest _ _ _ hlaid
  obtain ⟨as, hrd, hin, hold⟩ := reads_layAllW hord _ _ _ hlaid hlay s₁.heap (fun _ _ e => e)
  have L : Laid r.toRowW.records w s s₁ args vs as := ⟨⟨ord, hord, hlaid⟩, hrd, hin, hold, keeps, hal.1.trans hgens, hal.2.2.1⟩
  have G₁ := G.keeps hXk keeps
  obtain ⟨a, o, pm, cd, doc, dV, kV, h1, h2, h3, h4, h5⟩ := G₁.fn hdef
  have hmg := defOf_name hdef ▸ h1
  have h := call w s s₁ _ _ G₁ (hYk _ _ _ (hY w s y) keeps) a o pm cd doc dV kV h2 h3 h4 h5 hmg L.gens args vs as hpre hlay L.reads L.well (L.low G.low)
  have hi := ident_freeW hu ha hap
  have hwi : r.toRowW.claim.within = [] := List.isEmpty_iff.mp k6
  have fin : ∀ x s', GoodWG r.toRowW.claim (classAt s.heap) (ExcName.means s.heap) args s₁ x s' → (r.toRowW.claim.Ends s args vs s₁ x s' ∧ s'.os = s.os ∧ (r.writes = true → namesKept r.prog r.keeps s.heap s'.heap ∧ ∀ x ∈ r.records, ∀ a, classAt s.heap x.1 = some a → recordClass s'.heap a x.1 (x.2.map (·.1)) = true)) ∧ leftWithCleanup s'.gens = false := fun x s' g =>
    have z := g.laid (c := r.toRowW.claim) hsame hwi hi L
    ⟨⟨z.1, z.2.1, fun q => ⟨namesKept_of hT' hg _ keeps g.2.1.old, noTable hwr q⟩⟩, leftWithCleanup_false_of_bare z.2.2⟩
  exact ⟨vs, s₁, hlaid, wpN_bindA (wpAny_nsGet G₁.T.g (by rw [h1]; exact wpN_bind (wpN_mono h (fun v s' g => wpN_pure ⟨_, rfl, fin _ _ g⟩) fun e s' g => fin _ _ g)))⟩
end
/-! the head's data, laid once ahead (the head's tool names them as it goes): a theorem without content, from False, that the walk's contracts may speak of these data -/
namespace One
theorem PySem.W.holds_open {r : OpenRow} {q : Program} {loose : List PySem.Str} {Xt : Shared → Bool} {XP : (PySem.Str → Option Value) → Heap → Prop} {α : Type} {Yf : Shared → α} {Ya : World → α} {YP : World → Heap → Prop} {d : DefRec} {kwd : List (PySem.Str × PySem.Expr)} {N : Nat}
    (left : LeftO r.prog q loose Xt Yf Ya N) (hY : ∀ w s, Yf s = Ya w → YP w s.heap) (hYk : ∀ w h h', YP w h → (∀ b o, h.get? b = some o → h'.get? b = some o) → YP w h')
    (hX : ∀ s, Xt s = true → XP (s.heap.nsMap mainGlobals) s.heap) (hXk : ∀ mg h h', XP mg h → (∀ b o, h.get? b = some o → h'.get? b = some o) → XP mg h')
    (hdef : defOf q r.name = some (d, kwd)) (hp : r.prog.theDef r.name = some (d.params, d.body, d.scope)) (hk : kwWritten? d.params.kwonlyargs d.params.kw_defaults = some kwd) (hRf : ∀ s, Xt s = true → RecFacts r.records s.heap) (hwr : (!r.writes || r.records.isEmpty) = true)
    (k1 : False) (ok : (chainsOk q && opensWell r.prog && (frees r.toRowW && r.within.isEmpty)) = true) (hb : r.prog.bare) (hw : True)
    (call : True) : r.Holds := k1.elim
set_option Elab.async true in
theorem hd (never : False) : PySem.Challenge.rw_nm0127_01.Holds := by
  w_on
  o_law
  k_head
  all_goals exact trivial
end One


-- the part mac
/-! what the walk's own lines are made of: a line names its lemma, how each premise is closed (a letter each), and what is brought in behind it -/
section
open Lean Parser.Tactic
def nd (k : Name) (as : List Syntax) : Syntax := .node .none k as.toArray
def at_ (s : String) : Syntax := .atom .none s
def sq (l : List Syntax) : Syntax := nd ``tacticSeq [nd ``tacticSeq1Indented [nd `null (l.intersperse (at_ ";"))]]
def pr (l : List Syntax) : Syntax := nd ``paren [at_ "(", sq l, at_ ")"]
def kw (k : String) (s : String) : Syntax := nd ((`PySem.W).str k) [at_ s]
def wk (s : String) : Syntax := nd `PyProof.Rows.tacticWalk_at_ [at_ "walk_at", Syntax.mkStrLit s]
/-- how a premise is closed -/
def lnBy (c : Char) : Syntax := match c with
  | 'k' => nd ``tacticTrivial [at_ "trivial"]
  | 'x' => kw "tacticK_mem" "k_mem"
  | 'u' | 'U' => kw "tacticK_upd" "k_upd"
  | 'a' => nd ``assumption [at_ "assumption"]
  | 'o' => nd ``omega [at_ "omega", nd ``optConfig [nd `null []]]
  | 'd' => nd ``Lean.Parser.Tactic.decide [at_ "decide", nd ``optConfig [nd `null []]]
  | 'r' => kw "tacticKtr_room" "ktr_room"
  | 'n' => kw "tacticKtr_units" "ktr_units"
  | 'z' => kw "tacticK_units" "k_units"
  | 'g' => kw "tacticK_get" "k_get"
  | 'p' => kw "tacticK_put" "k_put"
  | 'c' => nd ``constructor [at_ "constructor"]
  | 'i' => kw "tacticK_is" "k_is"
  | 'e' => wk "binds"
  | 'S' => wk "sub"
  | 'E' => wk "badE"
  | 't' => wk "tx"
  | 'v' => wk "len"
  | 'y' => wk "size"
  | 'L' => nd ``exact [at_ "exact", nd ``Parser.Term.app [mkIdent `locs, nd `null [mkIdent `rfl]]]
  | 'l' => kw "tacticK_all" "k_all"
  | _ => kw "tacticK_asm" "k_asm"
def lnHoles : List Char → Nat → List Syntax × List Syntax
  | [], _ => ([], [])
  | c :: r, i =>
    let q := lnHoles r (i + 1)
    let u := nd ``Parser.Term.hole [at_ "_"]
    if c == '_' then (nd ``Parser.Term.syntheticHole [at_ "?", at_ "_"] :: q.1, q.2)
    else
      let x := mkIdent ((`h).str (toString i))
      let h := nd ``Parser.Term.syntheticHole [at_ "?", x]
      ((if c == 'U' then nd ``Parser.Term.paren [nd ``Parser.Term.hygienicLParen [at_ "(", nd hygieneInfoKind [mkIdent .anonymous]], nd ``Parser.Term.fun [at_ "fun", nd ``Parser.Term.basicFun [nd `null [u], nd `null [], at_ "=>", h]], at_ ")"] else h) :: q.1,
        nd ``case [at_ "case", nd `null [nd ``caseArg [nd ``binderIdent [x], nd `null []]], at_ "=>", sq [lnBy c]] :: q.2)
def lnIns (n : Name) : List Char → Nat → List Syntax × List Syntax
  | [], _ => ([], [nd ``tacticTry_ [at_ "try", sq [kw "tacticK_sweep" "k_sweep"]]])
  | ['!'], _ => ([], [])
  | c :: r, i =>
    let q := lnIns n r (i + 1)
    let x := mkIdent (n.appendIndexAfter i)
    (x :: q.1, if c == 'l' then nd ``tacticTry_ [at_ "try", sq [nd `PySem.W.tacticK_lt_ [at_ "k_lt", x]]] :: q.2 else if c == 'm' then nd `PySem.W.tacticK_lt2_ [at_ "k_lt2", x] :: q.2 else q.2)
def lnOf (n lem : Name) (ks ins : String) : Syntax :=
  let p := lnHoles ks.toList 0
  let t := nd `PySem.W.tacticK_dflt_ [at_ "k_dflt", pr (nd ``refine' [at_ "refine'", nd ``Parser.Term.app [mkIdent lem, nd `null p.1]] :: p.2)]
  let q := lnIns n ins.toList 0
  if ins == "" then t else pr (t :: kw "tacticK_whole" "k_whole" :: nd ``intro [at_ "intro", nd `null q.1] :: q.2)
def ln (lem : Name) (ks : String) (ins : String := "") : MacroM (TSyntax `tactic) := do return ⟨lnOf (← Macro.addMacroScope `n) lem ks ins⟩
def lnAt (a : Nat) (lem : Name) (ks : String) (ins : String := "") : MacroM (TSyntax `tactic) := do
  `(tactic| (k_here; (with_reducible show wpAny _ _ (call (Value.ref $(Syntax.mkNatLit a)) _ _) _ _ _); $(← ln lem ks ins)))
end

-- the part base
noncomputable abbrev prog0 : Program := PySem.Challenge.rw_nm0127_01.row.prog
/-- the entries of a Lexer's dict -/
noncomputable abbrev lexD (P : Params) (T : PySem.Str) (i row col : Int) (fl : Addr) (k1 t1 k2 t2 k3 t3 k4 t4 k5 : Tok) : List DictEntry :=
  [⟨PyData.keyHash P "text", .str "text" k1, .str T t1⟩,
   ⟨PyData.keyHash P "at", .str "at" k2, .int i t2⟩,
   ⟨PyData.keyHash P "row", .str "row" k3, .int row t3⟩,
   ⟨PyData.keyHash P "column", .str "column" k4, .int col t4⟩,
   ⟨PyData.keyHash P "found", .str "found" k5, .ref fl⟩]
theorem upd_mem {d : Addr} {o o' : Obj} {l l' : List (Addr × Obj)} (U : Upd d o o' l l') : (d, o) ∈ l := by
  obtain ⟨pre, post, rfl, _⟩ := U.split
  simp
section
variable {prog : Program} {w : World} {A : Around} {E : Value → Shared → Prop} {s : Shared} {value slice : PySem.Expr} {T : PySem.Str} {t u : Tok} {i : Int} {c : Nat} {R : List Nat} {Q : Value → Shared → Prop}
theorem item_at (hA : At T i (c :: R)) (hT : T.length ≤ 100000) (h : Q (.str (tx [c]) s.toks) { s with toks := s.toks + 1 })
    (hs : subscripted slice false (.str T t) (.int i u) = operate [.str T t, .int i u] (getItem (.str T t) (.int i u)) := by with_unfolding_all rfl)
    (ht : ∀ r, letTemporaryGo value (.str T t) r = pure () := by intro _; with_unfolding_all rfl) :
    wpAny (model prog w) A (subscriptTail value slice (.str T t) (.int i u)) Q E s := by
  have h0 := hA.nonneg
  have hl := hA.len
  rw [List.length_cons] at hl
  refine KXi.item rfl (by omega) (by omega) (by omega) (fun _ => ?_) hs ht
  rw [hA.item]; exact h
end
theorem upd_sub {d : Addr} {o o' : Obj} {l l' : List (Addr × Obj)} (U : Upd d o o' l l') : ∀ p ∈ l', p = (d, o') ∨ (p ∈ l ∧ p.1 ≠ d) := by
  obtain ⟨pre, post, rfl, rfl, h1, h2⟩ := U.split
  intro p hp
  rcases List.mem_append.mp hp with q | q
  · exact .inr ⟨List.mem_append_left _ q, h1 p q⟩
  · rcases List.mem_cons.mp q with q | q
    · exact .inl q
    · exact .inr ⟨List.mem_append_right _ (.tail _ q), h2 p q⟩
theorem upd_rest {d : Addr} {o o' : Obj} {l l' : List (Addr × Obj)} (U : Upd d o o' l l') : ∃ rest : List (Addr × Obj), (∀ p ∈ rest, p ∈ l ∧ p.1 ≠ d) ∧ ∀ p ∈ l, p.1 ≠ d → p ∈ rest := by
  obtain ⟨pre, post, rfl, rfl, h1, h2⟩ := U.split
  refine ⟨pre ++ post, fun p hp => ?_, fun p hp hne => ?_⟩
  · rcases List.mem_append.mp hp with q | q
    · exact ⟨List.mem_append_left _ q, h1 p q⟩
    · exact ⟨List.mem_append_right _ (.tail _ q), h2 p q⟩
  · rcases List.mem_append.mp hp with q | q
    · exact List.mem_append_left _ q
    · rcases List.mem_cons.mp q with q | q
      · rw [q] at hne; exact absurd rfl hne
      · exact List.mem_append_right _ q
theorem news_ne {h₀ h : Heap} {L x d C d' : Addr} {es : List DictEntry} {k : Nat} {news : List (Addr × Obj)} (N : News h₀ L h news) (hx : (x, instObj C d') ∈ news) (hd : (d, dictOf es k) ∈ news) : x ≠ d := by
  intro e
  have h1 := (N _ hx).1
  have h2 := (N _ hd).1
  rw [e] at h1
  rw [h1] at h2
  have := congrArg Obj.data (Option.some.inj h2)
  cases this
theorem focus {h₀ h : Heap} {L x d : Addr} {ox o : Obj} {news : List (Addr × Obj)} {nw : Obj → List (Addr × Obj)} (N : News h₀ L h news) (hx : (x, ox) ∈ news) (U : ∀ o', Upd d o o' news (nw o')) :
    ∃ rest : List (Addr × Obj), News h₀ L h ((x, ox) :: (d, o) :: rest) ∧ (∀ p ∈ rest, p.1 ≠ d) ∧ ∀ h' o', News h₀ L h' ((x, ox) :: (d, o') :: rest) → News h₀ L h' (nw o') := by
  have hd := upd_mem (U default)
  obtain ⟨rest, r1, r2⟩ := upd_rest (U default)
  refine ⟨rest, fun p hp => ?_, fun p hp => (r1 p hp).2, fun h' o' N' p hp => ?_⟩
  · rcases List.mem_cons.mp hp with rfl | hp
    · exact N _ hx
    · rcases List.mem_cons.mp hp with rfl | hp
      · exact N _ hd
      · exact N p (r1 p hp).1
  · rcases upd_sub (U _) p hp with rfl | ⟨hm, hne⟩
    · exact N' _ (.tail _ (.head _))
    · exact N' p (.tail _ (.tail _ (r2 p hm hne)))
theorem allLt_ne {d : Addr} {l : List (Addr × Obj)} : AllLt d l → ∀ p ∈ l, p.1 ≠ d := by
  induction l with
  | nil => intro _ p hp; cases hp
  | cons q r ih =>
    intro h p hp
    obtain ⟨h1, h2⟩ := h
    rcases List.mem_cons.mp hp with e | hp
    · rw [e]; exact Nat.ne_of_lt h1
    · exact ih h2 p hp
theorem allLt_lt {d : Addr} : ∀ {l : List (Addr × Obj)}, AllLt d l → ∀ p ∈ l, p.1 < d
  | [], _, _, hp => nomatch hp
  | _ :: _, h, p, hp => by
    rcases List.mem_cons.mp hp with rfl | hp
    · exact h.1
    · exact allLt_lt h.2 p hp
theorem newsT1 {h₀ h : Heap} {L : Addr} {p : Addr × Obj} {l : List (Addr × Obj)} (N : News h₀ L h (p :: l)) : News h₀ L h l := fun q hq => N q (.tail _ hq)
theorem nextRow_other {c : Nat} {R : List Nat} {row : Int} (h : ¬ (c = 10 ∨ c = 13)) : nextRow c R row = row := by
  unfold nextRow; rw [if_neg]; rintro (q | ⟨q, _⟩)
  · exact h (.inl q)
  · exact h (.inr q)
theorem nextCol_other {c : Nat} {R : List Nat} {col : Int} (h : ¬ (c = 10 ∨ c = 13)) : nextCol c R col = col + 1 := by
  unfold nextCol; rw [if_neg]; rintro (q | ⟨q, _⟩)
  · exact h (.inl q)
  · exact h (.inr q)
section
variable {prog : Program} {w : World} {A : Around} {E : Value → Shared → Prop} {s : Shared} {env : Env} {h₀ : Heap} {x : PySem.Str} {body : List Stmt} {Q : Flow → Shared → Prop}
/-- a loop over a text's signs, by what holds of the signs that are left -/
theorem forStr {xs : List Nat} {t₀ : Tok} {m₀ : PySem.Str → Option Value} {news : List (Addr × Obj)} (J : List Nat → (PySem.Str → Option Value) → List (Addr × Obj) → Prop)
    (hh : A.handled = none) (F : Fr h₀ env.locals s.heap m₀) (N : News h₀ env.locals s.heap news) (hj : J xs m₀ news)
    (turn : ∀ c r t m₁ nx h tk own, nx.map (·.1) = news.map (·.1) → OwnOff own (news.map (·.1)) → J (c :: r) m₁ nx → Fr h₀ env.locals h (fun y => if y = x then some (.str (tx [c]) t) else m₁ y) → News h₀ env.locals h (nx ++ own) →
      wpAny (model prog w) A (execs body env) (InvPostN h₀ env.locals (J r) own (news.map (·.1)) { s with heap := h, toks := tk } Q) E { s with heap := h, toks := tk })
    (done : ∀ m₁ nx h tk, J [] m₁ nx → Fr h₀ env.locals h m₁ → News h₀ env.locals h nx → Q .next { s with heap := h, toks := tk }) :
    wpAny (model prog w) A (pyIter (.str (tx xs) t₀)) (fun it s₂ => LoopAtV prog w A h₀ env x body Q E it s₂) E s := by
  refine PySem.wpAny_pyIter_str fun o St hW hst => ?_
  have W := hW A hh
  refine loop_invN (fun i m nx => J (xs.drop i) m nx) W ?_ ?_ ?_ ?_ hst (F.push _) (fun p hp => ⟨Heap.get?_push_of_some _ (N p hp).1, (N p hp).2⟩) (by simpa using hj) ?_ ?_
  · intro hm
    exact absurd F.ns.lt ((List.mem_singleton.mp hm) ▸ Nat.lt_irrefl _)
  · intro b' hb
    rw [List.mem_singleton.mp hb]
    exact next_is_new F
  · intro p hp hI
    exact absurd (Heap.lt_size (N p hp).1) ((List.mem_singleton.mp hI) ▸ Nat.lt_irrefl _)
  · intro p hp hI
    exact absurd (Heap.lt_size (N p hp).1) ((List.mem_singleton.mp hI) ▸ Nat.lt_irrefl _)
  · rintro i v m₁ nx h tk own hi ⟨n, u, hn, rfl⟩ hadr hoff hJ F₁ N₁
    have hn' : xs[i]? = some n := by simpa [tx] using hn
    have e : xs.drop i = n :: xs.drop (i + 1) := by
      obtain ⟨hlt, hget⟩ := List.getElem?_eq_some_iff.mp hn'
      rw [List.drop_eq_getElem_cons hlt, hget]
    rw [e] at hJ
    exact turn n _ u m₁ nx h tk own hadr hoff hJ F₁ N₁
  · rintro m₁ nx h tk hJ F₁ N₁
    have e : xs.drop (tx xs).cps.size = [] := by
      rw [show (tx xs).cps.size = xs.length from tx_len xs]; exact List.drop_length
    rw [e] at hJ
    exact done m₁ nx h tk hJ F₁ N₁
end
theorem forOver {prog : Program} {w : World} {A : Around} {s : Shared} {env : Env} {h₀ : Heap} {m₀ : PySem.Str → Option Value} {E : Value → Shared → Prop} {Q : Flow → Shared → Prop} {x : PySem.Str} {px pos : Pos} {iter : PySem.Expr} {body : List Stmt} (F : Fr h₀ env.locals s.heap m₀) (hx : env.kindOf x = some .local)
    (hp : (env.scope.kind == .class || (env.scope.kind == .module && env.locals != env.globals)) = false)
    (h : wpAny (model prog w) A (eval iter env) (fun xv s₁ => wpAny (model prog w) A (pyIter xv) (fun it s₂ => LoopAtV prog w A h₀ env x body Q E it s₂) E s₁) E s)
    (hs : ∀ x, foldedSetIterable iter env x = pure x := by intro _; rfl)
    (hE : PassesOwn (model prog w) A env E := by passes_own) :
    wpAny (model prog w) A (exec (.For (.Name x px) iter body [] pos) env) Q E s := For_invV h₀ hx hp h hs hE
/-- a frame's map with one name told -/
theorem map1 {m : PySem.Str → Option Value} {x : PySem.Str} {v : Option Value} (h : m x = v) : m = fun y => if y = x then v else m y := by
  funext y; by_cases e : y = x
  · subst e; rw [if_pos rfl, h]
  · rw [if_neg e]
theorem map1' {m m0 : PySem.Str → Option Value} {x : PySem.Str} {v : Option Value} (h : m x = v) (h0 : ∀ y, y ≠ x → m y = m0 y) : m = fun y => if y = x then v else m0 y := by
  funext y; by_cases e : y = x
  · subst e; rw [if_pos rfl, h]
  · rw [if_neg e, h0 y e]
theorem map3' {m m0 : PySem.Str → Option Value} {x1 x2 x3 : PySem.Str} {v1 v2 v3 : Option Value} (h1 : m x1 = v1) (h2 : m x2 = v2) (h3 : m x3 = v3) (h0 : ∀ y, y ≠ x1 → y ≠ x2 → y ≠ x3 → m y = m0 y) :
    m = fun y => if y = x1 then v1 else if y = x2 then v2 else if y = x3 then v3 else m0 y := by
  funext y; by_cases e : y = x1
  · subst e; rw [if_pos rfl, h1]
  · rw [if_neg e]; by_cases e2 : y = x2
    · subst e2; rw [if_pos rfl, h2]
    · rw [if_neg e2]; by_cases e3 : y = x3
      · subst e3; rw [if_pos rfl, h3]
      · rw [if_neg e3, h0 y e e2 e3]
theorem map2' {m m0 : PySem.Str → Option Value} {x1 x2 : PySem.Str} {v1 v2 : Option Value} (h1 : m x1 = v1) (h2 : m x2 = v2) (h0 : ∀ y, y ≠ x1 → y ≠ x2 → m y = m0 y) :
    m = fun y => if y = x1 then v1 else if y = x2 then v2 else m0 y := by
  funext y; by_cases e : y = x1
  · subst e; rw [if_pos rfl, h1]
  · rw [if_neg e]; by_cases e2 : y = x2
    · subst e2; rw [if_pos rfl, h2]
    · rw [if_neg e2, h0 y e e2]
theorem ite_gt_t {a b : Int} {P Q : Prop} (h : a > b) (p : P) : if decide (a > b) = true then P else Q := by rw [if_pos (decide_eq_true h)]; exact p
theorem ite_gt_f {a b : Int} {P Q : Prop} (h : ¬ a > b) (q : Q) : if decide (a > b) = true then P else Q := by rw [if_neg (by rw [decide_eq_true_eq]; exact h)]; exact q
theorem ite_lt_t {a b : Int} {P Q : Prop} (h : a < b) (p : P) : if decide (a < b) = true then P else Q := by rw [if_pos (decide_eq_true h)]; exact p
theorem ite_lt_f {a b : Int} {P Q : Prop} (h : ¬ a < b) (q : Q) : if decide (a < b) = true then P else Q := by rw [if_neg (by rw [decide_eq_true_eq]; exact h)]; exact q
theorem ite_ge_t {a b : Int} {P Q : Prop} (h : a ≥ b) (p : P) : if decide (a ≥ b) = true then P else Q := by rw [if_pos (decide_eq_true h)]; exact p
theorem ite_ge_f {a b : Int} {P Q : Prop} (h : ¬ a ≥ b) (q : Q) : if decide (a ≥ b) = true then P else Q := by rw [if_neg (by rw [decide_eq_true_eq]; exact h)]; exact q
theorem ite_le_t {a b : Int} {P Q : Prop} (h : a ≤ b) (p : P) : if decide (a ≤ b) = true then P else Q := by rw [if_pos (decide_eq_true h)]; exact p
theorem ite_le_f {a b : Int} {P Q : Prop} (h : ¬ a ≤ b) (q : Q) : if decide (a ≤ b) = true then P else Q := by rw [if_neg (by rw [decide_eq_true_eq]; exact h)]; exact q
theorem unr_end {h₀ : Heap} {L I : Addr} {it : Obj} {rest : (PySem.Str → Option Value) → List (Addr × Obj) → Prop} {s₁ : Shared} {h' : Heap} {tk : Nat} {m' : PySem.Str → Option Value} {l : List (Addr × Obj)} (F : Fr h₀ L h' m') (N : News h₀ L h' ((I, it) :: l))
    (off : ∀ p ∈ l, p.1 ≠ I) (r : rest m' l) : UnrEnd h₀ L s₁ I it rest { s₁ with heap := h', toks := tk } := UnrEnd.intro F N l (fun _ hp => hp) off r
theorem room0 {d b L : Nat} (h : d + b < L) : d < L := Nat.lt_of_le_of_lt (Nat.le_add_right d b) h
theorem room1 {d a b L : Nat} (h : d + b < L) (e : Nat.ble a b = true) : d + a < L := Nat.lt_of_le_of_lt (Nat.add_le_add_left (Nat.le_of_ble_eq_true e) d) h
theorem room2 {d c a b L : Nat} (h : d + b < L) (e : Nat.ble (c + a) b = true) : d + c + a < L := by
  rw [Nat.add_assoc]; exact room1 h e
local macro_rules | `(tactic| ktr_room) => `(tactic| first | exact room2 (by assumption) rfl | exact room1 (by assumption) rfl | exact room0 (by assumption))
local macro_rules | `(tactic| ktr_units) => `(tactic| ktr_room)
local macro_rules | `(tactic| ktr_unf) => `(tactic| repeat (first | ((fail_if_success (with_reducible show wpAny _ _ (exec (Stmt.While _ _ _ _) _) _ _ _)); (fail_if_success (with_reducible show wpAny _ _ (exec (Stmt.For _ (Expr.Name _ _) _ _ _) _) _ _ _)); first | (k_unfold; (try dsimp only)) | walk1 | (dsimp only; walk1))))
local macro_rules | `(tactic| ktr_rel) => `(tactic| first | k_asm | exact newsT1 (by k_asm) | exact newsT1 (newsT1 (by k_asm)) | exact newsT1 (newsT1 (newsT1 (by k_asm))) | exact newsT1 (newsT1 (newsT1 (newsT1 (by k_asm)))) | exact newsT1 (newsT1 (newsT1 (newsT1 (newsT1 (by k_asm))))) | exact newsT1 (newsT1 (newsT1 (newsT1 (newsT1 (newsT1 (by k_asm)))))))
local macro_rules | `(tactic| walk_at "ite") => `(tactic| (first | refine ite_lt_t (by omega) ?_ | refine ite_lt_f (by omega) ?_ | refine ite_gt_t (by omega) ?_ | refine ite_gt_f (by omega) ?_ | refine ite_ge_t (by omega) ?_ | refine ite_ge_f (by omega) ?_ | refine ite_le_t (by omega) ?_ | refine ite_le_f (by omega) ?_))
local macro_rules | `(tactic| k_all) => `(tactic| first | assumption | exact allLt_ne (by assumption) | exact allLt_ne (‹_ ∧ AllLt _ _›).2 | exact allLt_ne (‹_ ∧ _ ∧ AllLt _ _›).2.2 | exact allLt_ne (‹_ ∧ _ ∧ _ ∧ AllLt _ _›).2.2.2 | exact allLt_ne (‹_ ∧ _ ∧ _ ∧ _ ∧ AllLt _ _›).2.2.2.2 | exact List.forall_mem_nil _ | (refine' List.forall_mem_cons.mpr ⟨?a, ?b⟩; (case a => k_ne); (case b => k_all)))
local macro_rules | `(tactic| walk_at "UnrEnd") => ln ``unr_end "aal_"
local macro_rules | `(tactic| walk_at "subscriptTail") => `(tactic| ((with_unfolding_all refine' item_at ?hA ?hT ?_ ?hs ?ht); (case hA => assumption); (case hT => assumption); (case hs => with_unfolding_all rfl); (case ht => intro _; with_unfolding_all rfl)))
local macro_rules | `(tactic| walk_at "binds") => `(tactic| first | exact BindsTo.of_eq rfl | exact binds_K (by k_in) rfl (by k_is) rfl rfl rfl)
local macro_rules | `(tactic| ktr_enter) => do `(tactic| ($(← ln ``code_def "BFXNTkkkiireL_kkkd"); k_whole; intro g' L' h' FG' F' N' B' X' T'; (try dsimp only); (try k_fold)))
theorem fill0 : One.hd.heap_1_39 = One.hd.heap_1_39 ∧ PySem.Challenge.rw_nm0127_01 = PySem.Challenge.rw_nm0127_01 := by
  k_fill
  exact ⟨rfl, rfl⟩

-- the part obj
theorem newsDrop2 {h₀ h : Heap} {L : Addr} {a b : Addr × Obj} {l : List (Addr × Obj)} (N : News h₀ L h (a :: b :: l)) : News h₀ L h (a :: l) := fun p hp => by
  rcases List.mem_cons.mp hp with rfl | hp
  · exact N _ (.head _)
  · exact N _ (.tail _ (.tail _ hp))
theorem ltN {a b : Nat} (h : a < b) : a < b := h
/-- the entries of a Token's dict -/
noncomputable abbrev tokD (P : Params) (sort text : PySem.Str) (v : Value) (row col : Int) (k1 t1 k2 t2 k3 k4 t4 k5 t5 : Tok) : List DictEntry :=
  [⟨PyData.keyHash P "sort", .str "sort" k1, .str sort t1⟩,
   ⟨PyData.keyHash P "text", .str "text" k2, .str text t2⟩,
   ⟨PyData.keyHash P "value", .str "value" k3, v⟩,
   ⟨PyData.keyHash P "row", .str "row" k4, .int row t4⟩,
   ⟨PyData.keyHash P "column", .str "column" k5, .int col t5⟩]
noncomputable abbrev K00 (w : World) : Frag := One.hd.heap_1_39 w.params
theorem obj_tok (w : World) : makesIn (K00 w) 90 = true ∧ findIn (K00 w) (.ref 90) "__init__" = some (some (.ref 87)) ∧ isFn (K00 w) (.ref 87) = true := ⟨by with_unfolding_all rfl, by with_unfolding_all rfl, by with_unfolding_all rfl⟩
theorem obj_lex (w : World) : makesIn (K00 w) 210 = true ∧ findIn (K00 w) (.ref 210) "__init__" = some (some (.ref 129)) ∧ isFn (K00 w) (.ref 129) = true := ⟨by with_unfolding_all rfl, by with_unfolding_all rfl, by with_unfolding_all rfl⟩
section
variable {w : World} {mean : ExcName → Option Value} {mg mb : PySem.Str → Option Value} {loose : List PySem.Str}
   {dp un : Nat} {gd : Option (List Code)} {cn : PySem.Str} {cs : Scope} {a : Addr} {ccd : Value} {cl : List (PySem.Str × Addr)} {outer : List Env} {A₀ : Around} {base h₀ : Heap} {L : Addr} {m : PySem.Str → Option Value} {news : List (Addr × Obj)} {s : Shared}
    {Q E : Value → Shared → Prop} {x dx : Addr} {sort text : PySem.Str} {t1 t2 t4 t5 : Tok} {v : Value}
theorem tinit_w {row col : Int} {R : Result → Shared → Prop}
    (B : Below A₀ base outer h₀) (F : Fr h₀ L s.heap m) (X : (One.hd.heap_1_39 w.params).In h₀) (N : News h₀ L s.heap ((x, instObj 90 dx) :: (dx, dictOf [] 0) :: news)) (TT : Top One.hd.view_1_40 loose mean mg mb h₀) (hk : cs.kind = .function)
    (hxd : x ≠ dx) (hnw : ∀ p ∈ news, p.1 ≠ dx)
    (hr : dp + 8 < recursionLimit) (hu : un + 60 < cLine) 
    (ret : ∀ h' tk k1 k2 k3 k4 k5, Fr h₀ L h' m → News h₀ L h' ((x, instObj 90 dx) :: (dx, dictOf (tokD w.params sort text v row col k1 t1 k2 t2 k3 k4 t4 k5 t5) 5) :: news) → R (.ok (.ret (.ref x))) { s with heap := h', toks := tk }) :
    codeAny (model prog0 w) (ktrTop dp un gd cn cs L a ccd cl outer) (.call (.ref 87) ⟨[.ref x, .str sort t1, .str text t2, v, .int row t4, .int col t5], []⟩) (InitBack x R) s := by
  w_on
  k_dflt ktr_enter
  k_steps
  exact ret _ _ _ _ _ _ _ (by k_asm) (by k_asm)
theorem linit_w {R : Result → Shared → Prop}
    (B : Below A₀ base outer h₀) (F : Fr h₀ L s.heap m) (X : (One.hd.heap_1_39 w.params).In h₀) (N : News h₀ L s.heap ((x, instObj 210 dx) :: (dx, dictOf [] 0) :: news)) (TT : Top One.hd.view_1_40 loose mean mg mb h₀) (hk : cs.kind = .function)
    (hxd : x ≠ dx) (hnw : ∀ p ∈ news, p.1 ≠ dx)
    (hr : dp + 8 < recursionLimit) (hu : un + 60 < cLine) 
    (ret : ∀ h' tk fl k1 k2 k3 k4 k5 t2 t3 t4 n, AllLt fl ((x, instObj 210 dx) :: (dx, dictOf [] 0) :: news) → Fr h₀ L h' m → News h₀ L h' ((fl, listOf #[] n) :: (x, instObj 210 dx) :: (dx, dictOf (lexD w.params text 0 1 1 fl k1 t1 k2 t2 k3 t3 k4 t4 k5) 5) :: news) → R (.ok (.ret (.ref x))) { s with heap := h', toks := tk }) :
    codeAny (model prog0 w) (ktrTop dp un gd cn cs L a ccd cl outer) (.call (.ref 129) ⟨[.ref x, .str text t1], []⟩) (InitBack x R) s := by
  w_on
  k_dflt ktr_enter
  k_steps
  rename _ < _ ∧ _ < _ ∧ AllLt _ _ => l1
  exact ret _ _ _ _ _ _ _ _ _ _ _ _ l1 (by k_asm) (by k_asm)
theorem token_c {row col : Int}
    (B : Below A₀ base outer h₀) (F : Fr h₀ L s.heap m) (X : (One.hd.heap_1_39 w.params).In h₀) (N : News h₀ L s.heap news) (TT : Top One.hd.view_1_40 loose mean mg mb h₀) (hk : cs.kind = .function)
    (hr : dp + 10 < recursionLimit) (hu : un + 80 < cLine)
    (ret : ∀ x dx h' tk k1 k2 k3 k4 k5, (∀ p ∈ news, p.1 < dx) → dx < x → Fr h₀ L h' m → News h₀ L h' ((x, instObj 90 dx) :: (dx, dictOf (tokD w.params sort text v row col k1 t1 k2 t2 k3 k4 t4 k5 t5) 5) :: news) → Q (.ref x) { s with heap := h', toks := tk }) :
    wpAny (model prog0 w) (ktrTop dp un gd cn cs L a ccd cl outer) (call (.ref 90) [.str sort t1, .str text t2, v, .int row t4, .int col t5]) Q E s := by
  have hA : ∃ u, u ≤ un + 10 ∧ (ktrTop dp un gd cn cs L a ccd cl outer).under (Code.builtin "type.__call__" { pos := [Value.ref 90, Value.str sort t1, Value.str text t2, v, Value.int row t4, Value.int col t5] }) = ktrTop (dp + 1) u gd cn cs L a ccd cl outer := by
    first
      | exact ⟨un, by omega, rfl⟩
      | exact ⟨un + 1, by omega, rfl⟩
      | exact ⟨un + 2, by omega, rfl⟩
      | exact ⟨un + 3, by omega, rfl⟩
      | exact ⟨un + 4, by omega, rfl⟩
      | exact ⟨un + 5, by omega, rfl⟩
      | exact ⟨un + 6, by omega, rfl⟩
      | exact ⟨un + 7, by omega, rfl⟩
      | exact ⟨un + 8, by omega, rfl⟩
      | exact ⟨un + 9, by omega, rfl⟩
  obtain ⟨u, hu', hA⟩ := hA
  obtain ⟨c1, c2, c3⟩ := obj_tok w
  refine call_cls F X N c1 c2 c3 fun x dx h' F' N' l1 l2 => ?_
  rw [hA]
  exact tinit_w (s := { s with heap := h' }) B F' X N' TT hk (Ne.symm (Nat.ne_of_lt l2)) (fun p hp => Nat.ne_of_lt (l1 p hp)) (by omega) (by omega) fun h'' tk k1 k2 k3 k4 k5 F'' N'' => ret x dx h'' tk k1 k2 k3 k4 k5 l1 l2 F'' N''
theorem lexer_c
    (B : Below A₀ base outer h₀) (F : Fr h₀ L s.heap m) (X : (One.hd.heap_1_39 w.params).In h₀) (N : News h₀ L s.heap news) (TT : Top One.hd.view_1_40 loose mean mg mb h₀) (hk : cs.kind = .function)
    (hr : dp + 10 < recursionLimit) (hu : un + 80 < cLine)
    (ret : ∀ x dx fl h' tk k1 k2 k3 k4 k5 t2 t3 t4 n, (∀ p ∈ news, p.1 < dx) → dx < x → x < fl → Fr h₀ L h' m → News h₀ L h' ((fl, listOf #[] n) :: (x, instObj 210 dx) :: (dx, dictOf (lexD w.params text 0 1 1 fl k1 t1 k2 t2 k3 t3 k4 t4 k5) 5) :: news) → Q (.ref x) { s with heap := h', toks := tk }) :
    wpAny (model prog0 w) (ktrTop dp un gd cn cs L a ccd cl outer) (call (.ref 210) [.str text t1]) Q E s := by
  have hA : ∃ u, u ≤ un + 10 ∧ (ktrTop dp un gd cn cs L a ccd cl outer).under (Code.builtin "type.__call__" { pos := [Value.ref 210, Value.str text t1] }) = ktrTop (dp + 1) u gd cn cs L a ccd cl outer := by
    first
      | exact ⟨un, by omega, rfl⟩
      | exact ⟨un + 1, by omega, rfl⟩
      | exact ⟨un + 2, by omega, rfl⟩
      | exact ⟨un + 3, by omega, rfl⟩
      | exact ⟨un + 4, by omega, rfl⟩
      | exact ⟨un + 5, by omega, rfl⟩
      | exact ⟨un + 6, by omega, rfl⟩
      | exact ⟨un + 7, by omega, rfl⟩
      | exact ⟨un + 8, by omega, rfl⟩
      | exact ⟨un + 9, by omega, rfl⟩
  obtain ⟨u, hu', hA⟩ := hA
  obtain ⟨c1, c2, c3⟩ := obj_lex w
  refine call_cls F X N c1 c2 c3 fun x dx h' F' N' l1 l2 => ?_
  rw [hA]
  exact linit_w (s := { s with heap := h' }) B F' X N' TT hk (Ne.symm (Nat.ne_of_lt l2)) (fun p hp => Nat.ne_of_lt (l1 p hp)) (by omega) (by omega) fun h'' tk fl k1 k2 k3 k4 k5 t2 t3 t4 n l3 F'' N'' => ret x dx fl h'' tk k1 k2 k3 k4 k5 t2 t3 t4 n l1 l2 l3.1 F'' N''
end
theorem append_L {prog : Program} {w : World} {A : Around} {E : Value → Shared → Prop} {s : Shared} {h₀ : Heap} {L D : Addr} {m : PySem.Str → Option Value} {news news' : List (Addr × Obj)} {its : Array Value} {n : Nat} {x : Value} {Q : Value → Shared → Prop} (F : Fr h₀ L s.heap m) (N : News h₀ L s.heap news) (U : Upd D (listOf its n) (listOf (its.push x) (n + 1)) news news')
    (hsz : its.size ≤ sizeLine) (h : ∀ h', Fr h₀ L h' m → News h₀ L h' news' → Q .none { s with heap := h' }) : wpAny (model prog w) A (call (.builtin "list.append") [.ref D, x]) Q E s := append_K F N U h hsz
local macro_rules | `(tactic| walk_at "N go") => `(tactic| repeat' (first | (k_unfold; (try dsimp only)) | (dsimp only; walk1) | walk1 | (dsimp only [List.cons_append, List.nil_append]; walk1)))
local macro_rules | `(tactic| walk_at "call ref") => lnAt 90 ``token_c "BFXNTkrn_" ".........lm.."
local macro_rules | `(tactic| walk_at "call ref") => lnAt 210 ``lexer_c "BFXNTkrn_" "..............lmm.."
local macro_rules | `(tactic| walk_at "size") => `(tactic| first | size_fits | (rw [show sizeLine = 16777216 from rfl]; omega))
local macro_rules | `(tactic| walk_at "call builtin:list.append") => ln ``append_L "BBuy_" "..."

-- the part lutf
/-- the octets of a sign, as the law reckons them -/
noncomputable def lawOct (p : Int) : List Int :=
  if p < 128 then [p] else if p < 2048 then [192 + p / 64, 128 + p % 64] else if p < 65536 then [224 + p / 4096, 128 + p / 64 % 64, 128 + p % 64] else [240 + p / 262144, 128 + p / 4096 % 64, 128 + p / 64 % 64, 128 + p % 64]
section
variable {w : World} {mean : ExcName → Option Value} {mg mb : PySem.Str → Option Value} {loose : List PySem.Str}
   {dp un : Nat} {gd : Option (List Code)} {cn : PySem.Str} {cs : Scope} {a : Addr} {ccd : Value} {cl : List (PySem.Str × Addr)} {outer : List Env} {A₀ : Around} {base h₀ : Heap} {L : Addr} {m : PySem.Str → Option Value} {news : List (Addr × Obj)} {s : Shared}
    {Q E : Value → Shared → Prop} {p : Int} {tp : Tok}
theorem lutf_c
    (B : Below A₀ base outer h₀) (F : Fr h₀ L s.heap m) (X : (One.hd.heap_1_39 w.params).In h₀) (N : News h₀ L s.heap news) (TT : Top One.hd.view_1_40 loose mean mg mb h₀) (hk : cs.kind = .function)
    (hp0 : 0 ≤ p) (hp1 : p < 1114112)
    (hr : dp + 8 < recursionLimit) (hu : un + 60 < cLine) 
    (ret : ∀ h' tk l n vs, (∀ p ∈ news, p.1 < l) → IntsAre vs (lawOct p) → Fr h₀ L h' m → News h₀ L h' ((l, listOf vs.toArray n) :: news) → Q (.ref l) { s with heap := h', toks := tk }) :
    wpAny (model prog0 w) (ktrTop dp un gd cn cs L a ccd cl outer) (call (.ref 249) [.int p tp]) Q E s := by
  w_on
  have f1 : ∀ q : Int, q.fdiv 64 = q / 64 := fun q => Int.fdiv_eq_ediv_of_nonneg q (by decide)
  have f2 : ∀ q : Int, q.fdiv 4096 = q / 4096 := fun q => Int.fdiv_eq_ediv_of_nonneg q (by decide)
  have f3 : ∀ q : Int, q.fdiv 262144 = q / 262144 := fun q => Int.fdiv_eq_ediv_of_nonneg q (by decide)
  have f4 : ∀ q : Int, q.fdiv 1 = q := fun q => by rw [Int.fdiv_eq_ediv_of_nonneg q (by decide), Int.ediv_one]
  have f5 : ∀ q : Int, q.fmod 64 = q % 64 := fun q => Int.fmod_eq_emod_of_nonneg q (by decide)
  refine wpAny_call ?_
  k_dflt ktr_enter
  walk_at "N go"
  · rename _ < _ => h1
    have e : lawOct p = [p] := if_pos h1
    rename News h₀ _ _ _ => N9
    rename Fr h₀ _ _ _ => F9
    exact ret _ _ _ _ [_] (by first | assumption | exact allLt_lt (‹_ ∧ AllLt _ _›).2) (by rw [e]; exact .cons _ _ .nil) F9 N9
  · rename ¬ _ < _ => h1
    rename _ < _ => h2
    have e : lawOct p = [192 + p.fdiv 64, 128 + (p.fdiv 1).fmod 64] := by rw [lawOct, if_neg h1, if_pos h2, f1, f4, f5]
    rename News h₀ _ _ _ => N9
    rename Fr h₀ _ _ _ => F9
    try simp only [List.push_toArray, List.cons_append, List.nil_append] at N9
    exact ret _ _ _ _ [_, _] (by first | assumption | exact allLt_lt (‹_ ∧ AllLt _ _›).2) (by rw [e]; exact .cons _ _ (.cons _ _ .nil)) F9 (newsDrop2 N9)
  · rename ¬ _ < 128 => h1
    rename ¬ _ < 2048 => h2
    rename _ < _ => h3
    have e : lawOct p = [224 + p.fdiv 4096, 128 + (p.fdiv 64).fmod 64, 128 + (p.fdiv 1).fmod 64] := by rw [lawOct, if_neg h1, if_neg h2, if_pos h3, f1, f2, f4, f5, f5]
    rename News h₀ _ _ _ => N9
    rename Fr h₀ _ _ _ => F9
    try simp only [List.push_toArray, List.cons_append, List.nil_append] at N9
    exact ret _ _ _ _ [_, _, _] (by first | assumption | exact allLt_lt (‹_ ∧ AllLt _ _›).2) (by rw [e]; exact .cons _ _ (.cons _ _ (.cons _ _ .nil))) F9 (newsDrop2 N9)
  · rename ¬ _ < 128 => h1
    rename ¬ _ < 2048 => h2
    rename ¬ _ < 65536 => h3
    have e : lawOct p = [240 + p.fdiv 262144, 128 + (p.fdiv 4096).fmod 64, 128 + (p.fdiv 64).fmod 64, 128 + (p.fdiv 1).fmod 64] := by rw [lawOct, if_neg h1, if_neg h2, if_neg h3, f1, f2, f3, f4, f5, f5, f5]
    rename News h₀ _ _ _ => N9
    rename Fr h₀ _ _ _ => F9
    try simp only [List.push_toArray, List.cons_append, List.nil_append] at N9
    exact ret _ _ _ _ [_, _, _, _] (by first | assumption | exact allLt_lt (‹_ ∧ AllLt _ _›).2) (by rw [e]; exact .cons _ _ (.cons _ _ (.cons _ _ (.cons _ _ .nil)))) F9 (newsDrop2 N9)
end
local macro_rules | `(tactic| walk_at "call ref") => lnAt 249 ``lutf_c "BFXNTkoorn_" ".....l..."

-- the part lpts
/-- the points that the law tries -/
noncomputable def pts : List Int := [57343, 0, 1, 8, 9, 10, 11, 13, 31, 32, 33, 34, 39, 92, 126, 127, 128, 2047, 2048, 55295, 55296, 56319, 56320, 57344, 65535, 65536, 1114111, 1114112, 1179648]
section
variable {w : World} {mean : ExcName → Option Value} {mg mb : PySem.Str → Option Value} {loose : List PySem.Str}
   {dp un : Nat} {gd : Option (List Code)} {cn : PySem.Str} {cs : Scope} {a : Addr} {ccd : Value} {cl : List (PySem.Str × Addr)} {outer : List Env} {A₀ : Around} {base h₀ : Heap} {L : Addr} {m : PySem.Str → Option Value} {news : List (Addr × Obj)} {s : Shared}
    {Q E : Value → Shared → Prop}
theorem lpts_c
    (B : Below A₀ base outer h₀) (F : Fr h₀ L s.heap m) (X : (One.hd.heap_1_39 w.params).In h₀) (N : News h₀ L s.heap news) (TT : Top One.hd.view_1_40 loose mean mg mb h₀) (hk : cs.kind = .function)
    (hr : dp + 8 < recursionLimit) (hu : un + 60 < cLine) 
    (ret : ∀ h' tk l n vs, (∀ p ∈ news, p.1 < l) → IntsAre vs pts → Fr h₀ L h' m → News h₀ L h' ((l, listOf vs.toArray n) :: news) → Q (.ref l) { s with heap := h', toks := tk }) :
    wpAny (model prog0 w) (ktrTop dp un gd cn cs L a ccd cl outer) (call (.ref 256) []) Q E s := by
  w_on
  refine wpAny_call ?_
  k_dflt ktr_enter
  walk_at "N go"
  rename News h₀ _ _ _ => N9
  rename Fr h₀ _ _ _ => F9
  exact ret _ _ _ _ _ (allLt_lt (‹_ ∧ _ ∧ AllLt _ _›).2.2) (by unfold pts; repeat' (first | exact .nil | refine .cons _ _ ?_)) F9 (newsDrop2 (newsDrop2 N9))
end
local macro_rules | `(tactic| walk_at "call ref") => lnAt 256 ``lpts_c "BFXNTkrn_" ".....l..."

-- the part lnext
/-- what the pen reads at its k-th turn -/
noncomputable def nxt (ns : List Int) (k : Int) : Int := ns.getD k.toNat 0 + 41 * k
theorem nxt_out {ns : List Int} {k : Int} (h : ¬ k < (ns.length : Int)) : 41 * k = nxt ns k := by
  unfold nxt
  rw [List.getD_eq_getElem?_getD, List.getElem?_eq_none (by omega), Option.getD_none]; omega
theorem isList_keeps {h h' : Heap} {l : Addr} {vs : Array Value} (hk : ∀ b o, h.get? b = some o → h'.get? b = some o) (hL : h.IsList l vs) : h'.IsList l vs := by
  obtain ⟨o, h1, h2⟩ := hL
  exact ⟨o, hk _ _ h1, h2⟩
section
variable {w : World} {mean : ExcName → Option Value} {mg mb : PySem.Str → Option Value} {loose : List PySem.Str}
   {dp un : Nat} {gd : Option (List Code)} {cn : PySem.Str} {cs : Scope} {a : Addr} {ccd : Value} {cl : List (PySem.Str × Addr)} {outer : List Env} {A₀ : Around} {base h₀ : Heap} {L : Addr} {m : PySem.Str → Option Value} {news : List (Addr × Obj)} {s : Shared}
    {Q E : Value → Shared → Prop} {pn sc : Addr} {np : Nat} {k : Int} {tp : Tok} {ns : List Int} {vs : List Value}
theorem next_w
    (B : Below A₀ base outer h₀) (F : Fr h₀ L s.heap m) (X : (One.hd.heap_1_39 w.params).In h₀) (N : News h₀ L s.heap ((pn, listOf #[.ref sc, .int k tp] np) :: news)) (TT : Top One.hd.view_1_40 loose mean mg mb h₀) (hk : cs.kind = .function)
    (hnw : ∀ p ∈ news, p.1 ≠ pn) (hL : h₀.IsList sc vs.toArray) (hI : IntsAre vs ns) (hn : ns.length ≤ 63) (hk0 : 0 ≤ k) (hkk : k ≤ 100)
    (hr : dp + 8 < recursionLimit) (hu : un + 60 < cLine) 
    (ret : ∀ h' tk tp' t np', Fr h₀ L h' m → News h₀ L h' ((pn, listOf #[.ref sc, .int (k + 1) tp'] np') :: news) → Q (.int (nxt ns k) t) { s with heap := h', toks := tk }) :
    wpAny (model prog0 w) (ktrTop dp un gd cn cs L a ccd cl outer) (call (.ref 228) [.ref pn]) Q E s := by
  w_on
  refine wpAny_call ?_
  k_dflt ktr_enter
  rename Fr h₀ L _ m => FG
  have hL1 := isList_keeps FG.keep hL
  k_steps
  · exact ret _ _ _ _ _ (by k_asm) (by k_asm)
  · rw [nxt_out (by assumption)]
    exact ret _ _ _ _ _ (by k_asm) (by k_asm)
theorem next_c {nw : Obj → List (Addr × Obj)}
    (B : Below A₀ base outer h₀) (F : Fr h₀ L s.heap m) (X : (One.hd.heap_1_39 w.params).In h₀) (N : News h₀ L s.heap news) (TT : Top One.hd.view_1_40 loose mean mg mb h₀) (hk : cs.kind = .function)
    (U : ∀ o', Upd pn (listOf #[.ref sc, .int k tp] np) o' news (nw o')) (hL : h₀.IsList sc vs.toArray) (hI : IntsAre vs ns) (hn : ns.length ≤ 63) (hk0 : 0 ≤ k) (hkk : k ≤ 100)
    (hr : dp + 8 < recursionLimit) (hu : un + 60 < cLine) 
    (ret : ∀ h' tk tp' t np', Fr h₀ L h' m → News h₀ L h' (nw (listOf #[.ref sc, .int (k + 1) tp'] np')) → Q (.int (nxt ns k) t) { s with heap := h', toks := tk }) :
    wpAny (model prog0 w) (ktrTop dp un gd cn cs L a ccd cl outer) (call (.ref 228) [.ref pn]) Q E s := by
  obtain ⟨rest, r1, r2⟩ := upd_rest (U default)
  have N1 : News h₀ L s.heap ((pn, listOf #[.ref sc, .int k tp] np) :: rest) := fun p hp => by
    rcases List.mem_cons.mp hp with rfl | hp
    · exact N _ (upd_mem (U default))
    · exact N p (r1 p hp).1
  refine next_w B F X N1 TT hk (fun p hp => (r1 p hp).2) hL hI hn hk0 hkk hr hu fun h' tk tp' t np' F' N' => ret h' tk tp' t np' F' fun p hp => ?_
  · rcases upd_sub (U _) p hp with rfl | ⟨hm, hne⟩
    · exact N' _ (.head _)
    · exact N' p (.tail _ (r2 p hm hne))
end
local macro_rules | `(tactic| walk_at "call ref") => lnAt 228 ``next_c "BFXNTkUaaaoorn_" "......."

-- the part nrules
section
variable {M : Model} {A : Around} {E : Value → Shared → Prop} {s : Shared} {env : Env}
theorem N_cons {st : Stmt} {rest : List Stmt} {Q : Flow → Shared → Prop} (h : wpN M A (exec st env) (fun f s' => match f with | .next => wpN M A (execs rest env) Q E s' | f => Q f s') E s) : wpN M A (execs (st :: rest) env) Q E s := by
  rw [arm_execs_cons]
  refine wpN_bind (wpN_mono h (fun f s' h' => ?_) fun _ _ x => x)
  cases f <;> first | exact h' | exact wpN_pure h'
theorem N_consA {st : Stmt} {rest : List Stmt} {Q : Flow → Shared → Prop} (h : wpAny M A (exec st env) (fun f s' => match f with | .next => wpN M A (execs rest env) Q E s' | f => Q f s') E s) : wpN M A (execs (st :: rest) env) Q E s := N_cons (wpN_any h)
theorem N_nil {Q : Flow → Shared → Prop} (h : Q .next s) : wpN M A (execs [] env) Q E s := wpN_pure h
/-- one statement alone -/
theorem N_one {st : Stmt} {Q : Flow → Shared → Prop} (h : wpN M A (exec st env) Q E s) : wpN M A (execs [st] env) Q E s :=
  N_cons (wpN_mono h (fun f _ h' => by cases f <;> first | exact h' | exact N_nil h') fun _ _ x => x)
theorem N_Expr {e : PySem.Expr} {pos : Pos} {Q : Flow → Shared → Prop} (h : wpN M A (eval e env) (fun v s' => match v with | .ref _ => False | _ => Q .next s') E s)
    (hi : interactive env = false := by rfl) (hs : swapsWith e none pos.line env = pure false := by rfl) : wpN M A (exec (.Expr e pos) env) Q E s := by
  rw [exec_Expr env e pos hi hs]
  refine wpN_bindA (wpAny_standAt (wpN_bind (wpN_mono h (fun v s' h' => ?_) fun _ _ x => x)))
  have hv : ∀ a, v ≠ .ref a := fun a hva => by subst hva; exact h'
  rw [dropValue_plain hv]
  refine wpN_pure ?_
  cases v <;> first | exact h' | exact (hv _ rfl).elim
theorem N_Return {e : PySem.Expr} {pos : Pos} {Q : Flow → Shared → Prop} (h : wpN M A (eval e env) (fun v => Q (.ret v)) E s) : wpN M A (exec (.Return (some e) pos) env) Q E s := by
  rw [arm_exec_Return]
  refine wpN_bindA (wpAny_standAt ?_)
  show wpN M A (eval e env >>= fun v => pure (.ret v)) Q E s
  exact wpN_bind (wpN_mono h (fun v s' h' => wpN_pure h') fun _ _ x => x)
theorem N_If {test : PySem.Expr} {body orelse : List Stmt} {pos : Pos} {Q : Flow → Shared → Prop} (h : wpAny M A (isTrue test env (eval test env)) (fun b s' => if b = true then wpN M A (execs body env) Q E s' else wpN M A (execs orelse env) Q E s') E s) :
    wpN M A (exec (.If test body orelse pos) env) Q E s := by
  rw [arm_exec_If]
  refine wpN_bindA (wpAny_standAt (wpN_bindA (wpAny_mono h (fun b s' h' => ?_) fun _ _ x => x)))
  cases b <;> simpa using h'
theorem N_AssignName {x : PySem.Str} {px pos : Pos} {value : PySem.Expr} {Q : Flow → Shared → Prop} (h : wpN M A (eval value env) (fun v s₁ => wpAny M A (storeName env x v) (fun _ => Q .next) E s₁) E s)
    (hs : swapsWith value (some (.Name x px)) pos.line env = pure false := by rfl) : wpN M A (exec (.Assign [.Name x px] value pos) env) Q E s := by
  rw [exec_Assign_Name env x px value pos hs]
  exact wpN_bindA (wpAny_standAt (wpN_bind (wpN_mono h (fun v s₁ h₁ => wpN_bindA (wpAny_standAt (wpN_bindA (wpAny_bindName (wpAny_mono h₁ (fun _ _ q => wpN_pure q) fun _ _ x => x))))) fun _ _ x => x)))
theorem N_AssignSwap {elts k tpos value pos} {names : List PySem.Str} {Q : Flow → Shared → Prop}
    (h : wpN M A (eval value env) (fun v s₁ => wpAny M A (unpackItems v names.length none) (fun items s₂ =>
      wpAny M A (assignInOrder (names.reverse.map fun n => bindName env n) items.reverse) (fun _ => Q .next) E s₂) E s₁) E s)
    (hs : swapsWithSole [.Tuple elts k tpos] value pos.line env = pure false := by rfl)
    (hw : swappedStores [.Tuple elts k tpos] value env = pure (some names) := by rfl) :
    wpN M A (exec (.Assign [.Tuple elts k tpos] value pos) env) Q E s := by
  rw [arm_exec_Assign]
  refine wpN_bindA (wpAny_standAt ?_)
  refine wpN_bindA (wpAny_of_eq hs ?_)
  refine wpN_ite_f (by decide) ?_
  refine wpN_bind (wpN_mono h (fun v s₁ h₁ => ?_) fun _ _ x => x)
  refine wpN_bindA (wpAny_of_eq hw ?_)
  refine wpN_any ?_
  show wpAny M A (do rule "assign.swapped-stores"; let items ← unpackItems v names.length none; assignInOrder (names.reverse.map fun n => bindName env n) items.reverse; pure .next) Q E s₁
  exact wpAny_bind (wpAny_rule (wpAny_bind (wpAny_mono h₁ (fun items s₂ h₂ => wpAny_bind (wpAny_mono h₂ (fun _ _ x => wpAny_pure x) fun _ _ x => x)) fun _ _ x => x)))
theorem N_Tuple {elts : List PySem.Expr} {k : Nat} {pos : Pos} {Q : Value → Shared → Prop}
    (h : wpN M A (spliced (backTo pos (starEach elts env)))
      (fun vs s₁ => vs.length ≤ sizeLine ∧ Q (.ref s₁.heap.objs.size) { s₁ with heap := s₁.heap.push { cls := .type "tuple", data := .seq vs.toArray } }) E s) : wpN M A (eval (.Tuple elts k pos) env) Q E s := by
  rw [arm_eval_Tuple]
  exact wpN_bindA (wpAny_standAt (wpN_bind (wpN_mono h (fun vs s₁ h₁ => wpN_any (wpAny_newObj_type h₁.2 (by show vs.toArray.size ≤ sizeLine; rw [List.size_toArray]; exact h₁.1))) fun _ _ x => x)))
theorem N_spliced_cons {x : Sem Value} {rest : List (Bool × Sem Value)} {Q : List Value → Shared → Prop}
    (h : wpN M A x (fun v s₁ => wpN M A (spliced rest) (fun vs s₂ => Q (v :: vs) s₂) E s₁) E s) : wpN M A (spliced ((false, x) :: rest)) Q E s := by
  rw [spliced]
  refine wpN_bind (wpN_mono h (fun v s₁ h₁ => ?_) fun _ _ x => x)
  simp only [Bool.false_eq_true, if_false]
  exact wpN_bindA (wpAny_pure (wpN_bind (wpN_holding (wpN_mono h₁ (fun vs s₂ h₂ => wpN_pure h₂) fun _ _ x => x))))
theorem N_items_cons {e : PySem.Expr} {rest : List PySem.Expr} {pos : Pos} {Q : List Value → Shared → Prop} (h : wpN M A (eval e env) (fun v s₁ => wpN M A (spliced (backTo pos (starEach rest env))) (fun vs s₂ => Q (v :: vs) s₂) E s₁) E s)
    (he : starEach (e :: rest) env = (false, eval e env) :: starEach rest env := by rfl) : wpN M A (spliced (backTo pos (starEach (e :: rest) env))) Q E s := by
  rw [he]; exact N_spliced_cons h
theorem N_items_nil {pos : Pos} {Q : List Value → Shared → Prop} (h : Q [] s) : wpN M A (spliced (backTo pos (starEach [] env))) Q E s := wpN_pure h
theorem N_evalArgs_plain {f : Value} {x : Sem Value} {rest : List (Bool × Sem Value)} {Q : Args → Shared → Prop}
    (h : wpN M A (spliced ((false, x) :: rest)) (fun vs s' => Q ⟨vs, []⟩ s') E s) : wpN M A (evalArgs f true ((false, x) :: rest) []) Q E s := by
  unfold evalArgs
  show wpN M A (spliced ((false, x) :: rest) >>= _) Q E s
  refine wpN_bind (wpN_mono h (fun vs s' h' => ?_) fun _ _ x => x)
  refine wpN_holding ?_
  exact wpN_bindA (wpAny_pure (wpN_bindA (wpAny_pure (wpN_pure h'))))
theorem N_evalArgs_none {f : Value} {Q : Args → Shared → Prop} (h : Q ⟨[], []⟩ s) : wpN M A (evalArgs f true [] []) Q E s := wpN_any (PyProof.Rows.evalArgs_nil3 h)
theorem N_CallName {id : PySem.Str} {p pos : Pos} {args : List PySem.Expr} {Q : Value → Shared → Prop}
    (h : wpAny M A (eval (.Name id p) env) (fun f s₁ => wpN M A (callWith pos f [] (backTo pos (starEach args env)) []) Q E s₁) E s) :
    wpN M A (eval (.Call (.Name id p) args [] pos) env) Q E s := by
  rw [arm_eval_Call_Name']
  exact wpN_bindA h
theorem N_method {o : PySem.Expr} {name : PySem.Str} {apos pos : Pos} {args : List PySem.Expr} {Q : Value → Shared → Prop}
    (hbase : attributeBase o name env (eval o env) = eval o env) (hfew : methodCallForm (args.length + 0) (backTo pos (starEach args env)) [] = true) (hline : (apos.endLine == pos.line) = true)
    (h : wpAny M A (eval o env) (fun ov s₁ => wpAny M A (getMethod ov name (do return (← importBound o env).getD true)) (fun fl s₂ => wpN M A (callWith pos fl.1 fl.2 (backTo pos (starEach args env)) []) Q E s₂) E s₁) E s) :
    wpN M A (eval (.Call (.Attribute o name apos) args [] pos) env) Q E s := by
  rw [arm_eval_Call, hbase]
  refine wpN_bindA (wpAny_mono h (fun ov s₁ h₁ => ?_) fun _ _ e => e)
  refine wpN_bindA (wpAny_standAt ?_)
  unfold methodCall
  show wpN M A (holding [ov] (calleeOf (methodCallForm (args.length + 0) (backTo pos (starEach args env)) []) o env ov name) >>= _) Q E s₁
  rw [hfew]
  refine wpN_bindA (wpAny_holding (wpAny_mono h₁ (fun fl s₂ h₂ => ?_) fun _ _ e => e))
  refine wpN_bindA (wpAny_of_eq (a := pos) ?_ h₂)
  unfold methodCallPos
  rw [hline, Bool.or_true]; rfl
theorem N_callWith {pos : Pos} {f : Value} {first : List Value} {args : List (Bool × Sem Value)} {Q : Value → Shared → Prop} (hplain : args.any (·.1) = false)
    (h : wpN M A (evalArgs f true args []) (fun a s₁ => (∃ k, (k = Keeper.frame ∨ k = Keeper.machine ∨ k = Keeper.boundFrame) ∧ Looks M s₁.heap (keeperOf f) k) ∧ wpN M A (call f (first ++ a.pos) a.kw) Q E s₁) E s) :
    wpN M A (callWith pos f first args []) Q E s := by
  unfold callWith
  refine wpN_bind (wpN_holding (wpN_mono h (fun a s₁ h₁ => ?_) fun _ _ x => x))
  refine wpN_bindA (wpAny_standAt ?_)
  obtain ⟨⟨k, hk', L⟩, hc⟩ := h₁
  simp only [hplain, List.any_nil, Bool.or_false]
  refine wpN_bindA (L.here ?_)
  have tail : ∀ {t : Sem Value}, wpN M A t Q E s₁ → wpN M A (t >>= fun r => holding [r] point >>= fun _ => pure r) Q E s₁ :=
    fun ht => wpN_bind (wpN_mono ht (fun r s₂ hr => wpN_bindA (wpAny_holding (wpAny_point (wpN_pure hr)))) fun _ _ x => x)
  have marked (mk : Value) : wpN M A (callMarked mk f (first ++ a.pos) a.kw) Q E s₁ := by
    unfold callMarked
    exact fun Γ p hΓ h1 h2 => by rw [Sem.wp_keep]; exact hc Γ p hΓ h1 h2
  rcases hk' with rfl | rfl | rfl <;> dsimp only <;> first | exact tail hc | (split <;> first | exact tail hc | exact tail (marked _))
theorem N_callWith_K {K : Frag} {e : PySem.Expr} {rest : List PySem.Expr} {pos : Pos} {f : Value} {first : List Value} {Q : Value → Shared → Prop} (hk : keepIn K f = true)
    (h : wpN M A (spliced (backTo pos (starEach (e :: rest) env))) (fun vs s₁ => K.In s₁.heap ∧ wpN M A (call f (first ++ vs)) Q E s₁) E s)
    (he : starEach (e :: rest) env = (false, eval e env) :: starEach rest env := by rfl) (hplain : (backTo pos (starEach rest env)).any (·.1) = false := by rfl) :
    wpN M A (callWith pos f first (backTo pos (starEach (e :: rest) env)) []) Q E s := by
  rw [he] at h ⊢
  refine N_callWith (by show (false || (backTo pos (starEach rest env)).any (·.1)) = false; rw [hplain]; rfl) ?_
  exact N_evalArgs_plain (wpN_mono h (fun vs s₁ h₁ => ⟨keeps_K hk _ h₁.1, h₁.2⟩) fun _ _ x => x)
theorem N_callWith_K0 {K : Frag} {pos : Pos} {f : Value} {first : List Value} {Q : Value → Shared → Prop} (X : K.In s.heap) (hk : keepIn K f = true) (h : wpN M A (call f (first ++ [])) Q E s) : wpN M A (callWith pos f first (backTo pos (starEach [] env)) []) Q E s :=
  N_callWith rfl (N_evalArgs_none ⟨keeps_K hk _ X, h⟩)
theorem looks_builtin {h : Heap} {id : String} : ∃ k, (k = Keeper.frame ∨ k = Keeper.machine ∨ k = Keeper.boundFrame) ∧ Looks M h (keeperOf (.builtin id)) k := ⟨.machine, .inr (.inl rfl), .now⟩
theorem N_callWith_B {e : PySem.Expr} {rest : List PySem.Expr} {pos : Pos} {id : String} {first : List Value} {Q : Value → Shared → Prop}
    (h : wpN M A (spliced (backTo pos (starEach (e :: rest) env))) (fun vs s₁ => wpN M A (call (.builtin id) (first ++ vs)) Q E s₁) E s)
    (he : starEach (e :: rest) env = (false, eval e env) :: starEach rest env := by rfl) (hplain : (backTo pos (starEach rest env)).any (·.1) = false := by rfl) :
    wpN M A (callWith pos (.builtin id) first (backTo pos (starEach (e :: rest) env)) []) Q E s := by
  rw [he] at h ⊢
  refine N_callWith (by show (false || (backTo pos (starEach rest env)).any (·.1)) = false; rw [hplain]; rfl) ?_
  exact N_evalArgs_plain (wpN_mono h (fun vs s₁ h₁ => ⟨looks_builtin, h₁⟩) fun _ _ x => x)
theorem looks_type {h : Heap} {t : String} : ∃ k, (k = Keeper.frame ∨ k = Keeper.machine ∨ k = Keeper.boundFrame) ∧ Looks M h (keeperOf (.type t)) k := ⟨.machine, .inr (.inl rfl), .now⟩
theorem N_callWith_T0 {pos : Pos} {t : String} {first : List Value} {Q : Value → Shared → Prop} (h : wpN M A (call (.type t) (first ++ [])) Q E s) : wpN M A (callWith pos (.type t) first (backTo pos (starEach [] env)) []) Q E s :=
  N_callWith rfl (N_evalArgs_none ⟨looks_type, h⟩)
theorem N_callWith_T {e : PySem.Expr} {rest : List PySem.Expr} {pos : Pos} {t : String} {first : List Value} {Q : Value → Shared → Prop}
    (h : wpN M A (spliced (backTo pos (starEach (e :: rest) env))) (fun vs s₁ => wpN M A (call (.type t) (first ++ vs)) Q E s₁) E s)
    (he : starEach (e :: rest) env = (false, eval e env) :: starEach rest env := by rfl) (hplain : (backTo pos (starEach rest env)).any (·.1) = false := by rfl) :
    wpN M A (callWith pos (.type t) first (backTo pos (starEach (e :: rest) env)) []) Q E s := by
  rw [he] at h ⊢
  refine N_callWith (by show (false || (backTo pos (starEach rest env)).any (·.1)) = false; rw [hplain]; rfl) ?_
  exact N_evalArgs_plain (wpN_mono h (fun vs s₁ h₁ => ⟨looks_type, h₁⟩) fun _ _ x => x)
theorem N_runOwn {c : Code} {h : Option Value} {Q : Flow → Shared → Prop}
    (hc : codeN M (A.mark h) c (fun r s' => match r with | .ok f => Q f s' | .error e => cameBackBy M A env E e s') s) (hnb : h ≠ some byPass := by intro x; cases x) :
    wpN M A (runOwn c env h) Q E s := by
  unfold runOwn
  exact wpN_onRaise (wpN_mono (wpN_run (Q := Q) (E := fun e s' => cameBackBy M A env E e s') hc hnb) (fun _ _ x => x) fun _ _ x => wpN_any x)
end
section
variable {prog : Program} {w : World} {A : Around} {E : Value → Shared → Prop} {s : Shared} {env : Env}
theorem N_while {test : PySem.Expr} {body : List Stmt} {R : Result → Shared → Prop} (I : Nat → Shared → Prop)
    (turn : ∀ n s, I n s →
      wpAny (model prog w) A (isTrue test env (eval test env)) (fun b s₂ =>
        if b = true then wpN (model prog w) A (execs body env) (fun f s₃ => match f with
            | .next | .cont => ∃ m, m < n ∧ I m s₃
            | .brk => R (.ok .next) s₃
            | .ret v => R (.ok (.ret v)) s₃) (notedBy (model prog w) A env fun e s' => R (.error e) s') s₂
        else R (.ok .next) s₂)
        (notedBy (model prog w) A env fun e s' => R (.error e) s') s)
    (n : Nat) (h : I n s) : codeN (model prog w) A (.whileLoop test body [] env) R s := by
  refine codeN_loop rfl rfl I (fun n s hI => ?_) n h
  show wpN _ A ((whileTurn test body [] env).onRaise (fun x => do noteFrame x env; theTreesLotGoes x)) _ _ s
  have noted : ∀ {t : Sem PySem.Fin} {Q : PySem.Fin → Shared → Prop} {E' : Value → Shared → Prop}, wpN (model prog w) A t Q (notedBy (model prog w) A env E') s → wpN (model prog w) A (t.onRaise (fun x => do noteFrame x env; theTreesLotGoes x)) Q E' s := fun ht =>
    wpN_onRaise (wpN_mono ht (fun _ _ q => q) fun _ _ hx => wpN_any (wpAny_bind (wpAny_mono hx (fun _ _ e => wpAny_theTreesLotGoes e) fun _ _ e => e)))
  refine noted ?_
  simp only [whileTurn]
  refine wpN_bindA (wpAny_mono (turn n s hI) (fun b s₂ h₂ => ?_) fun _ _ h' => h')
  cases b with
  | false =>
    simp only [Bool.false_eq_true, if_false] at h₂ ⊢
    exact wpN_bindA (wpAny_execs_nil (wpN_pure h₂))
  | true =>
    simp only [if_true] at h₂ ⊢
    refine wpN_bind (wpN_mono h₂ (fun f s₃ h₃ => ?_) fun _ _ h' => h')
    cases f with
    | next => exact wpN_pure ⟨rfl, h₃⟩
    | cont => exact wpN_pure ⟨rfl, h₃⟩
    | brk => exact wpN_pure h₃
    | ret v => exact wpN_pure h₃
end

-- the part npre
section
theorem execs_append (l1 l2 : List Stmt) (env : Env) : execs (l1 ++ l2) env = (execs l1 env >>= fun f => match f with | .next => execs l2 env | f => pure f) := by
  induction l1 with
  | nil =>
    rw [List.nil_append, show execs [] env = pure Flow.next from rfl, pure_bind]
  | cons st r ih =>
    rw [List.cons_append, arm_execs_cons, arm_execs_cons, bind_assoc, ih]
    congr 1; funext f
    cases f <;> first | rfl | rw [pure_bind]
variable {M : Model} {A : Around} {E : Value → Shared → Prop} {s : Shared} {env : Env}
/-- the first n statements by the library's rules -/
theorem N_first (n : Nat) {l : List Stmt} {Q : Flow → Shared → Prop} (h : wpAny M A (execs (l.take n) env) (fun f s' => match f with | .next => wpN M A (execs (l.drop n) env) Q E s' | f => Q f s') E s) : wpN M A (execs l env) Q E s := by
  rw [← List.take_append_drop n l, execs_append]
  refine wpN_bindA (wpAny_mono h (fun f s' h' => ?_) fun _ _ x => x)
  cases f <;> first | exact h' | exact wpN_pure h'
end

-- the part lit
/-! a written table: what it is made of, where it stands -/
inductive Lit where
  | int (i : Int)
  | str (s : PySem.Str)
  | tup (l : List Lit)
  | list (l : List Lit)
mutual
inductive LitAt (news : List (Addr × Obj)) : Value → Lit → Prop
  | int {i t} : LitAt news (.int i t) (.int i)
  | str {x t} : LitAt news (.str x t) (.str x)
  | tup {a vs l} : (a, ({ cls := .type "tuple", data := .seq vs.toArray } : Obj)) ∈ news → LitsAt news vs l → LitAt news (.ref a) (.tup l)
  | list {a vs l n} : (a, listOf vs.toArray n) ∈ news → LitsAt news vs l → LitAt news (.ref a) (.list l)
inductive LitsAt (news : List (Addr × Obj)) : List Value → List Lit → Prop
  | nil : LitsAt news [] []
  | cons {v vs d ds} : LitAt news v d → LitsAt news vs ds → LitsAt news (v :: vs) (d :: ds)
end
mutual
theorem LitAt.mono {news news' : List (Addr × Obj)} (hs : ∀ p ∈ news, p ∈ news') : ∀ {v : Value} {d : Lit}, LitAt news v d → LitAt news' v d
  | _, _, .int => .int
  | _, _, .str => .str
  | _, _, .tup h1 h2 => .tup (hs _ h1) (LitsAt.mono hs h2)
  | _, _, .list h1 h2 => .list (hs _ h1) (LitsAt.mono hs h2)
theorem LitsAt.mono {news news' : List (Addr × Obj)} (hs : ∀ p ∈ news, p ∈ news') : ∀ {vs : List Value} {ds : List Lit}, LitsAt news vs ds → LitsAt news' vs ds
  | _, _, .nil => .nil
  | _, _, .cons h1 h2 => .cons (LitAt.mono hs h1) (LitsAt.mono hs h2)
end
mutual
inductive IsLit : PySem.Expr → Lit → Prop
  | int {i k p} : IsLit (.Constant (.int i) k p) (.int i)
  | str {x k p} : IsLit (.Constant (.str x) k p) (.str x)
  | tup {es l k p} : es.length ≤ 100 → AreLits es l → IsLit (.Tuple es k p) (.tup l)
  | list {es l p} : es.length ≤ 100 → AreLits es l → IsLit (.List es p) (.list l)
inductive AreLits : List PySem.Expr → List Lit → Prop
  | nil : AreLits [] []
  | cons {e es d ds} : IsLit e d → AreLits es ds → AreLits (e :: es) (d :: ds)
end
theorem LitsAt.len {news : List (Addr × Obj)} : ∀ {vs : List Value} {ds : List Lit}, LitsAt news vs ds → vs.length = ds.length
  | _, _, .nil => rfl
  | _, _, .cons _ h => by rw [List.length_cons, List.length_cons, LitsAt.len h]
theorem AreLits.len : ∀ {es : List PySem.Expr} {ds : List Lit}, AreLits es ds → es.length = ds.length
  | _, _, .nil => rfl
  | _, _, .cons _ h => by rw [List.length_cons, List.length_cons, AreLits.len h]
theorem LitsAt.at {news : List (Addr × Obj)} : ∀ {vs : List Value} {ds : List Lit}, LitsAt news vs ds → ∀ {j : Nat} {d : Lit}, ds[j]? = some d → ∃ v, vs[j]? = some v ∧ LitAt news v d
  | _, _, .nil, _, _, h => nomatch h
  | _, _, .cons h1 h2, 0, _, h => by cases h; exact ⟨_, rfl, h1⟩
  | _, _, .cons h1 h2, j + 1, _, h => LitsAt.at h2 (j := j) h
theorem LitsAt.append {news : List (Addr × Obj)} : ∀ {vs ws : List Value} {ds es : List Lit}, LitsAt news vs ds → LitsAt news ws es → LitsAt news (vs ++ ws) (ds ++ es)
  | _, _, _, _, .nil, h => h
  | _, _, _, _, .cons h1 h2, h => .cons h1 (LitsAt.append h2 h)
section
variable {prog : Program} {w : World} {A : Around} {E : Value → Shared → Prop} {env : Env} {h₀ : Heap} {L : Addr} {m : PySem.Str → Option Value}
/-- own entries stand behind all of news -/
noncomputable def Behind (own news : List (Addr × Obj)) : Prop := ∀ q ∈ own, ∀ p ∈ news, p.1 < q.1
theorem spliced_cons' {M : Model} {s : Shared} {x : Sem Value} {rest : List (Bool × Sem Value)} {Q : List Value → Shared → Prop}
    (h : wpAny M A x (fun v s₁ => wpAny M A (spliced rest) (fun vs s₂ => Q (v :: vs) s₂) E s₁) E s) : wpAny M A (spliced ((false, x) :: rest)) Q E s := by
  rw [spliced]
  refine wpAny_bind (wpAny_mono h (fun v s₁ h₁ => ?_) fun _ _ x => x)
  simp only [Bool.false_eq_true, if_false]
  exact wpAny_bind (wpAny_pure (wpAny_bind (wpAny_holding (wpAny_mono h₁ (fun vs s₂ h₂ => wpAny_pure h₂) fun _ _ x => x))))
mutual
theorem lit_eval : ∀ {e : PySem.Expr} {d : Lit}, IsLit e d → ∀ {news : List (Addr × Obj)} {s : Shared} {Q : Value → Shared → Prop}, Fr h₀ L s.heap m → News h₀ L s.heap news →
    (∀ v h' tk own, Behind own news → Fr h₀ L h' m → News h₀ L h' (own ++ news) → LitAt own v d → Q v { s with heap := h', toks := tk }) → wpAny (model prog w) A (eval e env) Q E s
  | _, _, .int, _, _, _, F, N, k => wpAny_Constant_int (k _ _ _ [] (fun _ hq => nomatch hq) F N .int)
  | _, _, .str, _, _, _, F, N, k => Calls.Constant_str (k _ _ _ [] (fun _ hq => nomatch hq) F N .str)
  | _, _, .tup hl h, news, s, Q, F, N, k => by
    rw [arm_eval_Tuple]
    refine wpAny_bind (wpAny_standAt (wpAny_bind (lits_eval h F N fun vs h' tk own hb F' N' H => ?_)))
    refine kup_newTuple F' N' (fun D h'' F'' N'' l1 => ?_) (by rw [LitsAt.len H, ← AreLits.len h, show sizeLine = 16777216 from rfl]; omega)
    refine k _ _ _ ((D, { cls := .type "tuple", data := .seq vs.toArray }) :: own) (fun q hq p hp => ?_) F'' N'' (.tup (.head _) (LitsAt.mono (fun p hp => .tail _ hp) H))
    rcases List.mem_cons.mp hq with rfl | hq
    · exact l1 p (List.mem_append_right _ hp)
    · exact hb q hq p hp
  | _, _, .list hl h, news, s, Q, F, N, k => by
    rw [arm_eval_List]
    refine wpAny_bind (wpAny_standAt (wpAny_bind (lits_eval h F N fun vs h' tk own hb F' N' H => ?_)))
    refine newList_K F' N' (fun D h'' F'' N'' l1 => ?_) (by rw [LitsAt.len H, ← AreLits.len h, show sizeLine = 16777216 from rfl]; omega)
    refine k _ _ _ ((D, listOf vs.toArray 0) :: own) (fun q hq p hp => ?_) F'' N'' (.list (.head _) (LitsAt.mono (fun p hp => .tail _ hp) H))
    rcases List.mem_cons.mp hq with rfl | hq
    · exact l1 p (List.mem_append_right _ hp)
    · exact hb q hq p hp
theorem lits_eval : ∀ {es : List PySem.Expr} {ds : List Lit}, AreLits es ds → ∀ {pos : Pos} {news : List (Addr × Obj)} {s : Shared} {Q : List Value → Shared → Prop}, Fr h₀ L s.heap m → News h₀ L s.heap news →
    (∀ vs h' tk own, Behind own news → Fr h₀ L h' m → News h₀ L h' (own ++ news) → LitsAt own vs ds → Q vs { s with heap := h', toks := tk }) → wpAny (model prog w) A (spliced (backTo pos (starEach es env))) Q E s
  | _, _, .nil, _, _, s, _, F, N, k => wpAny_pure (k [] _ s.toks [] (fun _ hq => nomatch hq) F N .nil)
  | _, _, .cons (e := e) (es := es) h1 h2, pos, news, s, Q, F, N, k => by
    have he : starEach (e :: es) env = (false, eval e env) :: starEach es env := by cases h1 <;> rfl
    rw [he]
    refine spliced_cons' (lit_eval h1 F N fun v h' tk own hb F' N' H => ?_)
    refine lits_eval h2 (pos := pos) F' N' fun vs h'' tk' own' hb' F'' N'' H' => ?_
    have e1 : own' ++ (own ++ news) = (own' ++ own) ++ news := (List.append_assoc _ _ _).symm
    refine k _ _ _ (own' ++ own) (fun q hq p hp => ?_) F'' (e1 ▸ N'') (.cons (LitAt.mono (fun p hp => List.mem_append_right _ hp) H) (LitsAt.mono (fun p hp => List.mem_append_left _ hp) H'))
    rcases List.mem_append.mp hq with hq | hq
    · exact hb' q hq p (List.mem_append_right _ hp)
    · exact hb q hq p hp
end
end

-- the part halt
/-- a place where the walk halts -/
noncomputable def Halt (p : Prop) : Prop := p
/-- the first n statements, then the rest -/
theorem A_first {M : Model} {A : Around} {E : Value → Shared → Prop} {s : Shared} {env : Env} (n : Nat) {l : List Stmt} {Q : Flow → Shared → Prop} (h : wpAny M A (execs (l.take n) env) (fun f s' => match f with | .next => Halt (wpAny M A (execs (l.drop n) env) Q E s') | f => Q f s') E s) : wpAny M A (execs l env) Q E s := by
  rw [← List.take_append_drop n l, execs_append]
  refine wpAny_bind (wpAny_mono h (fun f s' h' => ?_) fun _ _ x => x)
  cases f <;> first | exact h' | exact wpAny_pure h'
/-- a test whose two ends are told once -/
theorem A_IfT {M : Model} {A : Around} {E : Value → Shared → Prop} {s : Shared} {env : Env} {test : PySem.Expr} {body orelse : List Stmt} {pos : Pos} {Q : Flow → Shared → Prop} (P : Bool → Shared → Prop) (ht : wpAny M A (isTrue test env (eval test env)) P E s)
    (hb : ∀ s', P true s' → wpAny M A (execs body env) Q E s') (ho : ∀ s', P false s' → wpAny M A (execs orelse env) Q E s') : wpAny M A (exec (.If test body orelse pos) env) Q E s :=
  wpAny_If (wpAny_mono ht (fun b s' h => by
    cases b
    · rw [if_neg (by decide)]; exact ho _ h
    · rw [if_pos rfl]; exact hb _ h) fun _ _ x => x)

-- the part lahead
section
noncomputable def lS (s : String) : Lit := .str (PySem.Str.ofString s)
noncomputable def lRow (t : String) (l : List (String × Int × Int)) (r c : Int) : Lit := .tup [lS t, .list (l.map fun p => .tup [lS p.1, .int p.2.1, .int p.2.2]), .int r, .int c]
noncomputable def aheadRows : List Lit := [lRow "" [] 1 1, lRow ";; a\n" [] 2 1, lRow ";; a;)\"\r" [] 2 1, lRow ";;\r\n" [] 2 1, lRow "(;\n\r;) " [] 3 4, lRow "(;;)" [] 1 5, lRow "(; (;;)\r\n) ;)" [] 2 5, lRow "\n\r\r\n" [] 4 1,
  lRow "; " [(";", 1, 1)] 1 3, lRow "\t;\n{" [(";", 1, 2), ("{", 2, 1)] 2 2, lRow "],\r;" [("]", 1, 1), (",", 1, 2), (";", 2, 1)] 2 2]
noncomputable def bRow (t : String) (l : List (String × String × Int × Int)) : Lit := .tup [lS t, .list (l.map fun p => .tup [lS p.1, lS p.2.1, .int p.2.2.1, .int p.2.2.2])]
noncomputable def behindRows : List Lit := [bRow "" [], bRow " ;; \"" [], bRow "(;\";)" [], bRow ";" [("reserved", ";", 0, 0)], bRow "\r\n)" [(")", ")", 1, 1)], bRow "(" [("(", "(", 0, 0)], bRow "\n" [], bRow ";;" [], bRow "\r(;;);" [("reserved", ";", 1, 5)]]
noncomputable def litOf : Nat → PySem.Expr → Lit
  | 0, _ => .int 0
  | _ + 1, .Constant (.int i) _ _ => .int i
  | _ + 1, .Constant (.str x) _ _ => .str x
  | n + 1, .Tuple es _ _ => .tup (es.map (litOf n))
  | n + 1, .List es _ => .list (es.map (litOf n))
  | _ + 1, _ => .int 0
theorem IsLit.mkInt {n i k p} : IsLit (.Constant (.int i) k p) (litOf (n + 1) (.Constant (.int i) k p)) := .int
theorem IsLit.mkStr {n x k p} : IsLit (.Constant (.str x) k p) (litOf (n + 1) (.Constant (.str x) k p)) := .str
theorem IsLit.mkTup {n es k p} (hl : es.length ≤ 100) (h : AreLits es (es.map (litOf n))) : IsLit (.Tuple es k p) (litOf (n + 1) (.Tuple es k p)) := .tup hl h
theorem IsLit.mkList {n es p} (hl : es.length ≤ 100) (h : AreLits es (es.map (litOf n))) : IsLit (.List es p) (litOf (n + 1) (.List es p)) := .list hl h
theorem AreLits.mkNil {n} : AreLits [] (([] : List PySem.Expr).map (litOf n)) := .nil
theorem AreLits.mkCons {n e es} (h1 : IsLit e (litOf n e)) (h2 : AreLits es (es.map (litOf n))) : AreLits (e :: es) ((e :: es).map (litOf n)) := .cons h1 h2
theorem LitAt.inv_list {news : List (Addr × Obj)} {v : Value} {l : List Lit} (h : LitAt news v (.list l)) : ∃ a vs n, v = .ref a ∧ (a, listOf vs.toArray n) ∈ news ∧ LitsAt news vs l := by
  cases h with | list h1 h2 => exact ⟨_, _, _, rfl, h1, h2⟩
theorem LitAt.inv_tup {news : List (Addr × Obj)} {v : Value} {l : List Lit} (h : LitAt news v (.tup l)) : ∃ a vs, v = .ref a ∧ (a, ({ cls := .type "tuple", data := .seq vs.toArray } : Obj)) ∈ news ∧ LitsAt news vs l := by
  cases h with | tup h1 h2 => exact ⟨_, _, rfl, h1, h2⟩
section
variable {prog : Program} {w : World} {A : Around} {E : Value → Shared → Prop} {env : Env} {h₀ : Heap} {L : Addr} {m : PySem.Str → Option Value} {es : List PySem.Expr} {p : Pos} {kk : Nat} {news : List (Addr × Obj)} {s : Shared} {Q : Value → Shared → Prop}
theorem lit_list (F : Fr h₀ L s.heap m) (N : News h₀ L s.heap news) (hl : es.length ≤ 100) (h : AreLits es (es.map (litOf 5)))
    (k : ∀ a vs n h' tk own, Behind own news → (∀ p ∈ own ++ news, p.1 < a) → Fr h₀ L h' m → News h₀ L h' ((a, listOf vs.toArray n) :: (own ++ news)) → LitsAt own vs (es.map (litOf 5)) → Q (.ref a) { s with heap := h', toks := tk }) : wpAny (model prog w) A (eval (.List es p) env) Q E s := by
  rw [arm_eval_List]
  refine wpAny_bind (wpAny_standAt (wpAny_bind (lits_eval h F N fun vs h' tk own hb F' N' H => ?_)))
  exact newList_K F' N' (fun D h'' F'' N'' l1 => k _ _ _ _ _ own hb l1 F'' N'' H) (by rw [LitsAt.len H, ← AreLits.len h, show sizeLine = 16777216 from rfl]; omega)
theorem lit_tup (F : Fr h₀ L s.heap m) (N : News h₀ L s.heap news) (hl : es.length ≤ 100) (h : AreLits es (es.map (litOf 5)))
    (k : ∀ a vs h' tk own, Behind own news → (∀ p ∈ own ++ news, p.1 < a) → Fr h₀ L h' m → News h₀ L h' ((a, ({ cls := .type "tuple", data := .seq vs.toArray } : Obj)) :: (own ++ news)) → LitsAt own vs (es.map (litOf 5)) → Q (.ref a) { s with heap := h', toks := tk }) : wpAny (model prog w) A (eval (.Tuple es kk p) env) Q E s := by
  rw [arm_eval_Tuple]
  refine wpAny_bind (wpAny_standAt (wpAny_bind (lits_eval h F N fun vs h' tk own hb F' N' H => ?_)))
  exact kup_newTuple F' N' (fun D h'' F'' N'' l1 => k _ _ _ _ own hb l1 F'' N'' H) (by rw [LitsAt.len H, ← AreLits.len h, show sizeLine = 16777216 from rfl]; omega)
end
theorem Upd.app {d : Addr} {o o' : Obj} {l l' : List (Addr × Obj)} (U : Upd d o o' l l') : ∀ {own : List (Addr × Obj)}, (∀ p ∈ own, p.1 ≠ d) → Upd d o o' (own ++ l) (own ++ l')
  | [], _ => U
  | _ :: _, h => Upd.tail (h _ (.head _)) (Upd.app U fun p hp => h p (.tail _ hp))
/-- a ledger that holds news and, besides, only what stands behind it -/
noncomputable def Ext (l news : List (Addr × Obj)) : Prop := (∀ p ∈ news, p ∈ l) ∧ ∀ q ∈ l, q ∈ news ∨ ∀ p ∈ news, p.1 < q.1
theorem Ext.refl {news : List (Addr × Obj)} : Ext news news := ⟨fun _ h => h, fun _ h => .inl h⟩
theorem Ext.cons {l news : List (Addr × Obj)} {a : Addr} {o : Obj} (h : Ext l news) (ha : ∀ p ∈ l, p.1 < a) : Ext ((a, o) :: l) news :=
  ⟨fun p hp => .tail _ (h.1 p hp), fun q hq => by
    rcases List.mem_cons.mp hq with rfl | hq
    · exact .inr fun p hp => ha p (h.1 p hp)
    · exact h.2 q hq⟩
theorem Ext.app {l news own : List (Addr × Obj)} (h : Ext l news) (hb : Behind own l) : Ext (own ++ l) news :=
  ⟨fun p hp => List.mem_append_right _ (h.1 p hp), fun q hq => by
    rcases List.mem_append.mp hq with hq | hq
    · exact .inr fun p hp => hb q hq p (h.1 p hp)
    · exact h.2 q hq⟩
section
variable {M : Model} {A : Around} {E : Value → Shared → Prop} {s : Shared} {env : Env}
theorem A_evalArgs {f : Value} {x : Sem Value} {rest : List (Bool × Sem Value)} {Q : Args → Shared → Prop}
    (h : wpAny M A (spliced ((false, x) :: rest)) (fun vs s' => Q ⟨vs, []⟩ s') E s) : wpAny M A (evalArgs f true ((false, x) :: rest) []) Q E s := by
  unfold evalArgs
  show wpAny M A (spliced ((false, x) :: rest) >>= _) Q E s
  refine wpAny_bind (wpAny_mono h (fun vs s' h' => ?_) fun _ _ x => x)
  refine wpAny_holding ?_
  exact wpAny_bind (wpAny_pure (wpAny_bind (wpAny_pure (wpAny_pure h'))))
theorem A_items_cons {e : PySem.Expr} {rest : List PySem.Expr} {pos : Pos} {Q : List Value → Shared → Prop} (h : wpAny M A (eval e env) (fun v s₁ => wpAny M A (spliced (backTo pos (starEach rest env))) (fun vs s₂ => Q (v :: vs) s₂) E s₁) E s)
    (he : starEach (e :: rest) env = (false, eval e env) :: starEach rest env := by rfl) : wpAny M A (spliced (backTo pos (starEach (e :: rest) env))) Q E s := by
  rw [he]; exact spliced_cons' h
theorem A_callWith_B {e : PySem.Expr} {rest : List PySem.Expr} {pos : Pos} {id : String} {first : List Value} {Q : Value → Shared → Prop}
    (h : wpAny M A (spliced (backTo pos (starEach (e :: rest) env))) (fun vs s₁ => wpAny M A (call (.builtin id) (first ++ vs)) Q E s₁) E s)
    (he : starEach (e :: rest) env = (false, eval e env) :: starEach rest env := by rfl) (hplain : (backTo pos (starEach rest env)).any (·.1) = false := by rfl) :
    wpAny M A (callWith pos (.builtin id) first (backTo pos (starEach (e :: rest) env)) []) Q E s := by
  rw [he] at h ⊢
  have hp : (backTo pos ((false, eval e env) :: starEach rest env)).any (·.1) = false := by show (false || (backTo pos (starEach rest env)).any (·.1)) = false; rw [hplain]; rfl
  unfold callWith
  refine wpAny_bind (wpAny_holding (A_evalArgs (wpAny_mono h (fun vs s₁ h₁ => ?_) fun _ _ x => x)))
  refine wpAny_bind (wpAny_standAt ?_)
  obtain ⟨k, hk', L⟩ := looks_builtin (M := M) (h := s₁.heap) (id := id)
  simp only [hp, List.any_nil, Bool.or_false]
  refine wpAny_bind (L.here ?_)
  have tail : ∀ {t : Sem Value}, wpAny M A t Q E s₁ → wpAny M A (t >>= fun r => holding [r] point >>= fun _ => pure r) Q E s₁ :=
    fun ht => wpAny_bind (wpAny_mono ht (fun r s₂ hr => wpAny_bind (wpAny_holding (wpAny_point (wpAny_pure hr)))) fun _ _ x => x)
  have marked (mk : Value) : wpAny M A (callMarked mk (.builtin id) (first ++ vs) []) Q E s₁ := by
    unfold callMarked
    exact fun Γ p hΓ => by rw [Sem.wp_keep]; exact h₁ Γ p hΓ
  rcases hk' with rfl | rfl | rfl <;> dsimp only <;> first | exact tail h₁ | (split <;> first | exact tail h₁ | exact tail (marked _))
end
/-- a place where the walk halts -/
noncomputable def Halt2 (p : Prop) : Prop := p
section
variable {prog : Program} {w : World} {A : Around} {E : Value → Shared → Prop} {s : Shared} {h₀ : Heap} {L : Addr} {m : PySem.Str → Option Value} {news : List (Addr × Obj)} {value slice : PySem.Expr} {l la lb : Addr} {vs ws : List Value} {ds es : List Lit} {n n1 n2 : Nat} {k : Int} {u : Tok} {Q : Value → Shared → Prop}
theorem item_lit (N : News h₀ L s.heap news) (hm : (l, listOf vs.toArray n) ∈ news) (hd : LitsAt news vs ds) (h0 : 0 ≤ k) (h1 : k < (ds.length : Nat)) (hs0 : ds.length ≤ 1000)
    (h : ∀ j v d, k = ((j : Nat) : Int) → ds[j]? = some d → LitAt news v d → Halt2 (Q v s))
    (hs : subscripted slice false (.ref l) (.int k u) = operate [.ref l, .int k u] (getItem (.ref l) (.int k u)) := by with_unfolding_all rfl) (hg : ∀ r, letTemporaryGo value (.ref l) r = pure () := by intro _; with_unfolding_all rfl) :
    wpAny (model prog w) A (subscriptTail value slice (.ref l) (.int k u)) Q E s := by
  have hl : s.heap.IsList l vs.toArray := ⟨_, (N _ hm).1, rfl, _, rfl⟩
  have hj : k.toNat < ds.length := by omega
  obtain ⟨v, hv, H⟩ := hd.at (List.getElem?_eq_getElem hj)
  exact item_list hl h0 (by omega) (by simpa using hv) (h k.toNat v _ (by omega) (List.getElem?_eq_getElem hj) H) hs hg
theorem add_lit (N : News h₀ L s.heap news) (F : Fr h₀ L s.heap m) (h1 : (la, listOf vs.toArray n1) ∈ news) (h2 : (lb, listOf ws.toArray n2) ∈ news) (hd1 : LitsAt news vs ds) (hd2 : LitsAt news ws es) (hl : ds.length + es.length ≤ 1000)
    (h : ∀ D h', (∀ p ∈ news, p.1 < D) → Fr h₀ L h' m → News h₀ L h' ((D, listOf (vs ++ ws).toArray 0) :: news) → LitsAt ((D, listOf (vs ++ ws).toArray 0) :: news) (vs ++ ws) (ds ++ es) → Q (.ref D) { s with heap := h' }) :
    wpAny (model prog w) A (binaryOp .Add (.ref la) (.ref lb)) Q E s :=
  kmk_add_lit F N ⟨_, (N _ h1).1, rfl, _, rfl⟩ ⟨_, (N _ h2).1, rfl, _, rfl⟩ (zs := vs ++ ws) (by simp) (fun D h' F' N' l1 => h D h' l1 F' N' ((hd1.append hd2).mono fun p hp => .tail _ hp))
    (by show vs.length + ws.length ≤ sizeLine; rw [hd1.len, hd2.len, show sizeLine = 16777216 from rfl]; omega)
end
local macro_rules | `(tactic| walk_at "eval ListX") => `(tactic| (k_here; k_dflt (refine' lit_eval (d := ?dd) ?hlit ?F ?N ?_; (case hlit => (repeat' (first | exact .int | exact .str | exact .nil | (refine IsLit.list (by decide) ?_) | (refine IsLit.tup (by decide) ?_) | (refine AreLits.cons ?_ ?_)))); (case F => k_asm); (case N => k_asm)); intro v' h' tk' own' hb' F' N' H'; cases H'; (try k_sweep)))
local macro_rules | `(tactic| walk_at "binaryOp Add ref ref") => `(tactic| (k_here; k_dflt (refine' add_lit ?N ?F ?h1 ?h2 ?d1 ?d2 ?hl ?_; (case N => k_asm); (case F => k_asm); (case h1 => assumption); (case h2 => assumption); (case d1 => assumption); (case d2 => assumption); (case hl => decide)); intro D' h' l1' F' N' H'; (try k_sweep)))
section
variable {w : World} {mean : ExcName → Option Value} {mg mb : PySem.Str → Option Value} {loose : List PySem.Str}
   {dp un : Nat} {gd : Option (List Code)} {cn : PySem.Str} {cs : Scope} {a : Addr} {ccd : Value} {cl : List (PySem.Str × Addr)} {outer : List Env} {A₀ : Around} {base h₀ : Heap} {L : Addr} {m : PySem.Str → Option Value} {news : List (Addr × Obj)} {s : Shared}
    {Q E : Value → Shared → Prop} {x : Int} {tt : Tok}
set_option maxHeartbeats 400000 in
theorem ahead_c
    (B : Below A₀ base outer h₀) (F : Fr h₀ L s.heap m) (X : (One.hd.heap_1_39 w.params).In h₀) (N : News h₀ L s.heap news) (TT : Top One.hd.view_1_40 loose mean mg mb h₀) (hk : cs.kind = .function)
    (hr : dp + 12 < recursionLimit) (hu : un + 90 < cLine)
    (ret : ∀ j v d h' tk l, aheadRows[j]? = some d → x.fmod 11 = ((j : Nat) : Int) → Ext l news → Fr h₀ L h' m → News h₀ L h' l → LitAt l v d → Q v { s with heap := h', toks := tk }) :
    wpAny (model prog0 w) (ktrTop dp un gd cn cs L a ccd cl outer) (call (.ref 235) [.int x tt]) Q E s := by
  w_on
  refine wpAny_call ?_
  k_dflt ktr_enter
  refine A_first 1 ?_
  dsimp only [List.take, List.drop]
  iterate 3 walk1
  dsimp only
  k_dflt (refine' lit_list ?F1 ?N1 ?hl1 ?hh1 ?_)
  case F1 => k_asm
  case N1 => k_asm
  case hl1 => exact Nat.le_of_ble_eq_true rfl
  case hh1 => (repeat' (first | exact IsLit.mkInt | exact IsLit.mkStr | exact AreLits.mkNil | (refine IsLit.mkList (Nat.le_of_ble_eq_true rfl) ?_) | (refine IsLit.mkTup (Nat.le_of_ble_eq_true rfl) ?_) | (refine AreLits.mkCons ?_ ?_)))
  intro r1 vs1 n1 h1 tk1 own1 hb1 la1 F1 N1 H1
  walk_at "N go"
  unfold Halt
  refine A_first 1 ?_
  dsimp only [List.take, List.drop]
  iterate 4 walk1
  dsimp only
  k_dflt (refine' lit_list ?F2 ?N2 ?hl2 ?hh2 ?_)
  case F2 => k_asm
  case N2 => k_asm
  case hl2 => exact Nat.le_of_ble_eq_true rfl
  case hh2 => (repeat' (first | exact IsLit.mkInt | exact IsLit.mkStr | exact AreLits.mkNil | (refine IsLit.mkList (Nat.le_of_ble_eq_true rfl) ?_) | (refine IsLit.mkTup (Nat.le_of_ble_eq_true rfl) ?_) | (refine AreLits.mkCons ?_ ?_)))
  intro r2 vs2 n2 h2 tk2 own2 hb2 la2 F2 N2 H2
  try dsimp only
  k_dflt (refine' add_lit N2 F2 (.tail _ (List.mem_append_right _ (.head _))) (.head _) (H1.mono fun p hp => .tail _ (List.mem_append_right _ (.tail _ (List.mem_append_left _ hp)))) (H2.mono fun p hp => .tail _ (List.mem_append_left _ hp)) ?hl2a ?_)
  case hl2a => exact Nat.le_of_ble_eq_true rfl
  intro D2 g2 lD2 G2 M2 HD2
  walk_at "N go"
  unfold Halt
  refine A_first 1 ?_
  dsimp only [List.take, List.drop]
  iterate 4 walk1
  dsimp only
  k_dflt (refine' lit_list ?F3 ?N3 ?hl3 ?hh3 ?_)
  case F3 => k_asm
  case N3 => k_asm
  case hl3 => exact Nat.le_of_ble_eq_true rfl
  case hh3 => (repeat' (first | exact IsLit.mkInt | exact IsLit.mkStr | exact AreLits.mkNil | (refine IsLit.mkList (Nat.le_of_ble_eq_true rfl) ?_) | (refine IsLit.mkTup (Nat.le_of_ble_eq_true rfl) ?_) | (refine AreLits.mkCons ?_ ?_)))
  intro r3 vs3 n3 h3 tk3 own3 hb3 la3 F3 N3 H3
  try dsimp only
  k_dflt (refine' add_lit N3 F3 (.tail _ (List.mem_append_right _ (.head _))) (.head _) (HD2.mono fun p hp => .tail _ (List.mem_append_right _ hp)) (H3.mono fun p hp => .tail _ (List.mem_append_left _ hp)) ?hl3a ?_)
  case hl3a => exact Nat.le_of_ble_eq_true rfl
  intro D3 g3 lD3 G3 M3 HD3
  walk_at "N go"
  unfold Halt
  iterate 5 walk1
  dsimp only
  k_dflt (refine' lit_list ?F4 ?N4 ?hl4 ?hh4 ?_)
  case F4 => k_asm
  case N4 => k_asm
  case hl4 => exact Nat.le_of_ble_eq_true rfl
  case hh4 => (repeat' (first | exact IsLit.mkInt | exact IsLit.mkStr | exact AreLits.mkNil | (refine IsLit.mkList (Nat.le_of_ble_eq_true rfl) ?_) | (refine IsLit.mkTup (Nat.le_of_ble_eq_true rfl) ?_) | (refine AreLits.mkCons ?_ ?_)))
  intro r4 vs4 n4 h4 tk4 own4 hb4 la4 F4 N4 H4
  try dsimp only
  k_dflt (refine' add_lit N4 F4 (.tail _ (List.mem_append_right _ (.head _))) (.head _) (HD3.mono fun p hp => .tail _ (List.mem_append_right _ hp)) (H4.mono fun p hp => .tail _ (List.mem_append_left _ hp)) ?hl4a ?_)
  case hl4a => exact Nat.le_of_ble_eq_true rfl
  intro D4 g4 lD4 G4 M4 HD4
  try dsimp only
  iterate 4 walk1
  dsimp only
  refine kba_turn (value' := PySem.Expr.Name (PySem.Str.ofString "_") ⟨0, 0, 0, 0⟩) (fun _ => rfl) ?_
  k_dflt (refine' item_lit M4 (.head _) HD4 ?h0 ?h1 ?hs0 ?_ ?hs ?hg)
  case h0 => exact fmod_lo _ (by decide)
  case h1 => exact (fmod_hi x (n := 11) (by decide))
  case hs0 => exact Nat.le_of_ble_eq_true rfl
  case hs => with_unfolding_all rfl
  case hg => intro _; with_unfolding_all rfl
  intro j v d hj hd' H
  have X1 : Ext ((r1, listOf vs1.toArray n1) :: (own1 ++ news)) news := (Ext.refl.app hb1).cons la1
  have X2 := Ext.cons (o := listOf (vs1 ++ vs2).toArray 0) (Ext.cons (o := listOf vs2.toArray n2) (X1.app hb2) la2) lD2
  have X3 := Ext.cons (o := listOf (vs1 ++ vs2 ++ vs3).toArray 0) (Ext.cons (o := listOf vs3.toArray n3) (X2.app hb3) la3) lD3
  have X4 := Ext.cons (o := listOf (vs1 ++ vs2 ++ vs3 ++ vs4).toArray 0) (Ext.cons (o := listOf vs4.toArray n4) (X3.app hb4) la4) lD4
  clear X1 X2 X3
  unfold Halt2
  walk_at "N go"
  rename Fr h₀ _ _ _ => F9
  rename News h₀ _ _ _ => N9
  exact ret j v d _ _ _ hd' hj X4 F9 N9 H
set_option maxHeartbeats 400000 in
theorem behind_c
    (B : Below A₀ base outer h₀) (F : Fr h₀ L s.heap m) (X : (One.hd.heap_1_39 w.params).In h₀) (N : News h₀ L s.heap news) (TT : Top One.hd.view_1_40 loose mean mg mb h₀) (hk : cs.kind = .function)
    (hr : dp + 12 < recursionLimit) (hu : un + 90 < cLine)
    (ret : ∀ j v d h' tk l, behindRows[j]? = some d → x.fmod 9 = ((j : Nat) : Int) → Ext l news → Fr h₀ L h' m → News h₀ L h' l → LitAt l v d → Q v { s with heap := h', toks := tk }) :
    wpAny (model prog0 w) (ktrTop dp un gd cn cs L a ccd cl outer) (call (.ref 242) [.int x tt]) Q E s := by
  w_on
  refine wpAny_call ?_
  k_dflt ktr_enter
  refine A_first 1 ?_
  dsimp only [List.take, List.drop]
  iterate 3 walk1
  dsimp only
  k_dflt (refine' lit_list ?F1 ?N1 ?hl1 ?hh1 ?_)
  case F1 => k_asm
  case N1 => k_asm
  case hl1 => exact Nat.le_of_ble_eq_true rfl
  case hh1 => (repeat' (first | exact IsLit.mkInt | exact IsLit.mkStr | exact AreLits.mkNil | (refine IsLit.mkList (Nat.le_of_ble_eq_true rfl) ?_) | (refine IsLit.mkTup (Nat.le_of_ble_eq_true rfl) ?_) | (refine AreLits.mkCons ?_ ?_)))
  intro r1 vs1 n1 h1 tk1 own1 hb1 la1 F1 N1 H1
  walk_at "N go"
  unfold Halt
  refine A_first 1 ?_
  dsimp only [List.take, List.drop]
  iterate 5 walk1
  dsimp only
  refine A_callWith_B ?_
  refine A_items_cons ?_
  k_dflt (refine' lit_tup ?F2 ?N2 ?hl2 ?hh2 ?_)
  case F2 => k_asm
  case N2 => k_asm
  case hl2 => exact Nat.le_of_ble_eq_true rfl
  case hh2 => (repeat' (first | exact IsLit.mkInt | exact IsLit.mkStr | exact AreLits.mkNil | (refine IsLit.mkList (Nat.le_of_ble_eq_true rfl) ?_) | (refine IsLit.mkTup (Nat.le_of_ble_eq_true rfl) ?_) | (refine AreLits.mkCons ?_ ?_)))
  intro r2 vs2 h2 tk2 own2 hb2 la2 F2 N2 H2
  refine wpAny_pure ?_
  dsimp only [List.cons_append, List.nil_append]
  have n12 : r2 ≠ r1 := Nat.ne_of_gt (la2 (r1, listOf vs1.toArray n1) (List.mem_append_right _ (.head _)))
  refine append_K F2 N2 (Upd.tail n12 (Upd.app (Upd.head fun p hp => Nat.ne_of_lt (la1 p hp)) fun p hp => Nat.ne_of_gt (hb2 p hp _ (.head _)))) ?_ (by show vs1.length ≤ sizeLine; rw [H1.len, show sizeLine = 16777216 from rfl]; exact Nat.le_of_ble_eq_true rfl)
  intro h3 F3 N3
  simp only [List.push_toArray] at N3
  have HL : LitsAt ((r2, ({ cls := .type "tuple", data := .seq vs2.toArray } : Obj)) :: (own2 ++ (r1, listOf (vs1 ++ [Value.ref r2]).toArray (n1 + 1)) :: (own1 ++ news))) (vs1 ++ [Value.ref r2]) (_ ++ [_]) :=
    (H1.mono fun p hp => .tail _ (List.mem_append_right _ (.tail _ (List.mem_append_left _ hp)))).append (.cons (.tup (.head _) (H2.mono fun p hp => .tail _ (List.mem_append_left _ hp))) .nil)
  walk_at "N go"
  unfold Halt
  iterate 5 walk1
  dsimp only
  k_dflt (refine' lit_list ?F4 ?N4 ?hl4 ?hh4 ?_)
  case F4 => k_asm
  case N4 => k_asm
  case hl4 => exact Nat.le_of_ble_eq_true rfl
  case hh4 => (repeat' (first | exact IsLit.mkInt | exact IsLit.mkStr | exact AreLits.mkNil | (refine IsLit.mkList (Nat.le_of_ble_eq_true rfl) ?_) | (refine IsLit.mkTup (Nat.le_of_ble_eq_true rfl) ?_) | (refine AreLits.mkCons ?_ ?_)))
  intro r4 vs4 n4 h4 tk4 own4 hb4 la4 F4 N4 H4
  try dsimp only
  k_dflt (refine' add_lit N4 F4 (.tail _ (List.mem_append_right _ (.tail _ (List.mem_append_right _ (.head _))))) (.head _) (HL.mono fun p hp => .tail _ (List.mem_append_right _ hp)) (H4.mono fun p hp => .tail _ (List.mem_append_left _ hp)) ?hl4a ?_)
  case hl4a => exact Nat.le_of_ble_eq_true rfl
  intro D4 g4 lD4 G4 M4 HD4
  try dsimp only
  iterate 4 walk1
  dsimp only
  refine kba_turn (value' := PySem.Expr.Name (PySem.Str.ofString "_") ⟨0, 0, 0, 0⟩) (fun _ => rfl) ?_
  k_dflt (refine' item_lit M4 (.head _) HD4 ?h0 ?h1 ?hs0 ?_ ?hs ?hg)
  case h0 => exact fmod_lo _ (by decide)
  case h1 => exact (fmod_hi x (n := 9) (by decide))
  case hs0 => exact Nat.le_of_ble_eq_true rfl
  case hs => with_unfolding_all rfl
  case hg => intro _; with_unfolding_all rfl
  intro j v d hj hd' H
  have X1 : Ext ((r1, listOf (vs1 ++ [Value.ref r2]).toArray (n1 + 1)) :: (own1 ++ news)) news := (Ext.refl.app hb1).cons la1
  have hb2' : Behind own2 ((r1, listOf (vs1 ++ [Value.ref r2]).toArray (n1 + 1)) :: (own1 ++ news)) := fun q hq p hp => by
    rcases List.mem_cons.mp hp with rfl | hp
    · exact hb2 q hq (r1, listOf vs1.toArray n1) (.head _)
    · exact hb2 q hq p (.tail _ hp)
  have la2' : ∀ p ∈ own2 ++ (r1, listOf (vs1 ++ [Value.ref r2]).toArray (n1 + 1)) :: (own1 ++ news), p.1 < r2 := fun p hp => by
    rcases List.mem_append.mp hp with hp | hp
    · exact la2 p (List.mem_append_left _ hp)
    · rcases List.mem_cons.mp hp with rfl | hp
      · exact la2 (r1, listOf vs1.toArray n1) (List.mem_append_right _ (.head _))
      · exact la2 p (List.mem_append_right _ (.tail _ hp))
  have X2 := Ext.cons (o := ({ cls := .type "tuple", data := .seq vs2.toArray } : Obj)) (X1.app hb2') la2'
  have X4 := Ext.cons (o := listOf (vs1 ++ [Value.ref r2] ++ vs4).toArray 0) (Ext.cons (o := listOf vs4.toArray n4) (X2.app hb4) la4) lD4
  clear X1 X2
  unfold Halt2
  walk_at "N go"
  rename Fr h₀ _ _ _ => F9
  rename News h₀ _ _ _ => N9
  exact ret j v d _ _ _ hd' hj X4 F9 N9 H
end
end

-- the part exc
/-! an exception of an own class that has its own __init__: made -/
noncomputable abbrev excO (C t : Addr) : Obj := { cls := .ref C, data := .fields #[.ref t, .none, .none, .none, .bool false, .none] }
noncomputable abbrev tupO (vs : List Value) : Obj := { cls := .type "tuple", data := .seq vs.toArray }
section
variable {prog : Program} {w : World} {A : Around} {R : Result → Shared → Prop} {h : Heap} {g : Array GenState} {d : Drawn} {t : Nat} {os : OsState}
variable {nm q : PySem.Str} {C N : Addr} {bs bm : List Value} {hdct : Bool} {sn : List PySem.Str} {sub : List Value} {ab : Bool} {col : Option Bool} {dd : Option Addr} {k0 k1 k2 k3 k5 : Option Value}
theorem exc_check_new {M : Model} {E : Value → Shared → Prop} (hB : bm.contains (.type "Exception") = true) {rest : List Value} {Q : Unit → Shared → Prop} (hC : h.get? C = some (excClassObj nm q C N bs bm hdct sn sub ab col dd k0 k1 k2 k3 k5 "Exception.__new__"))
    (hq : Q () ⟨h, g, d, t, os⟩) : wpAny M A (checkBuiltinCall "Exception.__new__" ⟨.ref C :: rest, []⟩) Q E ⟨h, g, d, t, os⟩ := by
  have F := PySem.F.excBase_Exception
  have hcont : (Value.ref C :: bm).contains (.type "Exception") = true := by rw [List.contains_cons, hB, Bool.or_true]
  have hstar := F.noStar
  simp only [checkBuiltinCall, F.newKind, F.newSplit, F.newRow]
  repeat (first | refine wpAny_loadPart_at hC ?_ | (refine wpAny_isSubtype_exc hC ?_; rw [hcont]) | refine wpAny_staticBase_exc hC ?_ | refine wpAny_madeBy_exc hC ?_ | simp only [bne_self_eq_false, Bool.false_eq_true, if_false] | wp_step)
  exact hq
theorem exc_new (hB : bm.contains (.type "Exception") = true) (hA' : bm.contains (.type "AttributeError") = false) (hN' : bm.contains (.type "NameError") = false) {rest : List Value} (hC : h.get? C = some (excClassObj nm q C N bs bm hdct sn sub ab col dd k0 k1 k2 k3 k5 "Exception.__new__"))
    (hq : R (.ok (.ret (.ref (h.objs.size + 1)))) ⟨(h.push (tupO rest)).push (excO C h.objs.size), g, d, t, os⟩) (hrest : rest.length ≤ sizeLine) :
    codeAny (model prog w) A (.builtin "Exception.__new__" ⟨.ref C :: rest, []⟩) R ⟨h, g, d, t, os⟩ := by
  have F := PySem.F.excBase_Exception
  have hends := F.ends
  have hcB : (Value.ref C :: bm).contains (.type "Exception") = true := by rw [List.contains_cons, hB, Bool.or_true]
  have hcA : (Value.ref C :: bm).contains (.type "AttributeError") = false := by rw [List.contains_cons, hA']; rfl
  have hcN : (Value.ref C :: bm).contains (.type "NameError") = false := by rw [List.contains_cons, hN']; rfl
  refine codeAny_builtinAt F.entry ?_
  unfold Builtin.«BaseException.__new__»
  refine PySem.wpAt_bind ?_
  show PySem.wpAt _ _ _ (stack >>= _) _ _ _
  refine PySem.wpAt_bind (PySem.wpAt_stack fun p below => PySem.wpAt_of_wpAny ?_)
  wp_walk
  refine PySem.wpAt_of_wpAny ?_
  rw [F.owner]
  repeat (first | with_reducible refine wpAny_madeHere_exc F.canon hC ?_ | with_reducible refine wpAny_loadPart_at hC ?_ | (with_reducible refine wpAny_isSubtype_exc hC ?_; first | rw [hcB] | rw [hcA] | rw [hcN]) | wp_step)
  show R _ _
  rw [Heap.size_push]
  exact hq
theorem exc_make {K : Frag} {fI : Addr} {rest : List Value} (X : K.In h) (hC : h.get? C = some (excClassObj nm q C N bs bm hdct sn sub ab col dd k0 k1 k2 k3 k5 "Exception.__new__"))
    (hB : bm.contains (.type "Exception") = true) (hA' : bm.contains (.type "AttributeError") = false) (hN' : bm.contains (.type "NameError") = false)
    (e7 : specialIn K (.ref C) "__call__" = some (some (.builtin "type.__call__"))) (e8 : instIn K (.ref C) (.type "type") = some true)
    (hi : findIn K (.ref C) "__init__" = some (some (.ref fI))) (hf : typeIn K (.ref fI) = some (.type "function")) (hrest : rest.length ≤ sizeLine)
    (hq : codeAny (model prog w) (A.under (.builtin "type.__call__" ⟨.ref C :: rest, []⟩)) (.call (.ref fI) ⟨.ref (h.objs.size + 1) :: rest, []⟩) (InitBack (h.objs.size + 1) R) ⟨(h.push (tupO rest)).push (excO C h.objs.size), g, d, t, os⟩) :
    codeAny (model prog w) A (.call (.ref C) ⟨rest, []⟩) R ⟨h, g, d, t, os⟩ := by
  have call : Looks (model prog w) h (specialOf (.ref C) "__call__") (some (.builtin "type.__call__")) := looks_specialIn X e7
  have typ : Looks (model prog w) h (isInstance (.ref C) (.type "type")) true := looks_instIn X e8
  refine codeAny_of_tree ?_
  show wpAny _ _ (callAny (.ref C) _) _ _ _
  refine nd_load hC ?_
  show wpAny _ _ (callAny.viaDunder (.ref C) _) _ _ _
  unfold callAny.viaDunder
  refine wpAny_bind (call.at ?_)
  dsimp only
  rw [tc_bind]
  refine wpAny_bind (wpAny_pure (wpAny_bind (wpAny_pure ?_)))
  refine wpAny_pure (a := Fin.again (.call (.builtin "type.__call__") ⟨.ref C :: rest, []⟩)) (And.intro rfl ?_)
  refine codeAny_call_builtin_at (Code.quiet_builtin _ (by decide +kernel)) entry_typeCall (check_slot tc_kind tc_split typ (tc_args _ _ _) ?_)
  unfold Builtin.«type.__call__»
  have made : Looks (model prog w) h (Bind.madeBy (.ref C)) (some "Exception.__new__") := fun A Q E s k q => by
    obtain ⟨hh, g, d, t, os⟩ := s
    exact wpAny_madeBy_exc (k _ _ hC) q
  have hm : Looks (model prog w) h (mroOf (.ref C)) (.ref C :: bm) := ((Looks.ld (part := none) hC).andThen .now).andThen .now
  repeat (first | simp only [List.isEmpty_cons, Bool.false_eq_true, if_false] | with_reducible refine wpAny_call ?_ | lk)
  refine codeAny_call_builtin_code (Code.quiet_builtin _ PySem.F.excBase_Exception.quiet) (exc_check_new hB hC (exc_new hB hA' hN' hC ?_ hrest))
  have k : ∀ b o, h.get? b = some o → ((h.push (tupO rest)).push (excO C h.objs.size)).get? b = some o := fun b o e => Heap.get?_push_of_some _ (Heap.get?_push_of_some _ e)
  have hx : ((h.push (tupO rest)).push (excO C h.objs.size)).get? (h.objs.size + 1) = some (excO C h.objs.size) := by heap_get
  have t1 : Looks (model prog w) ((h.push (tupO rest)).push (excO C h.objs.size)) (typeOf (.ref (h.objs.size + 1))) (.ref C) := (Looks.ld hx).andThen .now
  have s1 : Looks (model prog w) ((h.push (tupO rest)).push (excO C h.objs.size)) (isSubtype (.ref C) (.ref C)) true := fun A Q E s k' q => by
    obtain ⟨hh, g, d, t, os⟩ := s
    refine wpAny_isSubtype_exc (k' _ _ (k _ _ hC)) ?_
    rw [show (Value.ref C :: bm).contains (.ref C) = true by simp]
    exact q
  have i1 : Looks (model prog w) ((h.push (tupO rest)).push (excO C h.objs.size)) (typeLookup (.ref C) "__init__") (some (.ref fI)) := looks_findIn (X.keeps k) hi
  have b1 : Looks (model prog w) ((h.push (tupO rest)).push (excO C h.objs.size)) (bindSpecial (.ref fI) (.ref (h.objs.size + 1))) (.ref fI, [.ref (h.objs.size + 1)]) := bind_fn (X.keeps k) _ hf
  show wpAny _ _ _ _ _ _
  unfold isInstance callSpecial? specialOf
  repeat (first | with_reducible refine wpAny_call ?_ | lk)
  refine codeAny_mono hq fun r s' z => ?_
  rcases r with e | (v | _ | _ | _) <;> first | exact z | exact z.elim | skip
  obtain ⟨rfl, z⟩ := z
  exact wpAny_pure (wpAny_pure z)
end

-- the part excinit
section
variable {prog : Program} {w : World} {A : Around} {E : Value → Shared → Prop} {h : Heap} {g : Array GenState} {d : Drawn} {t : Nat} {os : OsState}
variable {nm q : PySem.Str} {C N : Addr} {bs bm : List Value} {hdct : Bool} {sn : List PySem.Str} {sub : List Value} {ab : Bool} {col : Option Bool} {dd : Option Addr} {k0 k1 k2 k3 k5 : Option Value}
theorem exc_check_init (hB : bm.contains (.type "Exception") = true) {M : Model} {e : Addr} {oe : Obj} {rest : List Value} {Q : Unit → Shared → Prop}
    (hC : h.get? C = some (excClassObj nm q C N bs bm hdct sn sub ab col dd k0 k1 k2 k3 k5 "Exception.__new__")) (he : h.get? e = some oe) (hcls : oe.cls = .ref C) (hq : Q () ⟨h, g, d, t, os⟩) :
    wpAny M A (checkBuiltinCall "Exception.__init__" ⟨.ref e :: rest, []⟩) Q E ⟨h, g, d, t, os⟩ := by
  have F := PySem.F.excBase_Exception
  have hcB : (Value.ref C :: bm).contains (.type "Exception") = true := by rw [List.contains_cons, hB, Bool.or_true]
  have hshort := F.noStar
  simp only [checkBuiltinCall, F.initKind, F.initSplit, F.initRow]
  repeat (first | (with_reducible refine wpAny_loadPart_at he ?_; rw [hcls]) | with_reducible refine wpAny_loadPart_at hC ?_ | (with_reducible refine wpAny_isSubtype_exc hC ?_; rw [hcB]) | wp_step)
  refine wpAny_onRaise ?_
  rw [show ∀ (a b : String) (n : Nat), Bind.check ⟨.positional, "*", "Exception", .self, [⟨"args", .varPos, false⟩]⟩ a b n (List.map (fun x => x.fst) ({ pos := Value.ref e :: rest } : Args).kw) = pure () from
    fun a b n => check_star_args _ _ _ _ _ _]
  exact wpAny_pure hq
theorem exc_init_call (hB : bm.contains (.type "Exception") = true) {e t0 : Addr} {rest : List Value} {Q : Value → Shared → Prop}
    (hC : h.get? C = some (excClassObj nm q C N bs bm hdct sn sub ab col dd k0 k1 k2 k3 k5 "Exception.__new__")) (he : h.get? e = some (excO C t0)) (hrest : rest.length ≤ sizeLine)
    (hq : ∀ f, ((h.push (tupO rest)).update e f).get? e = some (excO C h.objs.size) → Q .none ⟨(h.push (tupO rest)).update e f, g, d, t, os⟩) :
    wpAny (model prog w) A (call (.builtin "Exception.__init__") (.ref e :: rest)) Q E ⟨h, g, d, t, os⟩ := by
  have F := PySem.F.excBase_Exception
  refine wpAny_call (codeAny_call_builtin F.init.plain F.initEntry (exc_check_init hB hC he rfl ?_))
  wp_walk
  refine hq _ ?_
  exact Heap.get?_update_self _ (Heap.get?_push_of_some _ he) rfl
end

-- the part excset
/-! attributes of an exception of class 51: stored, read -/
theorem exc_passes (self : Value) : refuseLoop self "__setattr__" [.type "Exception", .type "BaseException", .type "object"] = pure () := by kernel_rfl
noncomputable abbrev K0 (w : World) : Frag := One.hd.heap_1_39 w.params
/-- the names that BadText stores -/
noncomputable def badName (n : PySem.Str) : Bool := n == PySem.Str.ofString "why" || n == PySem.Str.ofString "row" || n == PySem.Str.ofString "column"
theorem exc_none (w : World) {n : PySem.Str} (h : badName n = true) : findIn (K0 w) (.ref 51) n = some none := by
  unfold badName at h
  simp only [Bool.or_eq_true, beq_iff_eq] at h
  rcases h with (rfl | rfl) | rfl <;> with_unfolding_all rfl
theorem exc_cls (w : World) : ∃ cd, clsIn (K0 w) 51 = some cd ∧ cd.mro = [.ref 51, .ref 31, .type "Exception", .type "BaseException", .type "object"] ∧ cd.hasDict = true := ⟨_, by with_unfolding_all rfl, rfl, rfl⟩
theorem exc_setattr (w : World) : findIn (K0 w) (.ref 51) "__setattr__" = some (some (.builtin "object.__setattr__")) := by with_unfolding_all rfl
theorem upd_mod {h h' h₀ : Heap} {L : Addr} {m : PySem.Str → Option Value} {news news' : List (Addr × Obj)} {a : Addr} {o o' : Obj} (F : Fr h₀ L h m) (N : News h₀ L h news) (U : Upd a o o' news news')
    (hk : ∀ x o, x ≠ a → h.get? x = some o → h'.get? x = some o) (ha : h'.get? a = some o') : Fr h₀ L h' m ∧ News h₀ L h' news' := by
  obtain ⟨_, hL, h0⟩ := N _ (upd_mem U)
  refine ⟨⟨F.ns.at' fun o e => hk _ o (Ne.symm hL) e, fun b o e => hk b o (fun q => by rw [q, h0] at e; cases e) (F.keep b o e), F.above⟩, fun p hp => ?_⟩
  rcases upd_sub U p hp with rfl | ⟨hm, hne⟩
  · exact ⟨ha, hL, h0⟩
  · exact ⟨hk _ _ hne (N p hm).1, (N p hm).2⟩
section
open PySem.Builtin.ObjectAttr
variable {prog : Program} {w : World} {A : Around} {s : Shared} {R : Result → Shared → Prop} {x dx L : Addr} {h₀ : Heap} {m : PySem.Str → Option Value} {news news' : List (Addr × Obj)} {ox od : Obj} {odd : Option Obj} {es : List DictEntry} {n : Nat} {name : PySem.Str} {v : Value}
theorem exc_osa_open {tk : Tok} (X : (K0 w).In s.heap) (I : PySem.W.InstAt s.heap x ox 51 odd) (hb : badName name = true)
    (h : ∀ b, wpAny (model prog w) A.in1 (storeInOwnDict (.ref x) (.ref 51) (.str name tk) name v b)
      (fun fin s' => match fin with | .done f => R (.ok f) s' | .again c' => c'.quiet = true ∧ codeAny (model prog w) A c' R s') (fun e s' => R (.error e) s') s) :
    codeAny (model prog w) A (.call (.builtin "object.__setattr__") ⟨[.ref x, .str name tk, v], []⟩) R s := by
  have SF := PySem.F.store_object
  obtain ⟨cd, hc, hm', _⟩ := exc_cls w
  have ne : cd.mro.isEmpty = false := by rw [hm']; rfl
  have sub : Looks (model prog w) s.heap (isInstance (.ref x) (.type "object")) true := I.type.andThen (looks_mroIn X (by unfold mroIn; rw [hc, Option.bind_some, if_neg (by rw [ne]; decide), hm']; rfl))
  refine codeAny_call_builtin SF.slot.plain SF.entry (@check_slot (model prog w) _ _ s "object.__setattr__" "object" "__setattr__" (.ref x) [.str name tk, v] [] _ SF.kind SF.split sub (SF.args (.ref x) (.str name tk) v) ?_)
  have hm : Looks (model prog w) s.heap (mroOf (.ref 51)) cd.mro := (looks_clsIn X hc).andThen .now
  have L3 : Looks (model prog w) s.heap (storeTaker? none) none := .now
  rw [osa_eq, refuse_eq]
  refine wpAny_bind (wpAny_bind (I.type.here (wpAny_bind (hm.here ?_))))
  rw [hm', refuseLoop_ref, refuseLoop_ref, exc_passes]
  refine wpAny_pure (wpAny_bind (I.type.here (wpAny_bind ((looks_findIn X (exc_none w hb)).here (wpAny_bind (L3.here ?_))))))
  exact h _
theorem exc_store {A' : Around} {tk : Tok} {od' : Obj} {es' : List DictEntry} (F : Fr h₀ L s.heap m) (N : News h₀ L s.heap news) (U : Upd dx od od' news news')
    (hl : (lookIn name od).isSome = true) (e : Obj.putName name (PyData.keyHash w.params name) (.str name s.toks) v od = od') (e' : od'.data = .dict es'.toArray n) (hz : es'.length ≤ 1000)
    (h : ∀ h', Fr h₀ L h' m → News h₀ L h' news' → R (.ok (.ret .none)) { s with heap := h', toks := s.toks + 1 }) :
    wpAny (model prog w) A' (storeInDict dx (.str name tk) name v)
      (fun fin s' => match fin with | .done f => R (.ok f) s' | .again c' => c'.quiet = true ∧ codeAny (model prog w) A c' R s') (fun e s' => R (.error e) s') s := by
  obtain ⟨pre, post, rfl, rfl, h1, h2⟩ := U.split
  obtain ⟨U1, U2⟩ := news_upd (f := Obj.putName name (PyData.keyHash w.params name) (.str name s.toks) v) F N h1 h2 e (by obtain ⟨_, _, dd, _⟩ := od'; cases e'; rfl)
  have D := (N (dx, od) (by simp)).1
  have D' := (U2 (dx, od') (by simp)).1
  unfold storeInDict
  refine wpAny_bind (wpAny_pure (wpAny_bind ?_))
  unfold nsSet
  refine wpAny_bind (wpAny_bind (wpAny_askSetting (wpAny_pure (wpAny_bind (wpAny_mkText (wpAny_bind (wpAny_loadPart D ?_)))))))
  unfold lookIn at hl
  split at hl
  · rename_i es₀ n₀ q
    rw [q]
    dsimp only
    have c : (!es₀.any (·.key.isStr name) && es₀.any (·.refKey)) = false := by
      rw [← Array.any_toList, ← Array.any_toList]
      split at hl
      · rename_i en he
        rw [List.any_eq_true.mpr ⟨en, List.mem_of_find?_eq_some he, List.find?_some he⟩]; rfl
      · split at hl
        · cases hl
        · rename_i z; rw [Bool.not_eq_true] at z; rw [z, Bool.and_false]
    rw [aRefKeyMayBeTheName_at, c]
    refine wpAny_updatePart D ?_
    refine wpAny_bind (wpAny_lookBehind D' (by rw [e']; exact pastItsLine_dict (by rw [List.size_toArray, sizeLine_eq]; omega)) ?_)
    exact wpAny_pure (h _ U1 U2)
  · cases hl
noncomputable abbrev exD (d : Addr) (vs : Array Value) : Obj := { cls := .ref 51, dict := some d, data := .fields vs }
theorem exD_inst {h : Heap} {vs : Array Value} (N : News h₀ L h news) (h1 : (x, exD dx vs) ∈ news) (h2 : (dx, od) ∈ news) : PySem.W.InstAt h x (exD dx vs) 51 (some od) := ⟨(N _ h1).1, rfl, rfl, (N _ h2).1⟩
theorem excK_set {E : Value → Shared → Prop} {Q : Unit → Shared → Prop} {vs : Array Value} {es es' : List DictEntry} {n n' : Nat} (F : Fr h₀ L s.heap m) (X₀ : (K0 w).In h₀) (N : News h₀ L s.heap news) (hx : (x, exD dx vs) ∈ news) (hd : (dx, dictOf es n) ∈ news)
    (hb : badName name = true) (hl : (getL name es).isSome = true) (e : (putL name (PyData.keyHash w.params name) (.str name (s.toks + 1)) v es, putN name es n) = (es', n')) (U : Upd dx (dictOf es n) (dictOf es' n') news news') (hz : es'.length ≤ 1000)
    (h : ∀ h', Fr h₀ L h' m → News h₀ L h' news' → Q () { s with heap := h', toks := s.toks + 2 }) : wpAny (model prog w) A (setAttr (.ref x) name v) Q E s := by
  have X := X₀.keeps F.keep
  have I := exD_inst N hx (upd_mem U)
  obtain ⟨e1, e2⟩ := Prod.mk.inj e
  refine set_plain X I (exc_setattr w) (exc_osa_open (s := { s with toks := s.toks + 1 }) (R := fun r s' => match r with | .ok (.ret _) => Q () s' | .ok _ => False | .error e => E e s') X I hb fun b => ?_)
  obtain ⟨cd, hc, _, hd'⟩ := exc_cls w
  have hx' := I.at_
  refine wpAny_bind (wpAny_pure (wpAny_bind (wpAny_bind (wpAny_loadPart hx' (wpAny_bind (Looks.here (s := { s with toks := s.toks + 1 }) (looks_clsIn X hc) ?_))))))
  rw [hd']
  refine wpAny_pure (a := some dx) ?_
  exact exc_store (s := { s with toks := s.toks + 1 }) (R := fun r s' => match r with | .ok (.ret _) => Q () s' | .ok _ => False | .error e => E e s') F N U hl (by rw [putName_dict, e1, e2]) rfl hz fun h' F' N' => h h' F' N'
theorem excK_set1 {E : Value → Shared → Prop} {Q : Unit → Shared → Prop} {t0 : Addr} {nw : Obj → List (Addr × Obj)} (F : Fr h₀ L s.heap m) (X₀ : (K0 w).In h₀) (N : News h₀ L s.heap news) (U : ∀ o', Upd x (excO 51 t0) o' news (nw o'))
    (hb : badName name = true)
    (h : ∀ d h', (∀ p ∈ news, p.1 < d) → Fr h₀ L h' m → News h₀ L h' ((d, dictOf [⟨PyData.keyHash w.params name, .str name (s.toks + 1), v⟩] 1) :: nw (exD d #[.ref t0, .none, .none, .none, .bool false, .none])) → Q () { s with heap := h', toks := s.toks + 2 }) :
    wpAny (model prog w) A (setAttr (.ref x) name v) Q E s := by
  have X := X₀.keeps F.keep
  have hx := (N _ (upd_mem (U default))).1
  have I : PySem.W.InstAt s.heap x (excO 51 t0) 51 none := ⟨hx, rfl, rfl, trivial⟩
  refine set_plain X I (exc_setattr w) (exc_osa_open (s := { s with toks := s.toks + 1 }) (R := fun r s' => match r with | .ok (.ret _) => Q () s' | .ok _ => False | .error e => E e s') X I hb fun b => ?_)
  obtain ⟨cd, hc, _, hd'⟩ := exc_cls w
  refine wpAny_bind (wpAny_pure (wpAny_bind (wpAny_bind (wpAny_loadPart hx (wpAny_bind (Looks.here (s := { s with toks := s.toks + 1 }) (looks_clsIn X hc) ?_))))))
  rw [hd']
  have F1 := F.push emptyDict
  have N1 := News.push F N emptyDict
  have hfr : ∀ p ∈ news, p.1 < s.heap.objs.size := fun p hp => Heap.lt_size (N p hp).1
  have hxd : x ≠ s.heap.objs.size := Nat.ne_of_lt (Heap.lt_size hx)
  have hx1 := Heap.get?_push_of_some emptyDict hx
  refine wpAny_bind (wpAny_alloc (wpAny_bind (wpAny_update hx1 ?_)))
  refine wpAny_pure (a := some s.heap.objs.size) ?_
  obtain ⟨F2, N2⟩ := upd_mod (o' := exD s.heap.objs.size #[.ref t0, .none, .none, .none, .bool false, .none]) F1 N1 (news' := (s.heap.objs.size, emptyDict) :: nw (exD s.heap.objs.size #[.ref t0, .none, .none, .none, .bool false, .none]))
    (Upd.tail (Ne.symm hxd) (U _)) (h' := (s.heap.push emptyDict).update x fun o => { o with dict := some s.heap.objs.size })
    (fun y o hy e => (Heap.SameBut.update ..).extBut y o hy e) (Heap.get?_update_self _ hx1 rfl)
  have hlt : ∀ p ∈ nw (exD s.heap.objs.size #[.ref t0, .none, .none, .none, .bool false, .none]), p.1 ≠ s.heap.objs.size := fun p hp => by
    rcases upd_sub (U _) p hp with rfl | ⟨hm, _⟩
    · exact hxd
    · exact Nat.ne_of_lt (hfr p hm)
  exact exc_store (s := { s with heap := (s.heap.push emptyDict).update x fun o => { o with dict := some s.heap.objs.size }, toks := s.toks + 1 }) (R := fun r s' => match r with | .ok (.ret _) => Q () s' | .ok _ => False | .error e => E e s') (od' := dictOf [⟨PyData.keyHash w.params name, .str name (s.toks + 1), v⟩] 1)
    F2 N2 (Upd.head hlt) rfl rfl rfl (Nat.le_of_ble_eq_true rfl) fun h' F' N' => h _ h' hfr F' N'
end

-- the part excget
theorem exc_ga (w : World) : findIn (K0 w) (.ref 51) "__getattribute__" = some (some (.builtin "BaseException.__getattribute__")) := by with_unfolding_all rfl
theorem exc_gattr (w : World) : findIn (K0 w) (.ref 51) "__getattr__" = some none := by with_unfolding_all rfl
theorem exc_ga_plain : plainId "BaseException.__getattribute__" = true := by decide +kernel
theorem exc_ga_kind : builtinKind "BaseException.__getattribute__" = some .slot := by decide +kernel
theorem exc_ga_split : splitId "BaseException.__getattribute__" = some ("BaseException", "__getattribute__") := by decide +kernel
theorem exc_ga_bind (self : Value) : bindSpecial (.builtin "BaseException.__getattribute__") self = pure (.builtin "BaseException.__getattribute__", [self]) := by kernel_rfl
theorem wpAny_ite_f' {M : Model} {A : Around} {E : Value → Shared → Prop} {s : Shared} {α : Type} {c : Prop} [Decidable c] {a b : Sem α} {Q : α → Shared → Prop} (hc : ¬ c) (h : wpAny M A b Q E s) : wpAny M A (if c then a else b) Q E s := by rw [if_neg hc]; exact h
section
variable {prog : Program} {w : World} {A : Around} {s : Shared} {R : Result → Shared → Prop} {E : Value → Shared → Prop} {Q : Value → Shared → Prop} {x dx L : Addr} {h₀ : Heap} {m : PySem.Str → Option Value} {news : List (Addr × Obj)} {es : List DictEntry} {n : Nat} {name : PySem.Str} {v : Value} {vs : Array Value}
theorem excK_get {expr : Bool} (F : Fr h₀ L s.heap m) (X₀ : (K0 w).In h₀) (N : News h₀ L s.heap news) (hx : (x, exD dx vs) ∈ news) (hd : (dx, dictOf es n) ∈ news)
    (hb : badName name = true) (hl : getL name es = some (some v)) (hv : handedIn v = true) (h : Q v { s with toks := s.toks + 1 }) :
    wpAny (model prog w) A (getAttr (.ref x) name expr) Q E s := by
  have X := X₀.keeps F.keep
  have I := exD_inst N hx hd
  obtain ⟨cd, hc, hm', hd'⟩ := exc_cls w
  have hf : findObj (K0 w) 51 (some (dictOf es n)) name = some (.value v) := by
    refine findObj_own (by unfold hasDictIn; rw [hc]; exact hd') (exc_none w hb) rfl ?_
    rw [lookIn_dict]; exact hl
  have sub : Looks (model prog w) s.heap (isInstance (.ref x) (.type "BaseException")) true := I.type.andThen (looks_mroIn X (by unfold mroIn; rw [hc, Option.bind_some, if_neg (by rw [hm']; decide), hm']; rfl))
  obtain ⟨hh, g, d, t, os⟩ := s
  have L0 := I.type (M := model prog w)
  have L1 := looks_findIn (M := model prog w) X (exc_ga w)
  have L2 := looks_findIn (M := model prog w) X (exc_gattr w)
  have L3 := looks_find (M := model prog w) X I hf
  unfold getAttr getAttrBy
  refine wpAny_bind (wpAny_mkText (wpAny_holding (wpAny_bind (L0.at (wpAny_bind (L1.at ?_))))))
  show wpAny _ _ (getAttrByItsOwn _ _ _ _ _ _) _ _ _
  unfold getAttrByItsOwn hookBefore
  refine wpAny_bind (L2.at ?_)
  refine wpAny_bind (wpAny_attempt (wpAny_holding ?_))
  unfold callGetattribute boundAndCalled
  refine wpAny_ite_f' (by cases expr <;> exact Bool.false_ne_true) ?_
  rw [exc_ga_bind]
  refine wpAny_bind (wpAny_pure (wpAny_call ?_))
  refine codeAny_call_builtin exc_ga_plain PySem.F.entry_bexc_ga (@check_slot (model prog w) _ _ _ "BaseException.__getattribute__" "BaseException" "__getattribute__" (.ref x) [.str name t] [] _ exc_ga_kind exc_ga_split sub (PySem.F.args_bexc_ga _ _) ?_)
  show wpAny _ _ (Builtin.«object.__getattribute__» ⟨[.ref x, .str name t], []⟩) _ _ _
  unfold Builtin.«object.__getattribute__»
  refine wpAny_bind (wpAny_of_eq (a := (.ref x, [.str name t])) (by kernel_rfl) ?_)
  dsimp only
  refine wpAny_bind (wpAny_pure (wpAny_bind (L0.at (wpAny_bind (L3.at ?_)))))
  refine wpAny_pure ?_
  show wpAny _ _ (handedOut v) _ _ _
  rw [handedOut_of hv]; exact wpAny_pure h
end

-- the part excrun
/-! the own __init__ chain, over a ledger -/
theorem exc_obj (w : World) : ∃ hdct sn sub ab col dd k0 k1 k2 k3 k5, (K0 w).lookup 51 = some (excClassObj (PySem.Str.ofString "BadText") (PySem.Str.ofString "BadText") 51 50 [.ref 31] [.ref 31, .type "Exception", .type "BaseException", .type "object"] hdct sn sub ab col dd k0 k1 k2 k3 k5 "Exception.__new__") := ⟨_, _, _, _, _, _, _, _, _, _, _, rfl⟩
theorem exc_type : typeOf (.type "Exception") = pure (.type "type") := by kernel_rfl
theorem exc_stub : Manifest.isStub "Exception" = false := by decide +kernel
theorem exc_find (K : Frag) : findCls K (.type "Exception") (.type "type") "__init__" = some (.val (.builtin "Exception.__init__")) := by with_unfolding_all rfl
theorem exc_call51 (w : World) : specialIn (K0 w) (.ref 51) "__call__" = some (some (.builtin "type.__call__")) ∧ instIn (K0 w) (.ref 51) (.type "type") = some true ∧ findIn (K0 w) (.ref 51) "__init__" = some (some (.ref 48)) ∧ typeIn (K0 w) (.ref 48) = some (.type "function") := ⟨by with_unfolding_all rfl, by with_unfolding_all rfl, by with_unfolding_all rfl, by with_unfolding_all rfl⟩
section
variable {prog : Program} {w : World} {A : Around} {s : Shared} {E : Value → Shared → Prop} {x L : Addr} {h₀ : Heap} {m : PySem.Str → Option Value} {news : List (Addr × Obj)}
theorem exc_method_init {pl : Sem Bool} {Q : Value × List Value → Shared → Prop} (F : Fr h₀ L s.heap m) (X₀ : (K0 w).In h₀) (h : Q (.builtin "Exception.__init__", []) { s with toks := s.toks + 1 }) : wpAny (model prog w) A (getMethod (.type "Exception") "__init__" pl) Q E s :=
  method_type F X₀ exc_type exc_stub (exc_find _) rfl h
theorem excK_init {Q : Value → Shared → Prop} {rest : List Value} {t0 : Addr} {nw : Obj → List (Addr × Obj)} (F : Fr h₀ L s.heap m) (X₀ : (K0 w).In h₀) (N : News h₀ L s.heap news) (U : ∀ o', Upd x (excO 51 t0) o' news (nw o')) (hrest : rest.length ≤ sizeLine)
    (h : ∀ t h', (∀ p ∈ news, p.1 < t) → Fr h₀ L h' m → News h₀ L h' ((t, tupO rest) :: nw (excO 51 t)) → Q .none { s with heap := h' }) :
    wpAny (model prog w) A (call (.builtin "Exception.__init__") (.ref x :: rest)) Q E s := by
  have X := X₀.keeps F.keep
  obtain ⟨hdct, sn, sub, ab, col, dd, k0, k1, k2, k3, k5, ho⟩ := exc_obj w
  have hx := (N _ (upd_mem (U default))).1
  have hfr : ∀ p ∈ news, p.1 < s.heap.objs.size := fun p hp => Heap.lt_size (N p hp).1
  have F1 := F.push (tupO rest)
  have N1 := News.push F N (tupO rest)
  obtain ⟨hh, g, d, t, os⟩ := s
  refine exc_init_call (by rfl) (X _ _ ho) hx hrest fun f he => ?_
  obtain ⟨F2, N2⟩ := upd_mod (o' := excO 51 hh.objs.size) F1 N1 (news' := (hh.objs.size, tupO rest) :: nw (excO 51 hh.objs.size)) (Upd.tail (Ne.symm (Nat.ne_of_lt (Heap.lt_size hx))) (U _)) (h' := (hh.push (tupO rest)).update x f)
    (fun y o hy e => (Heap.SameBut.update ..).extBut y o hy e) he
  exact h _ _ hfr F2 N2
theorem excK_make {R : Result → Shared → Prop} {rest : List Value} (F : Fr h₀ L s.heap m) (X₀ : (K0 w).In h₀) (N : News h₀ L s.heap news) (hrest : rest.length ≤ sizeLine)
    (h : ∀ x t h', (∀ p ∈ news, p.1 < t) → t < x → Fr h₀ L h' m → News h₀ L h' ((x, excO 51 t) :: (t, tupO rest) :: news) →
      codeAny (model prog w) (A.under (.builtin "type.__call__" ⟨.ref 51 :: rest, []⟩)) (.call (.ref 48) ⟨.ref x :: rest, []⟩) (InitBack x R) { s with heap := h' }) :
    codeAny (model prog w) A (.call (.ref 51) ⟨rest, []⟩) R s := by
  have X := X₀.keeps F.keep
  obtain ⟨hdct, sn, sub, ab, col, dd, k0, k1, k2, k3, k5, ho⟩ := exc_obj w
  obtain ⟨c1, c2, c3, c4⟩ := exc_call51 w
  have hfr : ∀ p ∈ news, p.1 < s.heap.objs.size := fun p hp => Heap.lt_size (N p hp).1
  have F1 := F.push (tupO rest)
  have N1 := News.push F N (tupO rest)
  have F2 := F1.push (excO 51 s.heap.objs.size)
  have N2 := News.push F1 N1 (excO 51 s.heap.objs.size)
  rw [Heap.size_push] at N2
  obtain ⟨hh, g, d, t, os⟩ := s
  exact exc_make X (X _ _ ho) rfl rfl rfl c1 c2 c3 c4 hrest (h _ _ _ hfr (Nat.lt_succ_self _) F2 N2)
end
local macro_rules | `(tactic| walk_at "getMethod type:Exception") => ln ``exc_method_init "FX_"
local macro_rules | `(tactic| walk_at "call builtin:Exception.__init__") => ln ``excK_init "FXNUz_" "..l.."
local macro_rules | `(tactic| walk_at "setAttr ref") => ln ``excK_set "FXNxxkgpuz_" "..."
local macro_rules | `(tactic| walk_at "setAttr ref") => ln ``excK_set1 "FXNUk_" "..l.."
section
variable {w : World} {mean : ExcName → Option Value} {mg mb : PySem.Str → Option Value} {loose : List PySem.Str}
   {dp un : Nat} {gd : Option (List Code)} {cn : PySem.Str} {cs : Scope} {a : Addr} {ccd : Value} {cl : List (PySem.Str × Addr)} {outer : List Env} {A₀ : Around} {base h₀ : Heap} {L : Addr} {m : PySem.Str → Option Value} {news : List (Addr × Obj)} {s : Shared}
    {Q E : Value → Shared → Prop} {x t0 : Addr} {why : PySem.Str} {t1 : Tok}
theorem finit_w
    (B : Below A₀ base outer h₀) (F : Fr h₀ L s.heap m) (X : (One.hd.heap_1_39 w.params).In h₀) (N : News h₀ L s.heap ((x, excO 51 t0) :: news)) (TT : Top One.hd.view_1_40 loose mean mg mb h₀) (hk : cs.kind = .function)
    (hnw : ∀ p ∈ news, p.1 ≠ x)
    (hr : dp + 6 < recursionLimit) (hu : un + 40 < cLine)
    (ret : ∀ h' tk d t ka, Fr h₀ L h' m → News h₀ L h' ((d, dictOf [⟨PyData.keyHash w.params "why", .str "why" ka, .str why t1⟩] 1) :: (t, tupO [.str why t1]) :: (x, exD d #[.ref t, .none, .none, .none, .bool false, .none]) :: news) → (∀ p ∈ (t, tupO []) :: (x, tupO []) :: news, p.1 < d) → (∀ p ∈ (x, tupO []) :: news, p.1 < t) → Q .none { s with heap := h', toks := tk }) :
    wpAny (model prog0 w) (ktrTop dp un gd cn cs L a ccd cl outer) (call (.ref 28) [.ref x, .str why t1]) Q E s := by
  w_on
  refine wpAny_call ?_
  k_dflt ktr_enter
  k_steps
  rename _ < _ ∧ AllLt _ _ => l1
  rename _ < _ ∧ _ < _ ∧ AllLt _ _ => l2
  exact ret _ _ _ _ _ (by k_asm) (by k_asm) (allLt_lt l2) (allLt_lt l1)
end
local macro_rules | `(tactic| walk_at "call ref") => lnAt 28 ``finit_w "BFXNTklrn_" ".......ll"

-- the part excbad
section
variable {w : World} {mean : ExcName → Option Value} {mg mb : PySem.Str → Option Value} {loose : List PySem.Str}
   {dp un : Nat} {gd : Option (List Code)} {cn : PySem.Str} {cs : Scope} {a : Addr} {ccd : Value} {cl : List (PySem.Str × Addr)} {outer : List Env} {A₀ : Around} {base h₀ : Heap} {L : Addr} {m : PySem.Str → Option Value} {news : List (Addr × Obj)} {s : Shared}
    {Q E : Value → Shared → Prop} {x t0 : Addr} {why : PySem.Str} {t1 : Tok}
theorem binit_w {row col : Int} {t2 t3 : Tok} {R : Result → Shared → Prop}
    (B : Below A₀ base outer h₀) (F : Fr h₀ L s.heap m) (X : (One.hd.heap_1_39 w.params).In h₀) (N : News h₀ L s.heap ((x, excO 51 t0) :: news)) (TT : Top One.hd.view_1_40 loose mean mg mb h₀) (hk : cs.kind = .function)
    (hnw : ∀ p ∈ news, p.1 ≠ x)
    (hr : dp + 8 < recursionLimit) (hu : un + 60 < cLine)
    (ret : ∀ h' tk d t k1 k2 k3, Fr h₀ L h' m → News h₀ L h' ((d, dictOf [⟨PyData.keyHash w.params "why", .str "why" k1, .str why t1⟩, ⟨PyData.keyHash w.params "row", .str "row" k2, .int row t2⟩, ⟨PyData.keyHash w.params "column", .str "column" k3, .int col t3⟩] 3) :: (t, tupO [.str why t1]) :: (x, exD d #[.ref t, .none, .none, .none, .bool false, .none]) :: news) → AllLt d ((t, tupO []) :: (x, tupO []) :: news) → AllLt t ((x, tupO []) :: news) → R (.ok (.ret (.ref x))) { s with heap := h', toks := tk }) :
    codeAny (model prog0 w) (ktrTop dp un gd cn cs L a ccd cl outer) (.call (.ref 48) ⟨[.ref x, .str why t1, .int row t2, .int col t3], []⟩) (InitBack x R) s := by
  w_on
  k_dflt ktr_enter
  k_steps
  rename _ < _ ∧ AllLt _ _ => l1
  rename _ < _ ∧ _ < _ ∧ AllLt _ _ => l2
  exact ret _ _ _ _ _ _ _ (by k_asm) (by k_asm) l2 l1
end

-- the part excraise
/-! raise BadText(why, row, column) -/
noncomputable abbrev excF (t : Addr) : Array Value := #[.ref t, .none, .none, .none, .bool false, .none]
noncomputable def RaisableB (w : World) (E : Value → Shared → Prop) (v : Value) (s₁ : Shared) : Prop := ∃ e d t, v = .ref e ∧ (K0 w).In s₁.heap ∧ s₁.heap.get? e = some (exD d (excF t)) ∧ E (.ref e) s₁
section
variable {w : World} {A : Around} {s : Shared} {E : Value → Shared → Prop} {env : Env} {h₀ : Heap} {m : PySem.Str → Option Value} {L : Addr}
theorem raise_bad {prog : Program} {exc : PySem.Expr} {pos : Pos} {Q : Flow → Shared → Prop} (hh : A.handled = none)
    (h : wpAny (model prog w) A (eval exc env) (RaisableB w E) E s) :
    wpAny (model prog w) A (exec (.Raise (some exc) none pos) env) Q E s := by
  rw [arm_exec_Raise]
  refine wpAny_bind (wpAny_standAt ?_)
  show wpAny _ _ (raiseStmt env (some (eval exc env >>= fun v => standAt pos >>= fun _ => pure v)) none) _ _ _
  unfold raiseStmt
  refine wpAny_bind (wpAny_bind (wpAny_mono h (fun v s₁ h₁ => ?_) fun _ _ x => x))
  obtain ⟨e, d, t, rfl, X, he, hE⟩ := h₁
  refine wpAny_bind (wpAny_standAt (wpAny_pure ?_))
  obtain ⟨hdct, sn, sub, ab, col, dd, k0, k1, k2, k3, k5, ho⟩ := exc_obj w
  have hC := X _ _ ho
  obtain ⟨hp, g, dr, tk, os⟩ := s₁
  have hcB : (Value.ref 51 :: [Value.ref 31, .type "Exception", .type "BaseException", .type "object"]).contains (.type "BaseException") = true := by rfl
  repeat (first | with_reducible refine wpAny_loadPart_at he ?_ | with_reducible refine wpAny_loadPart_at hC ?_ | (with_reducible refine wpAny_isSubtype_exc hC ?_; rw [hcB]) | wp_step)
  exact wpAny_raiseNew_none hh hE
end

-- the part fly
/-! a BadText on its way out of the frames, its dict kept in sight -/
/-- the exception e (dict d) flies above the frames l; all of B stays -/
noncomputable def FliesB (B : Heap) (l : List Env) (e d : Addr) (h : Heap) : Prop :=
  B.StaysIn h ∧ B.get? e = none ∧ h.FunFrames B l ∧ ∃ (vs : Array Value) (T : Addr) (oT : Obj) (ts : Array Value), h.get? e = some (exD d vs) ∧ vs[1]? = some (.ref T) ∧ B.get? T = none ∧ T ≠ e ∧ h.get? T = some oT ∧ oT.data = .fields ts ∧ ts[3]? = some .none
section
variable {M : Model} {A : Around} {E : Value → Shared → Prop} {s : Shared}
theorem fly_entry {base : Heap} {env : Env} {outer : List Env} {L e d : Addr} {vs : Array Value} {head : Value} {hadNext : Bool} {Q : Unit → Shared → Prop}
    (hfr : A.frames = some (env :: outer)) (hl : s.heap.FunFrames base (env :: outer)) (hf : env.frame = some L)
    (he : s.heap.get? e = some (exD d vs)) (hkb : base.StaysIn s.heap) (hen : base.get? e = none) (hsz : 1 < vs.size)
    (h : ∀ h', FliesB base (env :: outer) e d h' → s.heap.UpToSlots h' → Q () { s with heap := h' }) :
    wpAny M A (do let a ← frameOf env; let pl ← entryPlaceOf L hadNext; let b ← EntryCells.newEntry head a .none (rawInt L) .none pl; setField (.ref e) 1 b) (fun _ s' => wpAny M A (setFlight (.ref e) none) Q E s') E s := by
  have hene : e ∉ (env :: outer).filterMap (·.frame) := fun hm => by
    obtain ⟨_, o, ho, hnf⟩ := hl.mem hm
    rw [he] at ho; injection ho with ho; subst ho; exact hnf vs rfl
  refine wpAny_bind (wpAny_frameOf_fun hfr hl hf fun h₁ hs₁ => ?_)
  refine wpAny_bind (wpAny_entryPlaceOf fun pl hpl => ?_)
  unfold EntryCells.newEntry newFields
  refine wpAny_bind (wpAny_newObj_type ?_ (hpl.sizeOk5 _ _ _ _ _))
  have he₁ : h₁.get? e = some (exD d vs) := (hs₁.2.1 e hene).trans he
  have kb₁ : base.StaysIn h₁ := fun b o hbo => (hs₁.2.1 b fun hm => by rw [(hl.mem hm).1] at hbo; cases hbo).trans (hkb b o hbo)
  have he₂ := Heap.get?_push_of_some (h := h₁) { cls := .type "traceback", dict := none, data := .fields ([head, .ref L, .none, rawInt L, .none] ++ (if pl.isEmpty then List.replicate 6 Value.none else pl)).toArray } he₁
  refine wpAny_setField he₂ rfl hsz ?_
  have hTe : h₁.objs.size ≠ e := Nat.ne_of_gt (Heap.lt_size he₁)
  have he₃ := Heap.get?_update_self (Obj.mapFields (·.setIfInBounds 1 (Value.ref h₁.objs.size))) he₂ rfl
  have hT₃ := (Heap.get?_update_other (h₁.push { cls := .type "traceback", dict := none, data := .fields ([head, .ref L, .none, rawInt L, .none] ++ (if pl.isEmpty then List.replicate 6 Value.none else pl)).toArray })
    (Obj.mapFields (·.setIfInBounds 1 (Value.ref h₁.objs.size))) (Ne.symm hTe)).trans (Heap.get?_push_size h₁ rfl)
  unfold setFlight
  refine wpAny_bind (wpAny_field he₃ rfl (x := .ref h₁.objs.size) (by simp [hsz]) ?_)
  rw [if_pos (show (Value.ref h₁.objs.size != Value.none) = true from by simp)]
  refine wpAny_setField hT₃ rfl (by simp only [List.size_toArray, List.length_append, List.length_cons, List.length_nil] <;> omega) (h _ ?_ ?_)
  all_goals
    have keep : ∀ b o, b ≠ e → h₁.get? b = some o →
        (((h₁.push { cls := .type "traceback", dict := none, data := .fields ([head, .ref L, .none, rawInt L, .none] ++ (if pl.isEmpty then List.replicate 6 Value.none else pl)).toArray }).update e (Obj.mapFields (·.setIfInBounds 1 (Value.ref h₁.objs.size)))).update h₁.objs.size
          (Obj.mapFields (·.setIfInBounds 3 ((none : Option Addr).elim Value.none fun f => rawInt f)))).get? b = some o := fun b o hbe hb => by
      have hbT : h₁.objs.size ≠ b := Nat.ne_of_gt (Heap.lt_size hb)
      rw [Heap.get?_update_other _ _ hbT, Heap.get?_update_other _ _ (Ne.symm hbe)]
      exact Heap.get?_push_of_some _ hb
    have noRecord : ∀ b o, s.heap.get? b = some o → (∀ vs, o.data ≠ .fields vs) → b ≠ e := fun b o hb hnf q => by
      rw [q, he] at hb; injection hb with hb; subst hb; exact hnf vs rfl
  · refine ⟨fun b o hbo => keep b o (fun q => by rw [q, hen] at hbo; cases hbo) (kb₁ b o hbo), hen, hl.of_keeps fun b o hb hnf => ?_, ?_⟩
    · obtain ⟨sl, hs⟩ := hs₁.2.2 b o hb
      exact ⟨_, keep b _ (noRecord b o hb hnf) hs, rfl⟩
    · refine ⟨vs.setIfInBounds 1 (Value.ref h₁.objs.size), h₁.objs.size, _, _, ?_, ?_, kb₁.fresh, hTe, Heap.get?_update_self _ hT₃ (Obj.isFreed_of_fields (Obj.data_mapFields rfl _)), Obj.data_mapFields rfl _, ?_⟩
      · rw [Heap.get?_update_other _ _ hTe]; exact he₃
      · simp [hsz]
      · first | (simp; done) | (rcases hpl with rfl | ⟨_, _, _, _, _, _, _, rfl⟩ <;> simp)
  · intro b o hb hnf
    obtain ⟨sl, hs⟩ := hs₁.2.2 b o hb
    exact ⟨sl, keep b _ (noRecord b o hb hnf) hs⟩
theorem fly_first {base : Heap} {env : Env} {outer : List Env} {L e d : Addr} {vs : Array Value} {Q : Unit → Shared → Prop}
    (hfr : A.frames = some (env :: outer)) (hl : s.heap.FunFrames base (env :: outer)) (hf : env.frame = some L)
    (he : s.heap.get? e = some (exD d vs)) (hkb : base.StaysIn s.heap) (hen : base.get? e = none) (h1 : vs[1]? = some .none)
    (h : ∀ h', FliesB base (env :: outer) e d h' → s.heap.UpToSlots h' → Q () { s with heap := h' }) : wpAny M A (leaving env (.ref e)) Q E s := by
  unfold leaving noteFrame
  simp only [hf]
  refine wpAny_bind (wpAny_bind (wpAny_field he rfl h1 ?_))
  rw [if_neg (by decide)]
  exact fly_entry hfr hl hf he hkb hen (Array.getElem?_eq_some_iff.mp h1).1 h
theorem fly_next {base : Heap} {env : Env} {outer : List Env} {L e d : Addr} {Q : Unit → Shared → Prop}
    (hfr : A.frames = some (env :: outer)) (hf : env.frame = some L) (hF : FliesB base (env :: outer) e d s.heap)
    (h : ∀ h', FliesB base (env :: outer) e d h' → s.heap.UpToSlots h' → Q () { s with heap := h' }) : wpAny M A (leaving env (.ref e)) Q E s := by
  obtain ⟨hkb, hen, hl, vs, T, oT, ts, he, h1, hnT, hTe, hT, hdT, h3⟩ := hF
  unfold leaving noteFrame
  simp only [hf]
  refine wpAny_bind (wpAny_bind (wpAny_field he rfl h1 ?_))
  rw [if_pos (show (Value.ref T != Value.none) = true from by simp)]
  refine wpAny_bind (wpAny_field hT hdT h3 ?_)
  rw [if_neg (show ¬ ((Value.none == rawInt L) = true) from by simp [rawInt])]
  refine wpAny_bind (wpAny_setField hT hdT (Array.getElem?_eq_some_iff.mp h3).1 ?_)
  have other : ∀ b, b ≠ T → (s.heap.update T (Obj.mapFields (·.setIfInBounds 3 Value.none))).get? b = s.heap.get? b := fun b hb => Heap.get?_update_other _ _ (Ne.symm hb)
  have noRecord : ∀ b o, s.heap.get? b = some o → (∀ vs, o.data ≠ .fields vs) → b ≠ T := fun b o hb hnf q => by
    rw [q, hT] at hb; injection hb with hb; subst hb; exact hnf ts hdT
  refine fly_entry hfr (hl.of_keeps fun b o hb hnf => ⟨o, (other b (noRecord b o hb hnf)).trans hb, rfl⟩) hf ((other e (Ne.symm hTe)).trans he)
    (fun b o hbo => (other b fun q => by rw [q, hnT] at hbo; cases hbo).trans (hkb b o hbo)) hen (Array.getElem?_eq_some_iff.mp h1).1
    fun h' x1 x2 => h h' x1 (fun b o hb hnf => x2 b o ((other b (noRecord b o hb hnf)).trans hb) hnf)
end

-- the part flyk
noncomputable def RaisedB (base : Heap) (l : List Env) (e d : Addr) (kept : List (Addr × Obj)) (h : Heap) : Prop :=
  ∃ B, base.StaysIn B ∧ (∀ q ∈ kept, B.get? q.1 = some q.2 ∧ base.get? q.1 = none) ∧ FliesB B l e d h
theorem FliesB.tail {B : Heap} {env : Env} {l : List Env} {e d : Addr} {h : Heap} (x : FliesB B (env :: l) e d h) : FliesB B l e d h := ⟨x.1, x.2.1, x.2.2.1.2.2, x.2.2.2⟩
section
variable {M : Model} {A : Around} {E : Value → Shared → Prop} {s' : Shared} {base g g₂ : Heap} {outer : List Env} {L a e d : Addr} {m : PySem.Str → Option Value} {name : PySem.Str} {scope : Scope} {cd : Value} {Q : Unit → Shared → Prop} {news kept : List (Addr × Obj)} {vs : Array Value}
theorem leave_raiseB (K : Below A base outer g) (F : Fr g L s'.heap m) (N : News g L s'.heap news) (he : (e, exD d vs) ∈ news) (h1 : vs[1]? = some .none) (hk : ∀ q ∈ kept, q ∈ news ∧ q.1 ≠ e)
    (hQ : ∀ h', RaisedB base outer e d kept h' → g.UpToSlots h' → Q () { s' with heap := h' }) (hsk : scope.kind = .function := by rfl) :
    wpAny M (A.deeper (envOf name scope L a cd)) (leaving (envOf name scope L a cd) (.ref e)) Q E s' := by
  have K' := K.push (name := name) (a := a) (cd := cd) F hsk
  have hin : ∀ env ∈ (envOf name scope L a cd :: outer), ∀ b, env.frame = some b → b ∈ e :: (envOf name scope L a cd :: outer).filterMap (·.frame) := fun env he b hb => .tail _ (List.mem_filterMap.mpr ⟨env, he, hb⟩)
  have hbe : base.get? e = none := fresh_of_stays K.stays (N _ he).2.2
  have st : base.StaysIn (hideAll s'.heap (e :: (envOf name scope L a cd :: outer).filterMap (·.frame))) := fun b o q => hideAll_get _ (K'.stays b o q) fun hm => by
    rcases List.mem_cons.mp hm with rfl | hm
    · rw [hbe] at q; cases q
    · rw [(K'.frames.mem hm).1] at q; cases q
  have hl : ∀ q ∈ kept, (hideAll s'.heap (e :: (envOf name scope L a cd :: outer).filterMap (·.frame))).get? q.1 = some q.2 ∧ base.get? q.1 = none := fun q hq => by
    obtain ⟨hq, hne⟩ := hk q hq
    refine ⟨hideAll_get _ (N q hq).1 fun hm => ?_, fresh_of_stays K.stays (N q hq).2.2⟩
    rcases List.mem_cons.mp hm with h | hm
    · exact hne h
    · obtain ⟨env, he, hf⟩ := List.mem_filterMap.mp hm
      rcases List.mem_cons.mp he with rfl | he
      · exact (N q hq).2.1 (Option.some.inj hf).symm
      · obtain ⟨o, ho, _⟩ := (K.frames.mem (List.mem_filterMap.mpr ⟨env, he, hf⟩)).2
        rw [(N q hq).2.2] at ho; cases ho
  exact fly_first K'.stack (funFrames_hide K'.frames hin) rfl (N _ he).1 (fun b o q => of_hideAll _ q) (hideAll_none _ (.head _)) h1 fun h' x1 x2 =>
    hQ h' ⟨_, st, hl, x1.tail⟩ ((Heap.UpToSlots.of_keeps F.keep).trans x2)
theorem leave_onB (K : Below A base outer g) (F : Fr g L g₂ m) (R : RaisedB base (envOf name scope L a cd :: outer) e d kept s'.heap) (hsm : g₂.UpToSlots s'.heap)
    (hQ : ∀ h', RaisedB base outer e d kept h' → g.UpToSlots h' → Q () { s' with heap := h' }) :
    wpAny M (A.deeper (envOf name scope L a cd)) (leaving (envOf name scope L a cd) (.ref e)) Q E s' := by
  obtain ⟨B, hB, hl, hfl⟩ := R
  exact fly_next (Around.frames_deeper K.stack) rfl hfl fun h' x1 x2 => hQ h' ⟨B, hB, hl, x1.tail⟩ ((Heap.UpToSlots.of_keeps F.keep).trans (hsm.trans x2))
end
/-- the dict of a BadText -/
noncomputable abbrev badD (P : Params) (why : PySem.Str) (row col : Int) (k1 k2 k3 t1 t2 t3 : Tok) : Obj :=
  dictOf [⟨PyData.keyHash P "why", .str "why" k1, .str why t1⟩, ⟨PyData.keyHash P "row", .str "row" k2, .int row t2⟩, ⟨PyData.keyHash P "column", .str "column" k3, .int col t3⟩] 3
/-- what a contract asks of E where a BadText may come out -/
noncomputable def BadE (P : Params) (base : Heap) (l : List Env) (h₀ : Heap) (L : Addr) (m : PySem.Str → Option Value) (why : PySem.Str) (row col : Int) (kept : List (Addr × Obj)) (E : Value → Shared → Prop) (s : Shared) : Prop :=
  ∀ e d k1 k2 k3 t1 t2 t3 h' tk g, RaisedB base l e d ((d, badD P why row col k1 k2 k3 t1 t2 t3) :: kept) h' → Fr h₀ L g m → g.UpToSlots h' → E (.ref e) { s with heap := h', toks := tk }
theorem BadE.deeper {P : Params} {M : Model} {A : Around} {base h₀ g : Heap} {outer : List Env} {L L' a : Addr} {m m' : PySem.Str → Option Value} {why : PySem.Str} {row col : Int} {kept : List (Addr × Obj)} {E : Value → Shared → Prop} {s s₁ : Shared} {name : PySem.Str} {scope : Scope} {cd : Value}
    (K : Below A base outer g) (FG : Fr h₀ L g m) (hs : ∀ h' tk, ({ s₁ with heap := h', toks := tk } : Shared) = { s with heap := h', toks := tk }) (b : BadE P base outer h₀ L m why row col kept E s) :
    BadE P base (envOf name scope L' a cd :: outer) g L' m' why row col kept (fun e s' => wpAny M (A.deeper (envOf name scope L' a cd)) (leaving (envOf name scope L' a cd) e) (fun _ s'' => E e s'') (fun e' s'' => E e' s'') s') s₁ := by
  intro e d k1 k2 k3 t1 t2 t3 h' tk g₂ R F sm
  refine leave_onB K F R sm fun h'' R' sm' => ?_
  have := b e d k1 k2 k3 t1 t2 t3 h'' tk g R' FG sm'
  rw [← hs] at this
  exact this
theorem BadE.of_state {P : Params} {base h₀ : Heap} {l : List Env} {L : Addr} {m m' : PySem.Str → Option Value} {why : PySem.Str} {row col : Int} {kept : List (Addr × Obj)} {E : Value → Shared → Prop} {s s₁ : Shared}
    (hs : ∀ h' tk, ({ s₁ with heap := h', toks := tk } : Shared) = { s with heap := h', toks := tk }) (b : BadE P base l h₀ L m why row col kept E s) : BadE P base l h₀ L m why row col kept E s₁ := by
  intro e d k1 k2 k3 t1 t2 t3 h' tk g R F sm
  rw [hs]
  exact b e d k1 k2 k3 t1 t2 t3 h' tk g R F sm
theorem throw_bad {P : Params} {M : Model} {A : Around} {base h₀ g : Heap} {outer : List Env} {L L' a x d t : Addr} {m m' : PySem.Str → Option Value} {why : PySem.Str} {row col : Int} {kept rest news : List (Addr × Obj)} {E : Value → Shared → Prop} {s s' : Shared} {name : PySem.Str} {scope : Scope} {cd : Value} {k1 k2 k3 t1 t2 t3 : Tok}
    (K : Below A base outer g) (F : Fr g L' s'.heap m') (N : News g L' s'.heap ((d, badD P why row col k1 k2 k3 t1 t2 t3) :: (x, exD d (excF t)) :: rest)) (FG : Fr h₀ L g m) (hin : ∀ q ∈ news, q ∈ rest) (hdx : d ≠ x) (hnx : ∀ q ∈ news, q.1 ≠ x) (hsub : ∀ q ∈ kept, q ∈ news)
    (hE : BadE P base outer h₀ L m why row col kept E s) (hs : ∀ h' tk, ({ s' with heap := h', toks := tk } : Shared) = { s with heap := h', toks := tk }) (hsk : scope.kind = .function) :
    wpAny M (A.deeper (envOf name scope L' a cd)) (leaving (envOf name scope L' a cd) (.ref x)) (fun _ s'' => E (.ref x) s'') (fun e' s'' => E e' s'') s' := by
  refine leave_raiseB (kept := (d, badD P why row col k1 k2 k3 t1 t2 t3) :: kept) K F N (.tail _ (.head _)) rfl (fun q hq => ?_) (fun h' R sm => ?_) hsk
  · rcases List.mem_cons.mp hq with rfl | hq
    · exact ⟨.head _, hdx⟩
    · exact ⟨.tail _ (.tail _ (hin q (hsub q hq))), hnx q (hsub q hq)⟩
  · have := hE x d k1 k2 k3 t1 t2 t3 h' s'.toks g R FG sm
    rw [← hs] at this
    exact this

-- the part here
/-- the two-sign words that the lexer asks for -/
inductive IsW : PySem.Str → List Nat → Prop
  | semi : IsW (PySem.Str.ofString ";;") [59, 59]
  | opn : IsW (PySem.Str.ofString "(;") [40, 59]
  | cls : IsW (PySem.Str.ofString ";)") [59, 41]
theorem IsW.eq {W : PySem.Str} {wl : List Nat} (h : IsW W wl) : W = tx wl := by cases h <;> decide +kernel
section
variable {w : World} {mean : ExcName → Option Value} {mg mb : PySem.Str → Option Value} {loose : List PySem.Str}
   {dp un : Nat} {gd : Option (List Code)} {cn : PySem.Str} {cs : Scope} {a : Addr} {ccd : Value} {cl : List (PySem.Str × Addr)} {outer : List Env} {A₀ : Around} {base h₀ : Heap} {L : Addr} {m : PySem.Str → Option Value} {news : List (Addr × Obj)} {s : Shared}
    {Q E : Value → Shared → Prop} {x d fl : Addr} {T : PySem.Str} {i row col : Int} {k1 t1 k2 t2 k3 t3 k4 t4 k5: Tok} {R : List Nat}

theorem here_c 
    (B : Below A₀ base outer h₀) (F : Fr h₀ L s.heap m) (X : (One.hd.heap_1_39 w.params).In h₀) (N : News h₀ L s.heap news) (TT : Top One.hd.view_1_40 loose mean mg mb h₀) (hk : cs.kind = .function)
    (hx : (x, instObj 210 d) ∈ news) (hd : (d, dictOf (lexD w.params T i row col fl k1 t1 k2 t2 k3 t3 k4 t4 k5) 5) ∈ news)
    (hA : At T i R) (hT : T.length ≤ 100000) (hr : dp + 4 < recursionLimit)
    (ret : ∀ h' tk t', Fr h₀ L h' m → News h₀ L h' news → Q (.str (tx (R.take 1)) t') { s with heap := h', toks := tk }) :
    wpAny (model prog0 w) (ktrTop dp un gd cn cs L a ccd cl outer) (call (.ref 136) [.ref x]) Q E s := by
  w_on
  refine wpAny_call ?_
  k_dflt ktr_enter
  k_steps
  rw [hA.here]
  exact ret _ _ _ (by k_asm) (by k_asm)

theorem starts_c {wl : List Nat} {W : PySem.Str} {tw : Tok}
    (B : Below A₀ base outer h₀) (F : Fr h₀ L s.heap m) (X : (One.hd.heap_1_39 w.params).In h₀) (N : News h₀ L s.heap news) (TT : Top One.hd.view_1_40 loose mean mg mb h₀) (hk : cs.kind = .function)
    (hx : (x, instObj 210 d) ∈ news) (hd : (d, dictOf (lexD w.params T i row col fl k1 t1 k2 t2 k3 t3 k4 t4 k5) 5) ∈ news)
    (hA : At T i R) (hT : T.length ≤ 100000) (hW : IsW W wl) (hl : wl.length = 2) (hr : dp + 4 < recursionLimit)
    (ret : ∀ h' tk, Fr h₀ L h' m → News h₀ L h' news → Q (.bool (decide (R.take 2 = wl))) { s with heap := h', toks := tk }) :
    wpAny (model prog0 w) (ktrTop dp un gd cn cs L a ccd cl outer) (call (.ref 143) [.ref x, .str W tw]) Q E s := by
  w_on
  have hWl : W.length = 2 := by rw [hW.eq, tx_len, hl]
  refine wpAny_call ?_
  k_dflt ktr_enter
  k_steps
  rw [hWl, show ((2 : Nat) : Int) = 2 from rfl, hA.two, hW.eq, tx_beq]
  exact ret _ _ (by k_asm) (by k_asm)
end
local macro_rules | `(tactic| walk_at "call ref") => do `(tactic| ($(← lnAt 136 ``here_c "BFXNTkxxaar_" "....."); (try dsimp only [List.take])))
local macro_rules | `(tactic| walk_at "call ref") => lnAt 143 ``starts_c "BFXNTkxxaacdr_" "...."

-- the part forr
/-! a loop over range(n), its ledger free to turn -/
inductive TurnEnd (h₀ : Heap) (L I : Addr) (oI : Obj) (J : (PySem.Str → Option Value) → List (Addr × Obj) → Prop) (s : Shared) (f : Flow) (s₂ : Shared) : Prop
  | mk (hf : f = .next) (h' : Heap) (tk' : Nat) (m' : PySem.Str → Option Value) (nx' : List (Addr × Obj)) (hs : s₂ = { s with heap := h', toks := tk' }) (F : Fr h₀ L h' m') (N : News h₀ L h' ((I, oI) :: nx')) (hne : ∀ p ∈ nx', p.1 ≠ I) (hJ : J m' nx') : TurnEnd h₀ L I oI J s f s₂
section
variable {prog : Program} {w : World} {A : Around} {E : Value → Shared → Prop} {s : Shared} {env : Env} {h₀ : Heap} {x : PySem.Str} {body : List Stmt} {Q : Flow → Shared → Prop}
theorem forRange {r : Addr} {t u v : Tok} {n : Nat} {m₀ : PySem.Str → Option Value} {news : List (Addr × Obj)} (J : Nat → (PySem.Str → Option Value) → List (Addr × Obj) → Prop)
    (hh : A.handled = none) (hr : IsRange s.heap r 0 (n : Int) 1 t u v) (hn : n ≤ 1000) (F : Fr h₀ env.locals s.heap m₀) (N : News h₀ env.locals s.heap news) (hj : J 0 m₀ news)
    (turn : ∀ i tt m₁ nx h tk I oI, i < n → J i m₁ nx → (∀ p ∈ nx, p.1 ≠ I) → Fr h₀ env.locals h (fun y => if y = x then some (.int (i : Int) tt) else m₁ y) → News h₀ env.locals h ((I, oI) :: nx) →
      wpAny (model prog w) A (execs body env) (TurnEnd h₀ env.locals I oI (J (i + 1)) s) E { s with heap := h, toks := tk })
    (done : ∀ m₁ nx h tk, J n m₁ nx → Fr h₀ env.locals h m₁ → News h₀ env.locals h nx → Q .next { s with heap := h, toks := tk }) :
    wpAny (model prog w) A (pyIter (.ref r)) (fun it s₂ => LoopAtV prog w A h₀ env x body Q E it s₂) E s := by
  have hsm : Builtin.Range.small 0 (n : Int) 1 = true := small_one (by decide) (by decide) (by omega) (by omega)
  have hsz : Builtin.Range.rangeSize 0 (n : Int) 1 = (n : Int) := by rw [rangeSize_one]; split <;> omega
  refine wpAny_pyIter_range hr hsm ?_
  have W : Walks prog w A s.heap.objs.size [s.heap.objs.size] [s.heap.objs.size] n (fun i v => i < n ∧ ∃ t, v = .int (0 + i * 1) t)
      (fun i h => IsRangeIter h s.heap.objs.size (0 + (i : Nat) * 1) ((n : Int) - (i : Nat)) 1) := (Walks.range hh _ 0 1 n).bound
  have up : ∀ b o o', s.heap.get? b = some o → (s.heap.push o').get? b = some o := fun b o o' e => Heap.get?_push_of_some _ e
  have hLn : env.locals ≠ s.heap.objs.size := Nat.ne_of_lt F.ns.lt
  refine ⟨s.heap.objs.size, _, _, n, _, _, m₀, news, J, rfl, W, by simpa using hLn, fun b hb => ?_, fun p hp hI => ?_, ?_, F.push _, fun p hp => ⟨up _ _ _ (N p hp).1, (N p hp).2⟩, hj, ?_, ?_⟩
  · rw [List.mem_singleton.mp hb]; exact next_is_new F
  · exact absurd (Heap.lt_size (N p hp).1) ((List.mem_singleton.mp hI) ▸ Nat.lt_irrefl _)
  · show IsRangeIter _ _ _ _ _
    rw [hsz]; simpa using Heap.get?_push_size _ rfl
  · rintro i v m₁ nx s₁ ow ⟨h, tk, rfl⟩ hi ⟨_, tt, rfl⟩ hJ hnw hfp hown hin hst F₁ N₁
    have hI₀ : h₀.get? s.heap.objs.size = none := next_is_new F
    obtain ⟨oI, hI, own1⟩ : ∃ oI, (s.heap.objs.size, oI) ∈ ow ∧ ∀ p ∈ ow, p = (s.heap.objs.size, oI) := by
      refine ⟨_, hin s.heap.objs.size (.head _) hI₀ _ hst, fun p hp => ?_⟩
      have e1 : p.1 = s.heap.objs.size := List.mem_singleton.mp (hfp p hp)
      have e2 := hown p hp
      rw [e1, hst] at e2
      exact Prod.ext e1 (Option.some.inj e2).symm
    have e0 : (0 : Int) + (i : Int) * 1 = (i : Int) := by omega
    rw [e0] at F₁
    have N₂ : News h₀ env.locals h ((s.heap.objs.size, oI) :: nx) := fun p hp => by
      rcases List.mem_cons.mp hp with rfl | hp
      · exact N₁ _ (List.mem_append_left _ hI)
      · exact N₁ p (List.mem_append_right _ hp)
    refine wpAny_mono (turn i tt m₁ nx h tk s.heap.objs.size oI hi hJ (fun p hp q => hnw p hp (List.mem_singleton.mpr q)) F₁ N₂) (fun f s₂ h₂ => ?_) fun _ _ e => e
    · obtain ⟨rfl, h', tk', m', nx', rfl, F', N', hne, hJ'⟩ := h₂
      refine LoopStepV.next ⟨rfl, h', tk', m', nx', rfl, F', fun p hp => ?_, fun p hp q => hne p hp (List.mem_singleton.mp q), hJ'⟩
      rcases List.mem_append.mp hp with hp | hp
      · rw [own1 p hp]; exact N' _ (.head _)
      · exact N' p (.tail _ hp)
  · intro h' tk m' nx F' N' _ hJ
    exact done m' nx h' tk hJ F' N'
end

-- the part step
theorem sg_nl : PySem.Str.ofString "\n" = tx [10] := by decide +kernel
theorem sg_cr : PySem.Str.ofString "\r" = tx [13] := by decide +kernel
theorem take1_eq {R : List Nat} {c : Nat} : (R.take 1 = [c]) ↔ R.head? = some c := by
  cases R with
  | nil => simp
  | cons a r => simp
section
variable {c : Nat} {R : List Nat}
theorem stp1 (h : (tx [c] == PySem.Str.ofString "\n") = true) : c = 10 ∨ (c = 13 ∧ R.head? ≠ some 10) := by
  rw [sg_nl, tx_beq, decide_eq_true_eq] at h
  left; simpa using h
theorem stp2 (h1 : (tx [c] == PySem.Str.ofString "\r") = true) (h2 : (tx (R.take 1) != PySem.Str.ofString "\n") = true) : c = 10 ∨ (c = 13 ∧ R.head? ≠ some 10) := by
  rw [sg_cr, tx_beq, decide_eq_true_eq] at h1
  rw [bne, sg_nl, tx_beq, Bool.not_eq_true', decide_eq_false_iff_not, take1_eq] at h2
  right; exact ⟨by simpa using h1, h2⟩
theorem stp3 (h0 : (tx [c] == PySem.Str.ofString "\n") = false) (h1 : (tx [c] == PySem.Str.ofString "\r") = false) : ¬ (c = 10 ∨ (c = 13 ∧ R.head? ≠ some 10)) := by
  rw [sg_nl, tx_beq, decide_eq_false_iff_not] at h0
  rw [sg_cr, tx_beq, decide_eq_false_iff_not] at h1
  rintro (q | ⟨q, _⟩)
  · exact h0 (by rw [q])
  · exact h1 (by rw [q])
theorem stp4 (h0 : (tx [c] == PySem.Str.ofString "\n") = false) (h2 : (tx (R.take 1) != PySem.Str.ofString "\n") = false) : ¬ (c = 10 ∨ (c = 13 ∧ R.head? ≠ some 10)) := by
  rw [sg_nl, tx_beq, decide_eq_false_iff_not] at h0
  rw [bne, sg_nl, tx_beq, Bool.not_eq_false', decide_eq_true_eq, take1_eq] at h2
  rintro (q | ⟨_, q⟩)
  · exact h0 (by rw [q])
  · exact q h2
end
/-- where the lexer stands behind the signs cs -/
noncomputable def adv : List Nat → List Nat → Int × Int → Int × Int
  | [], _, p => p
  | c :: cs, R, p => adv cs R (nextRow c (cs ++ R) p.1, nextCol c (cs ++ R) p.2)
theorem adv_nl {c : Nat} {cs R : List Nat} {r k : Int} {pe : Int × Int} (h : c = 10 ∨ (c = 13 ∧ (cs ++ R).head? ≠ some 10)) (hp : adv (c :: cs) R (r, k) = pe) : adv cs R (r + 1, 1) = pe := by
  rw [← hp]; simp only [adv, nextRow, nextCol, if_pos h]
theorem adv_no {c : Nat} {cs R : List Nat} {r k : Int} {pe : Int × Int} (h : ¬ (c = 10 ∨ (c = 13 ∧ (cs ++ R).head? ≠ some 10))) (hp : adv (c :: cs) R (r, k) = pe) : adv cs R (r, k + 1) = pe := by
  rw [← hp]; simp only [adv, nextRow, nextCol, if_neg h]
/-- a call of step, its arguments bound -/
structure StepB (P : Params) (s : Shared) (x : Addr) (vals : List Value) (n : Nat) (t₁ : Tok) : Prop where
  h : ∀ fd o, (One.hd.heap_1_39 P).lookup 158 = some o → o.data = .func fd → BindsTo s fd ⟨vals, []⟩ [("self", .ref x), ("many", .int n t₁)]
/-- what holds between the turns of step -/
inductive StepJ (P : Params) (T : PySem.Str) (x d fl : Addr) (k1 t1 k2 k3 k4 k5 : Tok) (news : List (Addr × Obj)) (m0 : PySem.Str → Option Value) (R : List Nat) (e : Int) (pe : Int × Int) (n : Nat) (i : Nat) (m₁ : PySem.Str → Option Value) (nx : List (Addr × Obj)) : Prop
  | mk (i' row' col' : Int) (cs' : List Nat) (t2' t3' t4' : Tok) (vt vs : Option Value) (hm : m₁ = fun y => if y = PySem.Str.ofString "sign" then vs else if y = PySem.Str.ofString "turn" then vt else m0 y)
      (hn : nx = (x, instObj 210 d) :: (d, dictOf (lexD P T i' row' col' fl k1 t1 k2 t2' k3 t3' k4 t4' k5) 5) :: news) (hA : At T i' (cs' ++ R)) (hl : cs'.length + i = n) (he : i' + (cs'.length : Int) = e) (hp : adv cs' R (row', col') = pe) :
      StepJ P T x d fl k1 t1 k2 k3 k4 k5 news m0 R e pe n i m₁ nx
section
variable {w : World} {mean : ExcName → Option Value} {mg mb : PySem.Str → Option Value} {loose : List PySem.Str}
   {dp un : Nat} {gd : Option (List Code)} {cn : PySem.Str} {cs : Scope} {a : Addr} {ccd : Value} {cl : List (PySem.Str × Addr)} {outer : List Env} {A₀ : Around} {base h₀ : Heap} {L : Addr} {m : PySem.Str → Option Value} {news : List (Addr × Obj)} {s : Shared}
    {Q E : Value → Shared → Prop} {x d fl : Addr} {T : PySem.Str} {i row col : Int} {k1 t1 k2 t2 k3 t3 k4 t4 k5: Tok} {R ds : List Nat} {c c2 : Nat}
theorem steps_w {n : Nat} {vals : List Value} {t₁ : Tok}
    (B : Below A₀ base outer h₀) (F : Fr h₀ L s.heap m) (X : (One.hd.heap_1_39 w.params).In h₀) (N : News h₀ L s.heap ((x, instObj 210 d) :: (d, dictOf (lexD w.params T i row col fl k1 t1 k2 t2 k3 t3 k4 t4 k5) 5) :: news)) (TT : Top One.hd.view_1_40 loose mean mg mb h₀) (hk : cs.kind = .function)
    (hxd : x ≠ d) (hnw : ∀ p ∈ news, p.1 ≠ d) (hr : dp + 6 < recursionLimit) (hu : un + 30 < cLine) (hT : T.length ≤ 100000) (hA : At T i (ds ++ R)) (hn : ds.length = n) (hn2 : n ≤ 2) (hb : StepB w.params s x vals n t₁)
    (ret : ∀ h' tk t2 t3 t4, Fr h₀ L h' m → News h₀ L h' ((x, instObj 210 d) :: (d, dictOf (lexD w.params T (i + (ds.length : Int)) (adv ds R (row, col)).1 (adv ds R (row, col)).2 fl k1 t1 k2 t2 k3 t3 k4 t4 k5) 5) :: news) → Q .none { s with heap := h', toks := tk }) :
    wpAny (model prog0 w) (ktrTop dp un gd cn cs L a ccd cl outer) (call (.ref 158) vals) Q E s := by
  w_on
  refine wpAny_call ?_
  k_dflt (refine' code_def ?k1 ?k2 ?k3 ?k4 ?k5 ?kA ?kF ?kK ?k6 ?k7 ?k8 ?k9 ?kB ?_ ?c2 ?c3 ?c4 ?c5; (case kA => exact rfl); (case kF => exact rfl); (case kK => assumption); (case k1 => k_asm); (case k2 => k_asm); (case k3 => k_asm); (case k4 => k_asm); (case k5 => k_asm); (case k6 => k_is); (case k7 => k_is); (case k8 => ktr_room); (case k9 => exact hb.h _ _ rfl rfl); (case c5 => decide); (case kB => exact locs rfl); (case c2 => exact rfl); (case c3 => exact rfl); (case c4 => exact rfl); k_whole; intro g' L' h' FG' F' N' B' X' T'; (try dsimp only))
  refine wpAny_execs_cons (forOver (h₀ := g') F' rfl rfl ?_ (fun _ => rfl) ?_)
  case refine_2 => passes_own
  repeat ((fail_if_success (with_reducible show wpAny _ _ (pyIter _) _ _ _)); walk1; (try dsimp only))
  rename Fr _ _ _ _ => F10
  rename News _ _ _ _ => N10
  rename IsRange _ _ _ _ _ _ _ _ => hrg
  obtain ⟨m0, hm0, F10⟩ : ∃ m0, m0 = _ ∧ Fr _ _ _ m0 := ⟨_, rfl, F10⟩
  refine forRange (n := n) (StepJ w.params T x d fl k1 t1 k2 k3 k4 k5 news m0 R (i + (ds.length : Int)) (adv ds R (row, col)) n) rfl hrg (by omega) F10 (by k_asm) ⟨_, _, _, ds, _, _, _, none, none, map2' (by rw [hm0]; rfl) (by rw [hm0]; rfl) (fun _ _ _ => rfl), rfl, hA, hn, rfl, rfl⟩ ?_ ?_
  · subst hm0
    rintro j tt m₁ nx h tk I oI hj ⟨i', row', col', cs', t2', t3', t4', vt, vs, rfl, rfl, hA', hl, he, hp⟩ hne F₁ N₁
    clear F10 N10
    cases cs' with
    | nil => rw [List.length_nil, Nat.zero_add] at hl; exact absurd hl (Nat.ne_of_lt hj)
    | cons c cs' =>
      rw [List.cons_append] at hA'
      have hA2 := hA'.next
      have n1 := hne _ (.head _)
      have n2 := hne _ (.tail _ (.head _))
      have hId := Ne.symm n2
      have hIx := Ne.symm n1
      have n3 : ∀ p ∈ news, p.1 ≠ I := fun p hp => hne p (.tail _ (.tail _ hp))
      rw [List.length_cons] at hl he
      dsimp only at F₁
      k_steps
      all_goals
        rename Fr _ _ _ _ => F2
        rename News _ _ _ _ => N2
      all_goals first
        | exact .mk rfl _ _ _ _ rfl F2 N2 (List.forall_mem_cons.mpr ⟨n1, List.forall_mem_cons.mpr ⟨n2, n3⟩⟩) ⟨_, _, _, cs', _, _, _, _, _, map2' rfl rfl (fun y e1 e2 => by simp only [if_neg e1, if_neg e2]), rfl, hA2, by omega, by omega, adv_nl (stp1 (by assumption)) hp⟩
        | exact .mk rfl _ _ _ _ rfl F2 N2 (List.forall_mem_cons.mpr ⟨n1, List.forall_mem_cons.mpr ⟨n2, n3⟩⟩) ⟨_, _, _, cs', _, _, _, _, _, map2' rfl rfl (fun y e1 e2 => by simp only [if_neg e1, if_neg e2]), rfl, hA2, by omega, by omega, adv_nl (stp2 (by assumption) (by assumption)) hp⟩
        | exact .mk rfl _ _ _ _ rfl F2 N2 (List.forall_mem_cons.mpr ⟨n1, List.forall_mem_cons.mpr ⟨n2, n3⟩⟩) ⟨_, _, _, cs', _, _, _, _, _, map2' rfl rfl (fun y e1 e2 => by simp only [if_neg e1, if_neg e2]), rfl, hA2, by omega, by omega, adv_no (stp3 (by assumption) (by assumption)) hp⟩
        | exact .mk rfl _ _ _ _ rfl F2 N2 (List.forall_mem_cons.mpr ⟨n1, List.forall_mem_cons.mpr ⟨n2, n3⟩⟩) ⟨_, _, _, cs', _, _, _, _, _, map2' rfl rfl (fun y e1 e2 => by simp only [if_neg e1, if_neg e2]), rfl, hA2, by omega, by omega, adv_no (stp4 (by assumption) (by assumption)) hp⟩
  · subst hm0
    rintro m₁ nx h tk ⟨i', row', col', cs', t2', t3', t4', vt, vs, rfl, rfl, hA', hl, he, hp⟩ F₁ N₁
    clear F10 N10
    cases cs' with
    | cons => rw [List.length_cons] at hl; omega
    | nil =>
      obtain rfl : i' = i + (ds.length : Int) := by rw [← he]; exact (Int.add_zero _).symm
      obtain rfl : row' = (adv ds R (row, col)).1 := congrArg Prod.fst hp
      obtain rfl : col' = (adv ds R (row, col)).2 := congrArg Prod.snd hp
      dsimp only
      k_steps
      exact ret _ _ _ _ _ (by k_asm) (by k_asm)
theorem stepB1 (X : (One.hd.heap_1_39 w.params).In s.heap) : ∃ t₁, StepB w.params s x [.ref x] 1 t₁ := by
  refine' ⟨_, ⟨fun fd o ho hf => ?_⟩⟩
  rotate_left
  cases ho
  cases hf
  exact binds_K X rfl (by k_is) rfl rfl rfl
theorem stepB2 {t₀ : Tok} (X : (One.hd.heap_1_39 w.params).In s.heap) : StepB w.params s x [.ref x, .int 2 t₀] 2 t₀ := by
  refine ⟨fun fd o ho hf => ?_⟩
  cases ho
  cases hf
  exact binds_K X rfl (by k_is) rfl rfl rfl
theorem step_c {nw : Obj → List (Addr × Obj)}
    (B : Below A₀ base outer h₀) (F : Fr h₀ L s.heap m) (X : (One.hd.heap_1_39 w.params).In h₀) (N : News h₀ L s.heap news) (TT : Top One.hd.view_1_40 loose mean mg mb h₀) (hk : cs.kind = .function)
    (hx : (x, instObj 210 d) ∈ news) (U : ∀ o', Upd d (dictOf (lexD w.params T i row col fl k1 t1 k2 t2 k3 t3 k4 t4 k5) 5) o' news (nw o'))
    (hA : At T i (c :: R)) (hT : T.length ≤ 100000) (hr : dp + 6 < recursionLimit) (hu : un + 30 < cLine)
    (ret : ∀ h' tk t2 t3 t4, At T (i + 1) R → Fr h₀ L h' m → News h₀ L h' (nw (dictOf (lexD w.params T (i+1) (nextRow c R row) (nextCol c R col) fl k1 t1 k2 t2 k3 t3 k4 t4 k5) 5)) → Q .none { s with heap := h', toks := tk }) :
    wpAny (model prog0 w) (ktrTop dp un gd cn cs L a ccd cl outer) (call (.ref 158) [.ref x]) Q E s := by
  have hxd := news_ne N hx (upd_mem (U default))
  obtain ⟨rest, N₁, hne, back⟩ := focus N hx U
  obtain ⟨_, hb⟩ := stepB1 (x := x) (X.keeps F.keep)
  exact steps_w (ds := [c]) B F X N₁ TT hk hxd hne hr hu hT hA rfl (Nat.le_of_ble_eq_true rfl) hb fun h' tk t2 t3 t4 F' N' => ret h' tk t2 t3 t4 hA.next F' (back _ _ N')
theorem step2_c {nw : Obj → List (Addr × Obj)} {t₀ : Tok}
    (B : Below A₀ base outer h₀) (F : Fr h₀ L s.heap m) (X : (One.hd.heap_1_39 w.params).In h₀) (N : News h₀ L s.heap news) (TT : Top One.hd.view_1_40 loose mean mg mb h₀) (hk : cs.kind = .function)
    (hx : (x, instObj 210 d) ∈ news) (U : ∀ o', Upd d (dictOf (lexD w.params T i row col fl k1 t1 k2 t2 k3 t3 k4 t4 k5) 5) o' news (nw o'))
    (hA : At T i (c :: c2 :: R)) (hT : T.length ≤ 100000) (q1 : c ≠ 10) (q2 : c ≠ 13) (q3 : c2 ≠ 10) (q4 : c2 ≠ 13) (hr : dp + 6 < recursionLimit) (hu : un + 30 < cLine)
    (ret : ∀ h' tk t2 t3 t4, At T (i + 1 + 1) R → Fr h₀ L h' m → News h₀ L h' (nw (dictOf (lexD w.params T (i+1+1) row (col+1+1) fl k1 t1 k2 t2 k3 t3 k4 t4 k5) 5)) → Q .none { s with heap := h', toks := tk }) :
    wpAny (model prog0 w) (ktrTop dp un gd cn cs L a ccd cl outer) (call (.ref 158) [.ref x, .int 2 t₀]) Q E s := by
  have hxd := news_ne N hx (upd_mem (U default))
  obtain ⟨rest, N₁, hne, back⟩ := focus N hx U
  have ea : adv [c, c2] R (row, col) = (row, col + 1 + 1) := adv_no (cs := []) (fun h => h.elim q3 fun h => q4 h.1) (adv_no (cs := [c2]) (fun h => h.elim q1 fun h => q2 h.1) rfl) |>.symm
  have ei : i + (([c, c2].length : Nat) : Int) = i + 1 + 1 := (Int.add_assoc i 1 1).symm
  refine steps_w (ds := [c, c2]) B F X N₁ TT hk hxd hne hr hu hT hA rfl (Nat.le_of_ble_eq_true rfl) (stepB2 (X.keeps F.keep)) fun h' tk t2 t3 t4 F' N' => ?_
  rw [ea, ei] at N'
  exact ret h' tk t2 t3 t4 hA.next.next F' (back _ _ N')
end
local macro_rules | `(tactic| walk_at "call ref") => lnAt 158 ``step2_c "BFXNTkxUaaddddrn_" "........"
local macro_rules | `(tactic| walk_at "call ref") => lnAt 158 ``step_c "BFXNTkxUaarn_" "........"

-- the part callbad
section
variable {w : World} {mean : ExcName → Option Value} {mg mb : PySem.Str → Option Value} {loose : List PySem.Str}
   {dp un : Nat} {gd : Option (List Code)} {cn : PySem.Str} {cs : Scope} {a : Addr} {ccd : Value} {cl : List (PySem.Str × Addr)} {outer : List Env} {A₀ : Around} {base h₀ : Heap} {L : Addr} {m : PySem.Str → Option Value} {news kept : List (Addr × Obj)} {s : Shared}
    {Q E : Value → Shared → Prop} {row col : Int} {t2 t3 tw : Tok} {why : PySem.Str}
theorem callbad_c
    (B : Below A₀ base outer h₀) (F : Fr h₀ L s.heap m) (X : (One.hd.heap_1_39 w.params).In h₀) (N : News h₀ L s.heap news) (TT : Top One.hd.view_1_40 loose mean mg mb h₀) (hk : cs.kind = .function)
    (hr : dp + 10 < recursionLimit) (hu : un + 80 < cLine)
    (ret : ∀ x d t h' tk k1 k2 k3 rest, Fr h₀ L h' m → News h₀ L h' ((d, badD w.params why row col k1 k2 k3 tw t2 t3) :: (x, exD d (excF t)) :: rest) → (∀ q ∈ news, q ∈ rest) → d ≠ x → (∀ q ∈ news, q.1 ≠ x) → Q (.ref x) { s with heap := h', toks := tk }) :
    wpAny (model prog0 w) (ktrTop dp un gd cn cs L a ccd cl outer) (call (.ref 51) [.str why tw, .int row t2, .int col t3]) Q E s := by
  refine wpAny_call (excK_make F X N (Nat.le_of_ble_eq_true rfl) fun x t h' l1 l2 F' N' => ?_)
  have hnx : ∀ p ∈ (t, tupO [.str why tw, .int row t2, .int col t3]) :: news, p.1 ≠ x := fun p hp => by
    rcases List.mem_cons.mp hp with rfl | hp
    · exact Nat.ne_of_lt l2
    · exact Nat.ne_of_lt (Nat.lt_trans (l1 p hp) l2)
  have hA : ∃ u, u ≤ un + 10 ∧ (ktrTop dp un gd cn cs L a ccd cl outer).under (Code.builtin "type.__call__" { pos := [Value.ref 51, Value.str why tw, Value.int row t2, Value.int col t3] }) = ktrTop (dp + 1) u gd cn cs L a ccd cl outer := by
    first
      | exact ⟨un, by omega, rfl⟩
      | exact ⟨un + 1, by omega, rfl⟩
      | exact ⟨un + 2, by omega, rfl⟩
      | exact ⟨un + 3, by omega, rfl⟩
      | exact ⟨un + 5, by omega, rfl⟩
      | exact ⟨un + 6, by omega, rfl⟩
      | exact ⟨un + 7, by omega, rfl⟩
      | exact ⟨un + 8, by omega, rfl⟩
  obtain ⟨u, hu', hA⟩ := hA
  rw [hA]
  refine binit_w (s := { s with heap := h' }) B F' X N' TT hk hnx (by omega) (by omega) fun h'' tk d t' k1 k2 k3 F'' N'' l3 l4 => ?_
  simp only [AllLt] at l3 l4
  refine ret x d t' h'' tk k1 k2 k3 ((t', tupO [.str why tw]) :: (t, tupO [.str why tw, .int row t2, .int col t3]) :: news) F'' (fun p hp => N'' p ?_) (fun q hq => .tail _ (.tail _ hq)) (Ne.symm (Nat.ne_of_lt l3.2.1)) (fun q hq => hnx q (.tail _ hq))
  rcases List.mem_cons.mp hp with rfl | hp
  · exact .head _
  rcases List.mem_cons.mp hp with rfl | hp
  · exact .tail _ (.tail _ (.head _))
  rcases List.mem_cons.mp hp with rfl | hp
  · exact .tail _ (.head _)
  · exact .tail _ (.tail _ (.tail _ hp))
end
local macro_rules | `(tactic| walk_at "exec Raise some none") => ln ``raise_bad "k_"
local macro_rules | `(tactic| walk_at "call ref") => lnAt 51 ``callbad_c "BFXNTkrn_" "..............!"

-- the part nfor
section
variable {M : Model} {A : Around} {s : Shared}
theorem codeN_loop' {c : Code} {R : Result → Shared → Prop} (hf : fineC c = true) (hq : c.quiet = true) (I : Nat → Shared → Prop)
    (turn : ∀ n s, I n s → wpN M (A.under c) (M.den c)
      (fun fin s' => match fin with | .done f => R (.ok f) s' | .again c' => (c' = c ∧ ∃ m, m < n ∧ I m s') ∨ (c'.quiet = true ∧ codeN M A c' R s')) (fun e s' => R (.error e) s') s)
    (n : Nat) (h : I n s) : codeN M A c R s := by
  induction n using Nat.strongRecOn generalizing s with
  | ind n ih =>
    refine codeN_tree hf (wpN_mono (turn n s h) (fun fin s' hf => ?_) fun _ _ h' => h')
    cases fin with
    | done f => exact hf
    | again c' =>
      rcases hf with ⟨rfl, m, hm, hI⟩ | hf
      · exact ⟨hq, ih m hm hI⟩
      · exact hf
end
section
variable {prog : Program} {w : World} {A : Around} {E : Value → Shared → Prop} {s : Shared} {env : Env} {h₀ : Heap}
theorem N_forLoop {R : Result → Shared → Prop} {target : PySem.Expr} {it : Value} {body : List Stmt} (I : Nat → Shared → Prop)
    (turn : ∀ n s, I n s → wpAny (model prog w) A (pyNext it) (fun r s₁ => match r with
      | none => R (.ok .next) s₁
      | some v => wpAny (model prog w) A (assign target env v) (fun _ s₂ => wpN (model prog w) A (execs body env) (fun f s₃ => match f with
          | .next | .cont => ∃ m, m < n ∧ I m s₃
          | .brk => R (.ok .next) s₃
          | .ret v => R (.ok (.ret v)) s₃) (notedBy (model prog w) A env fun e s' => R (.error e) s') s₂) (notedBy (model prog w) A env fun e s' => R (.error e) s') s₁) (notedBy (model prog w) A env fun e s' => R (.error e) s') s)
    (n : Nat) (h : I n s) (ht : ∀ v, letOwnedTupleGo target it v = pure () := by intro _; rfl) : codeN (model prog w) A (.forLoop target it body [] env) R s := by
  refine codeN_loop' rfl rfl I (fun n s hI => ?_) n h
  show wpN _ _ ((forTurn target it body [] env).onRaise (fun x => do noteFrame x env; theTreesLotGoes x)) _ _ s
  have noted : ∀ {t : Sem PySem.Fin} {Q : PySem.Fin → Shared → Prop} {E' : Value → Shared → Prop}, wpN (model prog w) A t Q (notedBy (model prog w) A env E') s → wpN (model prog w) A (t.onRaise (fun x => do noteFrame x env; theTreesLotGoes x)) Q E' s := fun ht =>
    wpN_onRaise (wpN_mono ht (fun _ _ q => q) fun _ _ hx => wpN_any (wpAny_bind (wpAny_mono hx (fun _ _ e => wpAny_theTreesLotGoes e) fun _ _ e => e)))
  refine noted ?_
  simp only [forTurn]
  refine wpN_bindA (wpAny_standAt (wpN_bindA (wpAny_onRaise (wpAny_mono (turn n s hI) (fun r s₁ h₁ => ?_) fun _ _ h' => wpAny_standAt h'))))
  cases r with
  | none => exact wpN_pure (.inr ⟨rfl, codeN_any (codeAny_block (wpAny_execs_nil h₁))⟩)
  | some v =>
    refine wpN_bindA (wpAny_of_eq (ht v) ?_)
    refine wpN_bindA (wpAny_mono h₁ (fun _ s₂ h₂ => wpN_bind (wpN_mono h₂ (fun f s₃ h₃ => ?_) fun _ _ h' => h')) fun _ _ h' => h')
    cases f with
    | next => exact wpN_pure (.inl ⟨rfl, h₃⟩)
    | cont => exact wpN_pure (.inl ⟨rfl, h₃⟩)
    | brk => exact wpN_pure h₃
    | ret v => exact wpN_pure h₃
theorem N_For {target iter : PySem.Expr} {body : List Stmt} {pos : Pos} {Q : Flow → Shared → Prop}
    (h : wpAny (model prog w) A (eval iter env) (fun x s₁ => wpAny (model prog w) A (pyIter x) (fun it s₂ =>
      codeN (model prog w) A (.forLoop target it body [] env) (fun r s' => match r with | .ok f => Q f s' | .error e => cameBackBy (model prog w) A env E e s') s₂) E s₁) E s)
    (hs : ∀ x, foldedSetIterable iter env x = pure x := by intro _; rfl) :
    wpN (model prog w) A (exec (.For target iter body [] pos) env) Q E s := by
  rw [arm_exec_For]
  exact wpN_bindA (wpAny_standAt (wpN_bindA (wpAny_mono h (fun x s₁ h₁ => wpN_bindA (wpAny_of_eq (hs x) (wpN_bindA (wpAny_standAt (wpN_bindA (wpAny_holding
    (wpAny_mono h₁ (fun it s₂ h₂ => N_runOwn h₂) fun _ _ h' => h'))))))) fun _ _ h' => h')))
/-- a loop over the one sign of a text -/
theorem N_ForOne {x : PySem.Str} {px pos : Pos} {iter : PySem.Expr} {body : List Stmt} {Q : Flow → Shared → Prop} {m : PySem.Str → Option Value} {news : List (Addr × Obj)} {c : Nat} {t₀ : Tok}
    (P : (PySem.Str → Option Value) → Prop) (nx : List (Addr × Obj)) (hh : A.handled = none) (hx : env.kindOf x = some .local) (hp : (env.scope.kind == .class || (env.scope.kind == .module && env.locals != env.globals)) = false)
    (F : Fr h₀ env.locals s.heap m) (N : News h₀ env.locals s.heap news)
    (hit : wpAny (model prog w) A (eval iter env) (fun v s₁ => v = .str (tx [c]) t₀ ∧ s₁ = s) E s)
    (turn : ∀ t h tk own, (∀ p ∈ own, ∀ q ∈ news, p.1 ≠ q.1) → Fr h₀ env.locals h (fun y => if y = x then some (.str (tx [c]) t) else m y) → News h₀ env.locals h (news ++ own) →
      wpN (model prog w) A (execs body env) (fun f s₃ => f = .next ∧ ∃ h' tk' m', s₃ = { s with heap := h', toks := tk' } ∧ Fr h₀ env.locals h' m' ∧ News h₀ env.locals h' (nx ++ own) ∧ P m') E { s with heap := h, toks := tk })
    (hnx : ∀ p ∈ nx, ∃ q ∈ news, p.1 = q.1) (done : ∀ m' h'' tk'', P m' → Fr h₀ env.locals h'' m' → News h₀ env.locals h'' nx → Q .next { s with heap := h'', toks := tk'' })
    (hE : PassesOwn (model prog w) A env E)
    (hs : ∀ x, foldedSetIterable iter env x = pure x := by intro _; rfl) :
    wpN (model prog w) A (exec (.For (.Name x px) iter body [] pos) env) Q E s := by
  refine N_For (wpAny_mono hit (fun v s₁ hv => ?_) fun _ _ e => e) hs
  obtain ⟨rfl, rfl⟩ := hv
  refine PySem.wpAny_pyIter_str fun o St hW hst => ?_
  have W := hW A hh
  have hI : h₀.get? s₁.heap.objs.size = none := Fr.fresh F
  have hLI : env.locals ≠ s₁.heap.objs.size := Nat.ne_of_lt F.ns.lt
  have nI : ∀ p ∈ news, p.1 ≠ s₁.heap.objs.size := fun p hp => Nat.ne_of_lt (Heap.lt_size (N p hp).1)
  have F0 := F.push o
  have N0 : News h₀ env.locals (s₁.heap.push o) news := fun p hp => ⟨Heap.get?_push_of_some _ (N p hp).1, (N p hp).2⟩
  refine N_forLoop (fun k s' => (k = 2 ∧ s' = { s₁ with heap := s₁.heap.push o }) ∨ (k = 1 ∧ ∃ h' tk' m', s' = { s₁ with heap := h', toks := tk' } ∧ St 1 h' ∧ Fr h₀ env.locals h' m' ∧ News h₀ env.locals h' nx ∧ P m')) ?_ 2 (.inl ⟨rfl, rfl⟩)
  rintro k s' (⟨rfl, rfl⟩ | ⟨rfl, h', tk', m', rfl, hst', F', N', hP⟩)
  · refine W.item 0 _ _ _ (by simp [tx]) hst fun v h₁ tk₁ hP hst₁ hk₁ => ?_
    obtain ⟨n, u, hn, rfl⟩ := hP
    obtain rfl : c = n := by simpa [tx] using hn
    have hw : ∀ b o', b ≠ s₁.heap.objs.size → (s₁.heap.push o).get? b = some o' → h₁.get? b = some o' := fun b o' hb => hk₁ b o' (by simpa using hb)
    have F₁ : Fr h₀ env.locals h₁ m := ⟨F0.ns.at' fun o' e => hw _ o' hLI e, fun b o' e => hw b o' (fun q => by rw [q, hI] at e; cases e) (F0.keep b o' e), F0.above⟩
    have N₁ : News h₀ env.locals h₁ news := fun p hp => ⟨hw _ _ (nI p hp) (N0 p hp).1, (N0 p hp).2⟩
    refine wpAny_assign_Name (wpAny_storeName_local hx F₁.ns (fun h₂ hn₂ hs₂ => ?_) hp)
    have F₂ := F₁.set hn₂ hs₂
    have N₂ := N₁.set hs₂
    have hst₂ : St 1 h₂ := W.frame _ _ _ hst₁ fun b hb o' e => (hs₂.2 b fun q => hLI (by rw [← q]; simpa using hb)).trans e
    obtain ⟨own, hown, hN, hin⟩ : ∃ own : List (Addr × Obj), (∀ p ∈ own, p.1 = s₁.heap.objs.size) ∧ News h₀ env.locals h₂ own ∧ ∀ o', h₂.get? s₁.heap.objs.size = some o' → (s₁.heap.objs.size, o') ∈ own := by
      cases e : h₂.get? s₁.heap.objs.size with
      | none =>
        refine ⟨[], ?_, News.nil, ?_⟩
        · intro _ hp; cases hp
        · intro _ q; cases q
      | some o' =>
        refine ⟨[(_, o')], fun p hp => by rw [List.mem_singleton.mp hp], fun p hp => ?_, fun o'' q => by cases q; exact .head _⟩
        rw [List.mem_singleton.mp hp]
        exact ⟨e, Ne.symm hLI, hI⟩
    have N₃ : News h₀ env.locals h₂ (news ++ own) := fun p hp => (List.mem_append.mp hp).elim (N₂ p) (hN p)
    have T := turn u h₂ (tk₁ + 1) own (fun p hp q hq => by rw [hown p hp]; exact Ne.symm (nI q hq)) F₂ N₃
    refine wpN_mono T (fun f s₃ h₃ => ?_) (fun e s' he => hE e s' he)
    obtain ⟨rfl, h', tk', m', rfl, F', N', hP⟩ := h₃
    refine ⟨1, by decide, .inr ⟨rfl, h', tk', m', rfl, ?_, F', fun p hp => N' p (List.mem_append_left _ hp), hP⟩⟩
    refine W.frame _ _ _ hst₂ fun b hb o' e => ?_
    obtain rfl : b = s₁.heap.objs.size := by simpa using hb
    exact (N' _ (List.mem_append_right _ (hin o' e))).1
  · refine W.done _ _ _ (show St (tx [c]).cps.size h' by simpa [tx] using hst') fun h₁ tk₁ hk₁ => ?_
    have hw : ∀ b o', b ≠ s₁.heap.objs.size → h'.get? b = some o' → h₁.get? b = some o' := fun b o' hb => hk₁ b o' (by simpa using hb)
    refine done _ _ _ hP ⟨F'.ns.at' fun o' e => hw _ o' hLI e, fun b o' e => hw b o' (fun q => by rw [q, hI] at e; cases e) (F'.keep b o' e), F'.above⟩ fun p hp => ⟨hw _ _ (fun q => ?_) (N' p hp).1, (N' p hp).2⟩
    obtain ⟨q', hq', e⟩ := hnx p hp
    exact nI q' hq' (e ▸ q)
end

-- the part nwhile
section
variable {prog : Program} {w : World} {A : Around} {E : Value → Shared → Prop} {Q : Flow → Shared → Prop} {s : Shared} {env : Env} {h₀ : Heap} {L : Addr}
theorem N_While2 {test : PySem.Expr} {body : List Stmt} {pos : Pos} {m : PySem.Str → Option Value} {news : List (Addr × Obj)} (J : Nat → (PySem.Str → Option Value) → List (Addr × Obj) → Prop) {n₀ : Nat}
    (F : Fr h₀ L s.heap m) (N : News h₀ L s.heap news) (hJ : J n₀ m news)
    (turn : ∀ n m₁ news₁ h₁ tk₁, Fr h₀ L h₁ m₁ → News h₀ L h₁ news₁ → J n m₁ news₁ →
      wpAny (model prog w) A (isTrue test env (eval test env)) (fun b s₂ =>
        if b = true then wpN (model prog w) A (execs body env) (WhileStep2 h₀ L s J Q n) E s₂ else Q .next s₂) E { s with heap := h₁, toks := tk₁ })
    (hE : PassesOwn (model prog w) A env E) :
    wpN (model prog w) A (exec (.While test body [] pos) env) Q E s := by
  rw [arm_exec_While]
  refine wpN_bindA (wpAny_standAt (N_runOwn (N_while (fun n s' => ∃ h₁ tk₁ m₁ news₁, s' = { s with heap := h₁, toks := tk₁ } ∧ Fr h₀ L h₁ m₁ ∧ News h₀ L h₁ news₁ ∧ J n m₁ news₁) ?_ n₀ ⟨s.heap, s.toks, m, news, rfl, F, N, hJ⟩)))
  rintro n s' ⟨h₁, tk₁, m₁, news₁, rfl, F₁, N₁, J₁⟩
  refine wpAny_mono (turn n m₁ news₁ h₁ tk₁ F₁ N₁ J₁) (fun b s₂ h₂ => ?_) hE
  cases b with
  | false => simpa using h₂
  | true =>
    simp only [if_true] at h₂ ⊢
    refine wpN_mono h₂ (fun f s₃ h₃ => ?_) hE
    cases f with
    | next =>
      obtain ⟨h', tk, m₂, news₂, n', rfl, F₂, N₂, hn, J₂⟩ := h₃
      exact ⟨n', hn, h', tk, m₂, news₂, rfl, F₂, N₂, J₂⟩
    | cont =>
      obtain ⟨h', tk, m₂, news₂, n', rfl, F₂, N₂, hn, J₂⟩ := h₃
      exact ⟨n', hn, h', tk, m₂, news₂, rfl, F₂, N₂, J₂⟩
    | brk => exact h₃
    | ret v => exact h₃
end
section
variable {prog : Program} {w : World} {A : Around} {E : Value → Shared → Prop} {Q : Flow → Shared → Prop} {s : Shared} {env : Env} {h₀ : Heap} {L : Addr}
/-- the same, a turn's end kept closed (small proofs) -/
theorem N_While3 {test : PySem.Expr} {body : List Stmt} {pos : Pos} {m : PySem.Str → Option Value} {news : List (Addr × Obj)} (J : Nat → (PySem.Str → Option Value) → List (Addr × Obj) → Prop) {n₀ : Nat}
    (F : Fr h₀ L s.heap m) (N : News h₀ L s.heap news) (hJ : J n₀ m news)
    (turn : ∀ (P : Flow → Shared → Prop) n, (∀ h' tk m₂ news₂ n', Fr h₀ L h' m₂ → News h₀ L h' news₂ → n' < n → J n' m₂ news₂ → P .next { s with heap := h', toks := tk }) → ∀ m₁ news₁ h₁ tk₁, Fr h₀ L h₁ m₁ → News h₀ L h₁ news₁ → J n m₁ news₁ →
      wpAny (model prog w) A (isTrue test env (eval test env)) (fun b s₂ =>
        if b = true then wpN (model prog w) A (execs body env) P E s₂ else Q .next s₂) E { s with heap := h₁, toks := tk₁ })
    (hE : PassesOwn (model prog w) A env E) :
    wpN (model prog w) A (exec (.While test body [] pos) env) Q E s :=
  N_While2 J F N hJ (fun n m₁ news₁ h₁ tk₁ F₁ N₁ J₁ => turn (WhileStep2 h₀ L s J Q n) n (fun h' tk m₂ news₂ n' a b c d => ⟨h', tk, m₂, news₂, n', rfl, a, b, c, d⟩) m₁ news₁ h₁ tk₁ F₁ N₁ J₁) hE
theorem A_While3 {test : PySem.Expr} {body : List Stmt} {pos : Pos} {m : PySem.Str → Option Value} {news : List (Addr × Obj)} (J : Nat → (PySem.Str → Option Value) → List (Addr × Obj) → Prop) {n₀ : Nat}
    (F : Fr h₀ L s.heap m) (N : News h₀ L s.heap news) (hJ : J n₀ m news)
    (turn : ∀ (P : Flow → Shared → Prop) n, (∀ h' tk m₂ news₂ n', Fr h₀ L h' m₂ → News h₀ L h' news₂ → n' < n → J n' m₂ news₂ → P .next { s with heap := h', toks := tk }) → ∀ m₁ news₁ h₁ tk₁, Fr h₀ L h₁ m₁ → News h₀ L h₁ news₁ → J n m₁ news₁ →
      wpAny (model prog w) A (isTrue test env (eval test env)) (fun b s₂ =>
        if b = true then wpAny (model prog w) A (execs body env) P E s₂ else Q .next s₂) E { s with heap := h₁, toks := tk₁ })
    (hE : PassesOwn (model prog w) A env E := by passes_own) :
    wpAny (model prog w) A (exec (.While test body [] pos) env) Q E s :=
  While_inv2 J F N hJ (fun n m₁ news₁ h₁ tk₁ F₁ N₁ J₁ => turn (WhileStep2 h₀ L s J Q n) n (fun h' tk m₂ news₂ n' a b c d => ⟨h', tk, m₂, news₂, n', rfl, a, b, c, d⟩) m₁ news₁ h₁ tk₁ F₁ N₁ J₁) hE
/-- the same, what holds at the loop's end told once -/
theorem N_While4 {test : PySem.Expr} {body : List Stmt} {pos : Pos} {m : PySem.Str → Option Value} {news : List (Addr × Obj)} (J : Nat → (PySem.Str → Option Value) → List (Addr × Obj) → Prop) (JX : (PySem.Str → Option Value) → List (Addr × Obj) → Prop) {n₀ : Nat}
    (F : Fr h₀ L s.heap m) (N : News h₀ L s.heap news) (hJ : J n₀ m news)
    (turn : ∀ (P : Flow → Shared → Prop) (X : Shared → Prop) n, (∀ h' tk m₂ news₂ n', Fr h₀ L h' m₂ → News h₀ L h' news₂ → n' < n → J n' m₂ news₂ → P .next { s with heap := h', toks := tk }) → (∀ h' tk m₂ news₂, Fr h₀ L h' m₂ → News h₀ L h' news₂ → JX m₂ news₂ → X { s with heap := h', toks := tk }) →
      ∀ m₁ news₁ h₁ tk₁, Fr h₀ L h₁ m₁ → News h₀ L h₁ news₁ → J n m₁ news₁ →
      wpAny (model prog w) A (isTrue test env (eval test env)) (fun b s₂ => if b = true then wpN (model prog w) A (execs body env) P E s₂ else X s₂) E { s with heap := h₁, toks := tk₁ })
    (done : ∀ h' tk m₂ news₂, Fr h₀ L h' m₂ → News h₀ L h' news₂ → JX m₂ news₂ → Q .next { s with heap := h', toks := tk })
    (hE : PassesOwn (model prog w) A env E) :
    wpN (model prog w) A (exec (.While test body [] pos) env) Q E s :=
  N_While3 J F N hJ (fun P n next => turn P (Q .next) n next done) hE
theorem A_While4 {test : PySem.Expr} {body : List Stmt} {pos : Pos} {m : PySem.Str → Option Value} {news : List (Addr × Obj)} (J : Nat → (PySem.Str → Option Value) → List (Addr × Obj) → Prop) (JX : (PySem.Str → Option Value) → List (Addr × Obj) → Prop) {n₀ : Nat}
    (F : Fr h₀ L s.heap m) (N : News h₀ L s.heap news) (hJ : J n₀ m news)
    (turn : ∀ (P : Flow → Shared → Prop) (X : Shared → Prop) n, (∀ h' tk m₂ news₂ n', Fr h₀ L h' m₂ → News h₀ L h' news₂ → n' < n → J n' m₂ news₂ → P .next { s with heap := h', toks := tk }) → (∀ h' tk m₂ news₂, Fr h₀ L h' m₂ → News h₀ L h' news₂ → JX m₂ news₂ → X { s with heap := h', toks := tk }) →
      ∀ m₁ news₁ h₁ tk₁, Fr h₀ L h₁ m₁ → News h₀ L h₁ news₁ → J n m₁ news₁ →
      wpAny (model prog w) A (isTrue test env (eval test env)) (fun b s₂ => if b = true then wpAny (model prog w) A (execs body env) P E s₂ else X s₂) E { s with heap := h₁, toks := tk₁ })
    (done : ∀ h' tk m₂ news₂, Fr h₀ L h' m₂ → News h₀ L h' news₂ → JX m₂ news₂ → Q .next { s with heap := h', toks := tk })
    (hE : PassesOwn (model prog w) A env E) :
    wpAny (model prog w) A (exec (.While test body [] pos) env) Q E s :=
  A_While3 J F N hJ (fun P n next => turn P (Q .next) n next done) hE
end

-- the part ncall
section
variable {prog : Program} {w : World} {A : Around} {E : Value → Shared → Prop} {s : Shared} {R : Result → Shared → Prop}
theorem codeN_func {body : List Stmt} {env : Env}
    (h : wpN (model prog w) (A.deeper env) (execs body env) (fun f s' => R (.ok (.ret (match f with | .ret v => v | _ => .none))) s')
      (fun e s' => wpAny (model prog w) (A.deeper env) (leaving env e) (fun _ s'' => R (.error e) s'') (fun e' s'' => R (.error e') s'') s') s) :
    codeN (model prog w) A (.func body env) R s := by
  refine codeN_tree rfl ?_
  show wpN _ (A.deeper env) (do point; match ← (execs body env).onRaise (leaving env) with | .ret v => ret v | _ => ret .none) _ _ s
  refine wpN_bindA (wpAny_point (wpN_bind (wpN_onRaise (wpN_mono h (fun f s' h' => ?_) fun _ _ h' => wpN_any h'))))
  cases f <;> exact wpN_pure h'
theorem codeN_call_function {a : Addr} {args : Args} {o : Obj} {fd : FuncData} {body : List Stmt} (hroom : A.depth < recursionLimit)
    (ho : s.heap.get? a = some o)
    (hd' : o.data = .func fd) (hco : fd.scope.isCoroutine = false) (hgen : fd.scope.isGenerator = false) (hbody : fd.body = .stmts body) (hcd : s.heap.CodeRec fd.code fd.qualname)
    (h : wpAny (model prog w) A.in1 (bindArgs fd args) (fun binds s₁ =>
      wpAny (model prog w) A.in1 (newFunctionEnv fd.scope fd.globals fd.closure binds (fd.qualname ++ ".<locals>.") (some a) fd.code none fd.builtins)
        (fun env s₂ => s₂.heap.NoLimit ∧ codeN (model prog w) A (.func body env) R s₂) (fun e s' => R (.error e) s') s₁) (fun e s' => R (.error e) s') s) :
    codeN (model prog w) A (.call (.ref a) args) R s := by
  refine codeN_tree rfl ?_
  show wpN _ A.in1 (callAny (.ref a) args) _ _ s
  simp only [callAny]
  refine wpN_bindA (wpAny_load ho ?_)
  obtain ⟨c, oc, vs, tq, hc, hoc, hdc, hq⟩ := hcd
  simp only [hd', callFunction, hco, hgen, hbody, hc]
  rw [hc] at h
  refine wpN_bindA (m := field (.ref c) 1) (wpAny_field hoc hdc hq ?_)
  refine wpN_bindA (wpAny_pure ?_)
  exact wpN_bindA (wpAny_mono h (fun binds s₁ h₁ => wpN_bindA (wpAny_mono h₁ (fun env s₂ h₂ => wpN_bindA (wpAny_enterFrame h₂.1 hroom
    (wpN_pure (And.intro rfl h₂.2)))) fun _ _ h' => h')) fun _ _ h' => h')
end
section
variable {prog : Program} {w : World} {A A₀ : Around} {s : Shared} {K : Frag} {L : Addr} {h₀ base : Heap} {m mg mb : PySem.Str → Option Value} {news : List (Addr × Obj)} {p : Program} {loose : List PySem.Str} {mean : ExcName → Option Value}
theorem code_defN {env : Env} {outer : List Env} {R : Result → Shared → Prop} {name qual : PySem.Str} {params : Arguments} {body : List Stmt} {scope : Scope} {dV kV doc pm cdv ct oc : Value} {an od : Option Addr} {osl : Array (Option Value)} {f : Addr} {args : Args} {binds : List (PySem.Str × Value)}
    (B : Below A₀ base outer h₀) (F : Fr h₀ L s.heap m) (X₀ : K.In h₀) (N : News h₀ L s.heap news) (T : Top p loose mean mg mb h₀) (hA : A.frames = some (env :: outer)) (hf : env.frame = some L) (hke : env.scope.kind = .function)
    (ho : K.lookup f = some ⟨oc, od, .func (fnOf name qual params body scope dV kV doc pm an cdv ct), osl⟩) (hcd : codeIn K cdv qual = true) (hroom : A.depth < recursionLimit)
    (hbind : BindsTo s (fnOf name qual params body scope dV kV doc pm an cdv ct) args binds) (hloc : ∀ y ∈ binds, scope.names.lookup y.1 = some .local)
    (h : ∀ g L' h₁, Fr h₀ L g m → Fr g L' h₁ (fun y => binds.reverse.lookup y) → News g L' h₁ news → Below A base (env :: outer) g → K.In g → Top p loose mean mg mb g →
      wpN (model prog w) (A.deeper (envOf qual scope L' f cdv)) (execs body (envOf qual scope L' f cdv))
        (fun fl s' => LeaveK h₀ L m g R (match fl with | .ret v => v | _ => .none) s')
        (fun e s' => wpAny (model prog w) (A.deeper (envOf qual scope L' f cdv)) (leaving (envOf qual scope L' f cdv) e) (fun _ s'' => R (.error e) s'') (fun e' s'' => R (.error e') s'') s')
        { s with heap := h₁, toks := s.toks + binds.length })
    (hco : scope.isCoroutine = false) (hgen : scope.isGenerator = false) (hk : scope.kind = .function)
    (hcell : ∀ x ∈ scope.names, x.2 ≠ .cell) : codeN (model prog w) A (.call (.ref f) args) R s := by
  have X : K.In s.heap := X₀.keeps F.keep
  have hlim : h₀.NoLimit := T.nolimit
  obtain ⟨FG, BG, st, lv⟩ := groundX (R := R) B F N hA hf hke
  refine codeN_call_function hroom (X _ _ ho) rfl hco hgen rfl (codeRec_of X hcd) (hbind _ _ _ _ ?_)
  refine wpAny_newFunctionEnv hcell hloc (fun h₁ hns₁ hsb₁ => ?_) hk
  have hk₁ : ∀ b o, s.heap.get? b = some o → h₁.get? b = some o := fun b o e => hsb₁.extBut b o (Nat.ne_of_lt (Heap.lt_size e)) (Heap.get?_push_of_some _ e)
  refine ⟨(hlim.keeps F.keep).fresh _ hsb₁, codeN_func ?_⟩
  exact wpN_mono (h _ s.heap.objs.size h₁ FG ⟨hns₁, fun b o e => hk₁ b o (of_hideAll _ e), Nat.le_of_eq (hideAll_size _ _)⟩
    (fun p hp => ⟨hk₁ _ _ (N p hp).1, Nat.ne_of_lt (Heap.lt_size (N p hp).1), hideAll_none _ (List.mem_map_of_mem hp)⟩) BG (X₀.keeps st) (T.keeps st)) (fun fl s' hl => lv _ _ hl) fun _ _ y => y
end
local macro_rules | `(tactic| ktr_enter) => do `(tactic| ($(← ln ``code_defN "BFXNTkkkiireL_kkkd"); k_whole; intro g' L' h' FG' F' N' B' X' T'; (try dsimp only)))

-- the part nenter
section
variable {prog : Program} {w : World} {A A₀ : Around} {s : Shared} {K : Frag} {L : Addr} {h₀ base : Heap} {m mg mb : PySem.Str → Option Value} {news : List (Addr × Obj)} {p : Program} {loose : List PySem.Str} {mean : ExcName → Option Value}
  {env : Env} {outer : List Env} {Q E : Value → Shared → Prop} {name qual : PySem.Str} {params : Arguments} {body : List Stmt} {scope : Scope} {dV kV doc pm cdv ct oc : Value} {an od : Option Addr} {osl : Array (Option Value)} {f : Addr} {vals : List Value} {binds : List (PySem.Str × Value)}
/-- what a body's end owes: the frame let go, the caller's goal -/
noncomputable abbrev Ends (h₀ g : Heap) (L : Addr) (m : PySem.Str → Option Value) (Q : Value → Shared → Prop) (QL : Flow → Shared → Prop) : Prop :=
  ∀ fl s' L' m' news', Fr g L' s'.heap m' → News g L' s'.heap news' → (Fr h₀ L s'.heap m → News h₀ L s'.heap news' → Q (match fl with | .ret v => v | _ => .none) s') → QL fl s'
/-- what a raise out of a body owes: the frame's leaving, the caller's goal -/
noncomputable abbrev Lets (M : Model) (A : Around) (env : Env) (E EL : Value → Shared → Prop) : Prop :=
  ∀ e s', wpAny M A (leaving env e) (fun _ s'' => E e s'') (fun e' s'' => E e' s'') s' → EL e s'
/-- a call's body, its two posts kept closed (small proofs) -/
theorem enter_N (B : Below A₀ base outer h₀) (F : Fr h₀ L s.heap m) (X₀ : K.In h₀) (N : News h₀ L s.heap news) (T : Top p loose mean mg mb h₀) (hA : A.frames = some (env :: outer)) (hf : env.frame = some L) (hke : env.scope.kind = .function)
    (ho : K.lookup f = some ⟨oc, od, .func (fnOf name qual params body scope dV kV doc pm an cdv ct), osl⟩) (hcd : codeIn K cdv qual = true) (hroom : A.depth < recursionLimit)
    (hbind : BindsTo s (fnOf name qual params body scope dV kV doc pm an cdv ct) ⟨vals, []⟩ binds) (hloc : ∀ y ∈ binds, scope.names.lookup y.1 = some .local)
    (h : ∀ g L' h₁ (QL : Flow → Shared → Prop) (EL : Value → Shared → Prop), Fr h₀ L g m → Fr g L' h₁ (fun y => binds.reverse.lookup y) → News g L' h₁ news → Below A base (env :: outer) g → K.In g → Top p loose mean mg mb g →
      Ends h₀ g L m Q QL → PassesOwn (model prog w) (A.deeper (envOf qual scope L' f cdv)) (envOf qual scope L' f cdv) EL →
      Lets (model prog w) (A.deeper (envOf qual scope L' f cdv)) (envOf qual scope L' f cdv) E EL →
      wpN (model prog w) (A.deeper (envOf qual scope L' f cdv)) (execs body (envOf qual scope L' f cdv)) QL EL { s with heap := h₁, toks := s.toks + binds.length })
    (hco : scope.isCoroutine = false) (hgen : scope.isGenerator = false) (hk : scope.kind = .function) (hcell : ∀ x ∈ scope.names, x.2 ≠ .cell) : wpN (model prog w) A (call (.ref f) vals) Q E s :=
  wpN_call (code_defN B F X₀ N T hA hf hke ho hcd hroom hbind hloc (fun g L' h₁ FG F' N' B' X' T' => h g L' h₁ _ _ FG F' N' B' X' T' (fun _ _ L'' m' news' F'' N'' k => ⟨L'', m', news', F'', N'', k⟩) PassesOwn.leaving fun _ _ x => x) hco hgen hk hcell)
theorem enter_A (B : Below A₀ base outer h₀) (F : Fr h₀ L s.heap m) (X₀ : K.In h₀) (N : News h₀ L s.heap news) (T : Top p loose mean mg mb h₀) (hA : A.frames = some (env :: outer)) (hf : env.frame = some L) (hke : env.scope.kind = .function)
    (ho : K.lookup f = some ⟨oc, od, .func (fnOf name qual params body scope dV kV doc pm an cdv ct), osl⟩) (hcd : codeIn K cdv qual = true) (hroom : A.depth < recursionLimit)
    (hbind : BindsTo s (fnOf name qual params body scope dV kV doc pm an cdv ct) ⟨vals, []⟩ binds) (hloc : ∀ y ∈ binds, scope.names.lookup y.1 = some .local)
    (h : ∀ g L' h₁ (QL : Flow → Shared → Prop) (EL : Value → Shared → Prop), Fr h₀ L g m → Fr g L' h₁ (fun y => binds.reverse.lookup y) → News g L' h₁ news → Below A base (env :: outer) g → K.In g → Top p loose mean mg mb g →
      Ends h₀ g L m Q QL → PassesOwn (model prog w) (A.deeper (envOf qual scope L' f cdv)) (envOf qual scope L' f cdv) EL →
      Lets (model prog w) (A.deeper (envOf qual scope L' f cdv)) (envOf qual scope L' f cdv) E EL →
      wpAny (model prog w) (A.deeper (envOf qual scope L' f cdv)) (execs body (envOf qual scope L' f cdv)) QL EL { s with heap := h₁, toks := s.toks + binds.length })
    (hco : scope.isCoroutine = false) (hgen : scope.isGenerator = false) (hk : scope.kind = .function) (hcell : ∀ x ∈ scope.names, x.2 ≠ .cell) : wpAny (model prog w) A (call (.ref f) vals) Q E s :=
  wpAny_call (code_def B F X₀ N T hA hf hke ho hcd hroom hbind hloc (fun g L' h₁ FG F' N' B' X' T' => h g L' h₁ _ _ FG F' N' B' X' T' (fun _ _ L'' m' news' F'' N'' k => ⟨L'', m', news', F'', N'', k⟩) PassesOwn.leaving fun _ _ x => x) hco hgen hk hcell)
theorem ret_K {h₀ g : Heap} {L L' : Addr} {m m' : PySem.Str → Option Value} {Q : Value → Shared → Prop} {QL : Flow → Shared → Prop} {news' : List (Addr × Obj)} {fl : Flow} {s' : Shared} (hQ : Ends h₀ g L m Q QL) (F' : Fr g L' s'.heap m') (N' : News g L' s'.heap news')
    (k : Fr h₀ L s'.heap m → News h₀ L s'.heap news' → Q (match fl with | .ret v => v | _ => .none) s') : QL fl s' := hQ fl s' L' m' news' F' N' k
theorem BadE.enter {P : Params} {M : Model} {A : Around} {base h₀ g : Heap} {outer : List Env} {L L' a : Addr} {m m' : PySem.Str → Option Value} {why : PySem.Str} {row col : Int} {kept : List (Addr × Obj)} {E EL : Value → Shared → Prop} {s s₁ : Shared} {name : PySem.Str} {scope : Scope} {cd : Value}
    (hEL : Lets M (A.deeper (envOf name scope L' a cd)) (envOf name scope L' a cd) E EL)
    (K : Below A base outer g) (FG : Fr h₀ L g m) (hs : ∀ h' tk, ({ s₁ with heap := h', toks := tk } : Shared) = { s with heap := h', toks := tk }) (b : BadE P base outer h₀ L m why row col kept E s) :
    BadE P base (envOf name scope L' a cd :: outer) g L' m' why row col kept EL s₁ :=
  fun e d k1 k2 k3 t1 t2 t3 h' tk g₂ R F sm => hEL _ _ (BadE.deeper K FG hs b e d k1 k2 k3 t1 t2 t3 h' tk g₂ R F sm)
end
local macro_rules | `(tactic| walk_at "enter") => do `(tactic| ((first | $(← ln ``enter_N "BFXNTkkkiireL_kkkd"):tactic | $(← ln ``enter_A "BFXNTkkkiireL_kkkd"):tactic); k_whole; intro g' L' h' QL EL FG' F' N' B' X' T' hQL hPE hEL; (try dsimp only)))
local macro_rules | `(tactic| walk_at "ret") => do `(tactic| ($(← ln ``ret_K "aBB_"); intro kF kN; (try dsimp only at kF kN ⊢)))

-- the part fail
section
variable {w : World} {mean : ExcName → Option Value} {mg mb : PySem.Str → Option Value} {loose : List PySem.Str}
   {dp un : Nat} {gd : Option (List Code)} {cn : PySem.Str} {cs : Scope} {a : Addr} {ccd : Value} {cl : List (PySem.Str × Addr)} {outer : List Env} {A₀ : Around} {base h₀ : Heap} {L : Addr} {m : PySem.Str → Option Value} {news kept : List (Addr × Obj)} {s : Shared}
    {Q E : Value → Shared → Prop} {x d fl : Addr} {T : PySem.Str} {i row col : Int} {k1 t1 k2 t2 k3 t3 k4 t4 k5: Tok} {why : PySem.Str} {tw : Tok}
theorem fail_c
    (B : Below A₀ base outer h₀) (F : Fr h₀ L s.heap m) (X : (One.hd.heap_1_39 w.params).In h₀) (N : News h₀ L s.heap news) (TT : Top One.hd.view_1_40 loose mean mg mb h₀) (hk : cs.kind = .function)
    (hx : (x, instObj 210 d) ∈ news) (hd : (d, dictOf (lexD w.params T i row col fl k1 t1 k2 t2 k3 t3 k4 t4 k5) 5) ∈ news)
    (hr : dp + 14 < recursionLimit) (hu : un + 100 < cLine)
    (hE : BadE w.params base (envX cn cs L a ccd cl :: outer) h₀ L m why row col kept E s) (hsub : ∀ q ∈ kept, q ∈ news) :
    wpAny (model prog0 w) (ktrTop dp un gd cn cs L a ccd cl outer) (call (.ref 150) [.ref x, .str why tw]) Q E s := by
  w_on
  k_dflt (walk_at "enter")
  k_steps
  rename News _ _ _ (_ :: _ :: _) => N3
  rename Fr _ _ _ _ => F3
  rename Fr h₀ L _ m => FG
  rename Below _ _ _ _ => B3
  rename Frag.In _ _ => X3
  rename ∀ q ∈ news, q ∈ _ => hin3
  rename ∀ q ∈ news, q.1 ≠ _ => hnx3
  rename Lets _ _ _ _ _ => hEL
  refine ⟨_, _, _, rfl, X3.keeps F3.keep, (N3 _ (.tail _ (.head _))).1, hEL _ _ ?_⟩
  exact throw_bad B3 F3 N3 FG hin3 (by assumption) hnx3 hsub hE (fun _ _ => rfl) rfl
end
local macro_rules | `(tactic| walk_at "sub") => `(tactic| (intro q hq; (repeat' (first | exact hq | refine List.mem_cons_of_mem _ ?_))))
local macro_rules | `(tactic| walk_at "badE") => `(tactic| exact BadE.enter (by assumption) (by k_asm) (by k_asm) (fun _ _ => rfl) (by assumption))
local macro_rules | `(tactic| walk_at "call ref") => lnAt 150 ``fail_c "BFXNTkxxrnES"

-- the part ba
/-! bytearrays: made, grown -/
theorem ba_mro : mroOf (.type "bytearray") = pure [.type "bytearray", .type "object"] := by rw [mroOf_type]; kernel_rfl
theorem ba_lookup_new : typeLookup (.type "bytearray") "__new__" = pure (some (.builtin "bytearray.__new__")) := by rw [typeLookup_type, builtinLookup_eq_fast]; kernel_rfl
theorem ba_slot_init : Slot "bytearray" "__init__" "bytearray.__init__" :=
  .of (owner := "bytearray") (n := "__init__") (by rw [typeLookup_type, builtinLookup_eq_fast]; kernel_rfl) (by decide +kernel) (by decide +kernel) (by decide +kernel)
    (by first | exact .inl (by decide +kernel) | exact .inr (by decide +kernel)) (by rw [isSubtype_type]; kernel_rfl)
theorem ba_called : TypeCalled "bytearray" "bytearray.__new__" "bytearray.__init__" :=
  ⟨by decide +kernel, by decide +kernel, ⟨_, _, ba_mro⟩, madeBy_type ba_mro ba_lookup_new (by decide +kernel), by decide +kernel, by rw [isSubtype_type]; kernel_rfl, ba_slot_init⟩
theorem ba_typeCall : checkTypeCall "bytearray" ⟨[], []⟩ = pure () := by kernel_rfl
theorem ba_newCall : checkBuiltinCall "bytearray.__new__" ⟨[.type "bytearray"], []⟩ = pure () := by kernel_rfl
theorem ba_plain_new : plainId "bytearray.__new__" = true := by decide +kernel
theorem ba_entry_new : entryFor table "bytearray.__new__" = some Builtin.«list.__new__» := entryFor_alias (id' := "list.__new__") (by rw [fastTable_eq_tree]; kernel_rfl) (by decide +kernel) (by decide +kernel) (by rw [fastTable_eq_tree]; kernel_rfl)
theorem ba_entry_init : entryFor table "bytearray.__init__" = some Builtin.«bytearray.__init__» := by first | exact entryFor_of_fast (by kernel_rfl) | exact entryFor_of_tree (by kernel_rfl)
theorem ba_sub : isSubtype (.type "bytearray") (.type "bytearray") = pure true := by rw [isSubtype_type]; kernel_rfl
theorem ba_bind : Builtin.Bytes.bindOptional "bytearray.__init__" "bytearray" ["source", "encoding", "errors"] [] [] = pure [none, none, none] := by kernel_rfl
set_option maxRecDepth 1000000 in
set_option maxHeartbeats 4000000 in
theorem ba_owner : ("bytearray.__new__".splitOn ".__new__").headD "" = "bytearray" := by simp +decide [String.splitOn, String.splitOnAux]
theorem ba_init_args (a : Value) : argsOk "bytearray.__init__" ⟨[a], []⟩ := by unfold argsOk; kernel_rfl
section
variable {prog : Program} {w : World} {A : Around} {E : Value → Shared → Prop} {s : Shared}
theorem codeN_builtin {id : String} {args : Args} {b : Builtin} {R : Result → Shared → Prop} (hf : fineC (.builtin id args) = true) (hb : entryFor table id = some b)
    (h : wpN (model prog w) (A.under (.builtin id args)) (b args)
      (fun fin s' => match fin with | .done f => R (.ok f) s' | .again c' => c'.quiet = true ∧ codeN (model prog w) A c' R s') (fun e s' => R (.error e) s') s) :
    codeN (model prog w) A (.builtin id args) R s := by
  refine codeN_tree hf ?_
  show wpN _ _ (match entryFor table id with | some b => b args | none => unsupported ((withoutEnding? id "#data").getD id)) _ _ s
  rw [hb]; exact h
theorem codeN_call_builtin {id : String} {args : Args} {b : Builtin} {R : Result → Shared → Prop} (hf : fineC (.builtin id args) = true) (hq : plainId id = true) (hb : entryFor table id = some b)
    (hc : wpAny (model prog w) A.in1 (checkBuiltinCall id args) (fun _ s₁ => wpN (model prog w) A.in1 (b args)
      (fun fin s' => match fin with | .done f => R (.ok f) s' | .again c' => c'.quiet = true ∧ codeN (model prog w) A c' R s') (fun e s' => R (.error e) s') s₁)
      (fun e s' => R (.error e) s') s) : codeN (model prog w) A (.call (.builtin id) args) R s := by
  refine codeN_tree rfl ?_
  show wpN _ A.in1 (do checkBuiltinCall id args; again (.builtin id args)) _ _ s
  refine wpN_bindA (wpAny_mono hc (fun _ s₁ h₁ => wpN_pure (And.intro (plainId_quiet hq args) (codeN_builtin hf hb (by rw [Around.under_plainId hq args]; exact h₁)))) fun _ _ h' => h')
theorem code_ba_new {Q₁ : Value → Shared → Prop}
    (h : Q₁ (.ref s.heap.objs.size) { s with heap := s.heap.push { cls := .type "bytearray", data := .bytearray #[] } }) :
    codeAny (model prog w) A (.call (.builtin "bytearray.__new__") ⟨[.type "bytearray"], []⟩) (wants Q₁ E) s := by
  refine codeAny_of_tree ?_
  show wpAny _ A.in1 (do checkBuiltinCall "bytearray.__new__" ⟨[.type "bytearray"], []⟩; again (.builtin "bytearray.__new__" ⟨[.type "bytearray"], []⟩)) _ _ s
  refine wpAny_bind (wpAny_of_eq ba_newCall (wpAny_pure ⟨plainId_quiet ba_plain_new _, codeAny_builtin_stack ba_entry_new rfl fun p st => ?_⟩))
  rw [Around.under_plainId ba_plain_new _]
  have hsub := ba_sub
  have hown := ba_owner
  obtain ⟨hp, g, d, tk, os⟩ := s
  simp only [hown]
  wp_walk
  exact h
noncomputable abbrev baObj (b : Array UInt8) : Obj := { cls := .type "bytearray", data := .bytearray b }
theorem ba_rel : typeLookup (.type "bytearray") "__release_buffer__" = pure (some (.builtin "bytearray.__release_buffer__")) := by rw [typeLookup_type, builtinLookup_eq_fast]; kernel_rfl
theorem ba_ownRelease {M : Model} {a : Addr} {Q : Bool → Shared → Prop} (hT : s.TypeIs (.ref a) "bytearray") (h : Q false s) : wpAny M A (Builtin.Bytes.ownRelease (.ref a)) Q E s := by
  unfold Builtin.Bytes.ownRelease Builtin.Bytes.slotIsOwn
  refine wpAny_bind (wpAny_bind (wpAny_specialOf hT ba_rel ?_))
  dsimp only
  refine bm_if_false (by decide +kernel) ?_
  rw [show String.dropRight "bytearray.__release_buffer__" (String.length "__release_buffer__" + 1) = "bytearray" by decide +kernel]
  first
    | exact wpAny_isInstance hT ba_sub (wpAny_pure h)
    | exact wpAny_bind (wpAny_pure (wpAny_isInstance hT ba_sub (wpAny_pure h)))
end

-- the part ba2
section
variable {prog : Program} {w : World} {A : Around} {E : Value → Shared → Prop} {s : Shared}
theorem ba_typeIs {a : Addr} {b : Array UInt8} (h : s.heap.get? a = some (baObj b)) : s.TypeIs (.ref a) "bytearray" := ⟨_, h, rfl⟩
theorem ba_write {M : Model} {a : Addr} {b : Array UInt8} {f : Array UInt8 → Array UInt8} {Q : Unit → Shared → Prop} (h : s.heap.get? a = some (baObj b)) (hz : (f b).size ≤ sizeLine)
    (hQ : Q () { s with heap := s.heap.update a (Obj.mapBytearray f) }) : wpAny M A (Builtin.Bytes.write (.ref a) f) Q E s := by
  show wpAny M A (updateBytearray a f) Q E s
  unfold updateBytearray
  refine wpAny_bind (wpAny_load h ?_)
  show wpAny _ _ (update a (Obj.mapBytearray f) >>= fun _ => lookBehind a) _ _ _
  refine wpAny_bind (wpAny_update h ?_)
  have h2 : (s.heap.update a (Obj.mapBytearray f)).get? a = some (baObj (f b)) := Heap.get?_update_self (Obj.mapBytearray f) h rfl
  refine wpAny_lookBehind h2 ?_ hQ
  show (if (f b).size > sizeLine then some "bytearray:memory" else none) = none
  rw [if_neg (by omega)]
theorem ba_exports {M : Model} {a : Addr} {b : Array UInt8} {Q : Nat → Shared → Prop} (h : s.heap.get? a = some (baObj b)) (hQ : Q 0 s) : wpAny M A (Builtin.Bytes.exportsOf (.ref a)) Q E s := by
  show wpAny M A (load a >>= _) Q E s
  exact wpAny_bind (wpAny_load h (wpAny_pure hQ))
theorem ba_free {M : Model} {a : Addr} {b : Array UInt8} {Q : Bool → Shared → Prop} (h : s.heap.get? a = some (baObj b)) (hQ : Q false s) :
    wpN M A (Builtin.Bytes.exported (.ref a) <||> (do return (← Builtin.Bytes.exportsOf (.ref a)) > 0)) Q E s := by
  show wpN M A (Builtin.Bytes.exported (.ref a) >>= _) Q E s
  refine wpN_bind (exported_no ?_)
  show wpN M A (Builtin.Bytes.exportsOf (.ref a) >>= _) Q E s
  exact wpN_bindA (ba_exports h (wpN_pure hQ))
theorem ba_resize {M : Model} {a : Addr} {b : Array UInt8} {Q : Unit → Shared → Prop} (h : s.heap.get? a = some (baObj b)) (hQ : Q () s) : wpN M A (Builtin.Bytes.checkResize (.ref a)) Q E s := by
  unfold Builtin.Bytes.checkResize
  refine wpN_bind (ba_free h ?_)
  exact wpN_pure hQ
theorem code_ba_init {a : Addr} {R : Result → Shared → Prop} (h : s.heap.get? a = some (baObj #[])) (hQ : R (.ok (.ret .none)) { s with heap := s.heap.update a (Obj.mapBytearray fun _ => #[]) }) :
    codeN (model prog w) A (.call (.builtin "bytearray.__init__") ⟨[.ref a], []⟩) R s := by
  have hT := ba_typeIs (s := s) h
  refine codeN_call_builtin (show (!badIds.contains "bytearray.__init__") = true by decide) ba_slot_init.plain ba_entry_init (ba_slot_init.check _ _ _ _ _ _ _ _ hT (ba_init_args _) ?_)
  unfold Builtin.«bytearray.__init__»
  refine wpN_bindA (ba_ownRelease hT ?_)
  refine wpN_ite_f (by decide) ?_
  refine wpN_bindA (wpAny_of_eq ba_bind ?_)
  refine wpN_bindA (wpAny_of_eq (a := ()) rfl ?_)
  refine wpN_bindA (wpAny_of_eq (a := ()) rfl ?_)
  refine wpN_bind (ba_free h ?_)
  refine wpN_ite_f (by decide) ?_
  refine wpN_bindA (ba_write h (Nat.zero_le _) ?_)
  exact wpN_pure hQ
theorem ba_call {Q : Value → Shared → Prop} (h : ∀ a, a = s.heap.objs.size → Q (.ref a) { s with heap := (s.heap.push (baObj #[])).update a (Obj.mapBytearray fun _ => #[]) }) :
    wpN (model prog w) A (call (.type "bytearray") []) Q E s := by
  refine wpN_call (codeN_tree rfl ?_)
  show wpN _ _ (callAny (.type "bytearray") _) _ _ _
  refine wpN_pure ⟨Code.quiet_builtin _ (by decide +kernel), codeN_builtin (show (!badIds.contains "type.__call__") = true by decide) F.entry_type_call ?_⟩
  rw [Around.under_plain (weight_type_call_type "bytearray" [] []) (units_type_call_type "bytearray" [] [])]
  unfold Builtin.«type.__call__»
  dsimp only
  refine wpN_ite_f (by decide) ?_
  refine wpN_ite_f (by rw [ba_called.canCreate]; decide) ?_
  refine wpN_bindA (wpAny_of_eq ba_typeCall ?_)
  refine wpN_bindA (wpAny_of_eq ba_mro ?_)
  refine wpN_ite_f (by decide) ?_
  refine wpN_bindA (wpAny_of_eq ba_called.made ?_)
  dsimp only
  refine wpN_bindA (wpAny_pure ?_)
  refine wpN_bindA (wpAny_holding (wpAny_call (codeAny_mono (code_ba_new (Q₁ := fun v s₁ => v = .ref s.heap.objs.size ∧ s₁ = { s with heap := s.heap.push (baObj #[]) }) (E := fun _ _ => False) ⟨rfl, rfl⟩) fun r s₁ hr => ?_)))
  cases r with
  | error e => exact hr.elim
  | ok fl =>
    cases fl with
    | ret obj =>
      obtain ⟨rfl, rfl⟩ := hr
      have hg : (s.heap.push (baObj #[])).get? s.heap.objs.size = some (baObj #[]) := Heap.get?_push_size _ rfl
      have hT := ba_typeIs (s := { s with heap := s.heap.push (baObj #[]) }) hg
      refine wpN_bindA (wpAny_isInstance hT ba_sub ?_)
      refine wpN_ite_f (by decide) ?_
      refine wpN_bind (wpN_holding ?_)
      unfold callSpecial?
      refine wpN_bindA (wpAny_specialOf hT ba_slot_init.lookup ?_)
      dsimp only
      refine wpN_holding ?_
      refine wpN_bindA (wpAny_of_eq (ba_slot_init.bind _) ?_)
      dsimp only
      refine wpN_bind (wpN_call (codeN_mono (code_ba_init (R := fun r s₂ => r = .ok (.ret .none) ∧ s₂ = { s with heap := (s.heap.push (baObj #[])).update s.heap.objs.size (Obj.mapBytearray fun _ => #[]) }) hg ⟨rfl, rfl⟩) fun r s₂ hr => ?_))
      obtain ⟨rfl, rfl⟩ := hr
      dsimp only
      refine wpN_pure ?_
      dsimp only
      refine wpN_ite_f (by decide) ?_
      exact wpN_pure (h _ rfl)
    | _ => exact hr.elim
end

-- the part ba3
theorem ba_slot_append : Slot "bytearray" "append" "bytearray.append" :=
  .of (owner := "bytearray") (n := "append") (by rw [typeLookup_type, builtinLookup_eq_fast]; kernel_rfl) (by decide +kernel) (by decide +kernel) (by decide +kernel)
    (by first | exact .inl (by decide +kernel) | exact .inr (by decide +kernel)) (by rw [isSubtype_type]; kernel_rfl)
theorem ba_slot_extend : Slot "bytearray" "extend" "bytearray.extend" :=
  .of (owner := "bytearray") (n := "extend") (by rw [typeLookup_type, builtinLookup_eq_fast]; kernel_rfl) (by decide +kernel) (by decide +kernel) (by decide +kernel)
    (by first | exact .inl (by decide +kernel) | exact .inr (by decide +kernel)) (by rw [isSubtype_type]; kernel_rfl)
theorem ba_entry_append : entryFor table "bytearray.append" = some Builtin.«bytearray.append» := entryFor_of_tree (by kernel_rfl)
theorem ba_entry_extend : entryFor table "bytearray.extend" = some Builtin.«bytearray.extend» := entryFor_of_tree (by kernel_rfl)
theorem ba_entry_loop : entryFor table "bytearray.extend.loop" = some Builtin.«bytearray.extend.loop» := entryFor_of_tree (by kernel_rfl)
theorem ba_entry_end : entryFor table "bytearray.extend.end" = some Builtin.«bytearray.extend.end» := entryFor_of_tree (by kernel_rfl)
theorem ba_plain_loop : plainId "bytearray.extend.loop" = true := by decide +kernel
theorem ba_plain_end : plainId "bytearray.extend.end" = true := by decide +kernel
theorem ba_append_args (a b : Value) : argsOk "bytearray.append" ⟨[a, b], []⟩ := by unfold argsOk; kernel_rfl
theorem ba_extend_args (a b : Value) : argsOk "bytearray.extend" ⟨[a, b], []⟩ := by unfold argsOk; kernel_rfl
section
variable {prog : Program} {w : World} {A : Around} {E : Value → Shared → Prop} {s : Shared}
theorem ba_byteValue {M : Model} {n : Int} {t : Tok} {Q : UInt8 → Shared → Prop} (h0 : 0 ≤ n) (h1 : n < 256) (h : Q n.toNat.toUInt8 s) : wpAny M A (Builtin.Bytes.byteValue (.int n t)) Q E s := by
  unfold Builtin.Bytes.byteValue
  refine wpAny_bind (wpAny_of_eq (rfl : asIndex (.int n t) = pure n) ?_)
  refine bm_if_false (by simp only [Bool.or_eq_false_iff, decide_eq_false_iff_not]; omega) ?_
  exact wpAny_pure h
theorem ba_append {a : Addr} {b : Array UInt8} {n : Int} {t : Tok} {Q : Value → Shared → Prop} (h : s.heap.get? a = some (baObj b)) (h0 : 0 ≤ n) (h1 : n < 256) (hz : b.size < 100000)
    (hQ : Q .none { s with heap := s.heap.update a (Obj.mapBytearray (·.push n.toNat.toUInt8)) }) :
    wpN (model prog w) A (call (.builtin "bytearray.append") [.ref a, .int n t]) Q E s := by
  have hT := ba_typeIs (s := s) h
  refine wpN_call (codeN_call_builtin (show (!badIds.contains "bytearray.append") = true by decide) ba_slot_append.plain ba_entry_append (ba_slot_append.check _ _ _ _ _ _ _ _ hT (ba_append_args _ _) ?_))
  unfold Builtin.«bytearray.append»
  refine wpN_bindA (wpAny_of_eq (a := (.ref a, .int n t)) rfl ?_)
  dsimp only
  refine wpN_bindA (ba_byteValue h0 h1 ?_)
  refine wpN_bind (ba_resize h ?_)
  refine wpN_bindA (ba_write h (by rw [Array.size_push, show sizeLine = 16777216 from rfl]; omega) ?_)
  exact wpN_pure hQ
noncomputable def atEnd (a : Addr) (more : Array UInt8) : Sem PySem.Fin := do
  if !more.isEmpty then Builtin.Bytes.checkResize (.ref a)
  Builtin.Bytes.write (.ref a) (· ++ more)
  ret .none
theorem ba_atEnd {a : Addr} {b more : Array UInt8} {Q : PySem.Fin → Shared → Prop} (h : s.heap.get? a = some (baObj b)) (hz : b.size + more.size < 100000)
    (hQ : Q (.done (.ret .none)) { s with heap := s.heap.update a (Obj.mapBytearray (· ++ more)) }) :
    wpN (model prog w) A (atEnd a more) Q E s := by
  have fin : wpN (model prog w) A (do Builtin.Bytes.write (.ref a) (· ++ more); ret .none) Q E s := by
    refine wpN_bindA (ba_write h (by rw [Array.size_append, show sizeLine = 16777216 from rfl]; omega) ?_)
    exact wpN_pure hQ
  unfold atEnd
  cases hm : more.isEmpty with
  | true => simpa [hm] using fin
  | false =>
    simp only [Bool.not_false, if_true]
    exact wpN_bind (ba_resize h fin)
theorem ba_payload {M : Model} {a : Addr} {b : Array UInt8} {Q : Array UInt8 → Shared → Prop} (h : s.heap.get? a = some (baObj b)) (hQ : Q b s) : wpAny M A (Builtin.Bytes.payload (.ref a)) Q E s := by
  unfold Builtin.Bytes.payload Builtin.Bytes.payload?
  exact wpAny_bind (wpAny_bind (wpAny_load h (wpAny_pure (wpAny_pure hQ))))
theorem ba_buf {id : String} {full : Bool} {c : Array UInt8} {t : Tok} : Builtin.Bytes.buffer? id (.bytes c t) full = pure (some c) := by
  unfold Builtin.Bytes.buffer?
  rw [KBy.special_eq KBy.look_buffer, KBy.own_buffer, KBy.own_release]
  kernel_rfl
theorem ba_take {c : Array UInt8} {t : Tok} : Builtin.Bytes.takeBufferQuiet? "bytearray.extend" (.bytes c t) 0 = pure (some (c, none)) := by
  unfold Builtin.Bytes.takeBufferQuiet? Builtin.Bytes.takeBuffer?
  rw [KBy.special_eq KBy.look_buffer, KBy.own_buffer, ba_buf]
  rfl
theorem ba_extend_bytes {a : Addr} {b c : Array UInt8} {t : Tok} {Q : Value → Shared → Prop} (h : s.heap.get? a = some (baObj b)) (hz : b.size + c.size < 100000)
    (hQ : Q .none { s with heap := s.heap.update a (Obj.mapBytearray (· ++ c)) }) :
    wpN (model prog w) A (call (.builtin "bytearray.extend") [.ref a, .bytes c t]) Q E s := by
  have hT := ba_typeIs (s := s) h
  refine wpN_call (codeN_call_builtin (show (!badIds.contains "bytearray.extend") = true by decide) ba_slot_extend.plain ba_entry_extend (ba_slot_extend.check _ _ _ _ _ _ _ _ hT (ba_extend_args _ _) ?_))
  unfold Builtin.«bytearray.extend»
  refine wpN_bindA (wpAny_of_eq (a := (.ref a, .bytes c t)) rfl ?_)
  dsimp only
  refine wpN_bindA (wpAny_of_eq (KBy.special_eq KBy.look_buffer) ?_)
  refine wpN_ite_t (by rfl) ?_
  refine wpN_bindA (wpAny_rule ?_)
  refine wpN_bindA (ba_payload h ?_)
  refine wpN_bindA (wpAny_of_eq ba_take ?_)
  dsimp only
  refine wpN_ite_t (by rfl) ?_
  exact ba_atEnd h hz hQ
end

-- the part ba4
section
variable {prog : Program} {w : World} {A : Around} {E : Value → Shared → Prop} {s : Shared}
theorem ba_loop {R : Result → Shared → Prop} {a l I S : Addr} {b : Array UInt8} {vs : List Value} {ns : List Int} (hh : A.handled = none) (hi : IntsAre vs ns) (hr : ∀ n ∈ ns, 0 ≤ n ∧ n < 256) (hz : b.size + ns.length < 100000)
    (hIS : I ≠ S) (hlI : l ≠ I) (hlS : l ≠ S) (haI : a ≠ I) (haS : a ≠ S) (hal : a ≠ l) :
    ∀ (k i : Nat) (s : Shared), ns.length - i = k → i ≤ ns.length → s.heap.IsList l vs.toArray → s.heap.IsListIter I l i → s.heap.get? S = some (baObj (byteArr (ns.take i))) → s.heap.get? a = some (baObj b) →
      (∀ h' k', (∀ x o, x ≠ a → x ≠ I → x ≠ S → s.heap.get? x = some o → h'.get? x = some o) → h'.get? a = some (baObj (b ++ byteArr ns)) → R (.ok (.ret .none)) { s with heap := h', toks := k' }) →
      codeN (model prog w) A (.builtin "bytearray.extend.loop" ⟨[.ref a, .ref l, .ref I, .ref S], []⟩) R s := by
  have hlen : vs.length = ns.length := hi.length
  intro k
  induction k with
  | zero =>
    intro i s hk hle hl hit hS ha hR
    have hin : i = ns.length := by omega
    subst hin
    refine codeN_builtin (show (!badIds.contains "bytearray.extend.loop") = true by decide) ba_entry_loop ?_
    rw [Around.under_plainId ba_plain_loop _]
    unfold Builtin.«bytearray.extend.loop»
    dsimp only
    refine wpN_bindA (wpAny_pyNext_list_end hh hit hl (by simp [hlen]) fun h' he => ?_)
    dsimp only
    have hS' : h'.get? S = some (baObj (byteArr ns)) := by have := he S _ (Ne.symm hIS) hS; rwa [List.take_length] at this
    have ha' : h'.get? a = some (baObj b) := he a _ haI ha
    refine wpN_pure ⟨plainId_quiet ba_plain_end _, codeN_builtin (show (!badIds.contains "bytearray.extend.end") = true by decide) ba_entry_end ?_⟩
    rw [Around.under_plainId ba_plain_end _]
    unfold Builtin.«bytearray.extend.end»
    dsimp only
    refine wpN_bindA (wpAny_point ?_)
    refine wpN_bindA (ba_payload hS' ?_)
    refine ba_atEnd ha' (by rw [byteArr_size]; exact hz) ?_
    refine hR _ _ (fun x o h1 h2 h3 e => ?_) ?_
    · exact (Heap.get?_update_other _ _ (Ne.symm h1)).trans (he x o h2 e)
    · exact Heap.get?_update_self (Obj.mapBytearray (· ++ byteArr ns)) ha' rfl
  | succ k ih =>
    intro i s hk hle hl hit hS ha hR
    have hlt : i < ns.length := by omega
    obtain ⟨x, hx⟩ : ∃ x, vs[i]? = some x := ⟨vs[i]'(by omega), List.getElem?_eq_getElem (by omega)⟩
    obtain ⟨n, t, rfl, hn⟩ := IntsAre.at hi i x hx
    obtain ⟨h0, h1⟩ := hr n (List.mem_of_getElem? hn)
    refine codeN_builtin (show (!badIds.contains "bytearray.extend.loop") = true by decide) ba_entry_loop ?_
    rw [Around.under_plainId ba_plain_loop _]
    unfold Builtin.«bytearray.extend.loop»
    dsimp only
    refine wpN_bindA (wpAny_pyNext_list_item (x := .int n t) hit hl (by simpa using hx) fun h' hit' hs => ?_)
    dsimp only
    have hS' : h'.get? S = some (baObj (byteArr (ns.take i))) := (hs.2 S (Ne.symm hIS)).trans hS
    have ha' : h'.get? a = some (baObj b) := (hs.2 a haI).trans ha
    refine wpN_bindA (wpAny_tryCatch (wpAny_holding (ba_byteValue h0 h1 ?_)))
    refine wpN_bindA (wpAny_letGo ?_)
    refine wpN_bindA (ba_write hS' (by rw [Array.size_push, byteArr_size, List.length_take, show sizeLine = 16777216 from rfl]; omega) ?_)
    have hS₂ : (h'.update S (Obj.mapBytearray (·.push n.toNat.toUInt8))).get? S = some (baObj (byteArr (ns.take (i + 1)))) := by
      rw [byteArr_take hn]
      exact Heap.get?_update_self (Obj.mapBytearray (·.push n.toNat.toUInt8)) hS' rfl
    refine wpN_pure ⟨plainId_quiet ba_plain_loop _, ih (i + 1) { s with heap := h'.update S (Obj.mapBytearray (·.push n.toNat.toUInt8)) } (by omega) hlt ?_ ?_ hS₂ ?_ fun h3 k' hk3 ha3 => ?_⟩
    · exact (hl.extBut hs.extBut hlI).extBut (Heap.SameBut.update ..).extBut hlS
    · exact hit'.extBut (Heap.SameBut.update ..).extBut hIS
    · exact (Heap.get?_update_other _ _ (Ne.symm haS)).trans ha'
    · exact hR h3 k' (fun x o hxa hxI hxS e => hk3 x o hxa hxI hxS ((Heap.get?_update_other _ _ (Ne.symm hxS)).trans (hs.extBut x o hxI e))) ha3
theorem ba_extend_list {a l : Addr} {b : Array UInt8} {vs : List Value} {ns : List Int} {Q : Value → Shared → Prop} (hh : A.handled = none) (h : s.heap.get? a = some (baObj b)) (hl : s.heap.IsList l vs.toArray) (hi : IntsAre vs ns) (hr : ∀ n ∈ ns, 0 ≤ n ∧ n < 256) (hz : b.size + ns.length < 100000)
    (hQ : ∀ h' k', (∀ x o, x ≠ a → s.heap.get? x = some o → h'.get? x = some o) → h'.get? a = some (baObj (b ++ byteArr ns)) → Q .none { s with heap := h', toks := k' }) :
    wpN (model prog w) A (call (.builtin "bytearray.extend") [.ref a, .ref l]) Q E s := by
  have hT := ba_typeIs (s := s) h
  have hTl : s.TypeIs (.ref l) "list" := hl.typeIs
  obtain ⟨ol, hol, hoc, nl, hod⟩ := id hl
  have hal : a ≠ l := fun e => by rw [e, hol] at h; rw [Option.some.inj h] at hoc; injection hoc with hoc; exact absurd hoc (by decide)
  refine wpN_call (codeN_call_builtin (show (!badIds.contains "bytearray.extend") = true by decide) ba_slot_extend.plain ba_entry_extend (ba_slot_extend.check _ _ _ _ _ _ _ _ hT (ba_extend_args _ _) ?_))
  unfold Builtin.«bytearray.extend»
  refine wpN_bindA (wpAny_of_eq (a := (.ref a, .ref l)) rfl ?_)
  dsimp only
  refine wpN_bindA (wpAny_specialOf hTl F.bm_no_buffer ?_)
  refine wpN_ite_f (by decide) ?_
  refine wpN_bindA (wpAny_tryCatch (wpAny_pyIter_list hl ?_))
  have hl₁ : (s.heap.push { cls := .type "list_iterator", data := .fields #[.ref l, .int 0 0] }).IsList l vs.toArray := hl.push _
  have hT₁ : ({ s with heap := s.heap.push { cls := .type "list_iterator", data := .fields #[.ref l, .int 0 0] } } : Shared).TypeIs (.ref l) "list" := Heap.IsList.typeIs (s := { s with heap := s.heap.push { cls := .type "list_iterator", data := .fields #[.ref l, .int 0 0] } }) hl₁
  refine wpN_bindA (wpAny_holding ?_)
  unfold Builtin.Bytes.lengthHint
  refine wpAny_bind (wpAny_specialOf hT₁ slot_list_len.lookup ?_)
  dsimp only
  rw [F.bm_split]
  dsimp only
  refine wpAny_bind (wpAny_isInstance hT₁ F.bm_sub_list ?_)
  refine bm_if_false rfl ?_
  refine bm_if_true (by decide +kernel) ?_
  refine wpAny_pure ?_
  refine wpN_bindA ?_
  unfold Builtin.Bytes.newBytearray
  refine wpAny_newObj_type ?_ (Nat.zero_le _)
  have hI : ((s.heap.push { cls := .type "list_iterator", data := .fields #[.ref l, .int 0 0] }).push (baObj #[])).IsListIter s.heap.objs.size l 0 :=
    ⟨_, Heap.get?_push_of_some _ (Heap.get?_push_size _ rfl), rfl, rfl⟩
  have hlt : l < s.heap.objs.size := Heap.lt_size hol
  have hat : a < s.heap.objs.size := Heap.lt_size h
  have hsz : (s.heap.push { cls := .type "list_iterator", data := .fields #[.ref l, .int 0 0] }).objs.size = s.heap.objs.size + 1 := Heap.size_push _ _
  refine wpN_pure ⟨plainId_quiet ba_plain_loop _, ba_loop (A := A) (I := s.heap.objs.size) (S := (s.heap.push { cls := .type "list_iterator", data := .fields #[.ref l, .int 0 0] }).objs.size) hh hi hr hz (by rw [hsz]; exact Nat.ne_of_lt (Nat.lt_succ_self _)) (Nat.ne_of_lt hlt) (by rw [hsz]; exact Nat.ne_of_lt (Nat.lt_succ_of_lt hlt)) (Nat.ne_of_lt hat) (by rw [hsz]; exact Nat.ne_of_lt (Nat.lt_succ_of_lt hat)) hal
    ns.length 0 { s with heap := (s.heap.push { cls := .type "list_iterator", data := .fields #[.ref l, .int 0 0] }).push (baObj #[]) } rfl (Nat.zero_le _) (hl₁.push _) hI (Heap.get?_push_size _ rfl) (Heap.get?_push_of_some _ (Heap.get?_push_of_some _ h))
    fun h' k' hk ha => hQ h' k' (fun x o hx e => hk x o hx (Nat.ne_of_lt (Heap.lt_size e)) (by rw [hsz]; exact Nat.ne_of_lt (Nat.lt_succ_of_lt (Heap.lt_size e))) (Heap.get?_push_of_some _ (Heap.get?_push_of_some _ e))) ha⟩
end

-- the part ba5
/-! bytearrays over a ledger; bytes of a bytearray -/
theorem ba_no_bytes : typeLookup (.type "bytearray") "__bytes__" = pure none := by rw [typeLookup_type, builtinLookup_eq_fast]; kernel_rfl
theorem ba_no_index : typeLookup (.type "bytearray") "__index__" = pure none := by rw [typeLookup_type, builtinLookup_eq_fast]; kernel_rfl
theorem ba_look_buffer : typeLookup (.type "bytearray") "__buffer__" = pure (some (.builtin "bytearray.__buffer__")) := by rw [typeLookup_type, builtinLookup_eq_fast]; kernel_rfl
section
variable {prog : Program} {w : World} {A : Around} {E : Value → Shared → Prop} {s : Shared}
theorem ba_ownBuf {M : Model} {a : Addr} {Q : Bool → Shared → Prop} (hT : s.TypeIs (.ref a) "bytearray") (h : Q true s) : wpAny M A (Builtin.Bytes.slotIsOwn (.ref a) "__buffer__") Q E s := by
  unfold Builtin.Bytes.slotIsOwn
  refine wpAny_bind (wpAny_specialOf hT ba_look_buffer ?_)
  dsimp only
  refine bm_if_false (by decide +kernel) ?_
  rw [show String.dropRight "bytearray.__buffer__" (String.length "__buffer__" + 1) = "bytearray" by decide +kernel]
  first
    | exact wpAny_isInstance hT ba_sub h
    | exact wpAny_bind (wpAny_pure (wpAny_isInstance hT ba_sub h))
theorem ba_bytes_new {a : Addr} {b : Array UInt8} {Q : Value → Shared → Prop} (ha : s.heap.get? a = some (baObj b))
    (hQ : ∀ t k, Q (.bytes b t) { s with toks := k }) (hz : b.size < 100000) :
    codeAny (model prog w) A (.call (.builtin "bytes.__new__") ⟨[.type "bytes", .ref a], []⟩) (wants Q E) s := by
  refine codeAny_of_tree ?_
  show wpAny _ A.in1 (do checkBuiltinCall "bytes.__new__" ⟨[.type "bytes", .ref a], []⟩; again (.builtin "bytes.__new__" ⟨[.type "bytes", .ref a], []⟩)) _ _ s
  refine wpAny_bind (wpAny_of_eq (F.bm_newCall _) (wpAny_pure ⟨plainId_quiet F.bm_plain _, codeAny_builtin F.bm_entry ?_⟩))
  rw [Around.under_plainId F.bm_plain _]
  have hT := ba_typeIs (s := s) ha
  unfold Builtin.«bytes.__new__»
  refine wpAny_bind (wpAny_of_eq (a := true) rfl ?_)
  refine bm_if_false rfl ?_
  refine wpAny_bind (wpAny_of_eq F.bm_sub ?_)
  refine bm_if_false rfl ?_
  refine wpAny_bind (wpAny_of_eq (F.bm_bind _) ?_)
  refine wpAny_bind (wpAny_of_eq (a := ()) rfl ?_)
  refine wpAny_bind (wpAny_of_eq (a := ()) rfl ?_)
  refine bm_if_false rfl ?_
  refine wpAny_bind (wpAny_specialOf hT ba_no_bytes ?_)
  refine wpAny_bind (wpAny_bind ?_)
  show wpAny _ _ (load a >>= _) _ _ _
  refine wpAny_bind (wpAny_load ha ?_)
  refine wpAny_pure (wpAny_pure ?_)
  refine bm_if_false rfl ?_
  refine wpAny_bind (wpAny_specialOf hT ba_no_index ?_)
  refine bm_if_true rfl ?_
  first
    | show wpAny _ _ (Builtin.Bytes.buffer? "bytes.__new__" (.ref a) true >>= _) _ _ _
    | (refine wpAny_bind ?_; show wpAny _ _ (Builtin.Bytes.buffer? "bytes.__new__" (.ref a) true >>= _) _ _ _)
  refine wpAny_bind ?_
  unfold Builtin.Bytes.buffer?
  refine wpAny_bind (wpAny_specialOf hT ba_look_buffer ?_)
  refine wpAny_bind (ba_ownBuf hT ?_)
  refine bm_if_false rfl ?_
  refine wpAny_bind (wpAny_specialOf hT ba_look_buffer ?_)
  dsimp only
  refine wpAny_bind (ba_ownRelease hT ?_)
  refine bm_if_false rfl ?_
  refine wpAny_bind (ba_payload ha ?_)
  refine wpAny_pure ?_
  dsimp only
  refine wpAny_bind (wpAny_rule ?_)
  refine wpAny_bind (wpAny_mkBytes ?_ (by rw [show sizeLine = 16777216 from rfl]; omega))
  exact wpAny_pure (hQ _ _)
theorem call_bytes_ba {a : Addr} {b : Array UInt8} {Q : Value → Shared → Prop} (ha : s.heap.get? a = some (baObj b)) (hz : b.size < 100000)
    (hQ : ∀ t k, Q (.bytes b t) { s with toks := k }) : wpAny (model prog w) A (call (.type "bytes") [.ref a]) Q E s := by
  refine callType_codes (Q₁ := fun obj s₁ => s₁.TypeIs obj "bytes" ∧ Q obj s₁) F.bm_called (F.bm_typeCall _) F.entry_object_init
    (ba_bytes_new ha (fun t k => ⟨PySem.W.typeIs_bytes _ _ _, hQ t k⟩) hz) fun obj s₁ h₁ => ?_
  exact ⟨h₁.1, F.args_object_init_2 obj _, object_init_meets F.bm_called.init.lookup F.bm_called.made (by decide) prog w A.in1 _ s₁ ⟨h₁.1, rfl, h₁.2⟩⟩
theorem ba_mod {h h' h₀ : Heap} {L : Addr} {m : PySem.Str → Option Value} {news news' : List (Addr × Obj)} {a : Addr} {o o' : Obj} (F : Fr h₀ L h m) (N : News h₀ L h news) (U : Upd a o o' news news')
    (hk : ∀ x o, x ≠ a → h.get? x = some o → h'.get? x = some o) (ha : h'.get? a = some o') : Fr h₀ L h' m ∧ News h₀ L h' news' := by
  obtain ⟨_, hL, h0⟩ := N _ (upd_mem U)
  refine ⟨⟨F.ns.at' fun o e => hk _ o (Ne.symm hL) e, fun b o e => hk b o (fun q => by rw [q, h0] at e; cases e) (F.keep b o e), F.above⟩, fun p hp => ?_⟩
  rcases upd_sub U p hp with rfl | ⟨hm, hne⟩
  · exact ⟨ha, hL, h0⟩
  · exact ⟨hk _ _ hne (N p hm).1, (N p hm).2⟩
section
variable {h₀ : Heap} {L : Addr} {m : PySem.Str → Option Value} {news : List (Addr × Obj)} {Q : Value → Shared → Prop}
theorem call_bytes_K {a : Addr} {b : Array UInt8} (N : News h₀ L s.heap news) (hm : (a, baObj b) ∈ news) (hz : b.size < 100000)
    (hQ : ∀ t k, Q (.bytes b t) { s with toks := k }) : wpAny (model prog w) A (call (.type "bytes") [.ref a]) Q E s := call_bytes_ba (N _ hm).1 hz hQ
theorem baK_call (F : Fr h₀ L s.heap m) (N : News h₀ L s.heap news)
    (hQ : ∀ a h', (∀ p ∈ news, p.1 < a) → Fr h₀ L h' m → News h₀ L h' ((a, baObj #[]) :: news) → Q (.ref a) { s with heap := h' }) :
    wpN (model prog w) A (call (.type "bytearray") []) Q E s := by
  refine ba_call fun a ha => ?_
  subst ha
  have F1 := F.push (baObj #[])
  have N1 := News.push F N (baObj #[])
  have hs : (s.heap.push (baObj #[])).get? s.heap.objs.size = some (baObj #[]) := Heap.get?_push_size _ rfl
  have hsb : Heap.SameBut s.heap.objs.size (s.heap.push (baObj #[])) ((s.heap.push (baObj #[])).update s.heap.objs.size (Obj.mapBytearray fun _ => #[])) := Heap.SameBut.update ..
  obtain ⟨F2, N2⟩ := ba_mod (o' := baObj #[]) F1 N1 (news' := (s.heap.objs.size, baObj #[]) :: news) (Upd.head fun p hp => Nat.ne_of_lt (Heap.lt_size (N p hp).1)) (fun x o hx e => hsb.extBut x o hx e) (Heap.get?_update_self (Obj.mapBytearray fun _ => #[]) hs rfl)
  exact hQ _ _ (fun p hp => Heap.lt_size (N p hp).1) F2 N2
theorem baK_append {nw : Obj → List (Addr × Obj)} {a : Addr} {b : Array UInt8} {n : Int} {t : Tok} (F : Fr h₀ L s.heap m) (N : News h₀ L s.heap news) (U : ∀ o', Upd a (baObj b) o' news (nw o')) (h0 : 0 ≤ n) (h1 : n < 256) (hz : b.size < 100000)
    (hQ : ∀ h', Fr h₀ L h' m → News h₀ L h' (nw (baObj (b.push n.toNat.toUInt8))) → Q .none { s with heap := h' }) :
    wpN (model prog w) A (call (.builtin "bytearray.append") [.ref a, .int n t]) Q E s := by
  have ha := (N _ (upd_mem (U default))).1
  refine ba_append ha h0 h1 hz ?_
  obtain ⟨F2, N2⟩ := ba_mod (h' := s.heap.update a (Obj.mapBytearray (·.push n.toNat.toUInt8))) F N (U (baObj (b.push n.toNat.toUInt8))) (fun x o hx e => (Heap.SameBut.update ..).extBut x o hx e) (Heap.get?_update_self (Obj.mapBytearray (·.push n.toNat.toUInt8)) ha rfl)
  exact hQ _ F2 N2
theorem baK_extend_bytes {nw : Obj → List (Addr × Obj)} {a : Addr} {b c : Array UInt8} {t : Tok} (F : Fr h₀ L s.heap m) (N : News h₀ L s.heap news) (U : ∀ o', Upd a (baObj b) o' news (nw o')) (hz : b.size + c.size < 100000)
    (hQ : ∀ h', Fr h₀ L h' m → News h₀ L h' (nw (baObj (b ++ c))) → Q .none { s with heap := h' }) :
    wpN (model prog w) A (call (.builtin "bytearray.extend") [.ref a, .bytes c t]) Q E s := by
  have ha := (N _ (upd_mem (U default))).1
  refine ba_extend_bytes ha hz ?_
  obtain ⟨F2, N2⟩ := ba_mod (h' := s.heap.update a (Obj.mapBytearray (· ++ c))) F N (U (baObj (b ++ c))) (fun x o hx e => (Heap.SameBut.update ..).extBut x o hx e) (Heap.get?_update_self (Obj.mapBytearray (· ++ c)) ha rfl)
  exact hQ _ F2 N2
theorem baK_extend_list {nw : Obj → List (Addr × Obj)} {a l : Addr} {b : Array UInt8} {vs : List Value} {ns : List Int} {k : Nat} (hh : A.handled = none) (F : Fr h₀ L s.heap m) (N : News h₀ L s.heap news) (U : ∀ o', Upd a (baObj b) o' news (nw o')) (hl : (l, listOf vs.toArray k) ∈ news)
    (hi : IntsAre vs ns) (hr : ∀ n ∈ ns, 0 ≤ n ∧ n < 256) (hz : b.size + ns.length < 100000)
    (hQ : ∀ h' tk, Fr h₀ L h' m → News h₀ L h' (nw (baObj (b ++ byteArr ns))) → Q .none { s with heap := h', toks := tk }) :
    wpN (model prog w) A (call (.builtin "bytearray.extend") [.ref a, .ref l]) Q E s := by
  have ha := (N _ (upd_mem (U default))).1
  refine ba_extend_list hh ha ⟨_, (N _ hl).1, rfl, _, rfl⟩ hi hr hz fun h' tk hk ha' => ?_
  obtain ⟨F2, N2⟩ := ba_mod F N (U (baObj (b ++ byteArr ns))) hk ha'
  exact hQ _ _ F2 N2
end
end
theorem ba_plainAttrs : PlainAttrs "bytearray" :=
  ⟨⟨"bytearray.__getattribute__", by rw [typeLookup_type, builtinLookup_eq_fast]; kernel_rfl, by decide +kernel⟩, by rw [typeLookup_type, builtinLookup_eq_fast]; kernel_rfl⟩
theorem ba_ty_append : typeOf (.builtin "bytearray.append") = pure (.type "method_descriptor") := by kernel_rfl
theorem ba_ty_extend : typeOf (.builtin "bytearray.extend") = pure (.type "method_descriptor") := by kernel_rfl
section
variable {M : Model} {A : Around} {E : Value → Shared → Prop} {s : Shared} {h₀ : Heap} {L a : Addr} {news : List (Addr × Obj)} {b : Array UInt8} {pl : Sem Bool} {Q : Value × List Value → Shared → Prop}
theorem baK_get_append (N : News h₀ L s.heap news) (ha : (a, baObj b) ∈ news) (h : Q (.builtin "bytearray.append", [.ref a]) s) : wpAny M A (getMethod (.ref a) "append" pl) Q E s :=
  getMethod_builtin (ba_typeIs (N _ ha).1) ba_plainAttrs ba_slot_append ba_ty_append (fun _ e => by cases e; exact ⟨_, (N _ ha).1, rfl⟩) h
theorem baK_get_extend (N : News h₀ L s.heap news) (ha : (a, baObj b) ∈ news) (h : Q (.builtin "bytearray.extend", [.ref a]) s) : wpAny M A (getMethod (.ref a) "extend" pl) Q E s :=
  getMethod_builtin (ba_typeIs (N _ ha).1) ba_plainAttrs ba_slot_extend ba_ty_extend (fun _ e => by cases e; exact ⟨_, (N _ ha).1, rfl⟩) h
/-- the methods of a bytearray that the program calls -/
inductive BaM : PySem.Str → String → Prop
  | app : BaM "append" "bytearray.append"
  | ext : BaM "extend" "bytearray.extend"
theorem baK_get {name : PySem.Str} {id : String} (N : News h₀ L s.heap news) (ha : (a, baObj b) ∈ news) (hm : BaM name id) (h : Q (.builtin id, [.ref a]) s) : wpAny M A (getMethod (.ref a) name pl) Q E s := by
  cases hm
  · exact baK_get_append N ha h
  · exact baK_get_extend N ha h
end
local macro_rules | `(tactic| walk_at "getMethod ref") => ln ``baK_get "Bxc_"
local macro_rules | `(tactic| walk_at "call type:bytes") => ln ``call_bytes_K "Bxa_" ".."

-- the part btw
/-- the end of `a <= x < b` -/
inductive Btw (a b : Int) (Q : Bool → Shared → Prop) : Value → Shared → Prop
  | mk {n : Int} {t : Tok} {s : Shared} (h : ∀ tk, Q (decide (a ≤ n ∧ n < b)) { s with toks := tk }) : Btw a b Q (.int n t) s
section
variable {prog : Program} {w : World} {A : Around} {E : Value → Shared → Prop} {s : Shared} {env : Env}
theorem isTrue_btw {x : PySem.Expr} {a b : Int} {k1 k2 : Nat} {p1 p2 pos : Pos} {Q : Bool → Shared → Prop}
    (h : ∀ tk, wpAny (model prog w) A (eval x env) (Btw a b Q) E { s with toks := tk }) :
    wpAny (model prog w) A (isTrue (.Compare (.Constant (.int a) k1 p1) [.LtE, .Lt] [x, .Constant (.int b) k2 p2] pos) env (eval (.Compare (.Constant (.int a) k1 p1) [.LtE, .Lt] [x, .Constant (.int b) k2 p2] pos) env)) Q E s := by
  w_on
  walk1
  walk1
  walk1
  refine wpAny_mono (h _) (fun v s' hv => ?_) fun _ _ x => x
  cases hv with
  | @mk n t s2 hv =>
    walk1
    walk1
    by_cases h1 : a ≤ n
    · rw [if_pos (decide_eq_true h1)]
      walk1
      walk1
      walk1
      walk1
      have e : decide (n < b) = decide (a ≤ n ∧ n < b) := by simp only [h1, true_and]
      rw [e]; exact hv _
    · rw [if_neg (by simpa using h1)]
      have e : decide (a ≤ n ∧ n < b) = false := decide_eq_false fun q => h1 q.1
      rw [← e]; exact hv _
end
local macro_rules | `(tactic| walk_at "Btw") => `(tactic| (refine Btw.mk ?_; intro _))
local macro_rules | `(tactic| walk_at "isTrue Compare") => `(tactic| (with_reducible refine isTrue_btw ?_; intro _))

-- the part utf8
local macro_rules | `(tactic| walk_at "N spl") => `(tactic| repeat (first | ((fail_if_success (with_reducible show wpAny _ _ (spliced _) _ _ _)); first | (k_unfold; (try dsimp only)) | walk1 | (dsimp only; walk1))))
theorem bitAnd_nat (a b : Nat) : Builtin.bitAnd (a : Int) (b : Int) = ((a &&& b : Nat) : Int) := by
  show Spec.bitAnd a b = _
  unfold Spec.bitAnd
  rw [decide_eq_true (Int.natCast_nonneg a), decide_eq_true (Int.natCast_nonneg b)]
  rfl
theorem bitOr_nat (a b : Nat) : Builtin.bitOr (a : Int) (b : Int) = ((a ||| b : Nat) : Int) := by
  show Spec.bitOr a b = _
  have n : ∀ k : Nat, Spec.bitNot (Spec.bitNot (k : Int)) = k := fun k => by unfold Spec.bitNot; omega
  unfold Spec.bitOr Spec.bitAnd
  rw [decide_eq_false (show ¬ 0 ≤ Spec.bitNot (a : Int) by unfold Spec.bitNot; omega), decide_eq_false (show ¬ 0 ≤ Spec.bitNot (b : Int) by unfold Spec.bitNot; omega)]
  dsimp only
  rw [n, n, n]
  rfl
theorem shr6 (c : Nat) : (c : Int).fdiv (2 ^ Int.toNat 6) = ((c / 64 : Nat) : Int) := by
  rw [Int.fdiv_eq_ediv_of_nonneg _ (by decide)]; show (c : Int) / 64 = _; omega
theorem shr12 (c : Nat) : (c : Int).fdiv (2 ^ Int.toNat 12) = ((c / 4096 : Nat) : Int) := by
  rw [Int.fdiv_eq_ediv_of_nonneg _ (by decide)]; show (c : Int) / 4096 = _; omega
theorem shr18 (c : Nat) : (c : Int).fdiv (2 ^ Int.toNat 18) = ((c / 262144 : Nat) : Int) := by
  rw [Int.fdiv_eq_ediv_of_nonneg _ (by decide)]; show (c : Int) / 262144 = _; omega
theorem and63 (c : Nat) : Builtin.bitAnd (c : Int) 63 = ((c &&& 63 : Nat) : Int) := bitAnd_nat c 63
theorem or192 (c : Nat) : Builtin.bitOr 192 (c : Int) = ((192 ||| c : Nat) : Int) := bitOr_nat 192 c
theorem or128 (c : Nat) : Builtin.bitOr 128 (c : Int) = ((128 ||| c : Nat) : Int) := bitOr_nat 128 c
theorem or224 (c : Nat) : Builtin.bitOr 224 (c : Int) = ((224 ||| c : Nat) : Int) := bitOr_nat 224 c
theorem or240 (c : Nat) : Builtin.bitOr 240 (c : Int) = ((240 ||| c : Nat) : Int) := bitOr_nat 240 c
theorem or_oct {a b : Nat} (ha : a < 256) (hb : b < 256) : 0 ≤ ((a ||| b : Nat) : Int) ∧ ((a ||| b : Nat) : Int) < 256 := by
  have : a ||| b < 2 ^ 8 := Nat.or_lt_two_pow ha hb
  omega
theorem and63_lt (c : Nat) : c &&& 63 < 256 := Nat.lt_of_le_of_lt Nat.and_le_right (by decide)
/-- the octets of a sign -/
noncomputable def u8 (c : Nat) : Array UInt8 :=
  if c < 128 then byteArr [(c : Int)] else if c < 2048 then byteArr [((192 ||| c / 64 : Nat) : Int), ((128 ||| (c &&& 63) : Nat) : Int)]
  else if c < 65536 then byteArr [((224 ||| c / 4096 : Nat) : Int), ((128 ||| (c / 64 &&& 63) : Nat) : Int), ((128 ||| (c &&& 63) : Nat) : Int)]
  else byteArr [((240 ||| c / 262144 : Nat) : Int), ((128 ||| (c / 4096 &&& 63) : Nat) : Int), ((128 ||| (c / 64 &&& 63) : Nat) : Int), ((128 ||| (c &&& 63) : Nat) : Int)]
theorem u8_2 {c : Nat} (q1 : ¬ c < 128) (q2 : c < 2048) : u8 c = byteArr [Builtin.bitOr 192 ((c : Int).fdiv (2 ^ Int.toNat 6)), Builtin.bitOr 128 (Builtin.bitAnd (c : Int) 63)] := by
  simp only [shr6, shr12, shr18, and63, or128, or192, or224, or240]; unfold u8; rw [if_neg q1, if_pos q2]
theorem rng_2 {c : Nat} (q1 : ¬ c < 128) (q2 : c < 2048) : ∀ n ∈ ([Builtin.bitOr 192 ((c : Int).fdiv (2 ^ Int.toNat 6)), Builtin.bitOr 128 (Builtin.bitAnd (c : Int) 63)] : List Int), 0 ≤ n ∧ n < 256 := by
  simp only [shr6, shr12, shr18, and63, or128, or192, or224, or240]; exact (List.forall_mem_cons.mpr ⟨or_oct (by decide) (by omega), (List.forall_mem_cons.mpr ⟨or_oct (by decide) (and63_lt _), (fun _ h => nomatch h)⟩)⟩)
theorem u8_3 {c : Nat} (q1 : ¬ c < 128) (q2 : ¬ c < 2048) (q3 : c < 65536) : u8 c = byteArr [Builtin.bitOr 224 ((c : Int).fdiv (2 ^ Int.toNat 12)), Builtin.bitOr 128 (Builtin.bitAnd ((c : Int).fdiv (2 ^ Int.toNat 6)) 63), Builtin.bitOr 128 (Builtin.bitAnd (c : Int) 63)] := by
  simp only [shr6, shr12, shr18, and63, or128, or192, or224, or240]; unfold u8; rw [if_neg q1, if_neg q2, if_pos q3]
theorem rng_3 {c : Nat} (q1 : ¬ c < 128) (q2 : ¬ c < 2048) (q3 : c < 65536) : ∀ n ∈ ([Builtin.bitOr 224 ((c : Int).fdiv (2 ^ Int.toNat 12)), Builtin.bitOr 128 (Builtin.bitAnd ((c : Int).fdiv (2 ^ Int.toNat 6)) 63), Builtin.bitOr 128 (Builtin.bitAnd (c : Int) 63)] : List Int), 0 ≤ n ∧ n < 256 := by
  simp only [shr6, shr12, shr18, and63, or128, or192, or224, or240]; exact (List.forall_mem_cons.mpr ⟨or_oct (by decide) (by omega), (List.forall_mem_cons.mpr ⟨or_oct (by decide) (and63_lt _), (List.forall_mem_cons.mpr ⟨or_oct (by decide) (and63_lt _), (fun _ h => nomatch h)⟩)⟩)⟩)
theorem u8_4 {c : Nat} (q1 : ¬ c < 128) (q2 : ¬ c < 2048) (q3 : ¬ c < 65536) : u8 c = byteArr [Builtin.bitOr 240 ((c : Int).fdiv (2 ^ Int.toNat 18)), Builtin.bitOr 128 (Builtin.bitAnd ((c : Int).fdiv (2 ^ Int.toNat 12)) 63), Builtin.bitOr 128 (Builtin.bitAnd ((c : Int).fdiv (2 ^ Int.toNat 6)) 63), Builtin.bitOr 128 (Builtin.bitAnd (c : Int) 63)] := by
  simp only [shr6, shr12, shr18, and63, or128, or192, or224, or240]; unfold u8; rw [if_neg q1, if_neg q2, if_neg q3]
theorem rng_4 {c : Nat} (q1 : ¬ c < 128) (q2 : ¬ c < 2048) (q3 : ¬ c < 65536) (q4 : c < 1114112) : ∀ n ∈ ([Builtin.bitOr 240 ((c : Int).fdiv (2 ^ Int.toNat 18)), Builtin.bitOr 128 (Builtin.bitAnd ((c : Int).fdiv (2 ^ Int.toNat 12)) 63), Builtin.bitOr 128 (Builtin.bitAnd ((c : Int).fdiv (2 ^ Int.toNat 6)) 63), Builtin.bitOr 128 (Builtin.bitAnd (c : Int) 63)] : List Int), 0 ≤ n ∧ n < 256 := by
  simp only [shr6, shr12, shr18, and63, or128, or192, or224, or240]; exact (List.forall_mem_cons.mpr ⟨or_oct (by decide) (by omega), (List.forall_mem_cons.mpr ⟨or_oct (by decide) (and63_lt _), (List.forall_mem_cons.mpr ⟨or_oct (by decide) (and63_lt _), (List.forall_mem_cons.mpr ⟨or_oct (by decide) (and63_lt _), (fun _ h => nomatch h)⟩)⟩)⟩)⟩)
theorem u8_size (c : Nat) : (u8 c).size < 100000 := by
  unfold u8; (repeat' split) <;> (rw [byteArr_size]; simp)
section
variable {w : World} {mean : ExcName → Option Value} {mg mb : PySem.Str → Option Value} {loose : List PySem.Str}
   {dp un : Nat} {gd : Option (List Code)} {cn : PySem.Str} {cs : Scope} {a : Addr} {ccd : Value} {cl : List (PySem.Str × Addr)} {outer : List Env} {A₀ : Around} {base h₀ : Heap} {L : Addr} {m : PySem.Str → Option Value} {news : List (Addr × Obj)} {s : Shared}
    {Q E : Value → Shared → Prop} {c : Nat} {t : Tok}
theorem utf8_c
    (B : Below A₀ base outer h₀) (F : Fr h₀ L s.heap m) (X : (One.hd.heap_1_39 w.params).In h₀) (N : News h₀ L s.heap news) (TT : Top One.hd.view_1_40 loose mean mg mb h₀) (hk : cs.kind = .function)
    (hr : dp + 6 < recursionLimit) (hu : un + 40 < cLine) (hc : c < 1114112) (hs : ¬ (55296 ≤ c ∧ c < 57344))
    (ret : ∀ h' tk t', Fr h₀ L h' m → News h₀ L h' news → Q (.bytes (u8 c) t') { s with heap := h', toks := tk }) :
    wpN (model prog0 w) (ktrTop dp un gd cn cs L a ccd cl outer) (call (.ref 72) [.str (tx [c]) t]) Q E s := by
  w_on
  refine wpN_call ?_
  k_dflt ktr_enter
  refine N_cons (N_AssignName (N_CallName ?_))
  k_steps
  refine N_callWith_T0 (baK_call (by k_asm) (by ktr_rel) ?_)
  intro a1 h1 hlt F1 N1
  k_steps
  rename Fr _ _ _ _ => F1
  rename News _ _ _ _ => N1
  obtain ⟨m0, hm0, F1⟩ : ∃ m0, m0 = _ ∧ Fr _ _ _ m0 := ⟨_, rfl, F1⟩
  refine N_cons (N_ForOne (c := c) (t₀ := t) (fun m' => ∃ vs vp, m' = fun y => if y = PySem.Str.ofString "sign" then vs else if y = PySem.Str.ofString "point" then vp else m0 y) ((a1, baObj (u8 c)) :: news) rfl rfl rfl F1 N1 ?_ ?_ ?_ ?_ PassesOwn.leaving)
  · subst hm0
    k_steps
  · obtain ⟨mm, hmm⟩ : ∃ mm, mm = m0 := ⟨_, rfl⟩
    subst hm0
    clear N1
    intro t' h2 tk own hown F2 N2
    clear F1
    have hne : ∀ p ∈ news ++ own, p.1 ≠ a1 := fun p hp => (List.mem_append.mp hp).elim (fun h => Nat.ne_of_lt (hlt p h)) (fun h => hown p h _ (.head _))
    refine N_consA ?_
    k_steps
    dsimp only
    rename Fr _ _ _ _ => F3
    obtain ⟨m1, hm1, F3'⟩ : ∃ m1, m1 = _ ∧ Fr _ _ _ m1 := ⟨_, rfl, F3⟩
    have hP : ∃ vs vp, m1 = fun y => if y = PySem.Str.ofString "sign" then vs else if y = PySem.Str.ofString "point" then vp else mm y := by
      rw [hm1, hmm]; exact ⟨_, _, map2' rfl rfl (fun y e1 e2 => by simp only [if_neg e1, if_neg e2])⟩
    rw [hmm] at hP
    subst hm1
    clear F3'
    have hs' : ¬ (55296 ≤ (c : Int) ∧ (c : Int) < 57344) := by omega
    refine N_consA ?_
    k_steps
    dsimp only
    clear hs'
    refine N_one (N_If ?_)
    k_steps
    · rename _ < _ => q0
      have q1 : c < 128 := by omega
      refine N_one (N_Expr (N_method rfl rfl rfl ?_))
      k_steps
      refine N_callWith_B ?_
      refine N_items_cons (wpN_any ?_)
      k_steps
      refine N_items_nil ?_
      refine baK_append (by k_asm) (by ktr_rel) (fun _ => Upd.head hne) (by omega) (by omega) (by decide) fun h3 F3 N3 => ?_
      exact ⟨rfl, _, _, _, rfl, F3, (by rw [show u8 c = byteArr [(c : Int)] by unfold u8; rw [if_pos q1]]; exact N3), hP⟩
    rename ¬ _ < _ => q0
    have q1 : ¬ c < 128 := by omega
    clear q0
    refine N_one (N_If ?_)
    k_steps
    · rename _ < _ => q0
      have q2 : c < 2048 := by omega
      refine N_one (N_Expr (N_method rfl rfl rfl ?_))
      k_steps
      refine N_callWith_B ?_
      refine N_items_cons (wpN_any ?_)
      walk1
      iterate 3 (walk_at "N spl"; (try dsimp only); walk1)
      k_steps
      rename News _ _ _ _ => N3
      rename ∀ p ∈ (a1, baObj #[]) :: news ++ own, p.1 < _ => hlt3
      refine N_items_nil ?_
      refine baK_extend_list rfl (by k_asm) N3 (fun _ => Upd.tail (Nat.ne_of_gt (hlt3 _ (.head _))) (Upd.head hne)) (.head _) (.cons _ _ (.cons _ _ .nil)) (rng_2 q1 q2) (by show 0 + 2 < 100000; decide) fun h4 tk4 F4 N4 => ?_
      exact ⟨rfl, _, _, _, rfl, F4, (by rw [u8_2 q1 q2]; exact newsT1 N4), hP⟩
    rename ¬ _ < _ => q0
    have q2 : ¬ c < 2048 := by omega
    clear q0
    refine N_one (N_If ?_)
    k_steps
    · rename _ < _ => q0
      have q3 : c < 65536 := by omega
      refine N_one (N_Expr (N_method rfl rfl rfl ?_))
      k_steps
      refine N_callWith_B ?_
      refine N_items_cons (wpN_any ?_)
      walk1
      iterate 3 (walk_at "N spl"; (try dsimp only); walk1)
      k_steps
      rename News _ _ _ _ => N3
      rename ∀ p ∈ (a1, baObj #[]) :: news ++ own, p.1 < _ => hlt3
      refine N_items_nil ?_
      refine baK_extend_list rfl (by k_asm) N3 (fun _ => Upd.tail (Nat.ne_of_gt (hlt3 _ (.head _))) (Upd.head hne)) (.head _) (.cons _ _ (.cons _ _ (.cons _ _ .nil))) (rng_3 q1 q2 q3) (by show 0 + 3 < 100000; decide) fun h4 tk4 F4 N4 => ?_
      exact ⟨rfl, _, _, _, rfl, F4, (by rw [u8_3 q1 q2 q3]; exact newsT1 N4), hP⟩
    · rename ¬ _ < _ => q0
      have q3 : ¬ c < 65536 := by omega
      refine N_one (N_Expr (N_method rfl rfl rfl ?_))
      k_steps
      refine N_callWith_B ?_
      refine N_items_cons (wpN_any ?_)
      walk1
      iterate 5 (walk_at "N spl"; (try dsimp only); walk1)
      k_steps
      rename News _ _ _ _ => N3
      rename ∀ p ∈ (a1, baObj #[]) :: news ++ own, p.1 < _ => hlt3
      refine N_items_nil ?_
      refine baK_extend_list rfl (by k_asm) N3 (fun _ => Upd.tail (Nat.ne_of_gt (hlt3 _ (.head _))) (Upd.head hne)) (.head _) (.cons _ _ (.cons _ _ (.cons _ _ (.cons _ _ .nil)))) (rng_4 q1 q2 q3 hc) (by show 0 + 4 < 100000; decide) fun h4 tk4 F4 N4 => ?_
      exact ⟨rfl, _, _, _, rfl, F4, (by rw [u8_4 q1 q2 q3]; exact newsT1 N4), hP⟩
  · intro p hp
    rcases List.mem_cons.mp hp with rfl | hp
    · exact ⟨_, .head _, rfl⟩
    · exact ⟨p, .tail _ hp, rfl⟩
  · subst hm0
    clear N1
    rintro m' h'' tk'' ⟨vs, vp, rfl⟩ F3 N3
    clear F1
    have hz := u8_size c
    dsimp only
    refine N_consA ?_
    k_steps
    exact ret _ _ _ (by k_asm) (by ktr_rel)
end
local macro_rules | `(tactic| walk_at "N utf8") => ln ``utf8_c "BFXNTkrnoo_" "....."

-- the part wholeof
section
/-- a hexadecimal sign's worth -/
noncomputable def hv (c : Nat) : Option Nat := if 48 ≤ c ∧ c ≤ 57 then some (c - 48) else if 97 ≤ c ∧ c ≤ 102 then some (c - 87) else none
/-- the number that signs tell, underscores between -/
noncomputable def wof : List Nat → Int → Bool → Option Int
  | [], f, wd => if wd = true then some f else none
  | c :: r, f, wd => if c = 95 then (if wd = true then wof r f false else none) else match hv c with
    | some v => wof r (f * 16 + v) true
    | none => none
theorem hx_all : ∀ c : Fin 103, (hv c.val).all fun v => decide (Txt.lower (tx [c.val]) = tx [c.val]) && decide ((Builtin.Str.occurrences (PySem.Str.ofString "0123456789abcdefABCDEF") (tx [c.val]) 0 (PySem.Str.ofString "0123456789abcdefABCDEF").length 1).head? = some v) && !(tx [c.val] == PySem.Str.ofString "_") := by decide +kernel
theorem hv_lt {c v : Nat} (h : hv c = some v) : c < 103 ∧ v < 16 := by
  unfold hv at h
  split at h
  · cases h; omega
  · split at h
    · cases h; omega
    · cases h
theorem hx_is {c v : Nat} (h : hv c = some v) : Txt.lower (tx [c]) = tx [c] ∧ (Builtin.Str.occurrences (PySem.Str.ofString "0123456789abcdefABCDEF") (tx [c]) 0 (PySem.Str.ofString "0123456789abcdefABCDEF").length 1).head? = some v ∧ (tx [c] == PySem.Str.ofString "_") = false := by
  have q := hx_all ⟨c, (hv_lt h).1⟩
  simp only [h, Option.all_some, Bool.and_eq_true, decide_eq_true_eq, Bool.not_eq_true'] at q
  exact ⟨q.1.1, q.1.2, q.2⟩
theorem hx_occ {c v : Nat} (h : hv c = some v) : ∃ r, Builtin.Str.occurrences (PySem.Str.ofString "0123456789abcdefABCDEF") (tx [c]) 0 (PySem.Str.ofString "0123456789abcdefABCDEF").length 1 = v :: r := by
  have q := (hx_is h).2.1
  cases e : Builtin.Str.occurrences (PySem.Str.ofString "0123456789abcdefABCDEF") (tx [c]) 0 (PySem.Str.ofString "0123456789abcdefABCDEF").length 1 with
  | nil => rw [e] at q; cases q
  | cons a r => rw [e] at q; cases q; exact ⟨r, rfl⟩
theorem hx_in {c v : Nat} (h : hv c = some v) : (Builtin.Str.occurrences (PySem.Str.ofString "0123456789abcdefABCDEF") (tx [c]) 0 (PySem.Str.ofString "0123456789abcdefABCDEF").length 1).isEmpty = false := by
  obtain ⟨r, e⟩ := hx_occ h; rw [e]; rfl
section
variable {prog : Program} {w : World} {A : Around} {E : Value → Shared → Prop} {s : Shared} {t u : Tok} {c v : Nat} {Q : Value → Shared → Prop}
theorem lower_c (h : hv c = some v) (q : Q (.str (tx [c]) s.toks) { s with toks := s.toks + 1 }) : wpAny (model prog w) A (call (.builtin "str.lower") [.str (tx [c]) t]) Q E s :=
  SCL.lower (by rw [tx_len]; simp) fun _ => by rw [(hx_is h).1]; exact q
theorem index_c (h : hv c = some v) (q : Q (.int v s.toks) { s with toks := s.toks + 1 }) : wpAny (model prog w) A (call (.builtin "str.index") [.str (PySem.Str.ofString "0123456789abcdefABCDEF") t, .str (tx [c]) u]) Q E s := by
  obtain ⟨r, e⟩ := hx_occ h
  exact SC.index e q
end
local macro_rules | `(tactic| walk_at "call builtin:str.lower") => `(tactic| (k_dflt (refine lower_c (by assumption) ?_)))
local macro_rules | `(tactic| walk_at "call builtin:str.index") => `(tactic| (k_dflt (refine index_c (by assumption) ?_)))
section
variable {w : World} {mean : ExcName → Option Value} {mg mb : PySem.Str → Option Value} {loose : List PySem.Str}
   {dp un : Nat} {gd : Option (List Code)} {cn : PySem.Str} {cs : Scope} {a : Addr} {ccd : Value} {cl : List (PySem.Str × Addr)} {outer : List Env} {A₀ : Around} {base h₀ : Heap} {L : Addr} {m : PySem.Str → Option Value} {news : List (Addr × Obj)} {s : Shared}
    {Q E : Value → Shared → Prop} {ds : List Nat} {t1 t2 : Tok} {v : Int}
/-- what holds between the turns of whole_of's loop -/
inductive WofJ (news : List (Addr × Obj)) (m0 : PySem.Str → Option Value) (v : Int) (R : List Nat) (m₁ : PySem.Str → Option Value) (nx : List (Addr × Obj)) : Prop
  | mk (hn : nx = news) (f : Int) (wd : Bool) (tf : Tok) (vs : Option Value) (hm : m₁ = fun y => if y = PySem.Str.ofString "found" then some (.int f tf) else if y = PySem.Str.ofString "was_digit" then some (.bool wd) else if y = PySem.Str.ofString "sign" then vs else m0 y) (hw : wof R f wd = some v) : WofJ news m0 v R m₁ nx
theorem wholeof_c
    (B : Below A₀ base outer h₀) (F : Fr h₀ L s.heap m) (X : (One.hd.heap_1_39 w.params).In h₀) (N : News h₀ L s.heap news) (TT : Top One.hd.view_1_40 loose mean mg mb h₀) (hk : cs.kind = .function)
    (hr : dp + 6 < recursionLimit) (hu : un + 40 < cLine) (hT : ds.length ≤ 20) (hb : wof ds 0 false = some v)
    (ret : ∀ h' tk t', Fr h₀ L h' m → News h₀ L h' news → Q (.int v t') { s with heap := h', toks := tk }) :
    wpAny (model prog0 w) (ktrTop dp un gd cn cs L a ccd cl outer) (call (.ref 101) [.str (tx ds) t1, .int 16 t2]) Q E s := by
  w_on
  refine wpAny_call ?_
  k_dflt ktr_enter
  ktr_unf
  rename Fr _ _ _ _ => F1
  rename News _ _ _ _ => N1
  obtain ⟨m0, hm0, F1⟩ : ∃ m0, m0 = _ ∧ Fr _ _ _ m0 := ⟨_, rfl, F1⟩
  refine forOver F1 rfl rfl ?_
  rw [hm0] at F1
  walk1
  rw [← hm0] at F1
  refine forStr (WofJ news m0 v) rfl F1 (by ktr_rel) ⟨rfl, _, _, _, _, map3' (by rw [hm0]; rfl) (by rw [hm0]; rfl) rfl (fun _ _ _ _ => rfl), hb⟩ ?_ ?_
  · subst hm0
    rintro c r t m₁ nx h tk own - hoff ⟨rfl, f, wd, tf, vs, rfl, hw⟩ F₂ N₂
    clear F1 N1
    unfold wof at hw
    split at hw
    · rename_i hc
      split at hw
      · rename_i hwd
        subst hc hwd
        have hq : (tx [95] == PySem.Str.ofString "_") = true := by decide +kernel
        k_steps
        rename Fr _ _ _ _ => F3
        rename News _ _ _ _ => N3
        exact InvEndN.intro F3 N3 ⟨rfl, f, false, tf, _, map3' rfl rfl rfl (fun y e1 e2 e3 => by simp only [if_neg e1, if_neg e2, if_neg e3]), hw⟩ rfl (fun p hp => List.mem_append_left _ hp) (fun p hp => List.mem_append_right _ hp)
      · cases hw
    · split at hw
      · rename_i v' hv'
        have hq := (hx_is hv').2.2
        have hq2 := hx_in hv'
        k_steps
        rename Fr _ _ _ _ => F3
        rename News _ _ _ _ => N3
        exact InvEndN.intro F3 N3 ⟨rfl, _, true, _, _, map3' rfl rfl rfl (fun y e1 e2 e3 => by simp only [if_neg e1, if_neg e2, if_neg e3]), hw⟩ rfl (fun p hp => List.mem_append_left _ hp) (fun p hp => List.mem_append_right _ hp)
      · cases hw
  · subst hm0
    rintro m₁ nx h tk ⟨rfl, f, wd, tf, vs, rfl, hw⟩ F₂ N₂
    clear F1 N1
    simp only [wof] at hw
    split at hw
    · rename_i hwd
      cases hw
      subst hwd
      k_steps
      exact ret _ _ _ (by k_asm) (by ktr_rel)
    · cases hw
end
end
local macro_rules | `(tactic| walk_at "call ref") => lnAt 101 ``wholeof_c "BFXNTkrnaa_" "....."

-- the part codept
/-- a sign that a number in an escape may hold -/
noncomputable def hexish (c : Nat) : Bool := c == 95 || (hv c).isSome
theorem in_hex_no : (Builtin.Str.occurrences (PySem.Str.ofString "0123456789abcdefABCDEF") (tx [95]) 0 (PySem.Str.ofString "0123456789abcdefABCDEF").length 1).isEmpty = true ∧ (Builtin.Str.occurrences (PySem.Str.ofString "0123456789abcdefABCDEF") (tx [125]) 0 (PySem.Str.ofString "0123456789abcdefABCDEF").length 1).isEmpty = true ∧ (tx [95] == PySem.Str.ofString "_") = true ∧ (tx [125] == PySem.Str.ofString "_") = false := by decide +kernel
theorem RaisedB.mono {base : Heap} {l : List Env} {e d : Addr} {kept kept' : List (Addr × Obj)} {h : Heap} (hs : ∀ q ∈ kept, q ∈ kept') (R : RaisedB base l e d kept' h) : RaisedB base l e d kept h := by
  obtain ⟨B, h1, h2, h3⟩ := R
  exact ⟨B, h1, fun q hq => h2 q (hs q hq), h3⟩
theorem BadE.mono {P : Params} {base h₀ : Heap} {l : List Env} {L : Addr} {m : PySem.Str → Option Value} {why : PySem.Str} {row col : Int} {kept kept' : List (Addr × Obj)} {E : Value → Shared → Prop} {s : Shared}
    (hs : ∀ q ∈ kept, q ∈ kept') (b : BadE P base l h₀ L m why row col kept E s) : BadE P base l h₀ L m why row col kept' E s := by
  intro e d k1 k2 k3 t1 t2 t3 h' tk g R F sm
  refine b e d k1 k2 k3 t1 t2 t3 h' tk g (R.mono fun q hq => ?_) F sm
  rcases List.mem_cons.mp hq with rfl | hq
  · exact .head _
  · exact .tail _ (hs q hq)
theorem focus2 {h₀ h : Heap} {L x d : Addr} {ox o : Obj} {news : List (Addr × Obj)} {nw : Obj → List (Addr × Obj)} (N : News h₀ L h news) (hx : (x, ox) ∈ news) (U : ∀ o', Upd d o o' news (nw o')) :
    ∃ rest : List (Addr × Obj), News h₀ L h ((x, ox) :: (d, o) :: rest) ∧ (∀ p ∈ rest, p.1 ≠ d) ∧ (∀ h' o', News h₀ L h' ((x, ox) :: (d, o') :: rest) → News h₀ L h' (nw o')) ∧ ∀ p ∈ news, p.1 ≠ d → p ∈ rest := by
  have hd := upd_mem (U default)
  obtain ⟨rest, r1, r2⟩ := upd_rest (U default)
  refine ⟨rest, fun p hp => ?_, fun p hp => (r1 p hp).2, fun h' o' N' p hp => ?_, r2⟩
  · rcases List.mem_cons.mp hp with rfl | hp
    · exact N _ hx
    · rcases List.mem_cons.mp hp with rfl | hp
      · exact N _ hd
      · exact N p (r1 p hp).1
  · rcases upd_sub (U _) p hp with rfl | ⟨hm, hne⟩
    · exact N' _ (.tail _ (.head _))
    · exact N' p (.tail _ (.tail _ (r2 p hm hne)))
theorem told1 {i X : Int} {t : Nat} (h : i + ((t + 1 : Nat) : Int) = X) : i + 1 + (t : Int) = X := by omega
theorem told2 {i X : Int} {t : Nat} (h : i + ((t + 1 + 1 : Nat) : Int) = X) : i + 1 + 1 + (t : Int) = X := by omega
theorem told4 {i X : Int} {t n : Nat} (h : i + ((n + (t + 1) + 1 + 1 + 1 : Nat) : Int) = X) : i + 4 + (n : Int) + (t : Int) = X := by omega
theorem add3 {i n : Int} : i + 2 + n + 1 = i + 3 + n := by omega
theorem br_ne : (tx [125] != PySem.Str.ofString "") = true ∧ (tx [125] != PySem.Str.ofString "}") = false ∧ (tx [123] != PySem.Str.ofString "{") = false := by decide +kernel
section
variable {w : World} {mean : ExcName → Option Value} {mg mb : PySem.Str → Option Value} {loose : List PySem.Str}
   {dp un : Nat} {gd : Option (List Code)} {cn : PySem.Str} {cs : Scope} {a : Addr} {ccd : Value} {cl : List (PySem.Str × Addr)} {outer : List Env} {A₀ : Around} {base h₀ : Heap} {L : Addr} {m : PySem.Str → Option Value} {news kept : List (Addr × Obj)} {s : Shared}
    {Q E : Value → Shared → Prop} {x d fl : Addr} {T : PySem.Str} {i row col : Int} {k1 t1 k2 t2 k3 t3 k4 t4 k5: Tok} {R ds : List Nat} {c : Nat} {v : Int}
/-- what holds between the turns of the loop over an escape's digits -/
inductive CodeJ (P : Params) (T : PySem.Str) (x d fl : Addr) (row : Int) (k1 t1 k2 k3 k4 k5 : Tok) (news : List (Addr × Obj)) (m0 : PySem.Str → Option Value) (R : List Nat) (i col : Int) (ds : List Nat) (n : Nat) (m₁ : PySem.Str → Option Value) (news₁ : List (Addr × Obj)) : Prop
  | mk (i' col' : Int) (ds' : List Nat) (t2' t3' t4' : Tok) (hm : m₁ = m0) (hn : news₁ = (x, instObj 210 d) :: (d, dictOf (lexD P T i' row col' fl k1 t1 k2 t2' k3 t3' k4 t4' k5) 5) :: news) (hA : At T i' (ds' ++ 125 :: R)) (hd : ds'.all hexish = true) (hl : n = ds'.length)
      (hi : i' + (ds'.length : Int) = i + 1 + 1 + (ds.length : Int)) (hc : col' + (ds'.length : Int) = col + 2 + (ds.length : Int)) : CodeJ P T x d fl row k1 t1 k2 k3 k4 k5 news m0 R i col ds n m₁ news₁
theorem codept_w
    (B : Below A₀ base outer h₀) (F : Fr h₀ L s.heap m) (X : (One.hd.heap_1_39 w.params).In h₀) (N : News h₀ L s.heap ((x, instObj 210 d) :: (d, dictOf (lexD w.params T i row col fl k1 t1 k2 t2 k3 t3 k4 t4 k5) 5) :: news)) (TT : Top One.hd.view_1_40 loose mean mg mb h₀) (hk : cs.kind = .function)
    (hxd : x ≠ d) (hnw : ∀ p ∈ news, p.1 ≠ d)
    (hr : dp + 20 < recursionLimit) (hu : un + 140 < cLine) (hT : T.length ≤ 100000) (hA : At T i (117 :: 123 :: (ds ++ 125 :: R))) (hds : ds.all hexish = true) (hl : ds.length ≤ 20) (hb : wof ds 0 false = some v) (hv0 : 0 ≤ v)
    (hE : (v ≥ 1114112 ∨ (55296 ≤ v ∧ v < 57344)) → BadE w.params base (envX cn cs L a ccd cl :: outer) h₀ L m (PySem.Str.ofString "malformed UTF-8 encoding") row (col + 2 + (ds.length : Int)) news E s)
    (ret : ¬ (v ≥ 1114112 ∨ (55296 ≤ v ∧ v < 57344)) → ∀ h' tk t2 t3 t4 t', At T (i + 3 + (ds.length : Int)) R → Fr h₀ L h' m → News h₀ L h' ((x, instObj 210 d) :: (d, dictOf (lexD w.params T (i + 3 + (ds.length : Int)) row (col + 3 + (ds.length : Int)) fl k1 t1 k2 t2 k3 t3 k4 t4 k5) 5) :: news) → Q (.bytes (u8 v.toNat) t') { s with heap := h', toks := tk }) :
    wpN (model prog0 w) (ktrTop dp un gd cn cs L a ccd cl outer) (call (.ref 179) [.ref x]) Q E s := by
  w_on
  k_dflt (walk_at "enter")
  rename Lets _ _ _ _ _ => hEL
  rename Ends _ _ _ _ _ _ => hQL
  rename PassesOwn _ _ _ _ => hPE
  refine N_first 4 ?_
  dsimp only [List.take, List.drop]
  k_steps
  dsimp only
  rename At _ _ _ => A1
  rename Fr _ _ _ _ => F1
  rename News _ _ _ _ => N1
  obtain ⟨m0, hm0, F1⟩ : ∃ m0, m0 = _ ∧ Fr _ _ _ m0 := ⟨_, rfl, F1⟩
  refine N_cons (N_While4 (CodeJ w.params T x d fl row k1 t1 k2 k3 k4 k5 news m0 R i col ds) (CodeJ w.params T x d fl row k1 t1 k2 k3 k4 k5 news m0 R i col ds 0) F1 (by ktr_rel) ⟨_, _, ds, _, _, _, rfl, rfl, A1, hds, rfl, by omega, by simp only [nextCol_other (show ¬ (117 = 10 ∨ 117 = 13) by decide), nextCol_other (show ¬ (123 = 10 ∨ 123 = 13) by decide)]; omega⟩ ?_ ?_ hPE)
  · subst hm0
    rintro P X n hnext hexit m₁ news₁ h₁ tk₁ F₁ N₁ ⟨i', col', ds', t2', t3', t4', rfl, rfl, hA', hds', rfl, hi', hc'⟩
    clear F1 N1 A1
    have hlen := hA'.len
    cases ds' with
    | nil =>
      rw [List.nil_append] at hA'
      obtain ⟨-, g1, -, g2⟩ := in_hex_no
      obtain ⟨g3, -, -⟩ := br_ne
      k_steps
      all_goals first
        | exact (Bool.noConfusion (g1.symm.trans (show _ = false by assumption)))
        | (rename Fr _ _ _ _ => F2; rename News _ _ _ _ => N2; exact hexit _ _ _ _ F2 N2 ⟨_, _, [], _, _, _, rfl, rfl, hA', hds', rfl, hi', hc'⟩)
    | cons c r =>
      rw [List.cons_append] at hA'
      simp only [List.all_cons, Bool.and_eq_true] at hds'
      obtain ⟨hc1, hr1⟩ := hds'
      have g3 : (tx [c] != PySem.Str.ofString "") = true := by rw [bne, show PySem.Str.ofString "" = tx [] by decide +kernel, tx_beq, decide_eq_false (by simp)]; rfl
      have hno : ¬ (c = 10 ∨ c = 13) := by rintro (rfl | rfl) <;> exact absurd hc1 (by decide)
      simp only [List.length_cons] at hi' hc'
      unfold hexish at hc1
      rw [Bool.or_eq_true, beq_iff_eq] at hc1
      rcases hc1 with rfl | hc1
      · obtain ⟨g1, -, g2, -⟩ := in_hex_no
        k_steps
        all_goals first
          | exact (Bool.noConfusion (g1.symm.trans (show _ = false by assumption)))
          | (refine wpN_any ?_; k_steps; rename At T (i' + 1) _ => A2; rename Fr _ _ _ _ => F2; rename News _ _ _ _ => N2; rw [nextRow_other hno, nextCol_other hno] at N2; exact hnext _ _ _ _ (r.length) F2 (N2) (Nat.lt_succ_self _) ⟨i' + 1, col' + 1, r, _, _, _, rfl, rfl, A2, hr1, rfl, told1 hi', told1 hc'⟩)
      · obtain ⟨v', hv'⟩ := Option.isSome_iff_exists.mp hc1
        have g1 := hx_in hv'
        k_steps
        all_goals first
          | (refine wpN_any ?_; k_steps; rename At T (i' + 1) _ => A2; rename Fr _ _ _ _ => F2; rename News _ _ _ _ => N2; rw [nextRow_other hno, nextCol_other hno] at N2; exact hnext _ _ _ _ (r.length) F2 (N2) (Nat.lt_succ_self _) ⟨i' + 1, col' + 1, r, _, _, _, rfl, rfl, A2, hr1, rfl, told1 hi', told1 hc'⟩)
  · subst hm0
    rintro h' tk m₂ nx F₂ N₂ ⟨i', col', ds', t2', t3', t4', rfl, rfl, hA', hds', hl0, hi', hc'⟩
    clear F1 N1 A1
    cases ds' with
    | cons => cases hl0
    | nil =>
      rw [List.nil_append] at hA'
      have hlen := hA'.len
      obtain ⟨-, g4, -⟩ := br_ne
      have hsl : Txt.slice T (some (i + 1 + 1)) (some i') = tx ds := (hA.next.next).part ds (by simp only [List.length_nil] at hi'; omega)
      simp only [List.length_nil, Int.ofNat_zero, Int.add_zero] at hi' hc' hlen
      subst hc'
      obtain rfl : i' = i + 2 + (ds.length : Int) := by omega
      clear hi' hds' hl0
      obtain ⟨c, rfl⟩ := Int.eq_ofNat_of_zero_le hv0
      dsimp only
      refine N_first 2 ?_
      dsimp only [List.take, List.drop]
      k_steps
      rw [hsl]
      k_steps
      dsimp only
      refine N_consA ?_
      k_steps
      · rename _ ≥ _ => q
        have bE := hE (.inl q)
        k_steps
      · rename _ ≤ _ ∧ _ < _ => q
        have bE := hE (.inr q)
        k_steps
      rename ¬ (_ ≤ _ ∧ _ < _) => q
      have ret := ret (by omega)
      clear hE
      dsimp only
      refine N_consA ?_
      k_steps
      dsimp only
      refine N_one (N_Return (N_CallName ?_))
      k_steps
      refine N_callWith_K (K := One.hd.heap_1_39 w.params) rfl (N_items_cons (wpN_any ?_))
      k_steps
      refine N_items_nil ⟨(‹(One.hd.heap_1_39 w.params).In _›).keeps (‹Fr _ _ _ _›).keep, ?_⟩
      walk_at "N utf8"
      walk_at "ret"
      rename At _ _ _ => A9
      rename Fr h₀ _ _ _ => F9
      rename News h₀ _ _ _ => N9
      rw [nextRow_other (show ¬ (125 = 10 ∨ 125 = 13) by decide), nextCol_other (show ¬ (125 = 10 ∨ 125 = 13) by decide), add3, add3] at N9
      rw [add3] at A9
      exact ret _ _ _ _ _ _ A9 F9 N9
theorem codept_c {nw : Obj → List (Addr × Obj)}
    (B : Below A₀ base outer h₀) (F : Fr h₀ L s.heap m) (X : (One.hd.heap_1_39 w.params).In h₀) (N : News h₀ L s.heap news) (TT : Top One.hd.view_1_40 loose mean mg mb h₀) (hk : cs.kind = .function)
    (hx : (x, instObj 210 d) ∈ news) (U : ∀ o', Upd d (dictOf (lexD w.params T i row col fl k1 t1 k2 t2 k3 t3 k4 t4 k5) 5) o' news (nw o')) (hsub : ∀ q ∈ kept, q ∈ news ∧ q.1 ≠ d)
    (hA : At T i (117 :: 123 :: (ds ++ 125 :: R))) (hT : T.length ≤ 100000) (hds : ds.all hexish = true) (hl : ds.length ≤ 20) (hb : wof ds 0 false = some v) (hv0 : 0 ≤ v)
    (hr : dp + 20 < recursionLimit) (hu : un + 140 < cLine)
    (hE : (v ≥ 1114112 ∨ (55296 ≤ v ∧ v < 57344)) → BadE w.params base (envX cn cs L a ccd cl :: outer) h₀ L m (PySem.Str.ofString "malformed UTF-8 encoding") row (col + 2 + (ds.length : Int)) kept E s)
    (ret : ¬ (v ≥ 1114112 ∨ (55296 ≤ v ∧ v < 57344)) → ∀ h' tk t2 t3 t4 t', At T (i + 3 + (ds.length : Int)) R → Fr h₀ L h' m → News h₀ L h' (nw (dictOf (lexD w.params T (i + 3 + (ds.length : Int)) row (col + 3 + (ds.length : Int)) fl k1 t1 k2 t2 k3 t3 k4 t4 k5) 5)) → Q (.bytes (u8 v.toNat) t') { s with heap := h', toks := tk }) :
    wpN (model prog0 w) (ktrTop dp un gd cn cs L a ccd cl outer) (call (.ref 179) [.ref x]) Q E s := by
  have hxd := news_ne N hx (upd_mem (U default))
  obtain ⟨rest, N₁, hne, back, hin⟩ := focus2 N hx U
  exact codept_w B F X N₁ TT hk hxd hne hr hu hT hA hds hl hb hv0 (fun q => (hE q).mono fun p hp => hin p (hsub p hp).1 (hsub p hp).2) fun q h' tk t2 t3 t4 t' A' F' N' => ret q h' tk t2 t3 t4 t' A' F' (back _ _ N')
end
local macro_rules | `(tactic| walk_at "N codept") => ln ``codept_c "BFXNTkxU_aaaaaarn__"

-- the part escape
section
variable {w : World} {mean : ExcName → Option Value} {mg mb : PySem.Str → Option Value} {loose : List PySem.Str}
   {dp un : Nat} {gd : Option (List Code)} {cn : PySem.Str} {cs : Scope} {a : Addr} {ccd : Value} {cl : List (PySem.Str × Addr)} {outer : List Env} {A₀ : Around} {base h₀ : Heap} {L : Addr} {m : PySem.Str → Option Value} {news kept : List (Addr × Obj)} {s : Shared}
    {Q E : Value → Shared → Prop} {x d fl : Addr} {T : PySem.Str} {i row col : Int} {k1 t1 k2 t2 k3 t3 k4 t4 k5: Tok} {R ds : List Nat} {c : Nat} {v : Int}
theorem esc_plain34
    (B : Below A₀ base outer h₀) (F : Fr h₀ L s.heap m) (X : (One.hd.heap_1_39 w.params).In h₀) (N : News h₀ L s.heap ((x, instObj 210 d) :: (d, dictOf (lexD w.params T i row col fl k1 t1 k2 t2 k3 t3 k4 t4 k5) 5) :: news)) (TT : Top One.hd.view_1_40 loose mean mg mb h₀) (hk : cs.kind = .function)
    (hxd : x ≠ d) (hnw : ∀ p ∈ news, p.1 ≠ d)
    (hr : dp + 24 < recursionLimit) (hu : un + 180 < cLine) (hT : T.length ≤ 100000) (hA : At T i (92 :: 34 :: R))
    (ret : ∀ h' tk t2 t3 t4 t', At T (i + 1 + 1) R → Fr h₀ L h' m → News h₀ L h' ((x, instObj 210 d) :: (d, dictOf (lexD w.params T (i + 1 + 1) row (col + 1 + 1) fl k1 t1 k2 t2 k3 t3 k4 t4 k5) 5) :: news) → Q (.bytes #[34] t') { s with heap := h', toks := tk }) :
    wpAny (model prog0 w) (ktrTop dp un gd cn cs L a ccd cl outer) (call (.ref 186) [.ref x]) Q E s := by
  w_on
  refine wpAny_call ?_
  k_dflt ktr_enter
  k_steps
  rename At _ _ _ => A9
  rename Fr _ _ _ _ => F9
  rename News _ _ _ _ => N9
  rw [nextRow_other (show ¬ (34 = 10 ∨ 34 = 13) by decide), nextCol_other (show ¬ (34 = 10 ∨ 34 = 13) by decide), nextRow_other (show ¬ (92 = 10 ∨ 92 = 13) by decide), nextCol_other (show ¬ (92 = 10 ∨ 92 = 13) by decide)] at N9
  exact ret _ _ _ _ _ _ A9 F9 (by ktr_rel)
theorem esc_plain92
    (B : Below A₀ base outer h₀) (F : Fr h₀ L s.heap m) (X : (One.hd.heap_1_39 w.params).In h₀) (N : News h₀ L s.heap ((x, instObj 210 d) :: (d, dictOf (lexD w.params T i row col fl k1 t1 k2 t2 k3 t3 k4 t4 k5) 5) :: news)) (TT : Top One.hd.view_1_40 loose mean mg mb h₀) (hk : cs.kind = .function)
    (hxd : x ≠ d) (hnw : ∀ p ∈ news, p.1 ≠ d)
    (hr : dp + 24 < recursionLimit) (hu : un + 180 < cLine) (hT : T.length ≤ 100000) (hA : At T i (92 :: 92 :: R))
    (ret : ∀ h' tk t2 t3 t4 t', At T (i + 1 + 1) R → Fr h₀ L h' m → News h₀ L h' ((x, instObj 210 d) :: (d, dictOf (lexD w.params T (i + 1 + 1) row (col + 1 + 1) fl k1 t1 k2 t2 k3 t3 k4 t4 k5) 5) :: news) → Q (.bytes #[92] t') { s with heap := h', toks := tk }) :
    wpAny (model prog0 w) (ktrTop dp un gd cn cs L a ccd cl outer) (call (.ref 186) [.ref x]) Q E s := by
  w_on
  refine wpAny_call ?_
  k_dflt ktr_enter
  k_steps
  rename At _ _ _ => A9
  rename Fr _ _ _ _ => F9
  rename News _ _ _ _ => N9
  simp only [nextRow_other (show ¬ (92 = 10 ∨ 92 = 13) by decide), nextCol_other (show ¬ (92 = 10 ∨ 92 = 13) by decide)] at N9
  exact ret _ _ _ _ _ _ A9 F9 (by ktr_rel)
theorem esc_num
    (B : Below A₀ base outer h₀) (F : Fr h₀ L s.heap m) (X : (One.hd.heap_1_39 w.params).In h₀) (N : News h₀ L s.heap ((x, instObj 210 d) :: (d, dictOf (lexD w.params T i row col fl k1 t1 k2 t2 k3 t3 k4 t4 k5) 5) :: news)) (TT : Top One.hd.view_1_40 loose mean mg mb h₀) (hk : cs.kind = .function)
    (hxd : x ≠ d) (hnw : ∀ p ∈ news, p.1 ≠ d)
    (hr : dp + 24 < recursionLimit) (hu : un + 180 < cLine) (hT : T.length ≤ 100000) (hA : At T i (92 :: 117 :: 123 :: (ds ++ 125 :: R))) (hds : ds.all hexish = true) (hl : ds.length ≤ 20) (hb : wof ds 0 false = some v) (hv0 : 0 ≤ v)
    (hE : (v ≥ 1114112 ∨ (55296 ≤ v ∧ v < 57344)) → BadE w.params base (envX cn cs L a ccd cl :: outer) h₀ L m (PySem.Str.ofString "malformed UTF-8 encoding") row (col + 3 + (ds.length : Int)) news E s)
    (ret : ¬ (v ≥ 1114112 ∨ (55296 ≤ v ∧ v < 57344)) → ∀ h' tk t2 t3 t4 t', At T (i + 4 + (ds.length : Int)) R → Fr h₀ L h' m → News h₀ L h' ((x, instObj 210 d) :: (d, dictOf (lexD w.params T (i + 4 + (ds.length : Int)) row (col + 4 + (ds.length : Int)) fl k1 t1 k2 t2 k3 t3 k4 t4 k5) 5) :: news) → Q (.bytes (u8 v.toNat) t') { s with heap := h', toks := tk }) :
    wpN (model prog0 w) (ktrTop dp un gd cn cs L a ccd cl outer) (call (.ref 186) [.ref x]) Q E s := by
  w_on
  refine wpN_call ?_
  k_dflt ktr_enter
  refine N_first 3 ?_
  dsimp only [List.take, List.drop]
  k_steps
  dsimp only
  refine N_cons (N_If ?_)
  k_steps
  refine N_cons (N_Return (N_method rfl rfl rfl ?_))
  k_steps
  refine N_callWith_K0 (‹(One.hd.heap_1_39 w.params).In _›.keeps (‹Fr _ _ _ _›).keep) rfl ?_
  walk_at "N codept"
  · exact news
  · exact fun q hq => ⟨.tail _ (.tail _ hq), hnw q hq⟩
  · intro q
    rw [nextRow_other (show ¬ (92 = 10 ∨ 92 = 13) by decide), nextCol_other (show ¬ (92 = 10 ∨ 92 = 13) by decide), show col + 1 + 2 + (ds.length : Int) = col + 3 + (ds.length : Int) by omega]
    exact BadE.deeper (by assumption) (by assumption) (fun _ _ => rfl) (hE q)
  · intro q h' tk' t2' t3' t4' t' A' F' N'
    dsimp only at N' ⊢
    k_steps
    rename Fr _ _ _ _ => F9
    rename News _ _ _ _ => N9
    rw [nextRow_other (show ¬ (92 = 10 ∨ 92 = 13) by decide), nextCol_other (show ¬ (92 = 10 ∨ 92 = 13) by decide), show i + 1 + 3 + (ds.length : Int) = i + 4 + (ds.length : Int) by omega, show col + 1 + 3 + (ds.length : Int) = col + 4 + (ds.length : Int) by omega] at N9
    rw [show i + 1 + 3 + (ds.length : Int) = i + 4 + (ds.length : Int) by omega] at A'
    exact ret q _ _ _ _ _ _ A' F9 (by ktr_rel)
theorem esc34_c {nw : Obj → List (Addr × Obj)}
    (B : Below A₀ base outer h₀) (F : Fr h₀ L s.heap m) (X : (One.hd.heap_1_39 w.params).In h₀) (N : News h₀ L s.heap news) (TT : Top One.hd.view_1_40 loose mean mg mb h₀) (hk : cs.kind = .function)
    (hx : (x, instObj 210 d) ∈ news) (U : ∀ o', Upd d (dictOf (lexD w.params T i row col fl k1 t1 k2 t2 k3 t3 k4 t4 k5) 5) o' news (nw o'))
    (hA : At T i (92 :: 34 :: R)) (hT : T.length ≤ 100000)
    (hr : dp + 24 < recursionLimit) (hu : un + 180 < cLine)
    (ret : ∀ h' tk t2 t3 t4 t', At T (i + 1 + 1) R → Fr h₀ L h' m → News h₀ L h' (nw (dictOf (lexD w.params T (i + 1 + 1) row (col + 1 + 1) fl k1 t1 k2 t2 k3 t3 k4 t4 k5) 5)) → Q (.bytes #[34] t') { s with heap := h', toks := tk }) :
    wpAny (model prog0 w) (ktrTop dp un gd cn cs L a ccd cl outer) (call (.ref 186) [.ref x]) Q E s := by
  have hxd := news_ne N hx (upd_mem (U default))
  obtain ⟨rest, N₁, hne, back, hin⟩ := focus2 N hx U
  exact esc_plain34 B F X N₁ TT hk hxd hne hr hu hT hA fun h' tk t2 t3 t4 t' A' F' N' => ret h' tk t2 t3 t4 t' A' F' (back _ _ N')
theorem esc92_c {nw : Obj → List (Addr × Obj)}
    (B : Below A₀ base outer h₀) (F : Fr h₀ L s.heap m) (X : (One.hd.heap_1_39 w.params).In h₀) (N : News h₀ L s.heap news) (TT : Top One.hd.view_1_40 loose mean mg mb h₀) (hk : cs.kind = .function)
    (hx : (x, instObj 210 d) ∈ news) (U : ∀ o', Upd d (dictOf (lexD w.params T i row col fl k1 t1 k2 t2 k3 t3 k4 t4 k5) 5) o' news (nw o'))
    (hA : At T i (92 :: 92 :: R)) (hT : T.length ≤ 100000)
    (hr : dp + 24 < recursionLimit) (hu : un + 180 < cLine)
    (ret : ∀ h' tk t2 t3 t4 t', At T (i + 1 + 1) R → Fr h₀ L h' m → News h₀ L h' (nw (dictOf (lexD w.params T (i + 1 + 1) row (col + 1 + 1) fl k1 t1 k2 t2 k3 t3 k4 t4 k5) 5)) → Q (.bytes #[92] t') { s with heap := h', toks := tk }) :
    wpAny (model prog0 w) (ktrTop dp un gd cn cs L a ccd cl outer) (call (.ref 186) [.ref x]) Q E s := by
  have hxd := news_ne N hx (upd_mem (U default))
  obtain ⟨rest, N₁, hne, back, hin⟩ := focus2 N hx U
  exact esc_plain92 B F X N₁ TT hk hxd hne hr hu hT hA fun h' tk t2 t3 t4 t' A' F' N' => ret h' tk t2 t3 t4 t' A' F' (back _ _ N')
theorem esc_c {nw : Obj → List (Addr × Obj)} {c : Nat}
    (B : Below A₀ base outer h₀) (F : Fr h₀ L s.heap m) (X : (One.hd.heap_1_39 w.params).In h₀) (N : News h₀ L s.heap news) (TT : Top One.hd.view_1_40 loose mean mg mb h₀) (hk : cs.kind = .function)
    (hx : (x, instObj 210 d) ∈ news) (U : ∀ o', Upd d (dictOf (lexD w.params T i row col fl k1 t1 k2 t2 k3 t3 k4 t4 k5) 5) o' news (nw o'))
    (hA : At T i (92 :: c :: R)) (hT : T.length ≤ 100000) (hc : c = 34 ∨ c = 92)
    (hr : dp + 24 < recursionLimit) (hu : un + 180 < cLine)
    (ret : ∀ h' tk t2 t3 t4 t', At T (i + 1 + 1) R → Fr h₀ L h' m → News h₀ L h' (nw (dictOf (lexD w.params T (i + 1 + 1) row (col + 1 + 1) fl k1 t1 k2 t2 k3 t3 k4 t4 k5) 5)) → Q (.bytes #[c.toUInt8] t') { s with heap := h', toks := tk }) :
    wpAny (model prog0 w) (ktrTop dp un gd cn cs L a ccd cl outer) (call (.ref 186) [.ref x]) Q E s := by
  rcases hc with rfl | rfl
  · exact esc34_c B F X N TT hk hx U hA hT hr hu ret
  · exact esc92_c B F X N TT hk hx U hA hT hr hu ret
theorem escnum_c {nw : Obj → List (Addr × Obj)}
    (B : Below A₀ base outer h₀) (F : Fr h₀ L s.heap m) (X : (One.hd.heap_1_39 w.params).In h₀) (N : News h₀ L s.heap news) (TT : Top One.hd.view_1_40 loose mean mg mb h₀) (hk : cs.kind = .function)
    (hx : (x, instObj 210 d) ∈ news) (U : ∀ o', Upd d (dictOf (lexD w.params T i row col fl k1 t1 k2 t2 k3 t3 k4 t4 k5) 5) o' news (nw o')) (hsub : ∀ q ∈ kept, q ∈ news ∧ q.1 ≠ d)
    (hA : At T i (92 :: 117 :: 123 :: (ds ++ 125 :: R))) (hT : T.length ≤ 100000) (hds : ds.all hexish = true) (hl : ds.length ≤ 20) (hb : wof ds 0 false = some v) (hv0 : 0 ≤ v)
    (hr : dp + 24 < recursionLimit) (hu : un + 180 < cLine)
    (hE : (v ≥ 1114112 ∨ (55296 ≤ v ∧ v < 57344)) → BadE w.params base (envX cn cs L a ccd cl :: outer) h₀ L m (PySem.Str.ofString "malformed UTF-8 encoding") row (col + 3 + (ds.length : Int)) kept E s)
    (ret : ¬ (v ≥ 1114112 ∨ (55296 ≤ v ∧ v < 57344)) → ∀ h' tk t2 t3 t4 t', At T (i + 4 + (ds.length : Int)) R → Fr h₀ L h' m → News h₀ L h' (nw (dictOf (lexD w.params T (i + 4 + (ds.length : Int)) row (col + 4 + (ds.length : Int)) fl k1 t1 k2 t2 k3 t3 k4 t4 k5) 5)) → Q (.bytes (u8 v.toNat) t') { s with heap := h', toks := tk }) :
    wpN (model prog0 w) (ktrTop dp un gd cn cs L a ccd cl outer) (call (.ref 186) [.ref x]) Q E s := by
  have hxd := news_ne N hx (upd_mem (U default))
  obtain ⟨rest, N₁, hne, back, hin⟩ := focus2 N hx U
  exact esc_num B F X N₁ TT hk hxd hne hr hu hT hA hds hl hb hv0 (fun q => (hE q).mono fun p hp => hin p (hsub p hp).1 (hsub p hp).2) fun q h' tk t2 t3 t4 t' A' F' N' => ret q h' tk t2 t3 t4 t' A' F' (back _ _ N')
end
local macro_rules | `(tactic| walk_at "call ref") => lnAt 186 ``esc_c "BFXNTkxUaaarn_" "........."
local macro_rules | `(tactic| walk_at "N escape") => ln ``escnum_c "BFXNTkxU_aaaaaarn__"

-- the part letters
/-! a string's letters, and what becomes of them -/
inductive Ltr where
  | raw (c : Nat)
  | esc (c : Nat)
  | num (ds : List Nat) (v : Int)
noncomputable def Ltr.told : Ltr → List Nat
  | .raw c => [c]
  | .esc c => [92, c]
  | .num ds _ => 92 :: 117 :: 123 :: (ds ++ [125])
noncomputable def Ltr.ok : Ltr → Prop
  | .raw c => c ≠ 34 ∧ c ≠ 92 ∧ c < 1114112
  | .esc c => c = 34 ∨ c = 92
  | .num ds v => ds.all hexish = true ∧ ds.length ≤ 20 ∧ wof ds 0 false = some v ∧ 0 ≤ v
/-- why a letter is refused, and how far behind its first sign (none: at the string's beginning) -/
noncomputable def Ltr.bad : Ltr → Option (PySem.Str × Option Int)
  | .raw c => if c = 10 ∨ c = 13 then some (PySem.Str.ofString "unclosed string", none) else if c < 32 ∨ c = 127 then some (PySem.Str.ofString "illegal control character in string", some 0)
    else if 55296 ≤ c ∧ c < 57344 then some (PySem.Str.ofString "malformed UTF-8 encoding", some 0) else none
  | .esc _ => none
  | .num ds v => if v ≥ 1114112 ∨ (55296 ≤ v ∧ v < 57344) then some (PySem.Str.ofString "malformed UTF-8 encoding", some (3 + (ds.length : Int))) else none
noncomputable def Ltr.oct : Ltr → Array UInt8
  | .raw c => u8 c
  | .esc c => #[c.toUInt8]
  | .num _ v => u8 v.toNat
noncomputable def told (ls : List Ltr) : List Nat := ls.flatMap Ltr.told
theorem told_nil : told [] = [] := rfl
theorem told_cons (l : Ltr) (r : List Ltr) : told (l :: r) = l.told ++ told r := rfl
noncomputable def octs : List Ltr → Array UInt8
  | [] => #[]
  | l :: r => l.oct ++ octs r
noncomputable def bads : List Ltr → Int → Option (PySem.Str × Option Int)
  | [], _ => none
  | l :: r, col => match l.bad with
    | some (why, some o) => some (why, some (col + o))
    | some (why, none) => some (why, none)
    | none => bads r (col + (l.told.length : Int))
theorem sg_lt32 {c : Nat} (h : c < 32) : (tx [c]).cps.toList < (PySem.Str.ofString " ").cps.toList := by
  rw [show PySem.Str.ofString " " = tx [32] by decide +kernel]
  show [c] < [32]
  exact List.Lex.rel h
theorem sg_ge32 {c : Nat} (h : ¬ c < 32) : ¬ (tx [c]).cps.toList < (PySem.Str.ofString " ").cps.toList := by
  rw [show PySem.Str.ofString " " = tx [32] by decide +kernel]
  show ¬ [c] < [32]
  intro q
  cases q with
  | rel q => exact h q
  | cons q => cases q
theorem sg_del {c : Nat} : (tx [c] == PySem.Str.ofString "\x7f") = decide (c = 127) := by
  rw [show PySem.Str.ofString "\x7f" = tx [127] by decide +kernel, tx_beq]; simp
/-- slash -/
theorem sg_slash {c : Nat} : (tx [c] == PySem.Str.ofString "\\") = decide (c = 92) := by
  rw [show PySem.Str.ofString "\\" = tx [92] by decide +kernel, tx_beq]; simp
theorem octs_room {b : Array UInt8} {l : Ltr} {r ls : List Ltr} (h : b ++ octs (l :: r) = octs ls) (hz : (octs ls).size < 100000) : b.size + l.oct.size < 100000 := by
  have := congrArg Array.size h
  simp only [octs, Array.size_append] at this
  omega
theorem octs_next {b : Array UInt8} {l : Ltr} {r ls : List Ltr} (h : b ++ octs (l :: r) = octs ls) : (b ++ l.oct) ++ octs r = octs ls := by
  rw [← h, octs, Array.append_assoc]
local macro_rules | `(tactic| walk_at "N extend") => ln ``baK_extend_bytes "FNUa_" "..."

-- the part passrow
/-- what is left behind a row's signs, and their number -/
noncomputable def rowEnd : List Nat → List Nat
  | [] => []
  | c :: r => if c = 10 ∨ c = 13 then c :: r else rowEnd r
noncomputable def rowCnt : List Nat → Nat
  | [] => 0
  | c :: r => if c = 10 ∨ c = 13 then 0 else rowCnt r + 1
theorem any_nlcr (c : Nat) : ([PySem.Str.ofString "\n", PySem.Str.ofString "\r"].any fun x => x == tx [c]) = decide (c = 10 ∨ c = 13) := by
  rw [List.any_cons, List.any_cons, List.any_nil, sg_nl, sg_cr, tx_beq, tx_beq, Bool.or_false]
  by_cases h1 : c = 10
  · subst h1; rfl
  · by_cases h2 : c = 13
    · subst h2; rfl
    · rw [decide_eq_false (by simpa using fun q => h1 q.symm), decide_eq_false (by simpa using fun q => h2 q.symm), decide_eq_false (by simp [h1, h2])]; rfl
section
variable {w : World} {mean : ExcName → Option Value} {mg mb : PySem.Str → Option Value} {loose : List PySem.Str}
   {dp un : Nat} {gd : Option (List Code)} {cn : PySem.Str} {cs : Scope} {a : Addr} {ccd : Value} {cl : List (PySem.Str × Addr)} {outer : List Env} {A₀ : Around} {base h₀ : Heap} {L : Addr} {m : PySem.Str → Option Value} {news : List (Addr × Obj)} {s : Shared}
    {Q E : Value → Shared → Prop} {x d fl : Addr} {T : PySem.Str} {i row col : Int} {k1 t1 k2 t2 k3 t3 k4 t4 k5: Tok} {R : List Nat} {c c2 : Nat}

/-- what holds between the turns of the loop over a row comment -/
inductive RowJ (P : Params) (T : PySem.Str) (x d fl : Addr) (row : Int) (k1 t1 k2 k3 k4 k5 : Tok) (news : List (Addr × Obj)) (m0 : PySem.Str → Option Value) (R : List Nat) (i col : Int) (n : Nat) (m₁ : PySem.Str → Option Value) (news₁ : List (Addr × Obj)) : Prop
  | mk (i' col' : Int) (R' : List Nat) (t2' t3' t4' : Tok) (hm : m₁ = m0) (hn : news₁ = (x, instObj 210 d) :: (d, dictOf (lexD P T i' row col' fl k1 t1 k2 t2' k3 t3' k4 t4' k5) 5) :: news) (hA : At T i' R') (hl : n = R'.length) (he : rowEnd R' = rowEnd R)
      (hc : col' + rowCnt R' = col + rowCnt R) (hi : i' + rowCnt R' = i + rowCnt R) : RowJ P T x d fl row k1 t1 k2 k3 k4 k5 news m0 R i col n m₁ news₁
theorem passrow_w
    (B : Below A₀ base outer h₀) (F : Fr h₀ L s.heap m) (X : (One.hd.heap_1_39 w.params).In h₀) (N : News h₀ L s.heap ((x, instObj 210 d) :: (d, dictOf (lexD w.params T i row col fl k1 t1 k2 t2 k3 t3 k4 t4 k5) 5) :: news)) (TT : Top One.hd.view_1_40 loose mean mg mb h₀) (hk : cs.kind = .function)
    (hxd : x ≠ d) (hnw : ∀ p ∈ news, p.1 ≠ d)
    (hr : dp + 10 < recursionLimit) (hu : un + 40 < cLine) (hT : T.length ≤ 100000) (hA : At T i R) 
    (ret : ∀ h' tk t2 t3 t4, At T (i + rowCnt R) (rowEnd R) → Fr h₀ L h' m → News h₀ L h' ((x, instObj 210 d) :: (d, dictOf (lexD w.params T (i + rowCnt R) row (col + rowCnt R) fl k1 t1 k2 t2 k3 t3 k4 t4 k5) 5) :: news) → Q .none { s with heap := h', toks := tk }) :
    wpAny (model prog0 w) (ktrTop dp un gd cn cs L a ccd cl outer) (call (.ref 165) [.ref x]) Q E s := by
  w_on
  refine wpAny_call ?_
  k_dflt ktr_enter
  walk1
  walk1
  rename Fr _ _ _ _ => F1
  rename News _ _ _ _ => N1
  refine A_While3 (RowJ w.params T x d fl row k1 t1 k2 k3 k4 k5 news _ R i col) F1 N1 ⟨i, col, R, t2, t3, t4, rfl, rfl, hA, rfl, rfl, rfl, rfl⟩ ?_
  rintro P n hnext m₁ news₁ h₁ tk₁ F₁ N₁ ⟨i', col', R', t2', t3', t4', rfl, rfl, hA', rfl, e1, e2, e3⟩
  clear F1 N1
  have hlen := hA'.len
  cases R' with
  | nil =>
    simp only [rowCnt, List.length_nil] at e2 e3 hlen
    obtain rfl : i' = i + rowCnt R := by omega
    obtain rfl : col' = col + rowCnt R := by omega
    k_steps
    exact ret _ _ _ _ _ (e1 ▸ hA') (by k_asm) (by k_asm)
  | cons c r =>
    rw [List.length_cons] at hlen
    by_cases hc : c = 10 ∨ c = 13
    · have hq : ([PySem.Str.ofString "\n", PySem.Str.ofString "\r"].any fun x => x == tx [c]) = true := by rw [any_nlcr, decide_eq_true hc]
      simp only [rowCnt, rowEnd, if_pos hc] at e1 e2 e3
      obtain rfl : i' = i + rowCnt R := by omega
      obtain rfl : col' = col + rowCnt R := by omega
      k_steps
      exact ret _ _ _ _ _ (e1 ▸ hA') (by k_asm) (by ktr_rel)
    · have hq : ([PySem.Str.ofString "\n", PySem.Str.ofString "\r"].any fun x => x == tx [c]) = false := by rw [any_nlcr, decide_eq_false hc]
      simp only [rowCnt, rowEnd, if_neg hc] at e1 e2 e3
      k_steps
      rename At _ _ _ => A2
      rename Fr _ _ _ _ => F2
      rename News _ _ _ _ => N2
      rw [nextRow_other hc, nextCol_other hc] at N2
      exact hnext _ _ _ _ (r.length) F2 (newsT1 N2) (Nat.lt_succ_self _) ⟨_, _, r, _, _, _, rfl, rfl, A2, rfl, e1, by omega, by omega⟩

theorem passrow_c {nw : Obj → List (Addr × Obj)}
    (B : Below A₀ base outer h₀) (F : Fr h₀ L s.heap m) (X : (One.hd.heap_1_39 w.params).In h₀) (N : News h₀ L s.heap news) (TT : Top One.hd.view_1_40 loose mean mg mb h₀) (hk : cs.kind = .function)
    (hx : (x, instObj 210 d) ∈ news) (U : ∀ o', Upd d (dictOf (lexD w.params T i row col fl k1 t1 k2 t2 k3 t3 k4 t4 k5) 5) o' news (nw o'))
    (hA : At T i R) (hT : T.length ≤ 100000) (hr : dp + 10 < recursionLimit) (hu : un + 40 < cLine)
    (ret : ∀ h' tk t2 t3 t4, At T (i + rowCnt R) (rowEnd R) → Fr h₀ L h' m → News h₀ L h' (nw (dictOf (lexD w.params T (i + rowCnt R) row (col + rowCnt R) fl k1 t1 k2 t2 k3 t3 k4 t4 k5) 5)) → Q .none { s with heap := h', toks := tk }) :
    wpAny (model prog0 w) (ktrTop dp un gd cn cs L a ccd cl outer) (call (.ref 165) [.ref x]) Q E s := by
  have hxd := news_ne N hx (upd_mem (U default))
  obtain ⟨rest, N₁, hne, back⟩ := focus N hx U
  exact passrow_w B F X N₁ TT hk hxd hne hr hu hT hA fun h' tk t2 t3 t4 A' F' N' => ret h' tk t2 t3 t4 A' F' (back _ _ N')
end
local macro_rules | `(tactic| walk_at "call ref") => lnAt 165 ``passrow_c "BFXNTkxUaarn_" "........"

-- the part string
theorem sg_facts : (tx [34] != PySem.Str.ofString "\"") = false ∧ (tx [92] != PySem.Str.ofString "\"") = true := by decide +kernel
theorem sg_ne34 {c : Nat} (h : c ≠ 34) : (tx [c] != PySem.Str.ofString "\"") = true := by
  rw [bne, show PySem.Str.ofString "\"" = tx [34] by decide +kernel, tx_beq, decide_eq_false (by simpa using h)]; rfl
theorem sg_neE {c : Nat} : (tx [c] == PySem.Str.ofString "") = false := by
  rw [show PySem.Str.ofString "" = tx [] by decide +kernel, tx_beq, decide_eq_false (by simp)]
noncomputable def Ltr.lead : Ltr → Nat
  | .raw c => c
  | _ => 92
/-- a letter by its first sign -/
theorem lead_facts (l : Ltr) (hl : l.ok) : (∃ tl, l.told = l.lead :: tl) ∧ l.lead ≠ 34 ∧ ((l.lead = 10 ∨ l.lead = 13) → l.bad = some (PySem.Str.ofString "unclosed string", none)) ∧
    (¬ (l.lead = 10 ∨ l.lead = 13) → (l.lead < 32 ∨ l.lead = 127) → l.bad = some (PySem.Str.ofString "illegal control character in string", some 0)) ∧
    (¬ (l.lead = 10 ∨ l.lead = 13) → ¬ (l.lead < 32 ∨ l.lead = 127) → (55296 ≤ l.lead ∧ l.lead < 57344) → l.bad = some (PySem.Str.ofString "malformed UTF-8 encoding", some 0)) ∧ (l.lead ≠ 92 → l = .raw l.lead) ∧ (l.lead = 92 → ∀ c, l ≠ .raw c) := by
  cases l with
  | raw c =>
    obtain ⟨n1, n2, n3⟩ := hl
    exact ⟨⟨_, rfl⟩, n1, fun h => if_pos h, fun h1 h => (if_neg h1).trans (if_pos h), fun h1 h2 h => (if_neg h1).trans ((if_neg h2).trans (if_pos h)), fun _ => rfl, fun h => absurd h n2⟩
  | esc c => exact ⟨⟨_, rfl⟩, (by decide : 92 ≠ 34), fun h => absurd h (by decide : ¬ (92 = 10 ∨ 92 = 13)), fun _ h => absurd h (by decide : ¬ (92 < 32 ∨ 92 = 127)), fun _ _ h => absurd h (by decide : ¬ (55296 ≤ 92 ∧ 92 < 57344)), fun h => absurd rfl h, fun _ c h => nomatch h⟩
  | num ds v => exact ⟨⟨_, rfl⟩, (by decide : 92 ≠ 34), fun h => absurd h (by decide : ¬ (92 = 10 ∨ 92 = 13)), fun _ h => absurd h (by decide : ¬ (92 < 32 ∨ 92 = 127)), fun _ _ h => absurd h (by decide : ¬ (55296 ≤ 92 ∧ 92 < 57344)), fun h => absurd rfl h, fun _ c h => nomatch h⟩
theorem nat_sur {c : Nat} (h : ¬ (55296 ≤ (c : Int) ∧ (c : Int) < 57344)) : ¬ (55296 ≤ c ∧ c < 57344) := by omega
theorem bads_some {l : Ltr} {r : List Ltr} {col : Int} {why : PySem.Str} {o : Option Int} (h : l.bad = some (why, o)) : bads (l :: r) col = some (why, o.map (col + ·)) := by
  rw [bads, h]; cases o <;> rfl
section
variable {w : World} {mean : ExcName → Option Value} {mg mb : PySem.Str → Option Value} {loose : List PySem.Str}
   {dp un : Nat} {gd : Option (List Code)} {cn : PySem.Str} {cs : Scope} {a : Addr} {ccd : Value} {cl : List (PySem.Str × Addr)} {outer : List Env} {A₀ : Around} {base h₀ : Heap} {L : Addr} {m : PySem.Str → Option Value} {news kept : List (Addr × Obj)} {s : Shared}
    {Q E : Value → Shared → Prop} {x d fl : Addr} {T : PySem.Str} {i row col : Int} {k1 t1 k2 t2 k3 t3 k4 t4 k5: Tok} {R ds : List Nat} {c : Nat} {v : Int} {ls : List Ltr}
/-- what holds between the turns of the loop over a string's letters -/
inductive StringJ (P : Params) (T : PySem.Str) (fa x d fl : Addr) (row : Int) (k1 t1 k2 k3 k4 k5 : Tok) (news : List (Addr × Obj)) (m0 : PySem.Str → Option Value) (R : List Nat) (i col : Int) (ls : List Ltr) : Nat → (PySem.Str → Option Value) → List (Addr × Obj) → Prop
  | mk {n : Nat} {m₁ : PySem.Str → Option Value} {news₁ : List (Addr × Obj)} (i' col' : Int) (ls' : List Ltr) (b : Array UInt8) (t2' t3' t4' : Tok) (vs : Option Value)
      (hm : m₁ = fun y => if y = PySem.Str.ofString "sign" then vs else m0 y) (hn : news₁ = (fa, baObj b) :: (x, instObj 210 d) :: (d, dictOf (lexD P T i' row col' fl k1 t1 k2 t2' k3 t3' k4 t4' k5) 5) :: news) (hA : At T i' (told ls' ++ 34 :: R)) (hok : ∀ l ∈ ls', l.ok) (hl : n = ls'.length)
      (hi : i' + ((told ls').length : Int) = i + 1 + ((told ls).length : Int)) (hc : col' + ((told ls').length : Int) = col + 1 + ((told ls).length : Int)) (hb : bads ls' col' = bads ls (col + 1)) (ho : b ++ octs ls' = octs ls) : StringJ P T fa x d fl row k1 t1 k2 k3 k4 k5 news m0 R i col ls n m₁ news₁
theorem string_w
    (B : Below A₀ base outer h₀) (F : Fr h₀ L s.heap m) (X : (One.hd.heap_1_39 w.params).In h₀) (N : News h₀ L s.heap ((x, instObj 210 d) :: (d, dictOf (lexD w.params T i row col fl k1 t1 k2 t2 k3 t3 k4 t4 k5) 5) :: news)) (TT : Top One.hd.view_1_40 loose mean mg mb h₀) (hk : cs.kind = .function)
    (hxd : x ≠ d) (hnw : ∀ p ∈ news, p.1 ≠ d)
    (hr : dp + 30 < recursionLimit) (hu : un + 220 < cLine) (hT : T.length ≤ 100000) (hA : At T i (34 :: (told ls ++ 34 :: R))) (hok : ∀ l ∈ ls, l.ok) (hz : (octs ls).size < 100000)
    (hE : ∀ why o, bads ls (col + 1) = some (why, o) → BadE w.params base (envX cn cs L a ccd cl :: outer) h₀ L m why row (o.getD col) news E s)
    (ret : bads ls (col + 1) = none → ∀ h' tk t2 t3 t4 t', At T (i + 2 + ((told ls).length : Int)) R → Fr h₀ L h' m → News h₀ L h' ((x, instObj 210 d) :: (d, dictOf (lexD w.params T (i + 2 + ((told ls).length : Int)) row (col + 2 + ((told ls).length : Int)) fl k1 t1 k2 t2 k3 t3 k4 t4 k5) 5) :: news) → Q (.bytes (octs ls) t') { s with heap := h', toks := tk }) :
    wpN (model prog0 w) (ktrTop dp un gd cn cs L a ccd cl outer) (call (.ref 193) [.ref x]) Q E s := by
  w_on
  k_dflt (walk_at "enter")
  rename Lets _ _ _ _ _ => hEL
  rename Ends _ _ _ _ _ _ => hQL
  rename PassesOwn _ _ _ _ => hPE
  refine N_cons (N_AssignSwap (N_Tuple ?_))
  refine N_items_cons (wpN_any ?_)
  k_steps
  refine N_items_cons (wpN_any ?_)
  k_steps
  refine N_items_cons (N_CallName ?_)
  k_steps
  refine N_callWith_T0 (baK_call (by k_asm) (by ktr_rel) ?_)
  intro fa h1 hlt F1 N1
  dsimp only
  refine N_items_nil ⟨Nat.le_of_ble_eq_true rfl, ?_⟩
  dsimp only
  have F2 := F1.push { cls := .type "tuple", data := .seq [Value.int row t3, Value.int col t4, Value.ref fa].toArray }
  have N2 := News.push F1 N1 { cls := .type "tuple", data := .seq [Value.int row t3, Value.int col t4, Value.ref fa].toArray }
  have l2 : ∀ p ∈ (fa, baObj #[]) :: (x, instObj 210 d) :: (d, dictOf (lexD w.params T i row col fl k1 t1 k2 t2 k3 t3 k4 t4 k5) 5) :: news, p.1 < h1.objs.size := fun p hp => Heap.lt_size (N1 p hp).1
  generalize h1.push _ = h2 at F2 N2 ⊢
  generalize h1.objs.size = ta at N2 l2 ⊢
  clear F1 N1
  k_lt l2
  k_lt hlt
  k_steps
  refine N_consA ?_
  k_steps
  dsimp only
  rename At _ _ _ => A1
  rename Fr _ _ _ _ => F1
  rename News _ _ _ (_ :: (fa, _) :: _) => N1
  obtain ⟨m0, hm0, F1⟩ : ∃ m0, m0 = _ ∧ Fr _ _ _ m0 := ⟨_, rfl, F1⟩
  refine N_cons (N_While3 (StringJ w.params T fa x d fl row k1 t1 k2 k3 k4 k5 news m0 R i col ls) F1 (by ktr_rel)
    ⟨_, _, ls, #[], _, _, _, none, map1 (by rw [hm0]; rfl), rfl, A1, hok, rfl, rfl, by rw [nextCol_other (show ¬ (34 = 10 ∨ 34 = 13) by decide)], by rw [nextCol_other (show ¬ (34 = 10 ∨ 34 = 13) by decide)], by simp⟩ ?_ hPE)
  rintro P n hnext m₁ news₁ h₁ tk₁ F₁ N₁ ⟨i', col', ls', b, t2', t3', t4', vs, rfl, rfl, hA', hok', rfl, hi', hc', hbd, hoc⟩
  clear F1 N1 A1
  subst hm0
  have hlen := hA'.len
  cases ls' with
  | nil =>
    obtain ⟨q0, -⟩ := sg_facts
    simp only [told_nil, List.nil_append, List.length_nil, Int.ofNat_zero, Int.add_zero] at hA' hi' hc' hlen
    simp only [octs, Array.append_empty] at hoc
    subst hoc
    subst hi'
    subst hc'
    k_steps
    refine wpN_any ?_
    k_steps
    walk_at "ret"
    rename At _ _ _ => A9
    rename Fr h₀ _ _ _ => F9
    rename News h₀ _ _ _ => N9
    rw [nextRow_other (show ¬ (34 = 10 ∨ 34 = 13) by decide), nextCol_other (show ¬ (34 = 10 ∨ 34 = 13) by decide)] at N9
    have e1 : i + 1 + ((told ls).length : Int) + 1 = i + 2 + ((told ls).length : Int) := by omega
    have e2 : col + 1 + ((told ls).length : Int) + 1 = col + 2 + ((told ls).length : Int) := by omega
    rw [e1] at A9
    rw [e1, e2] at N9
    exact ret (by rw [← hbd]; rfl) _ _ _ _ _ _ A9 F9 (by ktr_rel)
  | cons l r =>
    have hl := hok' l (.head _)
    obtain ⟨⟨tl, etl⟩, c0, c1, c2, c3, c4, c5⟩ := lead_facts l hl
    have q0 := sg_ne34 c0
    have q1 := sg_neE (c := l.lead)
    rw [told_cons, etl, List.cons_append, List.cons_append] at hA'
    simp only [told_cons, etl, List.cons_append, List.length_cons] at hlen
    k_steps
    refine N_first 3 ?_
    dsimp only [List.take, List.drop]
    k_steps
    · rename (List.any _ _) = true => q2
      have e : bads ls (col + 1) = some (PySem.Str.ofString "unclosed string", none) := by rw [← hbd]; exact bads_some (c1 (of_decide_eq_true ((any_nlcr _).symm.trans q2)))
      have bE := hE _ _ e
      rename News _ _ _ (_ :: (_, exD _ _) :: _) => N3
      rename Fr _ _ _ _ => F3
      rename Fr h₀ L _ m => FG
      rename Below _ _ _ _ => B3
      rename Frag.In _ _ => X3
      refine ⟨_, _, _, rfl, X3.keeps F3.keep, (N3 _ (.tail _ (.head _))).1, ?_⟩
      exact hEL _ _ <| throw_bad B3 F3 N3 FG (by assumption) (by assumption) (by assumption) (by intro q hq; (repeat' (first | exact hq | refine List.mem_cons_of_mem _ ?_))) bE (fun _ _ => rfl) rfl
    · rename (List.any _ _) = false => q2
      rename _ < _ => q3
      have bE := hE _ _ ((hbd.symm.trans (bads_some (c2 (of_decide_eq_false ((any_nlcr _).symm.trans q2)) (.inl (Decidable.byContradiction fun h => sg_ge32 h q3))))))
      dsimp only [Option.map, Option.getD] at bE
      rw [Int.add_zero] at bE
      k_steps
    · rename (List.any _ _) = false => q2
      rename (_ == _) = true => q3
      have bE := hE _ _ ((hbd.symm.trans (bads_some (c2 (of_decide_eq_false ((any_nlcr _).symm.trans q2)) (.inr (of_decide_eq_true (sg_del.symm.trans q3)))))))
      dsimp only [Option.map, Option.getD] at bE
      rw [Int.add_zero] at bE
      k_steps
    rename (List.any _ _) = false => q2
    rename ¬ _ < _ => q3
    rename (_ == PySem.Str.ofString "\x7f") = false => q4
    have h1 := of_decide_eq_false ((any_nlcr _).symm.trans q2)
    have h2 : ¬ (l.lead < 32 ∨ l.lead = 127) := fun h => h.elim (fun h => q3 (sg_lt32 h)) (of_decide_eq_false (sg_del.symm.trans q4))
    dsimp only
    refine N_consA ?_
    k_steps
    · rename _ ≤ _ ∧ _ < _ => q5
      have bE := hE _ _ (hbd.symm.trans (bads_some (c3 h1 h2 (by omega))))
      dsimp only [Option.map, Option.getD] at bE
      rw [Int.add_zero] at bE
      k_steps
    rename ¬ (_ ≤ _ ∧ _ < _) => q5
    dsimp only
    refine N_one (N_If ?_)
    k_steps
    · rename (_ == PySem.Str.ofString "\\") = true => q6
      have h92 : l.lead = 92 := of_decide_eq_true (sg_slash.symm.trans q6)
      have oc' := octs_next hoc
      have hz1 := octs_room hoc hz
      refine N_one (N_Expr (N_method rfl rfl rfl ?_))
      k_steps
      refine N_callWith_B ?_
      cases l with
      | raw c => exact absurd rfl (c5 h92 c)
      | esc c =>
        have e' : bads r (col' + 2) = bads ls (col + 1) := by rw [← hbd]; rfl
        have hl : c = 34 ∨ c = 92 := hl
        cases etl
        simp only [Ltr.lead, told_cons, Ltr.told, List.cons_append, List.nil_append, List.length_cons] at hA' hi' hc' hlen
        refine N_items_cons (wpN_any ?_)
        k_steps
        refine N_items_nil ?_
        walk_at "N extend"
        dsimp only
        rename At _ _ _ => A2
        rename Fr _ _ _ _ => F2
        rename News _ _ _ _ => N2
        exact hnext _ _ _ _ (r.length) F2 (newsT1 N2) (Nat.lt_succ_self _) ⟨i' + 1 + 1, col' + 1 + 1, r, _, _, _, _, _, map1' rfl (fun y hy => by simp only [if_neg hy]), rfl, A2, fun l hl => hok' l (.tail _ hl), rfl, by first | exact told2 hi' | omega, by first | exact told2 hc' | omega, by rw [← e', show col' + 1 + 1 = col' + 2 by omega], oc'⟩
      | num ds v =>
        obtain ⟨n1, n2, n3, n4⟩ := hl
        cases etl
        simp only [Ltr.lead, told_cons, Ltr.told, List.cons_append, List.append_assoc, List.nil_append, List.length_cons, List.length_append] at hA' hi' hc' hlen
        refine N_items_cons (N_method rfl rfl rfl ?_)
        k_steps
        refine N_callWith_K0 (‹(One.hd.heap_1_39 w.params).In _›.keeps (‹Fr _ _ _ _›).keep) rfl ?_
        walk_at "N escape"
        · exact news
        · intro q hq
          exact ⟨by (repeat' (first | exact hq | refine List.mem_cons_of_mem _ ?_)), hnw q hq⟩
        · intro q
          have e : bads ls (col + 1) = some (PySem.Str.ofString "malformed UTF-8 encoding", some (col' + 3 + (ds.length : Int))) := by rw [← hbd, show col' + 3 + (ds.length : Int) = col' + (3 + (ds.length : Int)) by omega]; exact bads_some (l := .num ds v) (if_pos q)
          exact BadE.enter hEL (by assumption) (by assumption) (fun _ _ => rfl) (hE _ _ e)
        · intro q h' tk' t2' t3' t4' t' A' F' N'
          have e' : bads r (col' + 4 + (ds.length : Int)) = bads ls (col + 1) := by
            rw [← hbd]; simp only [bads, Ltr.bad, if_neg q, Ltr.told, List.length_cons, List.length_append, List.length_nil]; congr 1; omega
          dsimp only at N' ⊢
          refine N_items_nil ?_
          walk_at "N extend"
          dsimp only
          rename Fr _ _ _ _ => F2
          rename News _ _ _ _ => N2
          exact hnext _ _ _ _ (r.length) F2 (newsT1 N2) (Nat.lt_succ_self _) ⟨i' + 4 + (ds.length : Int), col' + 4 + (ds.length : Int), r, _, _, _, _, _, map1' rfl (fun y hy => by simp only [if_neg hy]), rfl, A', fun l hl => hok' l (.tail _ hl), rfl, by first | exact told4 hi' | omega, by first | exact told4 hc' | omega, e', oc'⟩
    · rename (_ == PySem.Str.ofString "\\") = false => q6
      have h92 : l.lead ≠ 92 := of_decide_eq_false (sg_slash.symm.trans q6)
      obtain ⟨c, rfl⟩ : ∃ c, l = .raw c := ⟨_, c4 h92⟩
      obtain ⟨n1, n2, n3⟩ := hl
      cases etl
      simp only [Ltr.lead, told_cons, Ltr.told, List.cons_append, List.nil_append, List.length_cons] at hA' hi' hc' hlen h1 h2 q5
      dsimp only [Ltr.lead] at *
      have h5 := nat_sur q5
      clear q5 h92 n1 n2 c0 c1 c2 c3 c4 c5
      refine N_cons (N_Expr (N_method rfl rfl rfl ?_))
      k_steps
      refine N_callWith_B ?_
      refine N_items_cons (N_CallName ?_)
      k_steps
      refine N_callWith_K (K := One.hd.heap_1_39 w.params) rfl (N_items_cons (wpN_any ?_))
      k_steps
      refine N_items_nil ⟨(‹(One.hd.heap_1_39 w.params).In _›).keeps (‹Fr _ _ _ _›).keep, ?_⟩
      try dsimp only [List.nil_append]
      walk_at "N utf8"
      try dsimp only
      refine N_items_nil ?_
      try dsimp only
      have hz1 : b.size + (u8 c).size < 100000 := octs_room hoc hz
      walk_at "N extend"
      try dsimp only
      refine wpN_any ?_
      k_steps
      rename At _ _ _ => A2
      rename Fr _ _ _ _ => F2
      rename News _ _ _ _ => N2
      rw [nextRow_other h1, nextCol_other h1] at N2
      exact hnext _ _ _ _ (r.length) F2 (newsT1 N2) (Nat.lt_succ_self _) ⟨i' + 1, col' + 1, r, _, _, _, _, _, map1' rfl (fun y hy => by simp only [if_neg hy]), rfl, A2, fun l hl => hok' l (.tail _ hl), rfl, by first | exact told1 hi' | omega, by first | exact told1 hc' | omega, by rw [← hbd]; simp only [bads, Ltr.bad, if_neg h1, if_neg h2, if_neg h5, Ltr.told, List.length_cons, List.length_nil]; rfl, octs_next hoc⟩
theorem string_c {nw : Obj → List (Addr × Obj)}
    (B : Below A₀ base outer h₀) (F : Fr h₀ L s.heap m) (X : (One.hd.heap_1_39 w.params).In h₀) (N : News h₀ L s.heap news) (TT : Top One.hd.view_1_40 loose mean mg mb h₀) (hk : cs.kind = .function)
    (hx : (x, instObj 210 d) ∈ news) (U : ∀ o', Upd d (dictOf (lexD w.params T i row col fl k1 t1 k2 t2 k3 t3 k4 t4 k5) 5) o' news (nw o')) (hsub : ∀ q ∈ kept, q ∈ news ∧ q.1 ≠ d)
    (hA : At T i (34 :: (told ls ++ 34 :: R))) (hT : T.length ≤ 100000) (hok : ∀ l ∈ ls, l.ok) (hz : (octs ls).size < 100000)
    (hr : dp + 30 < recursionLimit) (hu : un + 220 < cLine)
    (hE : ∀ why o, bads ls (col + 1) = some (why, o) → BadE w.params base (envX cn cs L a ccd cl :: outer) h₀ L m why row (o.getD col) kept E s)
    (ret : bads ls (col + 1) = none → ∀ h' tk t2 t3 t4 t', At T (i + 2 + ((told ls).length : Int)) R → Fr h₀ L h' m → News h₀ L h' (nw (dictOf (lexD w.params T (i + 2 + ((told ls).length : Int)) row (col + 2 + ((told ls).length : Int)) fl k1 t1 k2 t2 k3 t3 k4 t4 k5) 5)) → Q (.bytes (octs ls) t') { s with heap := h', toks := tk }) :
    wpN (model prog0 w) (ktrTop dp un gd cn cs L a ccd cl outer) (call (.ref 193) [.ref x]) Q E s := by
  have hxd := news_ne N hx (upd_mem (U default))
  obtain ⟨rest, N₁, hne, back, hin⟩ := focus2 N hx U
  exact string_w B F X N₁ TT hk hxd hne hr hu hT hA hok hz (fun why o q => (hE why o q).mono fun p hp => hin p (hsub p hp).1 (hsub p hp).2) fun q h' tk t2 t3 t4 t' A' F' N' => ret q h' tk t2 t3 t4 t' A' F' (back _ _ N')
end
local macro_rules | `(tactic| walk_at "N string") => ln ``string_c "BFXNTkxU_aaaarn__"

-- the part run
/-- the signs that a run holds -/
noncomputable abbrev idSigns : PySem.Str := PySem.Str.ofString "0123456789abcdefghijklmnopqrstuvwxyzABCDEFGHIJKLMNOPQRSTUVWXYZ!#$%&'*+-./:<=>?@\\^_`|~"
section
variable {w : World} {mean : ExcName → Option Value} {mg mb : PySem.Str → Option Value} {loose : List PySem.Str}
   {dp un : Nat} {gd : Option (List Code)} {cn : PySem.Str} {cs : Scope} {a : Addr} {ccd : Value} {cl : List (PySem.Str × Addr)} {outer : List Env} {A₀ : Around} {base h₀ : Heap} {L : Addr} {m : PySem.Str → Option Value} {news kept : List (Addr × Obj)} {s : Shared}
    {Q E : Value → Shared → Prop} {x d fl : Addr} {T : PySem.Str} {i row col : Int} {kk1 tt1 kk2 tt2 kk3 tt3 kk4 tt4 kk5 : Tok} {R ds : List Nat} {c n : Nat} {v : Int} {ls : List Ltr} {vs : Array Value}
theorem q_facts : (tx [34] != PySem.Str.ofString "") = true ∧ (tx [34] == PySem.Str.ofString "\"") = true ∧ (tx [] != PySem.Str.ofString "") = false := by decide +kernel
theorem allLt_of {d : Addr} : ∀ {l : List (Addr × Obj)}, (∀ p ∈ l, p.1 < d) → AllLt d l
  | [], _ => trivial
  | _ :: _, h => ⟨h _ (.head _), allLt_of fun p hp => h p (.tail _ hp)⟩
theorem push_tup {h h₀ : Heap} {L : Addr} {m : PySem.Str → Option Value} {news : List (Addr × Obj)} {P : Addr → Heap → Prop} (o : Obj) (F : Fr h₀ L h m) (N : News h₀ L h news)
    (k : ∀ a h', AllLt a news → Fr h₀ L h' m → News h₀ L h' ((a, o) :: news) → P a h') (hf : o.isFreed = false := by rfl) : P h.objs.size (h.push o) :=
  k _ _ (allLt_of fun p hp => Heap.lt_size (N p hp).1) (F.push o) (News.push F N o hf)
theorem newsDrop {h₀ h : Heap} {L : Addr} {a b c : Addr × Obj} {l : List (Addr × Obj)} (N : News h₀ L h (a :: b :: c :: l)) : News h₀ L h (a :: b :: l) := fun p hp => by
  rcases List.mem_cons.mp hp with rfl | hp
  · exact N _ (.head _)
  rcases List.mem_cons.mp hp with rfl | hp
  · exact N _ (.tail _ (.head _))
  · exact N _ (.tail _ (.tail _ (.tail _ hp)))
/-- what holds between the turns of the loop over a run: ahead of its one string, and behind it -/
inductive RunJ (P : Params) (T : PySem.Str) (x d fl : Addr) (i row col : Int) (kk1 tt1 kk2 tt2 kk3 tt3 kk4 tt4 kk5 : Tok) (vs : Array Value) (n : Nat) (news : List (Addr × Obj)) (m0 : PySem.Str → Option Value) (R : List Nat) (ls : List Ltr) (n' : Nat) (m₁ : PySem.Str → Option Value) (news₁ : List (Addr × Obj)) : Prop
  | inl (hn : n' = 1) (hm : m₁ = m0) (he : news₁ = (x, instObj 210 d) :: (d, dictOf (lexD P T i row col fl kk1 tt1 kk2 tt2 kk3 tt3 kk4 tt4 kk5) 5) :: (fl, listOf vs n) :: news) : RunJ P T x d fl i row col kk1 tt1 kk2 tt2 kk3 tt3 kk4 tt4 kk5 vs n news m0 R ls n' m₁ news₁
  | inr (hn : n' = 0) (hb : bads ls (col + 1) = none) (t2' t3' t4' to ts : Tok) (hm : m₁ = fun y => if y = PySem.Str.ofString "octets" then some (.bytes (octs ls) to) else if y = PySem.Str.ofString "strings" then some (.int 1 ts) else if y = PySem.Str.ofString "is_string" then some (.bool true) else m0 y)
      (hA : At T (i + 2 + ((told ls).length : Int)) R) (he : news₁ = (x, instObj 210 d) :: (d, dictOf (lexD P T (i + 2 + ((told ls).length : Int)) row (col + 2 + ((told ls).length : Int)) fl kk1 tt1 kk2 t2' kk3 t3' kk4 t4' kk5) 5) :: (fl, listOf vs n) :: news) :
      RunJ P T x d fl i row col kk1 tt1 kk2 tt2 kk3 tt3 kk4 tt4 kk5 vs n news m0 R ls n' m₁ news₁
theorem run_w
    (B : Below A₀ base outer h₀) (F : Fr h₀ L s.heap m) (X : (One.hd.heap_1_39 w.params).In h₀) (N : News h₀ L s.heap ((x, instObj 210 d) :: (d, dictOf (lexD w.params T i row col fl kk1 tt1 kk2 tt2 kk3 tt3 kk4 tt4 kk5) 5) :: (fl, listOf vs n) :: news)) (TT : Top One.hd.view_1_40 loose mean mg mb h₀) (hk : cs.kind = .function)
    (hxd : x ≠ d) (hxf : x ≠ fl) (hdf : d ≠ fl) (hnw : ∀ p ∈ news, p.1 ≠ d) (hnf : ∀ p ∈ news, p.1 ≠ fl)
    (hr : dp + 40 < recursionLimit) (hu : un + 300 < cLine) (hT : T.length ≤ 100000) (hA : At T i (34 :: (told ls ++ 34 :: R))) (hok : ∀ l ∈ ls, l.ok) (hz : (octs ls).size < 100000) (hv : vs.size < 1000)
    (hR : ∀ h, R.head? = some h → h ≠ 34 ∧ (Builtin.Str.occurrences idSigns (tx [h]) 0 idSigns.length 1).isEmpty = true)
    (hE : ∀ why o, bads ls (col + 1) = some (why, o) → BadE w.params base (envX cn cs L a ccd cl :: outer) h₀ L m why row (o.getD col) news E s)
    (ret : bads ls (col + 1) = none → ∀ h' tk t2 t3 t4 ta td k1 u1 k2 u2 k3 u3 k4 u4 k5 u5, d < td → fl < td → x < td → AllLt td news → td < ta → At T (i + 2 + ((told ls).length : Int)) R → Fr h₀ L h' m → News h₀ L h' ((ta, instObj 90 td) :: (td, dictOf (tokD w.params (PySem.Str.ofString "string") (tx (34 :: (told ls ++ [34]))) (.bytes (octs ls) u3) row col k1 u1 k2 u2 k3 k4 u4 k5 u5) 5) :: (x, instObj 210 d) :: (d, dictOf (lexD w.params T (i + 2 + ((told ls).length : Int)) row (col + 2 + ((told ls).length : Int)) fl kk1 tt1 kk2 t2 kk3 t3 kk4 t4 kk5) 5) :: (fl, listOf (vs.push (.ref ta)) (n + 1)) :: news) → Q .none { s with heap := h', toks := tk }) :
    wpN (model prog0 w) (ktrTop dp un gd cn cs L a ccd cl outer) (call (.ref 200) [.ref x]) Q E s := by
  w_on
  have hfd : fl ≠ d := Ne.symm hdf
  k_dflt (walk_at "enter")
  rename Lets _ _ _ _ _ => hEL
  rename Ends _ _ _ _ _ _ => hQL
  rename PassesOwn _ _ _ _ => hPE
  refine N_first 1 ?_
  dsimp only [List.take, List.drop]
  walk_at "N go"
  dsimp only
  rename Fr _ _ _ _ => F1
  rename News _ _ _ (_ :: (x, _) :: _) => N1
  obtain ⟨m0, hm0, F1⟩ : ∃ m0, m0 = _ ∧ Fr _ _ _ m0 := ⟨_, rfl, F1⟩
  refine N_cons (N_While4 (RunJ w.params T x d fl i row col kk1 tt1 kk2 tt2 kk3 tt3 kk4 tt4 kk5 vs n news m0 R ls) (RunJ w.params T x d fl i row col kk1 tt1 kk2 tt2 kk3 tt3 kk4 tt4 kk5 vs n news m0 R ls 0) F1 (newsT1 N1) (.inl rfl rfl rfl) ?_ ?_ hPE)
  · subst hm0
    rintro P X n' hnext hexit m₁ news₁ h₁ tk₁ F₁ N₁ (⟨rfl, rfl, rfl⟩ | ⟨rfl, hbn, t2', t3', t4', to, ts, rfl, A1, rfl⟩)
    · obtain ⟨q1, q2, -⟩ := q_facts
      clear F1 N1
      walk_at "N go"
      refine N_one (N_If ?_)
      walk_at "N go"
      refine N_cons (N_AssignSwap (N_Tuple ?_))
      refine N_items_cons (N_method rfl rfl rfl ?_)
      walk_at "N go"
      refine N_callWith_K0 (‹(One.hd.heap_1_39 w.params).In _›.keeps (‹Fr _ _ _ _›).keep) rfl ?_
      walk_at "N string"
      · exact news
      · exact fun q hq => ⟨.tail _ (.tail _ (.tail _ hq)), hnw q hq⟩
      · exact fun why o e => BadE.enter hEL (by assumption) (by assumption) (fun _ _ => rfl) (hE why o e)
      · intro hbn h' tk' t2' t3' t4' t' A' F' N'
        try dsimp only at N'
        try dsimp only
        refine N_items_cons (wpN_any ?_)
        walk_at "N go"
        refine N_items_nil ⟨Nat.le_of_ble_eq_true rfl, ?_⟩
        try dsimp only
        refine push_tup (P := fun a h => wpAny _ _ (unpackItems (.ref a) _ _) _ _ { heap := h, gens := _, drawn := _, toks := _, os := _ }) _ F' N' ?_
        intro ta h2 l2 F2 N2
        simp only [AllLt] at l2
        try dsimp only
        walk_at "N go"
        refine wpN_any ?_
        walk_at "N go"
        rename Fr _ _ _ _ => F9
        rename News _ _ _ _ => N9
        exact hnext _ _ _ _ (0) F9 (newsT1 N9) (Nat.lt_succ_self _) (.inr rfl hbn _ _ _ _ _ (map3' rfl rfl rfl (fun y e1 e2 e3 => by simp only [if_neg e1, if_neg e2, if_neg e3])) A' rfl)
    · obtain ⟨-, -, q3⟩ := q_facts
      clear F1 N1
      cases R with
      | nil =>
        walk_at "N go"
        rename Fr _ _ _ _ => F9
        rename News _ _ _ _ => N9
        exact hexit _ _ _ _ F9 N9 (.inr rfl hbn _ _ _ _ _ rfl A1 rfl)
      | cons h r =>
        obtain ⟨g1, g2⟩ := hR h rfl
        have q5 : (tx [h] != PySem.Str.ofString "") = true := by rw [bne, show PySem.Str.ofString "" = tx [] by decide +kernel, tx_beq, decide_eq_false (by simp)]; rfl
        have q6 : (tx [h] == PySem.Str.ofString "\"") = false := by rw [show PySem.Str.ofString "\"" = tx [34] by decide +kernel, tx_beq, decide_eq_false (by simpa using g1)]
        walk_at "N go"
        rename Fr _ _ _ _ => F9
        rename News _ _ _ _ => N9
        exact hexit _ _ _ _ F9 N9 (.inr rfl hbn _ _ _ _ _ rfl A1 rfl)
  · subst hm0
    rintro h' tk m₂ nx F₂ N₂ (⟨hn, -, -⟩ | ⟨-, hbn, t2', t3', t4', to, ts, rfl, A1, rfl⟩)
    · cases hn
    clear F1 N1
    have hsl : Txt.slice T (some i) (some (i + 2 + ((told ls).length : Int))) = tx (34 :: (told ls ++ [34])) := by
      refine At.part (R := R) (34 :: (told ls ++ [34])) (by simpa using hA) (by simp only [List.length_cons, List.length_append, List.length_nil]; omega)
    have hTx := At.start (34 :: (told ls ++ [34]))
    have hTl : (tx (34 :: (told ls ++ [34]))).length ≤ 100000 := by
      have := hA.len
      rw [tx_len]
      simp only [List.length_cons, List.length_append, List.length_nil] at this ⊢
      have := hA.nonneg
      omega
    obtain ⟨q4, -⟩ := sg_facts
    obtain ⟨q1, q2, q3⟩ := q_facts
    dsimp only
    refine N_consA ?_
    walk_at "N go"
    try dsimp only
    rename Fr _ _ _ _ => F9
    rw [hsl] at F9
    refine wpN_any ?_
    walk_at "N go"
    walk_at "ret"
    rename Fr h₀ _ _ _ => F9
    rename News h₀ _ _ _ => N9
    rename _ < _ ∧ _ < _ ∧ _ < _ ∧ _ < _ ∧ AllLt _ _ => l9
    rename _ < _ => l8
    exact ret hbn _ _ _ _ _ _ _ _ _ _ _ _ _ _ _ _ _ l9.2.2.1 l9.2.2.2.1 l9.2.1 l9.2.2.2.2 l8 A1 F9 (newsDrop N9)
end
local macro_rules | `(tactic| walk_at "N run") => ln ``run_w "BFXNTkaaaaarnaaaaoa__"

-- the part passblock
/-- a block comment's signs behind its opening: what is left, and where -/
noncomputable def blk : Nat → List Nat → Nat → Int → Int → Option (List Nat × Int × Int)
  | _, R, 0, row, col => some (R, row, col)
  | 0, _, _ + 1, _, _ => none
  | n + 1, R, d + 1, row, col =>
    if R.take 2 = [40, 59] then blk n (R.drop 2) (d + 2) row (col + 1 + 1)
    else if R.take 2 = [59, 41] then blk n (R.drop 2) d row (col + 1 + 1)
    else match R with
      | [] => none
      | c :: r => blk n r (d + 1) (nextRow c r row) (nextCol c r col)
section
variable {w : World} {mean : ExcName → Option Value} {mg mb : PySem.Str → Option Value} {loose : List PySem.Str}
   {dp un : Nat} {gd : Option (List Code)} {cn : PySem.Str} {cs : Scope} {a : Addr} {ccd : Value} {cl : List (PySem.Str × Addr)} {outer : List Env} {A₀ : Around} {base h₀ : Heap} {L : Addr} {m : PySem.Str → Option Value} {news : List (Addr × Obj)} {s : Shared}
    {Q E : Value → Shared → Prop} {x d fl : Addr} {T : PySem.Str} {i row col : Int} {k1 t1 k2 t2 k3 t3 k4 t4 k5: Tok} {R R2 : List Nat} {row2 col2 : Int} {fu : Nat} {c c2 : Nat}

/-- what holds between the turns of the loop over a block comment -/
inductive BlockJ (P : Params) (T : PySem.Str) (x d fl : Addr) (k1 t1 k2 k3 k4 k5 : Tok) (news : List (Addr × Obj)) (m0 : PySem.Str → Option Value) (R2 : List Nat) (row2 col2 : Int) (n : Nat) (m₁ : PySem.Str → Option Value) (news₁ : List (Addr × Obj)) : Prop
  | mk (i' row' col' : Int) (R' : List Nat) (dp' : Nat) (t2' t3' t4' td : Tok) (hm : m₁ = fun y => if y = PySem.Str.ofString "depth" then some (.int ((dp' : Nat) : Int) td) else m0 y)
      (hn : news₁ = (x, instObj 210 d) :: (d, dictOf (lexD P T i' row' col' fl k1 t1 k2 t2' k3 t3' k4 t4' k5) 5) :: news) (hA : At T i' R') (hb : blk n R' dp' row' col' = some (R2, row2, col2)) : BlockJ P T x d fl k1 t1 k2 k3 k4 k5 news m0 R2 row2 col2 n m₁ news₁
theorem passblock_w
    (B : Below A₀ base outer h₀) (F : Fr h₀ L s.heap m) (X : (One.hd.heap_1_39 w.params).In h₀) (N : News h₀ L s.heap ((x, instObj 210 d) :: (d, dictOf (lexD w.params T i row col fl k1 t1 k2 t2 k3 t3 k4 t4 k5) 5) :: news)) (TT : Top One.hd.view_1_40 loose mean mg mb h₀) (hk : cs.kind = .function)
    (hxd : x ≠ d) (hnw : ∀ p ∈ news, p.1 ≠ d)
    (hr : dp + 12 < recursionLimit) (hu : un + 60 < cLine) (hT : T.length ≤ 100000) (hA : At T i (40 :: 59 :: R)) (hb : blk fu R 1 row (col + 1 + 1) = some (R2, row2, col2))
    (ret : ∀ i2 h' tk t2 t3 t4, At T i2 R2 → Fr h₀ L h' m → News h₀ L h' ((x, instObj 210 d) :: (d, dictOf (lexD w.params T i2 row2 col2 fl k1 t1 k2 t2 k3 t3 k4 t4 k5) 5) :: news) → Q .none { s with heap := h', toks := tk }) :
    wpAny (model prog0 w) (ktrTop dp un gd cn cs L a ccd cl outer) (call (.ref 172) [.ref x]) Q E s := by
  w_on
  refine wpAny_call ?_
  k_dflt ktr_enter
  ktr_unf
  rename At _ _ _ => A1
  rename Fr _ _ _ _ => F1
  rename News _ _ _ _ => N1
  obtain ⟨m0, hm0, F1⟩ : ∃ m0, m0 = _ ∧ Fr _ _ _ m0 := ⟨_, rfl, F1⟩
  refine A_While3 (BlockJ w.params T x d fl k1 t1 k2 k3 k4 k5 news m0 R2 row2 col2) F1 (by ktr_rel) ⟨_, _, _, _, 1, _, _, _, _, map1 (by rw [hm0]; rfl), rfl, A1, hb⟩ ?_
  subst hm0
  rintro P n hnext m₁ news₁ h₁ tk₁ F₁ N₁ ⟨i', row', col', R', dp', t2', t3', t4', td, rfl, rfl, hA', hb'⟩
  clear F1 N1 A1
  have hlen := hA'.len
  cases dp' with
  | zero =>
    have hz : R' = R2 ∧ row' = row2 ∧ col' = col2 := by cases n <;> simpa [blk] using hb'
    obtain ⟨rfl, rfl, rfl⟩ := hz
    k_steps
    exact ret _ _ _ _ _ _ hA' (by k_asm) (by ktr_rel)
  | succ dp' =>
    cases n with
    | zero => cases hb'
    | succ n =>
      cases R' with
      | nil => exact absurd hb' (by simp [blk])
      | cons c r =>
        unfold blk at hb'
        simp only [List.length_cons] at hlen
        k_steps
        · rename List.take _ _ = _ => q
          rw [if_pos q] at hb'
          obtain ⟨r, rfl, rfl⟩ : ∃ r', c = 40 ∧ r = 59 :: r' := by cases r with
            | nil => cases q
            | cons a r => exact ⟨r, by simpa using q⟩
          k_steps
          rename At _ _ _ => A2
          rename Fr _ _ _ _ => F2
          rename News _ _ _ _ => N2
          exact hnext _ _ _ _ (n) F2 (by ktr_rel) (Nat.lt_succ_self _) ⟨_, _, _, r, dp' + 2, _, _, _, _, map1' rfl (fun y hy => by simp only [if_neg hy]), rfl, A2, hb'⟩
        · rename ¬ List.take _ _ = [40, 59] => q0
          rename List.take _ _ = [59, 41] => q
          rw [if_neg q0, if_pos q] at hb'
          obtain ⟨r, rfl, rfl⟩ : ∃ r', c = 59 ∧ r = 41 :: r' := by cases r with
            | nil => cases q
            | cons a r => exact ⟨r, by simpa using q⟩
          k_steps
          rename At _ _ _ => A2
          rename Fr _ _ _ _ => F2
          rename News _ _ _ _ => N2
          exact hnext _ _ _ _ (n) F2 (by ktr_rel) (Nat.lt_succ_self _) ⟨_, _, _, r, dp', _, _, _, _, map1' (by show some _ = _; congr 2; omega) (fun y hy => by simp only [if_neg hy]), rfl, A2, hb'⟩
        · rename ¬ List.take _ _ = [40, 59] => q0
          rename ¬ List.take _ _ = [59, 41] => q
          rw [if_neg q0, if_neg q] at hb'
          rename At _ _ _ => A2
          rename Fr _ _ _ _ => F2
          rename News _ _ _ _ => N2
          exact hnext _ _ _ _ (n) F2 (by ktr_rel) (Nat.lt_succ_self _) ⟨_, _, _, r, dp' + 1, _, _, _, _, rfl, rfl, A2, hb'⟩
theorem passblock_c {nw : Obj → List (Addr × Obj)}
    (B : Below A₀ base outer h₀) (F : Fr h₀ L s.heap m) (X : (One.hd.heap_1_39 w.params).In h₀) (N : News h₀ L s.heap news) (TT : Top One.hd.view_1_40 loose mean mg mb h₀) (hk : cs.kind = .function)
    (hx : (x, instObj 210 d) ∈ news) (U : ∀ o', Upd d (dictOf (lexD w.params T i row col fl k1 t1 k2 t2 k3 t3 k4 t4 k5) 5) o' news (nw o'))
    (hA : At T i (40 :: 59 :: R)) (hb : blk fu R 1 row (col + 1 + 1) = some (R2, row2, col2)) (hT : T.length ≤ 100000) (hr : dp + 12 < recursionLimit) (hu : un + 60 < cLine)
    (ret : ∀ i2 h' tk t2 t3 t4, At T i2 R2 → Fr h₀ L h' m → News h₀ L h' (nw (dictOf (lexD w.params T i2 row2 col2 fl k1 t1 k2 t2 k3 t3 k4 t4 k5) 5)) → Q .none { s with heap := h', toks := tk }) :
    wpAny (model prog0 w) (ktrTop dp un gd cn cs L a ccd cl outer) (call (.ref 172) [.ref x]) Q E s := by
  have hxd := news_ne N hx (upd_mem (U default))
  obtain ⟨rest, N₁, hne, back⟩ := focus N hx U
  exact passblock_w B F X N₁ TT hk hxd hne hr hu hT hA hb fun i2 h' tk t2 t3 t4 A' F' N' => ret i2 h' tk t2 t3 t4 A' F' (back _ _ N')
end
local macro_rules | `(tactic| walk_at "call ref") => lnAt 172 ``passblock_c "BFXNTkxUaaarn_" "........."

-- the part scan
/-! what the lexer makes of a text, turn by turn -/
inductive TV where
  | str (s : PySem.Str)
  | bytes (b : Array UInt8)
structure Tk where
  sort : PySem.Str
  text : PySem.Str
  val : TV
  row : Int
  col : Int
noncomputable def TV.Is (v : Value) : TV → Prop
  | .str s => ∃ t, v = .str s t
  | .bytes b => ∃ t, v = .bytes b t
noncomputable def TokV (P : Params) (rest : List (Addr × Obj)) (v : Value) (t : Tk) : Prop :=
  ∃ ta td k1 u1 k2 u2 k3 k4 u4 k5 u5 w, v = .ref ta ∧ (ta, instObj 90 td) ∈ rest ∧ (td, dictOf (tokD P t.sort t.text w t.row t.col k1 u1 k2 u2 k3 k4 u4 k5 u5) 5) ∈ rest ∧ t.val.Is w
noncomputable def TokL (P : Params) (rest : List (Addr × Obj)) : List Value → List Tk → Prop
  | [], [] => True
  | v :: vs, t :: ts => TokV P rest v t ∧ TokL P rest vs ts
  | _, _ => False
theorem TokV.mono {P : Params} {rest rest' : List (Addr × Obj)} {v : Value} {t : Tk} (hs : ∀ p ∈ rest, p ∈ rest') (h : TokV P rest v t) : TokV P rest' v t := by
  obtain ⟨ta, td, k1, u1, k2, u2, k3, k4, u4, k5, u5, w, e, h1, h2, h3⟩ := h
  exact ⟨ta, td, k1, u1, k2, u2, k3, k4, u4, k5, u5, w, e, hs _ h1, hs _ h2, h3⟩
theorem TokL.mono {P : Params} {rest rest' : List (Addr × Obj)} (hs : ∀ p ∈ rest, p ∈ rest') : ∀ {vs : List Value} {ts : List Tk}, TokL P rest vs ts → TokL P rest' vs ts
  | [], [], _ => trivial
  | _ :: _, _ :: _, ⟨a, b⟩ => ⟨a.mono hs, TokL.mono hs b⟩
theorem TokL.snoc {P : Params} {rest : List (Addr × Obj)} {v : Value} {t : Tk} (hv : TokV P rest v t) : ∀ {vs : List Value} {ts : List Tk}, TokL P rest vs ts → TokL P rest (vs ++ [v]) (ts ++ [t])
  | [], [], _ => ⟨hv, trivial⟩
  | _ :: _, _ :: _, ⟨a, b⟩ => ⟨a, TokL.snoc hv b⟩
noncomputable def blankish (c : Nat) : Prop := c = 32 ∨ c = 9 ∨ c = 10 ∨ c = 13
noncomputable def lonish (c : Nat) : Prop := c = 44 ∨ c = 59 ∨ c = 91 ∨ c = 93 ∨ c = 123 ∨ c = 125
noncomputable def runEnds (R : List Nat) : Prop := ∀ h, R.head? = some h → h ≠ 34 ∧ (Builtin.Str.occurrences idSigns (tx [h]) 0 idSigns.length 1).isEmpty = true
inductive Scan : Nat → List Nat → Int → Int → List Tk → Option (PySem.Str × Int × Int) → Prop
  | done {row col} : Scan 0 [] row col [] none
  | blank {n c r row col ts o} : blankish c → Scan n r (nextRow c r row) (nextCol c r col) ts o → Scan (n + 1) (c :: r) row col ts o
  | row {n r row col ts o} : Scan n (rowEnd (59 :: 59 :: r)) row (col + (rowCnt (59 :: 59 :: r) : Nat)) ts o → Scan (n + 1) (59 :: 59 :: r) row col ts o
  | block {n r row col ts o fu R2 row2 col2} : blk fu r 1 row (col + 1 + 1) = some (R2, row2, col2) → Scan n R2 row2 col2 ts o → Scan (n + 1) (40 :: 59 :: r) row col ts o
  | paren {n c r row col ts o} : (c = 40 ∧ r.head? ≠ some 59) ∨ c = 41 → Scan n r row (col + 1) ts o → Scan (n + 1) (c :: r) row col (⟨tx [c], tx [c], .str (tx [c]), row, col⟩ :: ts) o
  | lone {n c r row col ts o} : lonish c → (c = 59 → r.head? ≠ some 59) → Scan n r row (col + 1) ts o → Scan (n + 1) (c :: r) row col (⟨PySem.Str.ofString "reserved", tx [c], .str (tx [c]), row, col⟩ :: ts) o
  | str {n ls R row col ts o} : (∀ l ∈ ls, l.ok) → (octs ls).size < 100000 → runEnds R → bads ls (col + 1) = none → Scan n R row (col + 2 + ((told ls).length : Int)) ts o →
      Scan (n + 1) (34 :: (told ls ++ 34 :: R)) row col (⟨PySem.Str.ofString "string", tx (34 :: (told ls ++ [34])), .bytes (octs ls), row, col⟩ :: ts) o
  | bad {n ls R row col why o} : (∀ l ∈ ls, l.ok) → (octs ls).size < 100000 → runEnds R → bads ls (col + 1) = some (why, o) → Scan (n + 1) (34 :: (told ls ++ 34 :: R)) row col [] (some (why, row, o.getD col))
noncomputable abbrev blanksS : PySem.Str := PySem.Str.ofString " \t\n\r"
noncomputable abbrev lonesS : PySem.Str := PySem.Str.ofString ",;[]{}"
noncomputable abbrev parensS : PySem.Str := PySem.Str.ofString "()"
theorem blank_in {c : Nat} (h : blankish c) : (!(Builtin.Str.occurrences blanksS (tx [c]) 0 blanksS.length 1).isEmpty) = true := by
  rcases h with rfl | rfl | rfl | rfl <;> decide +kernel
theorem sg_59 : (!(Builtin.Str.occurrences blanksS (tx [59]) 0 blanksS.length 1).isEmpty) = false := by decide +kernel
theorem sg_40 : (!(Builtin.Str.occurrences blanksS (tx [40]) 0 blanksS.length 1).isEmpty) = false := by decide +kernel
theorem sg_34 : (!(Builtin.Str.occurrences blanksS (tx [34]) 0 blanksS.length 1).isEmpty) = false ∧ (!(Builtin.Str.occurrences parensS (tx [34]) 0 parensS.length 1).isEmpty) = false ∧ (!(Builtin.Str.occurrences lonesS (tx [34]) 0 lonesS.length 1).isEmpty) = false := by decide +kernel
theorem paren_f {c : Nat} {r : List Nat} (h : (c = 40 ∧ r.head? ≠ some 59) ∨ c = 41) : (!(Builtin.Str.occurrences blanksS (tx [c]) 0 blanksS.length 1).isEmpty) = false ∧ decide (List.take 2 (c :: r) = [59, 59]) = false ∧ decide (List.take 2 (c :: r) = [40, 59]) = false ∧ (!(Builtin.Str.occurrences parensS (tx [c]) 0 parensS.length 1).isEmpty) = true ∧ ¬ (c = 10 ∨ c = 13) := by
  rcases h with ⟨rfl, h⟩ | rfl
  · refine ⟨by decide +kernel, by simp, ?_, by decide +kernel, by decide⟩
    cases r with
    | nil => rfl
    | cons a r => simp at h; simp [h]
  · exact ⟨by decide +kernel, by simp, by simp, by decide +kernel, by decide⟩
theorem lone_f {c : Nat} {r : List Nat} (h : lonish c) (h2 : c = 59 → r.head? ≠ some 59) : (!(Builtin.Str.occurrences blanksS (tx [c]) 0 blanksS.length 1).isEmpty) = false ∧ decide (List.take 2 (c :: r) = [59, 59]) = false ∧ decide (List.take 2 (c :: r) = [40, 59]) = false ∧ (!(Builtin.Str.occurrences parensS (tx [c]) 0 parensS.length 1).isEmpty) = false ∧ (!(Builtin.Str.occurrences lonesS (tx [c]) 0 lonesS.length 1).isEmpty) = true ∧ ¬ (c = 10 ∨ c = 13) := by
  rcases h with rfl | rfl | rfl | rfl | rfl | rfl
  case inr.inl =>
    refine ⟨by decide +kernel, ?_, by simp, by decide +kernel, by decide +kernel, by decide⟩
    cases r with
    | nil => rfl
    | cons a r => simp at h2; simp [h2]
  all_goals exact ⟨by decide +kernel, by simp, by simp, by decide +kernel, by decide +kernel, by decide⟩
noncomputable abbrev inB (S : PySem.Str) (c : Nat) : Bool := !(Builtin.Str.occurrences S (tx [c]) 0 S.length 1).isEmpty
theorem no_bool {b : Bool} {P : Prop} (h1 : b = true) (h2 : b = false) : P := by rw [h1] at h2; cases h2
theorem of_f {p P : Prop} [Decidable p] (h : decide p = false) (q : p) : P := absurd q (of_decide_eq_false h)
noncomputable abbrev ScanR := List Nat → Int → Int → List Tk → Option (PySem.Str × Int × Int) → Prop
section
variable (S : ScanR) (c : Nat) (r : List Nat) (row col : Int) (ts : List Tk) (o : Option (PySem.Str × Int × Int))
/-! what is left to scan, by what the lexer's tests find, one after the other -/
noncomputable def TRun : Prop := ∃ ls R, c :: r = 34 :: (told ls ++ 34 :: R) ∧ (∀ l ∈ ls, l.ok) ∧ (octs ls).size < 100000 ∧ runEnds R ∧
  (∀ why o', bads ls (col + 1) = some (why, o') → o = some (why, row, o'.getD col)) ∧
  (bads ls (col + 1) = none → ∃ ts2, ts = ⟨PySem.Str.ofString "string", tx (34 :: (told ls ++ [34])), .bytes (octs ls), row, col⟩ :: ts2 ∧ S R row (col + 2 + ((told ls).length : Int)) ts2 o)
noncomputable def TLone : Prop := (inB lonesS c = true → ∃ ts2, ts = ⟨PySem.Str.ofString "reserved", tx [c], .str (tx [c]), row, col⟩ :: ts2 ∧ ¬ (c = 10 ∨ c = 13) ∧ S r row (col + 1) ts2 o) ∧ (inB lonesS c = false → TRun S c r row col ts o)
noncomputable def TParen : Prop := (inB parensS c = true → ∃ ts2, ts = ⟨tx [c], tx [c], .str (tx [c]), row, col⟩ :: ts2 ∧ ¬ (c = 10 ∨ c = 13) ∧ S r row (col + 1) ts2 o) ∧ (inB parensS c = false → TLone S c r row col ts o)
noncomputable def TBlock : Prop := (List.take 2 (c :: r) = [40, 59] → ∃ r' fu R2 row2 col2, c :: r = 40 :: 59 :: r' ∧ blk fu r' 1 row (col + 1 + 1) = some (R2, row2, col2) ∧ S R2 row2 col2 ts o) ∧ (¬ List.take 2 (c :: r) = [40, 59] → TParen S c r row col ts o)
noncomputable def TRow : Prop := (List.take 2 (c :: r) = [59, 59] → ∃ r', c :: r = 59 :: 59 :: r' ∧ S (rowEnd (59 :: 59 :: r')) row (col + (rowCnt (59 :: 59 :: r') : Nat)) ts o) ∧ (¬ List.take 2 (c :: r) = [59, 59] → TBlock S c r row col ts o)
noncomputable def TBlank : Prop := (inB blanksS c = true → S r (nextRow c r row) (nextCol c r col) ts o) ∧ (inB blanksS c = false → TRow S c r row col ts o)
variable {S c r row col ts o}
theorem TParen.no (g1 : inB blanksS c = false) (g2 : decide (List.take 2 (c :: r) = [59, 59]) = false) (g3 : decide (List.take 2 (c :: r) = [40, 59]) = false) (h : TParen S c r row col ts o) : TBlank S c r row col ts o :=
  And.intro (fun q => no_bool q g1) fun _ => And.intro (of_f g2) fun _ => And.intro (of_f g3) fun _ => h
theorem TLone.no (g1 : inB parensS c = false) (h : TLone S c r row col ts o) : TParen S c r row col ts o := And.intro (fun q => no_bool q g1) fun _ => h
theorem TRun.no (h : TRun S 34 r row col ts o) : TBlank S 34 r row col ts o :=
  TParen.no sg_34.1 (decide_eq_false (by simp)) (decide_eq_false (by simp)) (TLone.no sg_34.2.1 (And.intro (fun q => no_bool q sg_34.2.2) fun _ => h))
end
/-- a turn, by what the lexer's tests find -/
theorem scan_go {k : Nat} {R : List Nat} {row col : Int} {ts : List Tk} {o : Option (PySem.Str × Int × Int)} (h : Scan k R row col ts o) {c : Nat} {r : List Nat} (e : R = c :: r) : ∃ n, n < k ∧ TBlank (Scan n) c r row col ts o := by
  cases h with
  | done => cases e
  | blank hb h2 => cases e; exact ⟨_, Nat.lt_succ_self _, And.intro (fun _ => h2) fun q => no_bool (blank_in hb) q⟩
  | row h2 => cases e; exact ⟨_, Nat.lt_succ_self _, And.intro (fun q => no_bool q sg_59) fun _ => And.intro (fun _ => ⟨_, rfl, h2⟩) fun q => absurd rfl q⟩
  | block hb h2 => cases e; exact ⟨_, Nat.lt_succ_self _, And.intro (fun q => no_bool q sg_40) fun _ => And.intro (fun q => absurd q (by simp)) fun _ => And.intro (fun _ => ⟨_, _, _, _, _, rfl, hb, h2⟩) fun q => absurd rfl q⟩
  | paren hp h2 =>
    cases e
    obtain ⟨g1, g2, g3, g4, g5⟩ := paren_f hp
    exact ⟨_, Nat.lt_succ_self _, TParen.no g1 g2 g3 (And.intro (fun _ => ⟨_, rfl, g5, h2⟩) fun q => no_bool g4 q)⟩
  | lone h1 h2 h3 =>
    cases e
    obtain ⟨g1, g2, g3, g4, g5, g6⟩ := lone_f h1 h2
    exact ⟨_, Nat.lt_succ_self _, TParen.no g1 g2 g3 (TLone.no g4 (And.intro (fun _ => ⟨_, rfl, g6, h3⟩) fun q => no_bool g5 q))⟩
  | str h1 h2 h3 h4 h5 =>
    cases e
    exact ⟨_, Nat.lt_succ_self _, TRun.no ⟨_, _, rfl, h1, h2, h3, fun why o' e => (by rw [h4] at e; cases e), fun _ => ⟨_, rfl, h5⟩⟩⟩
  | bad h1 h2 h3 h4 =>
    cases e
    exact ⟨_, Nat.lt_succ_self _, TRun.no ⟨_, _, rfl, h1, h2, h3, fun why o' e => (by rw [h4] at e; cases e; rfl), fun e => (by rw [h4] at e; cases e)⟩⟩
theorem ite_isF {b : Bool} {p q : Prop} (h : b = false) (hq : q) : if b = true then p else q := by rw [h]; exact hq
local macro_rules | `(tactic| walk_at "ite") => `(tactic| (k_here; first | (refine ite_isF (by with_reducible assumption) ?_) | (refine ite_pos (by with_reducible assumption) ?_)))

-- the part whole
section
variable {w : World} {mean : ExcName → Option Value} {mg mb : PySem.Str → Option Value} {loose : List PySem.Str}
   {dp un : Nat} {gd : Option (List Code)} {cn : PySem.Str} {cs : Scope} {a : Addr} {ccd : Value} {cl : List (PySem.Str × Addr)} {outer : List Env} {A₀ : Around} {base h₀ : Heap} {L : Addr} {m : PySem.Str → Option Value} {news kept : List (Addr × Obj)} {s : Shared}
    {Q E : Value → Shared → Prop} {x d fl : Addr} {T : PySem.Str} {i row col : Int} {kk1 tt1 kk2 tt2 kk3 tt3 kk4 tt4 kk5 : Tok} {R ds : List Nat} {c n n0 : Nat} {v : Int} {ls : List Ltr} {total : List Tk} {out : Option (PySem.Str × Int × Int)}
theorem is_str {S : PySem.Str} {t : Tok} : TV.Is (.str S t) (.str S) := ⟨_, rfl⟩
theorem is_bytes {S : Array UInt8} {t : Tok} : TV.Is (.bytes S t) (.bytes S) := ⟨_, rfl⟩
theorem newsTok {h₀ h : Heap} {L : Addr} {a b c d e : Addr × Obj} {l : List (Addr × Obj)} (N : News h₀ L h (a :: b :: c :: d :: e :: l)) : News h₀ L h (c :: d :: e :: a :: b :: l) := fun p hp => by
  rcases List.mem_cons.mp hp with rfl | hp
  · exact N _ (.tail _ (.tail _ (.head _)))
  rcases List.mem_cons.mp hp with rfl | hp
  · exact N _ (.tail _ (.tail _ (.tail _ (.head _))))
  rcases List.mem_cons.mp hp with rfl | hp
  · exact N _ (.tail _ (.tail _ (.tail _ (.tail _ (.head _)))))
  rcases List.mem_cons.mp hp with rfl | hp
  · exact N _ (.head _)
  rcases List.mem_cons.mp hp with rfl | hp
  · exact N _ (.tail _ (.head _))
  · exact N _ (.tail _ (.tail _ (.tail _ (.tail _ (.tail _ hp)))))
theorem all2 {q1 q2 : Addr × Obj} {l : List (Addr × Obj)} {d : Addr} (h1 : q1.1 ≠ d) (h2 : q2.1 ≠ d) (h : ∀ p ∈ l, p.1 ≠ d) : ∀ p ∈ q1 :: q2 :: l, p.1 ≠ d := fun p hp => by
  rcases List.mem_cons.mp hp with rfl | hp
  · exact h1
  rcases List.mem_cons.mp hp with rfl | hp
  · exact h2
  · exact h p hp
/-- what holds between the turns of the lexer's loop -/
inductive WholeJ (P : Params) (T : PySem.Str) (x d fl : Addr) (kk1 tt1 kk2 kk3 kk4 kk5 : Tok) (news : List (Addr × Obj)) (m0 : PySem.Str → Option Value) (total : List Tk) (out : Option (PySem.Str × Int × Int)) : Nat → (PySem.Str → Option Value) → List (Addr × Obj) → Prop
  | mk {k : Nat} {m₁ : PySem.Str → Option Value} {news₁ : List (Addr × Obj)} (i' row' col' : Int) (R' : List Nat) (ts' : List Tk) (t2' t3' t4' : Tok) (vs : Array Value) (dn : List Tk) (rest : List (Addr × Obj)) (n' : Nat) (sv : Option Value)
      (hm : m₁ = fun y => if y = PySem.Str.ofString "sign" then sv else m0 y) (hn : news₁ = (x, instObj 210 d) :: (d, dictOf (lexD P T i' row' col' fl kk1 tt1 kk2 t2' kk3 t3' kk4 t4' kk5) 5) :: (fl, listOf vs n') :: rest) (hA : At T i' R') (hS : Scan k R' row' col' ts' out)
      (hTk : TokL P rest vs.toList dn) (hdn : dn ++ ts' = total) (hin : ∀ p ∈ news, p ∈ rest) (hr1 : ∀ p ∈ rest, p.1 ≠ d) (hr2 : ∀ p ∈ rest, p.1 ≠ fl) (hsz : vs.size = dn.length) : WholeJ P T x d fl kk1 tt1 kk2 kk3 kk4 kk5 news m0 total out k m₁ news₁
/-- a turn that has made a token -/
theorem WholeJ.tok {P : Params} {T : PySem.Str} {x d fl ta td : Addr} {kk1 tt1 kk2 kk3 kk4 kk5 : Tok} {m0 m₁ : PySem.Str → Option Value} {total dn ts' : List Tk} {out : Option (PySem.Str × Int × Int)} {i' row' col' : Int} {R' : List Nat} {t2' t3' t4' : Tok} {vs : Array Value} {rest : List (Addr × Obj)} {n' k : Nat} {sv : Option Value} {h : Heap} {G : Prop}
    {t : Tk} {wv : Value} {j1 u1 j2 u2 j3 j4 u4 j5 u5 : Tok} (next : ∀ nx, News h₀ L h nx → WholeJ P T x d fl kk1 tt1 kk2 kk3 kk4 kk5 news m0 total out k m₁ nx → G)
    (N : News h₀ L h ((ta, instObj 90 td) :: (td, dictOf (tokD P t.sort t.text wv t.row t.col j1 u1 j2 u2 j3 j4 u4 j5 u5) 5) :: (x, instObj 210 d) :: (d, dictOf (lexD P T i' row' col' fl kk1 tt1 kk2 t2' kk3 t3' kk4 t4' kk5) 5) :: (fl, listOf (vs.push (.ref ta)) (n' + 1)) :: rest))
    (hm : m₁ = fun y => if y = PySem.Str.ofString "sign" then sv else m0 y) (hA : At T i' R') (hS : Scan k R' row' col' ts' out) (hTk : TokL P rest vs.toList dn) (hdn : dn ++ t :: ts' = total) (hin : ∀ p ∈ news, p ∈ rest) (hr1 : ∀ p ∈ rest, p.1 ≠ d) (hr2 : ∀ p ∈ rest, p.1 ≠ fl) (hsz : vs.size = dn.length)
    (l1 : @LT.lt Nat _ d td) (l2 : @LT.lt Nat _ fl td) (l3 : @LT.lt Nat _ td ta) (hv : t.val.Is wv) : G :=
  next _ (newsTok N) ⟨_, _, _, _, _, _, _, _, _, dn ++ [t], _, _, sv, hm, rfl, hA, hS,
    by rw [Array.toList_push]; exact TokL.snoc ⟨_, _, _, _, _, _, _, _, _, _, _, _, rfl, .head _, .tail _ (.head _), hv⟩ (hTk.mono fun p hp => .tail _ (.tail _ hp)),
    by rw [List.append_assoc]; exact hdn, fun p hp => .tail _ (.tail _ (hin p hp)), all2 (Nat.ne_of_gt (Nat.lt_trans l1 l3)) (Nat.ne_of_gt l1) hr1, all2 (Nat.ne_of_gt (Nat.lt_trans l2 l3)) (Nat.ne_of_gt l2) hr2,
    by rw [Array.size_push, List.length_append, hsz]; rfl⟩
theorem whole_w
    (B : Below A₀ base outer h₀) (F : Fr h₀ L s.heap m) (X : (One.hd.heap_1_39 w.params).In h₀) (N : News h₀ L s.heap ((x, instObj 210 d) :: (d, dictOf (lexD w.params T i row col fl kk1 tt1 kk2 tt2 kk3 tt3 kk4 tt4 kk5) 5) :: (fl, listOf #[] n) :: news)) (TT : Top One.hd.view_1_40 loose mean mg mb h₀) (hk : cs.kind = .function)
    (hxd : x ≠ d) (hxf : x ≠ fl) (hdf : d ≠ fl) (hnw : ∀ p ∈ news, p.1 ≠ d) (hnf : ∀ p ∈ news, p.1 ≠ fl)
    (hr : dp + 50 < recursionLimit) (hu : un + 360 < cLine) (hT : T.length ≤ 100000) (hA : At T i R) (hS : Scan n0 R row col total out) (hz : total.length < 900)
    (hE : ∀ why r c, out = some (why, r, c) → BadE w.params base (envX cn cs L a ccd cl :: outer) h₀ L m why r c news E s)
    (ret : out = none → ∀ h' tk vs n' rest, Fr h₀ L h' m → News h₀ L h' ((fl, listOf vs n') :: rest) → TokL w.params rest vs.toList total → (∀ p ∈ news, p ∈ rest) → Q (.ref fl) { s with heap := h', toks := tk }) :
    wpN (model prog0 w) (ktrTop dp un gd cn cs L a ccd cl outer) (call (.ref 207) [.ref x]) Q E s := by
  w_on
  have hfd : fl ≠ d := Ne.symm hdf
  k_dflt (walk_at "enter")
  rename Lets _ _ _ _ _ => hEL
  rename Ends _ _ _ _ _ _ => hQL
  rename PassesOwn _ _ _ _ => hPE
  rename Fr _ _ _ _ => F1
  rename News _ _ _ _ => N1
  obtain ⟨m0, hm0, F1⟩ : ∃ m0, m0 = _ ∧ Fr _ _ _ m0 := ⟨_, rfl, F1⟩
  refine N_cons (N_While3 (WholeJ w.params T x d fl kk1 tt1 kk2 kk3 kk4 kk5 news m0 total out) F1 N1
    ⟨i, row, col, R, total, _, _, _, #[], [], news, n, none, map1 (by rw [hm0]; rfl), rfl, hA, hS, trivial, rfl, fun _ h => h, hnw, hnf, rfl⟩ ?_ hPE)
  subst hm0
  rintro P k hnext m₁ news₁ h₁ tk₁ F₁ N₁ ⟨i', row', col', R', ts', t2', t3', t4', vs, dn, rest, n', sv, rfl, rfl, hA', hS', hTk, hdn, hin, hr1, hr2, hsz⟩
  clear F1 N1
  have hlen := hA'.len
  have hroom : vs.size < 1000 := by
    have := congrArg List.length hdn
    rw [List.length_append] at this
    omega
  cases R' with
  | nil =>
    cases hS'
    simp only [List.length_nil] at hlen
    walk_at "N go"
    refine wpN_any ?_
    walk_at "N go"
    walk_at "ret"
    rename Fr h₀ _ _ _ => F9
    rename News h₀ _ _ _ => N9
    rw [List.append_nil] at hdn
    subst hdn
    exact ret rfl _ _ _ _ _ F9 (newsT1 (newsT1 N9)) hTk hin
  | cons c r =>
    simp only [List.length_cons] at hlen
    walk_at "N go"
    refine N_consA ?_
    walk_at "N go"
    dsimp only
    obtain ⟨k2, hk2, g1, g2⟩ := scan_go hS' rfl
    refine N_one (N_If ?_)
    walk_at "N go"
    rotate_left
    · rename _ = false => q1
      replace q1 := congrArg Bool.not q1
      have hS2 := g1 q1
      refine wpN_any ?_
      walk_at "N go"
      rename At _ _ _ => A2
      rename Fr _ _ _ _ => F2
      rename News _ _ _ _ => N2
      exact hnext _ _ _ _ (_) F2 (N2) hk2 ⟨_, _, _, _, ts', _, _, _, vs, dn, rest, _, _, map1' rfl (fun y hy => by simp only [if_neg hy]), rfl, A2, hS2, hTk, hdn, hin, hr1, hr2, hsz⟩
    rename _ = true => q1
    obtain ⟨g3, g4⟩ := g2 (congrArg Bool.not q1)
    refine N_one (N_If ?_)
    walk_at "N go"
    · rename List.take _ _ = _ => q2
      obtain ⟨r, e, hS2⟩ := g3 q2
      cases e
      refine wpN_any ?_
      walk_at "N go"
      rename At _ _ _ => A2
      rename Fr _ _ _ _ => F2
      rename News _ _ _ _ => N2
      exact hnext _ _ _ _ (_) F2 (N2) hk2 ⟨_, _, _, _, ts', _, _, _, vs, dn, rest, _, _, map1' rfl (fun y hy => by simp only [if_neg hy]), rfl, A2, hS2, hTk, hdn, hin, hr1, hr2, hsz⟩
    rename ¬ List.take _ _ = _ => q2
    obtain ⟨g5, g6⟩ := g4 q2
    refine N_one (N_If ?_)
    walk_at "N go"
    · rename List.take _ _ = _ => q3
      obtain ⟨r, fu, R2, row2, col2, e, hb, hS2⟩ := g5 q3
      cases e
      refine wpN_any ?_
      walk_at "N go"
      rename At _ _ _ => A2
      rename Fr _ _ _ _ => F2
      rename News _ _ _ _ => N2
      exact hnext _ _ _ _ (_) F2 (N2) hk2 ⟨_, _, _, _, ts', _, _, _, vs, dn, rest, _, _, map1' rfl (fun y hy => by simp only [if_neg hy]), rfl, A2, hS2, hTk, hdn, hin, hr1, hr2, hsz⟩
    rename ¬ List.take _ _ = _ => q3
    obtain ⟨g7, g8⟩ := g6 q3
    refine N_one (N_If ?_)
    walk_at "N go"
    rotate_left
    · rename _ = false => q4
      replace q4 := congrArg Bool.not q4
      obtain ⟨ts2, rfl, q9, hS2⟩ := g7 q4
      refine wpN_any ?_
      walk_at "N go"
      rename At _ _ _ => A2
      rename Fr _ _ _ _ => F2
      rename News _ _ _ _ => N2
      rename _ < _ ∧ _ < _ ∧ _ < _ ∧ AllLt _ _ => l9
      rename _ < _ => l8
      rw [nextRow_other q9, nextCol_other q9] at N2
      exact WholeJ.tok (t := ⟨tx [c], tx [c], .str (tx [c]), row', col'⟩) (fun nx N3 J => hnext _ _ _ _ _ F2 N3 hk2 J) N2 (map1' rfl (fun y hy => by simp only [if_neg hy])) A2 hS2 hTk hdn hin hr1 hr2 hsz l9.2.1 l9.2.2.1 l8 is_str
    rename _ = true => q4
    obtain ⟨g9, g10⟩ := g8 (congrArg Bool.not q4)
    refine N_one (N_If ?_)
    walk_at "N go"
    rotate_left
    · rename _ = false => q5
      replace q5 := congrArg Bool.not q5
      obtain ⟨ts2, rfl, q9, hS2⟩ := g9 q5
      refine wpN_any ?_
      walk_at "N go"
      rename At _ _ _ => A2
      rename Fr _ _ _ _ => F2
      rename News _ _ _ _ => N2
      rename _ < _ ∧ _ < _ ∧ _ < _ ∧ AllLt _ _ => l9
      rename _ < _ => l8
      rw [nextRow_other q9, nextCol_other q9] at N2
      exact WholeJ.tok (t := ⟨PySem.Str.ofString "reserved", tx [c], .str (tx [c]), row', col'⟩) (fun nx N3 J => hnext _ _ _ _ _ F2 N3 hk2 J) N2 (map1' rfl (fun y hy => by simp only [if_neg hy])) A2 hS2 hTk hdn hin hr1 hr2 hsz l9.2.1 l9.2.2.1 l8 is_str
    rename _ = true => q5
    obtain ⟨ls, r, e, h1, h2, h3, h4, h5⟩ := g10 (congrArg Bool.not q5)
    cases e
    obtain ⟨-, q6, -⟩ := q_facts
    refine N_one (N_If ?_)
    walk_at "N go"
    refine N_one (N_Expr (N_method rfl rfl rfl ?_))
    walk_at "N go"
    refine N_callWith_K0 (‹(One.hd.heap_1_39 w.params).In _›.keeps (‹Fr _ _ _ _›).keep) rfl ?_
    walk_at "N run"
    · intro why o e
      exact (BadE.enter hEL (by assumption) (by assumption) (fun _ _ => rfl) (hE _ _ _ (h4 _ _ e))).mono hin
    · intro hbn h' tk' t2' t3' t4' ta td k1 u1 k2 u2 k3 u3 k4 u4 k5 u5 l1 l2 l3 l4 l5 A2 F2 N2
      obtain ⟨ts2, rfl, hS2⟩ := h5 hbn
      dsimp only
      exact WholeJ.tok (t := ⟨PySem.Str.ofString "string", tx (34 :: (told ls ++ [34])), .bytes (octs ls), row', col'⟩) (fun nx N3 J => hnext _ _ _ _ _ F2 N3 hk2 J) N2 (map1' rfl (fun y hy => by simp only [if_neg hy])) A2 hS2 hTk hdn hin hr1 hr2 hsz l1 l2 l5 is_bytes
end

-- the part tokens
theorem newsRot {h₀ h : Heap} {L : Addr} {a b c : Addr × Obj} {l : List (Addr × Obj)} (N : News h₀ L h (c :: a :: b :: l)) : News h₀ L h (a :: b :: c :: l) := fun p hp => by
  rcases List.mem_cons.mp hp with rfl | hp
  · exact N _ (.tail _ (.head _))
  rcases List.mem_cons.mp hp with rfl | hp
  · exact N _ (.tail _ (.tail _ (.head _)))
  rcases List.mem_cons.mp hp with rfl | hp
  · exact N _ (.head _)
  · exact N _ (.tail _ (.tail _ (.tail _ hp)))
section
variable {w : World} {mean : ExcName → Option Value} {mg mb : PySem.Str → Option Value} {loose : List PySem.Str}
   {dp un : Nat} {gd : Option (List Code)} {cn : PySem.Str} {cs : Scope} {a : Addr} {ccd : Value} {cl : List (PySem.Str × Addr)} {outer : List Env} {A₀ : Around} {base h₀ : Heap} {L : Addr} {m : PySem.Str → Option Value} {news kept : List (Addr × Obj)} {s : Shared}
    {Q E : Value → Shared → Prop} {R : List Nat} {n0 : Nat} {total : List Tk} {out : Option (PySem.Str × Int × Int)} {t : Tok}
theorem tokens_c
    (B : Below A₀ base outer h₀) (F : Fr h₀ L s.heap m) (X : (One.hd.heap_1_39 w.params).In h₀) (N : News h₀ L s.heap news) (TT : Top One.hd.view_1_40 loose mean mg mb h₀) (hk : cs.kind = .function)
    (hr : dp + 60 < recursionLimit) (hu : un + 400 < cLine) (hT : R.length ≤ 100000) (hS : Scan n0 R 1 1 total out) (hz : total.length < 900)
    (hE : ∀ why r c, out = some (why, r, c) → BadE w.params base (envX cn cs L a ccd cl :: outer) h₀ L m why r c news E s)
    (ret : out = none → ∀ h' tk fl vs n' rest, Fr h₀ L h' m → News h₀ L h' ((fl, listOf vs n') :: rest) → TokL w.params rest vs.toList total → (∀ p ∈ news, p ∈ rest) → Q (.ref fl) { s with heap := h', toks := tk }) :
    wpN (model prog0 w) (ktrTop dp un gd cn cs L a ccd cl outer) (call (.ref 221) [.str (tx R) t]) Q E s := by
  w_on
  refine wpN_call ?_
  k_dflt ktr_enter
  refine N_cons (N_Return (N_method rfl rfl rfl ?_))
  walk_at "N go"
  refine N_callWith_K0 (‹(One.hd.heap_1_39 w.params).In _›.keeps (‹Fr _ _ _ _›).keep) rfl ?_
  rename Fr _ _ _ _ => F1
  rename News _ _ _ _ => N1
  rename ∀ p ∈ news, p.1 < _ => l1
  refine whole_w (R := R) (out := out) (total := total) (n0 := n0) (by assumption) F1 (by assumption) (newsRot N1) (by assumption) rfl (Ne.symm (Nat.ne_of_lt (by assumption))) (Nat.ne_of_lt (by assumption)) (Nat.ne_of_lt (Nat.lt_trans (by assumption) (by assumption)))
    (fun p hp => Nat.ne_of_lt (l1 p hp)) (fun p hp => Nat.ne_of_lt (Nat.lt_trans (l1 p hp) (Nat.lt_trans (by assumption) (by assumption)))) (by ktr_room) (by ktr_units) (by rw [tx_len]; exact hT) (At.start R) hS hz ?_ ?_
  · exact fun why r c e => BadE.deeper (by assumption) (by assumption) (fun _ _ => rfl) (hE why r c e)
  · intro e h' tk' vs n' rest F' N' T' hin
    dsimp only
    walk_at "N go"
    rename Fr h₀ _ _ _ => F9
    rename News h₀ _ _ _ => N9
    exact ret e _ _ _ _ _ _ F9 N9 T' hin
end
local macro_rules | `(tactic| walk_at "N tokens") => ln ``tokens_c "BFXNTkrnaaa__"

-- the part lpure
/-! what stands ahead of the string and behind it, as the lexer reads it -/
section
variable {n : Nat} {R : List Nat} {row col : Int} {ts : List Tk} {o : Option (PySem.Str × Int × Int)}
theorem sc_nl (h : Scan n R (row + 1) 1 ts o) : Scan (n + 1) (10 :: R) row col ts o :=
  .blank (.inr (.inr (.inl rfl))) (by rw [nextRow, nextCol, if_pos (.inl rfl), if_pos (.inl rfl)]; exact h)
theorem sc_cr (hR : R.head? ≠ some 10) (h : Scan n R (row + 1) 1 ts o) : Scan (n + 1) (13 :: R) row col ts o :=
  .blank (.inr (.inr (.inr rfl))) (by rw [nextRow, nextCol, if_pos (.inr ⟨rfl, hR⟩), if_pos (.inr ⟨rfl, hR⟩)]; exact h)
theorem sc_crn (h : Scan n (10 :: R) row (col + 1) ts o) : Scan (n + 1) (13 :: 10 :: R) row col ts o :=
  .blank (.inr (.inr (.inr rfl))) (by rw [nextRow, nextCol, if_neg (by simp), if_neg (by simp)]; exact h)
theorem sc_sp (h : Scan n R row (col + 1) ts o) : Scan (n + 1) (32 :: R) row col ts o :=
  .blank (.inl rfl) (by rw [nextRow, nextCol, if_neg (by simp), if_neg (by simp)]; exact h)
theorem sc_tab (h : Scan n R row (col + 1) ts o) : Scan (n + 1) (9 :: R) row col ts o :=
  .blank (.inr (.inl rfl)) (by rw [nextRow, nextCol, if_neg (by simp), if_neg (by simp)]; exact h)
end
/-- a token that stands ahead -/
noncomputable def tokA (p : Nat × Int × Int) : Tk := ⟨PySem.Str.ofString "reserved", tx [p.1], .str (tx [p.1]), p.2.1, p.2.2⟩
noncomputable def AheadScan (A : List Nat) (toks : List (Nat × Int × Int)) (r c : Int) : Prop :=
  ∀ n R ts o, R.head? = some 34 → Scan n R r c ts o → ∃ n', Scan n' (A ++ R) 1 1 (toks.map tokA ++ ts) o
noncomputable def litA (A : List Nat) (toks : List (Nat × Int × Int)) (r c : Int) : Lit := .tup [.str (tx A), .list (toks.map fun p => .tup [.str (tx [p.1]), .int p.2.1, .int p.2.2]), .int r, .int c]
noncomputable def aheadT : List (List Nat × List (Nat × Int × Int) × Int × Int) :=
  [([], [], 1, 1),
   ([59, 59, 32, 97, 10], [], 2, 1),
   ([59, 59, 32, 97, 59, 41, 34, 13], [], 2, 1),
   ([59, 59, 13, 10], [], 2, 1),
   ([40, 59, 10, 13, 59, 41, 32], [], 3, 4),
   ([40, 59, 59, 41], [], 1, 5),
   ([40, 59, 32, 40, 59, 59, 41, 13, 10, 41, 32, 59, 41], [], 2, 5),
   ([10, 13, 13, 10], [], 4, 1),
   ([59, 32], [(59, 1, 1)], 1, 3),
   ([9, 59, 10, 123], [(59, 1, 2), (123, 2, 1)], 2, 2),
   ([93, 44, 13, 59], [(93, 1, 1), (44, 1, 2), (59, 2, 1)], 2, 2)]
theorem ahead_lits : aheadRows = aheadT.map fun p => litA p.1 p.2.1 p.2.2.1 p.2.2.2 := by
  have e : ∀ {a b : PySem.Str}, a = b → a = b := id
  rw [aheadRows, aheadT]
  simp only [List.map_cons, List.map_nil, litA, lRow, lS,
    show PySem.Str.ofString "" = tx [] by decide +kernel,
    show PySem.Str.ofString "\t;\n{" = tx [9, 59, 10, 123] by decide +kernel,
    show PySem.Str.ofString "\n\r\r\n" = tx [10, 13, 13, 10] by decide +kernel,
    show PySem.Str.ofString "(;\n\r;) " = tx [40, 59, 10, 13, 59, 41, 32] by decide +kernel,
    show PySem.Str.ofString "(; (;;)\r\n) ;)" = tx [40, 59, 32, 40, 59, 59, 41, 13, 10, 41, 32, 59, 41] by decide +kernel,
    show PySem.Str.ofString "(;;)" = tx [40, 59, 59, 41] by decide +kernel,
    show PySem.Str.ofString "," = tx [44] by decide +kernel,
    show PySem.Str.ofString ";" = tx [59] by decide +kernel,
    show PySem.Str.ofString "; " = tx [59, 32] by decide +kernel,
    show PySem.Str.ofString ";;\r\n" = tx [59, 59, 13, 10] by decide +kernel,
    show PySem.Str.ofString ";; a\n" = tx [59, 59, 32, 97, 10] by decide +kernel,
    show PySem.Str.ofString ";; a;)\"\r" = tx [59, 59, 32, 97, 59, 41, 34, 13] by decide +kernel,
    show PySem.Str.ofString "]" = tx [93] by decide +kernel,
    show PySem.Str.ofString "],\r;" = tx [93, 44, 13, 59] by decide +kernel,
    show PySem.Str.ofString "{" = tx [123] by decide +kernel]
theorem not10 {R : List Nat} (h : R.head? = some 34) : R.head? ≠ some 10 := by rw [h]; simp
theorem not59 {R : List Nat} (h : R.head? = some 34) : R.head? ≠ some 59 := by rw [h]; simp
theorem ahead_scans : ∀ p ∈ aheadT, AheadScan p.1 p.2.1 p.2.2.1 p.2.2.2 := by
  simp only [aheadT, List.forall_mem_cons]
  refine ⟨?_, ?_, ?_, ?_, ?_, ?_, ?_, ?_, ?_, ?_, ?_, fun _ h => nomatch h⟩
  · intro n R ts o hR h
    exact ⟨_, h⟩
  · intro n R ts o hR h
    exact ⟨_, Scan.row (show Scan _ (10 :: R) 1 5 _ _ from sc_nl h)⟩
  · intro n R ts o hR h
    exact ⟨_, Scan.row (show Scan _ (13 :: R) 1 8 _ _ from sc_cr (not10 hR) h)⟩
  · intro n R ts o hR h
    exact ⟨_, Scan.row (show Scan _ (13 :: 10 :: R) 1 3 _ _ from sc_crn (sc_nl h))⟩
  · intro n R ts o hR h
    exact ⟨_, Scan.block (fu := 20) (R2 := 32 :: R) (row2 := 3) (col2 := 3) rfl (sc_sp h)⟩
  · intro n R ts o hR h
    exact ⟨_, Scan.block (fu := 20) (R2 := R) (row2 := 1) (col2 := 5) rfl h⟩
  · intro n R ts o hR h
    exact ⟨_, Scan.block (fu := 20) (R2 := R) (row2 := 2) (col2 := 5) rfl h⟩
  · intro n R ts o hR h
    exact ⟨_, sc_nl (sc_cr (by simp) (sc_crn (sc_nl h)))⟩
  · intro n R ts o hR h
    exact ⟨_, Scan.lone (.inr (.inl rfl)) (fun _ => by simp) (sc_sp h)⟩
  · intro n R ts o hR h
    exact ⟨_, sc_tab (Scan.lone (.inr (.inl rfl)) (fun _ => by simp) (sc_nl (Scan.lone (.inr (.inr (.inr (.inr (.inl rfl))))) (fun q => by simp at q) h)))⟩
  · intro n R ts o hR h
    exact ⟨_, Scan.lone (.inr (.inr (.inr (.inl rfl)))) (fun q => by simp at q) (Scan.lone (.inl rfl) (fun q => by simp at q) (sc_cr (by simp) (Scan.lone (.inr (.inl rfl)) (fun _ => not59 hR) h)))⟩
/-- a token that stands behind; the string ends at row, col -/
noncomputable def tokB (row col : Int) (p : PySem.Str × PySem.Str × Int × Int) : Tk := ⟨p.1, p.2.1, .str p.2.1, row + p.2.2.1, if p.2.2.1 > 0 then p.2.2.2 else col⟩
noncomputable def BehindScan (B : List Nat) (toks : List (PySem.Str × PySem.Str × Int × Int)) : Prop := runEnds B ∧ ∀ row col, ∃ n, Scan n B row col (toks.map (tokB row col)) none
noncomputable def litB (B : List Nat) (toks : List (PySem.Str × PySem.Str × Int × Int)) : Lit := .tup [.str (tx B), .list (toks.map fun p => .tup [.str p.1, .str p.2.1, .int p.2.2.1, .int p.2.2.2])]
noncomputable def behindT : List (List Nat × List (PySem.Str × PySem.Str × Int × Int)) :=
  [([], []),
   ([32, 59, 59, 32, 34], []),
   ([40, 59, 34, 59, 41], []),
   ([59], [(PySem.Str.ofString "reserved", PySem.Str.ofString ";", 0, 0)]),
   ([13, 10, 41], [(PySem.Str.ofString ")", PySem.Str.ofString ")", 1, 1)]),
   ([40], [(PySem.Str.ofString "(", PySem.Str.ofString "(", 0, 0)]),
   ([10], []),
   ([59, 59], []),
   ([13, 40, 59, 59, 41, 59], [(PySem.Str.ofString "reserved", PySem.Str.ofString ";", 1, 5)])]
theorem behind_lits : behindRows = behindT.map fun p => litB p.1 p.2 := by
  rw [behindRows, behindT]
  simp only [List.map_cons, List.map_nil, litB, bRow, lS]
  rw [show tx [] = PySem.Str.ofString "" by decide +kernel, show tx [10] = PySem.Str.ofString "\n" by decide +kernel, show tx [13, 10, 41] = PySem.Str.ofString "\r\n)" by decide +kernel, show tx [13, 40, 59, 59, 41, 59] = PySem.Str.ofString "\r(;;);" by decide +kernel, show tx [32, 59, 59, 32, 34] = PySem.Str.ofString " ;; \"" by decide +kernel, show tx [40] = PySem.Str.ofString "(" by decide +kernel, show tx [40, 59, 34, 59, 41] = PySem.Str.ofString "(;\";)" by decide +kernel, show tx [59] = PySem.Str.ofString ";" by decide +kernel, show tx [59, 59] = PySem.Str.ofString ";;" by decide +kernel]
theorem behind_scans : ∀ p ∈ behindT, BehindScan p.1 p.2 := by
  have e59 : PySem.Str.ofString ";" = tx [59] := by decide +kernel
  have e41 : PySem.Str.ofString ")" = tx [41] := by decide +kernel
  have e40 : PySem.Str.ofString "(" = tx [40] := by decide +kernel
  have re : ∀ {h r}, h ≠ 34 → (Builtin.Str.occurrences idSigns (tx [h]) 0 idSigns.length 1).isEmpty = true → runEnds (h :: r) := fun h1 h2 h' e => by cases e; exact ⟨h1, h2⟩
  simp only [behindT, List.forall_mem_cons, e59, e41, e40]
  refine ⟨⟨(fun h e => nomatch e), ?_⟩, ⟨re (by decide) (by decide +kernel), ?_⟩, ⟨re (by decide) (by decide +kernel), ?_⟩, ⟨re (by decide) (by decide +kernel), ?_⟩, ⟨re (by decide) (by decide +kernel), ?_⟩, ⟨re (by decide) (by decide +kernel), ?_⟩, ⟨re (by decide) (by decide +kernel), ?_⟩, ⟨re (by decide) (by decide +kernel), ?_⟩, ⟨re (by decide) (by decide +kernel), ?_⟩, fun _ h => nomatch h⟩
  · intro row col
    exact ⟨_, .done⟩
  · intro row col
    exact ⟨_, sc_sp (Scan.row (show Scan _ [] row _ _ _ from .done))⟩
  · intro row col
    exact ⟨_, Scan.block (fu := 20) (R2 := []) (row2 := row) (col2 := col + 1 + 1 + 1 + 1 + 1) rfl .done⟩
  · intro row col
    have := Scan.lone (n := 0) (c := 59) (r := []) (row := row) (col := col) (.inr (.inl rfl)) (fun _ => by simp) .done
    exact ⟨1, by simpa [tokB] using this⟩
  · intro row col
    have := sc_crn (sc_nl (col := col + 1) (row := row) (Scan.paren (n := 0) (c := 41) (r := []) (row := row + 1) (col := 1) (.inr rfl) .done)) (col := col)
    exact ⟨_, by simpa [tokB] using this⟩
  · intro row col
    have := Scan.paren (n := 0) (c := 40) (r := []) (row := row) (col := col) (.inl ⟨rfl, by simp⟩) .done
    exact ⟨1, by simpa [tokB] using this⟩
  · intro row col
    exact ⟨_, sc_nl .done⟩
  · intro row col
    exact ⟨_, Scan.row (show Scan _ [] row _ _ _ from .done)⟩
  · intro row col
    have := sc_cr (col := col) (row := row) (R := [40, 59, 59, 41, 59]) (by simp) (Scan.block (fu := 20) (R2 := [59]) (row2 := row + 1) (col2 := 5) rfl (Scan.lone (n := 0) (c := 59) (r := []) (row := row + 1) (col := 5) (.inr (.inl rfl)) (fun _ => by simp) .done))
    exact ⟨_, by simpa [tokB] using this⟩

-- the part txadd
theorem lit_u : PySem.Str.ofString "\\u{" = tx [92, 117, 123] := by decide +kernel
theorem lit_b : PySem.Str.ofString "}" = tx [125] := by decide +kernel
theorem lit_q : PySem.Str.ofString "\"" = tx [34] := by decide +kernel
theorem lit_bs : PySem.Str.ofString "\\" = tx [92] := by decide +kernel
/-- a text told by its signs (kept apart: no rewriting looks into it) -/
structure TxIs (S : PySem.Str) (l : List Nat) : Prop where
  eq : S = tx l
theorem chr_tx {n : Nat} : (⟨#[n]⟩ : PySem.Str) = tx [n] := rfl
section
variable {prog : Program} {w : World} {A : Around} {E : Value → Shared → Prop} {s : Shared} {Q : Value → Shared → Prop} {l1 l2 : List Nat} {S1 S2 : PySem.Str} {t u : Tok}
theorem tx_add (h1 : S1 = tx l1) (h2 : S2 = tx l2) (hl : l1.length + l2.length ≤ 100000) (h : ∀ t' tk, Q (.str (tx (l1 ++ l2)) t') { s with toks := tk }) : wpAny (model prog w) A (binaryOp .Add (.str S1 t) (.str S2 u)) Q E s := by
  subst h1 h2
  refine PyProof.Rows.add_str (fun t' tk => ?_) (by rw [tx_len, tx_len, show sizeLine = 16777216 from rfl]; omega)
  rw [tx_append]
  exact h t' tk
theorem tx_lenK (hl : l1.length ≤ 100000) (h : ∀ t' tk, Q (.int (l1.length : Int) t') { s with toks := tk }) : wpAny (model prog w) A (call (.builtin "len") [.str (tx l1) t]) Q E s := by
  refine PyProof.Rows.len_str (by rw [tx_len]; omega) ?_
  rw [tx_len]
  exact h _ _
end
local macro_rules | `(tactic| walk_at "tx") => `(tactic| with_reducible first | exact TxIs.eq (by assumption) | exact lit_u | exact lit_b | exact lit_q | exact lit_bs | exact rfl | exact chr_tx)
local macro_rules | `(tactic| walk_at "len") => `(tactic| ((try simp only [List.length_append, List.length_cons, List.length_nil]); omega))
local macro_rules | `(tactic| walk_at "call builtin:len") => ln ``tx_lenK "v_" ".."
local macro_rules | `(tactic| walk_at "binaryOp Add str str") => ln ``tx_add "ttv_" ".."

-- the part lletter
section
theorem Fr_congr {h₀ h : Heap} {L : Addr} {m m' : PySem.Str → Option Value} (F : Fr h₀ L h m) (e : m = m') : Fr h₀ L h m' := e ▸ F
/-- what stands ahead of the number in an escape -/
noncomputable def zeros (j : Int) : List Nat := if j = 0 then [] else if j = 1 then [48] else [48, 95, 48]
noncomputable def hexL (P : Int) : List Nat := (Txt.slice (baseText "0x" 16 P) (some 2) none).cps.toList
theorem tx_of (S : PySem.Str) : tx S.cps.toList = S := rfl
theorem item_tab3 {prog : Program} {w : World} {A : Around} {E : Value → Shared → Prop} {s : Shared} {value slice : PySem.Expr} {h₀ : Heap} {L l : Addr} {news : List (Addr × Obj)} {t0 t1 t2 u : Tok} {n : Nat} {k : Int} {Q : Value → Shared → Prop}
    (N : News h₀ L s.heap news) (hm : (l, listOf #[.str (PySem.Str.ofString "") t0, .str (PySem.Str.ofString "0") t1, .str (PySem.Str.ofString "0_0") t2] n) ∈ news) (h0 : 0 ≤ k) (h1 : k < 3) (h : ∀ t, Q (.str (tx (zeros k)) t) s)
    (hs : subscripted slice false (.ref l) (.int k u) = operate [.ref l, .int k u] (getItem (.ref l) (.int k u)) := by with_unfolding_all rfl) (hg : ∀ r, letTemporaryGo value (.ref l) r = pure () := by intro _; with_unfolding_all rfl) :
    wpAny (model prog w) A (subscriptTail value slice (.ref l) (.int k u)) Q E s := by
  have hl : s.heap.IsList l #[.str (PySem.Str.ofString "") t0, .str (PySem.Str.ofString "0") t1, .str (PySem.Str.ofString "0_0") t2] := ⟨_, (N _ hm).1, rfl, _, rfl⟩
  have hk : k = 0 ∨ k = 1 ∨ k = 2 := by omega
  rcases hk with rfl | rfl | rfl
  · exact item_list hl (by decide) (by decide) (by rfl) ((show tx (zeros 0) = PySem.Str.ofString "" by decide +kernel) ▸ h _) hs hg
  · exact item_list hl (by decide) (by decide) (by rfl) ((show tx (zeros 1) = PySem.Str.ofString "0" by decide +kernel) ▸ h _) hs hg
  · exact item_list hl (by decide) (by decide) (by rfl) ((show tx (zeros 2) = PySem.Str.ofString "0_0" by decide +kernel) ▸ h _) hs hg
theorem hex_size : ∀ P ∈ pts, (baseText "0x" 16 P).length ≤ 100 := by decide +kernel
theorem hex_ok : ∀ P ∈ pts, ∀ j ∈ ([0, 1, 2] : List Int), (zeros j ++ hexL P).all hexish = true ∧ (zeros j ++ hexL P).length ≤ 20 ∧ wof (zeros j ++ hexL P) 0 false = some P := by decide +kernel
local macro_rules | `(tactic| walk_at "subscriptTail") => `(tactic| (k_here; (with_reducible show wpAny _ _ (subscriptTail _ _ (Value.ref _) (Value.int _ _)) _ _ _); k_dflt (refine' item_tab3 ?N ?m ?h0 ?h1 ?_ ?hs ?hg; (case N => k_asm); (case m => k_mem); (case h0 => exact fmod_lo _ (by decide)); (case h1 => exact fmod_hi _ (by decide)); (case hs => with_unfolding_all rfl); (case hg => intro _; with_unfolding_all rfl)); intro t'))
local macro_rules | `(tactic| walk_at "call builtin:hex") => `(tactic| (k_here; k_dflt (refine P.hex_of_int ?_ (Nat.le_trans (hex_size _ (by assumption)) (by decide)))))
/-- the letter that the law makes of x -/
noncomputable def letterOf (x : Int) : Ltr :=
  let P := pts.getD (x.fmod 29).toNat 0
  if (x.fdiv 29).fmod 3 = 0 ∨ P > 1114111 then .num (zeros ((x.fdiv 87).fmod 3) ++ hexL P) P
  else if P = 34 ∨ P = 92 then .esc P.toNat else .raw P.toNat
noncomputable def Ltr.why (l : Ltr) : PySem.Str := match l.bad with | none => PySem.Str.ofString "" | some (w, _) => w
noncomputable def Ltr.off (l : Ltr) : Int := match l.bad with | none => 0 | some (_, none) => -1 | some (_, some o) => o
noncomputable def Ltr.ints (l : Ltr) : List Int := match l.bad with
  | some _ => []
  | none => match l with | .raw c => lawOct c | .esc c => [(c : Int)] | .num _ v => lawOct v
theorem num_good {ds : List Nat} {v : Int} (h : ¬ (v ≥ 1114112 ∨ (55296 ≤ v ∧ v < 57344))) : (Ltr.num ds v).why = PySem.Str.ofString "" ∧ (Ltr.num ds v).off = 0 ∧ (Ltr.num ds v).ints = lawOct v := by
  have e : (Ltr.num ds v).bad = none := by simp only [Ltr.bad, if_neg h]
  simp only [Ltr.why, Ltr.off, Ltr.ints, e, and_self]
theorem num_bad {ds : List Nat} {v : Int} (h : v ≥ 1114112 ∨ (55296 ≤ v ∧ v < 57344)) : (Ltr.num ds v).why = PySem.Str.ofString "malformed UTF-8 encoding" ∧ (Ltr.num ds v).off = 3 + (ds.length : Int) ∧ (Ltr.num ds v).ints = [] := by
  have e : (Ltr.num ds v).bad = some (PySem.Str.ofString "malformed UTF-8 encoding", some (3 + (ds.length : Int))) := by simp only [Ltr.bad, if_pos h]
  simp only [Ltr.why, Ltr.off, Ltr.ints, e, and_self]
theorem esc_good {c : Nat} : (Ltr.esc c).why = PySem.Str.ofString "" ∧ (Ltr.esc c).off = 0 ∧ (Ltr.esc c).ints = [(c : Int)] := ⟨rfl, rfl, rfl⟩
theorem raw_nl {c : Nat} (h : c = 10 ∨ c = 13) : (Ltr.raw c).why = PySem.Str.ofString "unclosed string" ∧ (Ltr.raw c).off = -1 ∧ (Ltr.raw c).ints = [] := by
  have e : (Ltr.raw c).bad = some (PySem.Str.ofString "unclosed string", none) := by simp only [Ltr.bad, if_pos h]
  simp only [Ltr.why, Ltr.off, Ltr.ints, e, and_self]
theorem raw_ctl {c : Nat} (h1 : ¬ (c = 10 ∨ c = 13)) (h : c < 32 ∨ c = 127) : (Ltr.raw c).why = PySem.Str.ofString "illegal control character in string" ∧ (Ltr.raw c).off = 0 ∧ (Ltr.raw c).ints = [] := by
  have e : (Ltr.raw c).bad = some (PySem.Str.ofString "illegal control character in string", some 0) := by simp only [Ltr.bad, if_neg h1, if_pos h]
  simp only [Ltr.why, Ltr.off, Ltr.ints, e, and_self]
theorem raw_sur {c : Nat} (h : 55296 ≤ c ∧ c < 57344) : (Ltr.raw c).why = PySem.Str.ofString "malformed UTF-8 encoding" ∧ (Ltr.raw c).off = 0 ∧ (Ltr.raw c).ints = [] := by
  have e : (Ltr.raw c).bad = some (PySem.Str.ofString "malformed UTF-8 encoding", some 0) := by simp only [Ltr.bad, if_neg (show ¬ (c = 10 ∨ c = 13) by omega), if_neg (show ¬ (c < 32 ∨ c = 127) by omega), if_pos h]
  simp only [Ltr.why, Ltr.off, Ltr.ints, e, and_self]
theorem raw_good {c : Nat} (h1 : ¬ (c = 10 ∨ c = 13)) (h2 : ¬ (c < 32 ∨ c = 127)) (h : ¬ (55296 ≤ c ∧ c < 57344)) : (Ltr.raw c).why = PySem.Str.ofString "" ∧ (Ltr.raw c).off = 0 ∧ (Ltr.raw c).ints = lawOct c := by
  have e : (Ltr.raw c).bad = none := by simp only [Ltr.bad, if_neg h1, if_neg h2, if_neg h]
  simp only [Ltr.why, Ltr.off, Ltr.ints, e, and_self]
theorem leaf {l l' : Ltr} {T : List Nat} {W : PySem.Str} {O : Int} {I : List Int} (h : l = l') (e : l'.why = W ∧ l'.off = O ∧ l'.ints = I) (t : l'.told = T) : l.told = T ∧ l.ints = I ∧ l.why = W ∧ l.off = O := by
  subst h; exact ⟨t, e.2.2, e.1, e.2.1⟩
theorem sur_no {P : Int} (hg : P < 1114112 ∧ ¬ (55296 ≤ P ∧ P < 57344)) : ¬ (P ≥ 1114112 ∨ (55296 ≤ P ∧ P < 57344)) := by omega
theorem sur_yes {P : Int} (hg : ¬ (P < 1114112 ∧ ¬ (55296 ≤ P ∧ P < 57344))) : P ≥ 1114112 ∨ (55296 ≤ P ∧ P < 57344) := by omega
section
variable {P : Int} (h0 : 0 ≤ P)
include h0
theorem rawP_nl (h : P = 10 ∨ P = 13) : (Ltr.raw P.toNat).why = PySem.Str.ofString "unclosed string" ∧ (Ltr.raw P.toNat).off = -1 ∧ (Ltr.raw P.toNat).ints = [] := raw_nl (h.imp (congrArg Int.toNat) (congrArg Int.toNat))
theorem toNat_ne {k : Nat} (h : P ≠ (k : Int)) : P.toNat ≠ k := fun e => h (by rw [← e, Int.toNat_of_nonneg h0])
theorem toNat_lt {k : Nat} : P.toNat < k ↔ P < (k : Int) := Int.toNat_lt h0
theorem rawP_ctl (h1 : ¬ (P = 10 ∨ P = 13)) (h : P < 32 ∨ P = 127) : (Ltr.raw P.toNat).why = PySem.Str.ofString "illegal control character in string" ∧ (Ltr.raw P.toNat).off = 0 ∧ (Ltr.raw P.toNat).ints = [] :=
  raw_ctl (fun e => e.elim (toNat_ne h0 fun e => h1 (.inl e)) (toNat_ne h0 fun e => h1 (.inr e))) (h.imp (toNat_lt h0 (k := 32)).mpr (congrArg Int.toNat))
theorem toNat_sur : (55296 ≤ P.toNat ∧ P.toNat < 57344) ↔ (55296 ≤ P ∧ P < 57344) := by rw [toNat_lt h0, ← Nat.not_lt, toNat_lt h0, Int.not_lt]; rfl
theorem rawP_sur (hc : ¬ P > 1114111) (h : ¬ (P < 1114112 ∧ ¬ (55296 ≤ P ∧ P < 57344))) : (Ltr.raw P.toNat).why = PySem.Str.ofString "malformed UTF-8 encoding" ∧ (Ltr.raw P.toNat).off = 0 ∧ (Ltr.raw P.toNat).ints = [] :=
  raw_sur ((toNat_sur h0).mpr ((sur_yes h).resolve_left fun e => hc (Int.lt_of_add_one_le e)))
theorem rawP_good (h1 : ¬ (P = 10 ∨ P = 13)) (h2 : ¬ P < 32) (h3 : P ≠ 127) (h : P < 1114112 ∧ ¬ (55296 ≤ P ∧ P < 57344)) : (Ltr.raw P.toNat).why = PySem.Str.ofString "" ∧ (Ltr.raw P.toNat).off = 0 ∧ (Ltr.raw P.toNat).ints = lawOct P := by
  have e := raw_good (c := P.toNat) (fun e => e.elim (toNat_ne h0 fun e => h1 (.inl e)) (toNat_ne h0 fun e => h1 (.inr e))) (fun e => e.elim (fun e => h2 ((toNat_lt h0 (k := 32)).mp e)) (toNat_ne h0 h3)) (fun e => h.2 ((toNat_sur h0).mp e))
  rwa [Int.toNat_of_nonneg h0] at e
theorem escP : (Ltr.esc P.toNat).why = PySem.Str.ofString "" ∧ (Ltr.esc P.toNat).off = 0 ∧ (Ltr.esc P.toNat).ints = [P] := by
  have e := esc_good (c := P.toNat)
  rwa [Int.toNat_of_nonneg h0] at e
end
theorem newsTake2 {h₀ h : Heap} {L : Addr} {a b : Addr × Obj} {l l' : List (Addr × Obj)} (hs : ∀ p ∈ l, p ∈ l') (N : News h₀ L h (a :: b :: l')) : News h₀ L h (a :: b :: l) := fun p hp => by
  rcases List.mem_cons.mp hp with rfl | hp
  · exact N _ (.head _)
  rcases List.mem_cons.mp hp with rfl | hp
  · exact N _ (.tail _ (.head _))
  · exact N _ (.tail _ (.tail _ (hs p hp)))
theorem any2 {a b P : Int} : (([a, b] : List Int).any fun x => x == P) = decide (P = a ∨ P = b) := by
  rw [Bool.eq_iff_iff]
  simp only [List.any_cons, List.any_nil, Bool.or_false, Bool.or_eq_true, beq_iff_eq, decide_eq_true_eq]
  constructor
  · rintro (h | h)
    · exact .inl h.symm
    · exact .inr h.symm
  · rintro (h | h)
    · exact .inl h.symm
    · exact .inr h.symm
theorem pts_in (x : Int) : pts.getD (x.fmod 29).toNat 0 ∈ pts := by
  have h1 := fmod_lo x (n := 29) (by decide)
  have h2 := fmod_hi x (n := 29) (by decide)
  have h3 : (x.fmod 29).toNat < pts.length := by rw [show pts.length = 29 from rfl]; omega
  rw [List.getD_eq_getElem?_getD, List.getElem?_eq_getElem h3, Option.getD_some]
  exact List.getElem_mem h3
theorem pts_range : ∀ P ∈ pts, 0 ≤ P ∧ P ≤ 1179648 := by decide
section
variable {w : World} {mean : ExcName → Option Value} {mg mb : PySem.Str → Option Value} {loose : List PySem.Str}
   {dp un : Nat} {gd : Option (List Code)} {cn : PySem.Str} {cs : Scope} {a : Addr} {ccd : Value} {cl : List (PySem.Str × Addr)} {outer : List Env} {A₀ : Around} {base h₀ : Heap} {L : Addr} {m : PySem.Str → Option Value} {news : List (Addr × Obj)} {s : Shared}
    {Q E : Value → Shared → Prop} {x : Int} {tt : Tok}
theorem letter_c
    (B : Below A₀ base outer h₀) (F : Fr h₀ L s.heap m) (X : (One.hd.heap_1_39 w.params).In h₀) (N : News h₀ L s.heap news) (TT : Top One.hd.view_1_40 loose mean mg mb h₀) (hk : cs.kind = .function)
    (hr : dp + 12 < recursionLimit) (hu : un + 90 < cLine)
    (ret : ∀ h' tk D ol n vs t1 t2 t3, (∀ p ∈ news, p.1 < ol) → ol < D → IntsAre vs (letterOf x).ints → Fr h₀ L h' m → News h₀ L h' ((D, tupO [.str (tx (letterOf x).told) t1, .ref ol, .str (letterOf x).why t2, .int (letterOf x).off t3]) :: (ol, listOf vs.toArray n) :: news) → Q (.ref D) { s with heap := h', toks := tk }) :
    wpAny (model prog0 w) (ktrTop dp un gd cn cs L a ccd cl outer) (call (.ref 263) [.int x tt]) Q E s := by
  w_on
  refine wpAny_call ?_
  k_dflt ktr_enter
  refine A_first 1 ?_
  dsimp only [List.take, List.drop]
  walk_at "N go"
  dsimp only
  unfold Halt
  have hP := pts_in x
  have ret' : ∀ T I W O, ((letterOf x).told = T ∧ (letterOf x).ints = I ∧ (letterOf x).why = W ∧ (letterOf x).off = O) → ∀ h' tk D ol n vs t1 t2 t3, (∀ p ∈ news, p.1 < ol) → ol < D → IntsAre vs I → Fr h₀ L h' m → News h₀ L h' ((D, tupO [.str (tx T) t1, .ref ol, .str W t2, .int O t3]) :: (ol, listOf vs.toArray n) :: news) → Q (.ref D) { s with heap := h', toks := tk } := by
    rintro _ _ _ _ ⟨rfl, rfl, rfl, rfl⟩; exact ret
  clear ret
  obtain ⟨l, hl⟩ : ∃ l, l = letterOf x := ⟨_, rfl⟩
  rw [← hl] at ret'
  unfold letterOf at hl
  dsimp only at hl
  generalize pts.getD (x.fmod 29).toNat 0 = P at *
  obtain ⟨hP0, hP1⟩ := pts_range P hP
  rename Fr _ _ _ _ => F1
  rename News _ _ _ _ => N1
  have N1 := newsT1 N1
  obtain ⟨g1, L1, m0, hg, hL1, hm0, F1⟩ : ∃ g1 L1 m0, g1 = _ ∧ L1 = _ ∧ m0 = _ ∧ Fr g1 L1 _ m0 := ⟨_, _, _, rfl, rfl, rfl, F1⟩
  subst hg hL1
  obtain ⟨b, hb⟩ : ∃ b, b = decide (P < 1114112 ∧ ¬ (55296 ≤ P ∧ P < 57344)) := ⟨_, rfl⟩
  refine A_first 1 (wpAny_mono (Q := fun f s' => f = .next ∧ ∃ h' tk, s' = { s with heap := h', toks := tk } ∧ Fr g1 L1 h' (fun y => if y = PySem.Str.ofString "is_letter" then some (.bool b) else m0 y) ∧ News g1 L1 h' news) ?_ ?_ (fun _ _ x => x))
  · rw [hm0]
    dsimp only [List.take]
    walk_at "N go"
    all_goals first
      | assumption
      | (refine Fr_congr (by assumption) ?_; funext y; split <;> first | rfl | (congr 2; rw [hb, Bool.eq_iff_iff]; simp only [Bool.not_eq_true', decide_eq_false_iff_not, decide_eq_true_eq]; omega))
  · rintro f s' ⟨rfl, h', tk, rfl, F2, N2⟩
    rw [hm0] at F2
    clear F1 N1
    dsimp only [List.drop]
    unfold Halt
    have hS : TxIs (Txt.slice (baseText "0x" 16 P) (some 2) none) (hexL P) := ⟨(tx_of _).symm⟩
    have hz1 : (hexL P).length ≤ 20 := by
      have := (hex_ok P hP 0 (.head _)).2.1
      rw [List.length_append] at this; omega
    have hz2 : (zeros ((x.fdiv 87).fmod 3)).length ≤ 3 := by unfold zeros; split; decide; split <;> decide
    have len1 : (((([92, 117, 123] ++ zeros ((x.fdiv 87).fmod 3) ++ hexL P ++ [125]).length : Nat) : Int)) - 1 = 3 + ((zeros ((x.fdiv 87).fmod 3) ++ hexL P).length : Int) := by
      simp only [List.length_append, List.length_cons, List.length_nil]; omega
    refine wpAny_execs_cons (A_IfT (fun b' s' => Halt (b' = decide ((x.fdiv 29).fmod 3 = 0 ∨ P > 1114111) ∧ ∃ h' tk, s' = { s with heap := h', toks := tk } ∧ Fr g1 L1 h' (fun y => if y = PySem.Str.ofString "is_letter" then some (.bool b) else m0 y) ∧ News g1 L1 h' news)) ?_ ?_ ?_)
    · walk_at "N go"
      all_goals
        unfold Halt
        refine ⟨?_, _, _, rfl, by rw [hm0]; assumption, by assumption⟩
        first
          | exact (decide_eq_true (.inl (by assumption))).symm
          | exact (decide_eq_true (.inr (by assumption))).symm
          | exact (decide_eq_false (by omega)).symm
    · rintro s' ⟨e, h9, tk9, rfl, F3, N3⟩
      have h3 := of_decide_eq_true e.symm
      rw [hm0] at F3
      clear F2 N2
      rw [if_pos h3] at hl
      walk_at "N go"
      · rename b = true => q
        have hg := of_decide_eq_true (hb.symm.trans q)
        walk_at "N go"
        rename News h₀ _ _ _ => N9
        rename Fr h₀ _ _ _ => F9
        exact ret' _ _ _ _ (by exact leaf hl (num_good (sur_no hg)) rfl) _ _ _ _ _ _ _ _ _ (by first | exact allLt_lt (‹_ < _ ∧ AllLt _ news›).2 | exact allLt_lt (‹_ < _ ∧ _ < _ ∧ AllLt _ news›).2.2 | exact allLt_lt (‹_ < _ ∧ _ < _ ∧ _ < _ ∧ AllLt _ news›).2.2.2 | exact allLt_lt (‹_ < _ ∧ _ < _ ∧ _ < _ ∧ _ < _ ∧ AllLt _ news›).2.2.2.2) (by show @LT.lt Nat _ _ _; omega) (by assumption) F9 (newsTake2 (by intro p hp; (repeat' (first | exact hp | refine List.mem_cons_of_mem _ ?_))) N9)
      · rename b = false => q
        have hg := of_decide_eq_false (hb.symm.trans q)
        rename News h₀ _ _ _ => N9
        rename Fr h₀ _ _ _ => F9
        exact ret' _ _ _ _ (by exact leaf hl ((num_bad (sur_yes hg)).imp_right (And.imp_left fun e => e.trans len1.symm)) rfl) _ _ _ _ _ [] _ _ _ (by first | exact allLt_lt (‹_ < _ ∧ AllLt _ news›).2 | exact allLt_lt (‹_ < _ ∧ _ < _ ∧ AllLt _ news›).2.2 | exact allLt_lt (‹_ < _ ∧ _ < _ ∧ _ < _ ∧ AllLt _ news›).2.2.2 | exact allLt_lt (‹_ < _ ∧ _ < _ ∧ _ < _ ∧ _ < _ ∧ AllLt _ news›).2.2.2.2) (by show @LT.lt Nat _ _ _; omega) .nil F9 (newsTake2 (by intro p hp; (repeat' (first | exact hp | refine List.mem_cons_of_mem _ ?_))) N9)
    rintro s' ⟨e, h9, tk9, rfl, F3, N3⟩
    have h3 := of_decide_eq_false e.symm
    have h3c : ¬ P > 1114111 := fun q => h3 (.inr q)
    rw [hm0] at F3
    clear F2 N2
    rw [if_neg h3] at hl
    have eP : ((P.toNat : Nat) : Int) = P := Int.toNat_of_nonneg hP0
    walk_at "N go"
    · rename List.any _ _ = true => q
      have k1 := of_decide_eq_true (any2.symm.trans q)
      rename News h₀ _ _ _ => N9
      rename Fr h₀ _ _ _ => F9
      exact ret' _ _ _ _ (by exact leaf (hl.trans (if_pos k1)) (escP hP0) rfl) _ _ _ _ _ [_] _ _ _ (by first | exact allLt_lt (‹_ < _ ∧ AllLt _ news›).2 | exact allLt_lt (‹_ < _ ∧ _ < _ ∧ AllLt _ news›).2.2 | exact allLt_lt (‹_ < _ ∧ _ < _ ∧ _ < _ ∧ AllLt _ news›).2.2.2 | exact allLt_lt (‹_ < _ ∧ _ < _ ∧ _ < _ ∧ _ < _ ∧ AllLt _ news›).2.2.2.2) (by show @LT.lt Nat _ _ _; omega) (.cons _ _ .nil) F9 (newsTake2 (by intro p hp; (repeat' (first | exact hp | refine List.mem_cons_of_mem _ ?_))) N9)
    all_goals
      rename List.any [34, 92] _ = false => q
      have k1 := of_decide_eq_false (any2.symm.trans q)
      rw [if_neg k1] at hl
      clear k1 q
    · rename List.any _ _ = true => q
      have k2 := of_decide_eq_true (any2.symm.trans q)
      rename News h₀ _ _ _ => N9
      rename Fr h₀ _ _ _ => F9
      exact ret' _ _ _ _ (by exact leaf hl (rawP_nl hP0 k2) rfl) _ _ _ _ _ [] _ _ _ (by first | exact allLt_lt (‹_ < _ ∧ AllLt _ news›).2 | exact allLt_lt (‹_ < _ ∧ _ < _ ∧ AllLt _ news›).2.2 | exact allLt_lt (‹_ < _ ∧ _ < _ ∧ _ < _ ∧ AllLt _ news›).2.2.2 | exact allLt_lt (‹_ < _ ∧ _ < _ ∧ _ < _ ∧ _ < _ ∧ AllLt _ news›).2.2.2.2) (by show @LT.lt Nat _ _ _; omega) .nil F9 (newsTake2 (by intro p hp; (repeat' (first | exact hp | refine List.mem_cons_of_mem _ ?_))) N9)
    all_goals
      rename List.any _ _ = false => q
      have k2 := of_decide_eq_false (any2.symm.trans q)
      clear q
    · rename News h₀ _ _ _ => N9
      rename Fr h₀ _ _ _ => F9
      exact ret' _ _ _ _ (by exact leaf hl (rawP_ctl hP0 k2 (.inl (by assumption))) rfl) _ _ _ _ _ [] _ _ _ (by first | exact allLt_lt (‹_ < _ ∧ AllLt _ news›).2 | exact allLt_lt (‹_ < _ ∧ _ < _ ∧ AllLt _ news›).2.2 | exact allLt_lt (‹_ < _ ∧ _ < _ ∧ _ < _ ∧ AllLt _ news›).2.2.2 | exact allLt_lt (‹_ < _ ∧ _ < _ ∧ _ < _ ∧ _ < _ ∧ AllLt _ news›).2.2.2.2) (by show @LT.lt Nat _ _ _; omega) .nil F9 (newsTake2 (by intro p hp; (repeat' (first | exact hp | refine List.mem_cons_of_mem _ ?_))) N9)
    · rename News h₀ _ _ _ => N9
      rename Fr h₀ _ _ _ => F9
      exact ret' _ _ _ _ (by exact leaf hl (rawP_ctl hP0 k2 (.inr (by assumption))) rfl) _ _ _ _ _ [] _ _ _ (by first | exact allLt_lt (‹_ < _ ∧ AllLt _ news›).2 | exact allLt_lt (‹_ < _ ∧ _ < _ ∧ AllLt _ news›).2.2 | exact allLt_lt (‹_ < _ ∧ _ < _ ∧ _ < _ ∧ AllLt _ news›).2.2.2 | exact allLt_lt (‹_ < _ ∧ _ < _ ∧ _ < _ ∧ _ < _ ∧ AllLt _ news›).2.2.2.2) (by show @LT.lt Nat _ _ _; omega) .nil F9 (newsTake2 (by intro p hp; (repeat' (first | exact hp | refine List.mem_cons_of_mem _ ?_))) N9)
    · rename b = true => q
      have hg := of_decide_eq_true (hb.symm.trans q)
      rename News h₀ _ _ _ => N9
      rename Fr h₀ _ _ _ => F9
      exact ret' _ _ _ _ (by exact leaf hl (rawP_good hP0 k2 (by assumption) (by assumption) hg) rfl) _ _ _ _ _ _ _ _ _ (by first | exact allLt_lt (‹_ < _ ∧ AllLt _ news›).2 | exact allLt_lt (‹_ < _ ∧ _ < _ ∧ AllLt _ news›).2.2 | exact allLt_lt (‹_ < _ ∧ _ < _ ∧ _ < _ ∧ AllLt _ news›).2.2.2 | exact allLt_lt (‹_ < _ ∧ _ < _ ∧ _ < _ ∧ _ < _ ∧ AllLt _ news›).2.2.2.2) (by show @LT.lt Nat _ _ _; omega) (by assumption) F9 (newsTake2 (by intro p hp; (repeat' (first | exact hp | refine List.mem_cons_of_mem _ ?_))) N9)
    · rename b = false => q
      have hg := of_decide_eq_false (hb.symm.trans q)
      rename News h₀ _ _ _ => N9
      rename Fr h₀ _ _ _ => F9
      exact ret' _ _ _ _ (by exact leaf hl (rawP_sur hP0 h3c hg) rfl) _ _ _ _ _ [] _ _ _ (by first | exact allLt_lt (‹_ < _ ∧ AllLt _ news›).2 | exact allLt_lt (‹_ < _ ∧ _ < _ ∧ AllLt _ news›).2.2 | exact allLt_lt (‹_ < _ ∧ _ < _ ∧ _ < _ ∧ AllLt _ news›).2.2.2 | exact allLt_lt (‹_ < _ ∧ _ < _ ∧ _ < _ ∧ _ < _ ∧ AllLt _ news›).2.2.2.2) (by show @LT.lt Nat _ _ _; omega) .nil F9 (newsTake2 (by intro p hp; (repeat' (first | exact hp | refine List.mem_cons_of_mem _ ?_))) N9)
end
end
local macro_rules | `(tactic| walk_at "call ref") => lnAt 263 ``letter_c "BFXNTkrn_" ".........lm..."

-- the part lfull
/-! the whole text, and what the law reckons of the letters -/
theorem told_append (a b : List Ltr) : told (a ++ b) = told a ++ told b := by simp [told]
theorem octs_append : ∀ (a b : List Ltr), octs (a ++ b) = octs a ++ octs b
  | [], b => by simp [octs]
  | l :: r, b => by rw [List.cons_append, octs, octs_append r b, octs, Array.append_assoc]
theorem bads_snoc (l : Ltr) : ∀ (ls : List Ltr) (col : Int), bads (ls ++ [l]) col = match bads ls col with
    | some x => some x
    | none => match l.bad with
      | some (why, some o) => some (why, some (col + ((told ls).length : Int) + o))
      | some (why, none) => some (why, none)
      | none => none
  | [], col => by
    simp only [List.nil_append, bads, told_nil, List.length_nil]
    cases l.bad with
    | none => rfl
    | some q => obtain ⟨w, o⟩ := q; cases o <;> simp
  | k :: r, col => by
    rw [List.cons_append, bads, bads, bads_snoc l r, told_cons, List.length_append]
    cases k.bad with
    | none => simp only [Int.natCast_add, Int.add_assoc]
    | some q => obtain ⟨w, o⟩ := q; cases o <;> rfl
theorem full_good {A B : List Nat} {toks : List (Nat × Int × Int)} {btoks : List (PySem.Str × PySem.Str × Int × Int)} {r c : Int} {ls : List Ltr} (hA : AheadScan A toks r c) (hB : BehindScan B btoks) (hok : ∀ l ∈ ls, l.ok) (hz : (octs ls).size < 100000) (hb : bads ls (c + 1) = none) :
    ∃ n, Scan n (A ++ (34 :: (told ls ++ 34 :: B))) 1 1 (toks.map tokA ++ (⟨PySem.Str.ofString "string", tx (34 :: (told ls ++ [34])), .bytes (octs ls), r, c⟩ :: btoks.map (tokB r (c + 2 + ((told ls).length : Int))))) none := by
  obtain ⟨n, h⟩ := hB.2 r (c + 2 + ((told ls).length : Int))
  exact hA _ _ _ _ rfl (Scan.str hok hz hB.1 hb h)
theorem full_bad {A B : List Nat} {toks : List (Nat × Int × Int)} {btoks : List (PySem.Str × PySem.Str × Int × Int)} {r c : Int} {ls : List Ltr} {why : PySem.Str} {o : Option Int} (hA : AheadScan A toks r c) (hB : BehindScan B btoks) (hok : ∀ l ∈ ls, l.ok) (hz : (octs ls).size < 100000) (hb : bads ls (c + 1) = some (why, o)) :
    ∃ n, Scan n (A ++ (34 :: (told ls ++ 34 :: B))) 1 1 (toks.map tokA ++ []) (some (why, r, o.getD c)) :=
  hA _ _ _ _ rfl (Scan.bad (n := 0) hok hz hB.1 hb)
theorem fmod3 (y : Int) : y.fmod 3 ∈ ([0, 1, 2] : List Int) := by
  have h1 := fmod_lo y (n := 3) (by decide)
  have h2 := fmod_hi y (n := 3) (by decide)
  have h : y.fmod 3 = 0 ∨ y.fmod 3 = 1 ∨ y.fmod 3 = 2 := by omega
  rcases h with h | h | h <;> rw [h] <;> decide
theorem letter_ok (x : Int) : (letterOf x).ok := by
  have hP := pts_in x
  unfold letterOf
  dsimp only
  generalize pts.getD (x.fmod 29).toNat 0 = P at *
  obtain ⟨h0, h1⟩ := pts_range P hP
  split
  · obtain ⟨a, b, c⟩ := hex_ok P hP _ (fmod3 (x.fdiv 87))
    exact ⟨a, b, c, h0⟩
  · rename_i h
    split
    · rename_i k
      show P.toNat = 34 ∨ P.toNat = 92
      omega
    · rename_i k
      show P.toNat ≠ 34 ∧ P.toNat ≠ 92 ∧ P.toNat < 1114112
      omega
theorem pts_oct : ∀ P ∈ pts, byteArr (lawOct P) = u8 P.toNat ∧ (P < 1114112 → (lawOct P).all (fun i => decide (0 ≤ i ∧ i < 256)) = true) ∧ (lawOct P).length ≤ 4 := by decide +kernel
theorem letter_ints (x : Int) : ((letterOf x).bad = none → byteArr (letterOf x).ints = (letterOf x).oct) ∧ (∀ i ∈ (letterOf x).ints, 0 ≤ i ∧ i < 256) ∧ (letterOf x).ints.length ≤ 4 ∧ (letterOf x).told.length ≤ 40 ∧ (letterOf x).oct.size ≤ 4 := by
  have hP := pts_in x
  have hz2 : (zeros ((x.fdiv 87).fmod 3)).length ≤ 3 := by unfold zeros; split; decide; split <;> decide
  unfold letterOf
  dsimp only
  generalize pts.getD (x.fmod 29).toNat 0 = P at *
  obtain ⟨h0, h1⟩ := pts_range P hP
  obtain ⟨p1, p2, p3⟩ := pts_oct P hP
  have eP : ((P.toNat : Nat) : Int) = P := Int.toNat_of_nonneg h0
  have hx : (hexL P).length ≤ 20 := by
    have := (hex_ok P hP 0 (.head _)).2.1
    rw [List.length_append] at this; omega
  have hu : (u8 P.toNat).size ≤ 4 := by rw [← p1, byteArr_size]; exact p3
  split
  · have ht : (Ltr.num (zeros ((x.fdiv 87).fmod 3) ++ hexL P) P).told.length ≤ 40 := by simp only [Ltr.told, List.length_cons, List.length_append, List.length_nil]; omega
    by_cases hb : P ≥ 1114112 ∨ (55296 ≤ P ∧ P < 57344)
    · obtain ⟨e1, e2, e3⟩ := num_bad (ds := zeros ((x.fdiv 87).fmod 3) ++ hexL P) hb
      rw [e3]
      refine ⟨fun h => ?_, (fun _ h => nomatch h), Nat.zero_le _, ht, hu⟩
      simp only [Ltr.bad, if_pos hb] at h; cases h
    · obtain ⟨e1, e2, e3⟩ := num_good (ds := zeros ((x.fdiv 87).fmod 3) ++ hexL P) hb
      rw [e3]
      exact ⟨fun _ => p1, fun i hi => of_decide_eq_true (List.all_eq_true.mp (p2 (by omega)) i hi), p3, ht, hu⟩
  · rename_i h
    split
    · rename_i k
      have k' : P.toNat = 34 ∨ P.toNat = 92 := by omega
      refine ⟨fun _ => ?_, fun i hi => ?_, (by rw [esc_good.2.2]; simp), by simp [Ltr.told], by simp [Ltr.oct]⟩
      · rcases k' with k' | k' <;> rw [k'] <;> decide +kernel
      · rw [esc_good.2.2] at hi
        rw [List.mem_singleton.mp hi]; omega
    · rename_i k
      have ht : (Ltr.raw P.toNat).told.length ≤ 40 := by simp [Ltr.told]
      cases hb : (Ltr.raw P.toNat).bad with
      | some q =>
        have e : (Ltr.raw P.toNat).ints = [] := by simp only [Ltr.ints, hb]
        rw [e]
        exact ⟨fun h => (nomatch h), (fun _ h => nomatch h), Nat.zero_le _, ht, hu⟩
      | none =>
        have e : (Ltr.raw P.toNat).ints = lawOct P := by simp only [Ltr.ints, hb, eP]
        rw [e]
        exact ⟨fun _ => p1, fun i hi => of_decide_eq_true (List.all_eq_true.mp (p2 (by omega)) i hi), p3, ht, hu⟩

-- the part caught
/-! a BadText that is caught -/
section
variable {M : Model} {A : Around} {E : Value → Shared → Prop} {s : Shared}
theorem fly_again {base : Heap} {l : List Env} {e d : Addr} {Q : Unit → Shared → Prop} (hF : FliesB base l e d s.heap)
    (h : ∀ h', FliesB base l e d h' → s.heap.UpToSlots h' → Q () { s with heap := h' }) : wpAny M A (setFlight (.ref e) none) Q E s := by
  obtain ⟨hkb, hen, hl, vs, T, oT, ts, he, h1, hnT, hTe, hT, hdT, h3⟩ := hF
  unfold setFlight
  refine wpAny_bind (wpAny_field he rfl h1 ?_)
  rw [if_pos (show (Value.ref T != Value.none) = true from by simp)]
  refine wpAny_setField hT hdT (Array.getElem?_eq_some_iff.mp h3).1 ?_
  have other : ∀ b, b ≠ T → (s.heap.update T (Obj.mapFields (·.setIfInBounds 3 ((none : Option Addr).elim Value.none fun f => rawInt f)))).get? b = s.heap.get? b := fun b hb => Heap.get?_update_other _ _ (Ne.symm hb)
  have noRecord : ∀ b o, s.heap.get? b = some o → (∀ vs, o.data ≠ .fields vs) → b ≠ T := fun b o hb hnf q => by
    rw [q, hT] at hb; injection hb with hb; subst hb; exact hnf ts hdT
  refine h _ ⟨fun b o hbo => (other b fun q => by rw [q, hnT] at hbo; cases hbo).trans (hkb b o hbo), hen, hl.of_keeps fun b o hb hnf => ⟨o, (other b (noRecord b o hb hnf)).trans hb, rfl⟩, vs, T, _, _, (other e (Ne.symm hTe)).trans he, h1, hnT, hTe, Heap.get?_update_self _ hT (Obj.isFreed_of_fields (Obj.data_mapFields hdT _)), Obj.data_mapFields hdT _, ?_⟩ fun b o hb hnf => ?_
  · have := (Array.getElem?_eq_some_iff.mp h3).1
    simp [this]
  · first
      | exact ⟨o.slots, (other b (noRecord b o hb hnf)).trans hb⟩
      | exact ⟨_, (other b (noRecord b o hb hnf)).trans hb⟩
end
section
variable {w : World} {A : Around} {E : Value → Shared → Prop} {s : Shared} {env : Env}
theorem handle_bad {prog : Program} {e d : Addr} {t : PySem.Expr} {n : PySem.Str} {b₀ : Stmt} {suite : List Stmt} {pos : Pos} {rest : List ExceptHandler} {vs : Array Value} {Q : Flow → Shared → Prop}
    (h : wpAny (model prog w) (A.mark (some (.ref e))) (eval t env) (fun c s₁ => c = .ref 51 ∧ (K0 w).In s₁.heap ∧ s₁.heap.get? e = some (exD d vs) ∧
      wpAny (model prog w) (A.mark (some (.ref e))) (setFlight (.ref e) none) (fun _ s₂ =>
          wpAny (model prog w) (A.mark (some (.ref e))) (storeName env n (.ref e)) (fun _ s₃ =>
            wpAny (model prog w) (A.mark (some (.ref e))) (execs (b₀ :: suite) env)
              (fun f s₄ => wpAny (model prog w) A (do bindName env n .none; unbindBehindTheSuite env n pos) (fun _ s₅ => Q f s₅) E s₄)
              (AsSuiteRaised (model prog w) (A.mark (some (.ref e))) env n pos (notedBy (model prog w) (A.mark (some (.ref e))) env (cameBackBy (model prog w) A env E))) s₃) (notedBy (model prog w) (A.mark (some (.ref e))) env (cameBackBy (model prog w) A env E)) s₂) (notedBy (model prog w) (A.mark (some (.ref e))) env (cameBackBy (model prog w) A env E)) s₁) (notedBy (model prog w) (A.mark (some (.ref e))) env (cameBackBy (model prog w) A env E)) s) :
    wpAny (model prog w) A (handleBy (.ref e) env (.ExceptHandler (some t) (some n) (b₀ :: suite) pos :: rest)) Q E s := by
  refine wpAny_handleBy_cons (codeAny_handlers_test (wpAny_mono h (fun c s₁ h₁ => ?_) fun _ _ y => y)) (by intro q; cases q)
  obtain ⟨rfl, X, he, hk⟩ := h₁
  obtain ⟨hdct, sn, sub, ab, col, dd, k0, k1, k2, k3, k5, ho⟩ := exc_obj w
  obtain ⟨hh, g, dr, tk, os⟩ := s₁
  exact wpAny_excMatches_sub_self (X _ _ ho) he rfl rfl (codeAny_handlers_suite_as hk)
end
section
variable {M : Model} {A : Around} {E : Value → Shared → Prop} {s : Shared}
theorem note_next {base : Heap} {env : Env} {outer : List Env} {L e d : Addr} {Q : Unit → Shared → Prop}
    (hfr : A.frames = some (env :: outer)) (hf : env.frame = some L) (hF : FliesB base (env :: outer) e d s.heap)
    (h : ∀ h', FliesB base (env :: outer) e d h' → s.heap.UpToSlots h' → Q () { s with heap := h' }) :
    wpAny M A (noteFrame (.ref e) env) (fun _ s' => wpAny M A (setFlight (.ref e) none) (fun _ s'' => Q () s'') E s') E s := by
  obtain ⟨hkb, hen, hl, vs, T, oT, ts, he, h1, hnT, hTe, hT, hdT, h3⟩ := hF
  unfold noteFrame
  simp only [hf]
  refine wpAny_bind (wpAny_field he rfl h1 ?_)
  rw [if_pos (show (Value.ref T != Value.none) = true from by simp)]
  refine wpAny_bind (wpAny_field hT hdT h3 ?_)
  rw [if_neg (show ¬ ((Value.none == rawInt L) = true) from by simp [rawInt])]
  refine wpAny_bind (wpAny_setField hT hdT (Array.getElem?_eq_some_iff.mp h3).1 ?_)
  have other : ∀ b, b ≠ T → (s.heap.update T (Obj.mapFields (·.setIfInBounds 3 Value.none))).get? b = s.heap.get? b := fun b hb => Heap.get?_update_other _ _ (Ne.symm hb)
  have noRecord : ∀ b o, s.heap.get? b = some o → (∀ vs, o.data ≠ .fields vs) → b ≠ T := fun b o hb hnf q => by
    rw [q, hT] at hb; injection hb with hb; subst hb; exact hnf ts hdT
  refine fly_entry hfr (hl.of_keeps fun b o hb hnf => ⟨o, (other b (noRecord b o hb hnf)).trans hb, rfl⟩) hf ((other e (Ne.symm hTe)).trans he)
    (fun b o hbo => (other b fun q => by rw [q, hnT] at hbo; cases hbo).trans (hkb b o hbo)) hen (Array.getElem?_eq_some_iff.mp h1).1
    fun h' x1 x2 => h h' x1 (fun b o hb hnf => x2 b o ((other b (noRecord b o hb hnf)).trans hb) hnf)
end
section
variable {w : World} {A : Around} {E : Value → Shared → Prop} {s s' : Shared} {env : Env} {outer : List Env}
theorem caught_bad {prog : Program} {base h₀ : Heap} {L : Addr} {m : PySem.Str → Option Value} {kept : List (Addr × Obj)} {why : PySem.Str} {row col : Int} {t : PySem.Expr} {n : PySem.Str} {b₀ : Stmt} {suite : List Stmt} {pos : Pos} {rest : List ExceptHandler} {Q : Flow → Shared → Prop}
    (hfr : A.frames = some (env :: outer)) (hf : env.frame = some L) (hb : base = h₀) (X₀ : (K0 w).In h₀)
    (hev : ∀ e h' tk, Fr h₀ L h' m → wpAny (model prog w) (A.mark (some (.ref e))) (eval t env) (fun c s₁ => c = .ref 51 ∧ s₁ = { s with heap := h', toks := tk }) (notedBy (model prog w) (A.mark (some (.ref e))) env (cameBackBy (model prog w) A env E)) { s with heap := h', toks := tk })
    (k : ∀ e d vs k1 k2 k3 t1 t2 t3 h' tk, Fr h₀ L h' m → News h₀ L h' ((e, exD d vs) :: (d, badD w.params why row col k1 k2 k3 t1 t2 t3) :: kept) →
      wpAny (model prog w) (A.mark (some (.ref e))) (storeName env n (.ref e)) (fun _ s₃ =>
            wpAny (model prog w) (A.mark (some (.ref e))) (execs (b₀ :: suite) env)
              (fun f s₄ => wpAny (model prog w) A (do bindName env n .none; unbindBehindTheSuite env n pos) (fun _ s₅ => Q f s₅) E s₄)
              (AsSuiteRaised (model prog w) (A.mark (some (.ref e))) env n pos (notedBy (model prog w) (A.mark (some (.ref e))) env (cameBackBy (model prog w) A env E))) s₃) (notedBy (model prog w) (A.mark (some (.ref e))) env (cameBackBy (model prog w) A env E)) { s with heap := h', toks := tk }) :
    BadE w.params base (env :: outer) h₀ L m why row col kept (fun e s₁ => wpAny (model prog w) A (noteFrame e env) (fun _ s₂ => wpAny (model prog w) A (setFlight e none) (fun _ s₃ => wpAny (model prog w) A (handleBy e env (.ExceptHandler (some t) (some n) (b₀ :: suite) pos :: rest)) Q E s₃) E s₂) E s₁) s := by
  subst hb
  intro e d k1 k2 k3 t1 t2 t3 h' tk g R F sm
  obtain ⟨B, hB, hl, hfl⟩ := R
  refine note_next (Q := fun _ s₃ => wpAny (model prog w) A (handleBy (.ref e) env (.ExceptHandler (some t) (some n) (b₀ :: suite) pos :: rest)) Q E s₃) (s := { s with heap := h', toks := tk }) hfr hf hfl fun h1 hf1 sm1 => ?_
  have st : ∀ {h : Heap}, FliesB B (env :: outer) e d h → base.StaysIn h := fun x b o q => x.1 b o (hB b o q)
  have F1 : Fr base L h1 m := F.of_stays (st hf1) (sm.trans sm1)
  obtain ⟨vs1, he1⟩ : ∃ vs, h1.get? e = some (exD d vs) := by obtain ⟨_, _, _, vs, _, _, _, he, _⟩ := hf1; exact ⟨vs, he⟩
  refine handle_bad (d := d) (vs := vs1) (wpAny_mono (hev e h1 tk F1) (fun c s₁ hc => ?_) fun _ _ x => x)
  obtain ⟨rfl, rfl⟩ := hc
  refine ⟨rfl, X₀.keeps F1.keep, he1, ?_⟩
  refine fly_again (s := { s with heap := h1, toks := tk }) hf1 fun h2 hf2 sm2 => ?_
  have F2 : Fr base L h2 m := F1.of_stays (st hf2) sm2
  obtain ⟨hkb, hen, hfun, vs, T, oT, ts, he, -⟩ := hf2
  have hL : B.get? L = none := by
    obtain ⟨_, ⟨L', _, hf', hn', _⟩, _⟩ := hfun
    obtain rfl : L = L' := Option.some.inj (hf.symm.trans hf')
    exact hn'
  refine k e d vs k1 k2 k3 t1 t2 t3 h2 tk F2 fun q hq => ?_
  rcases List.mem_cons.mp hq with rfl | hq
  · refine ⟨he, fun z => ?_, fresh_of_stays hB hen⟩
    obtain ⟨oL, hoL, _⟩ := F2.ns
    obtain ⟨_, ⟨L', o', hf', _, ho', hd'⟩, _⟩ := hfun
    obtain rfl : L = L' := Option.some.inj (hf.symm.trans hf')
    have z' : e = L := z
    rw [z', ho'] at he
    cases he
    first
      | exact hd' _ rfl
      | (obtain ⟨_, _, hd'⟩ := hd'; cases hd')
      | (cases hd')
  · exact ⟨hkb _ _ (hl q hq).1, (fun z => by have := (hl q hq).1; rw [z, hL] at this; cases this), (hl q hq).2⟩
end

-- the part ntry
/-! try and the first iterable of a comprehension, in the own judgement -/
section
variable {M : Model} {A : Around} {E : Value → Shared → Prop} {s : Shared} {env : Env}
theorem N_Try {body orelse : List Stmt} {h₀ : ExceptHandler} {hs : List ExceptHandler} {pos : Pos} {Q : Flow → Shared → Prop}
    (h : wpN M A (execs body env) (fun f s₁ => match f with | .next => wpAny M A (execs orelse env) Q E s₁ | f => Q f s₁)
      (fun e s₁ => wpAny M A (noteFrame e env) (fun _ s₂ => wpAny M A (setFlight e none) (fun _ s₃ => wpAny M A (handleBy e env (h₀ :: hs)) Q E s₃) E s₂) E s₁) s) :
    wpN M A (exec (.Try body (h₀ :: hs) orelse [] pos) env) Q E s := by
  rw [arm_exec_Try]
  refine wpN_bindA (wpAny_standAt ?_)
  unfold tryStmt
  simp only [List.isEmpty_nil, if_true, List.isEmpty_cons, Bool.false_and, Bool.false_eq_true, if_false]
  refine wpN_bind (wpN_attempt (wpN_mono h (fun f s₁ h₁ => ?_) fun e s₁ h₁ => ?_))
  · refine wpN_any ?_
    cases f <;> first | exact h₁ | exact wpAny_pure h₁
  · exact wpN_any (wpAny_bind (wpAny_mono h₁ (fun _ _ h₂ => wpAny_bind h₂) fun _ _ x => x))
theorem comp_split {e : PySem.Expr} {scope : Scope} {pos : Pos} {newAcc first : Sem Value} {b : Bool} : comprehension e scope env pos newAcc b first = (first >>= fun x => comprehension e scope env pos newAcc b (pure x)) := by
  unfold comprehension
  simp only [pure_bind]
theorem N_ListComp {elt target iter : PySem.Expr} {ifs : List PySem.Expr} {rest : List Comprehension} {scope : Scope} {pos : Pos} {Q : Value → Shared → Prop}
    (h : wpN M A (eval iter env) (fun x s₁ => wpAny M A (comprehension (.ListComp elt (⟨target, iter, ifs, 0⟩ :: rest) scope pos) scope env (firstIterPos (⟨target, iter, ifs, 0⟩ :: rest) pos) (newList []) (firstAsync (⟨target, iter, ifs, 0⟩ :: rest)) (pure x)) Q E s₁) E s) :
    wpN M A (eval (.ListComp elt (⟨target, iter, ifs, 0⟩ :: rest) scope pos) env) Q E s := by
  rw [eval_ListComp, comp_split]
  exact wpN_bind (wpN_mono h (fun x s₁ h₁ => wpN_any h₁) fun _ _ x => x)
/-- a value that is looked up once more: the same comprehension over a name's value -/
theorem comp_of_eval {e iter : PySem.Expr} {scope : Scope} {pos : Pos} {newAcc : Sem Value} {b : Bool} {x : Value} {Q : Value → Shared → Prop} (h : wpAny M A (comprehension e scope env pos newAcc b (eval iter env)) Q E s)
    (hi : eval iter env = pure x) : wpAny M A (comprehension e scope env pos newAcc b (pure x)) Q E s := by rw [← hi]; exact h
theorem comp_split_use {e : PySem.Expr} {scope : Scope} {pos : Pos} {newAcc first : Sem Value} {b : Bool} {u : Option (Value → Sem Unit)} : comprehension e scope env pos newAcc b first u = (first >>= fun x => comprehension e scope env pos newAcc b (pure x) u) := by
  unfold comprehension
  simp only [pure_bind]
/-- x = [.. for .. in iter] on one line: the list is stored within the comprehension -/
theorem N_AssignComp {elt target iter : PySem.Expr} {ifs : List PySem.Expr} {rest : List Comprehension} {scope : Scope} {cpos px pos : Pos} {x : PySem.Str} {Q : Flow → Shared → Prop}
    (hs : swapsWith (.ListComp elt (⟨target, iter, ifs, 0⟩ :: rest) scope cpos) (some (.Name x px)) pos.line env = pure true)
    (h : wpN M A (eval iter env) (fun v s₁ => wpAny M A (comprehension (.ListComp elt (⟨target, iter, ifs, 0⟩ :: rest) scope cpos) scope env (firstIterPos (⟨target, iter, ifs, 0⟩ :: rest) cpos) (newList []) (firstAsync (⟨target, iter, ifs, 0⟩ :: rest)) (pure v) (some (assign (.Name x px) env))) (fun _ => Q .next) E s₁) E s) :
    wpN M A (exec (.Assign [.Name x px] (.ListComp elt (⟨target, iter, ifs, 0⟩ :: rest) scope cpos) pos) env) Q E s := by
  rw [exec_Assign_Name_used x px _ pos hs]
  refine wpN_bindA (wpAny_standAt ?_)
  have key : wpN M A (comprehension (.ListComp elt (⟨target, iter, ifs, 0⟩ :: rest) scope cpos) scope env (firstIterPos (⟨target, iter, ifs, 0⟩ :: rest) cpos) (newList []) (firstAsync (⟨target, iter, ifs, 0⟩ :: rest)) (eval iter env) (some (assign (.Name x px) env))) (fun _ => Q .next) E s := by
    rw [comp_split_use]
    exact wpN_bind (wpN_mono h (fun x s₁ h₁ => wpN_any h₁) fun _ _ x => x)
  first
    | exact wpN_bind (wpN_mono key (fun _ _ q => wpN_pure q) fun _ _ x => x)
    | exact wpN_bind (wpN_bind (wpN_mono key (fun _ _ q => wpN_pure (wpN_pure q)) fun _ _ x => x))
end

-- the part comp
/-! a comprehension over a list of the ledger, each item made a tuple -/
inductive TupsAt (news : List (Addr × Obj)) : List Value → List (List Value) → Prop
  | nil : TupsAt news [] []
  | cons {T vs c cs} : (T, tupO c) ∈ news → TupsAt news vs cs → TupsAt news (.ref T :: vs) (c :: cs)
theorem TupsAt.mono {l l' : List (Addr × Obj)} (hs : ∀ p ∈ l, p ∈ l') : ∀ {vs : List Value} {cs : List (List Value)}, TupsAt l vs cs → TupsAt l' vs cs
  | _, _, .nil => .nil
  | _, _, .cons h1 h2 => .cons (hs _ h1) (TupsAt.mono hs h2)
theorem TupsAt.snoc {l : List (Addr × Obj)} {T : Addr} {c : List Value} (hT : (T, tupO c) ∈ l) : ∀ {vs : List Value} {cs : List (List Value)}, TupsAt l vs cs → TupsAt l (vs ++ [.ref T]) (cs ++ [c])
  | _, _, .nil => .cons hT .nil
  | _, _, .cons h1 h2 => .cons h1 (TupsAt.snoc hT h2)
theorem TupsAt.len {l : List (Addr × Obj)} : ∀ {vs : List Value} {cs : List (List Value)}, TupsAt l vs cs → vs.length = cs.length
  | _, _, .nil => rfl
  | _, _, .cons _ h => by rw [List.length_cons, List.length_cons, TupsAt.len h]
/-- a tuple was made, all else stands -/
inductive TupMade (h₀ : Heap) (L : Addr) (m : PySem.Str → Option Value) (C I : Addr) (oI : Obj) (all : List (Addr × Obj)) (g : List Value → Prop) (s₁ : Shared) (y : Value) (s₂ : Shared) : Prop
  | mk (T : Addr) (ws : List Value) (oC : Obj) (m' : PySem.Str → Option Value) (h' : Heap) (tk : Nat) (hy : y = .ref T) (hs : s₂ = { s₁ with heap := h', toks := tk }) (hg : g ws) (hC : LCg.NsObj oC m') (F : Fr h₀ L h' m)
      (N : News h₀ L h' ((T, tupO ws) :: (I, oI) :: (C, oC) :: all)) (l1 : ∀ p ∈ all, p.1 < T) (l2 : @LT.lt Nat _ I T) (l3 : @LT.lt Nat _ C T) : TupMade h₀ L m C I oI all g s₁ y s₂
/-- what holds between the turns of a comprehension -/
inductive CompJ (h₀ : Heap) (L : Addr) (m : PySem.Str → Option Value) (I ax C D : Addr) (items : List Value) (G : Value → List Value → Prop) (news : List (Addr × Obj)) (s : Shared) (k : Nat) (s' : Shared) : Prop
  | mk (h' : Heap) (tk : Nat) (oI oC : Obj) (mC : PySem.Str → Option Value) (ys : List Value) (n : Nat) (own : List (Addr × Obj)) (cs : List (List Value)) (i : Nat) (hs : s' = { s with heap := h', toks := tk }) (hi : i ≤ items.length) (hk : k = items.length + 1 - i)
      (hI : h'.IsListIter I ax i) (hC : LCg.NsObj oC mC) (F : Fr h₀ L h' m) (N : News h₀ L h' ((I, oI) :: (C, oC) :: (D, listOf ys.toArray n) :: (own ++ news))) (HT : TupsAt own ys cs) (HG : Paired G (items.take i) cs)
      (hoff : ∀ p ∈ own, (@Ne Nat p.1 I) ∧ (@Ne Nat p.1 C) ∧ (@Ne Nat p.1 D) ∧ ∀ q ∈ news, (@Ne Nat q.1 p.1)) : CompJ h₀ L m I ax C D items G news s k s'
section
variable {prog : Program} {w : World} {A : Around} {E : Value → Shared → Prop} {s : Shared} {h₀ : Heap} {L : Addr} {m : PySem.Str → Option Value} {news : List (Addr × Obj)}
theorem comp_turns {elt target iter : PySem.Expr} {scope : Scope} {pos : Pos} {I ax D C : Addr} {cenv : Env} {items : List Value} {R : Result → Shared → Prop} {n0 na : Nat} {oI oC : Obj} {mC : PySem.Str → Option Value} (G : Value → List Value → Prop)
    (hCe : cenv.locals = C) (hh : A.handled = none) (hsz : items.length ≤ 100000)
    (F : Fr h₀ L s.heap m) (N : News h₀ L s.heap ((I, oI) :: (C, oC) :: (D, listOf #[] n0) :: news)) (hI : s.heap.IsListIter I ax 0) (hC : LCg.NsObj oC mC) (hax : (ax, listOf items.toArray na) ∈ news)
    (off : ∀ p ∈ news, p.1 ≠ I ∧ p.1 ≠ C ∧ p.1 ≠ D) (nIC : I ≠ C) (nID : I ≠ D) (nCD : C ≠ D)
    (hlet : ∀ v ∈ items, ∀ i s' (Q : Unit → Shared → Prop) E', s'.heap.IsListIter I ax i → Q () s' → wpAny (model prog w) A (letOwnedTupleGo target (.ref I) v) Q E' s')
    (turn : ∀ v ∈ items, ∀ oI oC all mC h tk E', (∀ p ∈ news, p ∈ all) → LCg.NsObj oC mC → Fr h₀ L h m → News h₀ L h ((I, oI) :: (C, oC) :: all) → (∀ p ∈ all, p.1 ≠ I ∧ p.1 ≠ C) →
      wpAny (model prog w) A (assign target cenv v) (fun _ s₂ => wpAny (model prog w) A (eval elt cenv) (TupMade h₀ L m C I oI all (G v) { s with heap := h, toks := tk }) E' s₂) E' { s with heap := h, toks := tk })
    (hR : ∀ h' tk ys n own cs, Fr h₀ L h' m → News h₀ L h' ((D, listOf ys.toArray n) :: (own ++ news)) → TupsAt own ys cs → Paired G items cs → (∀ p ∈ own, (@Ne Nat p.1 D) ∧ (@Ne Nat p.1 C) ∧ ∀ q ∈ news, (@Ne Nat q.1 p.1)) → (∃ m', h'.Ns C m') → R (.ok .next) { s with heap := h', toks := tk }) :
    codeAny (model prog w) A (.compLoop (.ListComp elt [⟨target, iter, [], 0⟩] scope pos) 0 (.ref I) (.ref D) cenv) R s := by
  have fI : ∀ {h l}, News h₀ L h l → ∀ p ∈ l, p.1 ≠ L ∧ h₀.get? p.1 = none := fun N p hp => ⟨(N p hp).2.1, (N p hp).2.2⟩
  refine kcp_loop (CompJ h₀ L m I ax C D items G news s) ?_ (items.length + 1)
    ⟨s.heap, s.toks, oI, oC, mC, [], n0, [], [], 0, rfl, Nat.zero_le _, rfl, hI, hC, F, N, .nil, by rw [List.take_zero]; exact .nil, fun _ hp => nomatch hp⟩
  rintro k s' ⟨h', tk, oI, oC, mC, ys, n, own, cs, i, rfl, hi, rfl, hI', hC', F', N', HT, HG, hoff⟩
  have offA : ∀ p ∈ (D, listOf ys.toArray n) :: (own ++ news), p.1 ≠ I ∧ p.1 ≠ C := fun p hp => by
    rcases List.mem_cons.mp hp with rfl | hp
    · exact ⟨Ne.symm nID, Ne.symm nCD⟩
    · rcases List.mem_append.mp hp with hp | hp
      · exact ⟨(hoff p hp).1, (hoff p hp).2.1⟩
      · exact ⟨(off p hp).1, (off p hp).2.1⟩
  have hl : h'.IsList ax items.toArray := ⟨_, (N' _ (.tail _ (.tail _ (.tail _ (List.mem_append_right _ hax))))).1, rfl, _, rfl⟩
  have nI0 := (N' _ (.head _)).2
  by_cases hlt : i < items.length
  · refine wpAny_pyNext_list_item hI' hl (x := items[i]) (by simpa using List.getElem?_eq_getElem hlt) fun h₁ hit₁ hs₁ => ?_
    refine hlet _ (List.getElem_mem hlt) (i + 1) { s with heap := h₁, toks := tk } _ _ hit₁ ?_
    obtain ⟨oI₁, e₁, hc₁, hd₁⟩ := id hit₁
    have F₁ : Fr h₀ L h₁ m := F'.change hs₁ nI0.1 nI0.2
    have N₁ : News h₀ L h₁ ((I, oI₁) :: (C, oC) :: (D, listOf ys.toArray n) :: (own ++ news)) := fun p hp => by
      rcases List.mem_cons.mp hp with rfl | hp
      · exact ⟨e₁, nI0⟩
      · have z := N' p (.tail _ hp)
        refine ⟨(hs₁.2 _ ?_).trans z.1, z.2⟩
        rcases List.mem_cons.mp hp with rfl | hp
        · exact Ne.symm nIC
        · exact (offA p hp).1
    refine wpAny_mono (turn _ (List.getElem_mem hlt) oI₁ oC _ mC h₁ tk _ (fun p hp => .tail _ (List.mem_append_right _ hp)) hC' F₁ N₁ offA) (fun _ s₂ h₂ => wpAny_mono h₂ (fun y s₃ h₃ => ?_) fun _ _ e => e) fun _ _ e => e
    obtain ⟨T, ws, oC₂, m₂, h₂, tk₂, rfl, rfl, hG, hC₂, F₂, N₂, lT, lI, lC⟩ := h₃
    have zD := N₂ (D, listOf ys.toArray n) (.tail _ (.tail _ (.tail _ (.head _))))
    have hyl : ys.length ≤ items.length := by
      have e1 := HG.length
      have e2 := HT.len
      rw [List.length_take] at e1
      omega
    refine append_at (hsz := by show ys.toArray.size ≤ sizeLine; rw [List.size_toArray, show sizeLine = 16777216 from rfl]; omega) zD.1 fun h₃ hs₃ hD₃ => ?_
    have hDT : @LT.lt Nat _ D T := lT (D, listOf ys.toArray n) (.head _)
    refine ⟨items.length + 1 - (i + 1), by omega, h₃, tk₂, oI₁, oC₂, m₂, ys ++ [.ref T], n + 1, (T, tupO ws) :: own, cs ++ [ws], i + 1, rfl, hlt, rfl, ?_, hC₂, F₂.change hs₃ zD.2.1 zD.2.2, fun p hp => ?_, ?_, ?_, fun p hp => ?_⟩
    · have z := (N₂ (I, oI₁) (.tail _ (.head _))).1
      exact ⟨oI₁, (hs₃.2 _ nID).trans z, hc₁, hd₁⟩
    · have old : ∀ q ∈ (T, tupO ws) :: (I, oI₁) :: (C, oC₂) :: (own ++ news), q.1 ≠ D → h₃.get? q.1 = some q.2 ∧ q.1 ≠ L ∧ h₀.get? q.1 = none := fun q hq hne => by
        have hq' : q ∈ (T, tupO ws) :: (I, oI₁) :: (C, oC₂) :: (D, listOf ys.toArray n) :: (own ++ news) := by
          simp only [List.mem_cons] at hq ⊢
          rcases hq with h | h | h | h
          · exact .inl h
          · exact .inr (.inl h)
          · exact .inr (.inr (.inl h))
          · exact .inr (.inr (.inr (.inr h)))
        exact ⟨(hs₃.2 _ hne).trans (N₂ q hq').1, (N₂ q hq').2⟩
      rcases List.mem_cons.mp hp with rfl | hp
      · exact old _ (.tail _ (.head _)) nID
      rcases List.mem_cons.mp hp with rfl | hp
      · exact old _ (.tail _ (.tail _ (.head _))) nCD
      rcases List.mem_cons.mp hp with rfl | hp
      · refine ⟨?_, zD.2⟩
        rw [show (ys ++ [Value.ref T]).toArray = ys.toArray.push (.ref T) by simp]
        exact hD₃
      rcases List.mem_cons.mp hp with rfl | hp
      · exact old _ (.head _) (Nat.ne_of_gt hDT)
      · refine old _ (.tail _ (.tail _ (.tail _ hp))) ?_
        rcases List.mem_append.mp hp with hp | hp
        · exact (hoff p hp).2.2.1
        · exact (off p hp).2.2
    · exact TupsAt.snoc (.head _) (HT.mono fun p hp => .tail _ hp)
    · rw [List.take_add_one, List.getElem?_eq_getElem hlt]
      exact Paired.snoc HG hG
    · rcases List.mem_cons.mp hp with rfl | hp
      · exact ⟨Nat.ne_of_gt lI, Nat.ne_of_gt lC, Nat.ne_of_gt hDT, fun q hq => Nat.ne_of_lt (lT q (.tail _ (List.mem_append_right _ hq)))⟩
      · exact hoff p hp
  · obtain rfl : i = items.length := Nat.le_antisymm hi (Nat.not_lt.mp hlt)
    refine wpAny_pyNext_list_end hh hI' hl (by simp) fun h₁ he₁ => ?_
    have keep : ∀ p ∈ (C, oC) :: (D, listOf ys.toArray n) :: (own ++ news), h₁.get? p.1 = some p.2 ∧ p.1 ≠ L ∧ h₀.get? p.1 = none := fun p hp => by
      have z := N' p (.tail _ hp)
      refine ⟨he₁ _ _ ?_ z.1, z.2⟩
      rcases List.mem_cons.mp hp with rfl | hp
      · exact Ne.symm nIC
      · exact (offA p hp).1
    have F₁ : Fr h₀ L h₁ m := LCg.fr_but F' (fun b o hb e => he₁ b o (by simpa using hb) e) (Ne.symm nI0.1) nI0.2
    rw [List.take_length] at HG
    exact hR h₁ tk ys n own cs F₁ (fun p hp => keep p (.tail _ hp)) HT HG (fun p hp => ⟨(hoff p hp).2.2.1, (hoff p hp).2.1, (hoff p hp).2.2.2⟩) ⟨mC, hC'.ns (keep _ (.head _)).1⟩
/-- x = [(..) for .. in l], the list being known -/
theorem comp_assign {elt target iter : PySem.Expr} {scope : Scope} {pos pos' : Pos} {ax : Addr} {env : Env} {items : List Value} {x : PySem.Str} {px : Pos} {na : Nat} {Q : Value → Shared → Prop} (G : Value → List Value → Prop)
    (hLe : env.locals = L) (hh : A.handled = none) (hsz : items.length ≤ 100000)
    (hclos : closureFor scope env = pure []) (hcell : ∀ z ∈ scope.names, z.2 ≠ .cell) (hkind : scope.kind = .function) (hnames : ∀ z ∈ scope.names, z.2 = .local → scope.names.lookup z.1 = some .local)
    (hx : env.kindOf x = some .local) (hp : (env.scope.kind == .class || (env.scope.kind == .module && env.locals != env.globals)) = false)
    (F : Fr h₀ L s.heap m) (N : News h₀ L s.heap news) (hax : (ax, listOf items.toArray na) ∈ news)
    (hlet : ∀ v ∈ items, ∀ I i s' (Q : Unit → Shared → Prop) E', s'.heap.IsListIter I ax i → Q () s' → wpAny (model prog w) A (letOwnedTupleGo target (.ref I) v) Q E' s')
    (turn : ∀ v ∈ items, ∀ C I oI oC all mC h tk E', (∀ p ∈ news, p ∈ all) → LCg.NsObj oC mC → Fr h₀ L h m → News h₀ L h ((I, oI) :: (C, oC) :: all) → (∀ p ∈ all, p.1 ≠ I ∧ p.1 ≠ C) → I ≠ C →
      wpAny (model prog w) A (assign target (compEnvC scope [] C env) v) (fun _ s₂ => wpAny (model prog w) A (eval elt (compEnvC scope [] C env)) (TupMade h₀ L m C I oI all (G v) { s with heap := h, toks := tk }) E' s₂) E' { s with heap := h, toks := tk })
    (k : ∀ D h' tk ys n own cs, Fr h₀ L h' (fun z => if z = x then some (.ref D) else m z) → News h₀ L h' ((D, listOf ys.toArray n) :: (own ++ news)) → TupsAt own ys cs → Paired G items cs →
      (∀ p ∈ own, (@Ne Nat p.1 D) ∧ ∀ q ∈ news, (@Ne Nat q.1 p.1)) → (∀ q ∈ news, (@Ne Nat q.1 D)) → Q .none { s with heap := h', toks := tk })
    (hs : ∀ x, foldedSetIterable iter env x = pure x := by intro _; rfl) :
    wpAny (model prog w) A (comprehension (.ListComp elt [⟨target, iter, [], 0⟩] scope pos) scope env pos' (newList []) false (pure (.ref ax)) (some (assign (.Name x px) env))) Q E s := by
  subst hLe
  refine wpAny_comprehension_free (use := some (assign (.Name x px) env)) rfl hs hclos hkind hnames (wpAny_pure ?_)
  have hl : s.heap.IsList ax items.toArray := ⟨_, (N _ hax).1, rfl, _, rfl⟩
  refine wpAny_pyIter_list hl ?_
  refine wpAny_newObj_type (wpAny_newFunctionEnv hcell (by intro y hy; simp at hy) (fun h₁ hns₁ hsb₁ => ?_) hkind)
  dsimp only at hns₁ hsb₁ ⊢
  generalize hH1 : s.heap.push { cls := .type "list_iterator", data := .fields #[.ref ax, .int 0 0] } = H1 at hns₁ hsb₁ ⊢
  have hD : H1.objs.size = s.heap.objs.size + 1 := by rw [← hH1, Heap.size_push]
  generalize hH2 : H1.push { cls := .type "list", dict := none, data := .seq ([] : List Value).toArray } = H2 at hns₁ hsb₁ ⊢
  have hC : H2.objs.size = s.heap.objs.size + 2 := by rw [← hH2, Heap.size_push, hD]
  have hDI : H1.objs.size ≠ s.heap.objs.size := by rw [hD]; exact Nat.succ_ne_self _
  have hDC : H1.objs.size ≠ H2.objs.size := by rw [hD, hC]; exact Nat.ne_of_lt (Nat.lt_succ_self _)
  have hIC : s.heap.objs.size ≠ H2.objs.size := by rw [hC]; exact Nat.ne_of_lt (Nat.lt_succ_of_lt (Nat.lt_succ_self _))
  have below : ∀ b, b < s.heap.objs.size → b ≠ H2.objs.size ∧ b ≠ s.heap.objs.size ∧ b ≠ H1.objs.size := fun b hb =>
    ⟨by rw [hC]; exact Nat.ne_of_lt (Nat.lt_succ_of_lt (Nat.lt_succ_of_lt hb)), Nat.ne_of_lt hb, by rw [hD]; exact Nat.ne_of_lt (Nat.lt_succ_of_lt hb)⟩
  have old : ∀ b o, s.heap.get? b = some o → h₁.get? b = some o := fun b o e =>
    hsb₁.extBut b o (below b (Heap.lt_size e)).1 (Heap.get?_push_of_some _ (hH2 ▸ Heap.get?_push_of_some _ (hH1 ▸ Heap.get?_push_of_some _ e)))
  have eI : h₁.get? s.heap.objs.size = some { cls := .type "list_iterator", data := .fields #[.ref ax, .int 0 0] } :=
    hsb₁.extBut _ _ hIC (Heap.get?_push_of_some _ (hH2 ▸ Heap.get?_push_of_some _ (hH1 ▸ Heap.get?_push_size _ rfl)))
  have eD : h₁.get? H1.objs.size = some (listOf #[] 0) := hsb₁.extBut _ _ hDC (Heap.get?_push_of_some _ (hH2 ▸ Heap.get?_push_size _ rfl))
  have fresh : ∀ a, s.heap.objs.size ≤ a → s.heap.get? a = none := fun a ha => by
    cases e : s.heap.get? a with
    | none => rfl
    | some o' => exact absurd (Heap.lt_size e) (Nat.not_lt.mpr ha)
  have fresh₀ : ∀ a, s.heap.objs.size ≤ a → h₀.get? a = none := fun a ha => by
    cases e : h₀.get? a with
    | none => rfl
    | some o' => have := F.keep a o' e; rw [fresh a ha] at this; cases this
  have hI₀ := fresh₀ _ (Nat.le_refl _)
  have hD₀ : h₀.get? H1.objs.size = none := fresh₀ _ (by rw [hD]; exact Nat.le_succ _)
  have hC₀ : h₀.get? H2.objs.size = none := fresh₀ _ (by rw [hC]; exact Nat.le_add_right _ _)
  have hLlt : env.locals < s.heap.objs.size := F.ns.lt
  have hL3 := below _ hLlt
  obtain ⟨oC, eC, hoC⟩ := LCg.ns_obj hns₁
  have F₁ : Fr h₀ env.locals h₁ m := F.keeps old
  have lt3 : ∀ p ∈ news, p.1 < s.heap.objs.size := fun p hp => Heap.lt_size (N p hp).1
  have N₁ : News h₀ env.locals h₁ ((s.heap.objs.size, { cls := .type "list_iterator", data := .fields #[.ref ax, .int 0 0] }) :: (H2.objs.size, oC) :: (H1.objs.size, listOf #[] 0) :: news) := fun p hp => by
    rcases List.mem_cons.mp hp with rfl | hp
    · exact ⟨eI, Ne.symm hL3.2.1, hI₀⟩
    rcases List.mem_cons.mp hp with rfl | hp
    · exact ⟨eC, Ne.symm hL3.1, hC₀⟩
    rcases List.mem_cons.mp hp with rfl | hp
    · exact ⟨eD, Ne.symm hL3.2.2, hD₀⟩
    · exact ⟨old _ _ (N p hp).1, (N p hp).2⟩
  have hit : h₁.IsListIter s.heap.objs.size ax 0 := ⟨_, eI, rfl, rfl⟩
  have loop : ∀ s₃ : Shared, s₃ = { s with heap := h₁, toks := s.toks + ([] : List (PySem.Str × Value)).length } →
      codeAny (model prog w) A (.compLoop (.ListComp elt [⟨target, iter, [], 0⟩] scope pos) 0 (.ref s.heap.objs.size) (.ref H1.objs.size) (compEnvC scope [] H2.objs.size env))
        (compPost (model prog w) A E (some (assign (.Name x px) env)) Q (.ref H1.objs.size) H2.objs.size) s₃ := by
    rintro s₃ rfl
    refine comp_turns (cenv := compEnvC scope [] H2.objs.size env) (news := news) G rfl hh hsz F₁ N₁ hit hoC hax (fun p hp => ⟨(below _ (lt3 p hp)).2.1, (below _ (lt3 p hp)).1, (below _ (lt3 p hp)).2.2⟩) hIC (Ne.symm hDI) (Ne.symm hDC)
      (fun v hv i s' Q E' => hlet v hv _ i s' Q E') (fun v hv oI oC all mC h tk E' a b c d e => turn v hv _ _ oI oC all mC h tk E' a b c d e hIC) ?_
    intro h' tk ys n own cs F' N' HT HG hoff ⟨m', hm'⟩
    show wpAny _ A (assign (.Name x px) env (.ref H1.objs.size)) _ _ _
    refine wpAny_assign_Name (wpAny_storeName_local hx F'.ns (fun h₂ hn₂ hs₂ => ?_) hp)
    have hL₀ : h₀.get? env.locals = none := Heap.get?_none_of_le F'.above
    have F₂ : Fr h₀ env.locals h₂ (fun z => if z = x then some (.ref H1.objs.size) else m z) := ⟨hn₂, fun b o e => hs₂.extBut b o (fun q => by rw [q, hL₀] at e; cases e) (F'.keep b o e), F'.above⟩
    refine ⟨m', hm'.sameBut hs₂ (Ne.symm hL3.1), fun h'' hs'' => k H1.objs.size h'' _ ys n own cs (F₂.change hs'' (Ne.symm hL3.1) hC₀) (fun p hp => ?_) HT HG (fun p hp => ⟨(hoff p hp).1, (hoff p hp).2.2⟩) fun q hq => (below _ (lt3 q hq)).2.2⟩
    have z : h₂.get? p.1 = some p.2 := hs₂.extBut _ _ (N' p hp).2.1 (N' p hp).1
    refine ⟨hs''.extBut _ _ ?_ z, (N' p hp).2⟩
    rcases List.mem_cons.mp hp with rfl | hp
    · exact hDC
    · rcases List.mem_append.mp hp with hp | hp
      · exact (hoff p hp).2.1
      · exact (below _ (lt3 p hp)).1
  exact codeAny_compStart_list (loop _ rfl) (wpAny_pyIter_listiter hit (loop _ rfl))
end

-- the part eqs
/-! two lists of tuples that hold the same -/
inductive SameV : Value → Value → Prop
  | int {i t u} : SameV (.int i t) (.int i u)
  | str {x t u} : SameV (.str x t) (.str x u)
  | bytes {b t u} : SameV (.bytes b t) (.bytes b u)
inductive SameL : List Value → List Value → Prop
  | nil : SameL [] []
  | cons {v w vs ws} : SameV v w → SameL vs ws → SameL (v :: vs) (w :: ws)
theorem SameL.len : ∀ {vs ws : List Value}, SameL vs ws → vs.length = ws.length
  | _, _, .nil => rfl
  | _, _, .cons _ h => by rw [List.length_cons, List.length_cons, SameL.len h]
section
variable {A : Around} {s : Shared} {h₀ h : Heap} {L : Addr} {news : List (Addr × Obj)}
theorem SameV.at {v w : Value} (h : SameV v w) : SeqAt.EqAt A s v w true := by
  cases h with
  | int => rename_i i t u; have := SeqAt.EqAt.int_int (A := A) (s := s) i t i u; rwa [beq_self_eq_true] at this
  | str => rename_i x t u; have := SeqAt.EqAt.str_str (A := A) (s := s) x t x u; rwa [beq_self_eq_true] at this
  | bytes => exact fun prog w E Q hq => eqBool_bytes (by rw [decide_eq_true rfl]; exact hq)
theorem SameL.at : ∀ {vs ws : List Value}, SameL vs ws → ∀ j (h1 : j < vs.length) (h2 : j < ws.length), SeqAt.EqAt A s vs[j] ws[j] true
  | _, _, .nil, j, h1, _ => absurd h1 (Nat.not_lt_zero _)
  | _, _, .cons a r, 0, _, _ => a.at
  | _, _, .cons a r, j + 1, h1, h2 => SameL.at r j (Nat.lt_of_succ_lt_succ h1) (Nat.lt_of_succ_lt_succ h2)
theorem same_tuples {a b : Addr} {vs ws : List Value} (N : News h₀ L s.heap news) (ha : (a, tupO vs) ∈ news) (hb : (b, tupO ws) ∈ news) (h : SameL vs ws) (hu : A.units < cLine) : SeqAt.RcAt A s (.ref a) (.ref b) true := by
  have hl : s.heap.IsTuple a vs.toArray := ⟨_, (N _ ha).1, rfl, _, rfl⟩
  have hl' : s.heap.IsTuple b ws.toArray := ⟨_, (N _ hb).1, rfl, _, rfl⟩
  have := SeqAt.RcAt.tuples (A := A) (e := fun _ => true) hl hl' hu fun j h1 h2 => by
    have := h.at (A := A.in1) (s := s) j (by simpa using h1) (by simpa using h2)
    simpa using this
  have e : ((List.range (min vs.toArray.size ws.toArray.size)).all (fun _ => true) && vs.toArray.size == ws.toArray.size) = true := by
    simp [h.len]
  rwa [e] at this
theorem same_tuplesB {a b : Addr} {vs ws : List Value} (N : News h₀ L s.heap news) (ha : (a, tupO vs) ∈ news) (hb : (b, tupO ws) ∈ news) (h : SameL vs ws) (hu : A.units < cLine) : SeqAt.EqAt A s (.ref a) (.ref b) true := by
  by_cases e : a = b
  · subst e; exact SeqAt.EqAt.same _
  · exact SeqAt.EqAt.of_refs e (same_tuples N ha hb h hu)
end
section
variable {prog : Program} {w : World} {A : Around} {E : Value → Shared → Prop} {s : Shared} {h₀ : Heap} {L : Addr} {news : List (Addr × Obj)} {Q : Value → Shared → Prop}
theorem eq_tuples_K {a b : Addr} {vs ws : List Value} (N : News h₀ L s.heap news) (ha : (a, tupO vs) ∈ news) (hb : (b, tupO ws) ∈ news) (h : SameL vs ws) (hu : A.units < cLine) (k : Q (.bool true) s) :
    wpAny (model prog w) A (compareOp .Eq (.ref a) (.ref b)) Q E s := same_tuples N ha hb h hu prog w E Q k
theorem eq_lists_K {a b : Addr} {vs ws : List Value} {n1 n2 : Nat} (N : News h₀ L s.heap news) (ha : (a, listOf vs.toArray n1) ∈ news) (hb : (b, listOf ws.toArray n2) ∈ news) (hl : vs.length = ws.length)
    (h : ∀ j (h1 : j < vs.length) (h2 : j < ws.length), ∃ c d cs ds, vs[j] = .ref c ∧ ws[j] = .ref d ∧ (c, tupO cs) ∈ news ∧ (d, tupO ds) ∈ news ∧ SameL cs ds) (hu : A.units + 1 < cLine) (k : Q (.bool true) s) :
    wpAny (model prog w) A (compareOp .Eq (.ref a) (.ref b)) Q E s := by
  have la : s.heap.IsList a vs.toArray := ⟨_, (N _ ha).1, rfl, _, rfl⟩
  have lb : s.heap.IsList b ws.toArray := ⟨_, (N _ hb).1, rfl, _, rfl⟩
  have hu1 : A.in1.units < cLine := hu
  have := SeqAt.RcAt.lists (A := A) (e := fun _ => true) la lb (by simpa using hl) (Nat.lt_of_succ_lt hu) fun j h1 h2 => by
    obtain ⟨c, d, cs, ds, e1, e2, hc, hd, hs⟩ := h j (by simpa using h1) (by simpa using h2)
    have e1' : vs.toArray[j] = .ref c := by simpa using e1
    have e2' : ws.toArray[j] = .ref d := by simpa using e2
    rw [e1', e2']
    exact same_tuplesB N hc hd hs hu1
  have e : (List.range vs.toArray.size).all (fun _ => true) = true := by simp
  rw [e] at this
  exact this prog w E Q k
end

-- the part due
/-! the turn of «due»: a tuple of three taken apart, a tuple of five made -/
section
variable {prog : Program} {w : World} {A : Around} {E : Value → Shared → Prop} {s : Shared} {h₀ : Heap} {L : Addr} {m : PySem.Str → Option Value}
theorem due_turn {scope : Scope} {env : Env} {x y z S : PySem.Str} {px py pz p1 p2 p3 p4 p5 tp tq : Pos} {k1 k2 k3 : Nat} {T C I : Addr} {a b c : Value} {oI oC : Obj} {all : List (Addr × Obj)} {mC : PySem.Str → Option Value} {h : Heap} {tk : Nat}
    (hh : A.handled = none) (hT : h.get? T = some (tupO [a, b, c])) (hxy : x ≠ y) (hxz : x ≠ z) (hyz : y ≠ z)
    (hk : (compEnvC scope [] C env).scope.kind = .function) (hx : (compEnvC scope [] C env).kindOf x = some .local) (hy : (compEnvC scope [] C env).kindOf y = some .local) (hz : (compEnvC scope [] C env).kindOf z = some .local)
    (dx : (x == ("__debug__" : PySem.Str)) = false) (dy : (y == ("__debug__" : PySem.Str)) = false) (dz : (z == ("__debug__" : PySem.Str)) = false)
    (hC : LCg.NsObj oC mC) (F : Fr h₀ L h m) (N : News h₀ L h ((I, oI) :: (C, oC) :: all)) (off : ∀ p ∈ all, p.1 ≠ I ∧ p.1 ≠ C) (nIC : I ≠ C) :
    wpAny (model prog w) A (assign (.Tuple [.Name x px, .Name y py, .Name z pz] k1 tp) (compEnvC scope [] C env) (.ref T)) (fun _ s₂ =>
      wpAny (model prog w) A (eval (.Tuple [.Constant (.str S) k2 p1, .Name x p2, .Name x p3, .Name y p4, .Name z p5] k3 tq) (compEnvC scope [] C env)) (TupMade h₀ L m C I oI all (fun ws => ∃ t, ws = [.str S t, a, a, b, c]) { s with heap := h, toks := tk }) E s₂) E { s with heap := h, toks := tk } := by
  have hp : ((compEnvC scope [] C env).scope.kind == .class || ((compEnvC scope [] C env).scope.kind == .module && (compEnvC scope [] C env).locals != (compEnvC scope [] C env).globals)) = false := by rw [hk]; rfl
  have zC := N (C, oC) (.tail _ (.head _))
  have hn : h.Ns (compEnvC scope [] C env).locals mC := hC.ns zC.1
  refine wpAny_assign_Tuple hh ⟨_, hT, rfl, _, rfl⟩ rfl rfl fun h₁ he₁ => ?_
  have up₁ : ∀ c o, h.get? c = some o → h₁.get? c = some o := fun c o e => he₁ c o (Nat.ne_of_lt (Heap.lt_size e)) e
  have hn₁ : h₁.Ns C mC := hn.at' fun o e => up₁ _ o e
  show wpAny _ _ (assignInOrder [assign (.Name x px) (compEnvC scope [] C env), assign (.Name y py) (compEnvC scope [] C env), assign (.Name z pz) (compEnvC scope [] C env)] [a, b, c]) _ _ _
  refine assignInOrder_cons (wpAny_assign_Name (wpAny_storeName_local hx hn₁ (fun h₂ hn₂ hs₂ => ?_) hp))
  refine assignInOrder_cons (wpAny_assign_Name (wpAny_storeName_local hy hn₂ (fun h₃ hn₃ hs₃ => ?_) hp))
  refine assignInOrder_cons (wpAny_assign_Name (wpAny_storeName_local hz hn₃ (fun h₄ hn₄ hs₄ => ?_) hp))
  refine assignInOrder_nil ?_
  have up : ∀ c o, c ≠ C → h.get? c = some o → h₄.get? c = some o := fun c o hc e => hs₄.extBut c o hc (hs₃.extBut c o hc (hs₂.extBut c o hc (up₁ c o e)))
  have F₄ : Fr h₀ L h₄ m := ⟨F.ns.at' fun o e => up _ o (Ne.symm zC.2.1) e, fun b o e => up b o (fun q => by rw [q, zC.2.2] at e; cases e) (F.keep b o e), F.above⟩
  obtain ⟨oC₄, eC₄, hC₄⟩ := LCg.ns_obj hn₄
  have N₄ : News h₀ L h₄ ((I, oI) :: (C, oC₄) :: all) := fun p hp => by
    rcases List.mem_cons.mp hp with rfl | hp
    · have z := N (I, oI) (.head _)
      exact ⟨up _ _ nIC z.1, z.2⟩
    rcases List.mem_cons.mp hp with rfl | hp
    · exact ⟨eC₄, zC.2⟩
    · have z := N p (.tail _ (.tail _ hp))
      exact ⟨up _ _ (off p hp).2 z.1, z.2⟩
  rw [arm_eval_Tuple]
  refine wpAny_bind (wpAny_standAt (wpAny_bind ?_))
  rw [show starEach [.Constant (.str S) k2 p1, .Name x p2, .Name x p3, .Name y p4, .Name z p5] (compEnvC scope [] C env) = [(false, eval (.Constant (.str S) k2 p1) (compEnvC scope [] C env)), (false, eval (.Name x p2) (compEnvC scope [] C env)), (false, eval (.Name x p3) (compEnvC scope [] C env)), (false, eval (.Name y p4) (compEnvC scope [] C env)), (false, eval (.Name z p5) (compEnvC scope [] C env))] from rfl]
  refine spliced_cons' (Calls.Constant_str (k := k2) (pos := p1) ?_)
  refine spliced_cons' (ldVarK (v := a) hn₄ (by simp [hxy, hxz]) ?_ hk hx dx)
  refine spliced_cons' (ldVarK (v := a) hn₄ (by simp [hxy, hxz]) ?_ hk hx dx)
  refine spliced_cons' (ldVarK (v := b) hn₄ (by simp [hyz]) ?_ hk hy dy)
  refine spliced_cons' (ldVarK (v := c) hn₄ (by simp) ?_ hk hz dz)
  refine wpAny_pure ?_
  refine kup_newTuple F₄ N₄ (fun D h₅ F₅ N₅ l1 => ?_) (by show 5 ≤ sizeLine; rw [show sizeLine = 16777216 from rfl]; omega)
  exact ⟨D, _, oC₄, _, h₅, _, rfl, rfl, ⟨_, rfl⟩, hC₄, F₅, N₅, fun p hp => l1 p (.tail _ (.tail _ hp)), l1 (I, oI) (.head _), l1 (C, oC₄) (.tail _ (.head _))⟩
end
/-- what stands in «due» of the tokens ahead -/
noncomputable def DueIs (p : Nat × Int × Int) (c : List Value) : Prop := ∃ t0 t1 t2 t3, c = [.str (PySem.Str.ofString "reserved") t0, .str (tx [p.1]) t1, .str (tx [p.1]) t1, .int p.2.1 t2, .int p.2.2 t3]
/-- how the comprehension's source and its tuples go together -/
noncomputable def DueOf (h : Heap) (v : Value) (cs : List Value) : Prop := ∃ T a b c t, v = .ref T ∧ h.get? T = some (tupO [a, b, c]) ∧ cs = [.str (PySem.Str.ofString "reserved") t, a, a, b, c]
theorem due_lits {h₀ h : Heap} {L : Addr} {news : List (Addr × Obj)} (N : News h₀ L h news) : ∀ {toks : List (Nat × Int × Int)} {ws : List Value} {cs : List (List Value)}, LitsAt news ws (toks.map fun p => Lit.tup [.str (tx [p.1]), .int p.2.1, .int p.2.2]) → Paired (DueOf h) ws cs → Paired DueIs toks cs
  | [], _, _, H, G => by cases H; cases G; exact .nil
  | p :: r, _, _, H, G => by
    cases H with
    | cons H1 H2 =>
      cases G with
      | cons G1 G2 =>
        refine .cons ?_ (due_lits N H2 G2)
        obtain ⟨T, vt, rfl, hT, Ht⟩ := LitAt.inv_tup H1
        obtain ⟨T', a, b, c, t, e, hT', rfl⟩ := G1
        cases e
        rw [(N _ hT).1] at hT'
        cases Ht with | cons q1 Ht => ?_
        cases Ht with | cons q2 Ht => ?_
        cases Ht with | cons q3 Ht => ?_
        cases Ht
        cases q1; cases q2; cases q3
        injection hT' with hT'
        injection hT' with _ _ hd _
        injection hd with hd _
        have hd' := congrArg Array.toList hd
        simp only [List.cons.injEq, and_true] at hd'
        obtain ⟨rfl, rfl, rfl⟩ := hd'
        exact ⟨_, _, _, _, rfl⟩
theorem lits_tup {l : List (Addr × Obj)} : ∀ {toks : List (Nat × Int × Int)} {ws : List Value}, LitsAt l ws (toks.map fun p => Lit.tup [.str (tx [p.1]), .int p.2.1, .int p.2.2]) → ∀ v ∈ ws, ∃ T a b c, v = .ref T ∧ (T, tupO [a, b, c]) ∈ l
  | [], _, H, v, hv => by cases H; cases hv
  | p :: r, _, H, v, hv => by
    cases H with
    | cons H1 H2 =>
      rcases List.mem_cons.mp hv with rfl | hv
      · obtain ⟨T, vt, rfl, hT, Ht⟩ := LitAt.inv_tup H1
        cases Ht with | cons q1 Ht => ?_
        cases Ht with | cons q2 Ht => ?_
        cases Ht with | cons q3 Ht => ?_
        cases Ht
        exact ⟨T, _, _, _, rfl, hT⟩
      · exact lits_tup H2 v hv

-- the part lawpre
/-- the walk, asked of the data laid ahead -/
theorem to_hd {loose : List PySem.Str} {lv : List (PySem.Str × WData)} {r : RowW} {d : DefRec} {kwd : List (PySem.Str × PySem.Expr)} (h : WalkS One.hd.view_1_40 loose (XL One.hd.view_1_40 lv) (InK One.hd.heap_1_39) r d kwd) :
    WalkS One.hd.view_1_40 loose (XL One.hd.view_1_40 lv) (InK One.hd.heap_1_39) r d kwd := h
theorem N_enter {M : Model} {A : Around} {s : Shared} {f : Value} {pos : List Value} {kw : List (PySem.Str × Value)} {c : ClaimW} {cl : PySem.Str → Option Addr} {mean : ExcName → Option Value} {args : List WData} {s₁ : Shared}
    (h : codeN M A (.call f ⟨pos, kw⟩) (GoodW c cl mean args s₁) s) : wpN M A (PySem.call f pos kw) (fun v s' => GoodWG c cl mean args s₁ (.ok (.ret v)) s') (fun e s' => GoodWG c cl mean args s₁ (.error e) s') s :=
  wpN_call (codeN_mono h fun res s' g => by rcases g.1 with ⟨v, _, _, rfl, _⟩ | ⟨e, _, _, rfl, _⟩ <;> exact GoodW.toG g)
theorem N_fullW {prog : Program} {w : World} {A : Around} {R : Result → Shared → Prop} {s : Shared} {name : PySem.Str} {params : Arguments} {body : List Stmt} {scope : Scope}
    {dV kV pm cd doc : Value} {a : Addr} {o : Obj} {args : Args} {binds : List (PySem.Str × Value)}
    (hroom : A.depth < recursionLimit) (ho : s.heap.get? a = some o) (hdata : o.data = .func { docDef name params body scope pm cd doc with defaults := dV, kwdefaults := kV }) (hlim : s.heap.NoLimit) (hcd : s.heap.CodeRec cd name)
    (hbind : BindsTo s { docDef name params body scope pm cd doc with defaults := dV, kwdefaults := kV } args binds)
    (hloc : ∀ x ∈ binds, scope.names.lookup x.1 = some .local)
    (h : ∀ h₁ (QL : Flow → Shared → Prop), Fr s.heap s.heap.objs.size h₁ (fun x => binds.reverse.lookup x) → (∀ v s', R (.ok (.ret v)) s' → QL (.ret v) s') →
      wpN (model prog w) (A.deeper (envOf name scope s.heap.objs.size a cd)) (execs body (envOf name scope s.heap.objs.size a cd)) QL (fun _ _ => False) { s with heap := h₁, toks := s.toks + binds.length })
    (hco : scope.isCoroutine = false := by rfl) (hgen : scope.isGenerator = false := by rfl) (hk : scope.kind = .function := by rfl)
    (hcell : ∀ x ∈ scope.names, x.2 ≠ .cell := by decide) :
    codeN (model prog w) A (.call (.ref a) args) R s := by
  refine codeN_call_function hroom ho hdata hco hgen rfl hcd (hbind _ _ _ _ ?_)
  refine wpAny_newFunctionEnv hcell hloc (fun h₁ hns₁ hsb₁ => ?_) hk
  have hk₁ : ∀ b o, s.heap.get? b = some o → h₁.get? b = some o := fun b o e => hsb₁.extBut b o (Nat.ne_of_lt (Heap.lt_size e)) (Heap.get?_push_of_some _ e)
  exact ⟨hlim.fresh _ hsb₁, codeN_func (wpN_mono (h h₁ _ ⟨hns₁, hk₁, Nat.le_refl _⟩ fun _ _ x => x) (fun _ _ x => x) fun _ _ x => x.elim)⟩
theorem LitsAt.inv_cons {news : List (Addr × Obj)} {vs : List Value} {d : Lit} {ds : List Lit} (h : LitsAt news vs (d :: ds)) : ∃ v vs', vs = v :: vs' ∧ LitAt news v d ∧ LitsAt news vs' ds := by
  cases h with | cons h1 h2 => exact ⟨_, _, rfl, h1, h2⟩
theorem LitsAt.inv_nil {news : List (Addr × Obj)} {vs : List Value} (h : LitsAt news vs []) : vs = [] := by cases h; rfl
theorem LitAt.inv_str {news : List (Addr × Obj)} {v : Value} {x : PySem.Str} (h : LitAt news v (.str x)) : ∃ t, v = .str x t := by cases h; exact ⟨_, rfl⟩
theorem LitAt.inv_int {news : List (Addr × Obj)} {v : Value} {i : Int} (h : LitAt news v (.int i)) : ∃ t, v = .int i t := by cases h; exact ⟨_, rfl⟩
/-- what an entry of the table ahead is -/
theorem ahead_entry {l : List (Addr × Obj)} {v : Value} {d : Lit} {j : Nat} (hd : aheadRows[j]? = some d) (H : LitAt l v d) :
    ∃ A toks r c tp al ws n t1 t2 t3, AheadScan A toks r c ∧ A.length ≤ 30 ∧ toks.length ≤ 3 ∧ v = .ref tp ∧ (tp, ({ cls := .type "tuple", data := .seq #[.str (tx A) t1, .ref al, .int r t2, .int c t3] } : Obj)) ∈ l ∧ (al, listOf ws.toArray n) ∈ l ∧
      LitsAt l ws (toks.map fun p => .tup [.str (tx [p.1]), .int p.2.1, .int p.2.2]) := by
  rw [ahead_lits, List.getElem?_map] at hd
  obtain ⟨⟨A, toks, r, c⟩, hp, rfl⟩ := Option.map_eq_some_iff.mp hd
  have hm := List.mem_of_getElem? hp
  have hA := ahead_scans _ hm
  have hs : ∀ p ∈ aheadT, p.1.length ≤ 30 ∧ p.2.1.length ≤ 3 := by decide
  obtain ⟨s1, s2⟩ := hs _ hm
  obtain ⟨tp, vt, rfl, ht, Ht⟩ := LitAt.inv_tup H
  obtain ⟨v1, vt, rfl, H1, Ht⟩ := LitsAt.inv_cons Ht
  obtain ⟨v2, vt, rfl, H2, Ht⟩ := LitsAt.inv_cons Ht
  obtain ⟨v3, vt, rfl, H3, Ht⟩ := LitsAt.inv_cons Ht
  obtain ⟨v4, vt, rfl, H4, Ht⟩ := LitsAt.inv_cons Ht
  obtain rfl := LitsAt.inv_nil Ht
  obtain ⟨t1, rfl⟩ := LitAt.inv_str H1
  obtain ⟨al, ws, n, rfl, ha, Ha⟩ := LitAt.inv_list H2
  obtain ⟨t2, rfl⟩ := LitAt.inv_int H3
  obtain ⟨t3, rfl⟩ := LitAt.inv_int H4
  exact ⟨A, toks, r, c, tp, al, ws, n, t1, t2, t3, hA, s1, s2, rfl, ht, ha, Ha⟩

-- the part lawj
/-! what holds between the turns of the law's loop over the letters -/
noncomputable def WrongIs (nx : List (Addr × Obj)) (wv : Value) : Option (PySem.Str × Int × Int) → Prop
  | none => wv = .none
  | some (why, r, c) => ∃ wt t1 t2 t3, wv = .ref wt ∧ (wt, tupO [.str why t1, .int r t2, .int c t3]) ∈ nx
theorem WrongIs.mono {l l' : List (Addr × Obj)} (hs : ∀ p ∈ l, p ∈ l') {wv : Value} : ∀ {o : Option (PySem.Str × Int × Int)}, WrongIs l wv o → WrongIs l' wv o
  | none, h => h
  | some (_, _, _), ⟨wt, t1, t2, t3, e, h⟩ => ⟨wt, t1, t2, t3, e, hs _ h⟩
noncomputable def letters (ns : List Int) (i : Nat) : List Ltr := (List.range i).map fun (j : Nat) => letterOf (nxt ns (2 + (j : Int)))
theorem letters_succ {ns : List Int} {i : Nat} : letters ns (i + 1) = letters ns i ++ [letterOf (nxt ns (2 + (i : Int)))] := by
  simp only [letters, List.range_succ, List.map_append, List.map_cons, List.map_nil]
theorem letters_len {ns : List Int} {i : Nat} : (letters ns i).length = i := by simp [letters]
theorem letters_all {ns : List Int} {i : Nat} {P : Ltr → Prop} (h : ∀ x, P (letterOf x)) : ∀ l ∈ letters ns i, P l := fun l hl => by
  obtain ⟨j, _, rfl⟩ := List.mem_map.mp hl
  exact h _
noncomputable def wrongOf (ls : List Ltr) (r c : Int) : Option (PySem.Str × Int × Int) := (bads ls (c + 1)).map fun p => (p.1, r, p.2.getD c)
theorem wrong_snoc {l : Ltr} {ls : List Ltr} {r c : Int} : wrongOf (ls ++ [l]) r c = match wrongOf ls r c with
    | some x => some x
    | none => match l.bad with
      | some (why, some o) => some (why, r, c + 1 + ((told ls).length : Int) + o)
      | some (why, none) => some (why, r, c)
      | none => none := by
  unfold wrongOf
  rw [bads_snoc]
  cases bads ls (c + 1) with
  | some x => rfl
  | none =>
    cases l.bad with
    | none => rfl
    | some q => obtain ⟨w, o⟩ := q; cases o <;> rfl
inductive LawJ (ns : List Int) (sc pn dl : Addr) (A : List Nat) (r c : Int) (ta tr tc : Tok) (ds : List Value) (dn : Nat) (own : List (Addr × Obj)) (i : Nat) (m : PySem.Str → Option Value) (nx : List (Addr × Obj)) : Prop
  | mk (ol : Addr) (vs : List Value) (n : Nat) (tp : Tok) (np : Nat) (st : Tok) (wv : Value) (rest : List (Addr × Obj))
    (m1 : m (PySem.Str.ofString "pen") = some (.ref pn)) (m2 : m (PySem.Str.ofString "text") = some (.str (tx A) ta)) (m3 : m (PySem.Str.ofString "row") = some (.int r tr)) (m4 : m (PySem.Str.ofString "column") = some (.int c tc))
    (m5 : m (PySem.Str.ofString "due") = some (.ref dl)) (m6 : m (PySem.Str.ofString "string") = some (.str (tx (34 :: told (letters ns i))) st)) (m7 : m (PySem.Str.ofString "octets") = some (.ref ol)) (m8 : m (PySem.Str.ofString "wrong") = some wv)
    (hx : nx = (pn, listOf #[.ref sc, .int (2 + (i : Int)) tp] np) :: (ol, listOf vs.toArray n) :: rest) (hI : IntsAre vs ((letters ns i).flatMap Ltr.ints)) (hW : WrongIs rest wv (wrongOf (letters ns i) r c))
    (hd : (dl, listOf ds.toArray dn) ∈ rest) (ho : ∀ p ∈ own, p ∈ rest) (hp : ∀ p ∈ rest, p.1 ≠ pn) (hq : ∀ p ∈ rest, p.1 ≠ ol) (hn : ol ≠ pn) : LawJ ns sc pn dl A r c ta tr tc ds dn own i m nx
theorem told_letters_le {ns : List Int} : ∀ {i : Nat}, (told (letters ns i)).length ≤ 40 * i
  | 0 => by simp [letters, told]
  | i + 1 => by
    have ih := told_letters_le (ns := ns) (i := i)
    have h := (letter_ints (nxt ns (2 + (i : Int)))).2.2.2.1
    rw [letters_succ, told_append, List.length_append, told_cons, told_nil, List.append_nil]
    omega
theorem ints_letters_le {ns : List Int} : ∀ {i : Nat}, ((letters ns i).flatMap Ltr.ints).length ≤ 4 * i
  | 0 => by simp [letters]
  | i + 1 => by
    have ih := ints_letters_le (ns := ns) (i := i)
    have h := (letter_ints (nxt ns (2 + (i : Int)))).2.2.1
    rw [letters_succ, List.flatMap_append, List.length_append, List.flatMap_cons, List.flatMap_nil, List.append_nil]
    omega
theorem octs_letters_le {ns : List Int} : ∀ {i : Nat}, (octs (letters ns i)).size ≤ 4 * i
  | 0 => by simp [letters, octs]
  | i + 1 => by
    have ih := octs_letters_le (ns := ns) (i := i)
    have h := (letter_ints (nxt ns (2 + (i : Int)))).2.2.2.2
    rw [letters_succ, octs_append, Array.size_append, octs, octs, Array.append_empty]
    omega
theorem ints_letters_in {ns : List Int} {i : Nat} : ∀ k ∈ (letters ns i).flatMap Ltr.ints, 0 ≤ k ∧ k < 256 := fun k hk => by
  obtain ⟨l, hl, hk⟩ := List.mem_flatMap.mp hk
  obtain ⟨j, _, rfl⟩ := List.mem_map.mp hl
  exact (letter_ints _).2.1 k hk
theorem bads_none_bad : ∀ {ls : List Ltr} {col : Int}, bads ls col = none → ∀ l ∈ ls, l.bad = none
  | [], _, _, _, h => nomatch h
  | k :: r, col, h, l, hl => by
    rw [bads] at h
    cases hk : k.bad with
    | some q => rw [hk] at h; obtain ⟨w, o⟩ := q; cases o <;> cases h
    | none =>
      rw [hk] at h
      rcases List.mem_cons.mp hl with rfl | hl
      · exact hk
      · exact bads_none_bad h l hl
theorem byteArr_append (a b : List Int) : byteArr (a ++ b) = byteArr a ++ byteArr b := by simp [byteArr]
theorem ints_octs : ∀ {ls : List Ltr}, (∀ l ∈ ls, byteArr l.ints = l.oct) → byteArr (ls.flatMap Ltr.ints) = octs ls
  | [], _ => by simp [octs, byteArr]
  | l :: r, h => by
    rw [List.flatMap_cons, byteArr_append, octs, h l (.head _), ints_octs fun x hx => h x (.tail _ hx)]
theorem letters_octs {ns : List Int} {i : Nat} {col : Int} (h : bads (letters ns i) col = none) : byteArr ((letters ns i).flatMap Ltr.ints) = octs (letters ns i) := by
  refine ints_octs fun l hl => ?_
  have hb := bads_none_bad h l hl
  obtain ⟨j, _, rfl⟩ := List.mem_map.mp hl
  exact (letter_ints _).1 hb
theorem mapc {m m' : PySem.Str → Option Value} {x : PySem.Str} {v : Option Value} (h : m x = v) (hm : m = m') : m = fun y => if y = x then v else m' y := by
  funext y; by_cases e : y = x
  · subst e; rw [if_pos rfl, h]
  · rw [if_neg e, hm]
theorem newsRot3 {h₀ h : Heap} {L : Addr} {a b c : Addr × Obj} {l : List (Addr × Obj)} (N : News h₀ L h (a :: b :: c :: l)) : News h₀ L h (b :: c :: a :: l) := fun p hp => by
  rcases List.mem_cons.mp hp with rfl | hp
  · exact N _ (.tail _ (.head _))
  rcases List.mem_cons.mp hp with rfl | hp
  · exact N _ (.tail _ (.tail _ (.head _)))
  rcases List.mem_cons.mp hp with rfl | hp
  · exact N _ (.head _)
  · exact N _ (.tail _ (.tail _ (.tail _ hp)))
theorem why_none {l : Ltr} (h : l.bad = none) : l.why = PySem.Str.ofString "" ∧ l.off = 0 := by simp [Ltr.why, Ltr.off, h]
theorem why_at {l : Ltr} {w : PySem.Str} (h : l.bad = some (w, none)) : l.why = w ∧ l.off = -1 := by simp [Ltr.why, Ltr.off, h]
theorem why_by {l : Ltr} {w : PySem.Str} {o : Int} (h : l.bad = some (w, some o)) : l.why = w ∧ l.off = o := by simp [Ltr.why, Ltr.off, h]
theorem bad_facts {l : Ltr} {w : PySem.Str} {o : Option Int} (h : l.bad = some (w, o)) : (w != PySem.Str.ofString "") = true ∧ ∀ k, o = some k → 0 ≤ k ∧ ¬ k < 0 := by
  cases l with
  | raw c =>
    simp only [Ltr.bad] at h
    by_cases h1 : c = 10 ∨ c = 13
    · rw [if_pos h1] at h; cases h; exact ⟨by decide +kernel, fun k e => nomatch e⟩
    rw [if_neg h1] at h
    by_cases h2 : c < 32 ∨ c = 127
    · rw [if_pos h2] at h; cases h; exact ⟨by decide +kernel, fun k e => by cases e; decide⟩
    rw [if_neg h2] at h
    by_cases h3 : 55296 ≤ c ∧ c < 57344
    · rw [if_pos h3] at h; cases h; exact ⟨by decide +kernel, fun k e => by cases e; decide⟩
    rw [if_neg h3] at h; cases h
  | esc c => cases h
  | num ds v =>
    simp only [Ltr.bad] at h
    by_cases h1 : v ≥ 1114112 ∨ 55296 ≤ v ∧ v < 57344
    · rw [if_pos h1] at h; cases h; exact ⟨by decide +kernel, fun k e => by cases e; omega⟩
    · rw [if_neg h1] at h; cases h
theorem IntsAre.app : ∀ {vs ws : List Value} {ns ms : List Int}, IntsAre vs ns → IntsAre ws ms → IntsAre (vs ++ ws) (ns ++ ms)
  | _, _, _, _, .nil, h => h
  | _, _, _, _, .cons _ _ r, h => .cons _ _ (IntsAre.app r h)
theorem isl {h₀ h : Heap} {L a : Addr} {news : List (Addr × Obj)} {vs : List Value} {n : Nat} (N : News h₀ L h news) (hm : (a, listOf vs.toArray n) ∈ news) : h.IsList a vs.toArray := ⟨_, (N _ hm).1, rfl, _, rfl⟩
theorem wrong_cut {h₀ h : Heap} {L dl : Addr} {rest : List (Addr × Obj)} {vs : Array Value} {n : Nat} {wv : Value} (N : News h₀ L h rest) (hd : (dl, listOf vs n) ∈ rest) : ∀ {o : Option (PySem.Str × Int × Int)}, WrongIs rest wv o →
    ∃ wl, WrongIs wl wv o ∧ ∀ p ∈ wl, p ∈ rest ∧ p.1 ≠ dl
  | none, h => ⟨[], h, fun _ hp => nomatch hp⟩
  | some (why, r, c), ⟨wt, t1, t2, t3, e, hm⟩ => by
    refine ⟨[(wt, tupO [.str why t1, .int r t2, .int c t3])], ⟨wt, t1, t2, t3, e, .head _⟩, fun p hp => ?_⟩
    rw [List.mem_singleton.mp hp]
    refine ⟨hm, fun q => ?_⟩
    have e1 := (N _ hm).1
    have e2 := (N _ hd).1
    have q' : wt = dl := q
    rw [q'] at e1
    rw [e1] at e2
    have e3 := congrArg Obj.cls (Option.some.inj e2)
    simp at e3
/-- what is known of the letters when the loop is over -/
structure LettersOk (ls : List Ltr) (k : Nat) : Prop where
  ok : ∀ l ∈ ls, l.ok
  size : (octs ls).size < 100000
  bytes : ∀ col, bads ls col = none → byteArr (ls.flatMap Ltr.ints) = octs ls
  told : (told ls).length ≤ 40 * k
  inr : ∀ i ∈ ls.flatMap Ltr.ints, 0 ≤ i ∧ i < 256
  len : (ls.flatMap Ltr.ints).length ≤ 4 * k
theorem letters_ok {ns : List Int} {k : Nat} (hk : k < 6) : LettersOk (letters ns k) k :=
  ⟨letters_all letter_ok, by have := octs_letters_le (ns := ns) (i := k); omega, fun _ => letters_octs, told_letters_le, ints_letters_in, ints_letters_le⟩

-- the part fort
/-! a loop whose target is a tuple of four names, over a list of none or one -/
section
variable {prog : Program} {w : World} {A : Around} {E : Value → Shared → Prop} {s : Shared} {env : Env} {h₀ : Heap} {L : Addr} {m : PySem.Str → Option Value} {news : List (Addr × Obj)} {R : Result → Shared → Prop} {Q : Flow → Shared → Prop}
theorem for_turn {target : PySem.Expr} {it : Value} {body : List Stmt}
    (h : wpAny (model prog w) A (pyNext it) (fun r s₁ => match r with
      | none => R (.ok .next) s₁
      | some v => wpAny (model prog w) A (letOwnedTupleGo target it v) (fun _ s₀ => wpAny (model prog w) A (assign target env v) (fun _ s₂ => wpAny (model prog w) A (execs body env) (fun f s₃ => match f with
          | .next | .cont => codeAny (model prog w) A (.forLoop target it body [] env) R s₃
          | .brk => R (.ok .next) s₃
          | .ret v => R (.ok (.ret v)) s₃) (notedBy (model prog w) A env fun e s' => R (.error e) s') s₂) (notedBy (model prog w) A env fun e s' => R (.error e) s') s₀) (notedBy (model prog w) A env fun e s' => R (.error e) s') s₁) (notedBy (model prog w) A env fun e s' => R (.error e) s') s) :
    codeAny (model prog w) A (.forLoop target it body [] env) R s := by
  refine codeAny_of_tree ?_
  show wpAny _ _ ((forTurn target it body [] env).onRaise (fun x => do noteFrame x env; theTreesLotGoes x)) _ _ s
  refine wpAny_noted ?_
  simp only [forTurn]
  refine wpAny_bind (wpAny_standAt (wpAny_bind (wpAny_onRaise (wpAny_mono h (fun r s₁ h₁ => ?_) fun _ _ h' => wpAny_standAt h'))))
  cases r with
  | none => exact wpAny_pure ⟨rfl, codeAny_block (wpAny_execs_nil h₁)⟩
  | some v =>
    refine wpAny_bind (wpAny_mono h₁ (fun _ s₀ h₀' => wpAny_bind (wpAny_mono h₀' (fun _ s₂ h₂ => wpAny_bind (wpAny_mono h₂ (fun f s₃ h₃ => ?_) fun _ _ h' => h')) fun _ _ h' => h')) fun _ _ h' => h')
    cases f with
    | next => exact wpAny_pure ⟨rfl, h₃⟩
    | cont => exact wpAny_pure ⟨rfl, h₃⟩
    | brk => exact wpAny_pure h₃
    | ret v => exact wpAny_pure h₃
theorem for_end {target : PySem.Expr} {I ml : Addr} {i : Nat} {body : List Stmt} {items : Array Value} (hh : A.handled = none) (hit : s.heap.IsListIter I ml i) (hl : s.heap.IsList ml items) (hx : items[i]? = none)
    (hQ : ∀ h', Heap.ExtBut I s.heap h' → R (.ok .next) { s with heap := h' }) : codeAny (model prog w) A (.forLoop target (.ref I) body [] env) R s :=
  for_turn (wpAny_pyNext_list_end hh hit hl hx hQ)
theorem For_none {target iter : PySem.Expr} {ml : Addr} {nm : Nat} {body : List Stmt} {pos : Pos} (hLe : env.locals = L) (hh : A.handled = none) (F : Fr h₀ L s.heap m) (N : News h₀ L s.heap news) (hml : (ml, listOf #[] nm) ∈ news)
    (hev : wpAny (model prog w) A (eval iter env) (fun v s₁ => v = .ref ml ∧ s₁ = s) E s)
    (k : ∀ h' tk, Fr h₀ L h' m → News h₀ L h' news → Q .next { s with heap := h', toks := tk })
    (hs : ∀ x, foldedSetIterable iter env x = pure x := by intro _; rfl) :
    wpAny (model prog w) A (exec (.For target iter body [] pos) env) Q E s := by
  subst hLe
  refine wpAny_For (wpAny_mono hev (fun v s₁ hv => ?_) fun _ _ e => e) hs
  obtain ⟨rfl, rfl⟩ := hv
  have hl : s₁.heap.IsList ml #[] := ⟨_, (N _ hml).1, rfl, _, rfl⟩
  have hI₀ : h₀.get? s₁.heap.objs.size = none := next_is_new F
  have hLI : env.locals ≠ s₁.heap.objs.size := Nat.ne_of_lt F.ns.lt
  refine wpAny_pyIter_list hl ?_
  have hit : (s₁.heap.push { cls := .type "list_iterator", data := .fields #[.ref ml, .int 0 0] }).IsListIter s₁.heap.objs.size ml 0 := ⟨_, Heap.get?_push_size _ rfl, rfl, rfl⟩
  refine for_end hh hit (hl.push _) (by simp) fun h' he => ?_
  have up : ∀ b o, s₁.heap.get? b = some o → h'.get? b = some o := fun b o e => he b o (Nat.ne_of_lt (Heap.lt_size e)) (Heap.get?_push_of_some _ e)
  exact k h' _ (F.keeps up) (N.grown up)
theorem For_tup4 {iter : PySem.Expr} {a b c d : PySem.Str} {pa pb pc pd tp pos : Pos} {kk : Nat} {ml T : Addr} {va vb vc vd : Value} {nm : Nat} {body : List Stmt} (P : (PySem.Str → Option Value) → List (Addr × Obj) → Prop)
    (hLe : env.locals = L) (hh : A.handled = none) (F : Fr h₀ L s.heap m) (N : News h₀ L s.heap news) (hml : (ml, listOf [Value.ref T].toArray nm) ∈ news) (hT : (T, tupO [va, vb, vc, vd]) ∈ news)
    (ha : env.kindOf a = some .local) (hb : env.kindOf b = some .local) (hc : env.kindOf c = some .local) (hd : env.kindOf d = some .local)
    (hp : (env.scope.kind == .class || (env.scope.kind == .module && env.locals != env.globals)) = false)
    (hev : wpAny (model prog w) A (eval iter env) (fun v s₁ => v = .ref ml ∧ s₁ = s) E s)
    (turn : ∀ h tk I oI, Fr h₀ L h (fun y => if y = d then some vd else if y = c then some vc else if y = b then some vb else if y = a then some va else m y) → News h₀ L h ((I, oI) :: news) → (∀ p ∈ news, p.1 ≠ I) →
      wpAny (model prog w) A (execs body env) (TurnEnd h₀ L I oI (fun m' nx => (ml, listOf [Value.ref T].toArray nm) ∈ nx ∧ P m' nx) s) E { s with heap := h, toks := tk })
    (k : ∀ h' tk m' nx, Fr h₀ L h' m' → News h₀ L h' nx → P m' nx → Q .next { s with heap := h', toks := tk })
    (hE : PassesOwn (model prog w) A env E) (hs : ∀ x, foldedSetIterable iter env x = pure x := by intro _; rfl) :
    wpAny (model prog w) A (exec (.For (.Tuple [.Name a pa, .Name b pb, .Name c pc, .Name d pd] kk tp) iter body [] pos) env) Q E s := by
  subst hLe
  refine wpAny_For (wpAny_mono hev (fun v s₁ hv => ?_) fun _ _ e => e) hs
  obtain ⟨rfl, rfl⟩ := hv
  have hl : s₁.heap.IsList ml [Value.ref T].toArray := ⟨_, (N _ hml).1, rfl, _, rfl⟩
  have hI₀ : h₀.get? s₁.heap.objs.size = none := next_is_new F
  have hLI : env.locals ≠ s₁.heap.objs.size := Nat.ne_of_lt F.ns.lt
  have nI : ∀ p ∈ news, p.1 ≠ s₁.heap.objs.size := fun p hp => Nat.ne_of_lt (Heap.lt_size (N p hp).1)
  refine wpAny_pyIter_list hl ?_
  have hit : (s₁.heap.push { cls := .type "list_iterator", data := .fields #[.ref ml, .int 0 0] }).IsListIter s₁.heap.objs.size ml 0 := ⟨_, Heap.get?_push_size _ rfl, rfl, rfl⟩
  refine for_turn (wpAny_pyNext_list_item hit (hl.push _) (x := .ref T) (by simp) fun h₁ hit₁ hs₁ => ?_)
  refine wpAny_letOwnedTupleGo_listiter hit₁ ?_
  have up₁ : ∀ b o, s₁.heap.get? b = some o → h₁.get? b = some o := fun b o e => hs₁.extBut b o (Nat.ne_of_lt (Heap.lt_size e)) (Heap.get?_push_of_some _ e)
  obtain ⟨oI, eI, hcI, hdI⟩ := id hit₁
  have F₁ := F.keeps up₁
  have N₁ : News h₀ env.locals h₁ ((s₁.heap.objs.size, oI) :: news) := fun p hp => by
    rcases List.mem_cons.mp hp with rfl | hp
    · exact ⟨eI, Ne.symm hLI, hI₀⟩
    · exact ⟨up₁ _ _ (N p hp).1, (N p hp).2⟩
  refine wpAny_assign_Tuple hh ⟨_, (N₁ _ (.tail _ hT)).1, rfl, _, rfl⟩ rfl rfl fun h₂ he₂ => ?_
  have up₂ : ∀ b o, h₁.get? b = some o → h₂.get? b = some o := fun b o e => he₂ b o (Nat.ne_of_lt (Heap.lt_size e)) e
  have F₂ := F₁.keeps up₂
  have N₂ := N₁.grown up₂
  show wpAny _ _ (assignInOrder [assign (.Name a pa) env, assign (.Name b pb) env, assign (.Name c pc) env, assign (.Name d pd) env] [va, vb, vc, vd]) _ _ _
  refine assignInOrder_cons (wpAny_assign_Name (wpAny_storeName_local ha F₂.ns (fun h₃ hn₃ hs₃ => ?_) hp))
  have F₃ := F₂.set hn₃ hs₃
  have N₃ := N₂.set hs₃
  refine assignInOrder_cons (wpAny_assign_Name (wpAny_storeName_local hb F₃.ns (fun h₄ hn₄ hs₄ => ?_) hp))
  have F₄ := F₃.set hn₄ hs₄
  have N₄ := N₃.set hs₄
  refine assignInOrder_cons (wpAny_assign_Name (wpAny_storeName_local hc F₄.ns (fun h₅ hn₅ hs₅ => ?_) hp))
  have F₅ := F₄.set hn₅ hs₅
  have N₅ := N₄.set hs₅
  refine assignInOrder_cons (wpAny_assign_Name (wpAny_storeName_local hd F₅.ns (fun h₆ hn₆ hs₆ => ?_) hp))
  have F₆ := F₅.set hn₆ hs₆
  have N₆ := N₅.set hs₆
  refine assignInOrder_nil (wpAny_mono (wpAny_passesOwn hE (turn h₆ _ s₁.heap.objs.size oI F₆ N₆ nI)) (fun f s₃ h₃ => ?_) fun _ _ e => e)
  obtain ⟨rfl, h', tk', m', nx, rfl, F', N', hne, hm', hP⟩ := h₃
  have hit' : h'.IsListIter s₁.heap.objs.size ml 1 := ⟨oI, (N' _ (.head _)).1, hcI, hdI⟩
  have hl' : h'.IsList ml [Value.ref T].toArray := ⟨_, (N' _ (.tail _ hm')).1, rfl, _, rfl⟩
  refine for_end hh hit' hl' (by simp) fun h'' he => ?_
  have F'' : Fr h₀ env.locals h'' m' := LCg.fr_but F' (fun b o hb e => he b o (by simpa using hb) e) hLI hI₀
  exact k h'' tk' m' nx F'' (fun p hp => ⟨he _ _ (hne p hp) (N' p (.tail _ hp)).1, (N' p (.tail _ hp)).2⟩) hP
end

-- the part lawk
/-! what stands behind the string; what «due» and «found» hold -/
theorem LitAt.inv2 {l : List (Addr × Obj)} {v : Value} {a b : Lit} (H : LitAt l v (.tup [a, b])) : ∃ tp v1 v2, v = .ref tp ∧ (tp, tupO [v1, v2]) ∈ l ∧ LitAt l v1 a ∧ LitAt l v2 b := by
  obtain ⟨tp, vt, rfl, ht, Ht⟩ := LitAt.inv_tup H
  obtain ⟨v1, vt, rfl, h1, Ht⟩ := LitsAt.inv_cons Ht
  obtain ⟨v2, vt, rfl, h2, Ht⟩ := LitsAt.inv_cons Ht
  obtain rfl := LitsAt.inv_nil Ht
  exact ⟨tp, _, _, rfl, ht, h1, h2⟩
theorem LitAt.inv4 {l : List (Addr × Obj)} {v : Value} {s1 s2 : PySem.Str} {i3 i4 : Int} (H : LitAt l v (.tup [.str s1, .str s2, .int i3, .int i4])) : ∃ T t1 t2 t3 t4, v = .ref T ∧ (T, tupO [.str s1 t1, .str s2 t2, .int i3 t3, .int i4 t4]) ∈ l := by
  obtain ⟨tp, vt, rfl, ht, Ht⟩ := LitAt.inv_tup H
  obtain ⟨v1, vt, rfl, h1, Ht⟩ := LitsAt.inv_cons Ht
  obtain ⟨v2, vt, rfl, h2, Ht⟩ := LitsAt.inv_cons Ht
  obtain ⟨v3, vt, rfl, h3, Ht⟩ := LitsAt.inv_cons Ht
  obtain ⟨v4, vt, rfl, h4, Ht⟩ := LitsAt.inv_cons Ht
  obtain rfl := LitsAt.inv_nil Ht
  obtain ⟨t1, rfl⟩ := h1.inv_str
  obtain ⟨t2, rfl⟩ := h2.inv_str
  obtain ⟨t3, rfl⟩ := h3.inv_int
  obtain ⟨t4, rfl⟩ := h4.inv_int
  exact ⟨tp, _, _, _, _, rfl, ht⟩
/-- none or one that stands behind -/
noncomputable def MoreCase (l : List (Addr × Obj)) (btoks : List (PySem.Str × PySem.Str × Int × Int)) (ws : List Value) : Prop :=
  (btoks = [] ∧ ws = []) ∨ ∃ T s1 s2 i3 i4 t1 t2 t3 t4, btoks = [(s1, s2, i3, i4)] ∧ ws = [.ref T] ∧ (T, tupO [.str s1 t1, .str s2 t2, .int i3 t3, .int i4 t4]) ∈ l
theorem more_case {l : List (Addr × Obj)} {btoks : List (PySem.Str × PySem.Str × Int × Int)} {ws : List Value} (hb : btoks.length ≤ 1) (Ha : LitsAt l ws (btoks.map fun p => .tup [.str p.1, .str p.2.1, .int p.2.2.1, .int p.2.2.2])) : MoreCase l btoks ws := by
  cases btoks with
  | nil => exact .inl ⟨rfl, LitsAt.inv_nil Ha⟩
  | cons p r =>
    obtain rfl : r = [] := List.length_eq_zero_iff.mp (by simp only [List.length_cons] at hb; omega)
    obtain ⟨s1, s2, i3, i4⟩ := p
    obtain ⟨v1, vt, rfl, H1, Ht⟩ := LitsAt.inv_cons Ha
    obtain rfl := LitsAt.inv_nil Ht
    obtain ⟨T, t1, t2, t3, t4, rfl, hT⟩ := H1.inv4
    exact .inr ⟨T, s1, s2, i3, i4, t1, t2, t3, t4, rfl, rfl, hT⟩
theorem behind_of {l : List (Addr × Obj)} {v : Value} {p : List Nat × List (PySem.Str × PySem.Str × Int × Int)} (hb : p.2.length ≤ 1) (H : LitAt l v (litB p.1 p.2)) :
    ∃ tp ml ws n t1, v = .ref tp ∧ (tp, tupO [.str (tx p.1) t1, .ref ml]) ∈ l ∧ (ml, listOf (List.toArray ws) n) ∈ l ∧ MoreCase l p.2 ws := by
  obtain ⟨tp, v1, v2, rfl, ht, H1, H2⟩ := LitAt.inv2 H
  obtain ⟨t1, rfl⟩ := LitAt.inv_str H1
  obtain ⟨ml, ws, n, rfl, ha, Ha⟩ := LitAt.inv_list H2
  exact ⟨tp, ml, ws, n, t1, rfl, ht, ha, more_case hb Ha⟩
theorem behind_sizes : ∀ p ∈ behindT, p.1.length ≤ 30 ∧ p.2.length ≤ 1 := by decide
theorem behind_entry {l : List (Addr × Obj)} {v : Value} {d : Lit} {j : Nat} (hd : behindRows[j]? = some d) (H : LitAt l v d) :
    ∃ B btoks tp ml ws n t1, BehindScan B btoks ∧ B.length ≤ 30 ∧ btoks.length ≤ 1 ∧ v = .ref tp ∧ (tp, tupO [.str (tx B) t1, .ref ml]) ∈ l ∧ (ml, listOf ws.toArray n) ∈ l ∧ MoreCase l btoks ws := by
  rw [behind_lits, List.getElem?_map] at hd
  have ⟨p, hp, e⟩ := Option.map_eq_some_iff.mp hd
  have hm := List.mem_of_getElem? hp
  have s := behind_sizes p hm
  have ⟨tp, ml, ws, n, t1, q⟩ := behind_of s.2 (e ▸ H)
  exact ⟨p.1, p.2, tp, ml, ws, n, t1, behind_scans p hm, s.1, s.2, q⟩
/-- a tuple holds what a token holds -/
noncomputable def DueT (t : Tk) (c : List Value) : Prop := ∃ t0 t1 w t3 t4, c = [.str t.sort t0, .str t.text t1, w, .int t.row t3, .int t.col t4] ∧ t.val.Is w
theorem due_ahead : ∀ {toks : List (Nat × Int × Int)} {cs : List (List Value)}, Paired DueIs toks cs → Paired DueT (toks.map tokA) cs
  | _, _, .nil => .nil
  | _, _, .cons ⟨t0, t1, t2, t3, e⟩ r => .cons ⟨t0, t1, _, t2, t3, e, t1, rfl⟩ (due_ahead r)
theorem Paired.app {α β : Type} {F : α → β → Prop} : ∀ {a c : List α} {b d : List β}, Paired F a b → Paired F c d → Paired F (a ++ c) (b ++ d)
  | _, _, _, _, .nil, h => h
  | _, _, _, _, .cons x r, h => .cons x (Paired.app r h)
theorem val_same {u : TV} {w x : Value} (hw : u.Is w) (hx : u.Is x) : SameV w x := by
  cases u with
  | str s =>
    obtain ⟨_, rfl⟩ := hw
    obtain ⟨_, rfl⟩ := hx
    exact .str
  | bytes b =>
    obtain ⟨_, rfl⟩ := hw
    obtain ⟨_, rfl⟩ := hx
    exact .bytes
theorem dueT_same {t : Tk} {c d : List Value} (h1 : DueT t c) (h2 : DueT t d) : SameL c d := by
  obtain ⟨t0, t1, w, t3, t4, rfl, hw⟩ := h1
  obtain ⟨u0, u1, x, u3, u4, rfl, hx⟩ := h2
  exact .cons .str (.cons .str (.cons (val_same hw hx) (.cons .int (.cons .int .nil))))
theorem due_same {ts : List Tk} {cs ds : List (List Value)} (h1 : Paired DueT ts cs) (h2 : Paired DueT ts ds) : Paired SameL cs ds := by
  induction h1 generalizing ds with
  | nil => cases h2; exact .nil
  | cons x _ ih => cases h2 with | cons y q => exact .cons (dueT_same x y) (ih q)
theorem eq_due {prog : Program} {w : World} {A : Around} {E : Value → Shared → Prop} {s : Shared} {h₀ : Heap} {L a b : Addr} {news l1 l2 : List (Addr × Obj)} {Q : Value → Shared → Prop} {vs ws : List Value} {cs ds : List (List Value)} {n1 n2 : Nat} {ts : List Tk}
    (N : News h₀ L s.heap news) (ha : (a, listOf vs.toArray n1) ∈ news) (hb : (b, listOf ws.toArray n2) ∈ news) (H1 : TupsAt l1 vs cs) (H2 : TupsAt l2 ws ds) (s1 : ∀ p ∈ l1, p ∈ news) (s2 : ∀ p ∈ l2, p ∈ news)
    (D1 : Paired DueT ts cs) (D2 : Paired DueT ts ds) (hu : A.units + 1 < cLine) (k : Q (.bool true) s) : wpAny (model prog w) A (compareOp .Eq (.ref a) (.ref b)) Q E s := by
  have at' : ∀ {l : List (Addr × Obj)} {vs : List Value} {cs : List (List Value)}, TupsAt l vs cs → ∀ j (h1 : j < vs.length) (h2 : j < cs.length), ∃ c, vs[j] = .ref c ∧ (c, tupO cs[j]) ∈ l := by
    intro l vs cs H
    induction H with
    | nil => intro j h1 _; exact absurd h1 (Nat.not_lt_zero _)
    | cons hm _ ih =>
      intro j h1 h2
      cases j with
      | zero => exact ⟨_, rfl, hm⟩
      | succ j => exact ih j (Nat.lt_of_succ_lt_succ h1) (Nat.lt_of_succ_lt_succ h2)
  have pat : ∀ {cs ds : List (List Value)}, Paired SameL cs ds → ∀ j (h1 : j < cs.length) (h2 : j < ds.length), SameL cs[j] ds[j] := by
    intro cs ds H
    induction H with
    | nil => intro j h1 _; exact absurd h1 (Nat.not_lt_zero _)
    | cons x _ ih =>
      intro j h1 h2
      cases j with
      | zero => exact x
      | succ j => exact ih j (Nat.lt_of_succ_lt_succ h1) (Nat.lt_of_succ_lt_succ h2)
  have S := due_same D1 D2
  have e1 := H1.len
  have e2 := H2.len
  have e3 := S.length
  refine eq_lists_K N ha hb (by omega) (fun j h1 h2 => ?_) hu k
  obtain ⟨c, ec, hc⟩ := at' H1 j h1 (by omega)
  obtain ⟨d, ed, hd⟩ := at' H2 j h2 (by omega)
  exact ⟨c, d, _, _, ec, ed, s1 _ hc, s2 _ hd, pat S j (by omega) (by omega)⟩
/-- one more tuple at the end of «due» -/
theorem due_step {h₀ h : Heap} {L dl dt : Addr} {news keep : List (Addr × Obj)} {ds : List Value} {dcs : List (List Value)} {n : Nat} {c1 : List Value} {ts : List Tk} {t : Tk}
    (N : News h₀ L h news) (m1 : (dt, tupO c1) ∈ news) (m2 : (dl, listOf (ds ++ [Value.ref dt]).toArray n) ∈ news) (mk : ∀ p ∈ keep, p ∈ news) (HT : TupsAt keep ds dcs) (HD : Paired DueT ts dcs) (h1 : DueT t c1)
    (j1 : ∀ p ∈ keep, p.1 ≠ dl) (j2 : dt ≠ dl) :
    ∃ es ecs n' keep2, News h₀ L h ((dl, listOf (List.toArray es) n') :: keep2) ∧ TupsAt keep2 es ecs ∧ Paired DueT (ts ++ [t]) ecs ∧ (∀ p ∈ keep, p ∈ keep2) ∧ (∀ p ∈ keep2, p.1 ≠ dl) ∧ es.length = ds.length + 1 ∧ ∀ p ∈ keep2, p.1 = dt ∨ p ∈ keep := by
  refine ⟨ds ++ [.ref dt], dcs ++ [c1], n, (dt, tupO c1) :: keep, fun p hp => ?_, TupsAt.snoc (.head _) (HT.mono fun p hp => .tail _ hp), Paired.app HD (.cons h1 .nil), fun p hp => .tail _ hp, fun p hp => ?_, by simp, fun p hp => ?_⟩
  · rcases List.mem_cons.mp hp with rfl | hp
    · exact N _ m2
    rcases List.mem_cons.mp hp with rfl | hp
    · exact N _ m1
    · exact N _ (mk p hp)
  · rcases List.mem_cons.mp hp with rfl | hp
    · exact j2
    · exact j1 p hp
  · rcases List.mem_cons.mp hp with rfl | hp
    · exact .inl rfl
    · exact .inr hp
theorem tup_ne_list {h₀ h : Heap} {L a b : Addr} {news : List (Addr × Obj)} {c : List Value} {vs : Array Value} {n : Nat} (N : News h₀ L h news) (ha : (a, tupO c) ∈ news) (hb : (b, listOf vs n) ∈ news) : a ≠ b := fun q => by
  have e1 := (N _ ha).1
  have e2 := (N _ hb).1
  have q' : a = b := q
  rw [q'] at e1
  rw [e1] at e2
  have e3 := congrArg Obj.cls (Option.some.inj e2)
  simp at e3
theorem news_same {h₀ h : Heap} {L a : Addr} {news : List (Addr × Obj)} {o o' : Obj} (N : News h₀ L h news) (ha : (a, o) ∈ news) (hb : (a, o') ∈ news) : o = o' := by
  have e1 := (N _ ha).1
  have e2 := (N _ hb).1
  exact Option.some.inj (e1.symm.trans e2)
theorem more_ne {h₀ h : Heap} {L ml dl : Addr} {news keep : List (Addr × Obj)} {ws es : List Value} {ecs : List (List Value)} {n n' : Nat} {ts : List Tk} {btoks : List (PySem.Str × PySem.Str × Int × Int)} (N : News h₀ L h news)
    (hml : (ml, listOf ws.toArray n) ∈ news) (hdl : (dl, listOf es.toArray n') ∈ news) (hk : ∀ p ∈ keep, p ∈ news) (HT : TupsAt keep es ecs) (HD : Paired DueT ts ecs) (hel : 1 ≤ es.length)
    (hc : MoreCase news btoks ws) : ml ≠ dl := fun q => by
  have q' : ml = dl := q
  rw [q'] at hml
  have e := congrArg Obj.data (news_same N hml hdl)
  simp only [Data.seq.injEq] at e
  have e1 : ws = es := by have := congrArg Array.toList e.1; simpa using this
  subst e1
  rcases hc with ⟨_, rfl⟩ | ⟨T, s1, s2, i3, i4, t1, t2, t3, t4, _, rfl, hT⟩
  · simp at hel
  · cases HT with
    | cons hm _ =>
      cases HD with
      | cons hd _ =>
        obtain ⟨a0, a1, a2, a3, a4, rfl, _⟩ := hd
        have e2 := congrArg Obj.data (news_same N (hk _ hm) hT)
        simp only [Data.seq.injEq] at e2
        have e3 := congrArg Array.toList e2.1
        simp at e3
theorem but_one (l : List (Addr × Obj)) (a : Addr) : ∃ k : List (Addr × Obj), (∀ p ∈ l, p.1 ≠ a → p ∈ k) ∧ ∀ p ∈ k, p ∈ l ∧ p.1 ≠ a := by
  refine ⟨l.filter fun p => decide (p.1 ≠ a), fun p hp h => List.mem_filter.mpr ⟨hp, decide_eq_true h⟩, fun p hp => ?_⟩
  obtain ⟨h1, h2⟩ := List.mem_filter.mp hp
  exact ⟨h1, of_decide_eq_true h2⟩
/-- what the loop over what stands behind leaves -/
inductive MoreEnd (h₀ : Heap) (L : Addr) (s : Shared) (dl : Addr) (T B : List Nat) (wv : Value) (wo : Option (PySem.Str × Int × Int)) (ts : List Tk) (f : Flow) (s' : Shared) : Prop
  | mk (hf : f = .next) (h' : Heap) (tk : Nat) (m' : PySem.Str → Option Value) (es : List Value) (ecs : List (List Value)) (n : Nat) (keep : List (Addr × Obj)) (tT tB : Tok) (hs : s' = { s with heap := h', toks := tk }) (F : Fr h₀ L h' m') (N : News h₀ L h' ((dl, listOf (List.toArray es) n) :: keep))
    (HT : TupsAt keep es ecs) (HD : Paired DueT ts ecs) (hW : WrongIs keep wv wo) (hk : ∀ p ∈ keep, p.1 ≠ dl) (q1 : m' (PySem.Str.ofString "text") = some (.str (tx T) tT)) (q2 : m' (PySem.Str.ofString "behind") = some (.str (tx B) tB))
    (q3 : m' (PySem.Str.ofString "due") = some (.ref dl)) (q4 : m' (PySem.Str.ofString "wrong") = some wv) : MoreEnd h₀ L s dl T B wv wo ts f s'
/-- what one turn over what stands behind leaves -/
inductive MoreP (dl : Addr) (T B : List Nat) (wv : Value) (wo : Option (PySem.Str × Int × Int)) (ts : List Tk) (m' : PySem.Str → Option Value) (nx : List (Addr × Obj)) : Prop
  | mk (es : List Value) (ecs : List (List Value)) (n : Nat) (keep : List (Addr × Obj)) (tT tB : Tok) (hs : ∀ p ∈ (dl, listOf (List.toArray es) n) :: keep, p ∈ nx) (HT : TupsAt keep es ecs) (HD : Paired DueT ts ecs) (hW : WrongIs keep wv wo) (hk : ∀ p ∈ keep, p.1 ≠ dl)
    (q1 : m' (PySem.Str.ofString "text") = some (.str (tx T) tT)) (q2 : m' (PySem.Str.ofString "behind") = some (.str (tx B) tB)) (q3 : m' (PySem.Str.ofString "due") = some (.ref dl)) (q4 : m' (PySem.Str.ofString "wrong") = some wv) : MoreP dl T B wv wo ts m' nx
theorem MoreP.fin {h₀ h' : Heap} {L dl : Addr} {s : Shared} {tk : Nat} {T B : List Nat} {wv : Value} {wo : Option (PySem.Str × Int × Int)} {ts : List Tk} {m' : PySem.Str → Option Value} {nx : List (Addr × Obj)} (F : Fr h₀ L h' m') (N : News h₀ L h' nx) (P : MoreP dl T B wv wo ts m' nx) :
    MoreEnd h₀ L s dl T B wv wo ts .next { s with heap := h', toks := tk } := by
  obtain ⟨es, ecs, n, keep, tT, tB, hs, HT, HD, hW, hk, q1, q2, q3, q4⟩ := P
  exact ⟨rfl, h', tk, m', es, ecs, n, keep, tT, tB, rfl, F, fun p hp => N p (hs p hp), HT, HD, hW, hk, q1, q2, q3, q4⟩
theorem due_B1 {r k i3 i4 : Int} {s1 s2 : PySem.Str} {a b b' d e : Tok} (h : i3 > 0) : DueT (tokB r k (s1, s2, i3, i4)) [.str s1 a, .str s2 b, .str s2 b', .int (r + i3) d, .int i4 e] :=
  ⟨a, b, _, d, e, by simp only [tokB, if_pos h], b', rfl⟩
theorem due_B0 {r k k' i3 i4 : Int} {s1 s2 : PySem.Str} {a b b' d e : Tok} (h : ¬ i3 > 0) (hk : k' = k) : DueT (tokB r k (s1, s2, i3, i4)) [.str s1 a, .str s2 b, .str s2 b', .int (r + i3) d, .int k' e] :=
  ⟨a, b, _, d, e, by simp only [tokB, if_neg h, hk], b', rfl⟩
/-- what a tuple of «found» holds of its token -/
noncomputable def FoundOf (P : Params) (rest : List (Addr × Obj)) (v : Value) (cs : List Value) : Prop := ∃ t, TokV P rest v t ∧ DueT t cs
theorem TokL.len {P : Params} {rest : List (Addr × Obj)} : ∀ {vs : List Value} {ts : List Tk}, TokL P rest vs ts → vs.length = ts.length
  | [], [], _ => rfl
  | _ :: _, _ :: _, ⟨_, b⟩ => by rw [List.length_cons, List.length_cons, TokL.len b]
theorem TokL.mem {P : Params} {rest : List (Addr × Obj)} {v : Value} : ∀ {vs : List Value} {ts : List Tk}, TokL P rest vs ts → v ∈ vs → ∃ t, TokV P rest v t
  | [], [], _, h => nomatch h
  | _ :: _, t :: _, ⟨a, b⟩, h => by
    rcases List.mem_cons.mp h with rfl | h
    · exact ⟨t, a⟩
    · exact TokL.mem b h
theorem TokV.same {P : Params} {h₀ h : Heap} {L : Addr} {rest : List (Addr × Obj)} {v : Value} {t t' : Tk} {c : List Value} (N : News h₀ L h rest) (h1 : TokV P rest v t) (h2 : TokV P rest v t') (hd : DueT t' c) : DueT t c := by
  obtain ⟨ta, td, k1, u1, k2, u2, k3, k4, u4, k5, u5, w, rfl, a1, a2, a3⟩ := h1
  obtain ⟨ta', td', k1', u1', k2', u2', k3', k4', u4', k5', u5', w', e, b1, b2, b3⟩ := h2
  cases e
  have e1 := news_same N a1 b1
  simp only [instObj, Obj.mk.injEq, Option.some.injEq, true_and, and_true] at e1
  subst e1
  have e2 := congrArg Obj.data (news_same N a2 b2)
  simp only [dictOf, tokD, Data.dict.injEq] at e2
  have e3 := congrArg Array.toList e2.1
  simp only [List.cons.injEq, DictEntry.mk.injEq, Value.str.injEq, Value.int.injEq, true_and, and_true] at e3
  obtain ⟨⟨_, e4, _⟩, ⟨_, e5, _⟩, ⟨_, e6⟩, ⟨_, e7, _⟩, ⟨_, e8, _⟩⟩ := e3
  obtain ⟨t0, t1, x, t3, t4, hc, hx⟩ := hd
  refine ⟨t0, t1, x, t3, t4, by rw [hc, e4, e5, e7, e8], ?_⟩
  rw [← e6] at b3
  cases hv : t.val with
  | str s =>
    rw [hv] at a3
    obtain ⟨_, rfl⟩ := a3
    cases hv' : t'.val with
    | str s' => rw [hv'] at b3 hx; obtain ⟨_, e⟩ := b3; cases e; exact hx
    | bytes b => rw [hv'] at b3; obtain ⟨_, e⟩ := b3; cases e
  | bytes b =>
    rw [hv] at a3
    obtain ⟨_, rfl⟩ := a3
    cases hv' : t'.val with
    | bytes s' => rw [hv'] at b3 hx; obtain ⟨_, e⟩ := b3; cases e; exact hx
    | str b => rw [hv'] at b3; obtain ⟨_, e⟩ := b3; cases e
theorem found_due {P : Params} {h₀ h : Heap} {L : Addr} {rest : List (Addr × Obj)} (N : News h₀ L h rest) : ∀ {vs : List Value} {ts : List Tk} {cs : List (List Value)}, TokL P rest vs ts → Paired (FoundOf P rest) vs cs → Paired DueT ts cs
  | [], [], _, _, .nil => .nil
  | _ :: _, _ :: _, _, ⟨a, b⟩, .cons ⟨_, x, y⟩ r => .cons (TokV.same N a x y) (found_due N b r)
theorem found_made {P : Params} {h₀ h' : Heap} {L C I T : Addr} {m m' : PySem.Str → Option Value} {oI oC : Obj} {a1 a2 : Addr × Obj} {all rest : List (Addr × Obj)} {v w : Value} {t : Tk} {u1 u2 u4 u5 tk : Tok} {s : Shared}
    (N : News h₀ L h' ((T, tupO [.str t.sort u1, .str t.text u2, w, .int t.row u4, .int t.col u5]) :: a1 :: a2 :: (I, oI) :: (C, oC) :: all)) (F : Fr h₀ L h' m) (hC : LCg.NsObj oC m') (hT : TokV P rest v t) (hw : t.val.Is w)
    (l1 : ∀ p ∈ all, p.1 < T) (l2 : @LT.lt Nat _ I T) (l3 : @LT.lt Nat _ C T) : TupMade h₀ L m C I oI all (FoundOf P rest v) s (.ref T) { s with heap := h', toks := tk } := by
  refine ⟨T, _, oC, m', h', tk, rfl, rfl, ⟨t, hT, u1, u2, w, u4, u5, rfl, hw⟩, hC, F, fun p hp => ?_, l1, l2, l3⟩
  rcases List.mem_cons.mp hp with rfl | hp
  · exact N _ (.head _)
  · exact N _ (.tail _ (.tail _ (.tail _ hp)))

-- the law
set_option Elab.async true in
set_option maxHeartbeats 16000000 in
theorem law_holds : PySem.Challenge.rw_nm0127_01.Holds := by
  w_on
  o_law
  k_head
  case hw => w_witness2
  refine to_hd ?_
  k_fill
  intro w s₀ s₁ mg mb G Y fa o pm cd doc dV kV ho hd' hcd hD hmg hg args vals as hpre hlay hrd hwl hlo
  have KX : (One.hd.heap_1_39 w.params).In s₁.heap := Y
  have X := (Ground.X G).1
  have V := (Ground.X G).2
  refine Ground.open G ?_
  intro T B D TE TW
  try (refine guard_noD D (by decide +kernel) ?_; clear D)
  obtain ⟨_, _, M⟩ := bmod_of_top T
  have TA := at_of_top T
  try (obtain ⟨_, _, he, B0⟩ := based_of_top T rfl hmg ho hd'; have he' : cd = _ := he; subst he'; clear he)
  clear hmg
  wrow_args hpre hlay hrd hwl hlo
  refine N_enter ?_
  w_top on
  have K0 := below_caller (Top.heap T)
  have he := Dflts.none hD rfl
  subst he
  refine N_fullW (by decide) ho hd' (Top.nolimit T) hcd (BindsTo.of_eq rfl) (locs rfl) fun h₁ QL F hQL => ?_
  w_binds F
  have N0 := (News.nil : News _ _ _ []).at F
  clear hd' TA
  k_drop
  refine N_first 1 ?_
  dsimp only [List.take, List.drop]
  walk_at "N go"
  dsimp only
  rename_i pn h11 l11 h12 F1 N1
  rename s₁.heap.IsList _ _ => hL
  rename IntsAre _ _ => hI
  clear TE TW V Y G
  refine N_first 1 ?_
  dsimp only [List.take, List.drop]
  obtain ⟨sc, vs0, ns, hsc, hvs, hns, hL⟩ : ∃ sc vs0 ns, sc = _ ∧ vs0 = _ ∧ ns = _ ∧ s₁.heap.IsList sc (List.toArray vs0) ∧ IntsAre vs0 ns ∧ ns.length ≤ 63 := ⟨_, _, _, rfl, rfl, rfl, hL, hI, by have := ‹¬ ((63 : Nat) : Int) < _›; omega⟩
  obtain ⟨hL, hI, hn⟩ := hL
  subst hsc hvs hns
  change Below callerA s₁.heap [] s₁.heap at K0
  iterate 12 (walk1; (try dsimp only))
  refine ⟨KX.keeps F1.keep, ?_⟩
  k_dflt (refine' next_c ?zq1B ?zq1F ?zq1X ?zq1N ?zq1TT ?zq1hk ?zq1U ?zq1hL ?zq1hI ?zq1hn ?zq1h0 ?zq1hkk ?zq1hr ?zq1hu ?_)
  case zq1B => exact K0
  case zq1F => exact F1
  case zq1X => exact KX
  case zq1N => exact N1
  case zq1TT => exact T
  case zq1hk => exact rfl
  case zq1U => intro _; k_upd
  case zq1hL => exact hL
  case zq1hI => exact hI
  case zq1hn => exact hn
  case zq1h0 => omega
  case zq1hkk => omega
  case zq1hr => first | ktr_room | decide
  case zq1hu => first | ktr_units | decide
  intro h2 tk2 tp2 t2 np2 F2 N2
  dsimp only
  clear F1 N1
  iterate 2 (walk1; (try dsimp only))
  k_dflt (refine' ahead_c ?zq1B2 ?zq1F2 ?zq1X2 ?zq1N2 ?zq1TT2 ?zq1hk2 ?zq1hr2 ?zq1hu2 ?_)
  case zq1B2 => exact K0
  case zq1F2 => exact F2
  case zq1X2 => exact KX
  case zq1N2 => exact N2
  case zq1TT2 => exact T
  case zq1hk2 => exact rfl
  case zq1hr2 => first | ktr_room | decide
  case zq1hu2 => first | ktr_units | decide
  intro j v d h3 tk3 l hd hj X3 F3 N3 H3
  obtain ⟨A, toks, r, c, tp, al, ws, n, ta, tr, tc, hA, hAl, htl, rfl, ht, ha, Ha⟩ := ahead_entry hd H3
  have hpn := X3.1 _ (.head _)
  have N4 : News _ _ h3 ((tp, _) :: (al, _) :: _ :: l) := fun p hp => by
    rcases List.mem_cons.mp hp with rfl | hp
    · exact N3 _ ht
    rcases List.mem_cons.mp hp with rfl | hp
    · exact N3 _ ha
    rcases List.mem_cons.mp hp with rfl | hp
    · exact N3 _ hpn
    · exact N3 p hp
  clear F2 N2
  dsimp only
  walk_at "N go"
  try dsimp only
  rename Fr _ _ _ _ => F5
  rename News _ _ _ _ => N5
  rename Heap => g5
  refine N_cons (N_AssignComp (by with_unfolding_all rfl) ?_)
  refine wpN_any ?_
  walk1
  dsimp only
  have hws : ws.length ≤ 100000 := by rw [Ha.len, List.length_map]; omega
  have lN : ∀ {x y z : Addr × Obj}, ∀ p ∈ l, p ∈ x :: y :: z :: l := fun p hp => List.mem_cons_of_mem _ (List.mem_cons_of_mem _ (List.mem_cons_of_mem _ hp))

  refine comp_assign (items := ws) (DueOf g5) rfl rfl hws (closureFor_none (by decide)) (by decide) rfl (by decide) rfl rfl F5 N5 (.tail _ (.head _)) ?_ ?_ ?_
  · intro v hv I i s' Q E' hit hq
    obtain ⟨T, a, b, c, rfl, hT⟩ := lits_tup Ha v hv
    exact wpAny_letOwnedTupleGo_listiter hit hq
  · intro v hv C I oI oC all mC h tk E' hall hC F N off nIC
    obtain ⟨T, a, b, c, rfl, hT⟩ := lits_tup Ha v hv
    have z := (N _ (.tail _ (.tail _ (hall _ (lN _ hT))))).1

    refine wpAny_mono (due_turn rfl z (by decide) (by decide) (by decide) rfl rfl rfl rfl (by decide) (by decide) (by decide) hC F N off nIC) (fun _ s₂ h₂ => wpAny_mono h₂ (fun y s₃ h₃ => ?_) fun _ _ e => e) fun _ _ e => e
    obtain ⟨T', ws', oC', m', h', tk', rfl, rfl, ⟨t, rfl⟩, r1, r2, r3, r4, r5, r6⟩ := h₃
    exact ⟨T', _, oC', m', h', tk', rfl, rfl, ⟨T, a, b, c, t, rfl, (N5 _ (lN _ hT)).1, rfl⟩, r1, r2, r3, r4, r5, r6⟩
  intro dl h6 tk6 ds dn own dcs F6 N6 HT HG hown hdl
  have HD := due_lits N5 (Ha.mono lN) HG
  have N7 : News s₁.heap s₁.heap.objs.size h6 ((dl, _) :: (_, _) :: own) := fun p hp => by
    rcases List.mem_cons.mp hp with rfl | hp
    · exact N6 _ (.head _)
    rcases List.mem_cons.mp hp with rfl | hp
    · exact N6 _ (.tail _ (List.mem_append_right _ (.tail _ (.tail _ (.head _)))))
    · exact N6 _ (.tail _ (List.mem_append_left _ hp))
  have hpd := hdl _ (.tail _ (.tail _ (.head _)))
  have hpo := fun p hp => (hown p hp).2 _ (.tail _ (.tail _ (.head _)))
  have hdo := fun p hp => (hown p hp).1
  clear N5 N6 HG hown hdl lN Ha H3 ht ha hpn X3 hd F5
  dsimp only at hpd hpo
  change Fr s₁.heap s₁.heap.objs.size h6 _ at F6
  refine N_first 1 ?_
  dsimp only [List.take, List.drop]
  walk_at "N go"
  dsimp only

  rename Fr _ _ _ _ => F8
  rename News _ _ _ _ => N8
  rename _ < _ ∧ _ < _ ∧ AllLt _ own => hlO
  have hpo' : ∀ p ∈ own, p.1 ≠ _ := fun p hp => Ne.symm (hpo p hp)
  have hoo := allLt_ne hlO.2.2
  have N9 : News s₁.heap s₁.heap.objs.size _ ((_, listOf #[.ref sc, .int (0 + 1) tp2] np2) :: (_, listOf #[] 0) :: (dl, listOf ds.toArray dn) :: own) := fun p hp => by
    rcases List.mem_cons.mp hp with rfl | hp
    · exact N8 _ (.tail _ (.tail _ (.tail _ (.head _))))
    rcases List.mem_cons.mp hp with rfl | hp
    · exact N8 _ (.tail _ (.head _))
    rcases List.mem_cons.mp hp with rfl | hp
    · exact N8 _ (.tail _ (.tail _ (.head _)))
    · exact N8 _ (.tail _ (.tail _ (.tail _ (.tail _ hp))))
  clear N8
  simp only [lit_q] at F8
  refine N_consA (forOver (h₀ := s₁.heap) F8 rfl rfl ?_ (fun _ => rfl) ?_)
  case refine_2 => passes_own
  iterate 17 (walk1; (try dsimp only))
  rename Fr _ _ _ _ => F10
  rename News _ _ _ _ => N10
  rename IsRange _ _ _ _ _ _ _ _ => hrg
  obtain ⟨k, hk⟩ : ∃ k : Nat, (nxt ns (0 + 1)).fmod 6 = ((k : Nat) : Int) := ⟨((nxt ns (0 + 1)).fmod 6).toNat, (Int.toNat_of_nonneg (fmod_lo _ (by decide))).symm⟩
  have hk6 : k < 6 := by have := fmod_hi (nxt ns (0 + 1)) (n := 6) (by decide); omega
  rw [hk] at hrg
  refine forRange (n := k) (LawJ ns sc pn dl A r c ta tr tc ds dn own) rfl hrg (by omega) F10 N10 ?_ ?_ ?_
  · refine ⟨_, [], 0, _, _, _, _, (dl, _) :: own, rfl, rfl, rfl, rfl, rfl, rfl, rfl, rfl, rfl, .nil, rfl, .head _, fun p hp => .tail _ hp, ?_, ?_, ?_⟩
    · intro p hp
      rcases List.mem_cons.mp hp with rfl | hp
      · exact Ne.symm hpd
      · exact hpo' p hp
    · intro p hp
      rcases List.mem_cons.mp hp with rfl | hp
      · exact Nat.ne_of_lt hlO.1
      · exact hoo p hp
    · exact Nat.ne_of_gt hlO.2.1
  · intro i tt m₁ nx h tk I oI hi hJ hne F N
    obtain ⟨ol, vs, n, tp, np, st, wv, rest, m1, m2, m3, m4, m5, m6, m7, m8, rfl, hIv, hW, hdl, hown, hrp, hro, hop⟩ := hJ
    have em := mapc m1 (mapc m2 (mapc m3 (mapc m4 (mapc m5 (mapc m6 (mapc m7 (mapc m8 rfl)))))))
    rw [em] at F
    dsimp only at F
    have N := newsRot3 N
    have hIp : I ≠ _ := Ne.symm (hne _ (.head _))
    have hIo : I ≠ _ := Ne.symm (hne _ (.tail _ (.head _)))
    clear F10 N10
    change Fr s₁.heap s₁.heap.objs.size h _ at F
    change News s₁.heap s₁.heap.objs.size h _ at N
    refine A_first 1 ?_
    dsimp only [List.take, List.drop]
    walk_at "N go"
    try dsimp only
    unfold Halt
    rename Fr _ _ _ _ => F11
    rename News _ _ _ _ => N11
    rename IntsAre _ (Ltr.ints _) => hIl
    rename List Value => vt
    rename _ < _ ∧ _ < _ ∧ _ < _ ∧ AllLt _ rest => l20
    have hlk := letter_ints (nxt ns (2 + (i : Int)))
    have hls := letters_succ (ns := ns) (i := i)
    generalize letterOf (nxt ns (2 + (i : Int))) = lt at F11 N11 hIl hlk hls
    have hTl := told_letters_le (ns := ns) (i := i)
    have hIn := ints_letters_le (ns := ns) (i := i)
    generalize letters ns i = ls at F11 hIv hW hls hTl hIn
    have N12 : News s₁.heap s₁.heap.objs.size _ ((pn, listOf #[.ref sc, .int (2 + (i : Int) + 1) _] _) :: (_, listOf (List.toArray _) _) :: (ol, listOf vs.toArray n) :: (I, oI) :: rest) := fun p hp => by
      rcases List.mem_cons.mp hp with rfl | hp
      · exact N11 _ (.tail _ (.tail _ (.head _)))
      rcases List.mem_cons.mp hp with rfl | hp
      · exact N11 _ (.tail _ (.head _))
      · exact N11 _ (.tail _ (.tail _ (.tail _ hp)))
    clear N11 em m1 m2 m3 m4 m5 m6 m7 m8
    obtain ⟨m0, hm0, F11⟩ : ∃ m0, m0 = _ ∧ Fr s₁.heap s₁.heap.objs.size _ m0 := ⟨_, rfl, F11⟩
    obtain ⟨nb, hnb, N12⟩ : ∃ nb, nb = _ ∧ News s₁.heap s₁.heap.objs.size _ nb := ⟨_, rfl, N12⟩
    have hrb : ∀ p ∈ rest, p ∈ nb := fun p hp => by rw [hnb]; exact .tail _ (.tail _ (.tail _ (.tail _ hp)))
    refine A_first 1 (wpAny_mono (Q := fun f s' => f = .next ∧ Halt (∃ h' tk wv' wn, s' = { s₁ with heap := h', toks := tk } ∧ Fr s₁.heap s₁.heap.objs.size h' (fun y => if y = PySem.Str.ofString "wrong" then some wv' else m0 y) ∧ News s₁.heap s₁.heap.objs.size h' (wn ++ nb) ∧
        WrongIs (wn ++ rest) wv' (wrongOf (ls ++ [lt]) r c) ∧ (∀ p ∈ wn, ∀ q ∈ nb, q.1 ≠ p.1))) ?_ ?_ (fun _ _ x => x))
    · clear hnb
      have h8 : m0 (PySem.Str.ofString "wrong") = some wv := by rw [hm0]; rfl
      rw [hm0] at F11
      have hW' := hW
      dsimp only [List.take]
      cases hb : lt.bad with
      | none =>
        have hW9 : WrongIs ([] ++ rest) wv (wrongOf (ls ++ [lt]) r c) := by
          rw [wrong_snoc, hb]
          cases hq : wrongOf ls r c with
          | none => rw [hq] at hW'; exact hW'
          | some q => rw [hq] at hW'; exact hW'
        obtain ⟨e1, e2⟩ := why_none hb
        rw [e1, e2] at F11
        walk_at "N go"
        unfold Halt
        have F13 : Fr s₁.heap s₁.heap.objs.size _ m0 := Fr_congr F11 (by rw [hm0, e1, e2])
        exact ⟨_, _, wv, [], rfl, Fr_congr F13 (mapc h8 rfl), N12, hW9, fun _ h => nomatch h⟩
      | some q =>
        obtain ⟨w9, o9⟩ := q
        obtain ⟨hw9, ho9⟩ := bad_facts hb
        cases hq : wrongOf ls r c with
        | some q9 =>
          obtain ⟨a9, b9, c9⟩ := q9
          rw [hq] at hW'
          obtain ⟨wt, u1, u2, u3, rfl, hwt⟩ := hW'
          have hW9 : WrongIs ([] ++ rest) (.ref wt) (wrongOf (ls ++ [lt]) r c) := by
            rw [wrong_snoc, hq]; exact ⟨wt, u1, u2, u3, rfl, hwt⟩
          have e1 : lt.why = w9 := by cases o9 <;> simp [Ltr.why, hb]
          rw [e1] at F11
          walk_at "N go"
          unfold Halt
          have F13 : Fr s₁.heap s₁.heap.objs.size _ m0 := Fr_congr F11 (by rw [hm0, e1])
          exact ⟨_, _, .ref wt, [], rfl, Fr_congr F13 (mapc h8 rfl), N12, hW9, fun _ h => nomatch h⟩
        | none =>
          rw [hq] at hW'
          obtain rfl : wv = .none := hW'
          cases o9 with
          | none =>
            obtain ⟨e1, e2⟩ := why_at hb
            rw [e1, e2] at F11
            walk_at "N go"
            unfold Halt
            rename Fr _ _ _ _ => F14
            rename News _ _ _ _ => N14
            rename ∀ p ∈ nb, p.1 < _ => l21
            simp only [Int.add_zero] at N14
            refine ⟨_, _, _, [(_, _)], rfl, Fr_congr F14 (by rw [hm0, e1, e2]), N14, ?_, fun p hp q hq => ?_⟩
            · rw [wrong_snoc, hq, hb]
              exact ⟨_, _, _, _, rfl, .head _⟩
            · rw [List.mem_singleton.mp hp]; exact Nat.ne_of_lt (l21 q hq)
          | some o9 =>
            obtain ⟨e1, e2⟩ := why_by hb
            rw [e1, e2] at F11
            obtain ⟨ho0, ho1⟩ := ho9 _ rfl
            walk_at "N go"
            unfold Halt
            rename Fr _ _ _ _ => F14
            rename News _ _ _ _ => N14
            rename ∀ p ∈ nb, p.1 < _ => l21
            have en : c + (((34 :: told ls).length : Nat) + o9) = c + 1 + ((told ls).length : Int) + o9 := by simp only [List.length_cons]; omega
            rw [en] at N14
            refine ⟨_, _, _, [(_, _)], rfl, Fr_congr F14 (by rw [hm0, e1, e2]), N14, ?_, fun p hp q hq => ?_⟩
            · rw [wrong_snoc, hq, hb]
              exact ⟨_, _, _, _, rfl, .head _⟩
            · rw [List.mem_singleton.mp hp]; exact Nat.ne_of_lt (l21 q hq)
    · trace "D0"
      rintro f s' ⟨rfl, h', tk, wv', wn, rfl, F15, N15, W15, D15⟩
      subst hnb
      have N16 : News s₁.heap s₁.heap.objs.size h' ((pn, listOf #[.ref sc, .int (2 + (i : Int) + 1) _] _) :: (_, listOf (List.toArray _) _) :: (ol, listOf vs.toArray n) :: (I, oI) :: (wn ++ rest)) := fun p hp => by
        rcases List.mem_cons.mp hp with rfl | hp
        · exact N15 _ (List.mem_append_right _ (.head _))
        rcases List.mem_cons.mp hp with rfl | hp
        · exact N15 _ (List.mem_append_right _ (.tail _ (.head _)))
        rcases List.mem_cons.mp hp with rfl | hp
        · exact N15 _ (List.mem_append_right _ (.tail _ (.tail _ (.head _))))
        rcases List.mem_cons.mp hp with rfl | hp
        · exact N15 _ (List.mem_append_right _ (.tail _ (.tail _ (.tail _ (.head _)))))
        · rcases List.mem_append.mp hp with hp | hp
          · exact N15 _ (List.mem_append_left _ hp)
          · exact N15 _ (List.mem_append_right _ (.tail _ (.tail _ (.tail _ (.tail _ hp)))))
      rw [hm0] at F15
      clear N15 N12 F11
      dsimp only [List.drop]
      unfold Halt
      walk_at "N go"
      rename Fr _ _ _ _ => F19
      rename News _ _ _ _ => N19
      rename IntsAre _ (_ ++ Ltr.ints _) => hI19
      rename _ < _ ∧ _ < _ ∧ _ < _ ∧ _ < _ ∧ AllLt _ (wn ++ rest) => l18
      have ei : 2 + (i : Int) + 1 = 2 + ((i + 1 : Nat) : Int) := by omega
      rw [ei] at N19 D15
      obtain ⟨Dq, wq, tq, nq, a3, a4, mq, F20, N20, hI20, l20, l21, l22, q1, q2, q3, q4, q5, ⟨st', q6⟩, q7, q8⟩ : ∃ Dq wq tq nq, ∃ (a3 a4 : Addr × Obj) (mq : PySem.Str → Option Value), Fr s₁.heap s₁.heap.objs.size _ mq ∧
          News s₁.heap s₁.heap.objs.size _ ((Dq, listOf (List.toArray wq) 0) :: (pn, listOf #[.ref sc, .int (2 + ((i + 1 : Nat) : Int)) tq] nq) :: a3 :: a4 :: (I, oI) :: (wn ++ rest)) ∧ IntsAre wq (ls.flatMap Ltr.ints ++ lt.ints) ∧
          @LT.lt Nat _ pn Dq ∧ @LT.lt Nat _ I Dq ∧ AllLt Dq (wn ++ rest) ∧ mq (PySem.Str.ofString "pen") = some (.ref pn) ∧ mq (PySem.Str.ofString "text") = some (.str (tx A) ta) ∧ mq (PySem.Str.ofString "row") = some (.int r tr) ∧
          mq (PySem.Str.ofString "column") = some (.int c tc) ∧ mq (PySem.Str.ofString "due") = some (.ref dl) ∧ (∃ st, mq (PySem.Str.ofString "string") = some (.str (tx (34 :: told ls ++ lt.told)) st)) ∧ mq (PySem.Str.ofString "octets") = some (.ref Dq) ∧ mq (PySem.Str.ofString "wrong") = some wv' :=
        ⟨_, _, _, _, _, _, _, F19, N19, hI19, l18.1, l18.2.2.2.1, l18.2.2.2.2, rfl, rfl, rfl, rfl, rfl, ⟨_, rfl⟩, rfl, rfl⟩
      refine ⟨rfl, _, _, mq, (pn, listOf #[.ref sc, .int (2 + ((i + 1 : Nat) : Int)) tq] nq) :: (Dq, listOf (List.toArray wq) 0) :: (wn ++ rest), rfl, F20, fun p hp => ?_, fun p hp => ?_, ?_⟩
      · rcases List.mem_cons.mp hp with rfl | hp
        · exact N20 _ (.tail _ (.tail _ (.tail _ (.tail _ (.head _)))))
        rcases List.mem_cons.mp hp with rfl | hp
        · exact N20 _ (.tail _ (.head _))
        rcases List.mem_cons.mp hp with rfl | hp
        · exact N20 _ (.head _)
        · exact N20 _ (.tail _ (.tail _ (.tail _ (.tail _ (.tail _ hp)))))
      · rcases List.mem_cons.mp hp with rfl | hp
        · exact Ne.symm hIp
        rcases List.mem_cons.mp hp with rfl | hp
        · exact Nat.ne_of_gt l21
        rcases List.mem_append.mp hp with hp | hp
        · exact Ne.symm (D15 p hp (I, oI) (.tail _ (.tail _ (.tail _ (.head _)))))
        · exact hne p (.tail _ (.tail _ hp))
      · refine ⟨Dq, wq, 0, tq, nq, st', wv', wn ++ rest, q1, q2, q3, q4, q5, ?_, q7, q8, rfl, ?_, by rw [hls]; exact W15, List.mem_append_right _ hdl, fun p hp => List.mem_append_right _ (hown p hp), fun p hp => ?_, fun p hp => Nat.ne_of_lt (allLt_lt l22 p hp), Nat.ne_of_gt l20⟩
        · rw [hls, told_append, told_cons, told_nil, List.append_nil, q6]; rfl
        · rw [hls, List.flatMap_append, List.flatMap_cons, List.flatMap_nil, List.append_nil]
          exact hI20
        · rcases List.mem_append.mp hp with hp | hp
          · exact Ne.symm (D15 p hp (pn, _) (.head _))
          · exact hrp p hp
  · intro m₁ nx h tk hJ F N
    obtain ⟨ol, vs, n, tp, np, st, wv, rest, m1, m2, m3, m4, m5, m6, m7, m8, rfl, hIv, hW, hdl, hown, hrp, hro, hop⟩ := hJ
    have em := mapc m1 (mapc m2 (mapc m3 (mapc m4 (mapc m5 (mapc m6 (mapc m7 (mapc m8 rfl)))))))
    rw [em] at F
    try dsimp only at F
    change Fr s₁.heap s₁.heap.objs.size h _ at F
    change News s₁.heap s₁.heap.objs.size h _ at N
    have hLk := letters_ok (ns := ns) hk6
    generalize letters ns k = ls at F hIv hW hLk
    obtain ⟨wl, hWl, hwl⟩ := wrong_cut (newsT1 (newsT1 N)) hdl hW
    have N20 : News s₁.heap s₁.heap.objs.size h ((pn, listOf #[.ref sc, .int (2 + (k : Int)) tp] np) :: (ol, listOf vs.toArray n) :: (dl, listOf ds.toArray dn) :: (wl ++ own)) := fun p hp => by
      rcases List.mem_cons.mp hp with rfl | hp
      · exact N _ (.head _)
      rcases List.mem_cons.mp hp with rfl | hp
      · exact N _ (.tail _ (.head _))
      rcases List.mem_cons.mp hp with rfl | hp
      · exact N _ (.tail _ (.tail _ hdl))
      rcases List.mem_append.mp hp with hp | hp
      · exact N _ (.tail _ (.tail _ (hwl p hp).1))
      · exact N _ (.tail _ (.tail _ (hown p hp)))
    have j1 : ∀ p ∈ wl ++ own, p.1 ≠ dl := fun p hp => by
      rcases List.mem_append.mp hp with hp | hp
      · exact (hwl p hp).2
      · exact hdo p hp
    have j2 : ∀ p ∈ wl ++ own, p.1 ≠ pn := fun p hp => by
      rcases List.mem_append.mp hp with hp | hp
      · exact hrp p (hwl p hp).1
      · exact hrp p (hown p hp)
    have j3 : ∀ p ∈ wl ++ own, p.1 ≠ ol := fun p hp => by
      rcases List.mem_append.mp hp with hp | hp
      · exact hro p (hwl p hp).1
      · exact hro p (hown p hp)
    have j4 : dl ≠ pn := hrp _ hdl
    have j5 : dl ≠ ol := hro _ hdl
    replace HT := HT.mono (l' := wl ++ own) fun p hp => List.mem_append_right _ hp
    have hKw := hWl.mono (l' := wl ++ own) fun p hp => List.mem_append_left _ hp
    generalize wl ++ own = keep at N20 j1 j2 j3 HT hKw
    clear hW hWl hrg
    clear hdl hown hrp hro hwl N em m1 m2 m3 m4 m5 m6 m7 m8 F10 N10 hpo hdo hpo' hlO
    try dsimp only
    have hT1 := hLk.told
    have hT2 := hLk.len
    have hT3 := hLk.inr
    refine N_first 3 ?_
    dsimp only [List.take, List.drop]
    walk_at "N go"
    rename Fr _ _ _ _ => F21
    rename News _ _ _ _ => N21
    rename _ < _ ∧ _ < _ ∧ _ < _ ∧ AllLt _ keep => l21
    have hdsl : ds.length ≤ 3 := by rw [HT.len, ← HD.length]; exact htl
    refine append_K F21 N21 (Upd.tail (Nat.ne_of_gt l21.2.2.1) (Upd.tail (Ne.symm j4) (Upd.tail (Ne.symm j5) (Upd.head j1)))) ?_ (by show ds.length ≤ sizeLine; rw [show sizeLine = 16777216 from rfl]; omega)
    intro h22 F22 N22
    simp only [List.push_toArray] at N22
    clear F21 N21
    dsimp only
    walk_at "N go"
    try dsimp only
    rename Fr _ _ _ _ => F23
    rename News _ _ _ _ => N23
    refine N_first 1 ?_
    dsimp only [List.take, List.drop]
    iterate 16 (walk1; (try dsimp only))
    rename Fr _ _ _ _ => F24
    rename News _ _ _ _ => N24
    obtain ⟨es, ecs, en, keep2, N25, HT2, HD2, hk2, j9, hel, -⟩ := due_step (t := ⟨PySem.Str.ofString "string", tx (34 :: (told ls ++ [34])), .bytes (byteArr (ls.flatMap Ltr.ints)), r, c⟩) (keep := keep) N24 (.head _) (.tail _ (.tail _ (.tail _ (.head _)))) (fun p hp => .tail _ (.tail _ (.tail _ (.tail _ hp)))) HT (due_ahead HD) ⟨_, _, _, _, _, rfl, _, rfl⟩ j1 (Nat.ne_of_gt l21.2.2.1)
    replace hKw := hKw.mono hk2
    clear N24 hD HT HD j1 j2 j3 j4 j5 l21 hk2
    k_dflt (refine' behind_c K0 F24 KX N25 T rfl ?zq5hr2 ?zq5hu2 ?_)
    case zq5hr2 => first | ktr_room | decide
    case zq5hu2 => first | ktr_units | decide
    intro j v d h25 tk25 l25 hd hj X25 F25 N26 H25
    obtain ⟨BB, btoks, tq, ml, wz, nm, tB, hB, hBl, hbl, rfl, htq, hml, hcase⟩ := behind_entry hd H25
    have hml2 := more_ne N26 hml (X25.1 _ (.head _)) (fun p hp => X25.1 _ (.tail _ hp)) HT2 HD2 (by omega) hcase
    have htq2 := tup_ne_list N26 htq (X25.1 _ (.head _))
    clear F24 N25 hd hj H25 hIv
    dsimp only
    obtain ⟨kp, hkp, hkp'⟩ := but_one l25 dl
    have N27 := kst_newsOf (l' := (tq, _) :: (ml, _) :: (dl, _) :: kp) N26 fun p hp => by
      rcases List.mem_cons.mp hp with rfl | hp
      · exact htq
      rcases List.mem_cons.mp hp with rfl | hp
      · exact hml
      rcases List.mem_cons.mp hp with rfl | hp
      · exact X25.1 _ (.head _)
      · exact (hkp' p hp).1
    have HT3 := HT2.mono (l' := kp) fun p hp => hkp p (X25.1 p (.tail _ hp)) (j9 p hp)
    have hK3 := hKw.mono (l' := kp) fun p hp => hkp p (X25.1 p (.tail _ hp)) (j9 p hp)
    have j11 : ∀ p ∈ kp, p.1 ≠ dl := fun p hp => (hkp' p hp).2
    have hc3 : (btoks = [] ∧ wz = []) ∨ ∃ T s1 s2 i3 i4 t1 t2 t3 t4, btoks = [(s1, s2, i3, i4)] ∧ wz = [.ref T] ∧ (T, tupO [.str s1 t1, .str s2 t2, .int i3 t3, .int i4 t4]) ∈ kp := by
      rcases hcase with h | ⟨T, s1, s2, i3, i4, t1, t2, t3, t4, e1, e2, hT⟩
      · exact .inl h
      · exact .inr ⟨T, s1, s2, i3, i4, t1, t2, t3, t4, e1, e2, hkp _ hT (tup_ne_list N26 hT (X25.1 _ (.head _)))⟩
    clear N26 hcase htq hml X25 hkp hkp' HT2 hKw j9
    walk_at "N go"
    try dsimp only
    rename Fr _ _ _ _ => F28
    rename News _ _ _ _ => N28
    refine N_first 1 (wpAny_mono (Q := MoreEnd s₁.heap s₁.heap.objs.size s₁ dl (A ++ (34 :: (told ls ++ [34]))) BB wv (wrongOf ls r c) (toks.map tokA ++ [⟨PySem.Str.ofString "string", tx (34 :: (told ls ++ [34])), .bytes (byteArr (ls.flatMap Ltr.ints)), r, c⟩] ++ btoks.map (tokB r (c + 2 + ((told ls).length : Int))))) ?_ ?_ fun _ _ x => x)
    · dsimp only [List.take]
      walk1
      rcases hc3 with ⟨rfl, rfl⟩ | ⟨T9, s1, s2, i3, i4, u1, u2, u3, u4, rfl, rfl, hT⟩
      · refine For_none rfl rfl F28 N28 (.tail _ (.head _)) ?_ ?_
        · walk1
          exact ⟨rfl, rfl⟩
        · intro h29 tk29 F29 N29
          clear F28 N28
          dsimp only
          walk_at "N go"
          refine MoreP.fin F29 N29 ⟨es, ecs, en, kp, _, _, fun p hp => .tail _ (.tail _ hp), HT3, ?_, hK3, j11, rfl, rfl, rfl, rfl⟩
          rw [List.map_nil, List.append_nil]; exact HD2
      · have N29 := kst_newsOf (l' := (T9, _) :: (ml, _) :: (dl, _) :: kp) N28 fun p hp => by
          rcases List.mem_cons.mp hp with rfl | hp
          · exact .tail _ (.tail _ (.tail _ hT))
          rcases List.mem_cons.mp hp with rfl | hp
          · exact .tail _ (.head _)
          · exact .tail _ (.tail _ hp)
        have hTd : T9 ≠ dl := j11 _ hT
        clear N28
        refine For_tup4 (MoreP dl (A ++ (34 :: (told ls ++ [34]))) BB wv (wrongOf ls r c) (toks.map tokA ++ [⟨PySem.Str.ofString "string", tx (34 :: (told ls ++ [34])), .bytes (byteArr (ls.flatMap Ltr.ints)), r, c⟩] ++ [tokB r (c + 2 + ((told ls).length : Int)) (s1, s2, i3, i4)])) rfl rfl F28 N29 (.tail _ (.head _)) (.head _) rfl rfl rfl rfl rfl ?_ ?_ ?_ ?_
        · walk1
          exact ⟨rfl, rfl⟩
        · intro h30 tk30 I oI F30 N30 hI
          clear F28 N29
          have hId : I ≠ dl := Ne.symm (hI _ (.tail _ (.tail _ (.head _))))
          by_cases hr0 : i3 > 0
          · walk_at "N go"
            rename Fr _ _ _ _ => F31
            rename News _ _ _ _ => N31
            rename _ < _ ∧ _ < _ ∧ _ < _ ∧ _ < _ ∧ AllLt _ kp => l31
            try simp only [List.push_toArray] at N31
            obtain ⟨es2, ecs2, en2, kp2, N32, HT4, HD4, hk4, j12, -, j13⟩ := due_step (t := tokB r (c + 2 + ((told ls).length : Int)) (s1, s2, i3, i4)) (keep := kp) N31 (.head _) (.tail _ (.tail _ (.tail _ (.tail _ (.head _))))) (fun p hp => .tail _ (.tail _ (.tail _ (.tail _ (.tail _ hp))))) HT3 HD2 (due_B1 hr0) j11 (Nat.ne_of_gt l31.2.2.2.1)
            refine ⟨rfl, _, _, _, (ml, _) :: (dl, _) :: kp2, rfl, F31, fun p hp => ?_, fun p hp => ?_, .head _, es2, ecs2, en2, kp2, _, _, fun p hp => .tail _ hp, HT4, HD4, hK3.mono hk4, j12, rfl, rfl, rfl, rfl⟩
            · rcases List.mem_cons.mp hp with rfl | hp
              · exact N31 _ (.tail _ (.head _))
              rcases List.mem_cons.mp hp with rfl | hp
              · exact N31 _ (.tail _ (.tail _ (.tail _ (.head _))))
              · exact N32 _ hp
            · rcases List.mem_cons.mp hp with rfl | hp
              · exact hI _ (.tail _ (.head _))
              rcases List.mem_cons.mp hp with rfl | hp
              · exact Ne.symm hId
              rcases j13 p hp with e | hp
              · rw [e]; exact Nat.ne_of_gt l31.1
              · exact hI _ (.tail _ (.tail _ (.tail _ hp)))
          · walk_at "N go"
            rename Fr _ _ _ _ => F31
            rename News _ _ _ _ => N31
            rename _ < _ ∧ _ < _ ∧ _ < _ ∧ _ < _ ∧ AllLt _ kp => l31
            try simp only [List.push_toArray] at N31
            obtain ⟨es2, ecs2, en2, kp2, N32, HT4, HD4, hk4, j12, -, j13⟩ := due_step (t := tokB r (c + 2 + ((told ls).length : Int)) (s1, s2, i3, i4)) (keep := kp) N31 (.head _) (.tail _ (.tail _ (.tail _ (.tail _ (.head _))))) (fun p hp => .tail _ (.tail _ (.tail _ (.tail _ (.tail _ hp))))) HT3 HD2 (due_B0 hr0 (by simp only [List.length_append, List.length_cons, List.length_nil]; omega)) j11 (Nat.ne_of_gt l31.2.2.2.1)
            refine ⟨rfl, _, _, _, (ml, _) :: (dl, _) :: kp2, rfl, F31, fun p hp => ?_, fun p hp => ?_, .head _, es2, ecs2, en2, kp2, _, _, fun p hp => .tail _ hp, HT4, HD4, hK3.mono hk4, j12, rfl, rfl, rfl, rfl⟩
            · rcases List.mem_cons.mp hp with rfl | hp
              · exact N31 _ (.tail _ (.head _))
              rcases List.mem_cons.mp hp with rfl | hp
              · exact N31 _ (.tail _ (.tail _ (.tail _ (.head _))))
              · exact N32 _ hp
            · rcases List.mem_cons.mp hp with rfl | hp
              · exact hI _ (.tail _ (.head _))
              rcases List.mem_cons.mp hp with rfl | hp
              · exact Ne.symm hId
              rcases j13 p hp with e | hp
              · rw [e]; exact Nat.ne_of_gt l31.1
              · exact hI _ (.tail _ (.tail _ (.tail _ hp)))
        · intro h' tk m' nx F' N' P'
          dsimp only
          walk_at "N go"
          exact MoreP.fin F' N' P'
        · passes_own
    · rintro f s' ⟨rfl, h40, tk40, m40, es4, ecs4, en4, kp4, tT, tB4, rfl, F40, N40, HT4, HD4, hK4, j14, q1, q2, q3, q4⟩
      have em4 := mapc q1 (mapc q2 (mapc q3 (mapc q4 rfl)))
      rw [em4] at F40
      try dsimp only at F40
      clear em4 q1 q2 q3 q4 F28 N28 HT3 HD2 hK3 hc3 j11 hml2 htq2
      dsimp only [List.drop]
      refine N_cons (N_Try (N_cons (N_AssignComp (by with_unfolding_all rfl) (N_CallName ?_))))
      walk1
      refine N_callWith_K (K := One.hd.heap_1_39 w.params) rfl (N_items_cons (wpN_any ?_))
      walk_at "N go"
      rename Fr _ _ _ _ => F41
      rename News _ _ _ _ => N41
      refine N_items_nil ⟨KX.keeps F41.keep, ?_⟩
      dsimp only [List.nil_append]
      have eR : A ++ 34 :: (told ls ++ [34]) ++ BB = A ++ (34 :: (told ls ++ 34 :: BB)) := by simp
      have hRl : (A ++ 34 :: (told ls ++ [34]) ++ BB).length ≤ 100000 := by
        have := hLk.told
        simp only [List.length_append, List.length_cons, List.length_nil]; omega
      cases hb : bads ls (c + 1) with
      | none =>
        have hwn : wv = .none := by rw [show wrongOf ls r c = none by rw [wrongOf, hb]; rfl] at hK4; exact hK4
        obtain ⟨n0, hS⟩ := full_good hA hB hLk.ok hLk.size hb
        rw [← eR] at hS
        rw [← hLk.bytes _ hb] at hS
        k_dflt (refine' tokens_c K0 F41 KX N41 T rfl ?zq7hr ?zq7hu hRl hS ?zq7hz ?zq7hE ?_)
        case zq7hr => first | ktr_room | decide
        case zq7hu => first | ktr_units | decide
        case zq7hz => simp only [List.length_append, List.length_map, List.length_cons]; omega
        case zq7hE => intro why r c h; cases h
        intro _ h42 tk42 fl fvs fn frest F42 N42 T42 hin42
        dsimp only
        obtain ⟨fv, rfl⟩ : ∃ fv : List Value, fvs = fv.toArray := ⟨fvs.toList, by simp⟩
        change TokL w.params frest fv _ at T42
        refine comp_assign (items := fv) (FoundOf w.params frest) rfl rfl ?_ (closureFor_none (by decide)) (by decide) rfl (by decide) rfl rfl F42 N42 (.head _) ?_ ?_ ?_
        · rw [T42.len]; simp only [List.length_append, List.length_map, List.length_cons]; omega
        · intro v hv I i s' Q E' hit hq
          exact wpAny_pure hq
        · intro v hv C I oI oC all mC h tk E' hall hC F N off nIC
          obtain ⟨t, hT⟩ := T42.mem hv
          obtain ⟨ta, td, k1, u1, k2, u2, k3, k4, u4, k5, u5, w9, rfl, hta, htd, hw9⟩ := id hT
          have zC := N (C, oC) (.tail _ (.head _))
          refine wpAny_assign_Name (wpAny_storeName_local rfl (hC.ns zC.1) (fun h₂ hn₂ hs₂ => ?_) rfl)
          obtain ⟨oC₂, eC₂, hC₂⟩ := LCg.ns_obj hn₂
          have F₂ : Fr s₁.heap s₁.heap.objs.size h₂ _ := F.change hs₂ zC.2.1 zC.2.2
          have old : ∀ p ∈ (I, oI) :: all, h₂.get? p.1 = some p.2 ∧ p.1 ≠ s₁.heap.objs.size ∧ s₁.heap.get? p.1 = none := fun p hp => by
            rcases List.mem_cons.mp hp with rfl | hp
            · have z := N (I, oI) (.head _)
              exact ⟨(hs₂.2 _ nIC).trans z.1, z.2⟩
            · have z := N p (.tail _ (.tail _ hp))
              exact ⟨(hs₂.2 _ (off p hp).2).trans z.1, z.2⟩
          have N₂ : News s₁.heap s₁.heap.objs.size h₂ ((ta, instObj 90 td) :: (td, dictOf (tokD w.params t.sort t.text w9 t.row t.col k1 u1 k2 u2 k3 k4 u4 k5 u5) 5) :: (I, oI) :: (C, oC₂) :: all) := fun p hp => by
            rcases List.mem_cons.mp hp with rfl | hp
            · exact old _ (.tail _ (hall _ (.tail _ hta)))
            rcases List.mem_cons.mp hp with rfl | hp
            · exact old _ (.tail _ (hall _ (.tail _ htd)))
            rcases List.mem_cons.mp hp with rfl | hp
            · exact old _ (.head _)
            rcases List.mem_cons.mp hp with rfl | hp
            · exact ⟨eC₂, zC.2⟩
            · exact old _ (.tail _ hp)
          obtain ⟨m₂, hC₂, hx₂⟩ : ∃ m₂, LCg.NsObj oC₂ m₂ ∧ m₂ (PySem.Str.ofString "one") = some (.ref ta) := ⟨_, hC₂, rfl⟩
          clear F N F42
          dsimp only
          cases ht : t.val with
          | str x9 =>
            have hv9 := hw9
            rw [ht] at hw9
            obtain ⟨tt9, rfl⟩ := hw9
            walk_at "N go"
            rename Fr _ _ _ _ => F9
            rename News _ _ _ _ => N9
            rename _ < _ ∧ _ < _ ∧ _ < _ ∧ _ < _ ∧ AllLt _ all => l9
            exact found_made N9 F9 hC₂ hT hv9 (allLt_lt l9.2.2.2.2) l9.2.2.1 l9.2.2.2.1
          | bytes x9 =>
            have hv9 := hw9
            rw [ht] at hw9
            obtain ⟨tt9, rfl⟩ := hw9
            walk_at "N go"
            rename Fr _ _ _ _ => F9
            rename News _ _ _ _ => N9
            rename _ < _ ∧ _ < _ ∧ _ < _ ∧ _ < _ ∧ AllLt _ all => l9
            exact found_made N9 F9 hC₂ hT hv9 (allLt_lt l9.2.2.2.2) l9.2.2.1 l9.2.2.2.1
        subst hwn
        intro D h' tk ys n9 own9 cs9 F43 N43 HT9 HG9 hown9 hD9
        have HF := found_due (newsT1 N42) T42 HG9
        rw [List.append_assoc] at HD4
        have N44 := kst_newsOf (l' := (D, _) :: (dl, _) :: (own9 ++ kp4)) N43 fun p hp => by
          rcases List.mem_cons.mp hp with rfl | hp
          · exact .head _
          rcases List.mem_cons.mp hp with rfl | hp
          · exact .tail _ (List.mem_append_right _ (.tail _ (hin42 _ (.head _))))
          rcases List.mem_append.mp hp with hp | hp
          · exact .tail _ (List.mem_append_left _ hp)
          · exact .tail _ (List.mem_append_right _ (.tail _ (hin42 _ (.tail _ hp))))
        change Fr s₁.heap s₁.heap.objs.size h' _ at F43
        change News s₁.heap s₁.heap.objs.size h' _ at N44
        clear N43 N42 T42 HG9 F42 F41 N41
        refine N_nil ?_
        dsimp only
        walk_at "N go"
        try dsimp only
        refine N_first 1 ?_
        dsimp only [List.take, List.drop]
        iterate 13 (walk1; (try dsimp only))
        rename Fr _ _ _ _ => F45
        rename News _ _ _ _ => N45
        refine eq_due N45 (.head _) (.tail _ (.head _)) HT9 HT4 (fun p hp => .tail _ (.tail _ (List.mem_append_left _ hp))) (fun p hp => .tail _ (.tail _ (List.mem_append_right _ hp))) HF HD4 ?_ ?_
        · first | ktr_units | decide
        try dsimp only
        walk_at "N go"
        try dsimp only
        rename Fr _ _ _ _ => F46
        refine hQL _ _ ?_
        refine goodW_bool F46 hg (raisesW_false ?_) ?_
        · wrow_none_raised
        · wrow_post
      | some q =>
        obtain ⟨why, o9⟩ := q
        have hwv : ∃ wt u1 u2 u3, wv = .ref wt ∧ (wt, tupO [.str why u1, .int r u2, .int (o9.getD c) u3]) ∈ kp4 := by rw [show wrongOf ls r c = some (why, r, o9.getD c) by rw [wrongOf, hb]; rfl] at hK4; exact hK4
        obtain ⟨wt, u1, u2, u3, rfl, hwt⟩ := hwv
        obtain ⟨n0, hS⟩ := full_bad hA hB hLk.ok hLk.size hb
        rw [← eR] at hS
        k_dflt (refine' tokens_c K0 F41 KX N41 T rfl ?zq7hr ?zq7hu hRl hS ?zq7hz ?zq7hE ?_)
        case zq7hr => first | ktr_room | decide
        case zq7hu => first | ktr_units | decide
        case zq7hz => simp only [List.length_append, List.length_map, List.length_nil]; omega
        case zq7hE =>
          intro why' r' c' h
          cases h
          w_top off
          refine caught_bad (w := w) rfl rfl rfl KX ?_ ?_
          · intro e h' tk F
            walk1
            exact ⟨rfl, rfl⟩
          · intro e d vs k1 k2 k3 t1 t2 t3 h' tk F N
            clear F41
            dsimp only
            walk_at "N go"
            rename Fr _ _ _ _ => F50
            rename News _ _ _ _ => N50
            refine excK_get (v := .str why t1) F50 KX N50 (.head _) (.tail _ (.head _)) rfl (by with_unfolding_all rfl) rfl ?_
            try dsimp only
            walk_at "N go"
            refine excK_get (v := .int r t2) F50 KX N50 (.head _) (.tail _ (.head _)) rfl (by with_unfolding_all rfl) rfl ?_
            try dsimp only
            walk_at "N go"
            refine excK_get (v := .int (o9.getD c) t3) F50 KX N50 (.head _) (.tail _ (.head _)) rfl (by with_unfolding_all rfl) rfl ?_
            try dsimp only
            walk_at "N go"
            rename Fr _ _ _ _ => F51
            rename News _ _ _ _ => N51
            refine eq_tuples_K (vs := [.str why t1, .int r t2, .int (o9.getD c) t3]) (ws := [.str why u1, .int r u2, .int (o9.getD c) u3]) N51 (.head _) (.tail _ (.tail _ (.tail _ (.tail _ hwt)))) (.cons .str (.cons .int (.cons .int .nil))) ?_ ?_
            · first | ktr_units | decide
            try dsimp only
            walk_at "N go"
            rename Fr _ _ _ _ => F52
            refine wpAny_nameGoes ?_ F52.ns ?_ ?_
            · rfl
            · rfl
            intro h60 m60 hn60 hs60
            have F60 : Fr s₁.heap s₁.heap.objs.size h60 m60 := F52.set hn60 hs60
            refine hQL _ _ ?_
            refine goodW_bool F60 hg (raisesW_false ?_) ?_
            · wrow_none_raised
            · wrow_post
        intro h; cases h
end Mine
theorem PySem.Challenge.cw_nm0127_01_holds : PySem.Challenge.rw_nm0127_01.Holds := by
  exact Mine.law_holds
