import PyProof.Rows.All
import Wide.All
import OpenK.AllK
import Wide.FinOn
import PySem.Challenge.RW_pf0284_01
open PySem PySem.W PyProof.Rows
set_option Elab.async false
set_option rowWalk.seconds 0
namespace Mine
set_option maxRecDepth 100000
set_option maxHeartbeats 0
set_option compiler.extract_closed false
set_option linter.unusedVariables false
set_option genSizeOf false
theorem lightH {R S : Prop} (_ : R → R) (_ : True) (h : S) : S := h
section
set_option hygiene false
local macro_rules | `(tactic| o_law) => `(tactic| refine lightH (R := OpenRow.Holds PySem.Challenge.rw_pf0284_01.row) (fun x => ?k) ?hw ?hc)
local macro_rules | `(tactic| o_head $_) => `(tactic| exact x)
local macro_rules | `(tactic| w_witness2) => `(tactic| trivial)
open_top hd for PySem.Challenge.rw_pf0284_01
end
noncomputable def selB (l : List Stmt) (is : List Nat) : List Stmt := is.filterMap (l[·]?)
noncomputable def viewP : Program := { PySem.Challenge.pw_pf0284_01 with main := { PySem.Challenge.pw_pf0284_01.main with body := selB PySem.Challenge.pw_pf0284_01.main.body [1, 2, 3, 4, 7, 9, 10, 11, 12, 13, 14, 15, 16, 17, 19, 20, 21, 22, 24, 25, 27, 29, 30, 31, 32, 33, 34, 35, 36, 37, 38, 39, 40, 41, 42, 43, 44, 45, 47, 48, 49, 50, 51, 52, 53] } }
noncomputable def asK : List Addr := [2, 3, 15, 22, 23, 25, 26, 28, 29, 30, 32, 33, 35, 36, 37, 38, 39, 40, 43, 50, 51, 52, 55, 62, 63, 64, 67, 68, 70, 71, 73, 74, 75, 76, 78, 79, 81, 82, 83, 85, 86, 88, 89, 97, 99, 100, 102, 103, 104, 106, 107, 109, 110, 111, 112, 113, 114, 115, 118, 120, 121, 123, 124, 125, 127, 128, 130, 131, 132, 134, 135, 137, 138, 139, 140, 142, 143, 145, 146, 147, 149, 150, 152, 153, 154, 156, 157, 159, 160, 161, 163, 164, 166, 167, 168, 170, 171, 173, 174, 175, 177, 178, 180, 181, 182, 185, 186, 194, 196, 197, 199, 200, 201, 203, 204, 206, 207, 208, 209, 210, 211, 212, 222, 224, 225, 227, 228, 229, 231, 232, 234, 235, 236, 237, 238, 239, 240, 243, 245, 246, 248, 249, 250, 252, 253, 255, 256, 257, 259, 260, 262, 263, 264, 266, 267, 269, 270, 271, 273, 274, 276, 277, 278, 280, 281, 283, 284, 285, 287, 288, 290, 291, 292, 294, 295, 297, 298, 299, 301, 302, 304, 305, 306, 308, 309, 311, 312, 313, 315, 316, 318, 319, 320, 322, 323, 325, 326, 327, 329, 330, 332, 333, 341, 343, 344, 346, 347, 348, 349, 351, 352, 354, 355, 356, 357, 359, 360, 362, 363, 364, 366, 367, 369, 370, 371, 373, 374, 376, 377, 378, 380, 381, 383, 384, 385, 387, 388, 390, 391, 392, 394, 395, 397, 398, 399, 401, 402, 404, 405, 406, 408, 409, 411, 412, 413, 415, 416, 418, 419, 420, 422, 423, 425, 426, 427, 429, 430, 432, 433, 434, 436, 437, 439, 440, 441, 443, 444, 446, 447, 448, 449, 450, 451, 452, 455, 458, 459, 460, 462, 463, 465, 466, 467, 469, 470, 472, 473, 474, 477, 478, 479, 481, 482, 484, 485, 486, 488, 489, 491, 492, 493, 496, 497]
theorem swapV {V V' : Program} {l K R D k r} (h : V' = V) (x : WalkO V l (XL V []) K R D k r) : WalkO V' l (XL V' []) K R D k r := by subst h; exact x
namespace law_w
theorem tw10026448116097110916:True:=.intro
theorem tw10039619224386605803:True:=.intro
theorem tw1009564115099829728:True:=.intro
theorem tw1011004470619163116:True:=.intro
theorem tw10127545701779141363:True:=.intro
theorem tw10141006127414922840:True:=.intro
theorem tw10169362008253763904:True:=.intro
theorem tw10229247770085450134:True:=.intro
theorem tw10264917855801974699:True:=.intro
theorem tw10274370359065638574:True:=.intro
theorem tw10284541693308510975:True:=.intro
theorem tw10311342845602970907:True:=.intro
theorem tw10329109733014473805:True:=.intro
theorem tw10374213439194068274:True:=.intro
theorem tw1038191107582665786:True:=.intro
theorem tw10390717452577904525:True:=.intro
theorem tw10427435834121516473:True:=.intro
theorem tw10430886066021695781:True:=.intro
theorem tw10461489807334228533:True:=.intro
theorem tw10510771437032382564:True:=.intro
theorem tw10539946001627365631:True:=.intro
theorem tw10547056162698492134:True:=.intro
theorem tw10590351964931769190:True:=.intro
theorem tw10611661928608077709:True:=.intro
theorem tw10680117721616348721:True:=.intro
theorem tw10732919024534032626:True:=.intro
theorem tw10763771712269845984:True:=.intro
theorem tw10786501609392311507:True:=.intro
theorem tw10842074313424040436:True:=.intro
theorem tw10899331321567853388:True:=.intro
theorem tw10931611703500454407:True:=.intro
theorem tw10934165440557580398:True:=.intro
theorem tw10957804690260217252:True:=.intro
theorem tw10964684530685637619:True:=.intro
theorem tw11035668781031181909:True:=.intro
theorem tw11040950535289157220:True:=.intro
theorem tw11048363927077870571:True:=.intro
theorem tw11055777014871854953:True:=.intro
theorem tw11112878957352284126:True:=.intro
theorem tw11124215384988513558:True:=.intro
theorem tw1113822385302649277:True:=.intro
theorem tw11231004551348675130:True:=.intro
theorem tw11288471936068453173:True:=.intro
theorem tw11289600722031620734:True:=.intro
theorem tw11299978815391217978:True:=.intro
theorem tw11356798496121015057:True:=.intro
theorem tw11422254113004834149:True:=.intro
theorem tw11524995185213550249:True:=.intro
theorem tw11581743540091253868:True:=.intro
theorem tw11588537809984843209:True:=.intro
theorem tw11598287735156897706:True:=.intro
theorem tw1161831121737446303:True:=.intro
theorem tw11642767065749277507:True:=.intro
theorem tw11677803961093776978:True:=.intro
theorem tw11724505561394885153:True:=.intro
theorem tw11737757204463971972:True:=.intro
theorem tw1173777670012001247:True:=.intro
theorem tw11788845646564155743:True:=.intro
theorem tw11812905128561634075:True:=.intro
theorem tw11815540236164284622:True:=.intro
theorem tw11860879735260729631:True:=.intro
theorem tw11863353516289585964:True:=.intro
theorem tw11871634674328138970:True:=.intro
theorem tw11873168682013646685:True:=.intro
theorem tw11885646678644548770:True:=.intro
theorem tw11922392889119242498:True:=.intro
theorem tw11931688254168735188:True:=.intro
theorem tw11963753097437863252:True:=.intro
theorem tw11974290920345762023:True:=.intro
theorem tw11977123699790056271:True:=.intro
theorem tw12029798835708354415:True:=.intro
theorem tw12114643498126451281:True:=.intro
theorem tw12132735368960372662:True:=.intro
theorem tw12246463702840643454:True:=.intro
theorem tw12276312614217423070:True:=.intro
theorem tw12292496155674456629:True:=.intro
theorem tw12304456836664698300:True:=.intro
theorem tw12311333968311522330:True:=.intro
theorem tw12324972677646680428:True:=.intro
theorem tw1236470147104994442:True:=.intro
theorem tw12378149579927668783:True:=.intro
theorem tw12421639849979570021:True:=.intro
theorem tw12436702369335858591:True:=.intro
theorem tw12440721022468171462:True:=.intro
theorem tw12445182640460179062:True:=.intro
theorem tw12468660205503774774:True:=.intro
theorem tw12468669576880922947:True:=.intro
theorem tw12476047133817533659:True:=.intro
theorem tw12500106642314072766:True:=.intro
theorem tw1252390894166532393:True:=.intro
theorem tw12524475773688664631:True:=.intro
theorem tw12641189798397370013:True:=.intro
theorem tw12728511216583653923:True:=.intro
theorem tw12762309642387798215:True:=.intro
theorem tw12814190552998763480:True:=.intro
theorem tw12846938020566050613:True:=.intro
theorem tw12863469704667787673:True:=.intro
theorem tw12889329667458323211:True:=.intro
theorem tw1292947472362875040:True:=.intro
theorem tw12944828700020189367:True:=.intro
theorem tw13009819452939749364:True:=.intro
theorem tw13058338482805642786:True:=.intro
theorem tw13136851197178670521:True:=.intro
theorem tw13162805459449980531:True:=.intro
theorem tw13166628029281757679:True:=.intro
theorem tw13190074434772097881:True:=.intro
theorem tw13199642385865652988:True:=.intro
theorem tw13213951585246791652:True:=.intro
theorem tw13248169900372189244:True:=.intro
theorem tw13261720108031534073:True:=.intro
theorem tw13264797982083870589:True:=.intro
theorem tw13267259890471567903:True:=.intro
theorem tw13283316798727029310:True:=.intro
theorem tw1333250353027822845:True:=.intro
theorem tw13379790128938242850:True:=.intro
theorem tw13388474057037208412:True:=.intro
theorem tw1348854884134423557:True:=.intro
theorem tw13496840620695987235:True:=.intro
theorem tw13516766049046835963:True:=.intro
theorem tw1352123625871782815:True:=.intro
theorem tw13551397318391574078:True:=.intro
theorem tw13641764239605724349:True:=.intro
theorem tw13651784974738337064:True:=.intro
theorem tw1365232234183203787:True:=.intro
theorem tw13666458616613096491:True:=.intro
theorem tw13681747858378376337:True:=.intro
theorem tw13687959551743493966:True:=.intro
theorem tw13691667704547506434:True:=.intro
theorem tw13726253164758659439:True:=.intro
theorem tw13786207772199794388:True:=.intro
theorem tw13846030539008591126:True:=.intro
theorem tw13870481912618988336:True:=.intro
theorem tw13877555959034975793:True:=.intro
theorem tw13884975898007635145:True:=.intro
theorem tw13926847295402817445:True:=.intro
theorem tw13946194734908775296:True:=.intro
theorem tw13961143152987845848:True:=.intro
theorem tw14060446912250751599:True:=.intro
theorem tw1422859783933727094:True:=.intro
theorem tw14273685673856805903:True:=.intro
theorem tw1429485299273384405:True:=.intro
theorem tw14346982101421684309:True:=.intro
theorem tw14366062342460162874:True:=.intro
theorem tw14445749459958375177:True:=.intro
theorem tw14513067743158196832:True:=.intro
theorem tw14516546629030038215:True:=.intro
theorem tw14519547289527888535:True:=.intro
theorem tw14571227913757955605:True:=.intro
theorem tw145868911553314298:True:=.intro
theorem tw14609337780433211510:True:=.intro
theorem tw1474625810167265626:True:=.intro
theorem tw14748204381804708290:True:=.intro
theorem tw14779576830118329089:True:=.intro
theorem tw14794648384880543203:True:=.intro
theorem tw14814396650404325918:True:=.intro
theorem tw14861648261840596202:True:=.intro
theorem tw14928382376322412329:True:=.intro
theorem tw1496511287530819776:True:=.intro
theorem tw15008684764882374366:True:=.intro
theorem tw15067288227306621854:True:=.intro
theorem tw15088439699198491189:True:=.intro
theorem tw15178079197971212469:True:=.intro
theorem tw15192308223778212466:True:=.intro
theorem tw15201154481356601608:True:=.intro
theorem tw15258033403468218807:True:=.intro
theorem tw15329262509364641170:True:=.intro
theorem tw15332019184543558172:True:=.intro
theorem tw15340538211744110767:True:=.intro
theorem tw15343077298934155539:True:=.intro
theorem tw15395579370934418956:True:=.intro
theorem tw15497740898828824277:True:=.intro
theorem tw15556836623658639712:True:=.intro
theorem tw15571946988733671115:True:=.intro
theorem tw15625301313885703542:True:=.intro
theorem tw15629472825241326659:True:=.intro
theorem tw15630339961478082948:True:=.intro
theorem tw15639741421324462437:True:=.intro
theorem tw15678088525733188591:True:=.intro
theorem tw15685679559764169052:True:=.intro
theorem tw15777453716955756963:True:=.intro
theorem tw15811000477698599105:True:=.intro
theorem tw15866149706798075475:True:=.intro
theorem tw15961641089115061612:True:=.intro
theorem tw15971762383964737040:True:=.intro
theorem tw15981981818300983785:True:=.intro
theorem tw15992085855830652720:True:=.intro
theorem tw15994690606949799662:True:=.intro
theorem tw16001326177313869767:True:=.intro
theorem tw16011857895701005930:True:=.intro
theorem tw16020905035374790603:True:=.intro
theorem tw16101371191307248683:True:=.intro
theorem tw16106129991901926476:True:=.intro
theorem tw16123205844218978893:True:=.intro
theorem tw16217626661002181061:True:=.intro
theorem tw16220031390763896771:True:=.intro
theorem tw16227868455734466658:True:=.intro
theorem tw16297776786343652515:True:=.intro
theorem tw16310862903646760091:True:=.intro
theorem tw16338285266562752846:True:=.intro
theorem tw16380081721643729373:True:=.intro
theorem tw16419839152386559720:True:=.intro
theorem tw16433006392672953673:True:=.intro
theorem tw1645797241420030600:True:=.intro
theorem tw16458003789990474430:True:=.intro
theorem tw16466746796604269811:True:=.intro
theorem tw16491122851842272571:True:=.intro
theorem tw16494960403756326851:True:=.intro
theorem tw16502823240987023721:True:=.intro
theorem tw16761942673034042664:True:=.intro
theorem tw16797253283475397254:True:=.intro
theorem tw16822819997825108079:True:=.intro
theorem tw16831996672121956528:True:=.intro
theorem tw16899105477632657316:True:=.intro
theorem tw16914710183062169816:True:=.intro
theorem tw16943535939360315337:True:=.intro
theorem tw16971115013154000121:True:=.intro
theorem tw16974786566913238559:True:=.intro
theorem tw16975327841280120914:True:=.intro
theorem tw17040510906072866546:True:=.intro
theorem tw17072750214422470291:True:=.intro
theorem tw17081297879119527853:True:=.intro
theorem tw1715645757812494620:True:=.intro
theorem tw17163686113854799760:True:=.intro
theorem tw17198801219898361188:True:=.intro
theorem tw17205829946234939317:True:=.intro
theorem tw1725119927545013116:True:=.intro
theorem tw17282972397075154062:True:=.intro
theorem tw17391973290611837644:True:=.intro
theorem tw17423038114553680282:True:=.intro
theorem tw17439875428236433177:True:=.intro
theorem tw17448517049590719500:True:=.intro
theorem tw17455151545414050577:True:=.intro
theorem tw17488517250577575568:True:=.intro
theorem tw17512795766784200315:True:=.intro
theorem tw17591650158589551456:True:=.intro
theorem tw17601647166858337195:True:=.intro
theorem tw17654430537856184309:True:=.intro
theorem tw17739233673926427311:True:=.intro
theorem tw17775352182937513400:True:=.intro
theorem tw17802844045141044014:True:=.intro
theorem tw17820113901639819196:True:=.intro
theorem tw17860903195265374868:True:=.intro
theorem tw17905767669358574402:True:=.intro
theorem tw17935367555369210523:True:=.intro
theorem tw17940303060566869383:True:=.intro
theorem tw17965329734486735007:True:=.intro
theorem tw17987413851736439118:True:=.intro
theorem tw17991626654966041367:True:=.intro
theorem tw17992652572941491626:True:=.intro
theorem tw18061739751480436494:True:=.intro
theorem tw18114008645555235169:True:=.intro
theorem tw18118461101371490053:True:=.intro
theorem tw18167550441827659625:True:=.intro
theorem tw18304135470431548337:True:=.intro
theorem tw18319631891047334592:True:=.intro
theorem tw18323928643978938652:True:=.intro
theorem tw18342697624664428753:True:=.intro
theorem tw18346559393029946619:True:=.intro
theorem tw18378984691601292949:True:=.intro
theorem tw18386220762227265238:True:=.intro
theorem tw18418362800726331540:True:=.intro
theorem tw1859303353576117188:True:=.intro
theorem tw1899279477445398551:True:=.intro
theorem tw191165938428366225:True:=.intro
theorem tw1978123879444971267:True:=.intro
theorem tw2079911097412205674:True:=.intro
theorem tw2108671466288155463:True:=.intro
theorem tw2119235182970066641:True:=.intro
theorem tw2195040994093749064:True:=.intro
theorem tw2233005578428051120:True:=.intro
theorem tw2304140083616896359:True:=.intro
theorem tw2369954720975266434:True:=.intro
theorem tw2394629266537328672:True:=.intro
theorem tw2513360787127784952:True:=.intro
theorem tw2532180720347119612:True:=.intro
theorem tw2581568032949420967:True:=.intro
theorem tw2585955637947398851:True:=.intro
theorem tw2595486576159527713:True:=.intro
theorem tw2604846910311414989:True:=.intro
theorem tw2605232327434766896:True:=.intro
theorem tw2615320406894999639:True:=.intro
theorem tw2652802695399185860:True:=.intro
theorem tw2658570398445220089:True:=.intro
theorem tw2769038895805390354:True:=.intro
theorem tw2815332589148595314:True:=.intro
theorem tw2820237905897176894:True:=.intro
theorem tw2834162924404569168:True:=.intro
theorem tw2849020175048520319:True:=.intro
theorem tw2895351705395442363:True:=.intro
theorem tw2917350989071455604:True:=.intro
theorem tw2952371532216758265:True:=.intro
theorem tw2994886313899392524:True:=.intro
theorem tw2995430686839793600:True:=.intro
theorem tw3043610400949543383:True:=.intro
theorem tw3133685602257368445:True:=.intro
theorem tw3281551952167476323:True:=.intro
theorem tw3314667956498058750:True:=.intro
theorem tw3314765244410149184:True:=.intro
theorem tw3347687498471648381:True:=.intro
theorem tw3361207042141378226:True:=.intro
theorem tw3422438175176021116:True:=.intro
theorem tw343868433178911596:True:=.intro
theorem tw3454904681461841457:True:=.intro
theorem tw3464087103633296966:True:=.intro
theorem tw3466932207924516710:True:=.intro
theorem tw3514598266128699118:True:=.intro
theorem tw3528944282860906934:True:=.intro
theorem tw3551689605142075751:True:=.intro
theorem tw3554537827984706693:True:=.intro
theorem tw3558668765335074631:True:=.intro
theorem tw357486453476387696:True:=.intro
theorem tw3686600770426444655:True:=.intro
theorem tw3756063582613314306:True:=.intro
theorem tw3841515894279046315:True:=.intro
theorem tw389176285713185140:True:=.intro
theorem tw3899866523286465169:True:=.intro
theorem tw390535450731452790:True:=.intro
theorem tw3998015639219065430:True:=.intro
theorem tw4039095017918626601:True:=.intro
theorem tw40529144791647058:True:=.intro
theorem tw4075863304934347445:True:=.intro
theorem tw4083452444856671201:True:=.intro
theorem tw4110296028260082577:True:=.intro
theorem tw4180427991826114860:True:=.intro
theorem tw418139540281252948:True:=.intro
theorem tw4181843841262213333:True:=.intro
theorem tw4201092376873913541:True:=.intro
theorem tw4203270803879493019:True:=.intro
theorem tw420478726175094244:True:=.intro
theorem tw4224999833728493104:True:=.intro
theorem tw4262451487955351473:True:=.intro
theorem tw4269122211704333159:True:=.intro
theorem tw4273951505924921456:True:=.intro
theorem tw4280371473321608952:True:=.intro
theorem tw4283472694231660265:True:=.intro
theorem tw4295679824800421615:True:=.intro
theorem tw4301476773005914731:True:=.intro
theorem tw4327576685456506539:True:=.intro
theorem tw432773495005070584:True:=.intro
theorem tw4349783598103422441:True:=.intro
theorem tw4364722159406312728:True:=.intro
theorem tw4375616467061938132:True:=.intro
theorem tw4385314060366624320:True:=.intro
theorem tw4407930068888006616:True:=.intro
theorem tw4470582486093685861:True:=.intro
theorem tw4501769432318536952:True:=.intro
theorem tw4590867372660077102:True:=.intro
theorem tw462589199697961607:True:=.intro
theorem tw4658065726119610790:True:=.intro
theorem tw4675432028474468316:True:=.intro
theorem tw4688484478882654844:True:=.intro
theorem tw4720978286890611305:True:=.intro
theorem tw4742026184364219329:True:=.intro
theorem tw4773352687939150688:True:=.intro
theorem tw4782378007248717461:True:=.intro
theorem tw4814808841983319895:True:=.intro
theorem tw4826921575003768979:True:=.intro
theorem tw4831226075788339175:True:=.intro
theorem tw4838073790544148713:True:=.intro
theorem tw4946030515961831145:True:=.intro
theorem tw4976533206574201453:True:=.intro
theorem tw4983291732623524546:True:=.intro
theorem tw5003135958272258755:True:=.intro
theorem tw5046248407612532519:True:=.intro
theorem tw5054507597390816785:True:=.intro
theorem tw5093871186267868206:True:=.intro
theorem tw5130720550197077416:True:=.intro
theorem tw5156801715367101388:True:=.intro
theorem tw5159667430505745994:True:=.intro
theorem tw5174536494020786961:True:=.intro
theorem tw5197160162427851524:True:=.intro
theorem tw519817587710381860:True:=.intro
theorem tw5202481052509155291:True:=.intro
theorem tw526384110110609881:True:=.intro
theorem tw5331687451924101618:True:=.intro
theorem tw5333935709026046237:True:=.intro
theorem tw538559195074388205:True:=.intro
theorem tw5387374672970046350:True:=.intro
theorem tw5432138457381478168:True:=.intro
theorem tw5461194508741518068:True:=.intro
theorem tw5533407197112312858:True:=.intro
theorem tw5614644228793573984:True:=.intro
theorem tw5627921889859248139:True:=.intro
theorem tw5763943210771262799:True:=.intro
theorem tw5784551570114733823:True:=.intro
theorem tw5802175168921478708:True:=.intro
theorem tw5826261351948332455:True:=.intro
theorem tw5856749667731025499:True:=.intro
theorem tw5882558511126561619:True:=.intro
theorem tw5915673217547641321:True:=.intro
theorem tw593041945150507679:True:=.intro
theorem tw5991140793051695998:True:=.intro
theorem tw6028216095559316567:True:=.intro
theorem tw6029969126013407671:True:=.intro
theorem tw6032630406356290587:True:=.intro
theorem tw6078871728059296001:True:=.intro
theorem tw6167433193778951026:True:=.intro
theorem tw6196083359989607726:True:=.intro
theorem tw6222471340540579438:True:=.intro
theorem tw6249351975847539405:True:=.intro
theorem tw6251291767354563979:True:=.intro
theorem tw6266733957141622884:True:=.intro
theorem tw62835841493039943:True:=.intro
theorem tw6291182843708304645:True:=.intro
theorem tw6292665289959898494:True:=.intro
theorem tw629338160996569540:True:=.intro
theorem tw6366691465489354249:True:=.intro
theorem tw639773624325949048:True:=.intro
theorem tw6441986227035643190:True:=.intro
theorem tw6456413629155360835:True:=.intro
theorem tw6469448595908165147:True:=.intro
theorem tw6486623840490364261:True:=.intro
theorem tw6527897170569933295:True:=.intro
theorem tw660319187679519843:True:=.intro
theorem tw6666247308828496810:True:=.intro
theorem tw6666922655306693558:True:=.intro
theorem tw6669100525535465588:True:=.intro
theorem tw6683894404723958152:True:=.intro
theorem tw6702563514216093258:True:=.intro
theorem tw6722580465411308224:True:=.intro
theorem tw6838902870078453791:True:=.intro
theorem tw688716150795518657:True:=.intro
theorem tw688776058148347429:True:=.intro
theorem tw6904596827317624592:True:=.intro
theorem tw6963591946041119859:True:=.intro
theorem tw7020353590441907108:True:=.intro
theorem tw7027772214824506408:True:=.intro
theorem tw7042457978991461174:True:=.intro
theorem tw7059548588659157217:True:=.intro
theorem tw7063038949222906205:True:=.intro
theorem tw7077909269269702314:True:=.intro
theorem tw7097022797495323326:True:=.intro
theorem tw710105728124734942:True:=.intro
theorem tw7136141029021608160:True:=.intro
theorem tw7177280571184721875:True:=.intro
theorem tw7201555672950258767:True:=.intro
theorem tw7234921044943870333:True:=.intro
theorem tw7252126047679826347:True:=.intro
theorem tw726385566642791582:True:=.intro
theorem tw7277266525979896816:True:=.intro
theorem tw7388892751051227192:True:=.intro
theorem tw7404090248740809151:True:=.intro
theorem tw7435818496458104483:True:=.intro
theorem tw7453446286499375332:True:=.intro
theorem tw7487656215802547117:True:=.intro
theorem tw7490257763096386161:True:=.intro
theorem tw7502226180719317025:True:=.intro
theorem tw7514114852682648842:True:=.intro
theorem tw7531772630339775036:True:=.intro
theorem tw754042622940082771:True:=.intro
theorem tw7548389184769318765:True:=.intro
theorem tw7592179551542014138:True:=.intro
theorem tw7669026920432280557:True:=.intro
theorem tw770766484016321491:True:=.intro
theorem tw7708105876624132429:True:=.intro
theorem tw7791011113383139593:True:=.intro
theorem tw7797647680144736891:True:=.intro
theorem tw7808468960174852235:True:=.intro
theorem tw7818399227749438140:True:=.intro
theorem tw7857376244949508511:True:=.intro
theorem tw7873803186459090975:True:=.intro
theorem tw7950153884872195854:True:=.intro
theorem tw7987955497112994302:True:=.intro
theorem tw8031277403206232902:True:=.intro
theorem tw8096490868873480551:True:=.intro
theorem tw8111028366051843364:True:=.intro
theorem tw8160285530185189995:True:=.intro
theorem tw8161477247865260246:True:=.intro
theorem tw8175695185361097123:True:=.intro
theorem tw8190848134003311141:True:=.intro
theorem tw8197350790442471477:True:=.intro
theorem tw8215779262261192772:True:=.intro
theorem tw8240222443020983563:True:=.intro
theorem tw8254278073916642809:True:=.intro
theorem tw8346202433791814344:True:=.intro
theorem tw8362328248247066883:True:=.intro
theorem tw8367872735723197923:True:=.intro
theorem tw8378196480078703183:True:=.intro
theorem tw8389350346364666585:True:=.intro
theorem tw8419845025225732469:True:=.intro
theorem tw8464440097327332677:True:=.intro
theorem tw8468926549324525191:True:=.intro
theorem tw8472389747634594090:True:=.intro
theorem tw847732114107526937:True:=.intro
theorem tw8478257975818533685:True:=.intro
theorem tw8503022613429321851:True:=.intro
theorem tw851380373074534835:True:=.intro
theorem tw8527111051382462584:True:=.intro
theorem tw8638581304902041632:True:=.intro
theorem tw8643613479340588029:True:=.intro
theorem tw8651731942117014396:True:=.intro
theorem tw8657030612615525801:True:=.intro
theorem tw8665676235769590426:True:=.intro
theorem tw8673768483921210944:True:=.intro
theorem tw8694948343989299490:True:=.intro
theorem tw8706980624845485287:True:=.intro
theorem tw8756963864468586986:True:=.intro
theorem tw8774226383004336276:True:=.intro
theorem tw8776654626139929560:True:=.intro
theorem tw8851412461197635585:True:=.intro
theorem tw89652130128573369:True:=.intro
theorem tw9012057907527588606:True:=.intro
theorem tw9025171003861867620:True:=.intro
theorem tw9026846048292705315:True:=.intro
theorem tw9052534423426398616:True:=.intro
theorem tw9054717153960399165:True:=.intro
theorem tw908584282110016484:True:=.intro
theorem tw9135058236918745118:True:=.intro
theorem tw91738349044446021:True:=.intro
theorem tw9186914083152420401:True:=.intro
theorem tw9200809769624510564:True:=.intro
theorem tw9235238510119523057:True:=.intro
theorem tw9253411278388461491:True:=.intro
theorem tw9285903683723186301:True:=.intro
theorem tw9393570745743083228:True:=.intro
theorem tw939619951574080044:True:=.intro
theorem tw9431055054533218308:True:=.intro
theorem tw9455732239706511366:True:=.intro
theorem tw9456865075301044202:True:=.intro
theorem tw9469838104013986046:True:=.intro
theorem tw9509956932862557959:True:=.intro
theorem tw9564770013968088969:True:=.intro
theorem tw9582975652333997282:True:=.intro
theorem tw9653320143842860562:True:=.intro
theorem tw9659949755844039310:True:=.intro
theorem tw9744840396291248135:True:=.intro
theorem tw9810272868788833098:True:=.intro
theorem tw9814579435768266044:True:=.intro
theorem tw9830764374380795853:True:=.intro
theorem tw9871593395522166135:True:=.intro
theorem tw991691702735940553:True:=.intro
theorem tw9977714697750374759:True:=.intro
theorem tw9990791944880591820:True:=.intro
end law_w
section
set_option hygiene false
local macro_rules | `(tactic| refine $f:ident (q := $q) $as*) => `(tactic| (refine' $f:ident (q := $q) $as*; (case hc => exact swapV (V := viewP) (by kernel_rfl) (h _ _ rfl))))
set_option Elab.async true in
theorem law_w (h : ∀ d k, defOf viewP (Str.ofString "law") = some (d, k) → WalkO viewP [Str.ofString "GateError", Str.ofString "wrap", Str.ofString "signed", Str.ofString "check_row"] (XL viewP []) (kHook hd.heap_1 asK fun _ => by kernel_rfl).says PySem.Challenge.rw_pf0284_01.row.toRowW d k fun f vs => PySem.call f vs) : PySem.Challenge.rw_pf0284_01.Holds := by
  w_on; o_law; o_head (kHook hd.heap_1 asK (fun _ => by kernel_rfl)); (case hw => w_witness2)
end

section
noncomputable abbrev LZ : List Str := looseW viewP [Str.ofString "GateError", Str.ofString "wrap", Str.ofString "signed", Str.ofString "check_row"]
theorem wpst {α : Type} {M : Model} {A : Around} {x : Sem α} {Q : α → Shared → Prop} {E : Value → Shared → Prop} {h g d tk o} (H : ∀ tk', wpAny M A x Q E ⟨h, g, d, tk', o⟩) : wpAny M A x Q E ⟨h, g, d, tk, o⟩ := H tk
theorem letq {α : Type} {M : Model} {A : Around} {x : Sem α} {Q : α → Shared → Prop} {E : Value → Shared → Prop} {s : Shared} (H : let q := Q; wpAny M A x q E s) : wpAny M A x Q E s := H
set_option genInjectivity false in
set_option genSizeOf false in
structure Cb where
  w : World
  mean : ExcName → Option Value
  mg : Str → Option Value
  mb : Str → Option Value
  dp : Nat
  un : Nat
  gd : Option (List Code)
  cn : Str
  cs : Scope
  a : Addr
  ccd : Value
  cl : List (Str × Addr)
  outer : List Env
  A₀ : Around
  base : Heap
  h₀ : Heap
  L : Addr
  m : Str → Option Value
  s : Shared
  Q : Value → Shared → Prop
  E : Value → Shared → Prop
theorem Cb.ne : Nonempty Cb := ⟨⟨aWorld 0, fun _ => none, fun _ => none, fun _ => none, 0, 0, none, Str.ofString "", default, 0, .none, [], [], {}, {}, {}, 0, fun _ => none, {}, fun _ _ => False, fun _ _ => False⟩⟩
noncomputable def Cb.eps (P : Cb → Prop) : Cb := @Classical.epsilon Cb Cb.ne fun c => ¬ P c
theorem Cb.all {P : Cb → Prop} (h : P (Cb.eps P)) (c : Cb) : P c := by
  refine Classical.byContradiction fun n => ?_
  exact @Classical.epsilon_spec Cb (fun c => ¬ P c) ⟨c, n⟩ h
noncomputable def bm (po ar kw : List Arg) (vs : List Value) : Str → Option Value := fun y => List.lookup y (List.filterMap (fun n => Option.map (fun x => (n, x)) (List.lookup n ((List.map (fun x => x.arg) po ++ List.map (fun x => x.arg) ar).zip vs))) (List.map (fun x => x.arg) po ++ List.map (fun x => x.arg) ar ++ List.map (fun x => x.arg) kw)).reverse
theorem subl_cons {α : Type} {a : α} {r l : List α} (h : a ∈ l) (k : ∀ p ∈ r, p ∈ l) : ∀ p ∈ a :: r, p ∈ l := fun p hp => match hp with
  | .head _ => h
  | .tail _ hp => k p hp
theorem news_sub {h₀ h : Heap} {L : Addr} {l l' : List (Addr × Obj)} (N : News h₀ L h l) (k : ∀ p ∈ l', p ∈ l) : News h₀ L h l' := fun p hp => N p (k p hp)
theorem gt_of {D b : Addr} {o : Obj} {l : List (Addr × Obj)} (h : ∀ p ∈ l, @LT.lt Nat _ p.1 D) (m : (b, o) ∈ l) : D ≠ b := Nat.ne_of_gt (h _ m)
theorem letf {h₀ h : Heap} {L : Addr} {m : Str → Option Value} {G : Prop} (F : Fr h₀ L h m) (H : let x := m; Fr h₀ L h x → G) : G := H F
theorem letn {h₀ h : Heap} {L : Addr} {l : List (Addr × Obj)} {G : Prop} (N : News h₀ L h l) (H : let x := l; News h₀ L h x → G) : G := H N
inductive TR where
  | mark (o : Bool) (n : Int)
  | mov (r k : Int)
  | add (a b : Int)
  | cmp (r k : Int)
  | jcc (c : Fin 3) (o : Bool) (g : Int)
  | jmp (o : Bool) (g : Int)
  | ret
noncomputable def kdS : Bool → Str
  | true => Str.ofString "order"
  | false => Str.ofString "label"
noncomputable def ccS : Fin 3 → Str
  | 0 => Str.ofString "e"
  | 1 => Str.ofString "a"
  | 2 => Str.ofString "le"
noncomputable def nameOf : TR → Str
  | .mark o _ => kdS o
  | .mov _ _ => Str.ofString "mov_imm"
  | .add _ _ => Str.ofString "add"
  | .cmp _ _ => Str.ofString "cmp_imm"
  | .jcc _ _ _ => Str.ofString "jcc"
  | .jmp _ _ => Str.ofString "jmp"
  | .ret => Str.ofString "ret"
noncomputable def partsOf : TR → List Dat
  | .mark _ n => [.int n]
  | .mov r k => [.int 64, .int r, .int k]
  | .add a b => [.int 64, .int a, .int b]
  | .cmp r k => [.int 64, .int r, .int k]
  | .jcc c o g => [.str (ccS c), .str (kdS o), .int g]
  | .jmp o g => [.str (kdS o), .int g]
  | .ret => []
noncomputable def datOf (r : TR) : Dat := .tuple [.str (nameOf r), .tuple (partsOf r)]
noncomputable def idleIn (o : Bool) (g : Int) : List TR → Bool
  | .mark o' n :: rest => if o' = o ∧ n = g then true else if o' = true ∧ o = false then false else idleIn o g rest
  | _ => false
noncomputable def idleHead : List TR → Bool
  | .jmp o g :: rest => idleIn o g rest
  | _ => false
noncomputable def idleAt (rs : List TR) (i : Nat) : Bool := idleHead (rs.drop i)
noncomputable def stripI : List TR → List TR
  | [] => []
  | r :: rest => if idleHead (r :: rest) = true then stripI rest else r :: stripI rest
noncomputable abbrev tupO (ps : List Value) (k : Nat) : Obj := { cls := .type "tuple", data := .seq ps.toArray k }
inductive RowIn (I : List (Addr × Obj)) (v : Value) (r : TR) : Prop
  | mk (x dx p : Addr) (h1 h2 : Int) (t1 t2 t3 : Tok) (n : Nat) (ps : List Value) (k : Nat)
    (f1 : v = .ref x) (f2 : (x, instObj 113 dx) ∈ I) (f3 : (dx, dictOf [⟨h1, .str (Str.ofString "name") t1, .str (nameOf r) t2⟩, ⟨h2, .str (Str.ofString "parts") t3, .ref p⟩] n) ∈ I) (f4 : (p, tupO ps k) ∈ I) (f5 : DatAll I ps (partsOf r)) : RowIn I v r
inductive RowsIn (I : List (Addr × Obj)) : List Value → List TR → Prop
  | nil : RowsIn I [] []
  | cons {v : Value} {vs : List Value} {r : TR} {rs : List TR} : RowIn I v r → RowsIn I vs rs → RowsIn I (v :: vs) (r :: rs)
theorem RowIn.mono {I I' : List (Addr × Obj)} {v : Value} {r : TR} (hs : ∀ p ∈ I, p ∈ I') : RowIn I v r → RowIn I' v r
  | ⟨x, dx, p, h1, h2, t1, t2, t3, n, ps, k, e, a, b, c, d⟩ => ⟨x, dx, p, h1, h2, t1, t2, t3, n, ps, k, e, hs _ a, hs _ b, hs _ c, d.mono hs⟩
theorem RowsIn.mono {I I' : List (Addr × Obj)} (hs : ∀ p ∈ I, p ∈ I') : ∀ {vs : List Value} {rs : List TR}, RowsIn I vs rs → RowsIn I' vs rs := fun H => by
  induction H with
  | nil => exact .nil
  | cons h _ ih => exact .cons (h.mono hs) ih
theorem RowsIn.length {I : List (Addr × Obj)} : ∀ {vs : List Value} {rs : List TR}, RowsIn I vs rs → vs.length = rs.length := fun H => by
  induction H with
  | nil => rfl
  | cons _ _ ih => exact congrArg (· + 1) ih
theorem RowsIn.get {I : List (Addr × Obj)} : ∀ {vs : List Value} {rs : List TR}, RowsIn I vs rs → ∀ {i : Nat}, (h : i < rs.length) → ∃ v, vs[i]? = some v ∧ RowIn I v rs[i] := fun H => by
  induction H with
  | nil => exact fun h => absurd h (Nat.not_lt_zero _)
  | cons h _ ih =>
    intro i hi
    cases i with
    | zero => exact ⟨_, rfl, h⟩
    | succ i => exact ih (i := i) (Nat.lt_of_succ_lt_succ hi)
theorem RowsIn.append {I : List (Addr × Obj)} : ∀ {vs ws : List Value} {rs qs : List TR}, RowsIn I vs rs → RowsIn I ws qs → RowsIn I (vs ++ ws) (rs ++ qs) := fun H k => by
  induction H with
  | nil => exact k
  | cons h _ ih => exact .cons h ih
section
variable {I : List (Addr × Obj)} {ps : List Value} {ds : List Dat}
theorem da_nil (h : DatAll I ps []) : ps = [] := by cases h; rfl
theorem da_int {i : Int} (h : DatAll I ps (.int i :: ds)) : ∃ t qs, ps = .int i t :: qs ∧ DatAll I qs ds := by
  cases h with
  | cons a b => cases a; exact ⟨_, _, rfl, b⟩
theorem da_str {x : Str} (h : DatAll I ps (.str x :: ds)) : ∃ t qs, ps = .str x t :: qs ∧ DatAll I qs ds := by
  cases h with
  | cons a b => cases a; exact ⟨_, _, rfl, b⟩
theorem da_tup {es : List Dat} (h : DatAll I ps (.tuple es :: ds)) : ∃ a vs n qs, ps = .ref a :: qs ∧ (a, tupO vs n) ∈ I ∧ DatAll I vs es ∧ DatAll I qs ds := by
  cases h with
  | cons a b => cases a with
    | tuple hm hv => exact ⟨_, _, _, _, rfl, hm, hv, b⟩
inductive L_si (ps : List Value) (x0 : Str) (x1 : Int) : Prop
  | mk (t0 t1 : Tok) (e : ps = [.str x0 t0, .int x1 t1]) : L_si ps x0 x1
theorem da_si {x0 : Str} {x1 : Int} (h : DatAll I ps [.str x0, .int x1]) : L_si ps x0 x1 := by
  obtain ⟨u0, q0, rfl, h0⟩ := da_str h
  obtain ⟨u1, q1, rfl, h1⟩ := da_int h0
  obtain rfl := da_nil h1
  exact ⟨_, _, rfl⟩
inductive L_i (ps : List Value) (x0 : Int) : Prop
  | mk (t0 : Tok) (e : ps = [.int x0 t0]) : L_i ps x0
theorem da_i {x0 : Int} (h : DatAll I ps [.int x0]) : L_i ps x0 := by
  obtain ⟨u0, q0, rfl, h0⟩ := da_int h
  obtain rfl := da_nil h0
  exact ⟨_, rfl⟩
inductive L_ssi (ps : List Value) (x0 : Str) (x1 : Str) (x2 : Int) : Prop
  | mk (t0 t1 t2 : Tok) (e : ps = [.str x0 t0, .str x1 t1, .int x2 t2]) : L_ssi ps x0 x1 x2
theorem da_ssi {x0 : Str} {x1 : Str} {x2 : Int} (h : DatAll I ps [.str x0, .str x1, .int x2]) : L_ssi ps x0 x1 x2 := by
  obtain ⟨u0, q0, rfl, h0⟩ := da_str h
  obtain ⟨u1, q1, rfl, h1⟩ := da_str h0
  obtain ⟨u2, q2, rfl, h2⟩ := da_int h1
  obtain rfl := da_nil h2
  exact ⟨_, _, _, rfl⟩
inductive L_iii (ps : List Value) (x0 : Int) (x1 : Int) (x2 : Int) : Prop
  | mk (t0 t1 t2 : Tok) (e : ps = [.int x0 t0, .int x1 t1, .int x2 t2]) : L_iii ps x0 x1 x2
theorem da_iii {x0 : Int} {x1 : Int} {x2 : Int} (h : DatAll I ps [.int x0, .int x1, .int x2]) : L_iii ps x0 x1 x2 := by
  obtain ⟨u0, q0, rfl, h0⟩ := da_int h
  obtain ⟨u1, q1, rfl, h1⟩ := da_int h0
  obtain ⟨u2, q2, rfl, h2⟩ := da_int h1
  obtain rfl := da_nil h2
  exact ⟨_, _, _, rfl⟩
end
section
variable {prog : Program} {w : World} {A : Around} {E : Value → Shared → Prop} {s : Shared} {h₀ : Heap} {L l : Addr} {m : Str → Option Value} {news : List (Addr × Obj)} {n : Nat}
theorem item_led {value slice : PySem.Expr} {vs : List Value} {k : Int} {u : Tok} {v : Value} {Q : Value → Shared → Prop} (N : News h₀ L s.heap news) (hm : (l, listOf vs.toArray n) ∈ news) (h0 : 0 ≤ k) (hx : vs[k.toNat]? = some v) (hhi : k < 2 ^ 63) (h : Q v s)
    (hs : subscripted slice false (.ref l) (.int k u) = operate [.ref l, .int k u] (getItem (.ref l) (.int k u)) := by with_unfolding_all rfl) :
    wpAny (model prog w) A (subscriptTail value slice (.ref l) (.int k u)) Q E s :=
  tail_any (N.isList hm).typeIs slot_list_getitem.lookup (wpAny_getItem_list (N.isList hm) h0 hhi (by simpa using hx) h) hs
theorem len_led {vs : List Value} {k : Nat} {Q : Value → Shared → Prop} (N : News h₀ L s.heap news) (hm : (l, listOf vs.toArray n) ∈ news) (hl : vs.length = k) (hz : k < 2 ^ 62) (h : Q (.int (k : Int) (s.toks + 1)) ⟨s.heap, s.gens, s.drawn, s.toks + 1 + 1, s.os⟩) :
    wpAny (model prog w) A (call (.builtin "len") [.ref l]) Q E s := by
  subst hl
  exact len_list (N.isList hm) (by rw [List.size_toArray]; omega) (by rw [List.size_toArray]; exact h)
end
theorem ite_dp {p : Prop} [Decidable p] {P Q : Prop} (h : p) (x : P) : if decide p = true then P else Q := by rw [if_pos (decide_eq_true h)]; exact x
theorem ite_dn {p : Prop} [Decidable p] {P Q : Prop} (h : ¬ p) (x : Q) : if decide p = true then P else Q := by rw [if_neg (by simpa using h)]; exact x
theorem ite_bp {b : Bool} {P Q : Prop} (h : b = true) (x : P) : if b = true then P else Q := by rw [if_pos h]; exact x
theorem ite_bn {b : Bool} {P Q : Prop} (h : b = false) (x : Q) : if b = true then P else Q := by rw [if_neg (by simpa using h)]; exact x
theorem ite_af {a b : Bool} {P Q : Prop} (h : a = false) (x : Q) : if (a && b) = true then P else Q := by rw [h]; simpa using x
theorem ite_at {a b : Bool} {P Q : Prop} (h : a = true) (x : if b = true then P else Q) : if (a && b) = true then P else Q := by rw [h]; simpa using x
structure StopG (P : Prop) : Prop where
  out : P
theorem rm0 {dp k : Nat} (h : dp + k < recursionLimit) : dp < recursionLimit := Nat.lt_of_le_of_lt (Nat.le_add_right _ _) h
theorem rm {dp k : Nat} (j : Nat) (h : dp + k < recursionLimit) (hj : j ≤ k) : dp + j < recursionLimit := Nat.lt_of_le_of_lt (Nat.add_le_add_left hj _) h
theorem uu {x : Str} {a b : Option Value} {m : Str → Option Value} : (fun y => if y = x then a else (fun y => if y = x then b else m y) y) = fun y => if y = x then a else m y := by
  funext y
  by_cases h : y = x <;> simp [h]
noncomputable def W1Post (h₀ : Heap) (L : Addr) (s : Shared) (y : Str) (m₀ : Str → Option Value) (news : List (Addr × Obj)) (P : Int → Prop) (μ : Int → Nat) (v : Int) (Q : Flow → Shared → Prop) (f : Flow) (s₃ : Shared) : Prop :=
  match f with
  | .next | .cont => ∃ h' tk v' t' m' news', s₃ = { s with heap := h', toks := tk } ∧ Fr h₀ L h' m' ∧ (∀ z, m' z = if z = y then some (.int v' t') else m₀ z) ∧ News h₀ L h' news' ∧ (∀ p ∈ news, p ∈ news') ∧ P v' ∧ μ v' < μ v
  | .brk => Q .next s₃
  | .ret v => Q (.ret v) s₃
theorem while1 {prog : Program} {w : World} {A : Around} {E : Value → Shared → Prop} {Q : Flow → Shared → Prop} {s : Shared} {env : Env} {h₀ : Heap} {L : Addr} {test : PySem.Expr} {body : List Stmt} {pos : Pos} {m₀ : Str → Option Value} {news : List (Addr × Obj)} {v₀ : Int} {t₀ : Tok} (y : Str) (P : Int → Prop) (μ : Int → Nat)
    (F : Fr h₀ L s.heap (fun z => if z = y then some (.int v₀ t₀) else m₀ z)) (N : News h₀ L s.heap news) (hp : P v₀)
    (turn : ∀ v t h tk, P v → Fr h₀ L h (fun z => if z = y then some (.int v t) else m₀ z) → News h₀ L h news →
      wpAny (model prog w) A (isTrue test env (eval test env)) (fun b s₂ => if b = true then wpAny (model prog w) A (execs body env) (W1Post h₀ L s y m₀ news P μ v Q) E s₂ else Q .next s₂) E { s with heap := h, toks := tk })
    (hE : PassesOwn (model prog w) A env E := by passes_own) :
    wpAny (model prog w) A (exec (.While test body [] pos) env) Q E s := by
  refine While_inv2 (fun n m nx => ∃ v t, n = μ v ∧ P v ∧ m = (fun z => if z = y then some (.int v t) else m₀ z) ∧ nx = news) F N ⟨v₀, t₀, rfl, hp, rfl, rfl⟩ ?_ hE
  rintro n m₁ nx h tk F₁ N₁ ⟨v, t, rfl, hp', rfl, rfl⟩
  refine wpAny_mono (turn v t h tk hp' F₁ N₁) (fun b s₂ p => ?_) fun _ _ x => x
  cases b with
  | false => simpa using p
  | true =>
    simp only [if_true] at p ⊢
    refine wpAny_mono p (fun f s₃ q => ?_) fun _ _ x => x
    cases f with
    | ret v => exact q
    | brk => exact q
    | next =>
      obtain ⟨h', tk', v', t', m', news', rfl, F', hm', N', hn, hp9, hm9⟩ := q
      obtain rfl : m' = (fun z => if z = y then some (.int v' t') else m₀ z) := funext hm'
      exact ⟨h', tk', _, _, μ v', rfl, F', fun p hp => N' p (hn p hp), hm9, v', t', rfl, hp9, rfl, rfl⟩
    | cont =>
      obtain ⟨h', tk', v', t', m', news', rfl, F', hm', N', hn, hp9, hm9⟩ := q
      obtain rfl : m' = (fun z => if z = y then some (.int v' t') else m₀ z) := funext hm'
      exact ⟨h', tk', _, _, μ v', rfl, F', fun p hp => N' p (hn p hp), hm9, v', t', rfl, hp9, rfl, rfl⟩
theorem w1end {h₀ : Heap} {L : Addr} {s : Shared} {y : Str} {m₀ m' : Str → Option Value} {news news' : List (Addr × Obj)} {P : Int → Prop} {μ : Int → Nat} {v v' : Int} {t' : Tok} {Q : Flow → Shared → Prop} {h' : Heap} {tk : Nat}
    (F : Fr h₀ L h' m') (N : News h₀ L h' news') (e : m' y = some (.int v' t')) (ho : ∀ z, z ≠ y → m' z = m₀ z) (hn : ∀ p ∈ news, p ∈ news') (hp : P v') (hμ : μ v' < μ v) : W1Post h₀ L s y m₀ news P μ v Q .next { s with heap := h', toks := tk } :=
  ⟨h', tk, v', t', m', news', rfl, F, (fun z => by by_cases hz : z = y; · rw [hz, e, if_pos rfl]
                                                   · rw [if_neg hz, ho z hz]), N, hn, hp, hμ⟩
theorem w1ret {h₀ : Heap} {L : Addr} {s s₃ : Shared} {y : Str} {m₀ : Str → Option Value} {news : List (Addr × Obj)} {P : Int → Prop} {μ : Int → Nat} {v : Int} {x : Value} {Q : Flow → Shared → Prop} (h : Q (.ret x) s₃) : W1Post h₀ L s y m₀ news P μ v Q (.ret x) s₃ := h
theorem fr_pull {h₀ h : Heap} {L : Addr} {m : Str → Option Value} (y : Str) {v : Value} (F : Fr h₀ L h m) (e : m y = some v) : Fr h₀ L h (fun z => if z = y then some v else m z) := by
  have : (fun z => if z = y then some v else m z) = m := by
    funext z
    by_cases hz : z = y
    · rw [if_pos hz, hz, e]
    · rw [if_neg hz]
  rw [this]
  exact F
theorem fin_b {h₀ : Heap} {L : Addr} {m : Str → Option Value} {news : List (Addr × Obj)} {s : Shared} {Q : Value → Shared → Prop} {b b' : Bool} {h' : Heap} {tk : Nat} (hret : ∀ (h' : Heap) (tks : Nat), Fr h₀ L h' m → News h₀ L h' news → Q (.bool b) { s with heap := h', toks := tks })
    (e : b = b') (F : Fr h₀ L h' m) (N : News h₀ L h' news) : Q (.bool b') { s with heap := h', toks := tk } := e ▸ hret h' tk F N
theorem news_tl {h₀ h : Heap} {L : Addr} {q : Addr × Obj} {l : List (Addr × Obj)} (N : News h₀ L h (q :: l)) : News h₀ L h l := fun p hp => N p (.tail _ hp)
section
variable {prog : Program} {w : World} {A : Around} {E : Value → Shared → Prop} {cn : Str} {cs : Scope} {a : Addr} {ccd : Value} {cl : List (Str × Addr)} {L : Addr} {h₀ : Heap} {gn : Array GenState} {dr : Drawn} {oz : OsState} {m : Str → Option Value} {hp : Heap} {tk : Nat} {Q : Flow → Shared → Prop} {s : Shared} {x b v : Str} {t : Tok} {k : Nat} {p1 p2 p3 p4 : Pos} {body orelse rest : List Stmt}
theorem cif (F : Fr h₀ L hp m) (hv : m x = some (.str v t)) (hx : (envX cn cs L a ccd cl).kindOf x = some .local) (hk : cs.kind = .function) (hd : (x == ("__debug__" : Str)) = false)
    (h : wpAny (model prog w) A (execs (if (v == b) = true then body else orelse) (envX cn cs L a ccd cl)) Q E ⟨hp, gn, dr, tk + 1, oz⟩) :
    wpAny (model prog w) A (exec (.If (.Compare (.Name x p1) [.Eq] [.Constant (.str b) k p2] p3) body orelse p4) (envX cn cs L a ccd cl)) Q E ⟨hp, gn, dr, tk, oz⟩ := by
  refine wpAny_If (wpAny_isTrue_Compare1 (nameX_L F hv ?_ hk hx hd))
  refine Calls.Constant_str (eq_str (wpAny_truthy_bool ?_))
  cases hc : v == b
  · rw [hc] at h
    exact h
  · rw [hc] at h
    exact h
theorem cif_f (F : Fr h₀ L hp m) (hv : m x = some (.str v t)) (hx : (envX cn cs L a ccd cl).kindOf x = some .local) (hc : (v == b) = false) (hk : cs.kind = .function) (hd : (x == ("__debug__" : Str)) = false)
    (h : wpAny (model prog w) A (execs rest (envX cn cs L a ccd cl)) Q E ⟨hp, gn, dr, tk + 1, oz⟩) :
    wpAny (model prog w) A (execs (.If (.Compare (.Name x p1) [.Eq] [.Constant (.str b) k p2] p3) body [] p4 :: rest) (envX cn cs L a ccd cl)) Q E ⟨hp, gn, dr, tk, oz⟩ := by
  refine wpAny_execs_cons (cif F hv hx hk hd ?_)
  rw [hc]
  exact wpAny_execs_nil h
theorem last_stmt {st : Stmt} {env : Env} {M : Model} (h : wpAny M A (exec st env) Q E s) : wpAny M A (execs [st] env) Q E s :=
  wpAny_execs_cons (wpAny_mono h (fun f s' hq => by cases f <;> first | exact wpAny_execs_nil hq | exact hq) fun _ _ e => e)
theorem cif_g (F : Fr h₀ L hp m) (hv : m x = some (.str v t)) (hx : (envX cn cs L a ccd cl).kindOf x = some .local) (hc : (v == b) = false) (hk : cs.kind = .function) (hd : (x == ("__debug__" : Str)) = false)
    (h : wpAny (model prog w) A (execs orelse (envX cn cs L a ccd cl)) Q E ⟨hp, gn, dr, tk + 1, oz⟩) :
    wpAny (model prog w) A (execs [.If (.Compare (.Name x p1) [.Eq] [.Constant (.str b) k p2] p3) body orelse p4] (envX cn cs L a ccd cl)) Q E ⟨hp, gn, dr, tk, oz⟩ := by
  refine last_stmt (cif F hv hx hk hd ?_)
  rw [hc]
  exact h
theorem cif_t (F : Fr h₀ L hp m) (hv : m x = some (.str v t)) (hx : (envX cn cs L a ccd cl).kindOf x = some .local) (hc : (v == b) = true) (hk : cs.kind = .function) (hd : (x == ("__debug__" : Str)) = false)
    (h : wpAny (model prog w) A (execs body (envX cn cs L a ccd cl)) Q E ⟨hp, gn, dr, tk + 1, oz⟩) :
    wpAny (model prog w) A (execs [.If (.Compare (.Name x p1) [.Eq] [.Constant (.str b) k p2] p3) body orelse p4] (envX cn cs L a ccd cl)) Q E ⟨hp, gn, dr, tk, oz⟩ := by
  refine last_stmt (cif F hv hx hk hd ?_)
  rw [hc]
  exact h
theorem kstr {M : Model} {env : Env} {Q : Value → Shared → Prop} (h : Q (.str x tk) ⟨hp, gn, dr, tk + 1, oz⟩) : wpAny M A (eval (.Constant (.str x) k p1) env) Q E ⟨hp, gn, dr, tk, oz⟩ := Calls.Constant_str h
theorem kint {M : Model} {env : Env} {i : Int} {Q : Value → Shared → Prop} (h : Q (.int i tk) ⟨hp, gn, dr, tk + 1, oz⟩) : wpAny M A (eval (.Constant (.int i) k p1) env) Q E ⟨hp, gn, dr, tk, oz⟩ := wpAny_Constant_int h
theorem cret {e : PySem.Expr} {env : Env} {M : Model} (h : wpAny M A (eval e env) (fun v => Q (.ret v)) E s) : wpAny M A (execs (.Return (some e) p1 :: rest) env) Q E s := wpAny_execs_cons (wpAny_Return_some h)
theorem cif_r (F : Fr h₀ L hp m) (hv : m x = some (.str v t)) (hx : (envX cn cs L a ccd cl).kindOf x = some .local) (hc : (v == b) = true) (hk : cs.kind = .function) (hd : (x == ("__debug__" : Str)) = false)
    (h : wpAny (model prog w) A (execs body (envX cn cs L a ccd cl)) (fun f s' => match f with | .next => wpAny (model prog w) A (execs rest (envX cn cs L a ccd cl)) Q E s' | f => Q f s') E ⟨hp, gn, dr, tk + 1, oz⟩) :
    wpAny (model prog w) A (execs (.If (.Compare (.Name x p1) [.Eq] [.Constant (.str b) k p2] p3) body orelse p4 :: rest) (envX cn cs L a ccd cl)) Q E ⟨hp, gn, dr, tk, oz⟩ := by
  refine wpAny_execs_cons (cif F hv hx hk hd ?_)
  rw [hc]
  exact h
end
section
variable {zA zB zC zD zF zG zH zI zJ zK zL zM zN zO zS zP zQ : Prop}
theorem c1 (zh : zP ∧ zQ) : zP := zh.1
theorem c2 (zh : zA ∧ zP ∧ zQ) : zP := zh.2.1
theorem c3 (zh : zA ∧ zB ∧ zP ∧ zQ) : zP := zh.2.2.1
theorem c4 (zh : zA ∧ zB ∧ zC ∧ zP ∧ zQ) : zP := zh.2.2.2.1
theorem c5 (zh : zA ∧ zB ∧ zC ∧ zD ∧ zP ∧ zQ) : zP := zh.2.2.2.2.1
theorem c6 (zh : zA ∧ zB ∧ zC ∧ zD ∧ zF ∧ zP ∧ zQ) : zP := zh.2.2.2.2.2.1
theorem c7 (zh : zA ∧ zB ∧ zC ∧ zD ∧ zF ∧ zG ∧ zP ∧ zQ) : zP := zh.2.2.2.2.2.2.1
theorem c8 (zh : zA ∧ zB ∧ zC ∧ zD ∧ zF ∧ zG ∧ zH ∧ zP ∧ zQ) : zP := zh.2.2.2.2.2.2.2.1
theorem c9 (zh : zA ∧ zB ∧ zC ∧ zD ∧ zF ∧ zG ∧ zH ∧ zI ∧ zP ∧ zQ) : zP := zh.2.2.2.2.2.2.2.2.1
theorem c10 (zh : zA ∧ zB ∧ zC ∧ zD ∧ zF ∧ zG ∧ zH ∧ zI ∧ zJ ∧ zP ∧ zQ) : zP := zh.2.2.2.2.2.2.2.2.2.1
theorem c11 (zh : zA ∧ zB ∧ zC ∧ zD ∧ zF ∧ zG ∧ zH ∧ zI ∧ zJ ∧ zK ∧ zP ∧ zQ) : zP := zh.2.2.2.2.2.2.2.2.2.2.1
theorem c12 (zh : zA ∧ zB ∧ zC ∧ zD ∧ zF ∧ zG ∧ zH ∧ zI ∧ zJ ∧ zK ∧ zL ∧ zP ∧ zQ) : zP := zh.2.2.2.2.2.2.2.2.2.2.2.1
theorem c13 (zh : zA ∧ zB ∧ zC ∧ zD ∧ zF ∧ zG ∧ zH ∧ zI ∧ zJ ∧ zK ∧ zL ∧ zM ∧ zP ∧ zQ) : zP := zh.2.2.2.2.2.2.2.2.2.2.2.2.1
theorem c14 (zh : zA ∧ zB ∧ zC ∧ zD ∧ zF ∧ zG ∧ zH ∧ zI ∧ zJ ∧ zK ∧ zL ∧ zM ∧ zN ∧ zP ∧ zQ) : zP := zh.2.2.2.2.2.2.2.2.2.2.2.2.2.1
theorem c15 (zh : zA ∧ zB ∧ zC ∧ zD ∧ zF ∧ zG ∧ zH ∧ zI ∧ zJ ∧ zK ∧ zL ∧ zM ∧ zN ∧ zO ∧ zP ∧ zQ) : zP := zh.2.2.2.2.2.2.2.2.2.2.2.2.2.2.1
theorem c16 (zh : zA ∧ zB ∧ zC ∧ zD ∧ zF ∧ zG ∧ zH ∧ zI ∧ zJ ∧ zK ∧ zL ∧ zM ∧ zN ∧ zO ∧ zS ∧ zP ∧ zQ) : zP := zh.2.2.2.2.2.2.2.2.2.2.2.2.2.2.2.1
theorem l2 (zh : zA ∧ zP) : zP := zh.2
end
theorem zgt {za zb : Nat} (zh : zb < za) : za ≠ zb := Nat.ne_of_gt zh
theorem zlt {za zb : Nat} (zh : za < zb) : za ≠ zb := Nat.ne_of_lt zh
theorem zsy {za zb : Nat} (zh : zb ≠ za) : za ≠ zb := Ne.symm zh
theorem z63 {v : Int} {n : Nat} (h : v < n) (h' : n ≤ 64) : v < 2 ^ 63 := Int.lt_trans (Int.lt_of_lt_of_le h (Int.ofNat_le.mpr h')) (by decide)
theorem z63b {v : Int} {n : Nat} (h : v < n) (h' : n ≤ 29) : v < 2 ^ 63 := z63 h (Nat.le_trans h' (by decide))
theorem nlt {i n : Nat} (h : i < n) : (i : Int) < n := Int.ofNat_lt.mpr h
theorem n63 {i n : Nat} (h : i < n) (h' : n ≤ 64) : (i : Int) < 2 ^ 63 := z63 (nlt h) h'
theorem n63b {i n : Nat} (h : i < n) (h' : n ≤ 29) : (i : Int) < 2 ^ 63 := z63b (nlt h) h'
theorem n62 {n : Nat} (h' : n ≤ 64) : n < 2 ^ 62 := Nat.lt_of_le_of_lt h' (by decide)
theorem n62b {n : Nat} (h' : n ≤ 29) : n < 2 ^ 62 := Nat.lt_of_le_of_lt h' (by decide)
theorem nn0 {i : Nat} : (0 : Int) ≤ i := Int.natCast_nonneg i
theorem ul {u k j m c : Nat} (h : u + k < c) (e : j + m ≤ k) : u + j + m < c := Nat.lt_of_le_of_lt (Nat.add_assoc u j m ▸ Nat.add_le_add_left e u) h
theorem gtt {za zb zc : Nat} (zh : zb < zc) (zi : za < zb) : zc ≠ za := Nat.ne_of_gt (Nat.lt_trans zi zh)
theorem ltt {za zb zc : Nat} (zh : zb < zc) (zi : za < zb) : za ≠ zc := Nat.ne_of_lt (Nat.lt_trans zi zh)
theorem tnl {a : Int} {n : Nat} (h0 : 0 ≤ a) (h : a < n) : a.toNat < n := (Int.toNat_lt h0).mpr h
theorem up0 {a b : Int} (h0 : 0 ≤ a) (h : a + 1 ≤ b) : 0 ≤ b := Int.le_trans h0 (Int.le_trans (Int.le_add_of_nonneg_right (by decide)) h)
theorem sub1 {i n : Nat} (h : i < n) : n - (i + 1) < n - i := Nat.sub_lt_sub_left h (Nat.lt_succ_self i)
theorem sub2 {i j n : Nat} (h : i < n) (h' : i < j) : n - j < n - i := Nat.sub_lt_sub_left h h'
theorem tn1 {v : Int} (h : 0 ≤ v) : (v + 1).toNat = v.toNat + 1 := Int.toNat_add h (by decide)
theorem tn2 {v a : Int} (h : 0 ≤ a) (h' : a + 1 ≤ v) : (v + 1).toNat = v.toNat + 1 := tn1 (up0 h h')
theorem dec1 {n : Nat} {v a : Int} (h : 0 ≤ a) (h' : a + 1 ≤ v) (h2 : v.toNat < n) : n - (v + 1).toNat < n - v.toNat := by rw [tn2 h h']; exact sub1 h2
theorem z0i {i : Nat} : ((0 : Int) + i).toNat = i := by rw [Int.zero_add]; rfl
theorem z63c {i n : Nat} (h : i < n) (h' : n ≤ 64) : (0 : Int) + i < 2 ^ 63 := by rw [Int.zero_add]; exact n63 h h'
theorem z63d {i n : Nat} (h : i < n) (h' : n ≤ 29) : (0 : Int) + i < 2 ^ 63 := by rw [Int.zero_add]; exact n63b h h'
theorem nn0' {i : Nat} : (0 : Int) ≤ 0 + i := by rw [Int.zero_add]; exact nn0
end
section
set_option maxHeartbeats 400000
inductive ToldIn (I : List (Addr × Obj)) (v : Value) (r : TR) : Prop
  | mk (a p : Addr) (t : Tok) (k j : Nat) (ps : List Value)
    (f1 : v = .ref a) (f2 : (a, tupO [.str (nameOf r) t, .ref p] k) ∈ I) (f3 : (p, tupO ps j) ∈ I) (f4 : DatAll I ps (partsOf r)) : ToldIn I v r
section
variable {prog : Program} {w : World} {A : Around} {E : Value → Shared → Prop} {Q : Flow → Shared → Prop} {s : Shared} {env : Env} {h₀ : Heap} {target : PySem.Expr} {body : List Stmt}
noncomputable def FPPost (h₀ : Heap) (L : Addr) (its news : List (Addr × Obj)) (st : List Str) (m₀ : Str → Option Value) (P : Prop) (s : Shared) (Q : Flow → Shared → Prop) (f : Flow) (s₃ : Shared) : Prop :=
  match f with
  | .next | .cont => ∃ h' tk m' news', s₃ = { s with heap := h', toks := tk } ∧ Fr h₀ L h' m' ∧ (∀ z, st.contains z = false → m' z = m₀ z) ∧ News h₀ L h' news' ∧ (∀ p ∈ its ++ news, p ∈ news') ∧ P
  | .brk => Q .next s₃
  | .ret v => Q (.ret v) s₃
end
end
section
set_option maxHeartbeats 400000
structure Grow (a b : List (Addr × Obj)) : Prop where
  sub : ∀ p ∈ a, p ∈ b
  new : ∀ p ∈ b, p ∈ a ∨ ∀ q ∈ a, q.1 < p.1
section
variable {prog : Program} {w : World} {A : Around} {E : Value → Shared → Prop} {Q : Flow → Shared → Prop} {s : Shared} {env : Env} {h₀ : Heap} {body : List Stmt}
noncomputable def FIPost (h₀ : Heap) (L : Addr) (its : List (Addr × Obj)) (J : (Str → Option Value) → List (Addr × Obj) → Prop) (s : Shared) (Q : Flow → Shared → Prop) (f : Flow) (s₃ : Shared) : Prop :=
  match f with
  | .next | .cont => ∃ h' tk m' news', s₃ = { s with heap := h', toks := tk } ∧ Fr h₀ L h' m' ∧ News h₀ L h' (its ++ news') ∧ (∀ p ∈ news', ∀ q ∈ its, p.1 ≠ q.1) ∧ J m' news'
  | .brk => Q .next s₃
  | .ret v => Q (.ret v) s₃
end
inductive CEnd (h₀ : Heap) (L : Addr) (m : Str → Option Value) (s₁ : Shared) (I : Addr) (oI : Obj) (C : Addr) (oC : Obj) (D : Addr) (oD : Obj) (J : Value → List (Addr × Obj) → Prop) (y : Value) (s₂ : Shared) : Prop
  | mk (h' : Heap) (tk : Nat) (news' : List (Addr × Obj))
    (f1 : s₂ = { s₁ with heap := h', toks := tk }) (f2 : Fr h₀ L h' m) (f3 : News h₀ L h' ((I, oI) :: (C, oC) :: (D, oD) :: news')) (f4 : (∀ p ∈ news', p.1 ≠ I ∧ p.1 ≠ C ∧ p.1 ≠ D)) (f5 : J y news') : CEnd h₀ L m s₁ I oI C oC D oD J y s₂
inductive CNo (h₀ : Heap) (L : Addr) (m : Str → Option Value) (s₁ : Shared) (I : Addr) (oI : Obj) (C : Addr) (oC : Obj) (D : Addr) (oD : Obj) (J : List (Addr × Obj) → Prop) (s₂ : Shared) : Prop
  | mk (h' : Heap) (tk : Nat) (news' : List (Addr × Obj))
    (f1 : s₂ = { s₁ with heap := h', toks := tk }) (f2 : Fr h₀ L h' m) (f3 : News h₀ L h' ((I, oI) :: (C, oC) :: (D, oD) :: news')) (f4 : (∀ p ∈ news', p.1 ≠ I ∧ p.1 ≠ C ∧ p.1 ≠ D)) (f5 : J news') : CNo h₀ L m s₁ I oI C oC D oD J s₂
section
variable {prog : Program} {w : World} {A : Around} {E : Value → Shared → Prop} {Q : Flow → Shared → Prop} {s : Shared} {env : Env} {h₀ : Heap} {body : List Stmt}
noncomputable abbrev JS (st : List Str) (m₀ : Str → Option Value) (I : List (Addr × Obj) → Prop) : (Str → Option Value) → List (Addr × Obj) → Prop := fun m' nw => (∀ z, st.contains z = false → m' z = m₀ z) ∧ I nw
end
end
section
set_option maxHeartbeats 400000
open PySem.Spec PySem.Calls PyProof.V
inductive MK where
  | s (x : Str)
  | i (n : Int)
  deriving DecidableEq
noncomputable def MK.is : MK → Value → Bool
  | .s x, v => Value.isStrOf x v
  | .i n, v => Value.isInt n v
theorem MK.shape {k : MK} {v : Value} (h : MK.is k v = true) : match k with | .s x => ∃ t, v = .str x t | .i n => ∃ t, v = .int n t := by
  cases k with
  | s x => exact Value.isStrOf_shape h
  | i n => exact Value.isInt_shape h
noncomputable def mixKind (prog : Program) (w : World) : KeyKind prog w MK where
  is := MK.is
  hash := fun k => match k with | .s x => hashStr w x | .i n => hashInt n
  inj := fun v a b ha hb => by
    cases a with
    | s x => cases b with
      | s y => exact congrArg MK.s (Value.isStrOf_inj v x y ha hb)
      | i n => obtain ⟨t, rfl⟩ := MK.shape ha; obtain ⟨u, h⟩ := MK.shape hb; cases h
    | i n => cases b with
      | s y => obtain ⟨t, rfl⟩ := MK.shape ha; obtain ⟨u, h⟩ := MK.shape hb; cases h
      | i k => exact congrArg MK.i (Value.isInt_inj v n k ha hb)
  byValue := fun k v h => by cases k <;> obtain ⟨t, rfl⟩ := MK.shape h <;> rfl
  pyHash := fun {_ _ _ k _ _} hv h => by
    cases k with
    | s x => obtain ⟨t, rfl⟩ := MK.shape hv; exact wpAny_pyHash_str h
    | i n => obtain ⟨t, rfl⟩ := MK.shape hv; exact wpAny_pyHash_int h
  eqBool := fun {_ _ _ a b _ _ _} hu hv h => by
    cases a with
    | s x => cases b with
      | s y => obtain ⟨t, rfl⟩ := MK.shape hu; obtain ⟨u, rfl⟩ := MK.shape hv; exact wpAny_eqBool_str (by simpa using h)
      | i n => obtain ⟨t, rfl⟩ := MK.shape hu; obtain ⟨u, rfl⟩ := MK.shape hv; exact SeqAt.EqAt.str_int x t n u _ _ _ _ (by simpa using h)
    | i n => cases b with
      | s y => obtain ⟨t, rfl⟩ := MK.shape hu; obtain ⟨u, rfl⟩ := MK.shape hv; exact SeqAt.EqAt.int_str n t y u _ _ _ _ (by simpa using h)
      | i k =>
        obtain ⟨t, rfl⟩ := MK.shape hu; obtain ⟨u, rfl⟩ := MK.shape hv
        refine wpAny_eqBool_int ?_
        have e : (n == k) = decide (MK.i n = MK.i k) := by
          by_cases hnk : n = k
          · subst hnk; simp
          · simp [hnk]
        rw [e]; exact h
  «strs» := fun k x t v h => by
    cases k with
    | s y =>
      obtain ⟨u, hu⟩ := MK.shape h
      injection hu with hx
      subst hx
      cases v <;> rfl
    | i n => obtain ⟨u, hu⟩ := MK.shape h; cases hu
noncomputable def marksL : Nat → List TR → List ((Bool × Int) × Nat)
  | _, [] => []
  | k, .mark o n :: r => ((o, n), k) :: marksL (k + 1) r
  | k, _ :: r => marksL (k + 1) r
noncomputable def lk (ms : List ((Bool × Int) × Nat)) (k : Bool × Int) : Option Nat := (ms.find? fun x => decide (x.1 = k)).map (·.2)
noncomputable def mkey (k : Bool × Int) : List MK := [.s (kdS k.1), .i k.2]
inductive XsMs : List (List MK × Addr × Value) → List ((Bool × Int) × Nat) → Prop
  | nil : XsMs [] []
  | cons {k : Bool × Int} {i : Nat} {a : Addr} {t : Tok} {xs ms} : XsMs xs ms → XsMs ((mkey k, a, .int (i : Int) t) :: xs) ((k, i) :: ms)
noncomputable def MarksAt (prog : Program) (w : World) (nw : List (Addr × Obj)) (o : Obj) (ms : List ((Bool × Int) × Nat)) : Prop :=
  ∃ es ep xs, o.ExactDict ∧ o.data = .dict es ep ∧ es.toList = xs.map (entryOfKey (tupleKind (mixKind prog w))) ∧ (xs.map (·.1)).Nodup ∧ (∀ x ∈ xs, ∃ ok, (x.2.1, ok) ∈ nw ∧ TupKeyObj (mixKind prog w) x.1 ok) ∧ XsMs xs ms
noncomputable def DS (prog : Program) (w : World) (o : Obj) (D : List (PyData × PyData)) : Prop := ∃ kvs, o.IsDictOf (PySem.strKind prog w) kvs ∧ FlatPairs PyData.str kvs D
end
section
noncomputable def isMk : TR → Bool
  | .mark _ _ => true
  | _ => false
section
noncomputable def EK.E_ismark_c.P {w : World} {mean : ExcName → Option Value} {mg mb : Str → Option Value} {dp un : Nat} {gd : Option (List Code)} {cn : Str} {cs : Scope} {a : Addr} {ccd : Value} {cl : List (Str × Addr)} {outer : List Env} {A₀ : Around} {base h₀ : Heap} {L : Addr} {m : Str → Option Value} {s : Shared} {Q E : Value → Shared → Prop} : Prop := ∀ (news : List (Addr × Obj)) (v : Value) (r : TR)
    (B : Below A₀ base outer h₀) (F : Fr h₀ L s.heap m) (X : (hd.heap_1 w.params).In h₀) (T : Top viewP LZ mean mg mb h₀) (hk : cs.kind = .function)
    (N : News h₀ L s.heap news) (hR : RowIn news v r)
    (hd : dp + 2 < recursionLimit) (hu : un + 50 < cLine)
    (hret : ∀ (h' : Heap) (tks : Nat), Fr h₀ L h' m → News h₀ L h' news → Q (.bool (isMk r)) { s with heap := h', toks := tks }), wpAny (model PySem.Challenge.rw_pf0284_01.row.prog w) (ktrTop dp un gd cn cs L a ccd cl outer) (call (.ref 153) [v]) Q E s
noncomputable def EK.E_ismark_c.Pc (c : Cb) : Prop := @EK.E_ismark_c.P c.w c.mean c.mg c.mb c.dp c.un c.gd c.cn c.cs c.a c.ccd c.cl c.outer c.A₀ c.base c.h₀ c.L c.m c.s c.Q c.E
end
end
section
section
noncomputable def isJm : TR → Bool
  | .jmp _ _ => true
  | _ => false
noncomputable def EK.E_idle_c.P {w : World} {mean : ExcName → Option Value} {mg mb : Str → Option Value} {dp un : Nat} {gd : Option (List Code)} {cn : Str} {cs : Scope} {a : Addr} {ccd : Value} {cl : List (Str × Addr)} {outer : List Env} {A₀ : Around} {base h₀ : Heap} {L : Addr} {m : Str → Option Value} {s : Shared} {Q E : Value → Shared → Prop} : Prop := ∀ (news : List (Addr × Obj)) (l : Addr) (vs : List Value) (n : Nat) (rs : List TR) (at' : Int) (t : Tok)
    (B : Below A₀ base outer h₀) (F : Fr h₀ L s.heap m) (X : (hd.heap_1 w.params).In h₀) (T : Top viewP LZ mean mg mb h₀) (hk : cs.kind = .function)
    (N : News h₀ L s.heap news) (hl : (l, listOf vs.toArray n) ∈ news) (hR : RowsIn news vs rs) (h0 : 0 ≤ at') (h1 : at' < rs.length) (hz : rs.length ≤ 64)
    (hd : dp + 5 < recursionLimit) (hu : un + 100 < cLine)
    (hret : ∀ (h' : Heap) (tks : Nat), Fr h₀ L h' m → News h₀ L h' news → Q (.bool (idleAt rs at'.toNat)) { s with heap := h', toks := tks }), wpAny (model PySem.Challenge.rw_pf0284_01.row.prog w) (ktrTop dp un gd cn cs L a ccd cl outer) (call (.ref 181) [.ref l, .int at' t]) Q E s
noncomputable def EK.E_idle_c.Pc (c : Cb) : Prop := @EK.E_idle_c.P c.w c.mean c.mg c.mb c.dp c.un c.gd c.cn c.cs c.a c.ccd c.cl c.outer c.A₀ c.base c.h₀ c.L c.m c.s c.Q c.E
end
end
section
section
noncomputable def EK.E_lidle_c.P {w : World} {mean : ExcName → Option Value} {mg mb : Str → Option Value} {dp un : Nat} {gd : Option (List Code)} {cn : Str} {cs : Scope} {a : Addr} {ccd : Value} {cl : List (Str × Addr)} {outer : List Env} {A₀ : Around} {base h₀ : Heap} {L : Addr} {m : Str → Option Value} {s : Shared} {Q E : Value → Shared → Prop} : Prop := ∀ (news : List (Addr × Obj)) (l : Addr) (vs : List Value) (n : Nat) (rs : List TR) (at' : Int) (t : Tok)
    (B : Below A₀ base outer h₀) (F : Fr h₀ L s.heap m) (X : (hd.heap_1 w.params).In h₀) (T : Top viewP LZ mean mg mb h₀) (hk : cs.kind = .function)
    (N : News h₀ L s.heap news) (hl : (l, listOf vs.toArray n) ∈ news) (hR : DatAll news vs (rs.map datOf)) (h0 : 0 ≤ at') (h1 : at' < rs.length) (hz : rs.length ≤ 64)
    (hd : dp + 5 < recursionLimit) (hu : un + 100 < cLine)
    (hret : ∀ (h' : Heap) (tks : Nat), Fr h₀ L h' m → News h₀ L h' news → Q (.bool (idleAt rs at'.toNat)) { s with heap := h', toks := tks }), wpAny (model PySem.Challenge.rw_pf0284_01.row.prog w) (ktrTop dp un gd cn cs L a ccd cl outer) (call (.ref 485) [.ref l, .int at' t]) Q E s
noncomputable def EK.E_lidle_c.Pc (c : Cb) : Prop := @EK.E_lidle_c.P c.w c.mean c.mg c.mb c.dp c.un c.gd c.cn c.cs c.a c.ccd c.cl c.outer c.A₀ c.base c.h₀ c.L c.m c.s c.Q c.E
end
end
section
inductive PenLed (pen p0 : Addr) (own news : List (Addr × Obj)) : Prop
  | mk (k c : Int) (tk tc : Tok) (n0 n1 : Nat) (vs : List Value) (ns : List Int)
    (f1 : IntsAre vs ns) (f2 : ns.length ≤ 64) (f3 : ∀ p, p ∈ news ↔ (p = (pen, listOf #[.ref p0, .int k tk, .int c tc] n0) ∨ p = (p0, listOf vs.toArray n1) ∨ p ∈ own)) : PenLed pen p0 own news
section
noncomputable def EK.E_draw_c.P {w : World} {mean : ExcName → Option Value} {mg mb : Str → Option Value} {dp un : Nat} {gd : Option (List Code)} {cn : Str} {cs : Scope} {a : Addr} {ccd : Value} {cl : List (Str × Addr)} {outer : List Env} {A₀ : Around} {base h₀ : Heap} {L : Addr} {m : Str → Option Value} {s : Shared} {Q E : Value → Shared → Prop} : Prop := ∀ (own news : List (Addr × Obj)) (pen p0 : Addr) (many : Int) (t : Tok)
    (B : Below A₀ base outer h₀) (F : Fr h₀ L s.heap m) (X : (hd.heap_1 w.params).In h₀) (T : Top viewP LZ mean mg mb h₀) (hk : cs.kind = .function)
    (N : News h₀ L s.heap news) (hp : PenLed pen p0 own news) (hoff : OwnOff own [pen, p0]) (hne : @Ne Nat pen p0) (hm : 0 < many) (hm2 : many ≤ 64)
    (hd : dp + 5 < recursionLimit) (hu : un + 100 < cLine)
    (hret : ∀ (r : Int) (t' : Tok) (news' : List (Addr × Obj)) (h' : Heap) (tks : Nat), 0 ≤ r → r < many → PenLed pen p0 own news' → Fr h₀ L h' m → News h₀ L h' news' → Q (.int r t') { s with heap := h', toks := tks }), wpAny (model PySem.Challenge.rw_pf0284_01.row.prog w) (ktrTop dp un gd cn cs L a ccd cl outer) (call (.ref 466) [.ref pen, .int many t]) Q E s
noncomputable def EK.E_draw_c.Pc (c : Cb) : Prop := @EK.E_draw_c.P c.w c.mean c.mg c.mb c.dp c.un c.gd c.cn c.cs c.a c.ccd c.cl c.outer c.A₀ c.base c.h₀ c.L c.m c.s c.Q c.E
end
section
noncomputable def EK.E_pick_c.P {w : World} {mean : ExcName → Option Value} {mg mb : Str → Option Value} {dp un : Nat} {gd : Option (List Code)} {cn : Str} {cs : Scope} {a : Addr} {ccd : Value} {cl : List (Str × Addr)} {outer : List Env} {A₀ : Around} {base h₀ : Heap} {L : Addr} {m : Str → Option Value} {s : Shared} {Q E : Value → Shared → Prop} : Prop := ∀ (own news : List (Addr × Obj)) (pen p0 sm : Addr) (xs : List Value) (kk : Nat)
    (B : Below A₀ base outer h₀) (F : Fr h₀ L s.heap m) (X : (hd.heap_1 w.params).In h₀) (T : Top viewP LZ mean mg mb h₀) (hk : cs.kind = .function)
    (N : News h₀ L s.heap news) (hp : PenLed pen p0 own news) (hoff : OwnOff own [pen, p0]) (hne : @Ne Nat pen p0) (hsm : (sm, listOf xs.toArray kk) ∈ own) (hm : 0 < xs.length) (hm2 : xs.length ≤ 64)
    (hd : dp + 8 < recursionLimit) (hu : un + 120 < cLine)
    (hret : ∀ (i : Nat) (v : Value) (news' : List (Addr × Obj)) (h' : Heap) (tks : Nat), xs[i]? = some v → PenLed pen p0 own news' → Fr h₀ L h' m → News h₀ L h' news' → Q v { s with heap := h', toks := tks }), wpAny (model PySem.Challenge.rw_pf0284_01.row.prog w) (ktrTop dp un gd cn cs L a ccd cl outer) (call (.ref 473) [.ref pen, .ref sm]) Q E s
noncomputable def EK.E_pick_c.Pc (c : Cb) : Prop := @EK.E_pick_c.P c.w c.mean c.mg c.mb c.dp c.un c.gd c.cn c.cs c.a c.ccd c.cl c.outer c.A₀ c.base c.h₀ c.L c.m c.s c.Q c.E
end
end
section
open PyProof.V
noncomputable def strN : Nat → List TR → List TR
  | 0, _ => []
  | _ + 1, [] => []
  | i + 1, r :: rest => if idleHead (r :: rest) = true then strN i rest else r :: strN i rest
section
noncomputable def EK.E_without_c.P {w : World} {mean : ExcName → Option Value} {mg mb : Str → Option Value} {dp un : Nat} {gd : Option (List Code)} {cn : Str} {cs : Scope} {a : Addr} {ccd : Value} {cl : List (Str × Addr)} {outer : List Env} {A₀ : Around} {base h₀ : Heap} {L : Addr} {m : Str → Option Value} {s : Shared} {Q E : Value → Shared → Prop} : Prop := ∀ (news : List (Addr × Obj)) (l : Addr) (vs : List Value) (n : Nat) (rs : List TR)
    (B : Below A₀ base outer h₀) (F : Fr h₀ L s.heap m) (X : (hd.heap_1 w.params).In h₀) (T : Top viewP LZ mean mg mb h₀) (hk : cs.kind = .function)
    (N : News h₀ L s.heap news) (hl : (l, listOf vs.toArray n) ∈ news) (hR : RowsIn news vs rs) (hz : rs.length ≤ 64)
    (hd : dp + 10 < recursionLimit) (hu : un + 200 < cLine)
    (hret : ∀ (d : Addr) (ws : List Value) (h' : Heap) (tks : Nat), Fr h₀ L h' m → News h₀ L h' ((d, LCg.lst ws) :: news) → RowsIn news ws (stripI rs) → Q (.ref d) { s with heap := h', toks := tks }), wpAny (model PySem.Challenge.rw_pf0284_01.row.prog w) (ktrTop dp un gd cn cs L a ccd cl outer) (call (.ref 186) [.ref l]) Q E s
noncomputable def EK.E_without_c.Pc (c : Cb) : Prop := @EK.E_without_c.P c.w c.mean c.mg c.mb c.dp c.un c.gd c.cn c.cs c.a c.ccd c.cl c.outer c.A₀ c.base c.h₀ c.L c.m c.s c.Q c.E
end
end
section
open PyProof.V
inductive StrsAre : List Value → List Str → Prop
  | nil : StrsAre [] []
  | cons {x : Str} {t : Tok} {vs xs} : StrsAre vs xs → StrsAre (.str x t :: vs) (x :: xs)
noncomputable abbrev sS (x : String) : PyData := .str (Str.ofString x)
noncomputable def SH0 : List (PyData × PyData) := [(sS "movabs", sS "ru"), (sS "movzx", sS "hrr"), (sS "movsx", sS "zxrr"), (sS "neg", sS "zr"), (sS "bswap", sS "zr"), (sS "ror16", sS "r"), (sS "cqo", sS "z")]
noncomputable def NM1 : List Str := [Str.ofString "mov", Str.ofString "imul", Str.ofString "add", Str.ofString "sub", Str.ofString "and", Str.ofString "or", Str.ofString "xor", Str.ofString "cmp", Str.ofString "test"]
noncomputable def g1 (D : List (PyData × PyData)) (x : Str) : List (PyData × PyData) := putD (.str (x ++ Str.ofString "_imm")) (sS "zri") (putD (.str x) (sS "zrr") D)
noncomputable def SH1 : List (PyData × PyData) := NM1.foldl g1 SH0
noncomputable def NM2 : List Str := [Str.ofString "shl", Str.ofString "shr", Str.ofString "sar"]
noncomputable def g2 (D : List (PyData × PyData)) (x : Str) : List (PyData × PyData) := putD (.str (x ++ Str.ofString "_imm")) (sS "zrn") (putD (.str x) (sS "zr") D)
noncomputable def SH2 : List (PyData × PyData) := NM2.foldl g2 SH1
noncomputable def NM3 : List Str := [Str.ofString "div", Str.ofString "idiv"]
noncomputable def g3 (D : List (PyData × PyData)) (x : Str) : List (PyData × PyData) := putD (.str x) (sS "zr") D
noncomputable def SH3 : List (PyData × PyData) := NM3.foldl g3 SH2
noncomputable def SH3b : List (PyData × PyData) := putD (sS "store_imm") (sS "wrii") (putD (sS "store") (sS "wrir") (putD (sS "load_sx") (sS "xrri") (putD (sS "load") (sS "wrri") (SH3))))
noncomputable def NM4 : List Str := [Str.ofString "lock_add", Str.ofString "lock_and", Str.ofString "lock_or", Str.ofString "lock_xor", Str.ofString "xadd", Str.ofString "xchg_mem", Str.ofString "cmpxchg"]
noncomputable def g4 (D : List (PyData × PyData)) (x : Str) : List (PyData × PyData) := putD (.str x) (sS "zrir") D
noncomputable def SH4 : List (PyData × PyData) := NM4.foldl g4 SH3b
noncomputable def NM5 : List Str := [Str.ofString "push", Str.ofString "pop"]
noncomputable def g5 (D : List (PyData × PyData)) (x : Str) : List (PyData × PyData) := putD (.str x) (sS "r") D
noncomputable def SH5 : List (PyData × PyData) := NM5.foldl g5 SH4
noncomputable def NM6 : List Str := [Str.ofString "order", Str.ofString "label", Str.ofString "entry", Str.ofString "call", Str.ofString "call_host"]
noncomputable def g6 (D : List (PyData × PyData)) (x : Str) : List (PyData × PyData) := putD (.str x) (sS "l") D
noncomputable def SH6 : List (PyData × PyData) := NM6.foldl g6 SH5
noncomputable def SH6b : List (PyData × PyData) := putD (sS "ret") (sS "") (putD (sS "jcc") (sS "ckl") (putD (sS "jmp") (sS "kl") (SH6)))
section
noncomputable def EK.E_shapes_c.P {w : World} {mean : ExcName → Option Value} {mg mb : Str → Option Value} {dp un : Nat} {gd : Option (List Code)} {cn : Str} {cs : Scope} {a : Addr} {ccd : Value} {cl : List (Str × Addr)} {outer : List Env} {A₀ : Around} {base h₀ : Heap} {L : Addr} {m : Str → Option Value} {s : Shared} {Q E : Value → Shared → Prop} : Prop := ∀ (news : List (Addr × Obj))
    (B : Below A₀ base outer h₀) (F : Fr h₀ L s.heap m) (X : (hd.heap_1 w.params).In h₀) (T : Top viewP LZ mean mg mb h₀) (hk : cs.kind = .function)
    (N : News h₀ L s.heap news)
    (hd : dp + 5 < recursionLimit) (hu : un + 100 < cLine)
    (hret : ∀ (d : Addr) (o : Obj) (h' : Heap) (tks : Nat), Fr h₀ L h' m → News h₀ L h' ((d, o) :: news) → (∀ p ∈ news, p.1 < d) → (d == sysModules) = false → DS PySem.Challenge.rw_pf0284_01.row.prog w o SH6b → Q (.ref d) { s with heap := h', toks := tks }), wpAny (model PySem.Challenge.rw_pf0284_01.row.prog w) (ktrTop dp un gd cn cs L a ccd cl outer) (call (.ref 124) []) Q E s
noncomputable def EK.E_shapes_c.Pc (c : Cb) : Prop := @EK.E_shapes_c.P c.w c.mean c.mg c.mb c.dp c.un c.gd c.cn c.cs c.a c.ccd c.cl c.outer c.A₀ c.base c.h₀ c.L c.m c.s c.Q c.E
end
end
section
set_option maxHeartbeats 800000
open PyProof.V PySem.Spec PySem.Calls
structure ZApart (z TI TO i1 i2 : Addr) (fp1 fp2 : List Addr) : Prop where
  TIz : TI ≠ z
  TOz : TO ≠ z
  TITO : TI ≠ TO
  TIi1 : TI ≠ i1
  TIi2 : TI ≠ i2
  i1f : i1 ∈ fp1
  i2f : i2 ∈ fp2
  z1 : z ∉ fp1
  z2 : z ∉ fp2
  TO1 : TO ∉ fp1
  TO2 : TO ∉ fp2
  i21 : i2 ∉ fp1
  i12 : i1 ∉ fp2
noncomputable abbrev zsH1 (h : Heap) (x : Str) (t : Tok) : Heap := h.push { cls := .type (strIterType x), data := .fields #[.str x t, .int 0 0] }
noncomputable abbrev zsH2 (h : Heap) (x : Str) (t : Tok) (l : Addr) : Heap := (zsH1 h x t).push { cls := .type "tuple_iterator", data := .fields #[.ref l, .int 0 0] }
noncomputable abbrev zsH3 (h : Heap) (x : Str) (t : Tok) (l : Addr) : Heap := (zsH2 h x t l).push { cls := .type "tuple", data := .seq #[.ref h.objs.size, .ref (zsH1 h x t).objs.size] }
noncomputable abbrev zsH4 (h : Heap) (x : Str) (t : Tok) (l : Addr) : Heap := (zsH3 h x t l).push { cls := .type "tuple", data := .seq #[.none, .none] }
noncomputable abbrev zsH5 (h : Heap) (x : Str) (t : Tok) (l : Addr) : Heap := (zsH4 h x t l).push { cls := .type "zip", data := .fields #[.none, .bool false, .bool false, .ref (zsH2 h x t l).objs.size, .ref (zsH3 h x t l).objs.size] }
noncomputable def zipS : List Nat → List Value → List Itm
  | c :: r, y :: q => .pair (fun t => .str ⟨#[c]⟩ t) y :: zipS r q
  | _, _ => []
end
section
open PyProof.V
noncomputable def okTR : TR → Prop
  | .mark _ n => 0 ≤ n ∧ n < 64
  | .mov r k => (0 ≤ r ∧ r < 4) ∧ 0 ≤ k ∧ k < 64
  | .add a b => (0 ≤ a ∧ a < 4) ∧ 0 ≤ b ∧ b < 4
  | .cmp r k => (0 ≤ r ∧ r < 4) ∧ 0 ≤ k ∧ k < 64
  | .jcc _ _ g => 0 ≤ g ∧ g < 64
  | .jmp _ g => 0 ≤ g ∧ g < 64
  | .ret => True
section
inductive PF : String → Value → Prop
  | k (o : Bool) (t : Tok) : PF "k" (.str (kdS o) t)
  | c (c : Fin 3) (t : Tok) : PF "c" (.str (ccS c) t)
  | z (t : Tok) : PF "z" (.int 64 t)
  | r (n : Int) (t : Tok) : 0 ≤ n → n < 4 → PF "r" (.int n t)
  | i (n : Int) (t : Tok) : 0 ≤ n → n < 64 → PF "i" (.int n t)
  | l (n : Int) (t : Tok) : 0 ≤ n → n < 64 → PF "l" (.int n t)
noncomputable def EK.E_partfits_c.P {w : World} {mean : ExcName → Option Value} {mg mb : Str → Option Value} {dp un : Nat} {gd : Option (List Code)} {cn : Str} {cs : Scope} {a : Addr} {ccd : Value} {cl : List (Str × Addr)} {outer : List Env} {A₀ : Around} {base h₀ : Heap} {L : Addr} {m : Str → Option Value} {s : Shared} {Q E : Value → Shared → Prop} : Prop := ∀ (news : List (Addr × Obj)) (v : Value) (x : String) (p : Addr) (t : Tok)
    (B : Below A₀ base outer h₀) (F : Fr h₀ L s.heap m) (X : (hd.heap_1 w.params).In h₀) (T : Top viewP LZ mean mg mb h₀) (hk : cs.kind = .function)
    (N : News h₀ L s.heap news) (pf : PF x v)
    (hd : dp + 5 < recursionLimit) (hu : un + 60 < cLine)
    (hret : ∀ (h' : Heap) (tks : Nat), Fr h₀ L h' m → News h₀ L h' news → Q (.bool true) { s with heap := h', toks := tks }), wpAny (model PySem.Challenge.rw_pf0284_01.row.prog w) (ktrTop dp un gd cn cs L a ccd cl outer) (call (.ref 138) [.str (Str.ofString x) t, v, .ref p]) Q E s
noncomputable def EK.E_partfits_c.Pc (c : Cb) : Prop := @EK.E_partfits_c.P c.w c.mean c.mg c.mb c.dp c.un c.gd c.cn c.cs c.a c.ccd c.cl c.outer c.A₀ c.base c.h₀ c.L c.m c.s c.Q c.E
end
end
section
open PyProof.V
section
noncomputable def EK.E_checkrow_c.P {w : World} {mean : ExcName → Option Value} {mg mb : Str → Option Value} {dp un : Nat} {gd : Option (List Code)} {cn : Str} {cs : Scope} {a : Addr} {ccd : Value} {cl : List (Str × Addr)} {outer : List Env} {A₀ : Around} {base h₀ : Heap} {L : Addr} {m : Str → Option Value} {s : Shared} {Q E : Value → Shared → Prop} : Prop := ∀ (news : List (Addr × Obj)) (v : Value) (r : TR) (d : Addr) (o : Obj)
    (B : Below A₀ base outer h₀) (F : Fr h₀ L s.heap m) (X : (hd.heap_1 w.params).In h₀) (T : Top viewP LZ mean mg mb h₀) (hk : cs.kind = .function)
    (N : News h₀ L s.heap news) (hR : RowIn news v r) (ok : okTR r) (hd' : (d, o) ∈ news) (lo : (d == sysModules) = false) (S : DS PySem.Challenge.rw_pf0284_01.row.prog w o SH6b)
    (hd : dp + 8 < recursionLimit) (hu : un + 100 < cLine)
    (hret : ∀ (h' : Heap) (tks : Nat), Fr h₀ L h' m → News h₀ L h' news → Q v { s with heap := h', toks := tks }), wpAny (model PySem.Challenge.rw_pf0284_01.row.prog w) (ktrTop dp un gd cn cs L a ccd cl outer) (call (.ref 146) [v, .ref d]) Q E s
noncomputable def EK.E_checkrow_c.Pc (c : Cb) : Prop := @EK.E_checkrow_c.P c.w c.mean c.mg c.mb c.dp c.un c.gd c.cn c.cs c.a c.ccd c.cl c.outer c.A₀ c.base c.h₀ c.L c.m c.s c.Q c.E
end
end
section
section
noncomputable def EK.E_marks_c.P {w : World} {mean : ExcName → Option Value} {mg mb : Str → Option Value} {dp un : Nat} {gd : Option (List Code)} {cn : Str} {cs : Scope} {a : Addr} {ccd : Value} {cl : List (Str × Addr)} {outer : List Env} {A₀ : Around} {base h₀ : Heap} {L : Addr} {m : Str → Option Value} {s : Shared} {Q E : Value → Shared → Prop} : Prop := ∀ (news : List (Addr × Obj)) (l : Addr) (vs : List Value) (n : Nat) (rs : List TR)
    (B : Below A₀ base outer h₀) (F : Fr h₀ L s.heap m) (X : (hd.heap_1 w.params).In h₀) (T : Top viewP LZ mean mg mb h₀) (hk : cs.kind = .function)
    (N : News h₀ L s.heap news) (hl : (l, listOf vs.toArray n) ∈ news) (hR : RowsIn news vs rs) (hz : rs.length ≤ 64) (hnd : ((marksL 0 rs).map (·.1)).Nodup)
    (hd : dp + 5 < recursionLimit) (hu : un + 100 < cLine)
    (hret : ∀ (d : Addr) (o : Obj) (own : List (Addr × Obj)) (h' : Heap) (tks : Nat), Fr h₀ L h' m → News h₀ L h' ((d, o) :: own) → (∀ p ∈ news, p.1 < d) → Grow news ((d, o) :: own) → (∀ p ∈ news, p ∈ own) → (d == sysModules) = false → MarksAt PySem.Challenge.rw_pf0284_01.row.prog w own o (marksL 0 rs) → Q (.ref d) { s with heap := h', toks := tks }), wpAny (model PySem.Challenge.rw_pf0284_01.row.prog w) (ktrTop dp un gd cn cs L a ccd cl outer) (call (.ref 167) [.ref l]) Q E s
noncomputable def EK.E_marks_c.Pc (c : Cb) : Prop := @EK.E_marks_c.P c.w c.mean c.mg c.mb c.dp c.un c.gd c.cn c.cs c.a c.ccd c.cl c.outer c.A₀ c.base c.h₀ c.L c.m c.s c.Q c.E
end
end
section
open PyProof.V
noncomputable def goalT : TR → Option (Bool × Int)
  | .jmp o g => some (o, g)
  | .jcc _ o g => some (o, g)
  | _ => none
section
noncomputable def EK.E_goalof_c.P {w : World} {mean : ExcName → Option Value} {mg mb : Str → Option Value} {dp un : Nat} {gd : Option (List Code)} {cn : Str} {cs : Scope} {a : Addr} {ccd : Value} {cl : List (Str × Addr)} {outer : List Env} {A₀ : Around} {base h₀ : Heap} {L : Addr} {m : Str → Option Value} {s : Shared} {Q E : Value → Shared → Prop} : Prop := ∀ (news : List (Addr × Obj)) (v : Value) (r : TR)
    (B : Below A₀ base outer h₀) (F : Fr h₀ L s.heap m) (X : (hd.heap_1 w.params).In h₀) (T : Top viewP LZ mean mg mb h₀) (hk : cs.kind = .function)
    (N : News h₀ L s.heap news) (hR : RowIn news v r)
    (hd : dp + 5 < recursionLimit) (hu : un + 60 < cLine)
    (hno : goalT r = none → ∀ (h' : Heap) (tks : Nat), Fr h₀ L h' m → News h₀ L h' news → Q .none { s with heap := h', toks := tks })
    (hyes : ∀ o g, goalT r = some (o, g) → ∀ (D : Addr) (t u : Tok) (h' : Heap) (tks : Nat), Fr h₀ L h' m → News h₀ L h' ((D, tupO [.str (kdS o) t, .int g u] 0) :: news) → (∀ p ∈ news, p.1 < D) → Q (.ref D) { s with heap := h', toks := tks }), wpAny (model PySem.Challenge.rw_pf0284_01.row.prog w) (ktrTop dp un gd cn cs L a ccd cl outer) (call (.ref 160) [v]) Q E s
noncomputable def EK.E_goalof_c.Pc (c : Cb) : Prop := @EK.E_goalof_c.P c.w c.mean c.mg c.mb c.dp c.un c.gd c.cn c.cs c.a c.ccd c.cl c.outer c.A₀ c.base c.h₀ c.L c.m c.s c.Q c.E
end
section
noncomputable def EK.E_checkrows_c.P {w : World} {mean : ExcName → Option Value} {mg mb : Str → Option Value} {dp un : Nat} {gd : Option (List Code)} {cn : Str} {cs : Scope} {a : Addr} {ccd : Value} {cl : List (Str × Addr)} {outer : List Env} {A₀ : Around} {base h₀ : Heap} {L : Addr} {m : Str → Option Value} {s : Shared} {Q E : Value → Shared → Prop} : Prop := ∀ (news : List (Addr × Obj)) (l : Addr) (vs : List Value) (n : Nat) (rs : List TR)
    (B : Below A₀ base outer h₀) (F : Fr h₀ L s.heap m) (X : (hd.heap_1 w.params).In h₀) (T : Top viewP LZ mean mg mb h₀) (hk : cs.kind = .function)
    (N : News h₀ L s.heap news) (hl : (l, listOf vs.toArray n) ∈ news) (hR : RowsIn news vs rs) (hz : rs.length ≤ 64) (hnd : ((marksL 0 rs).map (·.1)).Nodup) (hok : ∀ r ∈ rs, okTR r)
    (hgo : ∀ r ∈ rs, ∀ g, goalT r = some g → g ∈ (marksL 0 rs).map (·.1))
    (hd : dp + 20 < recursionLimit) (hu : un + 200 < cLine)
    (hret : ∀ (d : Addr) (o : Obj) (own : List (Addr × Obj)) (h' : Heap) (tks : Nat), Fr h₀ L h' m → News h₀ L h' ((d, o) :: own) → (∀ p ∈ news, p.1 < d) → Grow news ((d, o) :: own) → (∀ p ∈ news, p ∈ own) → (d == sysModules) = false → MarksAt PySem.Challenge.rw_pf0284_01.row.prog w own o (marksL 0 rs) → Q (.ref d) { s with heap := h', toks := tks }), wpAny (model PySem.Challenge.rw_pf0284_01.row.prog w) (ktrTop dp un gd cn cs L a ccd cl outer) (call (.ref 174) [.ref l]) Q E s
noncomputable def EK.E_checkrows_c.Pc (c : Cb) : Prop := @EK.E_checkrows_c.P c.w c.mean c.mg c.mb c.dp c.un c.gd c.cn c.cs c.a c.ccd c.cl c.outer c.A₀ c.base c.h₀ c.L c.m c.s c.Q c.E
end
end
section
open PyProof.V PySem.Spec PySem.Calls
noncomputable def offA (d : Addr) (l : List (Addr × Obj)) : List (Addr × Obj) := l.filter fun p => decide ((p.1 : Nat) ≠ d)
inductive MObj (o : Obj) (l md rg fl pl : Addr) (at' order steps : Int) (over : Bool) : Prop
  | mk (h1 h2 h3 h4 h5 h6 h7 h8 h9 : Int) (t1 t2 t3 t4 t5 t6 t7 t8 t9 ta to ts : Tok)
    (f1 : o = dictOf [⟨h1, .str (Str.ofString "rows") t1, .ref l⟩, ⟨h2, .str (Str.ofString "marks") t2, .ref md⟩, ⟨h3, .str (Str.ofString "regs") t3, .ref rg⟩, ⟨h4, .str (Str.ofString "flags") t4, .ref fl⟩, ⟨h5, .str (Str.ofString "pile") t5, .ref pl⟩, ⟨h6, .str (Str.ofString "at") t6, .int at' ta⟩, ⟨h7, .str (Str.ofString "order") t7, .int order to⟩, ⟨h8, .str (Str.ofString "steps") t8, .int steps ts⟩, ⟨h9, .str (Str.ofString "is_over") t9, .bool over⟩] 9) : MObj o l md rg fl pl at' order steps over
inductive FlagsAt (nw : List (Addr × Obj)) (fl : Addr) (c z s v : Value) : Prop
  | mk (fd : Addr) (h1 h2 h3 h4 : Int) (t1 t2 t3 t4 : Tok) (n : Nat)
    (f1 : (fl, instObj 238 fd) ∈ nw) (f2 : (fd, dictOf [⟨h1, .str (Str.ofString "carry") t1, c⟩, ⟨h2, .str (Str.ofString "zero") t2, z⟩, ⟨h3, .str (Str.ofString "sign") t3, s⟩, ⟨h4, .str (Str.ofString "over") t4, v⟩] n) ∈ nw) : FlagsAt nw fl c z s v
structure MachC (prog : Program) (w : World) (own : List (Addr × Obj)) (x dx l md pl : Addr) (rs : List TR) : Prop where
  inst : (x, instObj 450 dx) ∈ own
  lo : (md == sysModules) = false
  mks : ∃ mo, (md, mo) ∈ own ∧ MarksAt prog w own mo (marksL 0 rs)
  rows : ∃ vs n, (l, listOf vs.toArray n) ∈ own ∧ RowsIn own vs rs
  pile : (pl, listOf #[] 0) ∈ own
noncomputable def regs0 : List Int := [9, 9, 9, 9, 1879048192, 9, 9, 9, 9, 9, 9, 9, 9, 9, 9, 9]
end
section
open PyProof.V
section
noncomputable def EK.E_init_c.P {w : World} {mean : ExcName → Option Value} {mg mb : Str → Option Value} {dp un : Nat} {gd : Option (List Code)} {cn : Str} {cs : Scope} {a : Addr} {ccd : Value} {cl : List (Str × Addr)} {outer : List Env} {A₀ : Around} {base h₀ : Heap} {L : Addr} {m : Str → Option Value} {s : Shared} {Q E : Value → Shared → Prop} : Prop := ∀ (news : List (Addr × Obj)) (l : Addr) (vs : List Value) (n : Nat) (rs : List TR) (t : Tok)
    (B : Below A₀ base outer h₀) (F : Fr h₀ L s.heap m) (X : (hd.heap_1 w.params).In h₀) (T : Top viewP LZ mean mg mb h₀) (hk : cs.kind = .function)
    (N : News h₀ L s.heap news) (hl : (l, listOf vs.toArray n) ∈ news) (hR : RowsIn news vs rs) (hz : rs.length ≤ 64) (hnd : ((marksL 0 rs).map (·.1)).Nodup) (hok : ∀ r ∈ rs, okTR r)
    (hgo : ∀ r ∈ rs, ∀ g, goalT r = some g → g ∈ (marksL 0 rs).map (·.1))
    (hd : dp + 30 < recursionLimit) (hu : un + 300 < cLine)
    (hret : ∀ (x dx rg pl fl md : Addr) (o : Obj) (gs : List Value) (k : Nat) (own : List (Addr × Obj)) (h' : Heap) (tks : Nat), Fr h₀ L h' m → News h₀ L h' ((dx, o) :: (rg, listOf gs.toArray k) :: own) → MObj o l md rg fl pl 0 0 0 false → IntsAre gs regs0 →
      MachC PySem.Challenge.rw_pf0284_01.row.prog w own x dx l md pl rs → OwnOff own [dx, rg] → @LT.lt Nat _ dx rg → (∀ p ∈ news, p ∈ own) → (∀ q ∈ news, q.1 < dx) → Q (.ref x) { s with heap := h', toks := tks }), wpAny (model PySem.Challenge.rw_pf0284_01.row.prog w) (ktrTop dp un gd cn cs L a ccd cl outer) (call (.ref 450) [.ref l, .int 9 t]) Q E s
noncomputable def EK.E_init_c.Pc (c : Cb) : Prop := @EK.E_init_c.P c.w c.mean c.mg c.mb c.dp c.un c.gd c.cn c.cs c.a c.ccd c.cl c.outer c.A₀ c.base c.h₀ c.L c.m c.s c.Q c.E
end
end
section
open PyProof.V
section
noncomputable def EK.E_wrap_c.P {w : World} {mean : ExcName → Option Value} {mg mb : Str → Option Value} {dp un : Nat} {gd : Option (List Code)} {cn : Str} {cs : Scope} {a : Addr} {ccd : Value} {cl : List (Str × Addr)} {outer : List Env} {A₀ : Around} {base h₀ : Heap} {L : Addr} {m : Str → Option Value} {s : Shared} {Q E : Value → Shared → Prop} : Prop := ∀ (news : List (Addr × Obj)) (k : Int) (t u : Tok)
    (B : Below A₀ base outer h₀) (F : Fr h₀ L s.heap m) (X : (hd.heap_1 w.params).In h₀) (T : Top viewP LZ mean mg mb h₀) (hk : cs.kind = .function)
    (N : News h₀ L s.heap news) (h1 : - 18446744073709551616 < k) (h2 : k < 18446744073709551616)
    (hd : dp + 5 < recursionLimit) (hu : un + 60 < cLine)
    (hret : ∀ (t : Tok) (h' : Heap) (tks : Nat), Fr h₀ L h' m → News h₀ L h' news → Q (.int (k % 18446744073709551616) t) { s with heap := h', toks := tks }), wpAny (model PySem.Challenge.rw_pf0284_01.row.prog w) (ktrTop dp un gd cn cs L a ccd cl outer) (call (.ref 74) [.int k t, .int 64 u]) Q E s
noncomputable def EK.E_wrap_c.Pc (c : Cb) : Prop := @EK.E_wrap_c.P c.w c.mean c.mg c.mb c.dp c.un c.gd c.cn c.cs c.a c.ccd c.cl c.outer c.A₀ c.base c.h₀ c.L c.m c.s c.Q c.E
noncomputable def EK.E_signbit_c.P {w : World} {mean : ExcName → Option Value} {mg mb : Str → Option Value} {dp un : Nat} {gd : Option (List Code)} {cn : Str} {cs : Scope} {a : Addr} {ccd : Value} {cl : List (Str × Addr)} {outer : List Env} {A₀ : Around} {base h₀ : Heap} {L : Addr} {m : Str → Option Value} {s : Shared} {Q E : Value → Shared → Prop} : Prop := ∀ (news : List (Addr × Obj)) (k : Int) (t u : Tok)
    (B : Below A₀ base outer h₀) (F : Fr h₀ L s.heap m) (X : (hd.heap_1 w.params).In h₀) (T : Top viewP LZ mean mg mb h₀) (hk : cs.kind = .function)
    (N : News h₀ L s.heap news) (h1 : 0 ≤ k) (h2 : k < 18446744073709551616)
    (hd : dp + 5 < recursionLimit) (hu : un + 60 < cLine)
    (hret : ∀ (h' : Heap) (tks : Nat), Fr h₀ L h' m → News h₀ L h' news → Q (.bool (decide (9223372036854775808 ≤ k))) { s with heap := h', toks := tks }), wpAny (model PySem.Challenge.rw_pf0284_01.row.prog w) (ktrTop dp un gd cn cs L a ccd cl outer) (call (.ref 256) [.int k t, .int 64 u]) Q E s
noncomputable def EK.E_signbit_c.Pc (c : Cb) : Prop := @EK.E_signbit_c.P c.w c.mean c.mg c.mb c.dp c.un c.gd c.cn c.cs c.a c.ccd c.cl c.outer c.A₀ c.base c.h₀ c.L c.m c.s c.Q c.E
end
end
section
open PyProof.V
noncomputable def FlD (od : Obj) (c z s v : Value) : Prop :=
  ∃ (h1 h2 h3 h4 : Int) (t1 t2 t3 t4 : Tok) (n : Nat), od = dictOf [⟨h1, .str (Str.ofString "carry") t1, c⟩, ⟨h2, .str (Str.ofString "zero") t2, z⟩, ⟨h3, .str (Str.ofString "sign") t3, s⟩, ⟨h4, .str (Str.ofString "over") t4, v⟩] n
section
noncomputable def EK.E_dflags_c.P {w : World} {mean : ExcName → Option Value} {mg mb : Str → Option Value} {dp un : Nat} {gd : Option (List Code)} {cn : Str} {cs : Scope} {a : Addr} {ccd : Value} {cl : List (Str × Addr)} {outer : List Env} {A₀ : Around} {base h₀ : Heap} {L : Addr} {m : Str → Option Value} {s : Shared} {Q E : Value → Shared → Prop} : Prop := ∀ (news : List (Addr × Obj)) (x y : Int) (t u v : Tok)
    (B : Below A₀ base outer h₀) (F : Fr h₀ L s.heap m) (X : (hd.heap_1 w.params).In h₀) (T : Top viewP LZ mean mg mb h₀) (hk : cs.kind = .function)
    (N : News h₀ L s.heap news) (h1 : 0 ≤ x) (h2 : x < 4611686018427387904) (h3 : 0 ≤ y) (h4 : y < 4611686018427387904)
    (hd : dp + 15 < recursionLimit) (hu : un + 150 < cLine)
    (hret : ∀ (fx fd : Addr) (od : Obj) (h' : Heap) (tks : Nat), Fr h₀ L h' m → News h₀ L h' ((fx, instObj 238 fd) :: (fd, od) :: news) → (∀ p ∈ news, p.1 < fd) → @LT.lt Nat _ fd fx → FlD od (.bool (decide (x < y))) (.bool (decide (x = y))) (.bool (decide (x < y))) (.bool false) → Q (.ref fx) { s with heap := h', toks := tks }), wpAny (model PySem.Challenge.rw_pf0284_01.row.prog w) (ktrTop dp un gd cn cs L a ccd cl outer) (call (.ref 277) [.int x t, .int y u, .int 64 v]) Q E s
noncomputable def EK.E_dflags_c.Pc (c : Cb) : Prop := @EK.E_dflags_c.P c.w c.mean c.mg c.mb c.dp c.un c.gd c.cn c.cs c.a c.ccd c.cl c.outer c.A₀ c.base c.h₀ c.L c.m c.s c.Q c.E
noncomputable def EK.E_sflags_c.P {w : World} {mean : ExcName → Option Value} {mg mb : Str → Option Value} {dp un : Nat} {gd : Option (List Code)} {cn : Str} {cs : Scope} {a : Addr} {ccd : Value} {cl : List (Str × Addr)} {outer : List Env} {A₀ : Around} {base h₀ : Heap} {L : Addr} {m : Str → Option Value} {s : Shared} {Q E : Value → Shared → Prop} : Prop := ∀ (news : List (Addr × Obj)) (x y : Int) (t u v : Tok)
    (B : Below A₀ base outer h₀) (F : Fr h₀ L s.heap m) (X : (hd.heap_1 w.params).In h₀) (T : Top viewP LZ mean mg mb h₀) (hk : cs.kind = .function)
    (N : News h₀ L s.heap news) (h1 : 0 ≤ x) (h2 : x < 4611686018427387904) (h3 : 0 ≤ y) (h4 : y < 4611686018427387904)
    (hd : dp + 15 < recursionLimit) (hu : un + 150 < cLine)
    (hret : ∀ (fx fd : Addr) (od : Obj) (h' : Heap) (tks : Nat), Fr h₀ L h' m → News h₀ L h' ((fx, instObj 238 fd) :: (fd, od) :: news) → (∀ p ∈ news, p.1 < fd) → @LT.lt Nat _ fd fx → Q (.ref fx) { s with heap := h', toks := tks }), wpAny (model PySem.Challenge.rw_pf0284_01.row.prog w) (ktrTop dp un gd cn cs L a ccd cl outer) (call (.ref 270) [.int x t, .int y u, .int 64 v]) Q E s
noncomputable def EK.E_sflags_c.Pc (c : Cb) : Prop := @EK.E_sflags_c.P c.w c.mean c.mg c.mb c.dp c.un c.gd c.cn c.cs c.a c.ccd c.cl c.outer c.A₀ c.base c.h₀ c.L c.m c.s c.Q c.E
end
end
section
open PyProof.V
inductive MO (o : Obj) (rg : Addr) : Prop
  | mk (l md fl pl : Addr) (at' order steps : Int) (over : Bool)
    (f1 : MObj o l md rg fl pl at' order steps over) : MO o rg
section
noncomputable def EK.E_take_c.P {w : World} {mean : ExcName → Option Value} {mg mb : Str → Option Value} {dp un : Nat} {gd : Option (List Code)} {cn : Str} {cs : Scope} {a : Addr} {ccd : Value} {cl : List (Str × Addr)} {outer : List Env} {A₀ : Around} {base h₀ : Heap} {L : Addr} {m : Str → Option Value} {s : Shared} {Q E : Value → Shared → Prop} : Prop := ∀ (own : List (Addr × Obj)) (x dx rg : Addr) (o : Obj) (gs : List Value) (regs : List Int) (kk : Nat) (i : Int) (t u : Tok)
    (B : Below A₀ base outer h₀) (F : Fr h₀ L s.heap m) (X : (hd.heap_1 w.params).In h₀) (T : Top viewP LZ mean mg mb h₀) (hk : cs.kind = .function)
    (N : News h₀ L s.heap ((dx, o) :: (rg, listOf gs.toArray kk) :: own)) (hx : (x, instObj 450 dx) ∈ own) (hM : MO o rg) (hg : IntsAre gs regs) (hl : regs.length = 16) (h0 : 0 ≤ i) (h1 : i < 16)
    (hb : 0 ≤ regs.getD i.toNat 0 ∧ regs.getD i.toNat 0 < 9223372036854775808)
    (hd : dp + 8 < recursionLimit) (hu : un + 80 < cLine)
    (hret : ∀ (t : Tok) (h' : Heap) (tks : Nat), Fr h₀ L h' m → News h₀ L h' ((dx, o) :: (rg, listOf gs.toArray kk) :: own) → Q (.int (regs.getD i.toNat 0) t) { s with heap := h', toks := tks }), wpAny (model PySem.Challenge.rw_pf0284_01.row.prog w) (ktrTop dp un gd cn cs L a ccd cl outer) (call (.ref 363) [.ref x, .int i t, .int 64 u]) Q E s
noncomputable def EK.E_take_c.Pc (c : Cb) : Prop := @EK.E_take_c.P c.w c.mean c.mg c.mb c.dp c.un c.gd c.cn c.cs c.a c.ccd c.cl c.outer c.A₀ c.base c.h₀ c.L c.m c.s c.Q c.E
noncomputable def EK.E_put_c.P {w : World} {mean : ExcName → Option Value} {mg mb : Str → Option Value} {dp un : Nat} {gd : Option (List Code)} {cn : Str} {cs : Scope} {a : Addr} {ccd : Value} {cl : List (Str × Addr)} {outer : List Env} {A₀ : Around} {base h₀ : Heap} {L : Addr} {m : Str → Option Value} {s : Shared} {Q E : Value → Shared → Prop} : Prop := ∀ (own : List (Addr × Obj)) (x dx rg : Addr) (o : Obj) (gs : List Value) (regs : List Int) (kk : Nat) (i v : Int) (t u t' : Tok)
    (B : Below A₀ base outer h₀) (F : Fr h₀ L s.heap m) (X : (hd.heap_1 w.params).In h₀) (T : Top viewP LZ mean mg mb h₀) (hk : cs.kind = .function)
    (N : News h₀ L s.heap ((dx, o) :: (rg, listOf gs.toArray kk) :: own)) (hx : (x, instObj 450 dx) ∈ own) (hM : MO o rg) (hg : IntsAre gs regs) (hl : regs.length = 16) (h0 : 0 ≤ i) (h1 : i < 16) (hof : OwnOff own [dx, rg]) (hdr : @LT.lt Nat _ dx rg)
    (hb : 0 ≤ v ∧ v < 9223372036854775808)
    (hd : dp + 8 < recursionLimit) (hu : un + 80 < cLine)
    (hret : ∀ (gs' : List Value) (r : Value) (h' : Heap) (tks : Nat), Fr h₀ L h' m → News h₀ L h' ((dx, o) :: (rg, listOf gs'.toArray kk) :: own) → IntsAre gs' (regs.set i.toNat v) → Q .none { s with heap := h', toks := tks }), wpAny (model PySem.Challenge.rw_pf0284_01.row.prog w) (ktrTop dp un gd cn cs L a ccd cl outer) (call (.ref 355) [.ref x, .int i t, .int v u, .int 64 t']) Q E s
noncomputable def EK.E_put_c.Pc (c : Cb) : Prop := @EK.E_put_c.P c.w c.mean c.mg c.mb c.dp c.un c.gd c.cn c.cs c.a c.ccd c.cl c.outer c.A₀ c.base c.h₀ c.L c.m c.s c.Q c.E
end
end
section
open PyProof.V
noncomputable def FK (own : List (Addr × Obj)) (fl : Addr) : Option (Int × Int) → Prop
  | some (x, y) => FlagsAt own fl (.bool (decide (x < y))) (.bool (decide (x = y))) (.bool (decide (x < y))) (.bool false)
  | none => True
noncomputable def condB (c : Fin 3) (x y : Int) : Bool :=
  match c with
  | 0 => decide (x = y)
  | 1 => decide (y < x)
  | 2 => decide (x ≤ y)
section
noncomputable def EK.E_moveno_c.P {w : World} {mean : ExcName → Option Value} {mg mb : Str → Option Value} {dp un : Nat} {gd : Option (List Code)} {cn : Str} {cs : Scope} {a : Addr} {ccd : Value} {cl : List (Str × Addr)} {outer : List Env} {A₀ : Around} {base h₀ : Heap} {L : Addr} {m : Str → Option Value} {s : Shared} {Q E : Value → Shared → Prop} : Prop := ∀ (news : List (Addr × Obj)) (x p : Addr) (nm : Str) (t : Tok)
    (B : Below A₀ base outer h₀) (F : Fr h₀ L s.heap m) (X : (hd.heap_1 w.params).In h₀) (T : Top viewP LZ mean mg mb h₀) (hk : cs.kind = .function)
    (N : News h₀ L s.heap news) (hn : nm ∈ [Str.ofString "add", Str.ofString "cmp_imm", Str.ofString "jcc", Str.ofString "jmp", Str.ofString "ret"])
    (hd : dp + 8 < recursionLimit) (hu : un + 80 < cLine)
    (hret : ∀ (h' : Heap) (tks : Nat), Fr h₀ L h' m → News h₀ L h' news → Q (.bool false) { s with heap := h', toks := tks }), codeAny (model PySem.Challenge.rw_pf0284_01.row.prog w) (ktrTop dp un gd cn cs L a ccd cl outer) (.call (.ref 384) ⟨[.ref x, .str nm t, .ref p], []⟩) (fun r s' => match r with | .ok (.ret v) => Q v s' | .ok _ => False | .error e => E e s') s
noncomputable def EK.E_moveno_c.Pc (c : Cb) : Prop := @EK.E_moveno_c.P c.w c.mean c.mg c.mb c.dp c.un c.gd c.cn c.cs c.a c.ccd c.cl c.outer c.A₀ c.base c.h₀ c.L c.m c.s c.Q c.E
noncomputable def EK.E_twono_c.P {w : World} {mean : ExcName → Option Value} {mg mb : Str → Option Value} {dp un : Nat} {gd : Option (List Code)} {cn : Str} {cs : Scope} {a : Addr} {ccd : Value} {cl : List (Str × Addr)} {outer : List Env} {A₀ : Around} {base h₀ : Heap} {L : Addr} {m : Str → Option Value} {s : Shared} {Q E : Value → Shared → Prop} : Prop := ∀ (news : List (Addr × Obj)) (x p : Addr) (nm : Str) (t : Tok)
    (B : Below A₀ base outer h₀) (F : Fr h₀ L s.heap m) (X : (hd.heap_1 w.params).In h₀) (T : Top viewP LZ mean mg mb h₀) (hk : cs.kind = .function)
    (N : News h₀ L s.heap news) (hn : nm ∈ [Str.ofString "jcc", Str.ofString "jmp", Str.ofString "ret"])
    (hd : dp + 8 < recursionLimit) (hu : un + 80 < cLine)
    (hret : ∀ (h' : Heap) (tks : Nat), Fr h₀ L h' m → News h₀ L h' news → Q (.bool false) { s with heap := h', toks := tks }), codeAny (model PySem.Challenge.rw_pf0284_01.row.prog w) (ktrTop dp un gd cn cs L a ccd cl outer) (.call (.ref 391) ⟨[.ref x, .str nm t, .ref p], []⟩) (fun r s' => match r with | .ok (.ret v) => Q v s' | .ok _ => False | .error e => E e s') s
noncomputable def EK.E_twono_c.Pc (c : Cb) : Prop := @EK.E_twono_c.P c.w c.mean c.mg c.mb c.dp c.un c.gd c.cn c.cs c.a c.ccd c.cl c.outer c.A₀ c.base c.h₀ c.L c.m c.s c.Q c.E
noncomputable def EK.E_shiftno_c.P {w : World} {mean : ExcName → Option Value} {mg mb : Str → Option Value} {dp un : Nat} {gd : Option (List Code)} {cn : Str} {cs : Scope} {a : Addr} {ccd : Value} {cl : List (Str × Addr)} {outer : List Env} {A₀ : Around} {base h₀ : Heap} {L : Addr} {m : Str → Option Value} {s : Shared} {Q E : Value → Shared → Prop} : Prop := ∀ (news : List (Addr × Obj)) (x p : Addr) (nm : Str) (t : Tok)
    (B : Below A₀ base outer h₀) (F : Fr h₀ L s.heap m) (X : (hd.heap_1 w.params).In h₀) (T : Top viewP LZ mean mg mb h₀) (hk : cs.kind = .function)
    (N : News h₀ L s.heap news) (hn : nm ∈ [Str.ofString "jcc", Str.ofString "jmp", Str.ofString "ret"])
    (hd : dp + 8 < recursionLimit) (hu : un + 80 < cLine)
    (hret : ∀ (h' : Heap) (tks : Nat), Fr h₀ L h' m → News h₀ L h' news → Q (.bool false) { s with heap := h', toks := tks }), codeAny (model PySem.Challenge.rw_pf0284_01.row.prog w) (ktrTop dp un gd cn cs L a ccd cl outer) (.call (.ref 398) ⟨[.ref x, .str nm t, .ref p], []⟩) (fun r s' => match r with | .ok (.ret v) => Q v s' | .ok _ => False | .error e => E e s') s
noncomputable def EK.E_shiftno_c.Pc (c : Cb) : Prop := @EK.E_shiftno_c.P c.w c.mean c.mg c.mb c.dp c.un c.gd c.cn c.cs c.a c.ccd c.cl c.outer c.A₀ c.base c.h₀ c.L c.m c.s c.Q c.E
noncomputable def EK.E_divno_c.P {w : World} {mean : ExcName → Option Value} {mg mb : Str → Option Value} {dp un : Nat} {gd : Option (List Code)} {cn : Str} {cs : Scope} {a : Addr} {ccd : Value} {cl : List (Str × Addr)} {outer : List Env} {A₀ : Around} {base h₀ : Heap} {L : Addr} {m : Str → Option Value} {s : Shared} {Q E : Value → Shared → Prop} : Prop := ∀ (news : List (Addr × Obj)) (x p : Addr) (nm : Str) (t : Tok)
    (B : Below A₀ base outer h₀) (F : Fr h₀ L s.heap m) (X : (hd.heap_1 w.params).In h₀) (T : Top viewP LZ mean mg mb h₀) (hk : cs.kind = .function)
    (N : News h₀ L s.heap news) (hn : nm ∈ [Str.ofString "jcc", Str.ofString "jmp", Str.ofString "ret"])
    (hd : dp + 8 < recursionLimit) (hu : un + 80 < cLine)
    (hret : ∀ (h' : Heap) (tks : Nat), Fr h₀ L h' m → News h₀ L h' news → Q (.bool false) { s with heap := h', toks := tks }), codeAny (model PySem.Challenge.rw_pf0284_01.row.prog w) (ktrTop dp un gd cn cs L a ccd cl outer) (.call (.ref 405) ⟨[.ref x, .str nm t, .ref p], []⟩) (fun r s' => match r with | .ok (.ret v) => Q v s' | .ok _ => False | .error e => E e s') s
noncomputable def EK.E_divno_c.Pc (c : Cb) : Prop := @EK.E_divno_c.P c.w c.mean c.mg c.mb c.dp c.un c.gd c.cn c.cs c.a c.ccd c.cl c.outer c.A₀ c.base c.h₀ c.L c.m c.s c.Q c.E
end
end
section
open PyProof.V
section
noncomputable def EK.E_move_c.P {w : World} {mean : ExcName → Option Value} {mg mb : Str → Option Value} {dp un : Nat} {gd : Option (List Code)} {cn : Str} {cs : Scope} {a : Addr} {ccd : Value} {cl : List (Str × Addr)} {outer : List Env} {A₀ : Around} {base h₀ : Heap} {L : Addr} {m : Str → Option Value} {s : Shared} {Q E : Value → Shared → Prop} : Prop := ∀ (own : List (Addr × Obj)) (x dx rg l md pl fl : Addr) (o : Obj) (gs : List Value) (regs : List Int) (kk : Nat) (at' order steps : Int) (v : Value) (rs : List TR) (a' b' : Int) (p : Addr) (k : Nat) (t t1 t2 t3 : Tok)
    (B : Below A₀ base outer h₀) (F : Fr h₀ L s.heap m) (X : (hd.heap_1 w.params).In h₀) (T : Top viewP LZ mean mg mb h₀) (hk : cs.kind = .function)
    (N : News h₀ L s.heap ((dx, o) :: (rg, listOf gs.toArray kk) :: own)) (hC : MachC PySem.Challenge.rw_pf0284_01.row.prog w own x dx l md pl rs) (hM : MObj o l md rg fl pl at' order steps false) (hof : OwnOff own [dx, rg]) (hdr : @LT.lt Nat _ dx rg) (hg : IntsAre gs regs) (hl : regs.length = 16)
    (hp4 : ∀ i : Nat, i < 4 → 0 ≤ regs.getD i 0 ∧ regs.getD i 0 < 1152921504606846976)
    (hd : dp + 30 < recursionLimit) (hu : un + 300 < cLine)
    (hp : (p, tupO [.int 64 t1, .int a' t2, .int b' t3] k) ∈ own) (ok : (0 ≤ a' ∧ a' < 4) ∧ 0 ≤ b' ∧ b' < 64)
    (hret : ∀ (gs' : List Value) (h' : Heap) (tks : Nat), Fr h₀ L h' m → News h₀ L h' ((dx, o) :: (rg, listOf gs'.toArray kk) :: own) → IntsAre gs' (regs.set a'.toNat b') → Q (.bool true) { s with heap := h', toks := tks }), codeAny (model PySem.Challenge.rw_pf0284_01.row.prog w) (ktrTop dp un gd cn cs L a ccd cl outer) (.call (.ref 384) ⟨[.ref x, .str (Str.ofString "mov_imm") t, .ref p], []⟩) (fun r s' => match r with | .ok (.ret v) => Q v s' | .ok _ => False | .error e => E e s') s
noncomputable def EK.E_move_c.Pc (c : Cb) : Prop := @EK.E_move_c.P c.w c.mean c.mg c.mb c.dp c.un c.gd c.cn c.cs c.a c.ccd c.cl c.outer c.A₀ c.base c.h₀ c.L c.m c.s c.Q c.E
end
section
noncomputable def EK.E_twocmp_c.P {w : World} {mean : ExcName → Option Value} {mg mb : Str → Option Value} {dp un : Nat} {gd : Option (List Code)} {cn : Str} {cs : Scope} {a : Addr} {ccd : Value} {cl : List (Str × Addr)} {outer : List Env} {A₀ : Around} {base h₀ : Heap} {L : Addr} {m : Str → Option Value} {s : Shared} {Q E : Value → Shared → Prop} : Prop := ∀ (own : List (Addr × Obj)) (x dx rg l md pl fl : Addr) (o : Obj) (gs : List Value) (regs : List Int) (kk : Nat) (at' order steps : Int) (v : Value) (rs : List TR) (a' b' : Int) (p : Addr) (k : Nat) (t t1 t2 t3 : Tok)
    (B : Below A₀ base outer h₀) (F : Fr h₀ L s.heap m) (X : (hd.heap_1 w.params).In h₀) (T : Top viewP LZ mean mg mb h₀) (hk : cs.kind = .function)
    (N : News h₀ L s.heap ((dx, o) :: (rg, listOf gs.toArray kk) :: own)) (hC : MachC PySem.Challenge.rw_pf0284_01.row.prog w own x dx l md pl rs) (hM : MObj o l md rg fl pl at' order steps false) (hof : OwnOff own [dx, rg]) (hdr : @LT.lt Nat _ dx rg) (hg : IntsAre gs regs) (hl : regs.length = 16)
    (hp4 : ∀ i : Nat, i < 4 → 0 ≤ regs.getD i 0 ∧ regs.getD i 0 < 1152921504606846976)
    (hd : dp + 30 < recursionLimit) (hu : un + 300 < cLine)
    (hp : (p, tupO [.int 64 t1, .int a' t2, .int b' t3] k) ∈ own) (ok : (0 ≤ a' ∧ a' < 4) ∧ 0 ≤ b' ∧ b' < 64)
    (hret : ∀ (fx fd : Addr) (fo : Obj) (o' : Obj) (h' : Heap) (tks : Nat), Fr h₀ L h' m → News h₀ L h' ((dx, o') :: (rg, listOf gs.toArray kk) :: (fx, instObj 238 fd) :: (fd, fo) :: own) → OwnOff ((fx, instObj 238 fd) :: (fd, fo) :: own) [dx, rg] → MObj o' l md rg fx pl at' order steps false → FK ((fx, instObj 238 fd) :: (fd, fo) :: own) fx (some (regs.getD a'.toNat 0, b')) → Q (.bool true) { s with heap := h', toks := tks }), codeAny (model PySem.Challenge.rw_pf0284_01.row.prog w) (ktrTop dp un gd cn cs L a ccd cl outer) (.call (.ref 391) ⟨[.ref x, .str (Str.ofString "cmp_imm") t, .ref p], []⟩) (fun r s' => match r with | .ok (.ret v) => Q v s' | .ok _ => False | .error e => E e s') s
noncomputable def EK.E_twocmp_c.Pc (c : Cb) : Prop := @EK.E_twocmp_c.P c.w c.mean c.mg c.mb c.dp c.un c.gd c.cn c.cs c.a c.ccd c.cl c.outer c.A₀ c.base c.h₀ c.L c.m c.s c.Q c.E
end
section
noncomputable def EK.E_twoadd_c.P {w : World} {mean : ExcName → Option Value} {mg mb : Str → Option Value} {dp un : Nat} {gd : Option (List Code)} {cn : Str} {cs : Scope} {a : Addr} {ccd : Value} {cl : List (Str × Addr)} {outer : List Env} {A₀ : Around} {base h₀ : Heap} {L : Addr} {m : Str → Option Value} {s : Shared} {Q E : Value → Shared → Prop} : Prop := ∀ (own : List (Addr × Obj)) (x dx rg l md pl fl : Addr) (o : Obj) (gs : List Value) (regs : List Int) (kk : Nat) (at' order steps : Int) (v : Value) (rs : List TR) (a' b' : Int) (p : Addr) (k : Nat) (t t1 t2 t3 : Tok)
    (B : Below A₀ base outer h₀) (F : Fr h₀ L s.heap m) (X : (hd.heap_1 w.params).In h₀) (T : Top viewP LZ mean mg mb h₀) (hk : cs.kind = .function)
    (N : News h₀ L s.heap ((dx, o) :: (rg, listOf gs.toArray kk) :: own)) (hC : MachC PySem.Challenge.rw_pf0284_01.row.prog w own x dx l md pl rs) (hM : MObj o l md rg fl pl at' order steps false) (hof : OwnOff own [dx, rg]) (hdr : @LT.lt Nat _ dx rg) (hg : IntsAre gs regs) (hl : regs.length = 16)
    (hp4 : ∀ i : Nat, i < 4 → 0 ≤ regs.getD i 0 ∧ regs.getD i 0 < 1152921504606846976)
    (hd : dp + 30 < recursionLimit) (hu : un + 300 < cLine)
    (hp : (p, tupO [.int 64 t1, .int a' t2, .int b' t3] k) ∈ own) (ok : (0 ≤ a' ∧ a' < 4) ∧ 0 ≤ b' ∧ b' < 4)
    (hret : ∀ (fx fd : Addr) (fo : Obj) (o' : Obj) (gs' : List Value) (h' : Heap) (tks : Nat), Fr h₀ L h' m → News h₀ L h' ((dx, o') :: (rg, listOf gs'.toArray kk) :: (fx, instObj 238 fd) :: (fd, fo) :: own) → OwnOff ((fx, instObj 238 fd) :: (fd, fo) :: own) [dx, rg] → MObj o' l md rg fx pl at' order steps false → IntsAre gs' (regs.set a'.toNat (regs.getD a'.toNat 0 + regs.getD b'.toNat 0)) → Q (.bool true) { s with heap := h', toks := tks }), codeAny (model PySem.Challenge.rw_pf0284_01.row.prog w) (ktrTop dp un gd cn cs L a ccd cl outer) (.call (.ref 391) ⟨[.ref x, .str (Str.ofString "add") t, .ref p], []⟩) (fun r s' => match r with | .ok (.ret v) => Q v s' | .ok _ => False | .error e => E e s') s
noncomputable def EK.E_twoadd_c.Pc (c : Cb) : Prop := @EK.E_twoadd_c.P c.w c.mean c.mg c.mb c.dp c.un c.gd c.cn c.cs c.a c.ccd c.cl c.outer c.A₀ c.base c.h₀ c.L c.m c.s c.Q c.E
end
section
noncomputable def EK.E_wayjmp_c.P {w : World} {mean : ExcName → Option Value} {mg mb : Str → Option Value} {dp un : Nat} {gd : Option (List Code)} {cn : Str} {cs : Scope} {a : Addr} {ccd : Value} {cl : List (Str × Addr)} {outer : List Env} {A₀ : Around} {base h₀ : Heap} {L : Addr} {m : Str → Option Value} {s : Shared} {Q E : Value → Shared → Prop} : Prop := ∀ (own : List (Addr × Obj)) (x dx rg l md pl fl : Addr) (o : Obj) (gs : List Value) (regs : List Int) (kk : Nat) (at' order steps : Int) (v : Value) (rs : List TR) (b : Bool) (g : Int) (j : Nat) (p : Addr) (k : Nat) (t t1 t2 : Tok)
    (B : Below A₀ base outer h₀) (F : Fr h₀ L s.heap m) (X : (hd.heap_1 w.params).In h₀) (T : Top viewP LZ mean mg mb h₀) (hk : cs.kind = .function)
    (N : News h₀ L s.heap ((dx, o) :: (rg, listOf gs.toArray kk) :: own)) (hC : MachC PySem.Challenge.rw_pf0284_01.row.prog w own x dx l md pl rs) (hM : MObj o l md rg fl pl at' order steps false) (hof : OwnOff own [dx, rg]) (hdr : @LT.lt Nat _ dx rg) (hg : IntsAre gs regs) (hl : regs.length = 16)
    (hp4 : ∀ i : Nat, i < 4 → 0 ≤ regs.getD i 0 ∧ regs.getD i 0 < 1152921504606846976)
    (hd : dp + 30 < recursionLimit) (hu : un + 300 < cLine)
    (hp : (p, tupO [.str (kdS b) t1, .int g t2] k) ∈ own) (hj : lk (marksL 0 rs) (b, g) = some j)
    (hret : ∀ (o' : Obj) (h' : Heap) (tks : Nat), Fr h₀ L h' m → News h₀ L h' ((dx, o') :: (rg, listOf gs.toArray kk) :: own) → MObj o' l md rg fl pl j order steps false → Q (.bool true) { s with heap := h', toks := tks }), codeAny (model PySem.Challenge.rw_pf0284_01.row.prog w) (ktrTop dp un gd cn cs L a ccd cl outer) (.call (.ref 426) ⟨[.ref x, .str (Str.ofString "jmp") t, .ref p], []⟩) (fun r s' => match r with | .ok (.ret v) => Q v s' | .ok _ => False | .error e => E e s') s
noncomputable def EK.E_wayjmp_c.Pc (c : Cb) : Prop := @EK.E_wayjmp_c.P c.w c.mean c.mg c.mb c.dp c.un c.gd c.cn c.cs c.a c.ccd c.cl c.outer c.A₀ c.base c.h₀ c.L c.m c.s c.Q c.E
noncomputable def EK.E_wayret_c.P {w : World} {mean : ExcName → Option Value} {mg mb : Str → Option Value} {dp un : Nat} {gd : Option (List Code)} {cn : Str} {cs : Scope} {a : Addr} {ccd : Value} {cl : List (Str × Addr)} {outer : List Env} {A₀ : Around} {base h₀ : Heap} {L : Addr} {m : Str → Option Value} {s : Shared} {Q E : Value → Shared → Prop} : Prop := ∀ (own : List (Addr × Obj)) (x dx rg l md pl fl : Addr) (o : Obj) (gs : List Value) (regs : List Int) (kk : Nat) (at' order steps : Int) (v : Value) (rs : List TR) (p : Addr) (t : Tok)
    (B : Below A₀ base outer h₀) (F : Fr h₀ L s.heap m) (X : (hd.heap_1 w.params).In h₀) (T : Top viewP LZ mean mg mb h₀) (hk : cs.kind = .function)
    (N : News h₀ L s.heap ((dx, o) :: (rg, listOf gs.toArray kk) :: own)) (hC : MachC PySem.Challenge.rw_pf0284_01.row.prog w own x dx l md pl rs) (hM : MObj o l md rg fl pl at' order steps false) (hof : OwnOff own [dx, rg]) (hdr : @LT.lt Nat _ dx rg) (hg : IntsAre gs regs) (hl : regs.length = 16)
    (hp4 : ∀ i : Nat, i < 4 → 0 ≤ regs.getD i 0 ∧ regs.getD i 0 < 1152921504606846976)
    (hd : dp + 30 < recursionLimit) (hu : un + 300 < cLine)
    (hret : ∀ (o' : Obj) (h' : Heap) (tks : Nat), Fr h₀ L h' m → News h₀ L h' ((dx, o') :: (rg, listOf gs.toArray kk) :: own) → MObj o' l md rg fl pl at' order steps true → Q (.bool true) { s with heap := h', toks := tks }), codeAny (model PySem.Challenge.rw_pf0284_01.row.prog w) (ktrTop dp un gd cn cs L a ccd cl outer) (.call (.ref 426) ⟨[.ref x, .str (Str.ofString "ret") t, .ref p], []⟩) (fun r s' => match r with | .ok (.ret v) => Q v s' | .ok _ => False | .error e => E e s') s
noncomputable def EK.E_wayret_c.Pc (c : Cb) : Prop := @EK.E_wayret_c.P c.w c.mean c.mg c.mb c.dp c.un c.gd c.cn c.cs c.a c.ccd c.cl c.outer c.A₀ c.base c.h₀ c.L c.m c.s c.Q c.E
end
end
section
open PyProof.V
noncomputable def cb (c : Fin 3) (p z : Bool) : Bool :=
  match c with
  | 0 => z
  | 1 => !p && !z
  | 2 => p || z
section
noncomputable def EK.E_cond_c.P {w : World} {mean : ExcName → Option Value} {mg mb : Str → Option Value} {dp un : Nat} {gd : Option (List Code)} {cn : Str} {cs : Scope} {a : Addr} {ccd : Value} {cl : List (Str × Addr)} {outer : List Env} {A₀ : Around} {base h₀ : Heap} {L : Addr} {m : Str → Option Value} {s : Shared} {Q E : Value → Shared → Prop} : Prop := ∀ (news : List (Addr × Obj)) (c : Fin 3) (fl : Addr) (p z : Bool) (t : Tok)
    (B : Below A₀ base outer h₀) (F : Fr h₀ L s.heap m) (X : (hd.heap_1 w.params).In h₀) (T : Top viewP LZ mean mg mb h₀) (hk : cs.kind = .function)
    (N : News h₀ L s.heap news) (hf : FlagsAt news fl (.bool p) (.bool z) (.bool p) (.bool false))
    (hd : dp + 8 < recursionLimit) (hu : un + 80 < cLine)
    (hret : ∀ (h' : Heap) (tks : Nat), Fr h₀ L h' m → News h₀ L h' news → Q (.bool (cb c p z)) { s with heap := h', toks := tks }), wpAny (model PySem.Challenge.rw_pf0284_01.row.prog w) (ktrTop dp un gd cn cs L a ccd cl outer) (call (.ref 298) [.str (ccS c) t, .ref fl]) Q E s
noncomputable def EK.E_cond_c.Pc (c : Cb) : Prop := @EK.E_cond_c.P c.w c.mean c.mg c.mb c.dp c.un c.gd c.cn c.cs c.a c.ccd c.cl c.outer c.A₀ c.base c.h₀ c.L c.m c.s c.Q c.E
end
section
noncomputable def EK.E_wayjcc_c.P {w : World} {mean : ExcName → Option Value} {mg mb : Str → Option Value} {dp un : Nat} {gd : Option (List Code)} {cn : Str} {cs : Scope} {a : Addr} {ccd : Value} {cl : List (Str × Addr)} {outer : List Env} {A₀ : Around} {base h₀ : Heap} {L : Addr} {m : Str → Option Value} {s : Shared} {Q E : Value → Shared → Prop} : Prop := ∀ (own : List (Addr × Obj)) (x dx rg l md pl fl : Addr) (o : Obj) (gs : List Value) (regs : List Int) (kk : Nat) (at' order steps : Int) (v : Value) (rs : List TR) (c : Fin 3) (b : Bool) (g x' y' : Int) (j : Nat) (p : Addr) (k : Nat) (t t1 t2 t3 : Tok)
    (B : Below A₀ base outer h₀) (F : Fr h₀ L s.heap m) (X : (hd.heap_1 w.params).In h₀) (T : Top viewP LZ mean mg mb h₀) (hk : cs.kind = .function)
    (N : News h₀ L s.heap ((dx, o) :: (rg, listOf gs.toArray kk) :: own)) (hC : MachC PySem.Challenge.rw_pf0284_01.row.prog w own x dx l md pl rs) (hM : MObj o l md rg fl pl at' order steps false) (hof : OwnOff own [dx, rg]) (hdr : @LT.lt Nat _ dx rg) (hg : IntsAre gs regs) (hl : regs.length = 16)
    (hp4 : ∀ i : Nat, i < 4 → 0 ≤ regs.getD i 0 ∧ regs.getD i 0 < 1152921504606846976)
    (hd : dp + 30 < recursionLimit) (hu : un + 300 < cLine)
    (hp : (p, tupO [.str (ccS c) t3, .str (kdS b) t1, .int g t2] k) ∈ own) (hj : lk (marksL 0 rs) (b, g) = some j)
    (hf : FK own fl (some (x', y')))
    (hret : ∀ (o' : Obj) (h' : Heap) (tks : Nat), Fr h₀ L h' m → News h₀ L h' ((dx, o') :: (rg, listOf gs.toArray kk) :: own) → MObj o' l md rg fl pl (if condB c x' y' = true then (j : Int) else at') order steps false → Q (.bool true) { s with heap := h', toks := tks }), codeAny (model PySem.Challenge.rw_pf0284_01.row.prog w) (ktrTop dp un gd cn cs L a ccd cl outer) (.call (.ref 426) ⟨[.ref x, .str (Str.ofString "jcc") t, .ref p], []⟩) (fun r s' => match r with | .ok (.ret v) => Q v s' | .ok _ => False | .error e => E e s') s
noncomputable def EK.E_wayjcc_c.Pc (c : Cb) : Prop := @EK.E_wayjcc_c.P c.w c.mean c.mg c.mb c.dp c.un c.gd c.cn c.cs c.a c.ccd c.cl c.outer c.A₀ c.base c.h₀ c.L c.m c.s c.Q c.E
end
end
section
open PyProof.V
section
noncomputable def EK.E_dorow_mark.P {w : World} {mean : ExcName → Option Value} {mg mb : Str → Option Value} {dp un : Nat} {gd : Option (List Code)} {cn : Str} {cs : Scope} {a : Addr} {ccd : Value} {cl : List (Str × Addr)} {outer : List Env} {A₀ : Around} {base h₀ : Heap} {L : Addr} {m : Str → Option Value} {s : Shared} {Q E : Value → Shared → Prop} : Prop := ∀ (own : List (Addr × Obj)) (x dx rg l md pl fl : Addr) (o : Obj) (gs : List Value) (regs : List Int) (kk : Nat) (at' order steps : Int) (v : Value) (rs : List TR) (b : Bool) (n : Int)
    (B : Below A₀ base outer h₀) (F : Fr h₀ L s.heap m) (X : (hd.heap_1 w.params).In h₀) (T : Top viewP LZ mean mg mb h₀) (hk : cs.kind = .function)
    (N : News h₀ L s.heap ((dx, o) :: (rg, listOf gs.toArray kk) :: own)) (hC : MachC PySem.Challenge.rw_pf0284_01.row.prog w own x dx l md pl rs) (hM : MObj o l md rg fl pl at' order steps false) (hof : OwnOff own [dx, rg]) (hdr : @LT.lt Nat _ dx rg) (hg : IntsAre gs regs) (hl : regs.length = 16)
    (hp4 : ∀ i : Nat, i < 4 → 0 ≤ regs.getD i 0 ∧ regs.getD i 0 < 1152921504606846976)
    (hd : dp + 40 < recursionLimit) (hu : un + 400 < cLine)
    (hR : RowIn own v (.mark b n))
    (hret : ∀ (o' : Obj) (h' : Heap) (tks : Nat), Fr h₀ L h' m → News h₀ L h' ((dx, o') :: (rg, listOf gs.toArray kk) :: own) → MObj o' l md rg fl pl at' (if b then n else order) steps false → Q .none { s with heap := h', toks := tks }), wpAny (model PySem.Challenge.rw_pf0284_01.row.prog w) (ktrTop dp un gd cn cs L a ccd cl outer) (call (.ref 433) [.ref x, v]) Q E s
noncomputable def EK.E_dorow_mark.Pc (c : Cb) : Prop := @EK.E_dorow_mark.P c.w c.mean c.mg c.mb c.dp c.un c.gd c.cn c.cs c.a c.ccd c.cl c.outer c.A₀ c.base c.h₀ c.L c.m c.s c.Q c.E
end
section
noncomputable def EK.E_dorow_mov.P {w : World} {mean : ExcName → Option Value} {mg mb : Str → Option Value} {dp un : Nat} {gd : Option (List Code)} {cn : Str} {cs : Scope} {a : Addr} {ccd : Value} {cl : List (Str × Addr)} {outer : List Env} {A₀ : Around} {base h₀ : Heap} {L : Addr} {m : Str → Option Value} {s : Shared} {Q E : Value → Shared → Prop} : Prop := ∀ (own : List (Addr × Obj)) (x dx rg l md pl fl : Addr) (o : Obj) (gs : List Value) (regs : List Int) (kk : Nat) (at' order steps : Int) (v : Value) (rs : List TR) (a' b' : Int)
    (B : Below A₀ base outer h₀) (F : Fr h₀ L s.heap m) (X : (hd.heap_1 w.params).In h₀) (T : Top viewP LZ mean mg mb h₀) (hk : cs.kind = .function)
    (N : News h₀ L s.heap ((dx, o) :: (rg, listOf gs.toArray kk) :: own)) (hC : MachC PySem.Challenge.rw_pf0284_01.row.prog w own x dx l md pl rs) (hM : MObj o l md rg fl pl at' order steps false) (hof : OwnOff own [dx, rg]) (hdr : @LT.lt Nat _ dx rg) (hg : IntsAre gs regs) (hl : regs.length = 16)
    (hp4 : ∀ i : Nat, i < 4 → 0 ≤ regs.getD i 0 ∧ regs.getD i 0 < 1152921504606846976)
    (hd : dp + 40 < recursionLimit) (hu : un + 400 < cLine)
    (hR : RowIn own v (.mov a' b')) (ok : (0 ≤ a' ∧ a' < 4) ∧ 0 ≤ b' ∧ b' < 64)
    (hret : ∀ (o' : Obj) (gs' : List Value) (h' : Heap) (tks : Nat), Fr h₀ L h' m → News h₀ L h' ((dx, o') :: (rg, listOf gs'.toArray kk) :: own) → MObj o' l md rg fl pl at' order (steps + 1) false → IntsAre gs' (regs.set a'.toNat b') → Q .none { s with heap := h', toks := tks }), wpAny (model PySem.Challenge.rw_pf0284_01.row.prog w) (ktrTop dp un gd cn cs L a ccd cl outer) (call (.ref 433) [.ref x, v]) Q E s
noncomputable def EK.E_dorow_mov.Pc (c : Cb) : Prop := @EK.E_dorow_mov.P c.w c.mean c.mg c.mb c.dp c.un c.gd c.cn c.cs c.a c.ccd c.cl c.outer c.A₀ c.base c.h₀ c.L c.m c.s c.Q c.E
end
end
section
structure PS where
  o : Int
  r : List Int
  f : Int × Int
  n : Nat
  d : Nat
noncomputable def orderTo (o : Bool) (n : Int) (s : PS) : PS := { s with o := if o = true then n else s.o }
noncomputable def run : Option (Bool × Int) → List TR → PS → PS
  | _, [], s => s
  | some g, .mark o n :: rest, s => if (o, n) = g then run none rest (orderTo o n s) else run (some g) rest s
  | some g, _ :: rest, s => run (some g) rest s
  | none, .mark o n :: rest, s => run none rest (orderTo o n s)
  | none, .mov a k :: rest, s => run none rest { s with r := s.r.set a.toNat k, n := s.n + 1 }
  | none, .add a b :: rest, s => run none rest { s with r := s.r.set a.toNat (s.r.getD a.toNat 0 + s.r.getD b.toNat 0), n := s.n + 1 }
  | none, .cmp a k :: rest, s => run none rest { s with f := (s.r.getD a.toNat 0, k), n := s.n + 1 }
  | none, .jcc c o g :: rest, s => if condP c s.f.1 s.f.2 = true then run (some (o, g)) rest { s with n := s.n + 1 } else run none rest { s with n := s.n + 1 }
  | none, .jmp o g :: rest, s => run (some (o, g)) rest { s with n := s.n + 1, d := s.d + if idleIn o g rest = true then 1 else 0 }
  | none, .ret :: _, s => { s with n := s.n + 1 }
where condP (c : Fin 3) (x y : Int) : Bool :=
  match c with
  | 0 => decide (x = y)
  | 1 => decide (y < x)
  | 2 => decide (x ≤ y)
structure Sim (s s' : PS) : Prop where
  o : s.o = s'.o
  r : s.r = s'.r
  f : s.f = s'.f
  n : s.n = s'.n + s.d
noncomputable def keysL : List TR → List (Bool × Int)
  | [] => []
  | .mark o n :: r => (o, n) :: keysL r
  | _ :: r => keysL r
noncomputable def GoalsOk : List TR → Prop
  | [] => True
  | r :: rest => (∀ g, goalT r = some g → g ∈ keysL rest) ∧ GoalsOk rest
noncomputable def CmpOk : Bool → List TR → Prop
  | _, [] => True
  | b, .jcc _ _ _ :: rest => b = true ∧ CmpOk false rest
  | _, .cmp _ _ :: rest => CmpOk true rest
  | _, _ :: rest => CmpOk false rest
noncomputable def EndsRet : List TR → Prop
  | [] => False
  | [r] => r = .ret
  | _ :: r => EndsRet r
structure WF (rs : List TR) : Prop where
  ok : ∀ r ∈ rs, okTR r
  nd : (keysL rs).Nodup
  go : GoalsOk rs
  cm : CmpOk false rs
  er : EndsRet rs
  le : rs.length ≤ 29
end
section
structure MS where
  i : Nat
  order : Int
  steps : Int
  over : Bool
  regs : List Int
  fk : Option (Int × Int)
noncomputable def goalAt (rs : List TR) (o : Bool) (g : Int) : Nat := (lk (marksL 0 rs) (o, g)).getD 0
noncomputable def mdo (rs : List TR) : TR → MS → MS
  | .mark o n, q => { q with order := if o = true then n else q.order }
  | .mov a k, q => { q with steps := q.steps + 1, regs := q.regs.set a.toNat k }
  | .add a b, q => { q with steps := q.steps + 1, regs := q.regs.set a.toNat (q.regs.getD a.toNat 0 + q.regs.getD b.toNat 0), fk := none }
  | .cmp a k, q => { q with steps := q.steps + 1, fk := some (q.regs.getD a.toNat 0, k) }
  | .jcc c o g, q => { q with steps := q.steps + 1, i := if condB c (q.fk.getD (0, 0)).1 (q.fk.getD (0, 0)).2 = true then goalAt rs o g else q.i }
  | .jmp o g, q => { q with steps := q.steps + 1, i := goalAt rs o g }
  | .ret, q => { q with steps := q.steps + 1, over := true }
noncomputable def tail12 : List Int := regs0.drop 4
noncomputable def Bnd (i : Nat) (r : List Int) : Prop := r.length = 4 ∧ ∀ k, k < 4 → 0 ≤ r.getD k 0 ∧ r.getD k 0 < 64 * 2 ^ i
structure Rel (q : MS) (S : PS) : Prop where
  o : q.order = S.o
  r : q.regs = S.r ++ tail12
  n : q.steps = (S.n : Int)
  f : q.fk = none ∨ q.fk = some S.f
structure Going (rs : List TR) (fin : PS) (q : MS) (S : PS) : Prop where
  lt : q.i < rs.length
  rel : Rel q S
  bnd : Bnd q.i S.r
  run : run none (rs.drop q.i) S = fin
  cm : CmpOk q.fk.isSome (rs.drop q.i)
  le : S.n ≤ q.i
noncomputable def INV (rs : List TR) (fin : PS) (q : MS) : Prop :=
  (q.over = false ∧ ∃ S, Going rs fin q S) ∨ (q.over = true ∧ Rel q fin ∧ fin.r.length = 4 ∧ fin.n ≤ rs.length)
structure DoOk (rs : List TR) (r : TR) (q : MS) : Prop where
  ok : okTR r
  len : q.regs.length = 16
  bnd : ∀ i : Nat, i < 4 → 0 ≤ q.regs.getD i 0 ∧ q.regs.getD i 0 < 1152921504606846976
  goal : ∀ o g, goalT r = some (o, g) → lk (marksL 0 rs) (o, g) = some (goalAt rs o g)
  cmp : ∀ c o g, r = .jcc c o g → q.fk.isSome = true
noncomputable def meas (rs : List TR) (q : MS) : Nat := if q.over = true then 0 else rs.length - q.i
noncomputable def S0 : PS := { o := 0, r := [9, 9, 9, 9], f := (0, 0), n := 0, d := 0 }
noncomputable def q0 : MS := { i := 0, order := 0, steps := 0, over := false, regs := regs0, fk := none }
end
section
open PyProof.V
section
noncomputable def EK.E_dorow_add.P {w : World} {mean : ExcName → Option Value} {mg mb : Str → Option Value} {dp un : Nat} {gd : Option (List Code)} {cn : Str} {cs : Scope} {a : Addr} {ccd : Value} {cl : List (Str × Addr)} {outer : List Env} {A₀ : Around} {base h₀ : Heap} {L : Addr} {m : Str → Option Value} {s : Shared} {Q E : Value → Shared → Prop} : Prop := ∀ (own : List (Addr × Obj)) (x dx rg l md pl fl : Addr) (o : Obj) (gs : List Value) (regs : List Int) (kk : Nat) (at' order steps : Int) (v : Value) (rs : List TR) (a' b' : Int)
    (B : Below A₀ base outer h₀) (F : Fr h₀ L s.heap m) (X : (hd.heap_1 w.params).In h₀) (T : Top viewP LZ mean mg mb h₀) (hk : cs.kind = .function)
    (N : News h₀ L s.heap ((dx, o) :: (rg, listOf gs.toArray kk) :: own)) (hC : MachC PySem.Challenge.rw_pf0284_01.row.prog w own x dx l md pl rs) (hM : MObj o l md rg fl pl at' order steps false) (hof : OwnOff own [dx, rg]) (hdr : @LT.lt Nat _ dx rg) (hg : IntsAre gs regs) (hl : regs.length = 16)
    (hp4 : ∀ i : Nat, i < 4 → 0 ≤ regs.getD i 0 ∧ regs.getD i 0 < 1152921504606846976)
    (hd : dp + 40 < recursionLimit) (hu : un + 400 < cLine)
    (hR : RowIn own v (.add a' b')) (ok : (0 ≤ a' ∧ a' < 4) ∧ 0 ≤ b' ∧ b' < 4)
    (hret : ∀ (o' : Obj) (gs' : List Value) (fx fd : Addr) (fo : Obj) (h' : Heap) (tks : Nat), Fr h₀ L h' m → News h₀ L h' ((dx, o') :: (rg, listOf gs'.toArray kk) :: (fx, instObj 238 fd) :: (fd, fo) :: own) → OwnOff ((fx, instObj 238 fd) :: (fd, fo) :: own) [dx, rg] → MObj o' l md rg fx pl at' order (steps + 1) false → IntsAre gs' (regs.set a'.toNat (regs.getD a'.toNat 0 + regs.getD b'.toNat 0)) → Q .none { s with heap := h', toks := tks }), wpAny (model PySem.Challenge.rw_pf0284_01.row.prog w) (ktrTop dp un gd cn cs L a ccd cl outer) (call (.ref 433) [.ref x, v]) Q E s
noncomputable def EK.E_dorow_add.Pc (c : Cb) : Prop := @EK.E_dorow_add.P c.w c.mean c.mg c.mb c.dp c.un c.gd c.cn c.cs c.a c.ccd c.cl c.outer c.A₀ c.base c.h₀ c.L c.m c.s c.Q c.E
noncomputable def EK.E_dorow_cmp.P {w : World} {mean : ExcName → Option Value} {mg mb : Str → Option Value} {dp un : Nat} {gd : Option (List Code)} {cn : Str} {cs : Scope} {a : Addr} {ccd : Value} {cl : List (Str × Addr)} {outer : List Env} {A₀ : Around} {base h₀ : Heap} {L : Addr} {m : Str → Option Value} {s : Shared} {Q E : Value → Shared → Prop} : Prop := ∀ (own : List (Addr × Obj)) (x dx rg l md pl fl : Addr) (o : Obj) (gs : List Value) (regs : List Int) (kk : Nat) (at' order steps : Int) (v : Value) (rs : List TR) (a' b' : Int)
    (B : Below A₀ base outer h₀) (F : Fr h₀ L s.heap m) (X : (hd.heap_1 w.params).In h₀) (T : Top viewP LZ mean mg mb h₀) (hk : cs.kind = .function)
    (N : News h₀ L s.heap ((dx, o) :: (rg, listOf gs.toArray kk) :: own)) (hC : MachC PySem.Challenge.rw_pf0284_01.row.prog w own x dx l md pl rs) (hM : MObj o l md rg fl pl at' order steps false) (hof : OwnOff own [dx, rg]) (hdr : @LT.lt Nat _ dx rg) (hg : IntsAre gs regs) (hl : regs.length = 16)
    (hp4 : ∀ i : Nat, i < 4 → 0 ≤ regs.getD i 0 ∧ regs.getD i 0 < 1152921504606846976)
    (hd : dp + 40 < recursionLimit) (hu : un + 400 < cLine)
    (hR : RowIn own v (.cmp a' b')) (ok : (0 ≤ a' ∧ a' < 4) ∧ 0 ≤ b' ∧ b' < 64)
    (hret : ∀ (o' : Obj) (fx fd : Addr) (fo : Obj) (h' : Heap) (tks : Nat), Fr h₀ L h' m → News h₀ L h' ((dx, o') :: (rg, listOf gs.toArray kk) :: (fx, instObj 238 fd) :: (fd, fo) :: own) → OwnOff ((fx, instObj 238 fd) :: (fd, fo) :: own) [dx, rg] → MObj o' l md rg fx pl at' order (steps + 1) false → FK ((fx, instObj 238 fd) :: (fd, fo) :: own) fx (some (regs.getD a'.toNat 0, b')) → Q .none { s with heap := h', toks := tks }), wpAny (model PySem.Challenge.rw_pf0284_01.row.prog w) (ktrTop dp un gd cn cs L a ccd cl outer) (call (.ref 433) [.ref x, v]) Q E s
noncomputable def EK.E_dorow_cmp.Pc (c : Cb) : Prop := @EK.E_dorow_cmp.P c.w c.mean c.mg c.mb c.dp c.un c.gd c.cn c.cs c.a c.ccd c.cl c.outer c.A₀ c.base c.h₀ c.L c.m c.s c.Q c.E
end
end
section
open PyProof.V
section
noncomputable def WayP (nm : Str) (own : List (Addr × Obj)) (x dx rg l md pl fl : Addr) (gs : List Value) (regs : List Int) (kk : Nat) (at' order steps : Int) (rs : List TR) (p : Addr) (at2 : Int) (ov : Bool) : Prop :=
  ∀ {w : World} {mean : ExcName → Option Value} {mg mb : Str → Option Value} {dp un : Nat} {gd : Option (List Code)} {cn : Str} {cs : Scope} {a : Addr} {ccd : Value} {cl : List (Str × Addr)} {outer : List Env} {A₀ : Around} {base h₀ : Heap} {L : Addr} {m : Str → Option Value} {s : Shared} {Q E : Value → Shared → Prop} (o : Obj) (t : Tok)
    (B : Below A₀ base outer h₀) (F : Fr h₀ L s.heap m) (X : (hd.heap_1 w.params).In h₀) (T : Top viewP LZ mean mg mb h₀) (hk : cs.kind = .function)
    (N : News h₀ L s.heap ((dx, o) :: (rg, listOf gs.toArray kk) :: own)) (hC : MachC PySem.Challenge.rw_pf0284_01.row.prog w own x dx l md pl rs) (hM : MObj o l md rg fl pl at' order steps false) (hof : OwnOff own [dx, rg]) (hdr : @LT.lt Nat _ dx rg) (hg : IntsAre gs regs) (hl : regs.length = 16)
    (hp4 : ∀ i : Nat, i < 4 → 0 ≤ regs.getD i 0 ∧ regs.getD i 0 < 1152921504606846976)
    (hd : dp + 30 < recursionLimit) (hu : un + 300 < cLine)
    (hret : ∀ (o' : Obj) (h' : Heap) (tks : Nat), Fr h₀ L h' m → News h₀ L h' ((dx, o') :: (rg, listOf gs.toArray kk) :: own) → MObj o' l md rg fl pl at2 order steps ov → Q (.bool true) { s with heap := h', toks := tks }),
    codeAny (model PySem.Challenge.rw_pf0284_01.row.prog w) (ktrTop dp un gd cn cs L a ccd cl outer) (.call (.ref 426) ⟨[.ref x, .str nm t, .ref p], []⟩) (fun r s' => match r with | .ok (.ret v) => Q v s' | .ok _ => False | .error e => E e s') s
inductive NmIn (I : List (Addr × Obj)) (v : Value) (nm : Str) (p : Addr) : Prop
  | mk (y dy : Addr) (e1 e2 : Int) (u1 u2 u3 : Tok) (ny : Nat) (f1 : v = .ref y) (f2 : (y, instObj 113 dy) ∈ I) (f3 : (dy, dictOf [⟨e1, .str (Str.ofString "name") u1, .str nm u2⟩, ⟨e2, .str (Str.ofString "parts") u3, .ref p⟩] ny) ∈ I) : NmIn I v nm p
noncomputable def EK.E_dorow_way.P {w : World} {mean : ExcName → Option Value} {mg mb : Str → Option Value} {dp un : Nat} {gd : Option (List Code)} {cn : Str} {cs : Scope} {a : Addr} {ccd : Value} {cl : List (Str × Addr)} {outer : List Env} {A₀ : Around} {base h₀ : Heap} {L : Addr} {m : Str → Option Value} {s : Shared} {Q E : Value → Shared → Prop} : Prop := ∀ (own : List (Addr × Obj)) (x dx rg l md pl fl : Addr) (o : Obj) (gs : List Value) (regs : List Int) (kk : Nat) (at' order steps : Int) (v : Value) (rs : List TR) (nm : Str) (p : Addr) (at2 : Int) (ov : Bool)
    (B : Below A₀ base outer h₀) (F : Fr h₀ L s.heap m) (X : (hd.heap_1 w.params).In h₀) (T : Top viewP LZ mean mg mb h₀) (hk : cs.kind = .function)
    (N : News h₀ L s.heap ((dx, o) :: (rg, listOf gs.toArray kk) :: own)) (hC : MachC PySem.Challenge.rw_pf0284_01.row.prog w own x dx l md pl rs) (hM : MObj o l md rg fl pl at' order steps false) (hof : OwnOff own [dx, rg]) (hdr : @LT.lt Nat _ dx rg) (hg : IntsAre gs regs) (hl : regs.length = 16)
    (hp4 : ∀ i : Nat, i < 4 → 0 ≤ regs.getD i 0 ∧ regs.getD i 0 < 1152921504606846976)
    (hd : dp + 40 < recursionLimit) (hu : un + 400 < cLine)
    (hR : NmIn own v nm p) (hn1 : nm ∈ [Str.ofString "add", Str.ofString "cmp_imm", Str.ofString "jcc", Str.ofString "jmp", Str.ofString "ret"]) (hn2 : nm ∈ [Str.ofString "jcc", Str.ofString "jmp", Str.ofString "ret"])
    (b1 : (nm == Str.ofString "order") = false) (b2 : [Str.ofString "order", Str.ofString "label", Str.ofString "entry"].any (fun y => y == nm) = false)
    (hw : WayP nm own x dx rg l md pl fl gs regs kk at' order (steps + 1) rs p at2 ov)
    (hret : ∀ (o' : Obj) (h' : Heap) (tks : Nat), Fr h₀ L h' m → News h₀ L h' ((dx, o') :: (rg, listOf gs.toArray kk) :: own) → MObj o' l md rg fl pl at2 order (steps + 1) ov → Q .none { s with heap := h', toks := tks }), wpAny (model PySem.Challenge.rw_pf0284_01.row.prog w) (ktrTop dp un gd cn cs L a ccd cl outer) (call (.ref 433) [.ref x, v]) Q E s
noncomputable def EK.E_dorow_way.Pc (c : Cb) : Prop := @EK.E_dorow_way.P c.w c.mean c.mg c.mb c.dp c.un c.gd c.cn c.cs c.a c.ccd c.cl c.outer c.A₀ c.base c.h₀ c.L c.m c.s c.Q c.E
end
end
section
open PyProof.V
inductive MAt (w : World) (own0 : List (Addr × Obj)) (x dx rg l md pl : Addr) (rs : List TR) (q : MS) (news : List (Addr × Obj)) : Prop
  | mk (o : Obj) (gs : List Value) (kk : Nat) (fl : Addr) (own : List (Addr × Obj))
    (f1 : news = (dx, o) :: (rg, listOf gs.toArray kk) :: own) (f2 : MObj o l md rg fl pl (q.i : Int) q.order q.steps q.over) (f3 : IntsAre gs q.regs) (f4 : (∀ y, q.fk = some y → FK own fl (some y))) (f5 : MachC PySem.Challenge.rw_pf0284_01.row.prog w own x dx l md pl rs) (f6 : OwnOff own [dx, rg]) (f7 : @LT.lt Nat _ dx rg) (f8 : (∀ p ∈ own0, p ∈ own)) : MAt w own0 x dx rg l md pl rs q news
section
noncomputable def EK.E_step_c.P {w : World} {mean : ExcName → Option Value} {mg mb : Str → Option Value} {dp un : Nat} {gd : Option (List Code)} {cn : Str} {cs : Scope} {a : Addr} {ccd : Value} {cl : List (Str × Addr)} {outer : List Env} {A₀ : Around} {base h₀ : Heap} {L : Addr} {m : Str → Option Value} {s : Shared} {Q E : Value → Shared → Prop} : Prop := ∀ (own0 : List (Addr × Obj)) (x dx rg l md pl : Addr) (rs : List TR) (q : MS) (news : List (Addr × Obj)) (vs : List Value) (n : Nat)
    (B : Below A₀ base outer h₀) (F : Fr h₀ L s.heap m) (X : (hd.heap_1 w.params).In h₀) (T : Top viewP LZ mean mg mb h₀) (hk : cs.kind = .function)
    (N : News h₀ L s.heap news) (hM : MAt w own0 x dx rg l md pl rs q news) (ho : q.over = false) (hl : (l, listOf vs.toArray n) ∈ own0) (hR : RowsIn own0 vs rs) (hi : q.i < rs.length) (hz : rs.length ≤ 64) (hD : DoOk rs rs[q.i] { q with i := q.i + 1 })
    (hd : dp + 50 < recursionLimit) (hu : un + 500 < cLine)
    (hret : ∀ (news' : List (Addr × Obj)) (h' : Heap) (tks : Nat), Fr h₀ L h' m → News h₀ L h' news' → MAt w own0 x dx rg l md pl rs (mdo rs rs[q.i] { q with i := q.i + 1 }) news' → Q .none { s with heap := h', toks := tks }), wpAny (model PySem.Challenge.rw_pf0284_01.row.prog w) (ktrTop dp un gd cn cs L a ccd cl outer) (call (.ref 440) [.ref x]) Q E s
noncomputable def EK.E_step_c.Pc (c : Cb) : Prop := @EK.E_step_c.P c.w c.mean c.mg c.mb c.dp c.un c.gd c.cn c.cs c.a c.ccd c.cl c.outer c.A₀ c.base c.h₀ c.L c.m c.s c.Q c.E
end
section
noncomputable def OutD (od : Obj) (order steps : Int) : Prop :=
  ∃ (h1 h2 h3 h4 h5 : Int) (t1 t2 t3 t4 t5 t6 t7 t8 t9 : Tok) (wo : Value) (n : Nat), od = dictOf [⟨h1, .str (Str.ofString "kind") t1, .str (Str.ofString "exit") t2⟩, ⟨h2, .str (Str.ofString "worth") t3, wo⟩, ⟨h3, .str (Str.ofString "what") t4, .str (Str.ofString "") t5⟩, ⟨h4, .str (Str.ofString "at") t6, .int order t7⟩, ⟨h5, .str (Str.ofString "steps") t8, .int steps t9⟩] n
noncomputable def EK.E_run_c.P {w : World} {mean : ExcName → Option Value} {mg mb : Str → Option Value} {dp un : Nat} {gd : Option (List Code)} {cn : Str} {cs : Scope} {a : Addr} {ccd : Value} {cl : List (Str × Addr)} {outer : List Env} {A₀ : Around} {base h₀ : Heap} {L : Addr} {m : Str → Option Value} {s : Shared} {Q E : Value → Shared → Prop} : Prop := ∀ (own0 : List (Addr × Obj)) (x dx rg l md pl : Addr) (rs : List TR) (news : List (Addr × Obj)) (vs : List Value) (n : Nat) (t : Tok)
    (B : Below A₀ base outer h₀) (F : Fr h₀ L s.heap m) (X : (hd.heap_1 w.params).In h₀) (T : Top viewP LZ mean mg mb h₀) (hk : cs.kind = .function)
    (N : News h₀ L s.heap news) (hM : MAt w own0 x dx rg l md pl rs q0 news) (hl : (l, listOf vs.toArray n) ∈ own0) (hR : RowsIn own0 vs rs) (W : WF rs)
    (hd : dp + 70 < recursionLimit) (hu : un + 700 < cLine)
    (hret : ∀ (e ed : Addr) (od o : Obj) (gs : List Value) (kk : Nat) (own : List (Addr × Obj)) (h' : Heap) (tks : Nat), Fr h₀ L h' m → News h₀ L h' ((e, instObj 210 ed) :: (ed, od) :: (dx, o) :: (rg, listOf gs.toArray kk) :: own) →
      OutD od (Mine.run none rs S0).o (Mine.run none rs S0).n → MO o rg → IntsAre gs ((Mine.run none rs S0).r ++ tail12) → (Mine.run none rs S0).r.length = 4 → (x, instObj 450 dx) ∈ own → (∀ p ∈ own0, p ∈ own) → Q (.ref e) { s with heap := h', toks := tks }), wpAny (model PySem.Challenge.rw_pf0284_01.row.prog w) (ktrTop dp un gd cn cs L a ccd cl outer) (call (.ref 447) [.ref x, .int 90 t]) Q E s
noncomputable def EK.E_run_c.Pc (c : Cb) : Prop := @EK.E_run_c.P c.w c.mean c.mg c.mb c.dp c.un c.gd c.cn c.cs c.a c.ccd c.cl c.outer c.A₀ c.base c.h₀ c.L c.m c.s c.Q c.E
end
end
section
structure PGo (rs : List TR) (fin : PS) (i : Nat) (S : PS) : Prop where
  lt : i < rs.length
  bnd : Bnd i S.r
  run : run none (rs.drop i) S = fin
section
variable {rs : List TR} {fin : PS} {i : Nat} {S : PS}
structure Jump (rs : List TR) (o : Bool) (g : Int) (j : Nat) : Prop where
  lt : j < rs.length
  hit : rs[j]? = some (.mark o g)
  fst : ∀ q, q < j → rs[q]? ≠ some (.mark o g)
end
end
section
open PyProof.V
noncomputable def PLoc (l rg fx : Addr) (i : Nat) (S : PS) (ta to ts td : Tok) (u : Str → Option Value) : Str → Option Value := fun y =>
  if y = Str.ofString "at" then some (.int (i : Int) ta) else if y = Str.ofString "order" then some (.int S.o to) else if y = Str.ofString "steps" then some (.int (S.n : Int) ts) else if y = Str.ofString "idle" then some (.int (S.d : Int) td)
  else if y = Str.ofString "flags" then some (.ref fx) else if y = Str.ofString "told" then some (.ref l) else if y = Str.ofString "regs" then some (.ref rg) else u y
inductive PInv (own0 : List (Addr × Obj)) (l rg : Addr) (kk : Nat) (rs : List TR) (fin : PS) (k : Nat) (m₁ : Str → Option Value) (nw : List (Addr × Obj)) : Prop
  | mk (i : Nat) (S : PS) (fx : Addr) (ta to ts td t1 t2 : Tok) (u : Str → Option Value) (fn : Nat) (gs : List Value) (own : List (Addr × Obj))
    (f1 : m₁ = PLoc l rg fx i S ta to ts td u) (f2 : nw = (rg, listOf gs.toArray kk) :: own) (f3 : IntsAre gs S.r) (f4 : (fx, tupO [.int S.f.1 t1, .int S.f.2 t2] fn) ∈ own) (f5 : (∀ p ∈ own0, p ∈ own)) (f6 : OwnOff own [rg]) (f7 : PGo rs fin i S) (f8 : rs.length - i = k) : PInv own0 l rg kk rs fin k m₁ nw
section
noncomputable def EK.E_passed_c.P {w : World} {mean : ExcName → Option Value} {mg mb : Str → Option Value} {dp un : Nat} {gd : Option (List Code)} {cn : Str} {cs : Scope} {a : Addr} {ccd : Value} {cl : List (Str × Addr)} {outer : List Env} {A₀ : Around} {base h₀ : Heap} {L : Addr} {m : Str → Option Value} {s : Shared} {Q E : Value → Shared → Prop} : Prop := ∀ (own0 : List (Addr × Obj)) (l rg : Addr) (vs : List Value) (n : Nat) (gs : List Value) (kk : Nat) (rs : List TR)
    (B : Below A₀ base outer h₀) (F : Fr h₀ L s.heap m) (X : (hd.heap_1 w.params).In h₀) (T : Top viewP LZ mean mg mb h₀) (hk : cs.kind = .function)
    (N : News h₀ L s.heap ((rg, listOf gs.toArray kk) :: own0)) (hl : (l, listOf vs.toArray n) ∈ own0) (hR : DatAll own0 vs (rs.map datOf)) (hI : IntsAre gs [9, 9, 9, 9]) (hof : OwnOff own0 [rg]) (W : WF rs)
    (hd : dp + 20 < recursionLimit) (hu : un + 300 < cLine)
    (hret : ∀ (D : Addr) (gs' : List Value) (t1 t2 t3 : Tok) (own : List (Addr × Obj)) (h' : Heap) (tks : Nat), Fr h₀ L h' m → News h₀ L h' ((D, tupO [.ref rg, .int (Mine.run none rs S0).o t1, .int (Mine.run none rs S0).n t2, .int (Mine.run none rs S0).d t3] 0) :: (rg, listOf gs'.toArray kk) :: own) → IntsAre gs' (Mine.run none rs S0).r → (Mine.run none rs S0).r.length = 4 → (∀ p ∈ own0, p ∈ own) → Q (.ref D) { s with heap := h', toks := tks }), wpAny (model PySem.Challenge.rw_pf0284_01.row.prog w) (ktrTop dp un gd cn cs L a ccd cl outer) (call (.ref 492) [.ref l, .ref rg]) Q E s
noncomputable def EK.E_passed_c.Pc (c : Cb) : Prop := @EK.E_passed_c.P c.w c.mean c.mg c.mb c.dp c.un c.gd c.cn c.cs c.a c.ccd c.cl c.outer c.A₀ c.base c.h₀ c.L c.m c.s c.Q c.E
end
end
section
set_option maxHeartbeats 400000
inductive KD where
  | mark | order | move | jump | branch | sum
  deriving DecidableEq
noncomputable def KD.s : KD → Str
  | .mark => Str.ofString "mark"
  | .order => Str.ofString "order"
  | .move => Str.ofString "move"
  | .jump => Str.ofString "jump"
  | .branch => Str.ofString "branch"
  | .sum => Str.ofString "sum"
noncomputable def KD.pl : KD → Nat → List (Bool × Int)
  | .mark, j => [(false, (j : Int))]
  | .order, j => [(true, (j : Int))]
  | _, _ => []
noncomputable def placesF : Nat → List KD → List (Bool × Int)
  | _, [] => []
  | j, k :: r => k.pl j ++ placesF (j + 1) r
noncomputable def laterF (ks : List KD) (i : Nat) : List (Bool × Int) := (placesF 0 ks).filter fun p => decide ((i : Int) < p.2)
noncomputable def GoalsP (pend : List (Bool × Int)) : List TR → Prop
  | [] => True
  | r :: rest => (∀ g, goalT r = some g → g ∈ keysL rest ∨ g ∈ pend) ∧ GoalsP pend rest
structure TS (ks : List KD) (i : Nat) (rs : List TR) : Prop where
  ok : ∀ r ∈ rs, okTR r
  ky : keysL rs = placesF 0 (ks.take i)
  go : GoalsP (placesF i (ks.drop i)) rs
  cm : CmpOk false rs
  le : rs.length ≤ 2 * i
end
section
set_option maxHeartbeats 400000
open PySem.Calls PyProof.V PySem.Spec PyProof.Rows.LCg
section
variable {prog : Program} {w : World} {A : Around} {E : Value → Shared → Prop} {s : Shared} {h₀ : Heap} {L : Addr} {m : Str → Option Value} {env : Env}
inductive EEnd (h₀ : Heap) (L : Addr) (m : Str → Option Value) (s₁ : Shared) (its : List (Addr × Obj)) (J : List (Addr × Obj) → Prop) (s₂ : Shared) : Prop
  | mk (h' : Heap) (tk : Nat) (news' : List (Addr × Obj))
    (f1 : s₂ = { s₁ with heap := h', toks := tk }) (f2 : Fr h₀ L h' m) (f3 : News h₀ L h' (its ++ news')) (f4 : (∀ p ∈ news', ∀ q ∈ its, p.1 ≠ q.1)) (f5 : J news') : EEnd h₀ L m s₁ its J s₂
structure Four (h₀ : Heap) (L e it C D : Addr) : Prop where
  e0 : h₀.get? e = none
  i0 : h₀.get? it = none
  c0 : h₀.get? C = none
  d0 : h₀.get? D = none
  eL : L ≠ e
  iL : L ≠ it
  cL : L ≠ C
  dL : L ≠ D
  ei : e ≠ it
  ec : e ≠ C
  ed : e ≠ D
  ic : it ≠ C
  id : it ≠ D
  cd : C ≠ D
noncomputable def ETurn (prog : Program) (w : World) (A : Around) (h₀ : Heap) (L : Addr) (m : Str → Option Value) (s : Shared) (env' : Addr → Env) (ct elt : PySem.Expr) (a b : Str) (vs : List Value) (Inv : Nat → List Value → List (Addr × Obj) → Prop) : Prop :=
  ∀ i ys nw v t e oe it oi C oC D m₂ h tk (E' : Value → Shared → Prop), vs[i]? = some v → Inv i ys nw → NsObj oC m₂ → m₂ a = some (.int (i : Int) t) → m₂ b = some v → Four h₀ L e it C D → Fr h₀ L h m →
    News h₀ L h ((e, oe) :: (it, oi) :: (C, oC) :: (D, lst ys) :: nw) → (∀ p ∈ nw, ∀ q ∈ [(e, oe), (it, oi), (C, oC), (D, lst ys)], p.1 ≠ q.1) →
    wpAny (model prog w) A (isTrue ct (env' C) (eval ct (env' C))) (fun ok s' => if ok = true then
      wpAny (model prog w) A (eval elt (env' C)) (fun y s₂ => EEnd h₀ L m { s with heap := h, toks := tk } [(e, oe), (it, oi), (C, oC), (D, lst ys)] (Inv (i + 1) (ys ++ [y])) s₂) E' s'
      else EEnd h₀ L m { s with heap := h, toks := tk } [(e, oe), (it, oi), (C, oC), (D, lst ys)] (Inv (i + 1) ys) s') E' { s with heap := h, toks := tk }
inductive EInv (h₀ : Heap) (L : Addr) (m : Str → Option Value) (s : Shared) (e it C D l : Addr) (vs : List Value) (Inv : Nat → List Value → List (Addr × Obj) → Prop) (k : Nat) (s' : Shared) : Prop
  | mk (h' : Heap) (tk i : Nat) (ys : List Value) (m' : Str → Option Value) (nw : List (Addr × Obj)) (f1 : s' = { s with heap := h', toks := tk }) (f2 : i ≤ vs.length) (f3 : k = vs.length + 1 - i) (f4 : ys.length ≤ i) (f5 : ∃ old, IsEnum h' e it (i : Int) old) (f6 : h'.IsListIter it l i)
    (f7 : Fr h₀ L h' m) (f8 : h'.Ns C m') (f9 : News h₀ L h' ((D, lst ys) :: nw)) (fa : ∀ p ∈ nw, p.1 ≠ e ∧ p.1 ≠ it ∧ p.1 ≠ C ∧ p.1 ≠ D) (fb : Inv i ys nw) : EInv h₀ L m s e it C D l vs Inv k s'
end
end
section
set_option maxHeartbeats 400000
open PySem.Calls PyProof.V PySem.Spec PyProof.Rows.LCg
section
variable {prog : Program} {w : World} {A : Around} {E : Value → Shared → Prop} {s : Shared} {h₀ : Heap} {L : Addr} {m : Str → Option Value} {env : Env}
noncomputable def ESrc (prog : Program) (w : World) (A : Around) (h₀ : Heap) (L : Addr) (m : Str → Option Value) (env : Env) (ct elt : PySem.Expr) (a b : Str) (scope : Scope) (cl : List (Str × Addr)) (Fin : Shared → List Value → List (Addr × Obj) → Prop) (xv : Value) (s₁ : Shared) : Prop :=
  ∃ (e it l : Addr) (vs : List Value) (n : Nat) (news : List (Addr × Obj)) (Inv : Nat → List Value → List (Addr × Obj) → Prop), xv = .ref e ∧ A.handled = none ∧ Fr h₀ L s₁.heap m ∧ News h₀ L s₁.heap news ∧ IsEnum s₁.heap e it ((0 : Nat) : Int) .none ∧ s₁.heap.IsListIter it l 0 ∧
    (e ≠ it ∧ L ≠ e ∧ L ≠ it ∧ h₀.get? e = none ∧ h₀.get? it = none) ∧ (∀ p ∈ news, p.1 ≠ e ∧ p.1 ≠ it) ∧ vs.length ≤ sizeLine ∧ (∀ i ys nw, Inv i ys nw → (l, listOf vs.toArray n) ∈ nw) ∧ Inv 0 [] news ∧
    ∀ s₂ : Shared, (∃ h tk, s₂ = { s₁ with heap := h, toks := tk }) → ETurn prog w A h₀ L m s₂ (fun C => compEnvC scope cl C env) ct elt a b vs Inv ∧ ∀ ys nw, Inv vs.length ys nw → Fin s₂ ys nw
end
end
section
inductive KsAre : List Value → List KD → Prop
  | nil : KsAre [] []
  | cons {vs : List Value} {ks : List KD} (k : KD) (t : Tok) : KsAre vs ks → KsAre (.str k.s t :: vs) (k :: ks)
inductive POpen (pen p0 : Addr) (own : List (Addr × Obj)) (h₀ h : Heap) (L : Addr) : Prop
  | mk (k c : Int) (tk tc : Tok) (n0 n1 : Nat) (vs : List Value) (ns : List Int)
    (f1 : IntsAre vs ns) (f2 : ns.length ≤ 64) (f3 : News h₀ L h ((pen, listOf #[.ref p0, .int k tk, .int c tc] n0) :: (p0, listOf vs.toArray n1) :: own)) : POpen pen p0 own h₀ h L
inductive TI1 (pen p0 : Addr) (tl : List (Addr × Obj)) (i : Nat) (ys : List Value) (nw : List (Addr × Obj)) : Prop
  | mk (k c : Int) (tk tc : Tok) (n0 n1 : Nat) (vs : List Value) (ns : List Int) (ks : List KD)
    (f1 : IntsAre vs ns) (f2 : ns.length ≤ 64) (f3 : nw = (pen, listOf #[.ref p0, .int k tk, .int c tc] n0) :: (p0, listOf vs.toArray n1) :: tl) (f4 : KsAre ys ks) (f5 : ks.length = i) : TI1 pen p0 tl i ys nw
inductive TI3 (pen p0 lr Dp Dk L' : Addr) (pvs kvs : List Value) (oc : Obj) (tl0 : List (Addr × Obj)) (ks : List KD) (i : Nat) (nw : List (Addr × Obj)) : Prop
  | mk (k c : Int) (tk tc : Tok) (n0 n1 : Nat) (vs : List Value) (ns : List Int) (os : Obj) (cv : Option Value) (vsr : List Value) (kr : Nat) (rs : List TR) (tl : List (Addr × Obj))
    (f1 : nw = (lr, listOf vsr.toArray kr) :: (Dp, LCg.lst pvs) :: (Dk, LCg.lst kvs) :: (pen, listOf #[.ref p0, .int k tk, .int c tc] n0) :: (p0, listOf vs.toArray n1) :: (L' + 1 + 1, os) :: (L' + 1, oc) :: tl) (f2 : IntsAre vs ns) (f3 : ns.length ≤ 64) (f4 : os.data = .cell cv)
    (f5 : OwnOff tl [lr, pen, p0, L' + 1 + 1]) (f6 : ∀ p ∈ tl0, p ∈ tl) (f7 : DatAll tl vsr (rs.map datOf)) (f8 : TS ks i rs) : TI3 pen p0 lr Dp Dk L' pvs kvs oc tl0 ks i nw
noncomputable def datP (p : Bool × Int) : Dat := .tuple [.str (kdS p.1), .int p.2]
inductive GoalV (tl0 : List (Addr × Obj)) : List (Bool × Int) → Value → Prop
  | no : GoalV tl0 [] .none
  | yes (ap : Addr) (ta tb : Tok) (kp : Nat) (go : Bool) (gg : Int) (lf : List (Bool × Int)) (hm : (ap, tupO [.str (kdS go) ta, .int gg tb] kp) ∈ tl0) (hl : (go, gg) ∈ lf) : GoalV tl0 lf (.ref ap)
inductive GoalP (g : Heap) (L' : Addr) (m : Str → Option Value) (pen p0 : Addr) (rest tl0 : List (Addr × Obj)) (lf : List (Bool × Int)) (gn : Array GenState) (dr : Drawn) (oz : OsState) : Value → Shared → Prop
  | mk (h' : Heap) (tk' : Nat) (gv : Value) (k c : Int) (tk tc : Tok) (n0 n1 : Nat) (vs : List Value) (ns : List Int) (hi : IntsAre vs ns) (hl : ns.length ≤ 64) (F : Fr g L' h' m)
    (N : News g L' h' ((pen, listOf #[.ref p0, .int k tk, .int c tc] n0) :: (p0, listOf vs.toArray n1) :: rest)) (hg : GoalV tl0 lf gv) : GoalP g L' m pen p0 rest tl0 lf gn dr oz gv ⟨h', gn, dr, tk', oz⟩
inductive KCase (tl0 : List (Addr × Obj)) (lf : List (Bool × Int)) (i : Nat) : KD → Value → Prop
  | mark (gv : Value) : KCase tl0 lf i .mark gv
  | order (gv : Value) : KCase tl0 lf i .order gv
  | mov (kd : KD) (gv : Value) (h1 : ((kd.s == Str.ofString "mark") || (kd.s == Str.ofString "order")) = false) (h2 : ((kd.s == Str.ofString "move") || (gv == .none)) = true) (hp : kd.pl i = []) : KCase tl0 lf i kd gv
  | jump (ap : Addr) (ta tb : Tok) (kp : Nat) (go : Bool) (gg : Int) (hm : (ap, tupO [.str (kdS go) ta, .int gg tb] kp) ∈ tl0) (hl : (go, gg) ∈ lf) : KCase tl0 lf i .jump (.ref ap)
  | branch (ap : Addr) (ta tb : Tok) (kp : Nat) (go : Bool) (gg : Int) (hm : (ap, tupO [.str (kdS go) ta, .int gg tb] kp) ∈ tl0) (hl : (go, gg) ∈ lf) : KCase tl0 lf i .branch (.ref ap)
  | sum (ap : Addr) : KCase tl0 lf i .sum (.ref ap)
section
noncomputable def EK.E_told_c.P {w : World} {mean : ExcName → Option Value} {mg mb : Str → Option Value} {dp un : Nat} {gd : Option (List Code)} {cn : Str} {cs : Scope} {a : Addr} {ccd : Value} {cl : List (Str × Addr)} {outer : List Env} {A₀ : Around} {base h₀ : Heap} {L : Addr} {m : Str → Option Value} {s : Shared} {Q E : Value → Shared → Prop} : Prop := ∀ (own : List (Addr × Obj)) (pen p0 : Addr) (k c : Int) (tk tc : Tok) (n0 n1 : Nat) (vs : List Value) (ns : List Int)
    (B : Below A₀ base outer h₀) (F : Fr h₀ L s.heap m) (X : (hd.heap_1 w.params).In h₀) (T : Top viewP LZ mean mg mb h₀) (hk : cs.kind = .function)
    (N : News h₀ L s.heap ((pen, listOf #[.ref p0, .int k tk, .int c tc] n0) :: (p0, listOf vs.toArray n1) :: own)) (hi : IntsAre vs ns) (hnl : ns.length ≤ 64) (hoff : OwnOff own [pen, p0]) (hne : @Ne Nat pen p0)
    (hd : dp + 30 < recursionLimit) (hu : un + 300 < cLine)
    (hret : ∀ (d : Addr) (ws : List Value) (kw : Nat) (rs : List TR) (own' : List (Addr × Obj)) (h' : Heap) (tks : Nat), Fr h₀ L h' m → News h₀ L h' ((d, listOf ws.toArray kw) :: own') → (∀ p ∈ own, p ∈ own') → (∀ p ∈ own, p.1 < d) → DatAll own' ws (rs.map datOf) → WF rs → Q (.ref d) { s with heap := h', toks := tks }), wpAny (model PySem.Challenge.rw_pf0284_01.row.prog w) (ktrTop dp un gd cn cs L a ccd cl outer) (call (.ref 478) [.ref pen]) Q E s
noncomputable def EK.E_told_c.Pc (c : Cb) : Prop := @EK.E_told_c.P c.w c.mean c.mg c.mb c.dp c.un c.gd c.cn c.cs c.a c.ccd c.cl c.outer c.A₀ c.base c.h₀ c.L c.m c.s c.Q c.E
end
end
section
set_option maxHeartbeats 400000
open PyProof.V PySem.Spec PySem.Calls
noncomputable def endD (o n : Int) (r : List Int) : Dat := .tuple [.str (Str.ofString "exit"), .int o, .int n, .list (r.map Dat.int)]
end
noncomputable def first : List (Cb → Prop) → Cb
  | [] => Classical.choice Cb.ne
  | P :: r => @ite _ (∃ c, ¬ P c) (Classical.propDecidable _) (Cb.eps P) (first r)
theorem first_all {P : Cb → Prop} {r : List (Cb → Prop)} (h : P (first (P :: r))) : ∀ c, P c := fun c => Classical.byContradiction fun n => by
  unfold first at h
  rw [if_pos ⟨c, n⟩] at h
  exact n (Cb.all h c)
theorem first_skip {P : Cb → Prop} {r : List (Cb → Prop)} (h : ∀ c, P c) : first (P :: r) = first r := by
  rw [first]
  exact if_neg fun ⟨c, n⟩ => n (h c)
noncomputable def EK.lst39 : List (Cb → Prop) := []
noncomputable def EK.lst38 : List (Cb → Prop) := EK.E_told_c.Pc :: EK.lst39
noncomputable def EK.lst37 : List (Cb → Prop) := EK.E_passed_c.Pc :: EK.lst38
noncomputable def EK.lst36 : List (Cb → Prop) := EK.E_run_c.Pc :: EK.lst37
noncomputable def EK.lst35 : List (Cb → Prop) := EK.E_step_c.Pc :: EK.lst36
noncomputable def EK.lst34 : List (Cb → Prop) := EK.E_dorow_way.Pc :: EK.lst35
noncomputable def EK.lst33 : List (Cb → Prop) := EK.E_dorow_cmp.Pc :: EK.lst34
noncomputable def EK.lst32 : List (Cb → Prop) := EK.E_dorow_add.Pc :: EK.lst33
noncomputable def EK.lst31 : List (Cb → Prop) := EK.E_dorow_mov.Pc :: EK.lst32
noncomputable def EK.lst30 : List (Cb → Prop) := EK.E_dorow_mark.Pc :: EK.lst31
noncomputable def EK.lst29 : List (Cb → Prop) := EK.E_wayjcc_c.Pc :: EK.lst30
noncomputable def EK.lst28 : List (Cb → Prop) := EK.E_cond_c.Pc :: EK.lst29
noncomputable def EK.lst27 : List (Cb → Prop) := EK.E_wayret_c.Pc :: EK.lst28
noncomputable def EK.lst26 : List (Cb → Prop) := EK.E_wayjmp_c.Pc :: EK.lst27
noncomputable def EK.lst25 : List (Cb → Prop) := EK.E_twoadd_c.Pc :: EK.lst26
noncomputable def EK.lst24 : List (Cb → Prop) := EK.E_twocmp_c.Pc :: EK.lst25
noncomputable def EK.lst23 : List (Cb → Prop) := EK.E_move_c.Pc :: EK.lst24
noncomputable def EK.lst22 : List (Cb → Prop) := EK.E_divno_c.Pc :: EK.lst23
noncomputable def EK.lst21 : List (Cb → Prop) := EK.E_shiftno_c.Pc :: EK.lst22
noncomputable def EK.lst20 : List (Cb → Prop) := EK.E_twono_c.Pc :: EK.lst21
noncomputable def EK.lst19 : List (Cb → Prop) := EK.E_moveno_c.Pc :: EK.lst20
noncomputable def EK.lst18 : List (Cb → Prop) := EK.E_put_c.Pc :: EK.lst19
noncomputable def EK.lst17 : List (Cb → Prop) := EK.E_take_c.Pc :: EK.lst18
noncomputable def EK.lst16 : List (Cb → Prop) := EK.E_sflags_c.Pc :: EK.lst17
noncomputable def EK.lst15 : List (Cb → Prop) := EK.E_dflags_c.Pc :: EK.lst16
noncomputable def EK.lst14 : List (Cb → Prop) := EK.E_signbit_c.Pc :: EK.lst15
noncomputable def EK.lst13 : List (Cb → Prop) := EK.E_wrap_c.Pc :: EK.lst14
noncomputable def EK.lst12 : List (Cb → Prop) := EK.E_init_c.Pc :: EK.lst13
noncomputable def EK.lst11 : List (Cb → Prop) := EK.E_checkrows_c.Pc :: EK.lst12
noncomputable def EK.lst10 : List (Cb → Prop) := EK.E_goalof_c.Pc :: EK.lst11
noncomputable def EK.lst9 : List (Cb → Prop) := EK.E_marks_c.Pc :: EK.lst10
noncomputable def EK.lst8 : List (Cb → Prop) := EK.E_checkrow_c.Pc :: EK.lst9
noncomputable def EK.lst7 : List (Cb → Prop) := EK.E_partfits_c.Pc :: EK.lst8
noncomputable def EK.lst6 : List (Cb → Prop) := EK.E_shapes_c.Pc :: EK.lst7
noncomputable def EK.lst5 : List (Cb → Prop) := EK.E_without_c.Pc :: EK.lst6
noncomputable def EK.lst4 : List (Cb → Prop) := EK.E_pick_c.Pc :: EK.lst5
noncomputable def EK.lst3 : List (Cb → Prop) := EK.E_draw_c.Pc :: EK.lst4
noncomputable def EK.lst2 : List (Cb → Prop) := EK.E_lidle_c.Pc :: EK.lst3
noncomputable def EK.lst1 : List (Cb → Prop) := EK.E_idle_c.Pc :: EK.lst2
noncomputable def EK.lst0 : List (Cb → Prop) := EK.E_ismark_c.Pc :: EK.lst1
noncomputable def kc : Cb := first EK.lst0
theorem EK.eqk0 : kc = first EK.lst0 := rfl
@[irreducible] noncomputable def EK.w : World := kc.w
@[irreducible] noncomputable def EK.mean : ExcName → Option Value := kc.mean
@[irreducible] noncomputable def EK.mg : Str → Option Value := kc.mg
@[irreducible] noncomputable def EK.mb : Str → Option Value := kc.mb
@[irreducible] noncomputable def EK.dp : Nat := kc.dp
@[irreducible] noncomputable def EK.un : Nat := kc.un
@[irreducible] noncomputable def EK.gd : Option (List Code) := kc.gd
@[irreducible] noncomputable def EK.cn : Str := kc.cn
@[irreducible] noncomputable def EK.cs : Scope := kc.cs
@[irreducible] noncomputable def EK.a : Addr := kc.a
@[irreducible] noncomputable def EK.ccd : Value := kc.ccd
@[irreducible] noncomputable def EK.cl : List (Str × Addr) := kc.cl
@[irreducible] noncomputable def EK.outer : List Env := kc.outer
@[irreducible] noncomputable def EK.A₀ : Around := kc.A₀
@[irreducible] noncomputable def EK.base : Heap := kc.base
@[irreducible] noncomputable def EK.h₀ : Heap := kc.h₀
@[irreducible] noncomputable def EK.L : Addr := kc.L
@[irreducible] noncomputable def EK.m : Str → Option Value := kc.m
@[irreducible] noncomputable def EK.s : Shared := kc.s
@[irreducible] noncomputable def EK.Q : Value → Shared → Prop := kc.Q
@[irreducible] noncomputable def EK.E : Value → Shared → Prop := kc.E
local macro_rules | `(tactic| k_lt $h:ident) => `(tactic| (replace $h := allLt_of $h; simp +zetaDelta only [AllLt, and_true] at $h:ident))
local macro_rules | `(tactic| k_steps) => `(tactic| k_extra "ks")
local macro_rules | `(tactic| k_mem) => `(tactic| k_extra "k_mem")
local macro_rules | `(tactic| k_in) => `(tactic| k_extra "in9")
local macro_rules | `(tactic| omega) => `(tactic| k_extra "om")
local macro_rules | `(tactic| walk_at $s:str) => `(tactic| k_extra $s)
theorem fill1 : (fun (_ : OpenLaw) (_ : Params → Frag) => True) PySem.Challenge.rw_pf0284_01 Mine.hd.heap_1 := by
  k_fill
  trivial
section
set_option maxHeartbeats 400000
section
variable {prog : Program} {w : World} {A : Around} {E : Value → Shared → Prop} {s : Shared} {h₀ : Heap} {L l : Addr} {m : Str → Option Value} {news : List (Addr × Obj)} {n : Nat}
theorem kw1 : True := by
 w_top off
 k_with "ml" => first | assumption | (refine memsub (by assumption) ?_; first | assumption | exact List.Mem.head _ | (refine List.Mem.tail _ ?_; first | exact List.Mem.head _ | (refine List.Mem.tail _ ?_; first | exact List.Mem.head _ | (refine List.Mem.tail _ ?_; first | exact List.Mem.head _ | (refine List.Mem.tail _ ?_; first | assumption) | assumption) | assumption) | assumption) | assumption)
 k_with "k_mem" => first | exact List.Mem.head _ | (refine List.Mem.tail _ ?_; k_extra "k_mem") | k_extra "ml"
 k_with "ks" => repeat' (first | (k_unfold; (try dsimp only)) | (k_end; kc_close) | (walk1; (try (first | (with_reducible show wpAny _ _ (exec _ _) _ _ _; (try dsimp only); (refine letq ?_; intro qk9ᵩ); (try with_reducible refine wpst ?_; intro tk9ᵩ); (try walk_at "fold9")) | (with_reducible show wpAny _ _ (execs _ _) _ _ _; k_fold)))) | (dsimp only; walk1) | (leave1; walk_say "STEP leave1"; try dsimp only) | (k_unmd; k_unfold; (try dsimp only)) | fail "no step")
 k_with "in9" => first | with_reducible assumption | (refine' Frag.In.keeps ?y9X (Fr.keep ?y9F); (case y9F => k_asm); (case y9X => k_asm))
 k_with "eval Constant str" => with_reducible refine kstr ?_
 k_with "eval Constant int" => with_reducible refine kint ?_
 k_with "oc" => first | (apply c1; assumption) | (apply c2; assumption) | (apply l2; assumption) | (apply c3; assumption) | (apply c4; assumption) | (apply c5; assumption) | (apply c6; assumption) | (apply c7; assumption) | (apply c8; assumption) | (apply c9; assumption) | (apply c10; assumption) | (apply c11; assumption) | (apply c12; assumption) | (apply c13; assumption) | (apply c14; assumption) | (apply c15; assumption) | (apply c16; assumption)
 k_with "od" => first | (apply c1; assumption) | (apply c2; assumption) | (apply l2; assumption) | (apply c3; assumption) | (apply c4; assumption) | (apply c5; assumption) | (apply c6; assumption) | (apply c7; assumption)
 k_with "on" => first | (apply zsy; assumption) | (apply zgt; first | assumption | k_extra "oc") | (apply zlt; first | assumption | k_extra "oc") | (apply gtt; assumption; first | assumption | k_extra "od") | (apply ltt; assumption; first | assumption | k_extra "od")
 k_with "oi" => first | exact nn0 | exact nn0' | exact z63 (by assumption) (by assumption) | exact z63b (by assumption) (by assumption) | exact n63 (by assumption) (by assumption) | exact n63b (by assumption) (by assumption) | exact z63c (by assumption) (by assumption) | exact z63d (by assumption) (by assumption) | exact nlt (by assumption) | exact n62 (by assumption) | exact n62b (by assumption) | exact tnl (by assumption) (by assumption) | exact sub1 (by assumption) | exact sub2 (by assumption) (by assumption) | decide | exact Int.lt_of_lt_of_le (by assumption) (by decide) | exact Nat.le_trans (by assumption) (by decide) | exact ul (by assumption) (by decide) | exact up0 (by assumption) (by assumption) | k_extra "oc"
 k_with "om" => first | (k_whole; with_reducible (first | assumption | (show @Ne Nat _ _; k_extra "on") | (show @Eq Nat _ _; first | exact tn1 (by assumption) | exact z0i) | ((first | show @LT.lt Int _ _ _ | show @LE.le Int _ _ _ | show @LT.lt Nat _ _ _ | show @LE.le Nat _ _ _); k_extra "oi")))
 k_with "execs cons If" => (k_here; (with_reducible show wpAny _ _ (execs (PySem.Stmt.If (PySem.Expr.Compare (PySem.Expr.Name _ _) [.Eq] [PySem.Expr.Constant (.str _) _ _] _) _ _ _ :: _) _) _ _ _); first | ((with_reducible show wpAny _ _ (execs (PySem.Stmt.If _ _ [] _ :: _) _) _ _ _); k_dflt (refine' cif_f ?F ?v ?x ?c ?k ?d ?_; (case F => k_asm); (case x => kernel_rfl!); (case k => kernel_rfl!); (case d => kernel_rfl!); (case v => rfl); (case c => first | with_reducible assumption | kernel_rfl!); k_whole)) | ((with_reducible show wpAny _ _ (execs [PySem.Stmt.If _ _ (_ :: _) _] _) _ _ _); k_dflt (refine' cif_g ?F ?v ?x ?c ?k ?d ?_; (case F => k_asm); (case x => kernel_rfl!); (case k => kernel_rfl!); (case d => kernel_rfl!); (case v => rfl); (case c => first | with_reducible assumption | kernel_rfl!); k_whole)) | ((with_reducible show wpAny _ _ (execs [PySem.Stmt.If _ _ _ _] _) _ _ _); k_dflt (refine' cif_t ?F ?v ?x ?c ?k ?d ?_; (case F => k_asm); (case x => kernel_rfl!); (case k => kernel_rfl!); (case d => kernel_rfl!); (case v => rfl); (case c => first | with_reducible assumption | kernel_rfl!); k_whole)) | k_dflt (refine' cif_r ?F ?v ?x ?c ?k ?d ?_; (case F => k_asm); (case x => kernel_rfl!); (case k => kernel_rfl!); (case d => kernel_rfl!); (case v => rfl); (case c => first | with_reducible assumption | kernel_rfl!); k_whole))
 k_with "callWith" => ((with_reducible show wpAny _ _ (callWith _ (Value.builtin _) (_ :: _) (backTo _ (starEach (_ :: _) _)) []) _ _ _); refine callWith_method1 ?_)
 k_with "callWith ref" => (k_here; k_dflt (first | (refine' callWith_K ?y9k ?y9l ?_; (case y9k => k_asm); (case y9l => k_is); k_whole) | (refine' callWith_K0 ?y9k ?y9l ?_; (case y9k => k_in); (case y9l => k_is); k_whole)))
 k_with "eval Name" => (k_here; (fail_if_success (with_reducible show wpAny _ _ (eval (PySem.Expr.Name _ _) (compEnvC _ _ _ _)) _ _ _)); k_dflt (first | (refine' nameX_L ?y9F ?y9v ?_ ?y9a ?y9b ?y9d; (case y9F => k_asm); (case y9a => kernel_rfl!); (case y9b => kernel_rfl!); (case y9d => kernel_rfl!); (case y9v => rfl); k_whole) | (refine' nameX_K ?y9F ?y9X ?y9T ?y9e ?_ ?y9a ?y9b; (case y9F => k_asm); (case y9X => k_asm); (case y9T => k_asm); (case y9a => kernel_rfl!); (case y9b => kernel_rfl!); (case y9e => k_is); k_whole) | (refine' nameX_C ?y9N ?y9c ?y9m ?y9d ?_ ?y9a ?y9b; (case y9a => kernel_rfl!); (case y9b => kernel_rfl!); (case y9N => k_asm); (case y9c => rfl); (case y9m => k_mem); (case y9d => k_asm); k_whole) | (refine' nameX_B ?y9F ?y9X ?y9T ?y9e ?y9v ?y9n ?_ ?y9a ?y9b; (case y9F => k_asm); (case y9X => k_asm); (case y9T => k_asm); (case y9a => kernel_rfl!); (case y9b => kernel_rfl!); (case y9e => k_is); (case y9v => boot_fast); (case y9n => decide); k_whole)))
 k_with "execs cons Return" => with_reducible refine cret ?_
 k_with "newTuple" => (k_here; k_dflt (refine' kup_newTuple (by k_asm) (by k_asm) ?_ (by kmk_size)); intro D'ᵩ h'ᵩ F'ᵩ N'ᵩ l1ᵩ; have l2ᵩ := l1ᵩ; (try k_lt l1ᵩ))
 k_with "k9" => (first | exact rfl | assumption)
 k_with "d9" => (first | exact rmc0 (by assumption) (by decide) | exact rmc 1 (by assumption) (by decide) | exact rmc 2 (by assumption) (by decide) | exact rmc 3 (by assumption) (by decide))
 k_with "u9" => (first | exact rmu0 (by assumption) (by decide) | exact rmu 3 (by assumption) (by decide) | exact rmu 6 (by assumption) (by decide) | exact rmu 9 (by assumption) (by decide) | exact rmu 1 (by assumption) (by decide) | exact rmu 4 (by assumption) (by decide) | exact rmu 7 (by assumption) (by decide))
 k_with "r9" => (first | exact rm0 (by assumption) | exact rm 1 (by assumption) (by decide) | exact rm 2 (by assumption) (by decide) | exact rm 3 (by assumption) (by decide) | exact rm 4 (by assumption) (by decide))
 k_with "b9" => (first | exact BindsTo.of_eq rfl | exact binds_K (by k_in) rfl (by k_is) rfl rfl rfl)
 k_with "c9" => (k_dflt (refine' code_def ?k1 ?k2 ?k3 ?k4 ?k5 ?kA ?kF ?kK ?k6 ?k7 ?k8 ?k9 ?kB ?_ ?c2 ?c3 ?c4 ?c5; (case kA => exact rfl); (case kF => exact rfl); (case kK => k_extra "k9"); (case k1 => k_asm); (case k2 => k_asm); (case k3 => k_asm); (case k4 => k_asm); (case k5 => k_asm); (case k6 => k_is); (case k7 => k_is); (case k8 => k_extra "r9"); (case k9 => k_extra "b9"); (case c5 => decide); (case kB => exact locs rfl); (case c2 => exact rfl); (case c3 => exact rfl); (case c4 => exact rfl); k_whole); intro g'ᵩ L'ᵩ h'ᵩ FG'ᵩ F'ᵩ N'ᵩ B'ᵩ X'ᵩ T'ᵩ; (try dsimp only))
 k_with "i9" => (k_dflt (refine' item_led (by k_asm) (by k_mem) (by omega) (by with_reducible assumption) (by omega) ?_ (by with_unfolding_all rfl); k_whole))
 k_with "j9" => (first | k_dflt (refine' item_tupleT (News.isTup (by k_asm) (by k_mem)) (by decide) (by decide) (by rfl) (by rfl) ?_ (by with_unfolding_all rfl); k_whole) | k_extra "i9")
 k_with "mo" => exact ⟨_, _, _, _, _, _, _, _, ⟨_, _, _, _, _, _, _, _, _, _, _, _, _, _, _, _, _, _, _, _, _, rfl⟩⟩
 k_with "nt" => (first | assumption | exact news_tl (by assumption) | exact news_tl (news_tl (by assumption)) | exact news_tl (news_tl (news_tl (by assumption))) | exact news_tl (news_tl (news_tl (news_tl (by assumption)))) | exact news_tl (news_tl (news_tl (news_tl (news_tl (by assumption))))) | exact news_tl (news_tl (news_tl (news_tl (news_tl (news_tl (by assumption)))))) | exact news_tl (news_tl (news_tl (news_tl (news_tl (news_tl (news_tl (by assumption))))))))
 k_with "subscriptTail Attribute Subscript Constant ref int" => (k_here; k_extra "j9")
 k_with "subscriptTail Name Constant ref int" => (k_here; k_extra "j9")
 k_with "subscriptTail Attribute Name Constant ref int" => (k_here; k_extra "j9")
 k_with "subscriptTail Name Name ref int" => (k_here; k_extra "i9")
 k_with "ite" => first | with_reducible refine ite_tt ?_ | with_reducible refine ite_ff ?_ | (k_closed; k_dflt (first | (with_reducible refine' ite_bp ?y9z ?_; (case y9z => kernel_rfl!)) | (with_reducible refine' ite_bn ?y9z ?_; (case y9z => kernel_rfl!)) | refine ite_pos (by decide) ?_ | refine ite_neg (by decide) ?_)) | (with_reducible refine ite_af (by decide +kernel) ?_) | (with_reducible refine ite_at (by decide +kernel) ?_) | (with_reducible refine ite_dp (by omega) ?_) | (with_reducible refine ite_dn (by omega) ?_) | (with_reducible refine ite_bp (by assumption) ?_) | (with_reducible refine ite_bn (by assumption) ?_)
 k_with "call builtin:len" => (k_here; (with_reducible show wpAny _ _ (call (Value.builtin "len") [Value.ref _]) _ _ _); k_dflt (refine' len_led (by k_asm) (by k_mem) (by with_reducible assumption) (by omega) ?_; k_whole))
 k_with "call ref" => (k_here; (with_reducible show wpAny _ _ (call (Value.ref _) _) _ _ _); refine wpAny_call ?_; k_extra "c9")
 trivial
theorem pick_from {vs : List Value} {x : Int} (h : 0 ≤ x) : (slicePick vs.toArray (some x) none none).toList = vs.drop x.toNat := by
  have e : sliceBounds (some x) none none vs.toArray.size = (((min x.toNat vs.toArray.size : Nat) : Int), ((vs.toArray.size : Nat) : Int), 1) := by
    simp only [sliceBounds, Option.getD_none, show (1 : Int) > 0 by decide, if_true, if_neg (show ¬ (x < 0) by omega)]
    congr 1
    omega
  rw [kmk_pick_nat _ e]
  show ((vs.drop (min x.toNat vs.toArray.size)).take (vs.toArray.size - min x.toNat vs.toArray.size)) = _
  rw [List.size_toArray, kmk_drop_min, List.take_of_length_le (by rw [List.length_drop]; omega)]
theorem pick_upto {vs : List Value} {y : Int} (h : 0 ≤ y) : (slicePick vs.toArray none (some y) none).toList = vs.take y.toNat := by
  have e : sliceBounds none (some y) none vs.toArray.size = (((0 : Nat) : Int), ((min y.toNat vs.toArray.size : Nat) : Int), 1) := by
    simp only [sliceBounds, Option.getD_none, show (1 : Int) > 0 by decide, if_true, if_neg (show ¬ (y < 0) by omega)]
    congr 1
    congr 1
    omega
  rw [kmk_pick_nat _ e]
  show ((vs.drop 0).take (min y.toNat vs.toArray.size - 0)) = _
  rw [List.drop_zero, Nat.sub_zero, List.size_toArray, kmk_take_min]
end
theorem rmc0 {dp k c : Nat} (h : dp + k < recursionLimit) (hj : c ≤ k) : dp + c < recursionLimit := Nat.lt_of_le_of_lt (Nat.add_le_add_left hj _) h
theorem rmc {dp k c : Nat} (j : Nat) (h : dp + k < recursionLimit) (hj : j + c ≤ k) : (dp + j) + c < recursionLimit := by
  rw [Nat.add_assoc]
  exact Nat.lt_of_le_of_lt (Nat.add_le_add_left hj _) h
theorem rmu0 {un k c : Nat} (h : un + k < cLine) (hj : c ≤ k) : un + c < cLine := Nat.lt_of_le_of_lt (Nat.add_le_add_left hj _) h
theorem rmu {un k c : Nat} (j : Nat) (h : un + k < cLine) (hj : j + c ≤ k) : (un + j) + c < cLine := by
  rw [Nat.add_assoc]
  exact Nat.lt_of_le_of_lt (Nat.add_le_add_left hj _) h
theorem sz64 {vs : List Value} {k : Nat} (h : vs.length = k) (hk : k ≤ 64) : vs.toArray.size ≤ sizeLine := by
  rw [List.size_toArray, h, PySem.sizeLine_eq]
  omega
theorem drop_cons {α : Type} {l : List α} {j : Nat} {v : α} {r : List α} (h : v :: r = l.drop j) : j < l.length ∧ l[j]? = some v ∧ r = l.drop (j + 1) := by
  have hlt : j < l.length := by
    by_cases hj : j < l.length
    · exact hj
    · rw [List.drop_eq_nil_of_le (by omega)] at h
      cases h
  rw [List.drop_eq_getElem_cons hlt] at h
  obtain ⟨rfl, rfl⟩ := List.cons.inj h
  exact ⟨hlt, List.getElem?_eq_getElem hlt, rfl⟩
theorem told_of {I : List (Addr × Obj)} {v : Value} {r : TR} (h : DatIn I v (datOf r)) : ToldIn I v r := by
  cases h with
  | tuple hm hv =>
    obtain ⟨t, qs, rfl, hv1⟩ := da_str hv
    obtain ⟨p, ps, j, qs', rfl, hp, hps, hv2⟩ := da_tup hv1
    obtain rfl := da_nil hv2
    exact ⟨_, p, t, _, j, ps, rfl, hm, hp, hps⟩
theorem told_get {I : List (Addr × Obj)} {vs : List Value} {rs : List TR} (h : DatAll I vs (rs.map datOf)) {i : Nat} (hi : i < rs.length) : ∃ v, vs[i]? = some v ∧ ToldIn I v rs[i] := by
  obtain ⟨v, hv, hd⟩ := h.get (k := i) (by simpa using hi)
  exact ⟨v, hv, told_of (by simpa using hd)⟩
theorem told_len {I : List (Addr × Obj)} {vs : List Value} {rs : List TR} (h : DatAll I vs (rs.map datOf)) : vs.length = rs.length := by
  rw [h.length, List.length_map]
theorem da_drop {I : List (Addr × Obj)} : ∀ {vs : List Value} {ds : List Dat} (k : Nat), DatAll I vs ds → DatAll I (vs.drop k) (ds.drop k)
  | _, _, 0, h => h
  | _, _, _ + 1, .nil => .nil
  | _, _, k + 1, .cons _ r => da_drop k r
section
variable {prog : Program} {w : World} {A : Around} {E : Value → Shared → Prop} {Q : Flow → Shared → Prop} {s : Shared} {env : Env} {h₀ : Heap} {target : PySem.Expr} {body : List Stmt}
theorem fpend {L : Addr} {its news news' : List (Addr × Obj)} {st : List Str} {m₀ m' : Str → Option Value} {P : Prop} {h' : Heap} {tk : Nat} (F : Fr h₀ L h' m') (N : News h₀ L h' news') (hm : ∀ z, st.contains z = false → m' z = m₀ z) (hn : ∀ p ∈ its ++ news, p ∈ news') (hp : P) :
    FPPost h₀ L its news st m₀ P s Q .next { s with heap := h', toks := tk } := ⟨h', tk, m', news', rfl, F, hm, N, hn, hp⟩
theorem fpret {L : Addr} {its news : List (Addr × Obj)} {st : List Str} {m₀ : Str → Option Value} {P : Prop} {x : Value} {s₃ : Shared} (h : Q (.ret x) s₃) : FPPost h₀ L its news st m₀ P s Q (.ret x) s₃ := h
theorem items_pure {ws : List (Addr × String)} {keep : List (Addr × Obj)} {m₀ : Str → Option Value} {news : List (Addr × Obj)} (st : List Str) (Inv : List Itm → Prop) (hk : SubL keep news) (hoff : ∀ p ∈ news, p.1 ∉ ws.map (·.1))
    (turn : ∀ a r (u : Str → Option Value) v its h tk, Inv (a :: r) → a.Is v h → Objs ws its → Fr h₀ env.locals h (fun z => if st.contains z then u z else m₀ z) → News h₀ env.locals h (its ++ news) →
      wpAny (model prog w) A (assign target env v) (fun _ s₂ => wpAny (model prog w) A (execs body env) (FPPost h₀ env.locals its news st m₀ (Inv r) { s with heap := h, toks := tk } Q) E s₂) E { s with heap := h, toks := tk })
    (done : ∀ (u : Str → Option Value) h tk, Inv [] → Fr h₀ env.locals h (fun z => if st.contains z then u z else m₀ z) → News h₀ env.locals h news → Q .next { s with heap := h, toks := tk }) :
    ∀ (xs : List Itm) (m : Str → Option Value), Inv xs → (∀ z, st.contains z = false → m z = m₀ z) → ItemsRest prog w A E h₀ env target body Q s ws keep xs m news := by
  have fr : ∀ {h : Heap} {m : Str → Option Value}, (∀ z, st.contains z = false → m z = m₀ z) → Fr h₀ env.locals h m → Fr h₀ env.locals h (fun z => if st.contains z then m z else m₀ z) := by
    intro h m hm F
    have e : (fun z => if st.contains z then m z else m₀ z) = m := by
      funext z
      by_cases hz : st.contains z = true
      · rw [if_pos hz]
      · rw [if_neg hz, hm z (by simpa using hz)]
    rw [e]
    exact F
  intro xs
  induction xs with
  | nil =>
    intro m hI hm h tk F N
    exact done m h tk hI (fr hm F) N
  | cons a r ih =>
    intro m hI hm v h tk ha F
    have key : ∀ (its : List (Addr × Obj)), Objs ws its → News h₀ env.locals h (its ++ news) →
        wpAny (model prog w) A (assign target env v) (fun _ s₂ => wpAny (model prog w) A (execs body env) (UnrPostW h₀ env.locals { s with heap := h, toks := tk } its (fun m' n' => SubL keep n' ∧ ItemsRest prog w A E h₀ env target body Q s ws keep r m' n') Q) E s₂) E { s with heap := h, toks := tk } := by
      intro its hO N
      refine wpAny_mono (turn a r m v its h tk hI ha hO (fr hm F) N) (fun _ s₂ p => wpAny_mono p (fun f s₃ q => ?_) fun _ _ x => x) fun _ _ x => x
      have fin : (∃ h' tk' m' news', s₃ = { s with heap := h', toks := tk' } ∧ Fr h₀ env.locals h' m' ∧ (∀ z, st.contains z = false → m' z = m₀ z) ∧ News h₀ env.locals h' news' ∧ (∀ p ∈ its ++ news, p ∈ news') ∧ Inv r) →
          UnrEndW h₀ env.locals { s with heap := h, toks := tk } its (fun m' n' => SubL keep n' ∧ ItemsRest prog w A E h₀ env target body Q s ws keep r m' n') s₃ := by
        rintro ⟨h', tk', m', news', rfl, F', hm', N', hn, hI'⟩
        refine ⟨h', tk', m', news, rfl, F', fun p hp => N' p (hn p hp), fun p hp q hq e => ?_, hk, ih m' hI' hm'⟩
        refine hoff p hp ?_
        rw [e, ← Objs.map hO]
        exact List.mem_map.mpr ⟨q, hq, rfl⟩
      cases f with
      | ret v => exact q
      | brk => exact q
      | next => exact fin q
      | cont => exact fin q
    have all : ∀ (ws' : List (Addr × String)) (k : List (Addr × Obj) → Prop), (∀ its, Objs ws' its → k its) → AllObj ws' k := by
      intro ws'
      induction ws' with
      | nil => intro k hk; exact hk [] trivial
      | cons w' r' ih' =>
        intro k hk o ho
        exact ih' _ fun its hO => hk _ ⟨⟨rfl, ho⟩, hO⟩
    exact all ws _ fun its hO => key its hO
theorem objs1 {I : Addr} {c : String} : ∀ {its : List (Addr × Obj)}, Objs [(I, c)] its → ∃ o, its = [(I, o)] ∧ o.cls = .type c
  | [], h => (show False from h).elim
  | [p], h => ⟨p.2, by have e : p.1 = I := h.1.1; rw [← e], h.1.2⟩
  | _ :: _ :: _, h => (show False from h.2).elim
theorem forP {l : Addr} {vs : List Value} {n : Nat} {m₀ : Str → Option Value} {news : List (Addr × Obj)} (st : List Str) (Inv : List Value → Prop)
    (hh : A.handled = none) (F : Fr h₀ env.locals s.heap m₀) (N : News h₀ env.locals s.heap news) (hm : (l, listOf vs.toArray n) ∈ news) (h0 : Inv vs)
    (turn : ∀ v r (u : Str → Option Value) I o h tk, Inv (v :: r) → (∀ p ∈ news, p.1 < I) → o.cls = .type "list_iterator" → Fr h₀ env.locals h (fun z => if st.contains z then u z else m₀ z) → News h₀ env.locals h ((I, o) :: news) →
      wpAny (model prog w) A (assign target env v) (fun _ s₂ => wpAny (model prog w) A (execs body env) (FPPost h₀ env.locals [(I, o)] news st m₀ (Inv r) { s with heap := h, toks := tk } Q) E s₂) E { s with heap := h, toks := tk })
    (done : ∀ (u : Str → Option Value) h tk, Inv [] → Fr h₀ env.locals h (fun z => if st.contains z then u z else m₀ z) → News h₀ env.locals h news → Q .next { s with heap := h, toks := tk }) :
    wpAny (model prog w) A (pyIter (.ref l)) (fun it s₂ => TurnsAt prog w A h₀ env target body Q E it s₂) E s := by
  refine iter_listTurns hh F N hm rfl rfl fun I hI => ?_
  refine items_pure (ws := [(I, "list_iterator")]) (keep := [(l, listOf vs.toArray n)]) st (fun xs => ∃ us, xs = us.map Itm.val ∧ Inv us) (And.intro hm trivial) ?_ ?_ ?_ _ _ ⟨vs, rfl, h0⟩ (fun _ _ => rfl)
  · intro p hp hq
    have : p.1 = I := by simpa using hq
    exact absurd (hI p hp) (by rw [this]; exact Nat.lt_irrefl _)
  · rintro a r u v its h tk ⟨us, hus, hInv⟩ hIs hO F1 N1
    cases us with
    | nil => cases hus
    | cons x us =>
      obtain ⟨rfl, rfl⟩ := List.cons.inj hus
      have hv : v = x := hIs
      subst hv
      obtain ⟨o, rfl, e2⟩ := objs1 hO
      refine wpAny_mono (turn v us u I o h tk hInv hI e2 F1 N1) (fun _ s₂ p => wpAny_mono p (fun f s₃ q => ?_) fun _ _ x => x) fun _ _ x => x
      cases f with
      | ret v => exact q
      | brk => exact q
      | next => obtain ⟨h', tk', m', news', a, b, c, d, e, f⟩ := q; exact ⟨h', tk', m', news', a, b, c, d, e, us, rfl, f⟩
      | cont => obtain ⟨h', tk', m', news', a, b, c, d, e, f⟩ := q; exact ⟨h', tk', m', news', a, b, c, d, e, us, rfl, f⟩
  · rintro u h tk ⟨us, hus, hInv⟩ F1 N1
    cases us with
    | nil => exact done u h tk hInv F1 N1
    | cons x us => cases hus
end
end
section
set_option maxHeartbeats 400000
theorem memsub {a b : List (Addr × Obj)} {x : Addr × Obj} (h : ∀ p ∈ a, p ∈ b) (hx : x ∈ a) : x ∈ b := h x hx
theorem Grow.refl {a : List (Addr × Obj)} : Grow a a := ⟨fun _ h => h, fun _ h => .inl h⟩
theorem Grow.trans {a b c : List (Addr × Obj)} (x : Grow a b) (y : Grow b c) : Grow a c :=
  ⟨fun p h => y.sub p (x.sub p h), fun p h => by
    rcases y.new p h with h | h
    · exact x.new p h
    · exact .inr fun q hq => h q (x.sub q hq)⟩
theorem Grow.cons {a b : List (Addr × Obj)} {D : Addr} {o : Obj} (x : Grow a b) (l : ∀ p ∈ a, p.1 < D) : Grow a ((D, o) :: b) :=
  ⟨fun p h => .tail _ (x.sub p h), fun p h => by
    rcases List.mem_cons.mp h with rfl | h
    · exact .inr l
    · exact x.new p h⟩
theorem Grow.off {a b : List (Addr × Obj)} {I : Addr} {o : Obj} (x : Grow a b) (hI : (I, o) ∈ a) {c : List (Addr × Obj)} (ha : ∀ p ∈ c, p.1 ≠ I) (hb : ∀ p ∈ a, p ∈ c ∨ True) : ∀ p ∈ b, p ∈ a ∨ p.1 ≠ I := fun p hp => by
  rcases x.new p hp with h | h
  · exact .inl h
  · exact .inr (Nat.ne_of_gt (h _ hI))
section
variable {prog : Program} {w : World} {A : Around} {E : Value → Shared → Prop} {Q : Flow → Shared → Prop} {s : Shared} {env : Env} {h₀ : Heap} {body : List Stmt}
theorem fiend {L : Addr} {its all : List (Addr × Obj)} {J : (Str → Option Value) → List (Addr × Obj) → Prop} {m' : Str → Option Value} {h' : Heap} {tk : Nat} (news' : List (Addr × Obj)) (F : Fr h₀ L h' m') (N : News h₀ L h' all) (hs : ∀ p ∈ its ++ news', p ∈ all) (ho : ∀ p ∈ news', ∀ q ∈ its, p.1 ≠ q.1) (hj : J m' news') :
    FIPost h₀ L its J s Q .next { s with heap := h', toks := tk } := ⟨h', tk, m', news', rfl, F, fun p hp => N p (hs p hp), ho, hj⟩
theorem firet {L : Addr} {its : List (Addr × Obj)} {J : (Str → Option Value) → List (Addr × Obj) → Prop} {x : Value} {s₃ : Shared} (h : Q (.ret x) s₃) : FIPost h₀ L its J s Q (.ret x) s₃ := h
theorem forR {x : Str} {r : Addr} {b₀ : Int} {t₀ u₀ v₀ : Tok} {n : Nat} {m₀ : Str → Option Value} {news : List (Addr × Obj)} (Inv : Nat → (Str → Option Value) → List (Addr × Obj) → Prop)
    (hh : A.handled = none) (hr : IsRange s.heap r 0 b₀ 1 t₀ u₀ v₀) (hsmall : Builtin.Range.small 0 b₀ 1 = true) (hn : Builtin.Range.rangeSize 0 b₀ 1 = (n : Int)) (F : Fr h₀ env.locals s.heap m₀) (N : News h₀ env.locals s.heap news) (h0 : Inv 0 m₀ news)
    (turn : ∀ (I : Addr) (o : Obj) (i : Nat) m₁ news₁ t h tk, o.cls = .type "range_iterator" → i < n → (∀ p ∈ news, p.1 < I) → Inv i m₁ news₁ → (∀ p ∈ news₁, p.1 ≠ I) → Fr h₀ env.locals h (fun y => if y = x then some (.int (i : Int) t) else m₁ y) → News h₀ env.locals h ((I, o) :: news₁) →
      wpAny (model prog w) A (execs body env) (FIPost h₀ env.locals [(I, o)] (Inv (i + 1)) { s with heap := h, toks := tk } Q) E { s with heap := h, toks := tk })
    (done : ∀ m₁ news₁ h tk, Inv n m₁ news₁ → Fr h₀ env.locals h m₁ → News h₀ env.locals h news₁ → Q .next { s with heap := h, toks := tk }) :
    wpAny (model prog w) A (pyIter (.ref r)) (fun it s₂ => LoopAtV prog w A h₀ env x body Q E it s₂) E s := by
  refine iter_rangeUnr hh hr hsmall hn F N fun I hI => ?_
  have key : ∀ (k i : Nat) m₁ news₁, i + k = n → Inv i m₁ news₁ → (∀ p ∈ news₁, p.1 ≠ I) → RangeRest prog w A E h₀ env x body Q s I 0 n k i m₁ news₁ := by
    intro k
    induction k with
    | zero =>
      intro i m₁ news₁ hi hJ _
      have : i = n := by omega
      subst this
      exact RangeRest.zero fun h tk F1 N1 => done m₁ news₁ h tk hJ F1 N1
    | succ k ih =>
      intro i m₁ news₁ hi hJ ho
      refine RangeRest.succ fun t h tk F1 N1 => ?_
      rw [Int.zero_add] at F1
      refine wpAny_mono (turn I _ i m₁ news₁ t h tk rfl (by omega) hI hJ ho F1 N1) (fun f s₃ q => ?_) fun _ _ e => e
      cases f with
      | ret v => exact q
      | brk => exact q
      | next => obtain ⟨h', tk', m', news', e, F', N', ho', hj⟩ := q; exact ⟨h', tk', m', news', e, F', N', fun p hp => ho' p hp _ (.head _), ih (i + 1) m' news' (by omega) hj fun p hp => ho' p hp _ (.head _)⟩
      | cont => obtain ⟨h', tk', m', news', e, F', N', ho', hj⟩ := q; exact ⟨h', tk', m', news', e, F', N', fun p hp => ho' p hp _ (.head _), ih (i + 1) m' news' (by omega) hj fun p hp => ho' p hp _ (.head _)⟩
  exact key n 0 m₀ news (by omega) h0 fun p hp => Nat.ne_of_lt (hI p hp)
theorem objs2 {I J : Addr} {c d : String} : ∀ {its : List (Addr × Obj)}, Objs [(I, c), (J, d)] its → ∃ o o', its = [(I, o), (J, o')]
  | [], h => (show False from h).elim
  | [_], h => (show False from h.2).elim
  | [p, q], h => ⟨p.2, q.2, by have e : p.1 = I := h.1.1; have e' : q.1 = J := h.2.1.1; rw [← e, ← e']⟩
  | _ :: _ :: _ :: _, h => (show False from h.2.2).elim
theorem objs2' {I J : Addr} {c d : String} (o o' : Obj) (h : Objs [(I, c), (J, d)] [(I, o), (J, o')]) : o.cls = .type c ∧ o'.cls = .type d := ⟨h.1.2, h.2.1.2⟩
theorem allObj_of : ∀ {ws : List (Addr × String)} {k : List (Addr × Obj) → Prop}, (∀ its, Objs ws its → k its) → AllObj ws k
  | [], _, hk => hk [] trivial
  | w :: r, k, hk => fun o ho => allObj_of (ws := r) (k := fun its => k ((w.1, o) :: its)) fun its hO => hk _ ⟨⟨rfl, ho⟩, hO⟩
theorem forE {elts : List PySem.Expr} {k : Nat} {pos : Pos} {l : Addr} {vs : List Value} {n : Nat} {m₀ : Str → Option Value} {news : List (Addr × Obj)} (Inv : Nat → (Str → Option Value) → List (Addr × Obj) → Prop)
    (hh : A.handled = none) (F : Fr h₀ env.locals s.heap m₀) (N : News h₀ env.locals s.heap news) (hm : (l, listOf vs.toArray n) ∈ news) (h0 : Inv 0 m₀ news) (hkeep : ∀ i m' news', Inv i m' news' → (l, listOf vs.toArray n) ∈ news')
    (turn : ∀ (I J : Addr) (o o' : Obj) (i : Nat) (v : Value) (T : Addr) t m₁ news₁ h tk, vs[i]? = some v → @Ne Nat I J → (∀ p ∈ news, p.1 < I ∧ p.1 < J) → Inv i m₁ news₁ → (∀ p ∈ news₁, ∀ q ∈ [(I, o), (J, o')], p.1 ≠ q.1) → IsTup h T #[.int (i : Int) t, v] → Fr h₀ env.locals h m₁ → News h₀ env.locals h ((I, o) :: (J, o') :: news₁) →
      wpAny (model prog w) A (assign (.Tuple elts k pos) env (.ref T)) (fun _ s₂ => wpAny (model prog w) A (execs body env) (FIPost h₀ env.locals [(I, o), (J, o')] (Inv (i + 1)) { s with heap := h, toks := tk } Q) E s₂) E { s with heap := h, toks := tk })
    (done : ∀ m₁ news₁ h tk, Inv vs.length m₁ news₁ → Fr h₀ env.locals h m₁ → News h₀ env.locals h news₁ → Q .next { s with heap := h, toks := tk }) :
    wpAny (model prog w) A (call (.type "enumerate") [.ref l]) (fun xv s₁ => wpAny (model prog w) A (pyIter xv) (fun it s₂ => TurnsAt prog w A h₀ env (.Tuple elts k pos) body Q E it s₂) E s₁) E s := by
  refine ktu_enum hh F N hm rfl rfl rfl fun I hI => ?_
  have key : ∀ (us : List Value) (i : Nat) m₁ news₁, us = vs.drop i → i ≤ vs.length → Inv i m₁ news₁ → (∀ p ∈ news₁, p.1 ≠ I + 1 ∧ p.1 ≠ I) → ItemsRest prog w A E h₀ env (.Tuple elts k pos) body Q s [(I + 1, "enumerate"), (I, "list_iterator")] [(l, listOf vs.toArray n)] (enumItems i us) m₁ news₁ := by
    intro us
    induction us with
    | nil =>
      intro i m₁ news₁ hu hi hJ _
      have : i = vs.length := by
        have := congrArg List.length hu
        rw [List.length_drop, List.length_nil] at this
        omega
      subst this
      exact ItemsRest.zero fun h tk F1 N1 => done m₁ news₁ h tk hJ F1 N1
    | cons v us ih =>
      intro i m₁ news₁ hu hi hJ ho
      obtain ⟨hlt, hv, hus⟩ := drop_cons hu
      refine ItemsRest.pair fun T t h tk hT F1 => allObj_of fun its hO N1 => ?_
      obtain ⟨o, o', rfl⟩ := objs2 hO
      refine wpAny_mono (turn (I + 1) I o o' i v T t m₁ news₁ h tk hv (Nat.succ_ne_self I) (fun p hp => ⟨Nat.lt_succ_of_lt (hI p hp), hI p hp⟩) hJ (fun p hp q hq => ?_) hT F1 N1) (fun _ s₂ p => wpAny_mono p (fun f s₃ q => ?_) fun _ _ e => e) fun _ _ e => e
      · have := ho p hp
        rcases List.mem_cons.mp hq with rfl | hq
        · exact this.1
        · rw [List.mem_singleton.mp hq]; exact this.2
      · have fin : (∃ h' tk' m' news', s₃ = { s with heap := h', toks := tk' } ∧ Fr h₀ env.locals h' m' ∧ News h₀ env.locals h' ([(I + 1, o), (I, o')] ++ news') ∧ (∀ p ∈ news', ∀ q ∈ [(I + 1, o), (I, o')], p.1 ≠ q.1) ∧ Inv (i + 1) m' news') →
            UnrEndW h₀ env.locals { s with heap := h, toks := tk } [(I + 1, o), (I, o')] (fun m' n' => SubL [(l, listOf vs.toArray n)] n' ∧ ItemsRest prog w A E h₀ env (.Tuple elts k pos) body Q s [(I + 1, "enumerate"), (I, "list_iterator")] [(l, listOf vs.toArray n)] (enumItems (i + 1) us) m' n') s₃ := by
          rintro ⟨h', tk', m', news', e, F', N', ho', hj⟩
          exact ⟨h', tk', m', news', e, F', N', ho', ⟨hkeep _ _ _ hj, trivial⟩, ih (i + 1) m' news' hus (by omega) hj fun p hp => ⟨ho' p hp _ (.head _), ho' p hp _ (.tail _ (.head _))⟩⟩
        cases f with
        | ret v => exact q
        | brk => exact q
        | next => exact fin q
        | cont => exact fin q
  exact key vs 0 m₀ news rfl (Nat.zero_le _) h0 fun p hp => ⟨Nat.ne_of_lt (Nat.lt_succ_of_lt (hI p hp)), Nat.ne_of_lt (hI p hp)⟩
end
theorem cend {h₀ : Heap} {L I C D : Addr} {m : Str → Option Value} {s₁ : Shared} {oI oC oD : Obj} {J : Value → List (Addr × Obj) → Prop} {y : Value} {h' : Heap} {tk : Nat} {all : List (Addr × Obj)} (news' : List (Addr × Obj))
    (F : Fr h₀ L h' m) (N : News h₀ L h' all) (sub : ∀ p ∈ (I, oI) :: (C, oC) :: (D, oD) :: news', p ∈ all) (off : ∀ p ∈ news', p.1 ≠ I ∧ p.1 ≠ C ∧ p.1 ≠ D) (r : J y news') :
    CEnd h₀ L m s₁ I oI C oC D oD J y { s₁ with heap := h', toks := tk } := ⟨h', tk, news', rfl, F, fun p hp => N p (sub p hp), off, r⟩
theorem cno {h₀ : Heap} {L I C D : Addr} {m : Str → Option Value} {s₁ : Shared} {oI oC oD : Obj} {J : List (Addr × Obj) → Prop} {h' : Heap} {tk : Nat} {all : List (Addr × Obj)} (news' : List (Addr × Obj))
    (F : Fr h₀ L h' m) (N : News h₀ L h' all) (sub : ∀ p ∈ (I, oI) :: (C, oC) :: (D, oD) :: news', p ∈ all) (off : ∀ p ∈ news', p.1 ≠ I ∧ p.1 ≠ C ∧ p.1 ≠ D) (r : J news') :
    CNo h₀ L m s₁ I oI C oC D oD J { s₁ with heap := h', toks := tk } := ⟨h', tk, news', rfl, F, fun p hp => N p (sub p hp), off, r⟩
section
variable {prog : Program} {w : World} {A : Around} {E : Value → Shared → Prop} {s : Shared} {h₀ : Heap} {L : Addr} {m : Str → Option Value} {env : Env} {ct elt : PySem.Expr} {x x₂ : Str} {scope : Scope} {cl : List (Str × Addr)} {S : List (Addr × Obj) → Prop} {P : Nat → Value → Prop} {Fin : List Value → List (Addr × Obj) → Prop} {n : Nat} {news : List (Addr × Obj)}
theorem compU (Inv : Nat → List Value → List (Addr × Obj) → Prop) (hS : ∀ i ys nw, Inv i ys nw → S nw) (h0 : Inv 0 [] news)
    (turn : ∀ i ys nw v I oI C oC D m₂ h tk (E' : Value → Shared → Prop), i < n → Inv i ys nw → P i v → LCg.NsObj oC m₂ → m₂ x = some v → Fr h₀ L h m → News h₀ L h ((I, oI) :: (C, oC) :: (D, LCg.lst ys) :: nw) → (∀ p ∈ nw, p.1 ≠ I ∧ p.1 ≠ C ∧ p.1 ≠ D) → ((@Ne Nat I C) ∧ (@Ne Nat I D) ∧ (@Ne Nat C D)) →
      wpAny (model prog w) A (eval elt (compEnvC scope cl C env)) (CEnd h₀ L m { s with heap := h, toks := tk } I oI C oC D (LCg.lst ys) (fun y nw' => Inv (i + 1) (ys ++ [y]) nw')) E' { s with heap := h, toks := tk })
    (fin : ∀ ys nw, Inv n ys nw → Fin ys nw) : LCg.CompRest prog w A h₀ L m env elt x scope cl s S P Fin n 0 [] news := by
  have key : ∀ (j i : Nat) ys nw, i + j = n → Inv i ys nw → LCg.CompRest prog w A h₀ L m env elt x scope cl s S P Fin j i ys nw := by
    intro j
    induction j with
    | zero =>
      intro i ys nw hi hJ
      have : i = n := by omega
      subst this
      exact LCg.CompRest.zero (fin ys nw hJ)
    | succ j ih =>
      intro i ys nw hi hJ
      refine LCg.CompRest.succ ?_
      intro v I oI C oC D m₂ h tk E' hv hC hx F N off ne
      refine wpAny_mono (turn i ys nw v I oI C oC D m₂ h tk E' (by omega) hJ hv hC hx F N off.mem ne) (fun y s₂ q => ?_) fun _ _ e => e
      obtain ⟨h', tk', news', e, F', N', off', hj⟩ := q
      exact ⟨h', tk', news', e, F', N', LCg.Off3.of off', hS _ _ _ hj, ih (i + 1) _ news' (by omega) hj⟩
  exact key n 0 [] news (by omega) h0
theorem compT (Inv : Nat → List Value → List (Addr × Obj) → Prop) (hS : ∀ i ys nw, Inv i ys nw → S nw) (h0 : Inv 0 [] news)
    (turn : ∀ i ys nw v I oI C oC D m₂ h tk (E' : Value → Shared → Prop), i < n → Inv i ys nw → P i v → LCg.NsObj oC m₂ → m₂ x = some v → Fr h₀ L h m → News h₀ L h ((I, oI) :: (C, oC) :: (D, LCg.lst ys) :: nw) → (∀ p ∈ nw, p.1 ≠ I ∧ p.1 ≠ C ∧ p.1 ≠ D) → ((@Ne Nat I C) ∧ (@Ne Nat I D) ∧ (@Ne Nat C D)) →
      wpAny (model prog w) A (isTrue ct (compEnvC scope cl C env) (eval ct (compEnvC scope cl C env))) (fun ok s' => if ok = true then
        wpAny (model prog w) A (eval elt (compEnvC scope cl C env)) (CEnd h₀ L m { s with heap := h, toks := tk } I oI C oC D (LCg.lst ys) (fun y nw' => Inv (i + 1) (ys ++ [y]) nw')) E' s'
        else CNo h₀ L m { s with heap := h, toks := tk } I oI C oC D (LCg.lst ys) (fun nw' => Inv (i + 1) ys nw') s') E' { s with heap := h, toks := tk })
    (fin : ∀ ys nw, Inv n ys nw → Fin ys nw) : LCt.CompRestT prog w A h₀ L m env ct elt x scope cl s S P Fin n 0 [] news := by
  have key : ∀ (j i : Nat) ys nw, i + j = n → Inv i ys nw → LCt.CompRestT prog w A h₀ L m env ct elt x scope cl s S P Fin j i ys nw := by
    intro j
    induction j with
    | zero =>
      intro i ys nw hi hJ
      have : i = n := by omega
      subst this
      exact LCt.CompRestT.zero (fin ys nw hJ)
    | succ j ih =>
      intro i ys nw hi hJ
      refine LCt.CompRestT.succ ?_
      intro v I oI C oC D m₂ h tk E' hv hC hx F N off ne
      refine wpAny_mono (turn i ys nw v I oI C oC D m₂ h tk E' (by omega) hJ hv hC hx F N off.mem ne) (fun b s₂ q => ?_) fun _ _ e => e
      cases b with
      | true =>
        simp only [if_true] at q ⊢
        refine wpAny_mono q (fun y s₃ q => ?_) fun _ _ e => e
        obtain ⟨h', tk', news', e, F', N', off', hj⟩ := q
        exact ⟨h', tk', news', e, F', N', LCg.Off3.of off', hS _ _ _ hj, ih (i + 1) _ news' (by omega) hj⟩
      | false =>
        simp only [Bool.false_eq_true, if_false] at q ⊢
        obtain ⟨h', tk', news', e, F', N', off', hj⟩ := q
        exact ⟨h', tk', news', e, F', N', LCg.Off3.of off', hS _ _ _ hj, ih (i + 1) _ news' (by omega) hj⟩
  exact key n 0 [] news (by omega) h0
theorem compP (Inv : Nat → List Value → List (Addr × Obj) → Prop) (hS : ∀ i ys nw, Inv i ys nw → S nw) (h0 : Inv 0 [] news)
    (item : ∀ i ys nw v, i < n → Inv i ys nw → P i v → ∃ (t : Addr) (v₁ v₂ : Value) (nt : Nat), v = .ref t ∧ (t, tupO [v₁, v₂] nt) ∈ nw ∧
      ∀ I oI C oC D m₂ h tk (E' : Value → Shared → Prop), LCg.NsObj oC m₂ → m₂ x = some v₁ → m₂ x₂ = some v₂ → Fr h₀ L h m → News h₀ L h ((I, oI) :: (C, oC) :: (D, LCg.lst ys) :: nw) → (∀ p ∈ nw, p.1 ≠ I ∧ p.1 ≠ C ∧ p.1 ≠ D) → ((@Ne Nat I C) ∧ (@Ne Nat I D) ∧ (@Ne Nat C D)) →
      wpAny (model prog w) A (eval elt (compEnvC scope cl C env)) (CEnd h₀ L m { s with heap := h, toks := tk } I oI C oC D (LCg.lst ys) (fun y nw' => Inv (i + 1) (ys ++ [y]) nw')) E' { s with heap := h, toks := tk })
    (fin : ∀ ys nw, Inv n ys nw → Fin ys nw) : LCp.CompRestP prog w A h₀ L m env elt x x₂ scope cl s S P Fin n 0 [] news := by
  have key : ∀ (j i : Nat) ys nw, i + j = n → Inv i ys nw → LCp.CompRestP prog w A h₀ L m env elt x x₂ scope cl s S P Fin j i ys nw := by
    intro j
    induction j with
    | zero =>
      intro i ys nw hi hJ
      have : i = n := by omega
      subst this
      exact LCp.CompRestP.zero (fin ys nw hJ)
    | succ j ih =>
      intro i ys nw hi hJ
      refine LCp.CompRestP.succ ?_
      intro v hv
      obtain ⟨t, v₁, v₂, nt, e, ht, turn⟩ := item i ys nw v (by omega) hJ hv
      refine ⟨t, _, v₁, v₂, nt, e, ht, rfl, rfl, ?_⟩
      intro I oI C oC D m₂ h tk E' hC hx hx₂ F N off ne
      refine wpAny_mono (turn I oI C oC D m₂ h tk E' hC hx hx₂ F N off.mem ne) (fun y s₂ q => ?_) fun _ _ e => e
      obtain ⟨h', tk', news', e, F', N', off', hj⟩ := q
      exact ⟨h', tk', news', e, F', N', LCg.Off3.of off', hS _ _ _ hj, ih (i + 1) _ news' (by omega) hj⟩
  exact key n 0 [] news (by omega) h0
end
section
variable {prog : Program} {w : World} {A : Around} {E : Value → Shared → Prop} {Q : Flow → Shared → Prop} {s : Shared} {env : Env} {h₀ : Heap} {body : List Stmt}
theorem fr_st {h : Heap} {L : Addr} {m m₀ : Str → Option Value} {st : List Str} (hm : ∀ z, st.contains z = false → m z = m₀ z) (F : Fr h₀ L h m) : Fr h₀ L h (fun z => if st.contains z then m z else m₀ z) := by
  have e : (fun z => if st.contains z then m z else m₀ z) = m := by
    funext z
    by_cases hz : st.contains z = true
    · rw [if_pos hz]
    · rw [if_neg hz, hm z (by simpa using hz)]
  rw [e]
  exact F
theorem fr_st' {h : Heap} {L : Addr} {x : Str} {v : Value} {m m₀ : Str → Option Value} {st : List Str} (hm : ∀ z, st.contains z = false → m z = m₀ z) (F : Fr h₀ L h (fun y => if y = x then some v else m y)) : Fr h₀ L h (fun y => if y = x then some v else if st.contains y then m y else m₀ y) := by
  have e : (fun y => if y = x then some v else if st.contains y then m y else m₀ y) = (fun y => if y = x then some v else m y) := by
    funext z
    by_cases hx : z = x
    · rw [if_pos hx, if_pos hx]
    · rw [if_neg hx, if_neg hx]
      by_cases hz : st.contains z = true
      · rw [if_pos hz]
      · rw [if_neg hz, hm z (by simpa using hz)]
  rw [e]
  exact F
theorem rsize (n : Nat) : Builtin.Range.rangeSize 0 (n : Int) 1 = (n : Int) := by
  rw [rangeSize_nat]
  omega
theorem forRs {x : Str} {r : Addr} {t₀ u₀ v₀ : Tok} {n : Nat} {m₀ : Str → Option Value} {news : List (Addr × Obj)} (st : List Str) (Inv : Nat → List (Addr × Obj) → Prop)
    (hh : A.handled = none) (hr : IsRange s.heap r 0 (n : Int) 1 t₀ u₀ v₀) (hz : n ≤ 64) (F : Fr h₀ env.locals s.heap m₀) (N : News h₀ env.locals s.heap news) (h0 : Inv 0 news)
    (turn : ∀ (I : Addr) (o : Obj) (i : Nat) (u : Str → Option Value) news₁ t h tk, o.cls = .type "range_iterator" → i < n → (∀ p ∈ news, p.1 < I) → Inv i news₁ → (∀ p ∈ news₁, p.1 ≠ I) → Fr h₀ env.locals h (fun y => if y = x then some (.int (i : Int) t) else if st.contains y then u y else m₀ y) → News h₀ env.locals h ((I, o) :: news₁) →
      wpAny (model prog w) A (execs body env) (FIPost h₀ env.locals [(I, o)] (JS st m₀ (Inv (i + 1))) { s with heap := h, toks := tk } Q) E { s with heap := h, toks := tk })
    (done : ∀ (u : Str → Option Value) news₁ h tk, Inv n news₁ → Fr h₀ env.locals h (fun y => if st.contains y then u y else m₀ y) → News h₀ env.locals h news₁ → Q .next { s with heap := h, toks := tk }) :
    wpAny (model prog w) A (pyIter (.ref r)) (fun it s₂ => LoopAtV prog w A h₀ env x body Q E it s₂) E s :=
  forR (fun i => JS st m₀ (Inv i)) hh hr (small_one (by decide) (by decide) (by omega) (by omega)) (rsize n) F N ⟨fun _ _ => rfl, h0⟩
    (fun I o i m₁ news₁ t h tk hc hi hI hJ ho F1 N1 => turn I o i m₁ news₁ t h tk hc hi hI hJ.2 ho (fr_st' hJ.1 F1) N1)
    (fun m₁ news₁ h tk hJ F1 N1 => done m₁ news₁ h tk hJ.2 (fr_st hJ.1 F1) N1)
theorem forEs {elts : List PySem.Expr} {k : Nat} {pos : Pos} {l : Addr} {vs : List Value} {n : Nat} {m₀ : Str → Option Value} {news : List (Addr × Obj)} (st : List Str) (Inv : Nat → List (Addr × Obj) → Prop)
    (hh : A.handled = none) (F : Fr h₀ env.locals s.heap m₀) (N : News h₀ env.locals s.heap news) (hm : (l, listOf vs.toArray n) ∈ news) (h0 : Inv 0 news) (hkeep : ∀ i news', Inv i news' → (l, listOf vs.toArray n) ∈ news')
    (turn : ∀ (I J : Addr) (o o' : Obj) (i : Nat) (v : Value) (T : Addr) t (u : Str → Option Value) news₁ h tk, vs[i]? = some v → @Ne Nat I J → (∀ p ∈ news, p.1 < I ∧ p.1 < J) → Inv i news₁ → (∀ p ∈ news₁, ∀ q ∈ [(I, o), (J, o')], p.1 ≠ q.1) → IsTup h T #[.int (i : Int) t, v] → Fr h₀ env.locals h (fun y => if st.contains y then u y else m₀ y) → News h₀ env.locals h ((I, o) :: (J, o') :: news₁) →
      wpAny (model prog w) A (assign (.Tuple elts k pos) env (.ref T)) (fun _ s₂ => wpAny (model prog w) A (execs body env) (FIPost h₀ env.locals [(I, o), (J, o')] (JS st m₀ (Inv (i + 1))) { s with heap := h, toks := tk } Q) E s₂) E { s with heap := h, toks := tk })
    (done : ∀ (u : Str → Option Value) news₁ h tk, Inv vs.length news₁ → Fr h₀ env.locals h (fun y => if st.contains y then u y else m₀ y) → News h₀ env.locals h news₁ → Q .next { s with heap := h, toks := tk }) :
    wpAny (model prog w) A (call (.type "enumerate") [.ref l]) (fun xv s₁ => wpAny (model prog w) A (pyIter xv) (fun it s₂ => TurnsAt prog w A h₀ env (.Tuple elts k pos) body Q E it s₂) E s₁) E s :=
  forE (fun i => JS st m₀ (Inv i)) hh F N hm ⟨fun _ _ => rfl, h0⟩ (fun i m' nw hJ => hkeep i nw hJ.2)
    (fun I J o o' i v T t m₁ news₁ h tk hv hne hI hJ ho hT F1 N1 => turn I J o o' i v T t m₁ news₁ h tk hv hne hI hJ.2 ho hT (fr_st hJ.1 F1) N1)
    (fun m₁ news₁ h tk hJ F1 N1 => done m₁ news₁ h tk hJ.2 (fr_st hJ.1 F1) N1)
end
section
variable {prog : Program} {w : World} {A : Around} {E : Value → Shared → Prop} {Q : Flow → Shared → Prop} {s : Shared} {env : Env} {h₀ : Heap} {target : PySem.Expr} {body : List Stmt}
theorem forT {l : Addr} {vs : List Value} {n : Nat} {m₀ : Str → Option Value} {news : List (Addr × Obj)} (st : List Str) (Inv : Nat → List (Addr × Obj) → Prop)
    (hh : A.handled = none) (F : Fr h₀ env.locals s.heap m₀) (N : News h₀ env.locals s.heap news) (hm : (l, tupO vs n) ∈ news) (h0 : Inv 0 news) (hkeep : ∀ i news', Inv i news' → (l, tupO vs n) ∈ news')
    (turn : ∀ (I : Addr) (o : Obj) (i : Nat) (v : Value) (u : Str → Option Value) news₁ h tk, o.cls = .type "tuple_iterator" → vs[i]? = some v → (∀ p ∈ news, p.1 < I) → Inv i news₁ → (∀ p ∈ news₁, p.1 ≠ I) → Fr h₀ env.locals h (fun y => if st.contains y then u y else m₀ y) → News h₀ env.locals h ((I, o) :: news₁) →
      wpAny (model prog w) A (assign target env v) (fun _ s₂ => wpAny (model prog w) A (execs body env) (FIPost h₀ env.locals [(I, o)] (JS st m₀ (Inv (i + 1))) { s with heap := h, toks := tk } Q) E s₂) E { s with heap := h, toks := tk })
    (done : ∀ (u : Str → Option Value) news₁ h tk, Inv vs.length news₁ → Fr h₀ env.locals h (fun y => if st.contains y then u y else m₀ y) → News h₀ env.locals h news₁ → Q .next { s with heap := h, toks := tk }) :
    wpAny (model prog w) A (pyIter (.ref l)) (fun it s₂ => TurnsAt prog w A h₀ env target body Q E it s₂) E s := by
  refine iter_tupTurns hh F N hm rfl rfl fun I hI => ?_
  have key : ∀ (us : List Value) (i : Nat) m₁ news₁, us = vs.drop i → i ≤ vs.length → JS st m₀ (Inv i) m₁ news₁ → (∀ p ∈ news₁, p.1 ≠ I) → ItemsRest prog w A E h₀ env target body Q s [(I, "tuple_iterator")] [(l, tupO vs n)] (us.map Itm.val) m₁ news₁ := by
    intro us
    induction us with
    | nil =>
      intro i m₁ news₁ hu hi hJ _
      have : i = vs.length := by
        have := congrArg List.length hu
        rw [List.length_drop, List.length_nil] at this
        omega
      subst this
      exact ItemsRest.zero fun h tk F1 N1 => done m₁ news₁ h tk hJ.2 (fr_st hJ.1 F1) N1
    | cons v us ih =>
      intro i m₁ news₁ hu hi hJ ho
      obtain ⟨hlt, hv, hus⟩ := drop_cons hu
      refine ItemsRest.val fun h tk F1 => allObj_of fun its hO N1 => ?_
      obtain ⟨o, rfl, e2⟩ := objs1 hO
      refine wpAny_mono (turn I o i v m₁ news₁ h tk e2 hv hI hJ.2 ho (fr_st hJ.1 F1) N1) (fun _ s₂ p => wpAny_mono p (fun f s₃ q => ?_) fun _ _ e => e) fun _ _ e => e
      have fin : (∃ h' tk' m' news', s₃ = { s with heap := h', toks := tk' } ∧ Fr h₀ env.locals h' m' ∧ News h₀ env.locals h' ([(I, o)] ++ news') ∧ (∀ p ∈ news', ∀ q ∈ [(I, o)], p.1 ≠ q.1) ∧ JS st m₀ (Inv (i + 1)) m' news') →
          UnrEndW h₀ env.locals { s with heap := h, toks := tk } [(I, o)] (fun m' n' => SubL [(l, tupO vs n)] n' ∧ ItemsRest prog w A E h₀ env target body Q s [(I, "tuple_iterator")] [(l, tupO vs n)] (us.map Itm.val) m' n') s₃ := by
        rintro ⟨h', tk', m', news', e, F', N', ho', hj⟩
        exact ⟨h', tk', m', news', e, F', N', ho', ⟨hkeep _ _ hj.2, trivial⟩, ih (i + 1) m' news' hus (by omega) hj fun p hp => ho' p hp _ (.head _)⟩
      cases f with
      | ret v => exact q
      | brk => exact q
      | next => exact fin q
      | cont => exact fin q
  exact key vs 0 m₀ news rfl (Nat.zero_le _) ⟨fun _ _ => rfl, h0⟩ fun p hp => Nat.ne_of_lt (hI p hp)
end
end
section
set_option maxHeartbeats 400000
open PySem.Spec PySem.Calls PyProof.V
theorem kdS_inj : ∀ {a b : Bool}, kdS a = kdS b → a = b
  | true, true, _ => rfl
  | false, false, _ => rfl
  | true, false, h => absurd h (by decide)
  | false, true, h => absurd h (by decide)
theorem mkey_inj {a b : Bool × Int} (h : mkey a = mkey b) : a = b := by
  unfold mkey at h
  simp only [List.cons.injEq, MK.s.injEq, MK.i.injEq, and_true] at h
  exact Prod.ext (kdS_inj h.1) h.2
theorem XsMs.length : ∀ {xs ms}, XsMs xs ms → xs.length = ms.length := fun H => by
  induction H with
  | nil => rfl
  | cons _ ih => exact congrArg (· + 1) ih
theorem XsMs.snoc {k : Bool × Int} {i : Nat} {a : Addr} {t : Tok} : ∀ {xs ms}, XsMs xs ms → XsMs (xs ++ [(mkey k, a, .int (i : Int) t)]) (ms ++ [(k, i)])
  | _, _, .nil => .cons .nil
  | _, _, .cons h => .cons h.snoc
theorem XsMs.look {k : Bool × Int} : ∀ {xs ms}, XsMs xs ms → match lk ms k with | some i => ∃ a t, atKey xs (mkey k) = some (a, .int (i : Int) t) | none => atKey xs (mkey k) = none
  | _, _, .nil => rfl
  | _, _, .cons (k := q) (i := j) (a := b) (t := u) (xs := xs) (ms := ms) h => by
    by_cases e : q = k
    · subst e
      simp only [lk, List.find?_cons, decide_true, Option.map_some]
      exact ⟨b, u, by simp [atKey]⟩
    · have e' : ¬ mkey q = mkey k := fun x => e (mkey_inj x)
      have ih := h.look (k := k)
      have l1 : lk ((q, j) :: ms) k = lk ms k := by simp [lk, List.find?_cons, e]
      have l2 : atKey ((mkey q, b, Value.int (j : Int) u) :: xs) (mkey k) = atKey xs (mkey k) := by simp [atKey, List.find?_cons, e']
      rw [l1, l2]
      exact ih
theorem marksL_take : ∀ (rs : List TR) (j i : Nat) (h : i < rs.length), marksL j (rs.take (i + 1)) = marksL j (rs.take i) ++ (match rs[i] with | .mark o n => [((o, n), j + i)] | _ => [])
  | r :: rs, j, 0, _ => by cases r <;> rfl
  | r :: rs, j, i + 1, h => by
    have ih := marksL_take rs (j + 1) i (Nat.lt_of_succ_lt_succ h)
    have e : j + 1 + i = j + (i + 1) := by omega
    cases r <;> simp only [List.take_succ_cons, marksL, List.getElem_cons_succ, ih, e, List.cons_append]
theorem marksL_append : ∀ (rs qs : List TR) (j : Nat), marksL j (rs ++ qs) = marksL j rs ++ marksL (j + rs.length) qs
  | [], _, _ => rfl
  | r :: rs, qs, j => by
    have ih := marksL_append rs qs (j + 1)
    have e : j + 1 + rs.length = j + (rs.length + 1) := by omega
    cases r <;> simp only [List.cons_append, marksL, ih, List.length_cons, e]
theorem lk_none {ms : List ((Bool × Int) × Nat)} {k : Bool × Int} (h : k ∉ ms.map (·.1)) : lk ms k = none := by
  unfold lk
  rw [Option.map_eq_none_iff, List.find?_eq_none]
  intro x hx hk
  exact h (List.mem_map.mpr ⟨x, hx, of_decide_eq_true hk⟩)
theorem marks_fresh {rs : List TR} {i : Nat} {o : Bool} {n : Int} (hnd : ((marksL 0 rs).map (·.1)).Nodup) (h : i < rs.length) (hr : rs[i] = .mark o n) : lk (marksL 0 (rs.take i)) (o, n) = none := by
  refine lk_none fun hm => ?_
  have e : rs = rs.take i ++ rs.drop i := (List.take_append_drop i rs).symm
  rw [e, marksL_append, List.drop_eq_getElem_cons h, hr, List.map_append, List.nodup_append] at hnd
  exact hnd.2.2 _ hm _ (by simp [marksL]) rfl
theorem marksL_len : ∀ (rs : List TR) (j : Nat), (marksL j rs).length ≤ rs.length
  | [], _ => Nat.le_refl _
  | r :: rs, j => by
    have ih := marksL_len rs (j + 1)
    cases r <;> simp only [marksL, List.length_cons] <;> omega
section
variable {prog : Program} {w : World} {A : Around} {E : Value → Shared → Prop} {s : Shared} {h₀ h : Heap} {L d a : Addr} {m : Str → Option Value} {news nw : List (Addr × Obj)} {o : Obj} {ms : List ((Bool × Int) × Nat)} {k : Bool × Int} {ok : Obj}
theorem MarksAt.mono (M : MarksAt prog w nw o ms) (hs : ∀ p ∈ nw, p ∈ news) : MarksAt prog w news o ms := by
  obtain ⟨es, ep, xs, a, b, c, e, f, g⟩ := M
  exact ⟨es, ep, xs, a, b, c, e, fun x hx => let ⟨ok, hm, t⟩ := f x hx; ⟨ok, hs _ hm, t⟩, g⟩
theorem MarksAt.cls (M : MarksAt prog w nw o ms) : o.cls = .type "dict" := let ⟨_, _, _, a, _⟩ := M; a.1
theorem MarksAt.empty {K' : Type} [DecidableEq K'] {knd' : KeyKind prog w K'} (hd : o.IsDictOf knd' []) : MarksAt prog w nw o [] := by
  obtain ⟨es, ep, hc, hdat, _, hp, _⟩ := hd
  have he : es.toList = [] := List.length_eq_zero_iff.mp hp.length
  exact ⟨es, ep, [], hc, hdat, he, List.nodup_nil, fun _ hx => by simp at hx, .nil⟩
theorem MarksAt.dictOf (M : MarksAt prog w nw o ms) (N : News h₀ L h news) (hm : (d, o) ∈ news) (hs : ∀ p ∈ nw, p ∈ news) : ∃ xs, h.DictOfH (tupleKind (mixKind prog w)) d xs ∧ XsMs xs ms := by
  obtain ⟨es, ep, xs, a, b, c, e, f, g⟩ := M
  exact ⟨xs, ⟨o, es, ep, N.get hm, a, b, c, fun x hx => let ⟨_, hk, t⟩ := f x hx; t.key (N.get (hs _ hk)), e⟩, g⟩
theorem mkey_obj {o : Bool} {n : Int} {t u : Tok} {j : Nat} : TupKeyObj (mixKind prog w) (mkey (o, n)) (tupO [.str (kdS o) t, .int n u] j) :=
  ⟨rfl, _, _, rfl, .cons (by simp [mixKind, MK.is, Value.isStrOf]) (.cons (by simp [mixKind, MK.is, Value.isInt]) .nil)⟩
theorem marks_in {Q : Value → Shared → Prop} (N : News h₀ L s.heap news) (hm : (d, o) ∈ news) (lo : (d == sysModules) = false) (M : MarksAt prog w nw o ms) (hs : ∀ p ∈ nw, p ∈ news) (ha : (a, ok) ∈ news) (tk : TupKeyObj (mixKind prog w) (mkey k) ok) (hu : A.units + 1 < cLine)
    (h : Q (.bool (lk ms k).isSome) { s with toks := s.toks + 3 }) : wpAny (model prog w) A (compareOp .In (.ref a) (.ref d)) Q E s := by
  obtain ⟨xs, hD, hX⟩ := M.dictOf N hm hs
  refine wpAny_in_heap (knd := tupleKind (mixKind prog w)) (tupleKind_room_in1 hu) (tk.key (N.get ha)) lo hD ?_
  have l := hX.look (k := k)
  have e : (atKey xs (mkey k)).isSome = (lk ms k).isSome := by
    revert l
    cases lk ms k with
    | none => intro l; rw [l]; rfl
    | some i => rintro ⟨a, t, l⟩; rw [l]; rfl
  rw [e]
  exact h
theorem marks_in_none {Q : Value → Shared → Prop} (N : News h₀ L s.heap news) (hm : (d, o) ∈ news) (lo : (d == sysModules) = false) (M : MarksAt prog w nw o ms) (hs : ∀ p ∈ nw, p ∈ news) (ha : (a, ok) ∈ news) (tk : TupKeyObj (mixKind prog w) (mkey k) ok) (hu : A.units + 1 < cLine)
    (hl : lk ms k = none) (h : ∀ tk, Q (.bool false) { s with toks := tk }) : wpAny (model prog w) A (compareOp .In (.ref a) (.ref d)) Q E s :=
  marks_in N hm lo M hs ha tk hu (by rw [hl]; exact h _)
theorem marks_notIn {Q : Value → Shared → Prop} (N : News h₀ L s.heap news) (hm : (d, o) ∈ news) (lo : (d == sysModules) = false) (M : MarksAt prog w nw o ms) (hs : ∀ p ∈ nw, p ∈ news) (ha : (a, ok) ∈ news) (tk : TupKeyObj (mixKind prog w) (mkey k) ok) (hu : A.units + 1 < cLine)
    (h : Q (.bool (!(lk ms k).isSome)) { s with toks := s.toks + 3 }) : wpAny (model prog w) A (compareOp .NotIn (.ref a) (.ref d)) Q E s := by
  obtain ⟨xs, hD, hX⟩ := M.dictOf N hm hs
  refine wpAny_notIn_heap (knd := tupleKind (mixKind prog w)) (tupleKind_room_in1 hu) (tk.key (N.get ha)) lo hD ?_
  have l := hX.look (k := k)
  have e : (atKey xs (mkey k)).isSome = (lk ms k).isSome := by
    revert l
    cases lk ms k with
    | none => intro l; rw [l]; rfl
    | some i => rintro ⟨a, t, l⟩; rw [l]; rfl
  rw [e]
  exact h
theorem marks_item {value slice : PySem.Expr} {i : Nat} {Q : Value → Shared → Prop} (N : News h₀ L s.heap news) (hm : (d, o) ∈ news) (M : MarksAt prog w nw o ms) (hs' : ∀ p ∈ nw, p ∈ news) (ha : (a, ok) ∈ news) (tk : TupKeyObj (mixKind prog w) (mkey k) ok) (hu : A.units + 1 < cLine)
    (hl : lk ms k = some i) (h : ∀ t, Q (.int (i : Int) t) { s with toks := s.toks + 3 })
    (hs : subscripted slice false (.ref d) (.ref a) = operate [.ref d, .ref a] (getItem (.ref d) (.ref a)) := by with_unfolding_all rfl) (hg : ∀ r, letTemporaryGo value (.ref d) r = pure () := by intro _; with_unfolding_all rfl) :
    wpAny (model prog w) A (subscriptTail value slice (.ref d) (.ref a)) Q E s := by
  obtain ⟨xs, hD, hX⟩ := M.dictOf N hm hs'
  have l := hX.look (k := k)
  rw [hl] at l
  obtain ⟨b, t, l⟩ := l
  exact subscriptTail_builtin hD.typeIs slot_dict_getitem.lookup (wpAny_getItem_heap (knd := tupleKind (mixKind prog w)) (tupleKind_room_in1 hu) (tk.key (N.get ha)) hD l (h t)) hs hg
theorem marks_set {i : Nat} {t : Tok} {Q : Unit → Shared → Prop} (F : Fr h₀ L s.heap m) (N : News h₀ L s.heap news) (hm : (d, o) ∈ news) (own : List (Addr × Obj)) (hso : ∀ p ∈ own, p ∈ news) (hof : ∀ p ∈ own, p.1 ≠ d) (M : MarksAt prog w nw o ms) (hs : ∀ p ∈ nw, p ∈ own) (ha : (a, ok) ∈ own) (tk : TupKeyObj (mixKind prog w) (mkey k) ok) (hu : A.units + 1 < cLine)
    (hl : lk ms k = none) (hz : ms.length ≤ sizeLine) (h : ∀ h' o', Fr h₀ L h' m → News h₀ L h' ((d, o') :: own) → MarksAt prog w ((a, ok) :: nw) o' (ms ++ [(k, i)]) → Q () { s with heap := h', toks := s.toks + 3 }) :
    wpAny (model prog w) A (setItem (.ref d) (.ref a) (.int (i : Int) t)) Q E s := by
  obtain ⟨es, ep, xs, hc, hd, he, hn, hk, hX⟩ := M
  have hD : s.heap.DictOfH (tupleKind (mixKind prog w)) d xs := ⟨o, es, ep, N.get hm, hc, hd, he, fun x hx => let ⟨_, hmk, t⟩ := hk x hx; t.key (N.get (hso _ (hs _ hmk))), hn⟩
  refine wpAny_setItem_heap (hsz := by rw [hX.length]; exact hz) (knd := tupleKind (mixKind prog w)) (tupleKind_room_in1 hu) (tk.key (N.get (hso _ ha))) hD fun h' hm' hs' => ?_
  obtain ⟨o', es', ep', ho', hc', hd', he', _, hn'⟩ := hm'
  have l := hX.look (k := k)
  rw [hl] at l
  have l' : atKey xs (mkey k) = none := l
  rw [storedH_new l'] at he' hn'
  refine h h' o' (F.change hs' (N _ hm).2.1 (N.fresh hm)) (fun p hp => ?_) ⟨es', ep', _, hc', hd', he', hn', fun x hx => ?_, hX.snoc⟩
  · rcases List.mem_cons.mp hp with rfl | hp
    · exact ⟨ho', (N _ hm).2⟩
    · exact ⟨(hs'.2 _ (hof p hp)).trans (N _ (hso _ hp)).1, (N _ (hso _ hp)).2⟩
  · rcases List.mem_append.mp hx with hx | hx
    · obtain ⟨okx, hmk, t⟩ := hk x hx
      exact ⟨okx, .tail _ hmk, t⟩
    · rw [List.mem_singleton.mp hx]
      exact ⟨ok, .head _, tk⟩
end
section
variable {prog : Program} {w : World} {A : Around} {E : Value → Shared → Prop} {s : Shared} {h₀ h : Heap} {L d a : Addr} {m : Str → Option Value} {news keep : List (Addr × Obj)} {o : Obj} {D : List (PyData × PyData)} {x y : Str} {t u : Tok}
theorem ds_set {Q : Unit → Shared → Prop} (F : Fr h₀ L s.heap m) (N : News h₀ L s.heap news) (hm : (d, o) ∈ news) (keep : List (Addr × Obj)) (hk : ∀ p ∈ keep, p ∈ news) (hof : ∀ p ∈ keep, p.1 ≠ d) (S : DS prog w o D) (hz : D.length ≤ 64)
    (h : ∀ h' o' tk, Fr h₀ L h' m → News h₀ L h' ((d, o') :: keep) → DS prog w o' (putD (.str x) (.str y) D) → Q () { s with heap := h', toks := tk }) : wpAny (model prog w) A (setItem (.ref d) (.str x t) (.str y u)) Q E s := by
  obtain ⟨kvs, hd, hf⟩ := S
  refine setItem_K PyProof.V.same_str (strKind_is _ _ _ _) (.str _ _) F (fun p hp => ?_) (UpdF.head (r := keep) hof) hd hf (fun h' o' F' N' hd' hf' => h h' o' _ F' N' ⟨_, hd', hf'⟩) (by rw [PySem.sizeLine_eq]; omega)
  rcases List.mem_cons.mp hp with rfl | hp
  · exact N _ hm
  · exact N _ (hk p hp)
theorem ds_get {Q : Value → Shared → Prop} (N : News h₀ L s.heap news) (hm : (d, o) ∈ news) (lo : (d == sysModules) = false) (S : DS prog w o D) (hl : PySem.Spec.lookup (.str x) D = some (.str y)) (h : ∀ u tk, Q (.str y u) { s with toks := tk }) :
    wpAny (model prog w) A (call (.builtin "dict.get") [.ref d, .str x t]) Q E s := by
  obtain ⟨kvs, hd, hf⟩ := S
  refine kt_get1_thereS (D := D) (dv := .str y) ⟨lo, kvs, kda_dict N hm hd, hf⟩ hl fun v hv => ?_
  obtain ⟨u, rfl⟩ : ∃ u, v = .str y u := by
    have := hv s.heap
    cases this
    exact ⟨_, rfl⟩
  exact h _ _
end
end
section
section
theorem kw2 : True := by
 w_top off
 k_with "compareOp In str ref" => (k_here; (with_reducible show wpAny _ _ (compareOp _ (Value.str (nameOf _) _) (Value.ref _)) _ _ _); refine StopG.out ?_)
 trivial
namespace EK.E_ismark_c
theorem core : @P w mean mg mb dp un gd cn cs a ccd cl outer A₀ base h₀ L m s Q E := by
  intro news v r B F X T hk N hR hd hu hret
  obtain ⟨x, dx, p, e1, e2, t1, t2, t3, nn, ps, k, rfl, hx, hdx, hp, hps⟩ := hR
  clear hps hp
  k_steps
  refine StopG.mk ?_
  clear hdx
  cases r
  case mark o g =>
    cases o <;> dsimp only [nameOf, kdS] at * <;> k_steps <;> exact hret _ _ (by assumption) (by (first | assumption | exact news_tl (by assumption) | exact news_tl (news_tl (by assumption)) | exact news_tl (news_tl (news_tl (by assumption))) | exact news_tl (news_tl (news_tl (news_tl (by assumption)))) | exact news_tl (news_tl (news_tl (news_tl (news_tl (by assumption))))) | exact news_tl (news_tl (news_tl (news_tl (news_tl (news_tl (by assumption)))))) | exact news_tl (news_tl (news_tl (news_tl (news_tl (news_tl (news_tl (by assumption)))))))))
  all_goals
    dsimp only [nameOf] at *
    k_steps
    exact hret _ _ (by assumption) (by (first | assumption | exact news_tl (by assumption) | exact news_tl (news_tl (by assumption)) | exact news_tl (news_tl (news_tl (by assumption))) | exact news_tl (news_tl (news_tl (news_tl (by assumption)))) | exact news_tl (news_tl (news_tl (news_tl (news_tl (by assumption))))) | exact news_tl (news_tl (news_tl (news_tl (news_tl (news_tl (by assumption)))))) | exact news_tl (news_tl (news_tl (news_tl (news_tl (news_tl (news_tl (by assumption)))))))))
end EK.E_ismark_c
theorem EK.E_ismark_c.all : ∀ c, EK.E_ismark_c.Pc c := by
  have h : EK.E_ismark_c.Pc kc := by with_unfolding_all exact EK.E_ismark_c.core
  rw [EK.eqk0] at h
  exact first_all (r := EK.lst1) h
theorem EK.eqk1 : kc = first EK.lst1 := EK.eqk0.trans (first_skip EK.E_ismark_c.all)
theorem ismark_c {w : World} {mean : ExcName → Option Value} {mg mb : Str → Option Value} {dp un : Nat} {gd : Option (List Code)} {cn : Str} {cs : Scope} {a : Addr} {ccd : Value} {cl : List (Str × Addr)} {outer : List Env} {A₀ : Around} {base h₀ : Heap} {L : Addr} {m : Str → Option Value} {s : Shared} {Q E : Value → Shared → Prop} (news : List (Addr × Obj)) (v : Value) (r : TR)
    (B : Below A₀ base outer h₀) (F : Fr h₀ L s.heap m) (X : (hd.heap_1 w.params).In h₀) (T : Top viewP LZ mean mg mb h₀) (hk : cs.kind = .function)
    (N : News h₀ L s.heap news) (hR : RowIn news v r)
    (hd : dp + 2 < recursionLimit) (hu : un + 50 < cLine)
    (hret : ∀ (h' : Heap) (tks : Nat), Fr h₀ L h' m → News h₀ L h' news → Q (.bool (isMk r)) { s with heap := h', toks := tks }) : wpAny (model PySem.Challenge.rw_pf0284_01.row.prog w) (ktrTop dp un gd cn cs L a ccd cl outer) (call (.ref 153) [v]) Q E s := by
  with_unfolding_all exact EK.E_ismark_c.all ⟨w, mean, mg, mb, dp, un, gd, cn, cs, a, ccd, cl, outer, A₀, base, h₀, L, m, s, Q, E⟩ news v r B F X T hk N hR hd hu hret
end
end
section
section
theorem kdS_injC {a b : Bool} (h : kdS a = kdS b) : a = b := by
  cases a <;> cases b <;> first | rfl | exact absurd h (by decide +kernel)
theorem okd_m (o : Bool) (g : Int) : kqdOk 8 (.tuple [.str (kdS o), .int g]) = true := by
  have : PyData.strOk (kdS o) = true := by cases o <;> decide +kernel
  simp [kqdOk, this]
theorem eq_dats {prog : Program} {w : World} {A : Around} {E : Value → Shared → Prop} {s : Shared} {h₀ : Heap} {L : Addr} {news : List (Addr × Obj)} {Q : Value → Shared → Prop} {a b : Value} {d e : Dat} (bo : Bool) (hbo : bo = true ↔ d = e) (N : News h₀ L s.heap news) (Da : DatIn news a d) (Db : DatIn news b e) (ha : kqdOk 8 d = true) (hb : kqdOk 8 e = true) (hu : A.units + 64 < cLine) (h : Q (.bool bo) s) : wpAny (model prog w) A (compareOp .Eq a b) Q E s := by
  obtain ⟨as, ra⟩ := kqd_in N 8 Da ha
  obtain ⟨bs, rb⟩ := kqd_in N 8 Db hb
  have la := kqd_lay 8 d ha
  have lb := kqd_lay 8 e hb
  have q : PyData.eqv (kqdP d) (kqdP e) = bo := Bool.eq_iff_iff.mpr ((kqd_eqv 8 d e 8 ha hb).trans hbo.symm)
  refine eq_dataH ra rb ?_ ?_ hu (by rw [q]; exact h)
  · unfold SeqAt.shaped; rw [la.1, Bool.true_and]; exact decide_eq_true (Nat.le_trans la.2 (by decide))
  · unfold SeqAt.shaped; rw [lb.1, Bool.true_and]; exact decide_eq_true (Nat.le_trans lb.2 (by decide))
theorem kw3 : True := by
 w_top off
 k_with_none
 k_with "ml" => first | assumption | (refine memsub (by assumption) ?_; first | assumption | exact List.Mem.head _ | (refine List.Mem.tail _ ?_; first | exact List.Mem.head _ | (refine List.Mem.tail _ ?_; first | exact List.Mem.head _ | (refine List.Mem.tail _ ?_; first | exact List.Mem.head _ | (refine List.Mem.tail _ ?_; first | assumption) | assumption) | assumption) | assumption) | assumption)
 k_with "k_mem" => first | exact List.Mem.head _ | (refine List.Mem.tail _ ?_; k_extra "k_mem") | k_extra "ml"
 k_with "ks" => repeat' (first | (k_unfold; (try dsimp only)) | (k_end; kc_close) | (walk1; (try (first | (with_reducible show wpAny _ _ (exec _ _) _ _ _; (try dsimp only); (refine letq ?_; intro qk9ᵩ); (try with_reducible refine wpst ?_; intro tk9ᵩ); (try walk_at "fold9")) | (with_reducible show wpAny _ _ (execs _ _) _ _ _; k_fold)))) | (dsimp only; walk1) | (leave1; walk_say "STEP leave1"; try dsimp only) | (k_unmd; k_unfold; (try dsimp only)) | fail "no step")
 k_with "in9" => first | with_reducible assumption | (refine' Frag.In.keeps ?y9X (Fr.keep ?y9F); (case y9F => k_asm); (case y9X => k_asm))
 k_with "eval Constant str" => with_reducible refine kstr ?_
 k_with "eval Constant int" => with_reducible refine kint ?_
 k_with "oc" => first | (apply c1; assumption) | (apply c2; assumption) | (apply l2; assumption) | (apply c3; assumption) | (apply c4; assumption) | (apply c5; assumption) | (apply c6; assumption) | (apply c7; assumption) | (apply c8; assumption) | (apply c9; assumption) | (apply c10; assumption) | (apply c11; assumption) | (apply c12; assumption) | (apply c13; assumption) | (apply c14; assumption) | (apply c15; assumption) | (apply c16; assumption)
 k_with "od" => first | (apply c1; assumption) | (apply c2; assumption) | (apply l2; assumption) | (apply c3; assumption) | (apply c4; assumption) | (apply c5; assumption) | (apply c6; assumption) | (apply c7; assumption)
 k_with "on" => first | (apply zsy; assumption) | (apply zgt; first | assumption | k_extra "oc") | (apply zlt; first | assumption | k_extra "oc") | (apply gtt; assumption; first | assumption | k_extra "od") | (apply ltt; assumption; first | assumption | k_extra "od")
 k_with "oi" => first | exact nn0 | exact nn0' | exact z63 (by assumption) (by assumption) | exact z63b (by assumption) (by assumption) | exact n63 (by assumption) (by assumption) | exact n63b (by assumption) (by assumption) | exact z63c (by assumption) (by assumption) | exact z63d (by assumption) (by assumption) | exact nlt (by assumption) | exact n62 (by assumption) | exact n62b (by assumption) | exact tnl (by assumption) (by assumption) | exact sub1 (by assumption) | exact sub2 (by assumption) (by assumption) | decide | exact Int.lt_of_lt_of_le (by assumption) (by decide) | exact Nat.le_trans (by assumption) (by decide) | exact ul (by assumption) (by decide) | exact up0 (by assumption) (by assumption) | k_extra "oc"
 k_with "om" => first | (k_whole; with_reducible (first | assumption | (show @Ne Nat _ _; k_extra "on") | (show @Eq Nat _ _; first | exact tn1 (by assumption) | exact z0i) | ((first | show @LT.lt Int _ _ _ | show @LE.le Int _ _ _ | show @LT.lt Nat _ _ _ | show @LE.le Nat _ _ _); k_extra "oi")))
 k_with "execs cons If" => (k_here; (with_reducible show wpAny _ _ (execs (PySem.Stmt.If (PySem.Expr.Compare (PySem.Expr.Name _ _) [.Eq] [PySem.Expr.Constant (.str _) _ _] _) _ _ _ :: _) _) _ _ _); first | ((with_reducible show wpAny _ _ (execs (PySem.Stmt.If _ _ [] _ :: _) _) _ _ _); k_dflt (refine' cif_f ?F ?v ?x ?c ?k ?d ?_; (case F => k_asm); (case x => kernel_rfl!); (case k => kernel_rfl!); (case d => kernel_rfl!); (case v => rfl); (case c => first | with_reducible assumption | kernel_rfl!); k_whole)) | ((with_reducible show wpAny _ _ (execs [PySem.Stmt.If _ _ (_ :: _) _] _) _ _ _); k_dflt (refine' cif_g ?F ?v ?x ?c ?k ?d ?_; (case F => k_asm); (case x => kernel_rfl!); (case k => kernel_rfl!); (case d => kernel_rfl!); (case v => rfl); (case c => first | with_reducible assumption | kernel_rfl!); k_whole)) | ((with_reducible show wpAny _ _ (execs [PySem.Stmt.If _ _ _ _] _) _ _ _); k_dflt (refine' cif_t ?F ?v ?x ?c ?k ?d ?_; (case F => k_asm); (case x => kernel_rfl!); (case k => kernel_rfl!); (case d => kernel_rfl!); (case v => rfl); (case c => first | with_reducible assumption | kernel_rfl!); k_whole)) | k_dflt (refine' cif_r ?F ?v ?x ?c ?k ?d ?_; (case F => k_asm); (case x => kernel_rfl!); (case k => kernel_rfl!); (case d => kernel_rfl!); (case v => rfl); (case c => first | with_reducible assumption | kernel_rfl!); k_whole))
 k_with "callWith" => ((with_reducible show wpAny _ _ (callWith _ (Value.builtin _) (_ :: _) (backTo _ (starEach (_ :: _) _)) []) _ _ _); refine callWith_method1 ?_)
 k_with "callWith ref" => (k_here; k_dflt (first | (refine' callWith_K ?y9k ?y9l ?_; (case y9k => k_asm); (case y9l => k_is); k_whole) | (refine' callWith_K0 ?y9k ?y9l ?_; (case y9k => k_in); (case y9l => k_is); k_whole)))
 k_with "eval Name" => (k_here; (fail_if_success (with_reducible show wpAny _ _ (eval (PySem.Expr.Name _ _) (compEnvC _ _ _ _)) _ _ _)); k_dflt (first | (refine' nameX_L ?y9F ?y9v ?_ ?y9a ?y9b ?y9d; (case y9F => k_asm); (case y9a => kernel_rfl!); (case y9b => kernel_rfl!); (case y9d => kernel_rfl!); (case y9v => rfl); k_whole) | (refine' nameX_K ?y9F ?y9X ?y9T ?y9e ?_ ?y9a ?y9b; (case y9F => k_asm); (case y9X => k_asm); (case y9T => k_asm); (case y9a => kernel_rfl!); (case y9b => kernel_rfl!); (case y9e => k_is); k_whole) | (refine' nameX_C ?y9N ?y9c ?y9m ?y9d ?_ ?y9a ?y9b; (case y9a => kernel_rfl!); (case y9b => kernel_rfl!); (case y9N => k_asm); (case y9c => rfl); (case y9m => k_mem); (case y9d => k_asm); k_whole) | (refine' nameX_B ?y9F ?y9X ?y9T ?y9e ?y9v ?y9n ?_ ?y9a ?y9b; (case y9F => k_asm); (case y9X => k_asm); (case y9T => k_asm); (case y9a => kernel_rfl!); (case y9b => kernel_rfl!); (case y9e => k_is); (case y9v => boot_fast); (case y9n => decide); k_whole)))
 k_with "execs cons Return" => with_reducible refine cret ?_
 k_with "newTuple" => (k_here; k_dflt (refine' kup_newTuple (by k_asm) (by k_asm) ?_ (by kmk_size)); intro D'ᵩ h'ᵩ F'ᵩ N'ᵩ l1ᵩ; have l2ᵩ := l1ᵩ; (try k_lt l1ᵩ))
 k_with "k9" => (first | exact rfl | assumption)
 k_with "d9" => (first | exact rmc0 (by assumption) (by decide) | exact rmc 1 (by assumption) (by decide) | exact rmc 2 (by assumption) (by decide) | exact rmc 3 (by assumption) (by decide))
 k_with "u9" => (first | exact rmu0 (by assumption) (by decide) | exact rmu 3 (by assumption) (by decide) | exact rmu 6 (by assumption) (by decide) | exact rmu 9 (by assumption) (by decide) | exact rmu 1 (by assumption) (by decide) | exact rmu 4 (by assumption) (by decide) | exact rmu 7 (by assumption) (by decide))
 k_with "r9" => (first | exact rm0 (by assumption) | exact rm 1 (by assumption) (by decide) | exact rm 2 (by assumption) (by decide) | exact rm 3 (by assumption) (by decide) | exact rm 4 (by assumption) (by decide))
 k_with "b9" => (first | exact BindsTo.of_eq rfl | exact binds_K (by k_in) rfl (by k_is) rfl rfl rfl)
 k_with "c9" => (k_dflt (refine' code_def ?k1 ?k2 ?k3 ?k4 ?k5 ?kA ?kF ?kK ?k6 ?k7 ?k8 ?k9 ?kB ?_ ?c2 ?c3 ?c4 ?c5; (case kA => exact rfl); (case kF => exact rfl); (case kK => k_extra "k9"); (case k1 => k_asm); (case k2 => k_asm); (case k3 => k_asm); (case k4 => k_asm); (case k5 => k_asm); (case k6 => k_is); (case k7 => k_is); (case k8 => k_extra "r9"); (case k9 => k_extra "b9"); (case c5 => decide); (case kB => exact locs rfl); (case c2 => exact rfl); (case c3 => exact rfl); (case c4 => exact rfl); k_whole); intro g'ᵩ L'ᵩ h'ᵩ FG'ᵩ F'ᵩ N'ᵩ B'ᵩ X'ᵩ T'ᵩ; (try dsimp only))
 k_with "i9" => (k_dflt (refine' item_led (by k_asm) (by k_mem) (by omega) (by with_reducible assumption) (by omega) ?_ (by with_unfolding_all rfl); k_whole))
 k_with "j9" => (first | k_dflt (refine' item_tupleT (News.isTup (by k_asm) (by k_mem)) (by decide) (by decide) (by rfl) (by rfl) ?_ (by with_unfolding_all rfl); k_whole) | k_extra "i9")
 k_with "mo" => exact ⟨_, _, _, _, _, _, _, _, ⟨_, _, _, _, _, _, _, _, _, _, _, _, _, _, _, _, _, _, _, _, _, rfl⟩⟩
 k_with "nt" => (first | assumption | exact news_tl (by assumption) | exact news_tl (news_tl (by assumption)) | exact news_tl (news_tl (news_tl (by assumption))) | exact news_tl (news_tl (news_tl (news_tl (by assumption)))) | exact news_tl (news_tl (news_tl (news_tl (news_tl (by assumption))))) | exact news_tl (news_tl (news_tl (news_tl (news_tl (news_tl (by assumption)))))) | exact news_tl (news_tl (news_tl (news_tl (news_tl (news_tl (news_tl (by assumption))))))))
 k_with "subscriptTail Attribute Subscript Constant ref int" => (k_here; k_extra "j9")
 k_with "subscriptTail Name Constant ref int" => (k_here; k_extra "j9")
 k_with "subscriptTail Attribute Name Constant ref int" => (k_here; k_extra "j9")
 k_with "subscriptTail Name Name ref int" => (k_here; k_extra "i9")
 k_with "ite" => first | with_reducible refine ite_tt ?_ | with_reducible refine ite_ff ?_ | (k_closed; k_dflt (first | (with_reducible refine' ite_bp ?y9z ?_; (case y9z => kernel_rfl!)) | (with_reducible refine' ite_bn ?y9z ?_; (case y9z => kernel_rfl!)) | refine ite_pos (by decide) ?_ | refine ite_neg (by decide) ?_)) | (with_reducible refine ite_af (by decide +kernel) ?_) | (with_reducible refine ite_at (by decide +kernel) ?_) | (with_reducible refine ite_dp (by omega) ?_) | (with_reducible refine ite_dn (by omega) ?_) | (with_reducible refine ite_bp (by assumption) ?_) | (with_reducible refine ite_bn (by assumption) ?_)
 k_with "call builtin:len" => (k_here; (with_reducible show wpAny _ _ (call (Value.builtin "len") [Value.ref _]) _ _ _); k_dflt (refine' len_led (by k_asm) (by k_mem) (by with_reducible assumption) (by omega) ?_; k_whole))
 k_with "call ref" => (k_here; (with_reducible show wpAny _ _ (call (Value.ref _) _) _ _ _); refine wpAny_call ?_; k_extra "c9")
 k_with "fold9" => ((try (refine letf (by assumption) ?_; intro m9ᵩ F9ᵩ)); (try (refine letn (by assumption) ?_; intro w9ᵩ N9ᵩ)))
 k_with "exec While" => (k_here; (with_reducible show wpAny _ _ (exec (PySem.Stmt.While _ _ _ _) _) _ _ _); refine StopG.out ?_)
 k_with "W1Post" => (k_here; with_reducible refine w1ret ?_; (try dsimp only))
 k_with "call ref" => (k_here; (with_reducible show wpAny _ _ (call (Value.ref 153) _) _ _ _); k_dflt (refine' ismark_c _ _ _ ?B ?F ?X ?T ?k ?N ?R ?d ?u ?_; (case B => k_asm); (case F => k_asm); (case X => k_asm); (case T => k_asm); (case k => k_extra "k9"); (case N => k_asm); (case R => refine' RowIn.mono ?ss ?rr; (case rr => with_reducible assumption); (case ss => intro pᵩ hpᵩ; k_mem)); (case d => k_extra "d9"); (case u => k_extra "u9")); intro h'ᵩ tks'ᵩ F'ᵩ N'ᵩ)
 k_with "compareOp Eq ref ref" => (k_here; (with_reducible show wpAny _ _ (compareOp _ (Value.ref _) (Value.ref _)) _ _ _); refine StopG.out ?_)
 trivial
namespace EK.E_idle_c
theorem core : @P w mean mg mb dp un gd cn cs a ccd cl outer A₀ base h₀ L m s Q E := by
  intro news l vs n rs at' t B F X T hk N hl hR h0 h1 hz hd hu hret
  have hlen := hR.length
  have hi : at'.toNat < rs.length := by omega
  obtain ⟨v, hv, hrow⟩ := hR.get hi
  obtain ⟨x, dx, p, e1, e2, t1, t2, t3, nn, ps, k, rfl, hx, hdx, hp, hps⟩ := hrow
  have hdrop : rs.drop at'.toNat = rs[at'.toNat] :: rs.drop (at'.toNat + 1) := by simp
  unfold idleAt at hret
  rw [hdrop] at hret
  revert hret hdx hps
  generalize hr : rs[at'.toNat] = r
  intro hret hdx hps
  cases hj : isJm r
  · have hb0 : (nameOf r != Str.ofString "jmp") = true := by
      cases r with
      | mark o g => cases o <;> (dsimp only [nameOf, kdS]; decide +kernel)
      | jmp o g => cases hj
      | _ => dsimp only [nameOf]; decide +kernel
    clear hps hp
    k_steps
    refine fin_b hret ?_ (by assumption) (by (first | assumption | exact news_tl (by assumption) | exact news_tl (news_tl (by assumption)) | exact news_tl (news_tl (news_tl (by assumption))) | exact news_tl (news_tl (news_tl (news_tl (by assumption)))) | exact news_tl (news_tl (news_tl (news_tl (news_tl (by assumption))))) | exact news_tl (news_tl (news_tl (news_tl (news_tl (news_tl (by assumption)))))) | exact news_tl (news_tl (news_tl (news_tl (news_tl (news_tl (news_tl (by assumption)))))))))
    cases r <;> first | rfl | cases hj
  · obtain ⟨o, g, rfl⟩ : ∃ o g, r = .jmp o g := by
      cases r <;> first | exact ⟨_, _, rfl⟩ | cases hj
    clear hj
    dsimp only [nameOf, partsOf] at hdx hps
    obtain ⟨t4, t5, rfl⟩ := da_si hps
    k_steps
    refine StopG.mk ?_
    rename News _ _ _ _ => N9
    rename Fr _ _ _ _ => F9
    have hrest : rs.drop (at'.toNat + 1) = rs.drop (at' + 1).toNat := by congr 1; omega
    refine while1 (Str.ofString "spot") (fun v => at' + 1 ≤ v ∧ v ≤ rs.length ∧ idleIn o g (rs.drop (at' + 1).toNat) = idleIn o g (rs.drop v.toNat)) (fun v => rs.length - v.toNat) (fr_pull (Str.ofString "spot") F9 (by with_unfolding_all rfl)) (news_tl N9) ⟨Int.le_refl _, by omega, rfl⟩ ?_
    rintro v t6 h6 tk6 ⟨hv1, hv2, hv3⟩ F6 N6
    clear F9 N9
    by_cases hlt : v < rs.length
    · have hi6 : v.toNat < rs.length := by omega
      obtain ⟨v6, hv6, hrow6⟩ := hR.get hi6
      have hdrop6 : rs.drop v.toNat = rs[v.toNat] :: rs.drop (v.toNat + 1) := by simp
      rw [hdrop6] at hv3
      revert hv3 hrow6
      generalize hr6 : rs[v.toNat] = r6
      intro hv3 hrow6
      cases hm : isMk r6
      · k_steps
        refine fin_b hret ?_ (by assumption) (by (first | assumption | exact news_tl (by assumption) | exact news_tl (news_tl (by assumption)) | exact news_tl (news_tl (news_tl (by assumption))) | exact news_tl (news_tl (news_tl (news_tl (by assumption)))) | exact news_tl (news_tl (news_tl (news_tl (news_tl (by assumption))))) | exact news_tl (news_tl (news_tl (news_tl (news_tl (news_tl (by assumption)))))) | exact news_tl (news_tl (news_tl (news_tl (news_tl (news_tl (news_tl (by assumption)))))))))
        show idleIn _ _ _ = _
        rw [hrest, hv3]
        cases r6 <;> first | rfl | cases hm
      · obtain ⟨o6, g6, rfl⟩ : ∃ o g, r6 = .mark o g := by
          cases r6 <;> first | exact ⟨_, _, rfl⟩ | cases hm
        obtain ⟨x6, dx6, p6, f1, f2, u1, u2, u3, n6, ps6, k6, rfl, hx6, hdx6, hp6, hps6⟩ := id hrow6
        dsimp only [nameOf, partsOf] at hdx6 hps6
        obtain ⟨t7, rfl⟩ := da_i hps6
        k_steps
        refine StopG.mk ?_
        rename News _ _ _ _ => N8
        by_cases hq : o6 = o ∧ g6 = g
        · refine eq_dats (d := .tuple [.str (kdS o6), .int g6]) (e := .tuple [.str (kdS o), .int g]) true ⟨fun _ => by rw [hq.1, hq.2], fun _ => rfl⟩ N8 (DatIn.tuple (by k_mem) (.cons (.str _ _) (.cons (.int _ _) .nil))) (DatIn.tuple (by k_mem) (.cons (.str _ _) (.cons (.int _ _) .nil))) (okd_m _ _) (okd_m _ _) (by (first | exact rmu0 (by assumption) (by decide) | exact rmu 3 (by assumption) (by decide) | exact rmu 6 (by assumption) (by decide) | exact rmu 9 (by assumption) (by decide) | exact rmu 1 (by assumption) (by decide) | exact rmu 4 (by assumption) (by decide) | exact rmu 7 (by assumption) (by decide))) ?_
          k_steps
          refine fin_b hret ?_ (by assumption) (by (first | assumption | exact news_tl (by assumption) | exact news_tl (news_tl (by assumption)) | exact news_tl (news_tl (news_tl (by assumption))) | exact news_tl (news_tl (news_tl (news_tl (by assumption)))) | exact news_tl (news_tl (news_tl (news_tl (news_tl (by assumption))))) | exact news_tl (news_tl (news_tl (news_tl (news_tl (news_tl (by assumption)))))) | exact news_tl (news_tl (news_tl (news_tl (news_tl (news_tl (news_tl (by assumption)))))))))
          show idleIn _ _ _ = _
          rw [hrest, hv3, hq.1, hq.2]
          simp only [idleIn, and_self, if_true]
        · refine eq_dats (d := .tuple [.str (kdS o6), .int g6]) (e := .tuple [.str (kdS o), .int g]) false ⟨fun h => (nomatch h), fun h => absurd ⟨kdS_injC (by injection h with h; injection h with h1 h2; injection h1), by injection h with h; injection h with h1 h2; injection h2 with h2 h3; injection h2⟩ hq⟩ N8 (DatIn.tuple (by k_mem) (.cons (.str _ _) (.cons (.int _ _) .nil))) (DatIn.tuple (by k_mem) (.cons (.str _ _) (.cons (.int _ _) .nil))) (okd_m _ _) (okd_m _ _) (by (first | exact rmu0 (by assumption) (by decide) | exact rmu 3 (by assumption) (by decide) | exact rmu 6 (by assumption) (by decide) | exact rmu 9 (by assumption) (by decide) | exact rmu 1 (by assumption) (by decide) | exact rmu 4 (by assumption) (by decide) | exact rmu 7 (by assumption) (by decide))) ?_
          have hn : idleIn o g (.mark o6 g6 :: rs.drop (v.toNat + 1)) = if o6 = true ∧ o = false then false else idleIn o g (rs.drop (v.toNat + 1)) := by
            rw [idleIn, if_neg hq]
          rw [hn] at hv3
          clear hn hq
          cases o6
          · dsimp only [kdS] at *
            k_steps
            refine w1end (by assumption) (by assumption) (by with_unfolding_all rfl) (fun z hz => by simp +zetaDelta [hz]) (fun p hp => by first | exact hp | exact List.mem_cons_of_mem _ hp | exact List.mem_cons_of_mem _ (List.mem_cons_of_mem _ hp) | exact List.mem_cons_of_mem _ (List.mem_cons_of_mem _ (List.mem_cons_of_mem _ hp)) | exact List.mem_cons_of_mem _ (List.mem_cons_of_mem _ (List.mem_cons_of_mem _ (List.mem_cons_of_mem _ hp)))) ⟨?_, ?_, ?_⟩ ?_
            · omega
            · omega
            · rw [hv3, tn2 h0 hv1]
              rfl
            · exact dec1 h0 hv1 hi6
          · cases o <;> dsimp only [kdS] at * <;> k_steps
            · refine fin_b hret ?_ (by assumption) (by (first | assumption | exact news_tl (by assumption) | exact news_tl (news_tl (by assumption)) | exact news_tl (news_tl (news_tl (by assumption))) | exact news_tl (news_tl (news_tl (news_tl (by assumption)))) | exact news_tl (news_tl (news_tl (news_tl (news_tl (by assumption))))) | exact news_tl (news_tl (news_tl (news_tl (news_tl (news_tl (by assumption)))))) | exact news_tl (news_tl (news_tl (news_tl (news_tl (news_tl (news_tl (by assumption)))))))))
              show idleIn _ _ _ = _
              rw [hrest, hv3]
              rfl
            · refine w1end (by assumption) (by assumption) (by with_unfolding_all rfl) (fun z hz => by simp +zetaDelta [hz]) (fun p hp => by first | exact hp | exact List.mem_cons_of_mem _ hp | exact List.mem_cons_of_mem _ (List.mem_cons_of_mem _ hp) | exact List.mem_cons_of_mem _ (List.mem_cons_of_mem _ (List.mem_cons_of_mem _ hp)) | exact List.mem_cons_of_mem _ (List.mem_cons_of_mem _ (List.mem_cons_of_mem _ (List.mem_cons_of_mem _ hp)))) ⟨?_, ?_, ?_⟩ ?_
              · omega
              · omega
              · rw [hv3, tn2 h0 hv1]
                rfl
              · exact dec1 h0 hv1 hi6
    · k_steps
      refine fin_b hret ?_ (by assumption) (by (first | assumption | exact news_tl (by assumption) | exact news_tl (news_tl (by assumption)) | exact news_tl (news_tl (news_tl (by assumption))) | exact news_tl (news_tl (news_tl (news_tl (by assumption)))) | exact news_tl (news_tl (news_tl (news_tl (news_tl (by assumption))))) | exact news_tl (news_tl (news_tl (news_tl (news_tl (news_tl (by assumption)))))) | exact news_tl (news_tl (news_tl (news_tl (news_tl (news_tl (news_tl (by assumption)))))))))
      show idleIn _ _ _ = _
      rw [hrest, hv3, List.drop_eq_nil_of_le (by omega)]
      rfl
end EK.E_idle_c
theorem EK.E_idle_c.all : ∀ c, EK.E_idle_c.Pc c := by
  have h : EK.E_idle_c.Pc kc := by with_unfolding_all exact EK.E_idle_c.core
  rw [EK.eqk1] at h
  exact first_all (r := EK.lst2) h
theorem EK.eqk2 : kc = first EK.lst2 := EK.eqk1.trans (first_skip EK.E_idle_c.all)
theorem idle_c {w : World} {mean : ExcName → Option Value} {mg mb : Str → Option Value} {dp un : Nat} {gd : Option (List Code)} {cn : Str} {cs : Scope} {a : Addr} {ccd : Value} {cl : List (Str × Addr)} {outer : List Env} {A₀ : Around} {base h₀ : Heap} {L : Addr} {m : Str → Option Value} {s : Shared} {Q E : Value → Shared → Prop} (news : List (Addr × Obj)) (l : Addr) (vs : List Value) (n : Nat) (rs : List TR) (at' : Int) (t : Tok)
    (B : Below A₀ base outer h₀) (F : Fr h₀ L s.heap m) (X : (hd.heap_1 w.params).In h₀) (T : Top viewP LZ mean mg mb h₀) (hk : cs.kind = .function)
    (N : News h₀ L s.heap news) (hl : (l, listOf vs.toArray n) ∈ news) (hR : RowsIn news vs rs) (h0 : 0 ≤ at') (h1 : at' < rs.length) (hz : rs.length ≤ 64)
    (hd : dp + 5 < recursionLimit) (hu : un + 100 < cLine)
    (hret : ∀ (h' : Heap) (tks : Nat), Fr h₀ L h' m → News h₀ L h' news → Q (.bool (idleAt rs at'.toNat)) { s with heap := h', toks := tks }) : wpAny (model PySem.Challenge.rw_pf0284_01.row.prog w) (ktrTop dp un gd cn cs L a ccd cl outer) (call (.ref 181) [.ref l, .int at' t]) Q E s := by
  with_unfolding_all exact EK.E_idle_c.all ⟨w, mean, mg, mb, dp, un, gd, cn, cs, a, ccd, cl, outer, A₀, base, h₀, L, m, s, Q, E⟩ news l vs n rs at' t B F X T hk N hl hR h0 h1 hz hd hu hret
end
end
section
section
theorem kw4 : True := by
 w_top off
 k_with_none
 k_with "ml" => first | assumption | (refine memsub (by assumption) ?_; first | assumption | exact List.Mem.head _ | (refine List.Mem.tail _ ?_; first | exact List.Mem.head _ | (refine List.Mem.tail _ ?_; first | exact List.Mem.head _ | (refine List.Mem.tail _ ?_; first | exact List.Mem.head _ | (refine List.Mem.tail _ ?_; first | assumption) | assumption) | assumption) | assumption) | assumption)
 k_with "k_mem" => first | exact List.Mem.head _ | (refine List.Mem.tail _ ?_; k_extra "k_mem") | k_extra "ml"
 k_with "ks" => repeat' (first | (k_unfold; (try dsimp only)) | (k_end; kc_close) | (walk1; (try (first | (with_reducible show wpAny _ _ (exec _ _) _ _ _; (try dsimp only); (refine letq ?_; intro qk9ᵩ); (try with_reducible refine wpst ?_; intro tk9ᵩ); (try walk_at "fold9")) | (with_reducible show wpAny _ _ (execs _ _) _ _ _; k_fold)))) | (dsimp only; walk1) | (leave1; walk_say "STEP leave1"; try dsimp only) | (k_unmd; k_unfold; (try dsimp only)) | fail "no step")
 k_with "in9" => first | with_reducible assumption | (refine' Frag.In.keeps ?y9X (Fr.keep ?y9F); (case y9F => k_asm); (case y9X => k_asm))
 k_with "eval Constant str" => with_reducible refine kstr ?_
 k_with "eval Constant int" => with_reducible refine kint ?_
 k_with "oc" => first | (apply c1; assumption) | (apply c2; assumption) | (apply l2; assumption) | (apply c3; assumption) | (apply c4; assumption) | (apply c5; assumption) | (apply c6; assumption) | (apply c7; assumption) | (apply c8; assumption) | (apply c9; assumption) | (apply c10; assumption) | (apply c11; assumption) | (apply c12; assumption) | (apply c13; assumption) | (apply c14; assumption) | (apply c15; assumption) | (apply c16; assumption)
 k_with "od" => first | (apply c1; assumption) | (apply c2; assumption) | (apply l2; assumption) | (apply c3; assumption) | (apply c4; assumption) | (apply c5; assumption) | (apply c6; assumption) | (apply c7; assumption)
 k_with "on" => first | (apply zsy; assumption) | (apply zgt; first | assumption | k_extra "oc") | (apply zlt; first | assumption | k_extra "oc") | (apply gtt; assumption; first | assumption | k_extra "od") | (apply ltt; assumption; first | assumption | k_extra "od")
 k_with "oi" => first | exact nn0 | exact nn0' | exact z63 (by assumption) (by assumption) | exact z63b (by assumption) (by assumption) | exact n63 (by assumption) (by assumption) | exact n63b (by assumption) (by assumption) | exact z63c (by assumption) (by assumption) | exact z63d (by assumption) (by assumption) | exact nlt (by assumption) | exact n62 (by assumption) | exact n62b (by assumption) | exact tnl (by assumption) (by assumption) | exact sub1 (by assumption) | exact sub2 (by assumption) (by assumption) | decide | exact Int.lt_of_lt_of_le (by assumption) (by decide) | exact Nat.le_trans (by assumption) (by decide) | exact ul (by assumption) (by decide) | exact up0 (by assumption) (by assumption) | k_extra "oc"
 k_with "om" => first | (k_whole; with_reducible (first | assumption | (show @Ne Nat _ _; k_extra "on") | (show @Eq Nat _ _; first | exact tn1 (by assumption) | exact z0i) | ((first | show @LT.lt Int _ _ _ | show @LE.le Int _ _ _ | show @LT.lt Nat _ _ _ | show @LE.le Nat _ _ _); k_extra "oi")))
 k_with "execs cons If" => (k_here; (with_reducible show wpAny _ _ (execs (PySem.Stmt.If (PySem.Expr.Compare (PySem.Expr.Name _ _) [.Eq] [PySem.Expr.Constant (.str _) _ _] _) _ _ _ :: _) _) _ _ _); first | ((with_reducible show wpAny _ _ (execs (PySem.Stmt.If _ _ [] _ :: _) _) _ _ _); k_dflt (refine' cif_f ?F ?v ?x ?c ?k ?d ?_; (case F => k_asm); (case x => kernel_rfl!); (case k => kernel_rfl!); (case d => kernel_rfl!); (case v => rfl); (case c => first | with_reducible assumption | kernel_rfl!); k_whole)) | ((with_reducible show wpAny _ _ (execs [PySem.Stmt.If _ _ (_ :: _) _] _) _ _ _); k_dflt (refine' cif_g ?F ?v ?x ?c ?k ?d ?_; (case F => k_asm); (case x => kernel_rfl!); (case k => kernel_rfl!); (case d => kernel_rfl!); (case v => rfl); (case c => first | with_reducible assumption | kernel_rfl!); k_whole)) | ((with_reducible show wpAny _ _ (execs [PySem.Stmt.If _ _ _ _] _) _ _ _); k_dflt (refine' cif_t ?F ?v ?x ?c ?k ?d ?_; (case F => k_asm); (case x => kernel_rfl!); (case k => kernel_rfl!); (case d => kernel_rfl!); (case v => rfl); (case c => first | with_reducible assumption | kernel_rfl!); k_whole)) | k_dflt (refine' cif_r ?F ?v ?x ?c ?k ?d ?_; (case F => k_asm); (case x => kernel_rfl!); (case k => kernel_rfl!); (case d => kernel_rfl!); (case v => rfl); (case c => first | with_reducible assumption | kernel_rfl!); k_whole))
 k_with "callWith" => ((with_reducible show wpAny _ _ (callWith _ (Value.builtin _) (_ :: _) (backTo _ (starEach (_ :: _) _)) []) _ _ _); refine callWith_method1 ?_)
 k_with "callWith ref" => (k_here; k_dflt (first | (refine' callWith_K ?y9k ?y9l ?_; (case y9k => k_asm); (case y9l => k_is); k_whole) | (refine' callWith_K0 ?y9k ?y9l ?_; (case y9k => k_in); (case y9l => k_is); k_whole)))
 k_with "eval Name" => (k_here; (fail_if_success (with_reducible show wpAny _ _ (eval (PySem.Expr.Name _ _) (compEnvC _ _ _ _)) _ _ _)); k_dflt (first | (refine' nameX_L ?y9F ?y9v ?_ ?y9a ?y9b ?y9d; (case y9F => k_asm); (case y9a => kernel_rfl!); (case y9b => kernel_rfl!); (case y9d => kernel_rfl!); (case y9v => rfl); k_whole) | (refine' nameX_K ?y9F ?y9X ?y9T ?y9e ?_ ?y9a ?y9b; (case y9F => k_asm); (case y9X => k_asm); (case y9T => k_asm); (case y9a => kernel_rfl!); (case y9b => kernel_rfl!); (case y9e => k_is); k_whole) | (refine' nameX_C ?y9N ?y9c ?y9m ?y9d ?_ ?y9a ?y9b; (case y9a => kernel_rfl!); (case y9b => kernel_rfl!); (case y9N => k_asm); (case y9c => rfl); (case y9m => k_mem); (case y9d => k_asm); k_whole) | (refine' nameX_B ?y9F ?y9X ?y9T ?y9e ?y9v ?y9n ?_ ?y9a ?y9b; (case y9F => k_asm); (case y9X => k_asm); (case y9T => k_asm); (case y9a => kernel_rfl!); (case y9b => kernel_rfl!); (case y9e => k_is); (case y9v => boot_fast); (case y9n => decide); k_whole)))
 k_with "execs cons Return" => with_reducible refine cret ?_
 k_with "newTuple" => (k_here; k_dflt (refine' kup_newTuple (by k_asm) (by k_asm) ?_ (by kmk_size)); intro D'ᵩ h'ᵩ F'ᵩ N'ᵩ l1ᵩ; have l2ᵩ := l1ᵩ; (try k_lt l1ᵩ))
 k_with "k9" => (first | exact rfl | assumption)
 k_with "d9" => (first | exact rmc0 (by assumption) (by decide) | exact rmc 1 (by assumption) (by decide) | exact rmc 2 (by assumption) (by decide) | exact rmc 3 (by assumption) (by decide))
 k_with "u9" => (first | exact rmu0 (by assumption) (by decide) | exact rmu 3 (by assumption) (by decide) | exact rmu 6 (by assumption) (by decide) | exact rmu 9 (by assumption) (by decide) | exact rmu 1 (by assumption) (by decide) | exact rmu 4 (by assumption) (by decide) | exact rmu 7 (by assumption) (by decide))
 k_with "r9" => (first | exact rm0 (by assumption) | exact rm 1 (by assumption) (by decide) | exact rm 2 (by assumption) (by decide) | exact rm 3 (by assumption) (by decide) | exact rm 4 (by assumption) (by decide))
 k_with "b9" => (first | exact BindsTo.of_eq rfl | exact binds_K (by k_in) rfl (by k_is) rfl rfl rfl)
 k_with "c9" => (k_dflt (refine' code_def ?k1 ?k2 ?k3 ?k4 ?k5 ?kA ?kF ?kK ?k6 ?k7 ?k8 ?k9 ?kB ?_ ?c2 ?c3 ?c4 ?c5; (case kA => exact rfl); (case kF => exact rfl); (case kK => k_extra "k9"); (case k1 => k_asm); (case k2 => k_asm); (case k3 => k_asm); (case k4 => k_asm); (case k5 => k_asm); (case k6 => k_is); (case k7 => k_is); (case k8 => k_extra "r9"); (case k9 => k_extra "b9"); (case c5 => decide); (case kB => exact locs rfl); (case c2 => exact rfl); (case c3 => exact rfl); (case c4 => exact rfl); k_whole); intro g'ᵩ L'ᵩ h'ᵩ FG'ᵩ F'ᵩ N'ᵩ B'ᵩ X'ᵩ T'ᵩ; (try dsimp only))
 k_with "i9" => (k_dflt (refine' item_led (by k_asm) (by k_mem) (by omega) (by with_reducible assumption) (by omega) ?_ (by with_unfolding_all rfl); k_whole))
 k_with "j9" => (first | k_dflt (refine' item_tupleT (News.isTup (by k_asm) (by k_mem)) (by decide) (by decide) (by rfl) (by rfl) ?_ (by with_unfolding_all rfl); k_whole) | k_extra "i9")
 k_with "mo" => exact ⟨_, _, _, _, _, _, _, _, ⟨_, _, _, _, _, _, _, _, _, _, _, _, _, _, _, _, _, _, _, _, _, rfl⟩⟩
 k_with "nt" => (first | assumption | exact news_tl (by assumption) | exact news_tl (news_tl (by assumption)) | exact news_tl (news_tl (news_tl (by assumption))) | exact news_tl (news_tl (news_tl (news_tl (by assumption)))) | exact news_tl (news_tl (news_tl (news_tl (news_tl (by assumption))))) | exact news_tl (news_tl (news_tl (news_tl (news_tl (news_tl (by assumption)))))) | exact news_tl (news_tl (news_tl (news_tl (news_tl (news_tl (news_tl (by assumption))))))))
 k_with "subscriptTail Attribute Subscript Constant ref int" => (k_here; k_extra "j9")
 k_with "subscriptTail Name Constant ref int" => (k_here; k_extra "j9")
 k_with "subscriptTail Attribute Name Constant ref int" => (k_here; k_extra "j9")
 k_with "subscriptTail Name Name ref int" => (k_here; k_extra "i9")
 k_with "ite" => first | with_reducible refine ite_tt ?_ | with_reducible refine ite_ff ?_ | (k_closed; k_dflt (first | (with_reducible refine' ite_bp ?y9z ?_; (case y9z => kernel_rfl!)) | (with_reducible refine' ite_bn ?y9z ?_; (case y9z => kernel_rfl!)) | refine ite_pos (by decide) ?_ | refine ite_neg (by decide) ?_)) | (with_reducible refine ite_af (by decide +kernel) ?_) | (with_reducible refine ite_at (by decide +kernel) ?_) | (with_reducible refine ite_dp (by omega) ?_) | (with_reducible refine ite_dn (by omega) ?_) | (with_reducible refine ite_bp (by assumption) ?_) | (with_reducible refine ite_bn (by assumption) ?_)
 k_with "call builtin:len" => (k_here; (with_reducible show wpAny _ _ (call (Value.builtin "len") [Value.ref _]) _ _ _); k_dflt (refine' len_led (by k_asm) (by k_mem) (by with_reducible assumption) (by omega) ?_; k_whole))
 k_with "call ref" => (k_here; (with_reducible show wpAny _ _ (call (Value.ref _) _) _ _ _); refine wpAny_call ?_; k_extra "c9")
 k_with "fold9" => ((try (refine letf (by assumption) ?_; intro m9ᵩ F9ᵩ)); (try (refine letn (by assumption) ?_; intro w9ᵩ N9ᵩ)))
 k_with "subscriptTail Name Slice ref ref" => (k_here; k_dflt (refine' kmk_slice_lit (by k_asm) (by k_asm) (by exact News.isList (by k_asm) (by k_mem)) (by kmk_part) (by kmk_part) (by first | exact pick_from (by omega) | exact pick_upto (by omega)) ?_ (by with_unfolding_all rfl) (by kmk_pure) (by exact sz64 (by assumption) (by assumption))); intro D'ᵩ h'ᵩ F'ᵩ N'ᵩ l1ᵩ; (try k_lt l1ᵩ); (try k_sweep))
 k_with "exec For" => (k_here; (with_reducible show wpAny _ _ (exec (PySem.Stmt.For _ _ _ _ _) _) _ _ _); refine StopG.out ?_)
 k_with "pyIter ref" => (k_here; (with_reducible show wpAny _ _ (pyIter (Value.ref _)) _ _ _); refine StopG.out ?_)
 k_with "FPPost" => (k_here; with_reducible refine fpret ?_; (try dsimp only))
 trivial
namespace EK.E_lidle_c
theorem core : @P w mean mg mb dp un gd cn cs a ccd cl outer A₀ base h₀ L m s Q E := by
  intro news l vs n rs at' t B F X T hk N hl hR h0 h1 hz hd hu hret
  have hlen := told_len hR
  have hi : at'.toNat < rs.length := by omega
  obtain ⟨v, hv, a1, p, t2, k1, k, ps, rfl, ha1, hp, hps⟩ := told_get hR hi
  have hdrop : rs.drop at'.toNat = rs[at'.toNat] :: rs.drop (at'.toNat + 1) := by simp
  unfold idleAt at hret
  rw [hdrop] at hret
  revert hret ha1 hps
  generalize hr : rs[at'.toNat] = r
  intro hret ha1 hps
  cases r
  case jmp o g =>
    dsimp only [nameOf, partsOf] at ha1 hps
    obtain ⟨t4, t5, rfl⟩ := da_si hps
    k_steps
    refine StopG.mk ?_
    rename Fr _ _ _ _ => F9
    refine For_turns F9 ?_
    k_steps
    refine StopG.mk ?_
    rename News _ _ _ _ => N9
    try clear F9
    rename Fr _ _ _ _ => F9
    have hrest : rs.drop (at'.toNat + 1) = rs.drop (at' + 1).toNat := by congr 1; omega
    refine forP [Str.ofString "later", Str.ofString "others"] (fun us => ∃ j, us = vs.drop j ∧ at'.toNat + 1 ≤ j ∧ idleIn o g (rs.drop (at'.toNat + 1)) = idleIn o g (rs.drop j)) rfl F9 N9 List.mem_cons_self ⟨(at' + 1).toNat, rfl, by omega, by rw [hrest]⟩ ?_ ?_
    · rintro v6 r6 u6 I6 o6' h6 tk6 ⟨j, hj, hj1, hj2⟩ hI6 ho6 F6 N6
      clear F9 N9
      obtain ⟨hlt, hv6, rfl⟩ := drop_cons hj
      rw [hlen] at hlt
      obtain ⟨v7, hv7, a7, p7, t7, k7, j7, ps7, rfl, ha7, hp7, hps7⟩ := told_get hR hlt
      obtain rfl : v6 = .ref a7 := by rw [hv6] at hv7; exact Option.some.inj hv7
      have hdrop6 : rs.drop j = rs[j] :: rs.drop (j + 1) := by simp
      rw [hdrop6] at hj2
      revert hj2 ha7 hps7
      generalize hr6 : rs[j] = r6
      intro hj2 ha7 hps7
      cases r6
      case mark o6 g6 =>
        dsimp only [nameOf, partsOf] at ha7 hps7
        obtain ⟨t8, rfl⟩ := da_i hps7
        cases o6 <;> cases o <;> dsimp only [kdS] at * <;> k_steps
        all_goals first
          | (refine fpend (by assumption) (by assumption) (fun z hz => by
               have hz' := hz
               simp only [List.contains_cons, List.contains_nil, Bool.or_false, Bool.or_eq_false_iff, beq_eq_false_iff_ne, ne_eq] at hz
               simp +zetaDelta [hz, hz']) (fun p hp => by first | exact hp | exact List.mem_cons_of_mem _ hp | exact List.mem_cons_of_mem _ (List.mem_cons_of_mem _ hp) | exact List.mem_cons_of_mem _ (List.mem_cons_of_mem _ (List.mem_cons_of_mem _ hp)) | exact List.mem_cons_of_mem _ (List.mem_cons_of_mem _ (List.mem_cons_of_mem _ (List.mem_cons_of_mem _ hp)))) ⟨j + 1, rfl, by omega, ?_⟩
             rw [hj2]
             simp_all [idleIn])
          | (refine fin_b hret ?_ (by assumption) (by (first | assumption | exact news_tl (by assumption) | exact news_tl (news_tl (by assumption)) | exact news_tl (news_tl (news_tl (by assumption))) | exact news_tl (news_tl (news_tl (news_tl (by assumption)))) | exact news_tl (news_tl (news_tl (news_tl (news_tl (by assumption))))) | exact news_tl (news_tl (news_tl (news_tl (news_tl (news_tl (by assumption)))))) | exact news_tl (news_tl (news_tl (news_tl (news_tl (news_tl (news_tl (by assumption)))))))))
             show idleIn _ _ _ = _
             rw [hj2]
             simp_all [idleIn])
      all_goals
        dsimp only [nameOf, kdS] at *
        k_steps
        refine fin_b hret ?_ (by assumption) (by (first | assumption | exact news_tl (by assumption) | exact news_tl (news_tl (by assumption)) | exact news_tl (news_tl (news_tl (by assumption))) | exact news_tl (news_tl (news_tl (news_tl (by assumption)))) | exact news_tl (news_tl (news_tl (news_tl (news_tl (by assumption))))) | exact news_tl (news_tl (news_tl (news_tl (news_tl (news_tl (by assumption)))))) | exact news_tl (news_tl (news_tl (news_tl (news_tl (news_tl (news_tl (by assumption)))))))))
        show idleIn _ _ _ = _
        rw [hj2]
        rfl
    · rintro u6 h6 tk6 ⟨j, hj, hj1, hj2⟩ F6 N6
      k_steps
      refine fin_b hret ?_ (by assumption) (by (first | assumption | exact news_tl (by assumption) | exact news_tl (news_tl (by assumption)) | exact news_tl (news_tl (news_tl (by assumption))) | exact news_tl (news_tl (news_tl (news_tl (by assumption)))) | exact news_tl (news_tl (news_tl (news_tl (news_tl (by assumption))))) | exact news_tl (news_tl (news_tl (news_tl (news_tl (news_tl (by assumption)))))) | exact news_tl (news_tl (news_tl (news_tl (news_tl (news_tl (news_tl (by assumption)))))))))
      show idleIn _ _ _ = _
      have hjl : rs.length ≤ j := by
        have := congrArg List.length hj
        rw [List.length_drop, List.length_nil] at this
        omega
      rw [hj2, List.drop_eq_nil_of_le hjl]
      rfl
  case mark o g =>
    cases o <;> dsimp only [nameOf, kdS] at * <;> k_steps <;> exact fin_b hret rfl (by assumption) (by (first | assumption | exact news_tl (by assumption) | exact news_tl (news_tl (by assumption)) | exact news_tl (news_tl (news_tl (by assumption))) | exact news_tl (news_tl (news_tl (news_tl (by assumption)))) | exact news_tl (news_tl (news_tl (news_tl (news_tl (by assumption))))) | exact news_tl (news_tl (news_tl (news_tl (news_tl (news_tl (by assumption)))))) | exact news_tl (news_tl (news_tl (news_tl (news_tl (news_tl (news_tl (by assumption)))))))))
  all_goals
    dsimp only [nameOf, partsOf] at *
    k_steps
    exact fin_b hret rfl (by assumption) (by (first | assumption | exact news_tl (by assumption) | exact news_tl (news_tl (by assumption)) | exact news_tl (news_tl (news_tl (by assumption))) | exact news_tl (news_tl (news_tl (news_tl (by assumption)))) | exact news_tl (news_tl (news_tl (news_tl (news_tl (by assumption))))) | exact news_tl (news_tl (news_tl (news_tl (news_tl (news_tl (by assumption)))))) | exact news_tl (news_tl (news_tl (news_tl (news_tl (news_tl (news_tl (by assumption)))))))))
end EK.E_lidle_c
theorem EK.E_lidle_c.all : ∀ c, EK.E_lidle_c.Pc c := by
  have h : EK.E_lidle_c.Pc kc := by with_unfolding_all exact EK.E_lidle_c.core
  rw [EK.eqk2] at h
  exact first_all (r := EK.lst3) h
theorem EK.eqk3 : kc = first EK.lst3 := EK.eqk2.trans (first_skip EK.E_lidle_c.all)
theorem lidle_c {w : World} {mean : ExcName → Option Value} {mg mb : Str → Option Value} {dp un : Nat} {gd : Option (List Code)} {cn : Str} {cs : Scope} {a : Addr} {ccd : Value} {cl : List (Str × Addr)} {outer : List Env} {A₀ : Around} {base h₀ : Heap} {L : Addr} {m : Str → Option Value} {s : Shared} {Q E : Value → Shared → Prop} (news : List (Addr × Obj)) (l : Addr) (vs : List Value) (n : Nat) (rs : List TR) (at' : Int) (t : Tok)
    (B : Below A₀ base outer h₀) (F : Fr h₀ L s.heap m) (X : (hd.heap_1 w.params).In h₀) (T : Top viewP LZ mean mg mb h₀) (hk : cs.kind = .function)
    (N : News h₀ L s.heap news) (hl : (l, listOf vs.toArray n) ∈ news) (hR : DatAll news vs (rs.map datOf)) (h0 : 0 ≤ at') (h1 : at' < rs.length) (hz : rs.length ≤ 64)
    (hd : dp + 5 < recursionLimit) (hu : un + 100 < cLine)
    (hret : ∀ (h' : Heap) (tks : Nat), Fr h₀ L h' m → News h₀ L h' news → Q (.bool (idleAt rs at'.toNat)) { s with heap := h', toks := tks }) : wpAny (model PySem.Challenge.rw_pf0284_01.row.prog w) (ktrTop dp un gd cn cs L a ccd cl outer) (call (.ref 485) [.ref l, .int at' t]) Q E s := by
  with_unfolding_all exact EK.E_lidle_c.all ⟨w, mean, mg, mb, dp, un, gd, cn, cs, a, ccd, cl, outer, A₀, base, h₀, L, m, s, Q, E⟩ news l vs n rs at' t B F X T hk N hl hR h0 h1 hz hd hu hret
end
end
section
section
variable {prog : Program} {w : World} {A : Around} {E : Value → Shared → Prop} {s : Shared} {h₀ : Heap} {L D : Addr} {m : Str → Option Value} {news news' : List (Addr × Obj)} {n : Nat}
theorem kw5 : True := by
 w_top off
 k_with_none
 k_with "ml" => first | assumption | (refine memsub (by assumption) ?_; first | assumption | exact List.Mem.head _ | (refine List.Mem.tail _ ?_; first | exact List.Mem.head _ | (refine List.Mem.tail _ ?_; first | exact List.Mem.head _ | (refine List.Mem.tail _ ?_; first | exact List.Mem.head _ | (refine List.Mem.tail _ ?_; first | assumption) | assumption) | assumption) | assumption) | assumption)
 k_with "k_mem" => first | exact List.Mem.head _ | (refine List.Mem.tail _ ?_; k_extra "k_mem") | k_extra "ml"
 k_with "ks" => repeat' (first | (k_unfold; (try dsimp only)) | (k_end; kc_close) | (walk1; (try (first | (with_reducible show wpAny _ _ (exec _ _) _ _ _; (try dsimp only); (refine letq ?_; intro qk9ᵩ); (try with_reducible refine wpst ?_; intro tk9ᵩ); (try walk_at "fold9")) | (with_reducible show wpAny _ _ (execs _ _) _ _ _; k_fold)))) | (dsimp only; walk1) | (leave1; walk_say "STEP leave1"; try dsimp only) | (k_unmd; k_unfold; (try dsimp only)) | fail "no step")
 k_with "in9" => first | with_reducible assumption | (refine' Frag.In.keeps ?y9X (Fr.keep ?y9F); (case y9F => k_asm); (case y9X => k_asm))
 k_with "eval Constant str" => with_reducible refine kstr ?_
 k_with "eval Constant int" => with_reducible refine kint ?_
 k_with "oc" => first | (apply c1; assumption) | (apply c2; assumption) | (apply l2; assumption) | (apply c3; assumption) | (apply c4; assumption) | (apply c5; assumption) | (apply c6; assumption) | (apply c7; assumption) | (apply c8; assumption) | (apply c9; assumption) | (apply c10; assumption) | (apply c11; assumption) | (apply c12; assumption) | (apply c13; assumption) | (apply c14; assumption) | (apply c15; assumption) | (apply c16; assumption)
 k_with "od" => first | (apply c1; assumption) | (apply c2; assumption) | (apply l2; assumption) | (apply c3; assumption) | (apply c4; assumption) | (apply c5; assumption) | (apply c6; assumption) | (apply c7; assumption)
 k_with "on" => first | (apply zsy; assumption) | (apply zgt; first | assumption | k_extra "oc") | (apply zlt; first | assumption | k_extra "oc") | (apply gtt; assumption; first | assumption | k_extra "od") | (apply ltt; assumption; first | assumption | k_extra "od")
 k_with "oi" => first | exact nn0 | exact nn0' | exact z63 (by assumption) (by assumption) | exact z63b (by assumption) (by assumption) | exact n63 (by assumption) (by assumption) | exact n63b (by assumption) (by assumption) | exact z63c (by assumption) (by assumption) | exact z63d (by assumption) (by assumption) | exact nlt (by assumption) | exact n62 (by assumption) | exact n62b (by assumption) | exact tnl (by assumption) (by assumption) | exact sub1 (by assumption) | exact sub2 (by assumption) (by assumption) | decide | exact Int.lt_of_lt_of_le (by assumption) (by decide) | exact Nat.le_trans (by assumption) (by decide) | exact ul (by assumption) (by decide) | exact up0 (by assumption) (by assumption) | k_extra "oc"
 k_with "om" => first | (k_whole; with_reducible (first | assumption | (show @Ne Nat _ _; k_extra "on") | (show @Eq Nat _ _; first | exact tn1 (by assumption) | exact z0i) | ((first | show @LT.lt Int _ _ _ | show @LE.le Int _ _ _ | show @LT.lt Nat _ _ _ | show @LE.le Nat _ _ _); k_extra "oi")))
 k_with "execs cons If" => (k_here; (with_reducible show wpAny _ _ (execs (PySem.Stmt.If (PySem.Expr.Compare (PySem.Expr.Name _ _) [.Eq] [PySem.Expr.Constant (.str _) _ _] _) _ _ _ :: _) _) _ _ _); first | ((with_reducible show wpAny _ _ (execs (PySem.Stmt.If _ _ [] _ :: _) _) _ _ _); k_dflt (refine' cif_f ?F ?v ?x ?c ?k ?d ?_; (case F => k_asm); (case x => kernel_rfl!); (case k => kernel_rfl!); (case d => kernel_rfl!); (case v => rfl); (case c => first | with_reducible assumption | kernel_rfl!); k_whole)) | ((with_reducible show wpAny _ _ (execs [PySem.Stmt.If _ _ (_ :: _) _] _) _ _ _); k_dflt (refine' cif_g ?F ?v ?x ?c ?k ?d ?_; (case F => k_asm); (case x => kernel_rfl!); (case k => kernel_rfl!); (case d => kernel_rfl!); (case v => rfl); (case c => first | with_reducible assumption | kernel_rfl!); k_whole)) | ((with_reducible show wpAny _ _ (execs [PySem.Stmt.If _ _ _ _] _) _ _ _); k_dflt (refine' cif_t ?F ?v ?x ?c ?k ?d ?_; (case F => k_asm); (case x => kernel_rfl!); (case k => kernel_rfl!); (case d => kernel_rfl!); (case v => rfl); (case c => first | with_reducible assumption | kernel_rfl!); k_whole)) | k_dflt (refine' cif_r ?F ?v ?x ?c ?k ?d ?_; (case F => k_asm); (case x => kernel_rfl!); (case k => kernel_rfl!); (case d => kernel_rfl!); (case v => rfl); (case c => first | with_reducible assumption | kernel_rfl!); k_whole))
 k_with "callWith" => ((with_reducible show wpAny _ _ (callWith _ (Value.builtin _) (_ :: _) (backTo _ (starEach (_ :: _) _)) []) _ _ _); refine callWith_method1 ?_)
 k_with "callWith ref" => (k_here; k_dflt (first | (refine' callWith_K ?y9k ?y9l ?_; (case y9k => k_asm); (case y9l => k_is); k_whole) | (refine' callWith_K0 ?y9k ?y9l ?_; (case y9k => k_in); (case y9l => k_is); k_whole)))
 k_with "eval Name" => (k_here; (fail_if_success (with_reducible show wpAny _ _ (eval (PySem.Expr.Name _ _) (compEnvC _ _ _ _)) _ _ _)); k_dflt (first | (refine' nameX_L ?y9F ?y9v ?_ ?y9a ?y9b ?y9d; (case y9F => k_asm); (case y9a => kernel_rfl!); (case y9b => kernel_rfl!); (case y9d => kernel_rfl!); (case y9v => rfl); k_whole) | (refine' nameX_K ?y9F ?y9X ?y9T ?y9e ?_ ?y9a ?y9b; (case y9F => k_asm); (case y9X => k_asm); (case y9T => k_asm); (case y9a => kernel_rfl!); (case y9b => kernel_rfl!); (case y9e => k_is); k_whole) | (refine' nameX_C ?y9N ?y9c ?y9m ?y9d ?_ ?y9a ?y9b; (case y9a => kernel_rfl!); (case y9b => kernel_rfl!); (case y9N => k_asm); (case y9c => rfl); (case y9m => k_mem); (case y9d => k_asm); k_whole) | (refine' nameX_B ?y9F ?y9X ?y9T ?y9e ?y9v ?y9n ?_ ?y9a ?y9b; (case y9F => k_asm); (case y9X => k_asm); (case y9T => k_asm); (case y9a => kernel_rfl!); (case y9b => kernel_rfl!); (case y9e => k_is); (case y9v => boot_fast); (case y9n => decide); k_whole)))
 k_with "execs cons Return" => with_reducible refine cret ?_
 k_with "newTuple" => (k_here; k_dflt (refine' kup_newTuple (by k_asm) (by k_asm) ?_ (by kmk_size)); intro D'ᵩ h'ᵩ F'ᵩ N'ᵩ l1ᵩ; have l2ᵩ := l1ᵩ; (try k_lt l1ᵩ))
 k_with "k9" => (first | exact rfl | assumption)
 k_with "d9" => (first | exact rmc0 (by assumption) (by decide) | exact rmc 1 (by assumption) (by decide) | exact rmc 2 (by assumption) (by decide) | exact rmc 3 (by assumption) (by decide))
 k_with "u9" => (first | exact rmu0 (by assumption) (by decide) | exact rmu 3 (by assumption) (by decide) | exact rmu 6 (by assumption) (by decide) | exact rmu 9 (by assumption) (by decide) | exact rmu 1 (by assumption) (by decide) | exact rmu 4 (by assumption) (by decide) | exact rmu 7 (by assumption) (by decide))
 k_with "r9" => (first | exact rm0 (by assumption) | exact rm 1 (by assumption) (by decide) | exact rm 2 (by assumption) (by decide) | exact rm 3 (by assumption) (by decide) | exact rm 4 (by assumption) (by decide))
 k_with "b9" => (first | exact BindsTo.of_eq rfl | exact binds_K (by k_in) rfl (by k_is) rfl rfl rfl)
 k_with "c9" => (k_dflt (refine' code_def ?k1 ?k2 ?k3 ?k4 ?k5 ?kA ?kF ?kK ?k6 ?k7 ?k8 ?k9 ?kB ?_ ?c2 ?c3 ?c4 ?c5; (case kA => exact rfl); (case kF => exact rfl); (case kK => k_extra "k9"); (case k1 => k_asm); (case k2 => k_asm); (case k3 => k_asm); (case k4 => k_asm); (case k5 => k_asm); (case k6 => k_is); (case k7 => k_is); (case k8 => k_extra "r9"); (case k9 => k_extra "b9"); (case c5 => decide); (case kB => exact locs rfl); (case c2 => exact rfl); (case c3 => exact rfl); (case c4 => exact rfl); k_whole); intro g'ᵩ L'ᵩ h'ᵩ FG'ᵩ F'ᵩ N'ᵩ B'ᵩ X'ᵩ T'ᵩ; (try dsimp only))
 k_with "i9" => (k_dflt (refine' item_led (by k_asm) (by k_mem) (by omega) (by with_reducible assumption) (by omega) ?_ (by with_unfolding_all rfl); k_whole))
 k_with "j9" => (first | k_dflt (refine' item_tupleT (News.isTup (by k_asm) (by k_mem)) (by decide) (by decide) (by rfl) (by rfl) ?_ (by with_unfolding_all rfl); k_whole) | k_extra "i9")
 k_with "mo" => exact ⟨_, _, _, _, _, _, _, _, ⟨_, _, _, _, _, _, _, _, _, _, _, _, _, _, _, _, _, _, _, _, _, rfl⟩⟩
 k_with "nt" => (first | assumption | exact news_tl (by assumption) | exact news_tl (news_tl (by assumption)) | exact news_tl (news_tl (news_tl (by assumption))) | exact news_tl (news_tl (news_tl (news_tl (by assumption)))) | exact news_tl (news_tl (news_tl (news_tl (news_tl (by assumption))))) | exact news_tl (news_tl (news_tl (news_tl (news_tl (news_tl (by assumption)))))) | exact news_tl (news_tl (news_tl (news_tl (news_tl (news_tl (news_tl (by assumption))))))))
 k_with "subscriptTail Attribute Subscript Constant ref int" => (k_here; k_extra "j9")
 k_with "subscriptTail Name Constant ref int" => (k_here; k_extra "j9")
 k_with "subscriptTail Attribute Name Constant ref int" => (k_here; k_extra "j9")
 k_with "subscriptTail Name Name ref int" => (k_here; k_extra "i9")
 k_with "ite" => first | with_reducible refine ite_tt ?_ | with_reducible refine ite_ff ?_ | (k_closed; k_dflt (first | (with_reducible refine' ite_bp ?y9z ?_; (case y9z => kernel_rfl!)) | (with_reducible refine' ite_bn ?y9z ?_; (case y9z => kernel_rfl!)) | refine ite_pos (by decide) ?_ | refine ite_neg (by decide) ?_)) | (with_reducible refine ite_af (by decide +kernel) ?_) | (with_reducible refine ite_at (by decide +kernel) ?_) | (with_reducible refine ite_dp (by omega) ?_) | (with_reducible refine ite_dn (by omega) ?_) | (with_reducible refine ite_bp (by assumption) ?_) | (with_reducible refine ite_bn (by assumption) ?_)
 k_with "call builtin:len" => (k_here; (with_reducible show wpAny _ _ (call (Value.builtin "len") [Value.ref _]) _ _ _); k_dflt (refine' len_led (by k_asm) (by k_mem) (by with_reducible assumption) (by omega) ?_; k_whole))
 k_with "call ref" => (k_here; (with_reducible show wpAny _ _ (call (Value.ref _) _) _ _ _); refine wpAny_call ?_; k_extra "c9")
 k_with "fold9" => ((try (refine letf (by assumption) ?_; intro m9ᵩ F9ᵩ)); (try (refine letn (by assumption) ?_; intro w9ᵩ N9ᵩ)))
 trivial
theorem pop0 {vs : List Value} {ns : List Int} {Q : Value → Shared → Prop} {u : Tok} (F : Fr h₀ L s.heap m) (N : News h₀ L s.heap news) (hi : IntsAre vs ns) (hne : decide (ns = []) = false) (hz : ns.length ≤ 64)
    (U : Upd D (listOf vs.toArray n) (listOf vs.tail.toArray (n + 1)) news news')
    (h : ∀ h' i t, Fr h₀ L h' m → News h₀ L h' news' → IntsAre vs.tail ns.tail → Q (.int i t) { s with heap := h' }) : wpAny (model prog w) A (call (.builtin "list.pop") [.ref D, .int 0 u]) Q E s := by
  cases hi with
  | nil => simp at hne
  | cons k t r =>
    rename_i vs' ns'
    have hl := r.length
    simp only [List.length_cons] at hz
    refine kl_popAt (p := []) (q := vs') (y := .int k t) (k := 0) F N rfl ?_ rfl U ?_ (fun h' F' N' => h h' k t F' N' r)
    · show seqIndex? 0 (Value.int k t :: vs').toArray.size = some 0
      rw [List.size_toArray, List.length_cons]
      unfold seqIndex?
      dsimp only
      rw [if_neg (show ¬ (0 : Int) < 0 by omega)]
      rw [if_pos (by rw [Bool.and_eq_true]; exact ⟨by decide, decide_eq_true (by omega)⟩)]
      rfl
    · show (Value.int k t :: vs').length ≤ _
      rw [PySem.sizeLine_eq, List.length_cons]
      omega
end
section
variable {pen p0 D : Addr} {own news : List (Addr × Obj)} {o : Obj} {q : Addr × Obj}
theorem PenLed.cons (h : PenLed pen p0 own news) : PenLed pen p0 (q :: own) (q :: news) := by
  obtain ⟨k, c, tk, tc, n0, n1, vs, ns, hi, hl, hm⟩ := h
  refine ⟨k, c, tk, tc, n0, n1, vs, ns, hi, hl, fun p => ?_⟩
  rw [List.mem_cons, List.mem_cons, hm p]
  constructor
  · rintro (a | a | a | a)
    · exact .inr (.inr (.inl a))
    · exact .inl a
    · exact .inr (.inl a)
    · exact .inr (.inr (.inr a))
  · rintro (a | a | a | a)
    · exact .inr (.inl a)
    · exact .inr (.inr (.inl a))
    · exact .inl a
    · exact .inr (.inr (.inr a))
theorem PenLed.sub (h : PenLed pen p0 own news) : ∀ p ∈ own, p ∈ news := by
  obtain ⟨k, c, tk, tc, n0, n1, vs, ns, hi, hl, hm⟩ := h
  exact fun p hp => (hm p).mpr (.inr (.inr hp))
theorem PenLed.off (h : PenLed pen p0 own news) (hl : ∀ p ∈ news, p.1 < D) (ho : OwnOff own [pen, p0]) : OwnOff ((D, o) :: own) [pen, p0] := by
  obtain ⟨k, c, tk, tc, n0, n1, vs, ns, hi, hl', hm⟩ := h
  have h1 := hl _ ((hm _).mpr (.inl rfl))
  have h2 := hl _ ((hm _).mpr (.inr (.inl rfl)))
  intro p hp b hb
  rcases List.mem_cons.mp hp with rfl | hp
  · have hb' : b = pen ∨ b = p0 := by simpa using hb
    rcases hb' with rfl | rfl
    · exact Nat.ne_of_gt h1
    · exact Nat.ne_of_gt h2
  · exact ho p hp b hb
end
section
theorem kw6 : True := by
 w_top off
 k_with "call builtin:list.pop" => (k_here; k_dflt (refine' pop0 ?F ?N ?i ?e ?z ?U ?_; (case F => k_asm); (case N => k_asm); (case i => k_asm); (case e => k_asm); (case z => k_asm); (case U => k_upd)); intro h'ᵩ i'ᵩ t'ᵩ F'ᵩ N'ᵩ hi'ᵩ; (try k_sweep))
 k_with "subscriptTail Name Constant ref int" => (k_here; (with_unfolding_all refine' item_litK ?k1 ?k2 ?k3 ?k4 ?_ ?k6; (case k1 => is_list); (case k2 => decide); (case k3 => decide); (case k4 => rfl); (case k6 => with_unfolding_all rfl); k_whole))
 trivial
namespace EK.E_draw_c
theorem core : @P w mean mg mb dp un gd cn cs a ccd cl outer A₀ base h₀ L m s Q E := by
  intro own news pen p0 many t B F X T hk N hp hoff hne hm hm2 hd hu hret
  obtain ⟨k, c, tk, tc, n0, n1, vs, ns, hi, hfit, hmem⟩ := hp
  have N1 : News h₀ L s.heap ((pen, listOf #[.ref p0, .int k tk, .int c tc] n0) :: (p0, listOf vs.toArray n1) :: own) := fun p hp => N p ((hmem p).mpr (by simpa only [List.mem_cons] using hp))
  clear N hmem
  k_steps
  all_goals (rename News _ _ _ _ => N9)
  all_goals (first
    | exact hret _ _ _ _ _ (Int.fmod_nonneg_of_pos _ hm) (Int.fmod_lt_of_pos _ hm) ⟨_, _, _, _, _, _, _, _, by assumption, by first | assumption | (simp only [List.length_tail]; omega), fun p => List.mem_cons.trans (or_congr Iff.rfl List.mem_cons)⟩ (by assumption) N9
    | exact hret _ _ _ _ _ (Int.fmod_nonneg_of_pos _ hm) (Int.fmod_lt_of_pos _ hm) ⟨_, _, _, _, _, _, _, _, by assumption, by first | assumption | (simp only [List.length_tail]; omega), fun p => List.mem_cons.trans (or_congr Iff.rfl List.mem_cons)⟩ (by assumption) (News.tail' N9))
end EK.E_draw_c
theorem EK.E_draw_c.all : ∀ c, EK.E_draw_c.Pc c := by
  have h : EK.E_draw_c.Pc kc := by with_unfolding_all exact EK.E_draw_c.core
  rw [EK.eqk3] at h
  exact first_all (r := EK.lst4) h
theorem EK.eqk4 : kc = first EK.lst4 := EK.eqk3.trans (first_skip EK.E_draw_c.all)
theorem draw_c {w : World} {mean : ExcName → Option Value} {mg mb : Str → Option Value} {dp un : Nat} {gd : Option (List Code)} {cn : Str} {cs : Scope} {a : Addr} {ccd : Value} {cl : List (Str × Addr)} {outer : List Env} {A₀ : Around} {base h₀ : Heap} {L : Addr} {m : Str → Option Value} {s : Shared} {Q E : Value → Shared → Prop} (own news : List (Addr × Obj)) (pen p0 : Addr) (many : Int) (t : Tok)
    (B : Below A₀ base outer h₀) (F : Fr h₀ L s.heap m) (X : (hd.heap_1 w.params).In h₀) (T : Top viewP LZ mean mg mb h₀) (hk : cs.kind = .function)
    (N : News h₀ L s.heap news) (hp : PenLed pen p0 own news) (hoff : OwnOff own [pen, p0]) (hne : @Ne Nat pen p0) (hm : 0 < many) (hm2 : many ≤ 64)
    (hd : dp + 5 < recursionLimit) (hu : un + 100 < cLine)
    (hret : ∀ (r : Int) (t' : Tok) (news' : List (Addr × Obj)) (h' : Heap) (tks : Nat), 0 ≤ r → r < many → PenLed pen p0 own news' → Fr h₀ L h' m → News h₀ L h' news' → Q (.int r t') { s with heap := h', toks := tks }) : wpAny (model PySem.Challenge.rw_pf0284_01.row.prog w) (ktrTop dp un gd cn cs L a ccd cl outer) (call (.ref 466) [.ref pen, .int many t]) Q E s := by
  with_unfolding_all exact EK.E_draw_c.all ⟨w, mean, mg, mb, dp, un, gd, cn, cs, a, ccd, cl, outer, A₀, base, h₀, L, m, s, Q, E⟩ own news pen p0 many t B F X T hk N hp hoff hne hm hm2 hd hu hret
end
section
theorem kw7 : True := by
 w_top off
 k_with_none
 k_with "ml" => first | assumption | (refine memsub (by assumption) ?_; first | assumption | exact List.Mem.head _ | (refine List.Mem.tail _ ?_; first | exact List.Mem.head _ | (refine List.Mem.tail _ ?_; first | exact List.Mem.head _ | (refine List.Mem.tail _ ?_; first | exact List.Mem.head _ | (refine List.Mem.tail _ ?_; first | assumption) | assumption) | assumption) | assumption) | assumption)
 k_with "k_mem" => first | exact List.Mem.head _ | (refine List.Mem.tail _ ?_; k_extra "k_mem") | k_extra "ml"
 k_with "ks" => repeat' (first | (k_unfold; (try dsimp only)) | (k_end; kc_close) | (walk1; (try (first | (with_reducible show wpAny _ _ (exec _ _) _ _ _; (try dsimp only); (refine letq ?_; intro qk9ᵩ); (try with_reducible refine wpst ?_; intro tk9ᵩ); (try walk_at "fold9")) | (with_reducible show wpAny _ _ (execs _ _) _ _ _; k_fold)))) | (dsimp only; walk1) | (leave1; walk_say "STEP leave1"; try dsimp only) | (k_unmd; k_unfold; (try dsimp only)) | fail "no step")
 k_with "in9" => first | with_reducible assumption | (refine' Frag.In.keeps ?y9X (Fr.keep ?y9F); (case y9F => k_asm); (case y9X => k_asm))
 k_with "eval Constant str" => with_reducible refine kstr ?_
 k_with "eval Constant int" => with_reducible refine kint ?_
 k_with "oc" => first | (apply c1; assumption) | (apply c2; assumption) | (apply l2; assumption) | (apply c3; assumption) | (apply c4; assumption) | (apply c5; assumption) | (apply c6; assumption) | (apply c7; assumption) | (apply c8; assumption) | (apply c9; assumption) | (apply c10; assumption) | (apply c11; assumption) | (apply c12; assumption) | (apply c13; assumption) | (apply c14; assumption) | (apply c15; assumption) | (apply c16; assumption)
 k_with "od" => first | (apply c1; assumption) | (apply c2; assumption) | (apply l2; assumption) | (apply c3; assumption) | (apply c4; assumption) | (apply c5; assumption) | (apply c6; assumption) | (apply c7; assumption)
 k_with "on" => first | (apply zsy; assumption) | (apply zgt; first | assumption | k_extra "oc") | (apply zlt; first | assumption | k_extra "oc") | (apply gtt; assumption; first | assumption | k_extra "od") | (apply ltt; assumption; first | assumption | k_extra "od")
 k_with "oi" => first | exact nn0 | exact nn0' | exact z63 (by assumption) (by assumption) | exact z63b (by assumption) (by assumption) | exact n63 (by assumption) (by assumption) | exact n63b (by assumption) (by assumption) | exact z63c (by assumption) (by assumption) | exact z63d (by assumption) (by assumption) | exact nlt (by assumption) | exact n62 (by assumption) | exact n62b (by assumption) | exact tnl (by assumption) (by assumption) | exact sub1 (by assumption) | exact sub2 (by assumption) (by assumption) | decide | exact Int.lt_of_lt_of_le (by assumption) (by decide) | exact Nat.le_trans (by assumption) (by decide) | exact ul (by assumption) (by decide) | exact up0 (by assumption) (by assumption) | k_extra "oc"
 k_with "om" => first | (k_whole; with_reducible (first | assumption | (show @Ne Nat _ _; k_extra "on") | (show @Eq Nat _ _; first | exact tn1 (by assumption) | exact z0i) | ((first | show @LT.lt Int _ _ _ | show @LE.le Int _ _ _ | show @LT.lt Nat _ _ _ | show @LE.le Nat _ _ _); k_extra "oi")))
 k_with "execs cons If" => (k_here; (with_reducible show wpAny _ _ (execs (PySem.Stmt.If (PySem.Expr.Compare (PySem.Expr.Name _ _) [.Eq] [PySem.Expr.Constant (.str _) _ _] _) _ _ _ :: _) _) _ _ _); first | ((with_reducible show wpAny _ _ (execs (PySem.Stmt.If _ _ [] _ :: _) _) _ _ _); k_dflt (refine' cif_f ?F ?v ?x ?c ?k ?d ?_; (case F => k_asm); (case x => kernel_rfl!); (case k => kernel_rfl!); (case d => kernel_rfl!); (case v => rfl); (case c => first | with_reducible assumption | kernel_rfl!); k_whole)) | ((with_reducible show wpAny _ _ (execs [PySem.Stmt.If _ _ (_ :: _) _] _) _ _ _); k_dflt (refine' cif_g ?F ?v ?x ?c ?k ?d ?_; (case F => k_asm); (case x => kernel_rfl!); (case k => kernel_rfl!); (case d => kernel_rfl!); (case v => rfl); (case c => first | with_reducible assumption | kernel_rfl!); k_whole)) | ((with_reducible show wpAny _ _ (execs [PySem.Stmt.If _ _ _ _] _) _ _ _); k_dflt (refine' cif_t ?F ?v ?x ?c ?k ?d ?_; (case F => k_asm); (case x => kernel_rfl!); (case k => kernel_rfl!); (case d => kernel_rfl!); (case v => rfl); (case c => first | with_reducible assumption | kernel_rfl!); k_whole)) | k_dflt (refine' cif_r ?F ?v ?x ?c ?k ?d ?_; (case F => k_asm); (case x => kernel_rfl!); (case k => kernel_rfl!); (case d => kernel_rfl!); (case v => rfl); (case c => first | with_reducible assumption | kernel_rfl!); k_whole))
 k_with "callWith" => ((with_reducible show wpAny _ _ (callWith _ (Value.builtin _) (_ :: _) (backTo _ (starEach (_ :: _) _)) []) _ _ _); refine callWith_method1 ?_)
 k_with "callWith ref" => (k_here; k_dflt (first | (refine' callWith_K ?y9k ?y9l ?_; (case y9k => k_asm); (case y9l => k_is); k_whole) | (refine' callWith_K0 ?y9k ?y9l ?_; (case y9k => k_in); (case y9l => k_is); k_whole)))
 k_with "eval Name" => (k_here; (fail_if_success (with_reducible show wpAny _ _ (eval (PySem.Expr.Name _ _) (compEnvC _ _ _ _)) _ _ _)); k_dflt (first | (refine' nameX_L ?y9F ?y9v ?_ ?y9a ?y9b ?y9d; (case y9F => k_asm); (case y9a => kernel_rfl!); (case y9b => kernel_rfl!); (case y9d => kernel_rfl!); (case y9v => rfl); k_whole) | (refine' nameX_K ?y9F ?y9X ?y9T ?y9e ?_ ?y9a ?y9b; (case y9F => k_asm); (case y9X => k_asm); (case y9T => k_asm); (case y9a => kernel_rfl!); (case y9b => kernel_rfl!); (case y9e => k_is); k_whole) | (refine' nameX_C ?y9N ?y9c ?y9m ?y9d ?_ ?y9a ?y9b; (case y9a => kernel_rfl!); (case y9b => kernel_rfl!); (case y9N => k_asm); (case y9c => rfl); (case y9m => k_mem); (case y9d => k_asm); k_whole) | (refine' nameX_B ?y9F ?y9X ?y9T ?y9e ?y9v ?y9n ?_ ?y9a ?y9b; (case y9F => k_asm); (case y9X => k_asm); (case y9T => k_asm); (case y9a => kernel_rfl!); (case y9b => kernel_rfl!); (case y9e => k_is); (case y9v => boot_fast); (case y9n => decide); k_whole)))
 k_with "execs cons Return" => with_reducible refine cret ?_
 k_with "newTuple" => (k_here; k_dflt (refine' kup_newTuple (by k_asm) (by k_asm) ?_ (by kmk_size)); intro D'ᵩ h'ᵩ F'ᵩ N'ᵩ l1ᵩ; have l2ᵩ := l1ᵩ; (try k_lt l1ᵩ))
 k_with "k9" => (first | exact rfl | assumption)
 k_with "d9" => (first | exact rmc0 (by assumption) (by decide) | exact rmc 1 (by assumption) (by decide) | exact rmc 2 (by assumption) (by decide) | exact rmc 3 (by assumption) (by decide))
 k_with "u9" => (first | exact rmu0 (by assumption) (by decide) | exact rmu 3 (by assumption) (by decide) | exact rmu 6 (by assumption) (by decide) | exact rmu 9 (by assumption) (by decide) | exact rmu 1 (by assumption) (by decide) | exact rmu 4 (by assumption) (by decide) | exact rmu 7 (by assumption) (by decide))
 k_with "r9" => (first | exact rm0 (by assumption) | exact rm 1 (by assumption) (by decide) | exact rm 2 (by assumption) (by decide) | exact rm 3 (by assumption) (by decide) | exact rm 4 (by assumption) (by decide))
 k_with "b9" => (first | exact BindsTo.of_eq rfl | exact binds_K (by k_in) rfl (by k_is) rfl rfl rfl)
 k_with "c9" => (k_dflt (refine' code_def ?k1 ?k2 ?k3 ?k4 ?k5 ?kA ?kF ?kK ?k6 ?k7 ?k8 ?k9 ?kB ?_ ?c2 ?c3 ?c4 ?c5; (case kA => exact rfl); (case kF => exact rfl); (case kK => k_extra "k9"); (case k1 => k_asm); (case k2 => k_asm); (case k3 => k_asm); (case k4 => k_asm); (case k5 => k_asm); (case k6 => k_is); (case k7 => k_is); (case k8 => k_extra "r9"); (case k9 => k_extra "b9"); (case c5 => decide); (case kB => exact locs rfl); (case c2 => exact rfl); (case c3 => exact rfl); (case c4 => exact rfl); k_whole); intro g'ᵩ L'ᵩ h'ᵩ FG'ᵩ F'ᵩ N'ᵩ B'ᵩ X'ᵩ T'ᵩ; (try dsimp only))
 k_with "i9" => (k_dflt (refine' item_led (by k_asm) (by k_mem) (by omega) (by with_reducible assumption) (by omega) ?_ (by with_unfolding_all rfl); k_whole))
 k_with "j9" => (first | k_dflt (refine' item_tupleT (News.isTup (by k_asm) (by k_mem)) (by decide) (by decide) (by rfl) (by rfl) ?_ (by with_unfolding_all rfl); k_whole) | k_extra "i9")
 k_with "mo" => exact ⟨_, _, _, _, _, _, _, _, ⟨_, _, _, _, _, _, _, _, _, _, _, _, _, _, _, _, _, _, _, _, _, rfl⟩⟩
 k_with "nt" => (first | assumption | exact news_tl (by assumption) | exact news_tl (news_tl (by assumption)) | exact news_tl (news_tl (news_tl (by assumption))) | exact news_tl (news_tl (news_tl (news_tl (by assumption)))) | exact news_tl (news_tl (news_tl (news_tl (news_tl (by assumption))))) | exact news_tl (news_tl (news_tl (news_tl (news_tl (news_tl (by assumption)))))) | exact news_tl (news_tl (news_tl (news_tl (news_tl (news_tl (news_tl (by assumption))))))))
 k_with "subscriptTail Attribute Subscript Constant ref int" => (k_here; k_extra "j9")
 k_with "subscriptTail Name Constant ref int" => (k_here; k_extra "j9")
 k_with "subscriptTail Attribute Name Constant ref int" => (k_here; k_extra "j9")
 k_with "subscriptTail Name Name ref int" => (k_here; k_extra "i9")
 k_with "ite" => first | with_reducible refine ite_tt ?_ | with_reducible refine ite_ff ?_ | (k_closed; k_dflt (first | (with_reducible refine' ite_bp ?y9z ?_; (case y9z => kernel_rfl!)) | (with_reducible refine' ite_bn ?y9z ?_; (case y9z => kernel_rfl!)) | refine ite_pos (by decide) ?_ | refine ite_neg (by decide) ?_)) | (with_reducible refine ite_af (by decide +kernel) ?_) | (with_reducible refine ite_at (by decide +kernel) ?_) | (with_reducible refine ite_dp (by omega) ?_) | (with_reducible refine ite_dn (by omega) ?_) | (with_reducible refine ite_bp (by assumption) ?_) | (with_reducible refine ite_bn (by assumption) ?_)
 k_with "call builtin:len" => (k_here; (with_reducible show wpAny _ _ (call (Value.builtin "len") [Value.ref _]) _ _ _); k_dflt (refine' len_led (by k_asm) (by k_mem) (by with_reducible assumption) (by omega) ?_; k_whole))
 k_with "call ref" => (k_here; (with_reducible show wpAny _ _ (call (Value.ref _) _) _ _ _); refine wpAny_call ?_; k_extra "c9")
 k_with "fold9" => ((try (refine letf (by assumption) ?_; intro m9ᵩ F9ᵩ)); (try (refine letn (by assumption) ?_; intro w9ᵩ N9ᵩ)))
 k_with "call ref" => (k_here; (with_reducible show wpAny _ _ (call (Value.ref 466) _) _ _ _); k_dflt (refine' draw_c  _ _ _ _ _ _ ?B ?F ?X ?T ?k ?N ?p ?o ?ne ?m ?m2 ?d ?u ?_; (case B => k_asm); (case F => k_asm); (case X => k_asm); (case T => k_asm); (case k => k_extra "k9"); (case N => k_asm); (case p => assumption); (case o => assumption); (case ne => assumption); (case m => omega); (case m2 => omega); (case d => k_extra "d9"); (case u => k_extra "u9")); intro r'ᵩ t'ᵩ news'ᵩ h'ᵩ tks'ᵩ hr0'ᵩ hr1'ᵩ hp'ᵩ F'ᵩ N'ᵩ)
 k_with "zz" => skip
 trivial
namespace EK.E_pick_c
theorem core : @P w mean mg mb dp un gd cn cs a ccd cl outer A₀ base h₀ L m s Q E := by
  intro own news pen p0 sm xs kk B F X T hk N hp hoff hne hsm hm hm2 hd hu hret
  have hsm' := hp.sub _ hsm
  have hlen : xs.length = xs.length := rfl
  k_steps
  have hx : xs[r'ᵩ.toNat]? = some xs[r'ᵩ.toNat] := List.getElem?_eq_getElem (by omega)
  refine item_led N'ᵩ (hp'ᵩ.sub _ hsm) hr0'ᵩ hx (by omega) ?_
  k_steps
  exact hret _ _ _ _ _ hx hp'ᵩ (by assumption) (by assumption)
end EK.E_pick_c
theorem EK.E_pick_c.all : ∀ c, EK.E_pick_c.Pc c := by
  have h : EK.E_pick_c.Pc kc := by with_unfolding_all exact EK.E_pick_c.core
  rw [EK.eqk4] at h
  exact first_all (r := EK.lst5) h
theorem EK.eqk5 : kc = first EK.lst5 := EK.eqk4.trans (first_skip EK.E_pick_c.all)
theorem pick_c {w : World} {mean : ExcName → Option Value} {mg mb : Str → Option Value} {dp un : Nat} {gd : Option (List Code)} {cn : Str} {cs : Scope} {a : Addr} {ccd : Value} {cl : List (Str × Addr)} {outer : List Env} {A₀ : Around} {base h₀ : Heap} {L : Addr} {m : Str → Option Value} {s : Shared} {Q E : Value → Shared → Prop} (own news : List (Addr × Obj)) (pen p0 sm : Addr) (xs : List Value) (kk : Nat)
    (B : Below A₀ base outer h₀) (F : Fr h₀ L s.heap m) (X : (hd.heap_1 w.params).In h₀) (T : Top viewP LZ mean mg mb h₀) (hk : cs.kind = .function)
    (N : News h₀ L s.heap news) (hp : PenLed pen p0 own news) (hoff : OwnOff own [pen, p0]) (hne : @Ne Nat pen p0) (hsm : (sm, listOf xs.toArray kk) ∈ own) (hm : 0 < xs.length) (hm2 : xs.length ≤ 64)
    (hd : dp + 8 < recursionLimit) (hu : un + 120 < cLine)
    (hret : ∀ (i : Nat) (v : Value) (news' : List (Addr × Obj)) (h' : Heap) (tks : Nat), xs[i]? = some v → PenLed pen p0 own news' → Fr h₀ L h' m → News h₀ L h' news' → Q v { s with heap := h', toks := tks }) : wpAny (model PySem.Challenge.rw_pf0284_01.row.prog w) (ktrTop dp un gd cn cs L a ccd cl outer) (call (.ref 473) [.ref pen, .ref sm]) Q E s := by
  with_unfolding_all exact EK.E_pick_c.all ⟨w, mean, mg, mb, dp, un, gd, cn, cs, a, ccd, cl, outer, A₀, base, h₀, L, m, s, Q, E⟩ own news pen p0 sm xs kk B F X T hk N hp hoff hne hsm hm hm2 hd hu hret
end
end
section
open PyProof.V
theorem strN_all : ∀ (rs : List TR), strN rs.length rs = stripI rs
  | [] => rfl
  | r :: rest => by
    have ih := strN_all rest
    by_cases h : idleHead (r :: rest) = true
    · rw [stripI, if_pos h, List.length_cons, strN, if_pos h, ih]
    · rw [stripI, if_neg h, List.length_cons, strN, if_neg h, ih]
theorem strN_succ : ∀ (i : Nat) (rs : List TR) (h : i < rs.length), strN (i + 1) rs = strN i rs ++ (if idleAt rs i = true then [] else [rs[i]])
  | _, [], h => absurd h (Nat.not_lt_zero _)
  | 0, r :: rest, _ => by
    by_cases h : idleHead (r :: rest) = true
    · have h' : idleAt (r :: rest) 0 = true := h
      simp [strN, h, h']
    · have h' : ¬ idleAt (r :: rest) 0 = true := h
      simp [strN, h, h']
  | i + 1, r :: rest, hi => by
    have ih := strN_succ i rest (Nat.lt_of_succ_lt_succ hi)
    have e : idleAt (r :: rest) (i + 1) = idleAt rest i := rfl
    by_cases h : idleHead (r :: rest) = true
    · rw [strN, if_pos h, ih, strN, if_pos h, e]; rfl
    · rw [strN, if_neg h, ih, strN, if_neg h, e]; rfl
section
theorem kw8 : True := by
 w_top off
 k_with_none
 k_with "ml" => first | assumption | (refine memsub (by assumption) ?_; first | assumption | exact List.Mem.head _ | (refine List.Mem.tail _ ?_; first | exact List.Mem.head _ | (refine List.Mem.tail _ ?_; first | exact List.Mem.head _ | (refine List.Mem.tail _ ?_; first | exact List.Mem.head _ | (refine List.Mem.tail _ ?_; first | assumption) | assumption) | assumption) | assumption) | assumption)
 k_with "k_mem" => first | exact List.Mem.head _ | (refine List.Mem.tail _ ?_; k_extra "k_mem") | k_extra "ml"
 k_with "ks" => repeat' (first | (k_unfold; (try dsimp only)) | (k_end; kc_close) | (walk1; (try (first | (with_reducible show wpAny _ _ (exec _ _) _ _ _; (try dsimp only); (refine letq ?_; intro qk9ᵩ); (try with_reducible refine wpst ?_; intro tk9ᵩ); (try walk_at "fold9")) | (with_reducible show wpAny _ _ (execs _ _) _ _ _; k_fold)))) | (dsimp only; walk1) | (leave1; walk_say "STEP leave1"; try dsimp only) | (k_unmd; k_unfold; (try dsimp only)) | fail "no step")
 k_with "in9" => first | with_reducible assumption | (refine' Frag.In.keeps ?y9X (Fr.keep ?y9F); (case y9F => k_asm); (case y9X => k_asm))
 k_with "eval Constant str" => with_reducible refine kstr ?_
 k_with "eval Constant int" => with_reducible refine kint ?_
 k_with "oc" => first | (apply c1; assumption) | (apply c2; assumption) | (apply l2; assumption) | (apply c3; assumption) | (apply c4; assumption) | (apply c5; assumption) | (apply c6; assumption) | (apply c7; assumption) | (apply c8; assumption) | (apply c9; assumption) | (apply c10; assumption) | (apply c11; assumption) | (apply c12; assumption) | (apply c13; assumption) | (apply c14; assumption) | (apply c15; assumption) | (apply c16; assumption)
 k_with "od" => first | (apply c1; assumption) | (apply c2; assumption) | (apply l2; assumption) | (apply c3; assumption) | (apply c4; assumption) | (apply c5; assumption) | (apply c6; assumption) | (apply c7; assumption)
 k_with "on" => first | (apply zsy; assumption) | (apply zgt; first | assumption | k_extra "oc") | (apply zlt; first | assumption | k_extra "oc") | (apply gtt; assumption; first | assumption | k_extra "od") | (apply ltt; assumption; first | assumption | k_extra "od")
 k_with "oi" => first | exact nn0 | exact nn0' | exact z63 (by assumption) (by assumption) | exact z63b (by assumption) (by assumption) | exact n63 (by assumption) (by assumption) | exact n63b (by assumption) (by assumption) | exact z63c (by assumption) (by assumption) | exact z63d (by assumption) (by assumption) | exact nlt (by assumption) | exact n62 (by assumption) | exact n62b (by assumption) | exact tnl (by assumption) (by assumption) | exact sub1 (by assumption) | exact sub2 (by assumption) (by assumption) | decide | exact Int.lt_of_lt_of_le (by assumption) (by decide) | exact Nat.le_trans (by assumption) (by decide) | exact ul (by assumption) (by decide) | exact up0 (by assumption) (by assumption) | k_extra "oc"
 k_with "om" => first | (k_whole; with_reducible (first | assumption | (show @Ne Nat _ _; k_extra "on") | (show @Eq Nat _ _; first | exact tn1 (by assumption) | exact z0i) | ((first | show @LT.lt Int _ _ _ | show @LE.le Int _ _ _ | show @LT.lt Nat _ _ _ | show @LE.le Nat _ _ _); k_extra "oi")))
 k_with "execs cons If" => (k_here; (with_reducible show wpAny _ _ (execs (PySem.Stmt.If (PySem.Expr.Compare (PySem.Expr.Name _ _) [.Eq] [PySem.Expr.Constant (.str _) _ _] _) _ _ _ :: _) _) _ _ _); first | ((with_reducible show wpAny _ _ (execs (PySem.Stmt.If _ _ [] _ :: _) _) _ _ _); k_dflt (refine' cif_f ?F ?v ?x ?c ?k ?d ?_; (case F => k_asm); (case x => kernel_rfl!); (case k => kernel_rfl!); (case d => kernel_rfl!); (case v => rfl); (case c => first | with_reducible assumption | kernel_rfl!); k_whole)) | ((with_reducible show wpAny _ _ (execs [PySem.Stmt.If _ _ (_ :: _) _] _) _ _ _); k_dflt (refine' cif_g ?F ?v ?x ?c ?k ?d ?_; (case F => k_asm); (case x => kernel_rfl!); (case k => kernel_rfl!); (case d => kernel_rfl!); (case v => rfl); (case c => first | with_reducible assumption | kernel_rfl!); k_whole)) | ((with_reducible show wpAny _ _ (execs [PySem.Stmt.If _ _ _ _] _) _ _ _); k_dflt (refine' cif_t ?F ?v ?x ?c ?k ?d ?_; (case F => k_asm); (case x => kernel_rfl!); (case k => kernel_rfl!); (case d => kernel_rfl!); (case v => rfl); (case c => first | with_reducible assumption | kernel_rfl!); k_whole)) | k_dflt (refine' cif_r ?F ?v ?x ?c ?k ?d ?_; (case F => k_asm); (case x => kernel_rfl!); (case k => kernel_rfl!); (case d => kernel_rfl!); (case v => rfl); (case c => first | with_reducible assumption | kernel_rfl!); k_whole))
 k_with "callWith" => ((with_reducible show wpAny _ _ (callWith _ (Value.builtin _) (_ :: _) (backTo _ (starEach (_ :: _) _)) []) _ _ _); refine callWith_method1 ?_)
 k_with "callWith ref" => (k_here; k_dflt (first | (refine' callWith_K ?y9k ?y9l ?_; (case y9k => k_asm); (case y9l => k_is); k_whole) | (refine' callWith_K0 ?y9k ?y9l ?_; (case y9k => k_in); (case y9l => k_is); k_whole)))
 k_with "eval Name" => (k_here; (fail_if_success (with_reducible show wpAny _ _ (eval (PySem.Expr.Name _ _) (compEnvC _ _ _ _)) _ _ _)); k_dflt (first | (refine' nameX_L ?y9F ?y9v ?_ ?y9a ?y9b ?y9d; (case y9F => k_asm); (case y9a => kernel_rfl!); (case y9b => kernel_rfl!); (case y9d => kernel_rfl!); (case y9v => rfl); k_whole) | (refine' nameX_K ?y9F ?y9X ?y9T ?y9e ?_ ?y9a ?y9b; (case y9F => k_asm); (case y9X => k_asm); (case y9T => k_asm); (case y9a => kernel_rfl!); (case y9b => kernel_rfl!); (case y9e => k_is); k_whole) | (refine' nameX_C ?y9N ?y9c ?y9m ?y9d ?_ ?y9a ?y9b; (case y9a => kernel_rfl!); (case y9b => kernel_rfl!); (case y9N => k_asm); (case y9c => rfl); (case y9m => k_mem); (case y9d => k_asm); k_whole) | (refine' nameX_B ?y9F ?y9X ?y9T ?y9e ?y9v ?y9n ?_ ?y9a ?y9b; (case y9F => k_asm); (case y9X => k_asm); (case y9T => k_asm); (case y9a => kernel_rfl!); (case y9b => kernel_rfl!); (case y9e => k_is); (case y9v => boot_fast); (case y9n => decide); k_whole)))
 k_with "execs cons Return" => with_reducible refine cret ?_
 k_with "newTuple" => (k_here; k_dflt (refine' kup_newTuple (by k_asm) (by k_asm) ?_ (by kmk_size)); intro D'ᵩ h'ᵩ F'ᵩ N'ᵩ l1ᵩ; have l2ᵩ := l1ᵩ; (try k_lt l1ᵩ))
 k_with "k9" => (first | exact rfl | assumption)
 k_with "d9" => (first | exact rmc0 (by assumption) (by decide) | exact rmc 1 (by assumption) (by decide) | exact rmc 2 (by assumption) (by decide) | exact rmc 3 (by assumption) (by decide))
 k_with "u9" => (first | exact rmu0 (by assumption) (by decide) | exact rmu 3 (by assumption) (by decide) | exact rmu 6 (by assumption) (by decide) | exact rmu 9 (by assumption) (by decide) | exact rmu 1 (by assumption) (by decide) | exact rmu 4 (by assumption) (by decide) | exact rmu 7 (by assumption) (by decide))
 k_with "r9" => (first | exact rm0 (by assumption) | exact rm 1 (by assumption) (by decide) | exact rm 2 (by assumption) (by decide) | exact rm 3 (by assumption) (by decide) | exact rm 4 (by assumption) (by decide))
 k_with "b9" => (first | exact BindsTo.of_eq rfl | exact binds_K (by k_in) rfl (by k_is) rfl rfl rfl)
 k_with "c9" => (k_dflt (refine' code_def ?k1 ?k2 ?k3 ?k4 ?k5 ?kA ?kF ?kK ?k6 ?k7 ?k8 ?k9 ?kB ?_ ?c2 ?c3 ?c4 ?c5; (case kA => exact rfl); (case kF => exact rfl); (case kK => k_extra "k9"); (case k1 => k_asm); (case k2 => k_asm); (case k3 => k_asm); (case k4 => k_asm); (case k5 => k_asm); (case k6 => k_is); (case k7 => k_is); (case k8 => k_extra "r9"); (case k9 => k_extra "b9"); (case c5 => decide); (case kB => exact locs rfl); (case c2 => exact rfl); (case c3 => exact rfl); (case c4 => exact rfl); k_whole); intro g'ᵩ L'ᵩ h'ᵩ FG'ᵩ F'ᵩ N'ᵩ B'ᵩ X'ᵩ T'ᵩ; (try dsimp only))
 k_with "i9" => (k_dflt (refine' item_led (by k_asm) (by k_mem) (by omega) (by with_reducible assumption) (by omega) ?_ (by with_unfolding_all rfl); k_whole))
 k_with "j9" => (first | k_dflt (refine' item_tupleT (News.isTup (by k_asm) (by k_mem)) (by decide) (by decide) (by rfl) (by rfl) ?_ (by with_unfolding_all rfl); k_whole) | k_extra "i9")
 k_with "mo" => exact ⟨_, _, _, _, _, _, _, _, ⟨_, _, _, _, _, _, _, _, _, _, _, _, _, _, _, _, _, _, _, _, _, rfl⟩⟩
 k_with "nt" => (first | assumption | exact news_tl (by assumption) | exact news_tl (news_tl (by assumption)) | exact news_tl (news_tl (news_tl (by assumption))) | exact news_tl (news_tl (news_tl (news_tl (by assumption)))) | exact news_tl (news_tl (news_tl (news_tl (news_tl (by assumption))))) | exact news_tl (news_tl (news_tl (news_tl (news_tl (news_tl (by assumption)))))) | exact news_tl (news_tl (news_tl (news_tl (news_tl (news_tl (news_tl (by assumption))))))))
 k_with "subscriptTail Attribute Subscript Constant ref int" => (k_here; k_extra "j9")
 k_with "subscriptTail Name Constant ref int" => (k_here; k_extra "j9")
 k_with "subscriptTail Attribute Name Constant ref int" => (k_here; k_extra "j9")
 k_with "subscriptTail Name Name ref int" => (k_here; k_extra "i9")
 k_with "ite" => first | with_reducible refine ite_tt ?_ | with_reducible refine ite_ff ?_ | (k_closed; k_dflt (first | (with_reducible refine' ite_bp ?y9z ?_; (case y9z => kernel_rfl!)) | (with_reducible refine' ite_bn ?y9z ?_; (case y9z => kernel_rfl!)) | refine ite_pos (by decide) ?_ | refine ite_neg (by decide) ?_)) | (with_reducible refine ite_af (by decide +kernel) ?_) | (with_reducible refine ite_at (by decide +kernel) ?_) | (with_reducible refine ite_dp (by omega) ?_) | (with_reducible refine ite_dn (by omega) ?_) | (with_reducible refine ite_bp (by assumption) ?_) | (with_reducible refine ite_bn (by assumption) ?_)
 k_with "call builtin:len" => (k_here; (with_reducible show wpAny _ _ (call (Value.builtin "len") [Value.ref _]) _ _ _); k_dflt (refine' len_led (by k_asm) (by k_mem) (by with_reducible assumption) (by omega) ?_; k_whole))
 k_with "call ref" => (k_here; (with_reducible show wpAny _ _ (call (Value.ref _) _) _ _ _); refine wpAny_call ?_; k_extra "c9")
 k_with "call ref" => (k_here; (with_reducible show wpAny _ _ (call (Value.ref _) _) _ _ _); refine wpAny_call ?_; k_dflt (refine' code_defC ?k1 ?k2 ?k3 ?k4 ?k5 ?kA ?kF ?kK ?k6 ?k7 ?k8 ?k9 ?kB ?kD ?_ ?c2 ?c3 ?c4; (case kA => exact rfl); (case kF => exact rfl); (case kK => first | exact rfl | assumption); (case k1 => k_asm); (case k2 => k_asm); (case k3 => k_asm); (case k4 => k_asm); (case k5 => k_asm); (case k6 => k_is); (case k7 => k_is); (case k8 => first | exact rm0 (by assumption) | exact rm 1 (by assumption) (by decide) | exact rm 2 (by assumption) (by decide) | exact rm 3 (by assumption) (by decide) | exact rm 4 (by assumption) (by decide)); (case k9 => first | exact BindsTo.of_eq rfl | exact binds_K (by k_in) rfl (by k_is) rfl rfl rfl); (case kB => exact rfl); (case kD => decide +kernel); (case c2 => exact rfl); (case c3 => exact rfl); (case c4 => exact rfl); k_whole); intro g'ᵩ L'ᵩ h'ᵩ tk'ᵩ cells'ᵩ FG'ᵩ F'ᵩ N'ᵩ Y'ᵩ B'ᵩ X'ᵩ T'ᵩ l1ᵩ; (try k_lt l1ᵩ); k_cells Y'ᵩ; (try simp only [List.cons_append, List.nil_append] at N'ᵩ); (try dsimp only))
 k_with "call ref" => (k_here; (with_reducible show wpAny _ _ (call (Value.ref 181) _) _ _ _); refine StopG.out ?_)
 k_with "CompSrcT" => (k_here; refine StopG.out ?_)
 trivial
namespace EK.E_without_c
theorem core : @P w mean mg mb dp un gd cn cs a ccd cl outer A₀ base h₀ L m s Q E := by
  intro news l vs n rs B F X T hk N hl hR hz hd hu hret
  have hlen := hR.length
  k_steps
  refine StopG.mk ?_
  rename News _ _ _ _ => N9
  rename Fr _ _ _ _ => F9
  refine LCt.CompSrcT.range rfl F9 N9 (by assumption) (small_one (by decide) (by decide) (by omega) (by omega)) (rsize _) (by rw [PySem.sizeLine_eq]; omega) (fun g => compT (fun i ys nw => nw = _ ∧ RowsIn news ys (strN i rs)) (fun _ _ _ _ => trivial) ⟨rfl, .nil⟩ ?turn ?fin)
  case fin =>
    rintro ys nw ⟨rfl, hys⟩
    rw [strN_all] at hys
    k_steps
    rename News _ _ _ _ => N9
    exact hret _ _ _ _ (by assumption) (fun p hp => N9 p (by rcases List.mem_cons.mp hp with rfl | hp; exact .head _; exact .tail _ (.tail _ hp))) hys
  case turn =>
    rintro i ys nw v I oI C oC D m₂ h tk E' hi ⟨rfl, hys⟩ ⟨tv, rfl⟩ hoC hx F1 N1 off ne
    obtain ⟨v, hv, hrow⟩ := hR.get hi
    k_steps
    refine StopG.mk ?_
    k_here
    k_dflt (refine' idle_c  _ _ _ _ _ _ _ ?B ?F ?X ?T ?k ?N ?l ?R ?a ?b ?z ?d ?u ?_; (case B => k_asm); (case F => k_asm); (case X => k_asm); (case T => k_asm); (case k => first | exact rfl | assumption); (case N => k_asm); (case l => k_mem); (case R => refine' RowsIn.mono ?ss ?rr; (case rr => exact hR); (case ss => intro p hp; k_mem)); (case a => omega); (case b => omega); (case z => assumption); (case d => first | exact rmc0 (by assumption) (by decide) | exact rmc 1 (by assumption) (by decide) | exact rmc 2 (by assumption) (by decide) | exact rmc 3 (by assumption) (by decide)); (case u => first | exact rmu0 (by assumption) (by decide) | exact rmu 3 (by assumption) (by decide) | exact rmu 6 (by assumption) (by decide) | exact rmu 9 (by assumption) (by decide) | exact rmu 1 (by assumption) (by decide) | exact rmu 4 (by assumption) (by decide) | exact rmu 7 (by assumption) (by decide)))
    intro h' tks' F' N'
    have e : ((0 : Int) + (i : Int)).toNat = i := by omega
    rw [e]
    cases hb : idleAt rs i
    · k_steps
      refine item_led N' (by k_mem) (by omega) (by rw [e]; exact hv) (by omega) ?_
      refine cend _ (by assumption) N' (fun p hp => hp) off ⟨rfl, ?_⟩
      rw [strN_succ i rs hi, hb]
      exact hys.append (.cons hrow .nil)
    · k_steps
      refine cno _ (by assumption) N' (fun p hp => hp) off ⟨rfl, ?_⟩
      rw [strN_succ i rs hi, hb]
      simpa using hys
end EK.E_without_c
theorem EK.E_without_c.all : ∀ c, EK.E_without_c.Pc c := by
  have h : EK.E_without_c.Pc kc := by with_unfolding_all exact EK.E_without_c.core
  rw [EK.eqk5] at h
  exact first_all (r := EK.lst6) h
theorem EK.eqk6 : kc = first EK.lst6 := EK.eqk5.trans (first_skip EK.E_without_c.all)
theorem without_c {w : World} {mean : ExcName → Option Value} {mg mb : Str → Option Value} {dp un : Nat} {gd : Option (List Code)} {cn : Str} {cs : Scope} {a : Addr} {ccd : Value} {cl : List (Str × Addr)} {outer : List Env} {A₀ : Around} {base h₀ : Heap} {L : Addr} {m : Str → Option Value} {s : Shared} {Q E : Value → Shared → Prop} (news : List (Addr × Obj)) (l : Addr) (vs : List Value) (n : Nat) (rs : List TR)
    (B : Below A₀ base outer h₀) (F : Fr h₀ L s.heap m) (X : (hd.heap_1 w.params).In h₀) (T : Top viewP LZ mean mg mb h₀) (hk : cs.kind = .function)
    (N : News h₀ L s.heap news) (hl : (l, listOf vs.toArray n) ∈ news) (hR : RowsIn news vs rs) (hz : rs.length ≤ 64)
    (hd : dp + 10 < recursionLimit) (hu : un + 200 < cLine)
    (hret : ∀ (d : Addr) (ws : List Value) (h' : Heap) (tks : Nat), Fr h₀ L h' m → News h₀ L h' ((d, LCg.lst ws) :: news) → RowsIn news ws (stripI rs) → Q (.ref d) { s with heap := h', toks := tks }) : wpAny (model PySem.Challenge.rw_pf0284_01.row.prog w) (ktrTop dp un gd cn cs L a ccd cl outer) (call (.ref 186) [.ref l]) Q E s := by
  with_unfolding_all exact EK.E_without_c.all ⟨w, mean, mg, mb, dp, un, gd, cn, cs, a, ccd, cl, outer, A₀, base, h₀, L, m, s, Q, E⟩ news l vs n rs B F X T hk N hl hR hz hd hu hret
end
end
section
open PyProof.V
theorem StrsAre.get : ∀ {vs xs}, StrsAre vs xs → ∀ {i : Nat} {v : Value}, vs[i]? = some v → ∃ x t, xs[i]? = some x ∧ v = .str x t := fun H => by
  induction H with
  | nil => intro i v h; cases i <;> cases h
  | cons _ ih =>
    intro i v h
    cases i with
    | zero => exact ⟨_, _, rfl, (Option.some.inj h).symm⟩
    | succ i => exact ih (i := i) h
theorem StrsAre.length : ∀ {vs xs}, StrsAre vs xs → vs.length = xs.length := fun H => by
  induction H with
  | nil => rfl
  | cons _ ih => exact congrArg (· + 1) ih
theorem take_fold {α β : Type} {g : β → α → β} {xs : List α} {i : Nat} {x : α} {b : β} (h : xs[i]? = some x) : (xs.take (i + 1)).foldl g b = g ((xs.take i).foldl g b) x := by
  rw [List.take_add_one, h]
  simp
theorem ds0 {prog : Program} {w : World} {o : Obj} {l : List Str} {g : List (PyData × PyData) → Str → List (PyData × PyData)} {D : List (PyData × PyData)} (S : DS prog w o D) : DS prog w o ((l.take 0).foldl g D) := S
theorem kw9 : True := by
 w_top off
 k_with_none
 k_with "ml" => first | assumption | (refine memsub (by assumption) ?_; first | assumption | exact List.Mem.head _ | (refine List.Mem.tail _ ?_; first | exact List.Mem.head _ | (refine List.Mem.tail _ ?_; first | exact List.Mem.head _ | (refine List.Mem.tail _ ?_; first | exact List.Mem.head _ | (refine List.Mem.tail _ ?_; first | assumption) | assumption) | assumption) | assumption) | assumption)
 k_with "k_mem" => first | exact List.Mem.head _ | (refine List.Mem.tail _ ?_; k_extra "k_mem") | k_extra "ml"
 k_with "ks" => repeat' (first | (k_unfold; (try dsimp only)) | (k_end; kc_close) | (walk1; (try (first | (with_reducible show wpAny _ _ (exec _ _) _ _ _; (try dsimp only); (refine letq ?_; intro qk9ᵩ); (try with_reducible refine wpst ?_; intro tk9ᵩ); (try walk_at "fold9")) | (with_reducible show wpAny _ _ (execs _ _) _ _ _; k_fold)))) | (dsimp only; walk1) | (leave1; walk_say "STEP leave1"; try dsimp only) | (k_unmd; k_unfold; (try dsimp only)) | fail "no step")
 k_with "in9" => first | with_reducible assumption | (refine' Frag.In.keeps ?y9X (Fr.keep ?y9F); (case y9F => k_asm); (case y9X => k_asm))
 k_with "eval Constant str" => with_reducible refine kstr ?_
 k_with "eval Constant int" => with_reducible refine kint ?_
 k_with "oc" => first | (apply c1; assumption) | (apply c2; assumption) | (apply l2; assumption) | (apply c3; assumption) | (apply c4; assumption) | (apply c5; assumption) | (apply c6; assumption) | (apply c7; assumption) | (apply c8; assumption) | (apply c9; assumption) | (apply c10; assumption) | (apply c11; assumption) | (apply c12; assumption) | (apply c13; assumption) | (apply c14; assumption) | (apply c15; assumption) | (apply c16; assumption)
 k_with "od" => first | (apply c1; assumption) | (apply c2; assumption) | (apply l2; assumption) | (apply c3; assumption) | (apply c4; assumption) | (apply c5; assumption) | (apply c6; assumption) | (apply c7; assumption)
 k_with "on" => first | (apply zsy; assumption) | (apply zgt; first | assumption | k_extra "oc") | (apply zlt; first | assumption | k_extra "oc") | (apply gtt; assumption; first | assumption | k_extra "od") | (apply ltt; assumption; first | assumption | k_extra "od")
 k_with "oi" => first | exact nn0 | exact nn0' | exact z63 (by assumption) (by assumption) | exact z63b (by assumption) (by assumption) | exact n63 (by assumption) (by assumption) | exact n63b (by assumption) (by assumption) | exact z63c (by assumption) (by assumption) | exact z63d (by assumption) (by assumption) | exact nlt (by assumption) | exact n62 (by assumption) | exact n62b (by assumption) | exact tnl (by assumption) (by assumption) | exact sub1 (by assumption) | exact sub2 (by assumption) (by assumption) | decide | exact Int.lt_of_lt_of_le (by assumption) (by decide) | exact Nat.le_trans (by assumption) (by decide) | exact ul (by assumption) (by decide) | exact up0 (by assumption) (by assumption) | k_extra "oc"
 k_with "om" => first | (k_whole; with_reducible (first | assumption | (show @Ne Nat _ _; k_extra "on") | (show @Eq Nat _ _; first | exact tn1 (by assumption) | exact z0i) | ((first | show @LT.lt Int _ _ _ | show @LE.le Int _ _ _ | show @LT.lt Nat _ _ _ | show @LE.le Nat _ _ _); k_extra "oi")))
 k_with "execs cons If" => (k_here; (with_reducible show wpAny _ _ (execs (PySem.Stmt.If (PySem.Expr.Compare (PySem.Expr.Name _ _) [.Eq] [PySem.Expr.Constant (.str _) _ _] _) _ _ _ :: _) _) _ _ _); first | ((with_reducible show wpAny _ _ (execs (PySem.Stmt.If _ _ [] _ :: _) _) _ _ _); k_dflt (refine' cif_f ?F ?v ?x ?c ?k ?d ?_; (case F => k_asm); (case x => kernel_rfl!); (case k => kernel_rfl!); (case d => kernel_rfl!); (case v => rfl); (case c => first | with_reducible assumption | kernel_rfl!); k_whole)) | ((with_reducible show wpAny _ _ (execs [PySem.Stmt.If _ _ (_ :: _) _] _) _ _ _); k_dflt (refine' cif_g ?F ?v ?x ?c ?k ?d ?_; (case F => k_asm); (case x => kernel_rfl!); (case k => kernel_rfl!); (case d => kernel_rfl!); (case v => rfl); (case c => first | with_reducible assumption | kernel_rfl!); k_whole)) | ((with_reducible show wpAny _ _ (execs [PySem.Stmt.If _ _ _ _] _) _ _ _); k_dflt (refine' cif_t ?F ?v ?x ?c ?k ?d ?_; (case F => k_asm); (case x => kernel_rfl!); (case k => kernel_rfl!); (case d => kernel_rfl!); (case v => rfl); (case c => first | with_reducible assumption | kernel_rfl!); k_whole)) | k_dflt (refine' cif_r ?F ?v ?x ?c ?k ?d ?_; (case F => k_asm); (case x => kernel_rfl!); (case k => kernel_rfl!); (case d => kernel_rfl!); (case v => rfl); (case c => first | with_reducible assumption | kernel_rfl!); k_whole))
 k_with "callWith" => ((with_reducible show wpAny _ _ (callWith _ (Value.builtin _) (_ :: _) (backTo _ (starEach (_ :: _) _)) []) _ _ _); refine callWith_method1 ?_)
 k_with "callWith ref" => (k_here; k_dflt (first | (refine' callWith_K ?y9k ?y9l ?_; (case y9k => k_asm); (case y9l => k_is); k_whole) | (refine' callWith_K0 ?y9k ?y9l ?_; (case y9k => k_in); (case y9l => k_is); k_whole)))
 k_with "eval Name" => (k_here; (fail_if_success (with_reducible show wpAny _ _ (eval (PySem.Expr.Name _ _) (compEnvC _ _ _ _)) _ _ _)); k_dflt (first | (refine' nameX_L ?y9F ?y9v ?_ ?y9a ?y9b ?y9d; (case y9F => k_asm); (case y9a => kernel_rfl!); (case y9b => kernel_rfl!); (case y9d => kernel_rfl!); (case y9v => rfl); k_whole) | (refine' nameX_K ?y9F ?y9X ?y9T ?y9e ?_ ?y9a ?y9b; (case y9F => k_asm); (case y9X => k_asm); (case y9T => k_asm); (case y9a => kernel_rfl!); (case y9b => kernel_rfl!); (case y9e => k_is); k_whole) | (refine' nameX_C ?y9N ?y9c ?y9m ?y9d ?_ ?y9a ?y9b; (case y9a => kernel_rfl!); (case y9b => kernel_rfl!); (case y9N => k_asm); (case y9c => rfl); (case y9m => k_mem); (case y9d => k_asm); k_whole) | (refine' nameX_B ?y9F ?y9X ?y9T ?y9e ?y9v ?y9n ?_ ?y9a ?y9b; (case y9F => k_asm); (case y9X => k_asm); (case y9T => k_asm); (case y9a => kernel_rfl!); (case y9b => kernel_rfl!); (case y9e => k_is); (case y9v => boot_fast); (case y9n => decide); k_whole)))
 k_with "execs cons Return" => with_reducible refine cret ?_
 k_with "newTuple" => (k_here; k_dflt (refine' kup_newTuple (by k_asm) (by k_asm) ?_ (by kmk_size)); intro D'ᵩ h'ᵩ F'ᵩ N'ᵩ l1ᵩ; have l2ᵩ := l1ᵩ; (try k_lt l1ᵩ))
 k_with "k9" => (first | exact rfl | assumption)
 k_with "d9" => (first | exact rmc0 (by assumption) (by decide) | exact rmc 1 (by assumption) (by decide) | exact rmc 2 (by assumption) (by decide) | exact rmc 3 (by assumption) (by decide))
 k_with "u9" => (first | exact rmu0 (by assumption) (by decide) | exact rmu 3 (by assumption) (by decide) | exact rmu 6 (by assumption) (by decide) | exact rmu 9 (by assumption) (by decide) | exact rmu 1 (by assumption) (by decide) | exact rmu 4 (by assumption) (by decide) | exact rmu 7 (by assumption) (by decide))
 k_with "r9" => (first | exact rm0 (by assumption) | exact rm 1 (by assumption) (by decide) | exact rm 2 (by assumption) (by decide) | exact rm 3 (by assumption) (by decide) | exact rm 4 (by assumption) (by decide))
 k_with "b9" => (first | exact BindsTo.of_eq rfl | exact binds_K (by k_in) rfl (by k_is) rfl rfl rfl)
 k_with "c9" => (k_dflt (refine' code_def ?k1 ?k2 ?k3 ?k4 ?k5 ?kA ?kF ?kK ?k6 ?k7 ?k8 ?k9 ?kB ?_ ?c2 ?c3 ?c4 ?c5; (case kA => exact rfl); (case kF => exact rfl); (case kK => k_extra "k9"); (case k1 => k_asm); (case k2 => k_asm); (case k3 => k_asm); (case k4 => k_asm); (case k5 => k_asm); (case k6 => k_is); (case k7 => k_is); (case k8 => k_extra "r9"); (case k9 => k_extra "b9"); (case c5 => decide); (case kB => exact locs rfl); (case c2 => exact rfl); (case c3 => exact rfl); (case c4 => exact rfl); k_whole); intro g'ᵩ L'ᵩ h'ᵩ FG'ᵩ F'ᵩ N'ᵩ B'ᵩ X'ᵩ T'ᵩ; (try dsimp only))
 k_with "i9" => (k_dflt (refine' item_led (by k_asm) (by k_mem) (by omega) (by with_reducible assumption) (by omega) ?_ (by with_unfolding_all rfl); k_whole))
 k_with "j9" => (first | k_dflt (refine' item_tupleT (News.isTup (by k_asm) (by k_mem)) (by decide) (by decide) (by rfl) (by rfl) ?_ (by with_unfolding_all rfl); k_whole) | k_extra "i9")
 k_with "mo" => exact ⟨_, _, _, _, _, _, _, _, ⟨_, _, _, _, _, _, _, _, _, _, _, _, _, _, _, _, _, _, _, _, _, rfl⟩⟩
 k_with "nt" => (first | assumption | exact news_tl (by assumption) | exact news_tl (news_tl (by assumption)) | exact news_tl (news_tl (news_tl (by assumption))) | exact news_tl (news_tl (news_tl (news_tl (by assumption)))) | exact news_tl (news_tl (news_tl (news_tl (news_tl (by assumption))))) | exact news_tl (news_tl (news_tl (news_tl (news_tl (news_tl (by assumption)))))) | exact news_tl (news_tl (news_tl (news_tl (news_tl (news_tl (news_tl (by assumption))))))))
 k_with "subscriptTail Attribute Subscript Constant ref int" => (k_here; k_extra "j9")
 k_with "subscriptTail Name Constant ref int" => (k_here; k_extra "j9")
 k_with "subscriptTail Attribute Name Constant ref int" => (k_here; k_extra "j9")
 k_with "subscriptTail Name Name ref int" => (k_here; k_extra "i9")
 k_with "ite" => first | with_reducible refine ite_tt ?_ | with_reducible refine ite_ff ?_ | (k_closed; k_dflt (first | (with_reducible refine' ite_bp ?y9z ?_; (case y9z => kernel_rfl!)) | (with_reducible refine' ite_bn ?y9z ?_; (case y9z => kernel_rfl!)) | refine ite_pos (by decide) ?_ | refine ite_neg (by decide) ?_)) | (with_reducible refine ite_af (by decide +kernel) ?_) | (with_reducible refine ite_at (by decide +kernel) ?_) | (with_reducible refine ite_dp (by omega) ?_) | (with_reducible refine ite_dn (by omega) ?_) | (with_reducible refine ite_bp (by assumption) ?_) | (with_reducible refine ite_bn (by assumption) ?_)
 k_with "call builtin:len" => (k_here; (with_reducible show wpAny _ _ (call (Value.builtin "len") [Value.ref _]) _ _ _); k_dflt (refine' len_led (by k_asm) (by k_mem) (by with_reducible assumption) (by omega) ?_; k_whole))
 k_with "call ref" => (k_here; (with_reducible show wpAny _ _ (call (Value.ref _) _) _ _ _); refine wpAny_call ?_; k_extra "c9")
 k_with "fold9" => (try (refine letf (by assumption) ?_; intro m9ᵩ F9ᵩ))
 trivial
theorem putD_len (k v : PyData) (D : List (PyData × PyData)) : (putD k v D).length ≤ D.length + 1 := by
  rw [length_putD]
  split <;> omega
theorem fold_len {g : List (PyData × PyData) → Str → List (PyData × PyData)} {c : Nat} (hg : ∀ D x, (g D x).length ≤ D.length + c) : ∀ (xs : List Str) (D : List (PyData × PyData)), (xs.foldl g D).length ≤ D.length + c * xs.length
  | [], D => by simp
  | x :: xs, D => by
    have h1 := fold_len hg xs (g D x)
    have h2 := hg D x
    simp only [List.foldl_cons, List.length_cons]
    have : c * (xs.length + 1) = c * xs.length + c := Nat.mul_succ _ _
    omega
theorem add_imm {prog : Program} {w : World} {A : Around} {E : Value → Shared → Prop} {s : Shared} {x : Str} {t u : Tok} {Q : Value → Shared → Prop} (hx : x.length ≤ 20) (h : ∀ t' tk, Q (.str (x ++ Str.ofString "_imm") t') { s with toks := tk }) : wpAny (model prog w) A (binaryOp .Add (.str x t) (.str (Str.ofString "_imm") u)) Q E s :=
  add_str h (by have e : (Str.ofString "_imm").length = 4 := by decide +kernel
                rw [e, PySem.sizeLine_eq]
                omega)
theorem ds_set2 {prog : Program} {w : World} {A : Around} {E : Value → Shared → Prop} {s : Shared} {h₀ : Heap} {L d : Addr} {m : Str → Option Value} {own : List (Addr × Obj)} {o : Obj} {D : List (PyData × PyData)} {x y : Str} {t u : Tok} {q r : Addr × Obj} {Q : Unit → Shared → Prop} (F : Fr h₀ L s.heap m) (N : News h₀ L s.heap (q :: r :: (d, o) :: own)) (hq : q.1 ≠ d) (hr : r.1 ≠ d) (hof : ∀ p ∈ own, p.1 ≠ d) (S : DS prog w o D) (hz : D.length ≤ 64)
    (h : ∀ h' o' tk, Fr h₀ L h' m → News h₀ L h' (q :: r :: (d, o') :: own) → DS prog w o' (putD (.str x) (.str y) D) → Q () { s with heap := h', toks := tk }) : wpAny (model prog w) A (setItem (.ref d) (.str x t) (.str y u)) Q E s :=
  ds_set F N (.tail _ (.tail _ (.head _))) (q :: r :: own) (by repeat' (first | exact fun _ h => h | refine subl_cons (by k_mem) ?_ | (intro p hp; k_mem))) (by
    intro p hp
    rcases List.mem_cons.mp hp with rfl | hp
    · exact hq
    · rcases List.mem_cons.mp hp with rfl | hp
      · exact hr
      · exact hof p hp) S hz fun h' o' tk F' N' S' => h h' o' tk F' (news_sub N' (by repeat' (first | exact fun _ h => h | refine subl_cons (by k_mem) ?_ | (intro p hp; k_mem)))) S'
theorem ds_set0 {prog : Program} {w : World} {A : Around} {E : Value → Shared → Prop} {s : Shared} {h₀ : Heap} {L d : Addr} {m : Str → Option Value} {own : List (Addr × Obj)} {o : Obj} {D : List (PyData × PyData)} {x y : Str} {t u : Tok} {Q : Unit → Shared → Prop} (F : Fr h₀ L s.heap m) (N : News h₀ L s.heap ((d, o) :: own)) (hof : ∀ p ∈ own, p.1 ≠ d) (S : DS prog w o D) (hz : D.length ≤ 64)
    (h : ∀ h' o' tk, Fr h₀ L h' m → News h₀ L h' ((d, o') :: own) → DS prog w o' (putD (.str x) (.str y) D) → Q () { s with heap := h', toks := tk }) : wpAny (model prog w) A (setItem (.ref d) (.str x t) (.str y u)) Q E s :=
  ds_set F N (.head _) own (fun p hp => .tail _ hp) hof S hz h
section
theorem kw10 : True := by
 w_top off
 k_with "pyIter ref" => (k_here; (with_reducible show wpAny _ _ (pyIter (Value.ref _)) _ _ _); refine StopG.out ?_)
 k_with "FIPost" => (k_here; with_reducible refine firet ?_; (try dsimp only))
 k_with "setItem ref str" => (k_here; refine StopG.out ?_)
 k_with "exec For Name Tuple cons nil" => (k_here; (rename Fr _ _ _ _ => lF'ᵩ); (with_reducible refine' For_turns ?y9F ?_ ?y9s ?y9E); k_dflt ((case y9F => exact lF'ᵩ); (case y9s => intro _; kernel_rfl!); (case y9E => passes_own)); k_whole)
 trivial
namespace EK.E_shapes_c
theorem core : @P w mean mg mb dp un gd cn cs a ccd cl outer A₀ base h₀ L m s Q E := by
  intro news B F X T hk N hd hu hret
  k_steps
  refine StopG.mk ?_
  rename Fr _ _ _ _ => F9
  rename News _ _ _ _ => N9
  rename (_ == sysModules) = false => lo
  rename PySem.Obj.IsDictOf (PySem.strKind _ _) _ _ => hD
  rename PyProof.V.FlatPairs _ _ _ => hFl
  have S0 : DS PySem.Challenge.rw_pf0284_01.row.prog w _ SH0 := ⟨_, hD, hFl⟩
  clear hD hFl
  rename ∀ p ∈ news, p.1 < _ => ld
  rename _ ∧ AllLt _ news => lT
  obtain ⟨vs, hvs, NT⟩ : ∃ vs, StrsAre vs NM1 ∧ News _ _ _ ((_, tupO vs 0) :: (_, _) :: news) := ⟨_, .cons (.cons (.cons (.cons (.cons (.cons (.cons (.cons (.cons .nil)))))))), N9⟩
  clear N9
  refine forT [Str.ofString "name"] (fun i nw => ∃ o, nw = (_, tupO vs 0) :: (_, o) :: news ∧ DS PySem.Challenge.rw_pf0284_01.row.prog w o ((NM1.take i).foldl g1 SH0)) rfl F9 NT (.head _) ⟨_, rfl, ds0 S0⟩ (by rintro i nw ⟨o, rfl, _⟩; exact .head _) ?_ ?_
  · rintro I oI i v u nw h tk hc hv hI ⟨o, rfl, hS⟩ hoff F1 N1
    obtain ⟨x, t, hx, rfl⟩ := hvs.get hv
    have hz1 : ((NM1.take i).foldl g1 SH0).length ≤ 62 := by
      have h1 := fold_len (g := g1) (c := 2) (fun D x => Nat.le_trans (putD_len _ _ _) (Nat.succ_le_succ (putD_len _ _ D))) (NM1.take i) SH0
      have h2 : (NM1.take i).length ≤ 9 := List.length_take_le' ..
      have h3 : (SH0).length = 7 := by decide +kernel
      omega
    k_steps
    rename Fr _ _ _ _ => F8
    rename News _ _ _ _ => N8
    refine StopG.mk ?_
    refine ds_set2 F8 N8 (Ne.symm (hoff _ (.tail _ (.head _)))) (Nat.ne_of_gt lT.1) (fun p hp => Nat.ne_of_lt (ld p hp)) hS (by omega) ?_
    clear F8 N8 F1 N1
    intro h8 o8 tk8 F8 N8 S8
    have hz2 := putD_len (.str x) (sS "zrr") ((NM1.take i).foldl g1 SH0)
    have hxl : x.length ≤ 20 := of_decide_eq_true (List.all_eq_true.mp (show NM1.all (fun x => decide (x.length ≤ 20)) = true by decide +kernel) x (List.mem_of_getElem? hx))
    k_steps
    k_steps
    refine StopG.mk ?_
    refine ds_set2 F8 N8 (Ne.symm (hoff _ (.tail _ (.head _)))) (Nat.ne_of_gt lT.1) (fun p hp => Nat.ne_of_lt (ld p hp)) S8 (Nat.le_trans hz2 (by omega)) ?_
    clear F8 N8
    intro h8 o8 tk8 F8 N8 S8
    k_steps
    refine fiend ((_, tupO vs 0) :: (_, o8) :: news) (by assumption) N8 (fun p hp => hp) (by simpa using hoff) ⟨(fun z hz => by
               have hz' := hz
               simp only [List.contains_cons, List.contains_nil, Bool.or_false, Bool.or_eq_false_iff, beq_eq_false_iff_ne, ne_eq] at hz
               simp +zetaDelta [hz, hz']), o8, rfl, ?_⟩
    rw [take_fold hx]
    exact S8
  rintro u1 nw h1 tk1 ⟨o1, rfl, S1⟩ F1 N1
  rw [hvs.length, List.take_length] at S1
  replace N1 := news_tl N1
  clear F9 NT lT hvs
  k_steps
  refine StopG.mk ?_
  rename Fr _ _ _ _ => F9
  rename News _ _ _ _ => N9
  rename _ ∧ AllLt _ news => lT
  obtain ⟨vs, hvs, NT⟩ : ∃ vs, StrsAre vs NM2 ∧ News _ _ _ ((_, tupO vs 0) :: (_, _) :: news) := ⟨_, .cons (.cons (.cons .nil)), N9⟩
  clear N9
  refine forT [Str.ofString "name"] (fun i nw => ∃ o, nw = (_, tupO vs 0) :: (_, o) :: news ∧ DS PySem.Challenge.rw_pf0284_01.row.prog w o ((NM2.take i).foldl g2 SH1)) rfl F9 NT (.head _) ⟨_, rfl, ds0 S1⟩ (by rintro i nw ⟨o, rfl, _⟩; exact .head _) ?_ ?_
  · rintro I oI i v u nw h tk hc hv hI ⟨o, rfl, hS⟩ hoff F1 N1
    obtain ⟨x, t, hx, rfl⟩ := hvs.get hv
    have hz1 : ((NM2.take i).foldl g2 SH1).length ≤ 62 := by
      have h1 := fold_len (g := g2) (c := 2) (fun D x => Nat.le_trans (putD_len _ _ _) (Nat.succ_le_succ (putD_len _ _ D))) (NM2.take i) SH1
      have h2 : (NM2.take i).length ≤ 3 := List.length_take_le' ..
      have h3 : (SH1).length = 25 := by decide +kernel
      omega
    k_steps
    rename Fr _ _ _ _ => F8
    rename News _ _ _ _ => N8
    refine StopG.mk ?_
    refine ds_set2 F8 N8 (Ne.symm (hoff _ (.tail _ (.head _)))) (Nat.ne_of_gt lT.1) (fun p hp => Nat.ne_of_lt (ld p hp)) hS (by omega) ?_
    clear F8 N8 F1 N1
    intro h8 o8 tk8 F8 N8 S8
    have hz2 := putD_len (.str x) (sS "zr") ((NM2.take i).foldl g2 SH1)
    have hxl : x.length ≤ 20 := of_decide_eq_true (List.all_eq_true.mp (show NM2.all (fun x => decide (x.length ≤ 20)) = true by decide +kernel) x (List.mem_of_getElem? hx))
    k_steps
    k_steps
    refine StopG.mk ?_
    refine ds_set2 F8 N8 (Ne.symm (hoff _ (.tail _ (.head _)))) (Nat.ne_of_gt lT.1) (fun p hp => Nat.ne_of_lt (ld p hp)) S8 (Nat.le_trans hz2 (by omega)) ?_
    clear F8 N8
    intro h8 o8 tk8 F8 N8 S8
    k_steps
    refine fiend ((_, tupO vs 0) :: (_, o8) :: news) (by assumption) N8 (fun p hp => hp) (by simpa using hoff) ⟨(fun z hz => by
               have hz' := hz
               simp only [List.contains_cons, List.contains_nil, Bool.or_false, Bool.or_eq_false_iff, beq_eq_false_iff_ne, ne_eq] at hz
               simp +zetaDelta [hz, hz']), o8, rfl, ?_⟩
    rw [take_fold hx]
    exact S8
  rintro u2 nw h2 tk2 ⟨o2, rfl, S2⟩ F2 N2
  rw [hvs.length, List.take_length] at S2
  replace N2 := news_tl N2
  clear F9 NT lT hvs
  k_steps
  refine StopG.mk ?_
  rename Fr _ _ _ _ => F9
  rename News _ _ _ _ => N9
  rename _ ∧ AllLt _ news => lT
  obtain ⟨vs, hvs, NT⟩ : ∃ vs, StrsAre vs NM3 ∧ News _ _ _ ((_, tupO vs 0) :: (_, _) :: news) := ⟨_, .cons (.cons .nil), N9⟩
  clear N9
  refine forT [Str.ofString "name"] (fun i nw => ∃ o, nw = (_, tupO vs 0) :: (_, o) :: news ∧ DS PySem.Challenge.rw_pf0284_01.row.prog w o ((NM3.take i).foldl g3 SH2)) rfl F9 NT (.head _) ⟨_, rfl, ds0 S2⟩ (by rintro i nw ⟨o, rfl, _⟩; exact .head _) ?_ ?_
  · rintro I oI i v u nw h tk hc hv hI ⟨o, rfl, hS⟩ hoff F1 N1
    obtain ⟨x, t, hx, rfl⟩ := hvs.get hv
    have hz1 : ((NM3.take i).foldl g3 SH2).length ≤ 62 := by
      have h1 := fold_len (g := g3) (c := 1) (fun D x => putD_len _ _ D) (NM3.take i) SH2
      have h2 : (NM3.take i).length ≤ 2 := List.length_take_le' ..
      have h3 : (SH2).length = 31 := by decide +kernel
      omega
    k_steps
    rename Fr _ _ _ _ => F8
    rename News _ _ _ _ => N8
    refine StopG.mk ?_
    refine ds_set2 F8 N8 (Ne.symm (hoff _ (.tail _ (.head _)))) (Nat.ne_of_gt lT.1) (fun p hp => Nat.ne_of_lt (ld p hp)) hS (by omega) ?_
    clear F8 N8 F1 N1
    intro h8 o8 tk8 F8 N8 S8
    k_steps
    refine fiend ((_, tupO vs 0) :: (_, o8) :: news) (by assumption) N8 (fun p hp => hp) (by simpa using hoff) ⟨(fun z hz => by
               have hz' := hz
               simp only [List.contains_cons, List.contains_nil, Bool.or_false, Bool.or_eq_false_iff, beq_eq_false_iff_ne, ne_eq] at hz
               simp +zetaDelta [hz, hz']), o8, rfl, ?_⟩
    rw [take_fold hx]
    exact S8
  rintro u3 nw h3 tk3 ⟨o3, rfl, S3⟩ F3 N3
  rw [hvs.length, List.take_length] at S3
  replace N3 := news_tl N3
  clear F9 NT lT hvs
  k_steps
  rename News _ _ _ _ => N9
  rename Fr _ _ _ _ => F9
  refine StopG.mk ?_
  refine ds_set0 F9 N9 (fun p hp => Nat.ne_of_lt (ld p hp)) S3 (by decide +kernel) ?_
  clear F9 N9 S3
  intro h3 o3 tk3 F3 N3 S3
  k_steps
  rename News _ _ _ _ => N9
  rename Fr _ _ _ _ => F9
  refine StopG.mk ?_
  refine ds_set0 F9 N9 (fun p hp => Nat.ne_of_lt (ld p hp)) S3 (by decide +kernel) ?_
  clear F9 N9 S3
  intro h3 o3 tk3 F3 N3 S3
  k_steps
  rename News _ _ _ _ => N9
  rename Fr _ _ _ _ => F9
  refine StopG.mk ?_
  refine ds_set0 F9 N9 (fun p hp => Nat.ne_of_lt (ld p hp)) S3 (by decide +kernel) ?_
  clear F9 N9 S3
  intro h3 o3 tk3 F3 N3 S3
  k_steps
  rename News _ _ _ _ => N9
  rename Fr _ _ _ _ => F9
  refine StopG.mk ?_
  refine ds_set0 F9 N9 (fun p hp => Nat.ne_of_lt (ld p hp)) S3 (by decide +kernel) ?_
  clear F9 N9 S3
  intro h3 o3 tk3 F3 N3 S3
  k_steps
  refine StopG.mk ?_
  rename Fr _ _ _ _ => F9
  rename News _ _ _ _ => N9
  rename _ ∧ AllLt _ news => lT
  obtain ⟨vs, hvs, NT⟩ : ∃ vs, StrsAre vs NM4 ∧ News _ _ _ ((_, tupO vs 0) :: (_, _) :: news) := ⟨_, .cons (.cons (.cons (.cons (.cons (.cons (.cons .nil)))))), N9⟩
  clear N9
  refine forT [Str.ofString "name"] (fun i nw => ∃ o, nw = (_, tupO vs 0) :: (_, o) :: news ∧ DS PySem.Challenge.rw_pf0284_01.row.prog w o ((NM4.take i).foldl g4 SH3b)) rfl F9 NT (.head _) ⟨_, rfl, ds0 S3⟩ (by rintro i nw ⟨o, rfl, _⟩; exact .head _) ?_ ?_
  · rintro I oI i v u nw h tk hc hv hI ⟨o, rfl, hS⟩ hoff F1 N1
    obtain ⟨x, t, hx, rfl⟩ := hvs.get hv
    have hz1 : ((NM4.take i).foldl g4 SH3b).length ≤ 62 := by
      have h1 := fold_len (g := g4) (c := 1) (fun D x => putD_len _ _ D) (NM4.take i) SH3b
      have h2 : (NM4.take i).length ≤ 7 := List.length_take_le' ..
      have h3 : (SH3b).length = 37 := by decide +kernel
      omega
    k_steps
    rename Fr _ _ _ _ => F8
    rename News _ _ _ _ => N8
    refine StopG.mk ?_
    refine ds_set2 F8 N8 (Ne.symm (hoff _ (.tail _ (.head _)))) (Nat.ne_of_gt lT.1) (fun p hp => Nat.ne_of_lt (ld p hp)) hS (by omega) ?_
    clear F8 N8 F1 N1
    intro h8 o8 tk8 F8 N8 S8
    k_steps
    refine fiend ((_, tupO vs 0) :: (_, o8) :: news) (by assumption) N8 (fun p hp => hp) (by simpa using hoff) ⟨(fun z hz => by
               have hz' := hz
               simp only [List.contains_cons, List.contains_nil, Bool.or_false, Bool.or_eq_false_iff, beq_eq_false_iff_ne, ne_eq] at hz
               simp +zetaDelta [hz, hz']), o8, rfl, ?_⟩
    rw [take_fold hx]
    exact S8
  rintro u4 nw h4 tk4 ⟨o4, rfl, S4⟩ F4 N4
  rw [hvs.length, List.take_length] at S4
  replace N4 := news_tl N4
  clear F9 NT lT hvs
  k_steps
  refine StopG.mk ?_
  rename Fr _ _ _ _ => F9
  rename News _ _ _ _ => N9
  rename _ ∧ AllLt _ news => lT
  obtain ⟨vs, hvs, NT⟩ : ∃ vs, StrsAre vs NM5 ∧ News _ _ _ ((_, tupO vs 0) :: (_, _) :: news) := ⟨_, .cons (.cons .nil), N9⟩
  clear N9
  refine forT [Str.ofString "name"] (fun i nw => ∃ o, nw = (_, tupO vs 0) :: (_, o) :: news ∧ DS PySem.Challenge.rw_pf0284_01.row.prog w o ((NM5.take i).foldl g5 SH4)) rfl F9 NT (.head _) ⟨_, rfl, ds0 S4⟩ (by rintro i nw ⟨o, rfl, _⟩; exact .head _) ?_ ?_
  · rintro I oI i v u nw h tk hc hv hI ⟨o, rfl, hS⟩ hoff F1 N1
    obtain ⟨x, t, hx, rfl⟩ := hvs.get hv
    have hz1 : ((NM5.take i).foldl g5 SH4).length ≤ 62 := by
      have h1 := fold_len (g := g5) (c := 1) (fun D x => putD_len _ _ D) (NM5.take i) SH4
      have h2 : (NM5.take i).length ≤ 2 := List.length_take_le' ..
      have h3 : (SH4).length = 44 := by decide +kernel
      omega
    k_steps
    rename Fr _ _ _ _ => F8
    rename News _ _ _ _ => N8
    refine StopG.mk ?_
    refine ds_set2 F8 N8 (Ne.symm (hoff _ (.tail _ (.head _)))) (Nat.ne_of_gt lT.1) (fun p hp => Nat.ne_of_lt (ld p hp)) hS (by omega) ?_
    clear F8 N8 F1 N1
    intro h8 o8 tk8 F8 N8 S8
    k_steps
    refine fiend ((_, tupO vs 0) :: (_, o8) :: news) (by assumption) N8 (fun p hp => hp) (by simpa using hoff) ⟨(fun z hz => by
               have hz' := hz
               simp only [List.contains_cons, List.contains_nil, Bool.or_false, Bool.or_eq_false_iff, beq_eq_false_iff_ne, ne_eq] at hz
               simp +zetaDelta [hz, hz']), o8, rfl, ?_⟩
    rw [take_fold hx]
    exact S8
  rintro u5 nw h5 tk5 ⟨o5, rfl, S5⟩ F5 N5
  rw [hvs.length, List.take_length] at S5
  replace N5 := news_tl N5
  clear F9 NT lT hvs
  k_steps
  refine StopG.mk ?_
  rename Fr _ _ _ _ => F9
  rename News _ _ _ _ => N9
  rename _ ∧ AllLt _ news => lT
  obtain ⟨vs, hvs, NT⟩ : ∃ vs, StrsAre vs NM6 ∧ News _ _ _ ((_, tupO vs 0) :: (_, _) :: news) := ⟨_, .cons (.cons (.cons (.cons (.cons .nil)))), N9⟩
  clear N9
  refine forT [Str.ofString "name"] (fun i nw => ∃ o, nw = (_, tupO vs 0) :: (_, o) :: news ∧ DS PySem.Challenge.rw_pf0284_01.row.prog w o ((NM6.take i).foldl g6 SH5)) rfl F9 NT (.head _) ⟨_, rfl, ds0 S5⟩ (by rintro i nw ⟨o, rfl, _⟩; exact .head _) ?_ ?_
  · rintro I oI i v u nw h tk hc hv hI ⟨o, rfl, hS⟩ hoff F1 N1
    obtain ⟨x, t, hx, rfl⟩ := hvs.get hv
    have hz1 : ((NM6.take i).foldl g6 SH5).length ≤ 62 := by
      have h1 := fold_len (g := g6) (c := 1) (fun D x => putD_len _ _ D) (NM6.take i) SH5
      have h2 : (NM6.take i).length ≤ 5 := List.length_take_le' ..
      have h3 : (SH5).length = 46 := by decide +kernel
      omega
    k_steps
    rename Fr _ _ _ _ => F8
    rename News _ _ _ _ => N8
    refine StopG.mk ?_
    refine ds_set2 F8 N8 (Ne.symm (hoff _ (.tail _ (.head _)))) (Nat.ne_of_gt lT.1) (fun p hp => Nat.ne_of_lt (ld p hp)) hS (by omega) ?_
    clear F8 N8 F1 N1
    intro h8 o8 tk8 F8 N8 S8
    k_steps
    refine fiend ((_, tupO vs 0) :: (_, o8) :: news) (by assumption) N8 (fun p hp => hp) (by simpa using hoff) ⟨(fun z hz => by
               have hz' := hz
               simp only [List.contains_cons, List.contains_nil, Bool.or_false, Bool.or_eq_false_iff, beq_eq_false_iff_ne, ne_eq] at hz
               simp +zetaDelta [hz, hz']), o8, rfl, ?_⟩
    rw [take_fold hx]
    exact S8
  rintro u6 nw h6 tk6 ⟨o6, rfl, S6⟩ F6 N6
  rw [hvs.length, List.take_length] at S6
  replace N6 := news_tl N6
  clear F9 NT lT hvs
  k_steps
  rename News _ _ _ _ => N9
  rename Fr _ _ _ _ => F9
  refine StopG.mk ?_
  refine ds_set0 F9 N9 (fun p hp => Nat.ne_of_lt (ld p hp)) S6 (by decide +kernel) ?_
  clear F9 N9 S6
  intro h6 o6 tk6 F6 N6 S6
  k_steps
  rename News _ _ _ _ => N9
  rename Fr _ _ _ _ => F9
  refine StopG.mk ?_
  refine ds_set0 F9 N9 (fun p hp => Nat.ne_of_lt (ld p hp)) S6 (by decide +kernel) ?_
  clear F9 N9 S6
  intro h6 o6 tk6 F6 N6 S6
  k_steps
  rename News _ _ _ _ => N9
  rename Fr _ _ _ _ => F9
  refine StopG.mk ?_
  refine ds_set0 F9 N9 (fun p hp => Nat.ne_of_lt (ld p hp)) S6 (by decide +kernel) ?_
  clear F9 N9 S6
  intro h6 o6 tk6 F6 N6 S6
  k_steps
  exact hret _ o6 _ _ (by assumption) (by (first | assumption | exact news_tl (by assumption) | exact news_tl (news_tl (by assumption)) | exact news_tl (news_tl (news_tl (by assumption))) | exact news_tl (news_tl (news_tl (news_tl (by assumption)))) | exact news_tl (news_tl (news_tl (news_tl (news_tl (by assumption))))) | exact news_tl (news_tl (news_tl (news_tl (news_tl (news_tl (by assumption)))))) | exact news_tl (news_tl (news_tl (news_tl (news_tl (news_tl (news_tl (by assumption))))))))) ld lo S6
end EK.E_shapes_c
theorem EK.E_shapes_c.all : ∀ c, EK.E_shapes_c.Pc c := by
  have h : EK.E_shapes_c.Pc kc := by with_unfolding_all exact EK.E_shapes_c.core
  rw [EK.eqk6] at h
  exact first_all (r := EK.lst7) h
theorem EK.eqk7 : kc = first EK.lst7 := EK.eqk6.trans (first_skip EK.E_shapes_c.all)
theorem shapes_c {w : World} {mean : ExcName → Option Value} {mg mb : Str → Option Value} {dp un : Nat} {gd : Option (List Code)} {cn : Str} {cs : Scope} {a : Addr} {ccd : Value} {cl : List (Str × Addr)} {outer : List Env} {A₀ : Around} {base h₀ : Heap} {L : Addr} {m : Str → Option Value} {s : Shared} {Q E : Value → Shared → Prop} (news : List (Addr × Obj))
    (B : Below A₀ base outer h₀) (F : Fr h₀ L s.heap m) (X : (hd.heap_1 w.params).In h₀) (T : Top viewP LZ mean mg mb h₀) (hk : cs.kind = .function)
    (N : News h₀ L s.heap news)
    (hd : dp + 5 < recursionLimit) (hu : un + 100 < cLine)
    (hret : ∀ (d : Addr) (o : Obj) (h' : Heap) (tks : Nat), Fr h₀ L h' m → News h₀ L h' ((d, o) :: news) → (∀ p ∈ news, p.1 < d) → (d == sysModules) = false → DS PySem.Challenge.rw_pf0284_01.row.prog w o SH6b → Q (.ref d) { s with heap := h', toks := tks }) : wpAny (model PySem.Challenge.rw_pf0284_01.row.prog w) (ktrTop dp un gd cn cs L a ccd cl outer) (call (.ref 124) []) Q E s := by
  with_unfolding_all exact EK.E_shapes_c.all ⟨w, mean, mg, mb, dp, un, gd, cn, cs, a, ccd, cl, outer, A₀, base, h₀, L, m, s, Q, E⟩ news B F X T hk N hd hu hret
end
end
section
set_option maxHeartbeats 800000
open PyProof.V PySem.Spec PySem.Calls
section
variable {prog : Program} {w : World} {A : Around} {E : Value → Shared → Prop} {s : Shared}
theorem nextOf_tup {it t : Addr} {i : Nat} {items : Array Value} {x : Value} {Q : Value → Shared → Prop} (hit : s.heap.IsTupleIter it t i) (ht : s.heap.IsTuple t items) (hx : items[i]? = some x)
    (hQ : ∀ h', h'.IsTupleIter it t (i + 1) → Heap.SameBut it s.heap h' → Q x { s with heap := h' }) : wpAny (model prog w) A (Builtin.SmallTypes.nextOf (.ref it)) Q E s := by
  obtain ⟨o, ho, hc, hd⟩ := id hit
  obtain ⟨ol, hol, _, nl, hdl⟩ := ht
  unfold Builtin.SmallTypes.nextOf
  refine wpAny_bind (wpAny_callSpecial?_slot (name := Str.ofString "__next__") hit.typeIs F.slot_tuple_iterator_next
    (wpAny_call_entry F.slot_tuple_iterator_next hit.typeIs F.entry_tuple_iterator_next ?_ (F.args_tuple_iterator_next_1 _)))
  show wpAny _ _ (field (.ref it) 0 >>= _) _ _ s
  refine wpAny_bind (wpAny_field ho hd (x := .ref t) rfl ?_)
  show wpAny _ _ (if (Value.ref t == Value.none) = true then _ else _) _ _ s
  rw [if_neg (show ¬ ((Value.ref t == Value.none) = true) from Bool.false_ne_true)]
  show wpAny _ _ (field (.ref it) 1 >>= _) _ _ s
  refine wpAny_bind (wpAny_field ho hd (x := .int i 0) rfl ?_)
  show wpAny _ _ (seqItems? (.ref t) >>= _) _ _ s
  refine wpAny_bind (wpAny_seqItems hol hdl ?_)
  simp only [Int.toNat_natCast, hx]
  refine wpAny_bind (wpAny_setField ho hd (by simp) (wpAny_pure ⟨x, rfl, wpAny_pure (hQ _ ?_ (Heap.SameBut.update ..))⟩))
  exact ⟨_, Heap.get?_update_self _ ho (Obj.isFreed_of_fields (Obj.data_mapFields hd _)), (Obj.cls_mapFields ..).trans hc, by
    rw [Obj.data_mapFields hd]; simp [rawInt]⟩
theorem nextOf_tup_end {it t : Addr} {i : Nat} {items : Array Value} {Q : Value → Shared → Prop} (hh : A.handled = none) (hit : s.heap.IsTupleIter it t i) (ht : s.heap.IsTuple t items) (hx : items[i]? = none)
    (hE : ∀ h' e, Heap.ExtBut it s.heap h' → (∃ o, h'.get? e = some o ∧ o.cls = .type "StopIteration") → E (.ref e) { s with heap := h' }) : wpAny (model prog w) A (Builtin.SmallTypes.nextOf (.ref it)) Q E s := by
  obtain ⟨o, ho, hc, hd⟩ := id hit
  obtain ⟨ol, hol, _, nl, hdl⟩ := ht
  unfold Builtin.SmallTypes.nextOf
  refine wpAny_bind (wpAny_callSpecial?_slot (name := Str.ofString "__next__") hit.typeIs F.slot_tuple_iterator_next
    (wpAny_call_entry F.slot_tuple_iterator_next hit.typeIs F.entry_tuple_iterator_next ?_ (F.args_tuple_iterator_next_1 _)))
  show wpAny _ _ (field (.ref it) 0 >>= _) _ _ s
  refine wpAny_bind (wpAny_field ho hd (x := .ref t) rfl ?_)
  show wpAny _ _ (if (Value.ref t == Value.none) = true then _ else _) _ _ s
  rw [if_neg (show ¬ ((Value.ref t == Value.none) = true) from Bool.false_ne_true)]
  show wpAny _ _ (field (.ref it) 1 >>= _) _ _ s
  refine wpAny_bind (wpAny_field ho hd (x := .int i 0) rfl ?_)
  show wpAny _ _ (seqItems? (.ref t) >>= _) _ _ s
  refine wpAny_bind (wpAny_seqItems hol hdl ?_)
  simp only [Int.toNat_natCast, hx]
  refine wpAny_bind (wpAny_rule (wpAny_bind (wpAny_setField ho hd (by simp) ?_)))
  show wpAny _ _ (newExc (.type "StopIteration") [] >>= _) _ _ _
  refine wpAny_bind ?_
  simp only [newExc, newTuple]
  refine wpAny_bind (wpAny_newObj_type ?_ (by size_fits))
  refine wpAny_bind (m := firstArgMember _ _) (wpAny_of_eq (a := Value.none) (by first | rfl | (simp only [firstArgMember]; rfl)) ?_)
  refine wpAny_newObj_type ?_ (by size_fits)
  simp only [raiseNew]
  refine wpAny_bind (wpAny_handled ?_)
  first | rw [show A.in1.handled = none from hh] | rw [hh]
  refine wpAny_bind (wpAny_pure (wpAny_throw ?_))
  exact hE _ _ (((Heap.SameBut.update ..).extBut.push _).push _) ⟨_, Heap.get?_push_size _ rfl, rfl⟩
end
theorem drawsTup {prog : Program} {w : World} {A : Around} (hh : A.handled = none) (it t : Addr) (hne : t ≠ it) (items : Array Value) :
    Draws prog w A it [it, t] items.size (fun i v => items[i]? = some v) (fun i h => h.IsTupleIter it t i ∧ h.IsTuple t items) where
  live := fun _ _ st => let ⟨o, ho, _⟩ := st.1; ⟨o, ho⟩
  frame := fun _ _ _ st hk => ⟨let ⟨o, ho, r⟩ := st.1; ⟨o, hk it (by simp) o ho, r⟩, let ⟨o, ho, r⟩ := st.2; ⟨o, hk t (by simp) o ho, r⟩⟩
  item := fun i s Q E hi st hQ => by
    refine nextOf_tup st.1 st.2 (x := items[i]) (by simp [hi]) fun h' hit' hs' => ?_
    exact hQ _ h' s.toks (by simp [hi]) ⟨hit', st.2.extBut hs'.extBut hne⟩ hs'
  done := fun s Q E st hE => nextOf_tup_end hh st.1 st.2 (by simp) hE
section
variable {prog : Program} {w : World} {A : Around} {E : Value → Shared → Prop} {s : Shared} {z TI TO i1 i2 : Addr} {fp1 fp2 : List Addr} {n1 n2 k : Nat} {P1 P2 : Nat → Value → Prop} {S1 S2 : Nat → Heap → Prop} {a b : Value}
theorem dr_but {it : Addr} {fp : List Addr} {n : Nat} {P : Nat → Value → Prop} {St : Nat → Heap → Prop} (D : Draws prog w A it fp n P St) {c : Addr} {h h' : Heap} (hs : Heap.SameBut c h h') (hc : c ∉ fp) (st : St k h) : St k h' :=
  D.frame _ _ _ st fun x hx o e => hs.extBut x o (fun q => hc (q ▸ hx)) e
theorem zip_item {Q : Value → Shared → Prop} (D1 : Draws prog w A i1 fp1 n1 P1 S1) (D2 : Draws prog w A i2 fp2 n2 P2 S2) (Z : ZApart z TI TO i1 i2 fp1 fp2)
    (hz : IsZip s.heap z TI TO .none) (hTI : IsPair s.heap TI (.ref i1) (.ref i2)) (hTO : IsPair s.heap TO a b) (st1 : S1 k s.heap) (st2 : S2 k s.heap) (hk1 : k < n1) (hk2 : k < n2)
    (hQ : ∀ x y h' tk, P1 k x → P2 k y → IsZip h' z TI TO (rawInt s.heap.objs.size) → IsPair h' TO x y → S1 (k + 1) h' → S2 (k + 1) h' → IsPair h' s.heap.objs.size x y →
      (∀ c o, c ≠ z → c ≠ TO → c ≠ i1 → c ≠ i2 → s.heap.get? c = some o → h'.get? c = some o) → Q (.ref s.heap.objs.size) { s with heap := h', toks := tk }) :
    wpAny (model prog w) A (Builtin.«zip.__next__» ⟨[.ref z], []⟩) (fun fin s' => ∃ v, fin = .done (.ret v) ∧ Q v s') E s := by
  have TOi1 : TO ≠ i1 := fun q => Z.TO1 (q ▸ Z.i1f)
  have TOi2 : TO ≠ i2 := fun q => Z.TO2 (q ▸ Z.i2f)
  have zi1 : z ≠ i1 := fun q => Z.z1 (q ▸ Z.i1f)
  have zi2 : z ≠ i2 := fun q => Z.z2 (q ▸ Z.i2f)
  obtain ⟨hp, g, d, tk₀, os⟩ := s
  show wpAny _ _ (field (.ref z) 2 >>= _) _ _ _
  refine wpAny_bind (wpAny_field hz rfl (x := .bool false) rfl ?_)
  show wpAny _ _ (field (.ref z) 3 >>= _) _ _ _
  refine wpAny_bind (wpAny_field hz rfl (x := .ref TI) rfl ?_)
  refine wpAny_bind (wpAny_seqItems hTI rfl ?_)
  show wpAny _ _ (Builtin.SmallTypes.ownedTupleIsFree (.ref z) >>= _) _ _ _
  refine wpAny_bind ?_
  unfold Builtin.SmallTypes.ownedTupleIsFree
  refine wpAny_bind (wpAny_field hz rfl (x := .none) rfl (wpAny_pure ?_))
  simp only [if_true]
  refine wpAny_bind (wpAny_rule ?_)
  refine wpAny_bind (wpAny_field hz rfl (x := .ref TO) rfl ?_)
  refine wpAny_bind (wpAny_setField_rec hz (by simp) fun h₁ hz₁ hs₁ => ?_)
  replace hz₁ : IsZip h₁ z TI TO .ellipsis := hz₁
  replace hs₁ : Heap.SameBut z hp h₁ := hs₁
  refine wpAny_bind ?_
  simp only [List.zipIdx_cons, List.zipIdx_nil, List.forIn_cons, List.forIn_nil]
  refine wpAny_bind (wpAny_bind (wpAny_onRaise ?_))
  show wpAny _ _ (Builtin.SmallTypes.nextOf (.ref i1) >>= _) _ _ _
  refine wpAny_bind (D1.item k _ _ _ hk1 (dr_but D1 hs₁ Z.z1 st1) fun x h₂ tk₂ hx st1₂ hs₂ => wpAny_pure ?_)
  replace hs₂ : Heap.SameBut i1 h₁ h₂ := hs₂
  have hTO₂ : IsPair h₂ TO a b := hs₂.extBut _ _ TOi1 (hs₁.extBut _ _ Z.TOz hTO)
  refine wpAny_bind (wpAny_seqItems hTO₂ rfl ?_)
  refine wpAny_bind (wpAny_updateSeq_pair hTO₂ fun h₃ hTO₃ hs₃ => ?_)
  replace hTO₃ : IsPair h₃ TO x b := hTO₃
  replace hs₃ : Heap.SameBut TO h₂ h₃ := hs₃
  refine wpAny_bind (wpAny_letGo (wpAny_pure ?_))
  refine wpAny_bind (wpAny_bind (wpAny_onRaise ?_))
  show wpAny _ _ (Builtin.SmallTypes.nextOf (.ref i2) >>= _) _ _ _
  refine wpAny_bind (D2.item k _ _ _ hk2 (dr_but D2 hs₃ Z.TO2 (dr_but D2 hs₂ Z.i12 (dr_but D2 hs₁ Z.z2 st2))) fun y h₄ tk₄ hy st2₄ hs₄ => wpAny_pure ?_)
  replace hs₄ : Heap.SameBut i2 h₃ h₄ := hs₄
  have hTO₄ : IsPair h₄ TO x b := hs₄.extBut _ _ TOi2 hTO₃
  refine wpAny_bind (wpAny_seqItems hTO₄ rfl ?_)
  refine wpAny_bind (wpAny_updateSeq_pair hTO₄ fun h₅ hTO₅ hs₅ => ?_)
  replace hTO₅ : IsPair h₅ TO x y := hTO₅
  replace hs₅ : Heap.SameBut TO h₄ h₅ := hs₅
  refine wpAny_bind (wpAny_letGo (wpAny_pure (wpAny_pure ?_)))
  refine wpAny_bind (wpAny_seqItems hTO₅ rfl ?_)
  refine wpAny_bind (wpAny_newTuple ?_)
  have hsz : h₅.objs.size = hp.objs.size := by rw [hs₅.1, hs₄.1, hs₃.1, hs₂.1, hs₁.1]
  have hz₅ : IsZip h₅ z TI TO .ellipsis := hs₅.extBut _ _ Z.TOz.symm (hs₄.extBut _ _ zi2 (hs₃.extBut _ _ Z.TOz.symm (hs₂.extBut _ _ zi1 hz₁)))
  have hk₅ : ∀ c o, c ≠ z → c ≠ TO → c ≠ i1 → c ≠ i2 → hp.get? c = some o → h₅.get? c = some o := fun c o c1 c2 c3 c4 e =>
    hs₅.extBut _ _ c2 (hs₄.extBut _ _ c4 (hs₃.extBut _ _ c2 (hs₂.extBut _ _ c3 (hs₁.extBut _ _ c1 e))))
  have st1₅ : S1 (k + 1) h₅ := dr_but D1 hs₅ Z.TO1 (dr_but D1 hs₄ Z.i21 (dr_but D1 hs₃ Z.TO1 st1₂))
  have st2₅ : S2 (k + 1) h₅ := dr_but D2 hs₅ Z.TO2 st2₄
  have hzlt : z < h₅.objs.size := Heap.lt_size hz₅
  show wpAny _ _ (Builtin.SmallTypes.ownedTupleHandOut (.ref z) (.ref h₅.objs.size) >>= _) _ _ _
  refine wpAny_bind ?_
  unfold Builtin.SmallTypes.ownedTupleHandOut
  have hz₆ : IsZip (h₅.push { cls := .type "tuple", data := .seq #[x, y] }) z TI TO .ellipsis := Heap.get?_push_of_some _ hz₅
  refine wpAny_bind (wpAny_setField_rec hz₆ (by simp) fun h₇ hz₇ hs₇ => ?_)
  replace hz₇ : IsZip h₇ z TI TO (rawInt h₅.objs.size) := hz₇
  refine wpAny_setField_rec hz₇ (by simp) fun h₈ hz₈ hs₈ => ?_
  replace hz₈ : IsZip h₈ z TI TO (rawInt h₅.objs.size) := hz₈
  have up : ∀ c o, c ≠ z → h₅.get? c = some o → h₈.get? c = some o := fun c o c1 e => hs₈.extBut _ _ c1 (hs₇.extBut _ _ c1 (Heap.get?_push_of_some _ e))
  have hT₈ : IsPair h₈ h₅.objs.size x y := hs₈.extBut _ _ (Nat.ne_of_gt hzlt) (hs₇.extBut _ _ (Nat.ne_of_gt hzlt) (Heap.get?_push_size _ rfl))
  rw [hsz] at hz₈ hT₈
  refine wpAny_pure ⟨_, rfl, ?_⟩
  show Q (.ref h₅.objs.size) _
  rw [hsz]
  exact hQ x y h₈ tk₄ hx hy hz₈ (up _ _ Z.TOz hTO₅) (D1.frame _ _ _ st1₅ fun c hc o e => up c o (fun q => Z.z1 (q ▸ hc)) e) (D2.frame _ _ _ st2₅ fun c hc o e => up c o (fun q => Z.z2 (q ▸ hc)) e) hT₈ fun c o c1 c2 c3 c4 e => up c o c1 (hk₅ c o c1 c2 c3 c4 e)
theorem zip_end {Q : Fin → Shared → Prop} (D1 : Draws prog w A i1 fp1 n1 P1 S1) (Z : ZApart z TI TO i1 i2 fp1 fp2) (hz : IsZip s.heap z TI TO .none) (hTI : IsPair s.heap TI (.ref i1) (.ref i2)) (st1 : S1 n1 s.heap)
    (hE : ∀ h' e, (∀ c o, c ≠ z → c ≠ TO → c ≠ i1 → c ≠ i2 → s.heap.get? c = some o → h'.get? c = some o) → (∃ o, h'.get? e = some o ∧ o.cls = .type "StopIteration") → E (.ref e) { s with heap := h' }) :
    wpAny (model prog w) A (Builtin.«zip.__next__» ⟨[.ref z], []⟩) Q E s := by
  have zi1 : z ≠ i1 := fun q => Z.z1 (q ▸ Z.i1f)
  show wpAny _ _ (field (.ref z) 2 >>= _) _ _ _
  refine wpAny_bind (wpAny_field hz rfl (x := .bool false) rfl ?_)
  show wpAny _ _ (field (.ref z) 3 >>= _) _ _ _
  refine wpAny_bind (wpAny_field hz rfl (x := .ref TI) rfl ?_)
  refine wpAny_bind (wpAny_seqItems hTI rfl ?_)
  show wpAny _ _ (Builtin.SmallTypes.ownedTupleIsFree (.ref z) >>= _) _ _ _
  refine wpAny_bind ?_
  unfold Builtin.SmallTypes.ownedTupleIsFree
  refine wpAny_bind (wpAny_field hz rfl (x := .none) rfl (wpAny_pure ?_))
  simp only [if_true]
  refine wpAny_bind (wpAny_rule ?_)
  refine wpAny_bind (wpAny_field hz rfl (x := .ref TO) rfl ?_)
  refine wpAny_bind (wpAny_setField_rec hz (by simp) fun h₁ hz₁ hs₁ => ?_)
  replace hz₁ : IsZip h₁ z TI TO .ellipsis := hz₁
  refine wpAny_bind ?_
  simp only [List.zipIdx_cons, List.zipIdx_nil, List.forIn_cons, List.forIn_nil]
  refine wpAny_bind (wpAny_bind (wpAny_onRaise ?_))
  show wpAny _ _ (Builtin.SmallTypes.nextOf (.ref i1) >>= _) _ _ _
  refine wpAny_bind (D1.done _ _ _ (dr_but D1 hs₁ Z.z1 st1) fun h₂ e hs₂ he => ?_)
  obtain ⟨oe, hoe, hce⟩ := he
  have hz₂ : IsZip h₂ z TI TO .ellipsis := hs₂ _ _ zi1 hz₁
  have hez : e ≠ z := fun x => by subst x; rw [hz₂] at hoe; cases hoe; simp at hce
  refine wpAny_setField_rec hz₂ (by simp) fun h₃ _ hs₃ => hE h₃ e (fun c o c1 _ c3 _ x => hs₃.extBut _ _ c1 (hs₂ _ _ c3 (hs₁.extBut _ _ c1 x))) ⟨oe, hs₃.extBut _ _ hez hoe, hce⟩
end
theorem walksZip {prog : Program} {w : World} {A : Around} {z TI TO i1 i2 : Addr} {fp1 fp2 : List Addr} {n n2 : Nat} {P1 P2 : Nat → Value → Prop} {S1 S2 : Nat → Heap → Prop} (D1 : Draws prog w A.in1 i1 fp1 n P1 S1) (D2 : Draws prog w A.in1 i2 fp2 n2 P2 S2) (hn : n ≤ n2) (Z : ZApart z TI TO i1 i2 fp1 fp2) :
    WalksT prog w A z (z :: TI :: TO :: (fp1 ++ fp2)) [z, TO, i1, i2] n
      (fun i vals => ∃ x y, P1 i x ∧ P2 i y ∧ vals = #[x, y])
      (fun i h => IsZip h z TI TO .none ∧ IsPair h TI (.ref i1) (.ref i2) ∧ (∃ a b, IsPair h TO a b) ∧ S1 i h ∧ S2 i h)
      (fun i T h => IsZip h z TI TO (rawInt T) ∧ IsPair h TI (.ref i1) (.ref i2) ∧ (∃ a b, IsPair h TO a b) ∧ S1 (i + 1) h ∧ S2 (i + 1) h ∧ T ≠ z ∧ T ≠ TO ∧ T ≠ i1 ∧ T ≠ i2) where
  sub := fun c hc => by
    have := Z.i1f
    have := Z.i2f
    simp at hc ⊢
    rcases hc with rfl | rfl | rfl | rfl <;> simp [*]
  frame := fun i h h' hst hk => by
    obtain ⟨hz, hTI, ⟨a, b, hTO⟩, s1, s2⟩ := hst
    exact ⟨hk z (by simp) _ hz, hk TI (by simp) _ hTI, ⟨a, b, hk TO (by simp) _ hTO⟩, D1.frame _ _ _ s1 fun c hc o e => hk c (by simp [hc]) o e, D2.frame _ _ _ s2 fun c hc o e => hk c (by simp [hc]) o e⟩
  item := fun i s Q E hi hst hQ => by
    obtain ⟨hz, hTI, ⟨a, b, hTO⟩, s1, s2⟩ := hst
    have hT : s.TypeIs (.ref z) "zip" := ⟨_, hz, rfl⟩
    have lt : ∀ {c o}, s.heap.get? c = some o → s.heap.objs.size ≠ c := fun e => Nat.ne_of_gt (Heap.lt_size e)
    have l1 : s.heap.objs.size ≠ i1 := by obtain ⟨_, y⟩ := D1.live _ _ s1; exact lt y
    have l2 : s.heap.objs.size ≠ i2 := by obtain ⟨_, y⟩ := D2.live _ _ s2; exact lt y
    unfold pyNext
    refine wpAny_bind (wpAny_attempt (wpAny_callSpecial?_slot (name := Str.ofString "__next__") hT F.slot_zip_next
      (wpAny_call_entry F.slot_zip_next hT F.entry_zip_next (zip_item D1 D2 Z hz hTI hTO s1 s2 hi (Nat.lt_of_lt_of_le hi hn) fun x y h' tk p1 p2 a1 a2 a3 a4 a5 a6 => wpAny_pure ?_) (F.args_zip_next_1 _))))
    exact hQ s.heap.objs.size #[x, y] h' tk ⟨x, y, p1, p2, rfl⟩ (Nat.le_refl _) ⟨_, a5, rfl, _, rfl⟩ ⟨a1, a6 _ _ Z.TIz Z.TITO Z.TIi1 Z.TIi2 hTI, ⟨_, _, a2⟩, a3, a4, lt hz, lt hTO, l1, l2⟩
      fun c o hc e => a6 c o (fun x => hc (by simp [x])) (fun x => hc (by simp [x])) (fun x => hc (by simp [x])) (fun x => hc (by simp [x])) e
  go := fun elts k pos i T s Q E hm hQ => by
    obtain ⟨hz, hTI, ⟨a, b, hTO⟩, s1, s2, _⟩ := hm
    refine wpAny_letOwnedTupleGo_zip hz fun h' hz' hs' => hQ h' ⟨hz', hs'.extBut _ _ Z.TIz hTI, ⟨a, b, hs'.extBut _ _ Z.TOz hTO⟩, dr_but D1 hs' Z.z1 s1, dr_but D2 hs' Z.z2 s2⟩ fun c o hc e => hs'.extBut _ _ (fun x => hc (by simp [x])) e
  apart := fun i T h hm hT => by
    obtain ⟨_, _, _, _, _, t1, t2, t3, t4⟩ := hm
    simp at hT
    rcases hT with rfl | rfl | rfl | rfl
    · exact t1 rfl
    · exact t2 rfl
    · exact t3 rfl
    · exact t4 rfl
  done := fun s Q E hst hQ => by
    obtain ⟨hz, hTI, ⟨a, b, hTO⟩, s1, s2⟩ := hst
    have hT : s.TypeIs (.ref z) "zip" := ⟨_, hz, rfl⟩
    unfold pyNext
    refine wpAny_bind (wpAny_attempt (wpAny_callSpecial?_slot (name := Str.ofString "__next__") hT F.slot_zip_next
      (wpAny_call_entry F.slot_zip_next hT F.entry_zip_next (zip_end D1 Z hz hTI s1 fun h' e hk he => ?_) (F.args_zip_next_1 _))))
    obtain ⟨o, ho, hc⟩ := he
    refine wpAny_bind (wpAny_isInstance (T := "StopIteration") (b := true) ⟨o, ho, hc⟩ isSubtype_stop ?_)
    exact wpAny_pure (hQ _ _ fun c o hc e => hk c o (fun x => hc (by simp [x])) (fun x => hc (by simp [x])) (fun x => hc (by simp [x])) (fun x => hc (by simp [x])) e)
  self := fun i s Q E hst hQ => wpAny_pyIter_zip hst.1 hQ
theorem meets_zipS (x : Str) (t : Tok) (l : Addr) (ys : Array Value) :
    Meets (Builtin.«zip.__new__» ⟨[.type "zip", .str x t, .ref l], []⟩) (fun _ R s => s.heap.IsTuple l ys ∧
      R (.ok (.ret (.ref (zsH4 s.heap x t l).objs.size))) { s with heap := zsH5 s.heap x t l }) :=
  .of_wp fun prog w A R s h => by
    obtain ⟨hp, g, d, tk, os⟩ := s; obtain ⟨hl, h⟩ := h
    have hsub := sub_zip
    have hL : Heap.IsTuple (Shared.heap ⟨hp.push { cls := .type (strIterType x), data := .fields #[.str x t, .int 0 0] }, g, d, tk, os⟩) l ys := Heap.IsTuple.push hl _
    repeat (first | with_reducible (first | refine wpAny_pyIter_strU ?_ | refine wpAny_pyIter_tuple hL ?_ | refine wpAny_pure ?_ | refine wpAny_bind ?_ | refine wpAny_holding ?_ | refine wpAny_standAt ?_ | refine wpAny_point ?_ | refine wpAny_rule ?_ | refine wpAny_letGo ?_ | refine wpAny_mkInt' ?_ | refine wpAny_fresh' ?_ | refine wpAny_alloc' ?_) | wp_delta | wp_step)
    exact ⟨_, rfl, h⟩
section
variable {prog : Program} {w : World} {A : Around} {E : Value → Shared → Prop} {s : Shared}
theorem call_zipS {x : Str} {t : Tok} {l : Addr} {ys : Array Value} {Q : Value → Shared → Prop} (hl : s.heap.IsTuple l ys)
    (h : ∀ h', IsZip h' (s.heap.objs.size + 4) (s.heap.objs.size + 2) (s.heap.objs.size + 3) .none → IsPair h' (s.heap.objs.size + 2) (.ref s.heap.objs.size) (.ref (s.heap.objs.size + 1)) →
      IsPair h' (s.heap.objs.size + 3) .none .none → h'.IsStrIter s.heap.objs.size (strIterType x) x t 0 → h'.IsTupleIter (s.heap.objs.size + 1) l 0 →
      (∀ c o, s.heap.get? c = some o → h'.get? c = some o) → Q (.ref (s.heap.objs.size + 4)) { s with heap := h' }) :
    wpAny (model prog w) A (call (.type "zip") [.str x t, .ref l]) Q E s := by
  refine callType_new F.called_zip (by decide) (F.typeCall_zip_2 _ _) (F.newCall_zip_2 _ _) (fun obj => F.args_object_init_3 obj _ _) F.entry_zip_new
    (meets_zipS x t l ys) ⟨hl, ?_⟩
  have z1 : (zsH1 s.heap x t).objs.size = s.heap.objs.size + 1 := Heap.size_push ..
  have z2 : (zsH2 s.heap x t l).objs.size = s.heap.objs.size + 2 := by rw [Heap.size_push, z1]
  have z3 : (zsH3 s.heap x t l).objs.size = s.heap.objs.size + 3 := by rw [Heap.size_push, z2]
  have z4 : (zsH4 s.heap x t l).objs.size = s.heap.objs.size + 4 := by rw [Heap.size_push, z3]
  have g5 : (zsH5 s.heap x t l).get? (zsH4 s.heap x t l).objs.size = some _ := Heap.get?_push_size _ rfl
  have g4 : (zsH5 s.heap x t l).get? (zsH3 s.heap x t l).objs.size = some _ := Heap.get?_push_of_some _ (Heap.get?_push_size _ rfl)
  have g3 : (zsH5 s.heap x t l).get? (zsH2 s.heap x t l).objs.size = some _ := Heap.get?_push_of_some _ (Heap.get?_push_of_some _ (Heap.get?_push_size _ rfl))
  have g2 : (zsH5 s.heap x t l).get? (zsH1 s.heap x t).objs.size = some _ := Heap.get?_push_of_some _ (Heap.get?_push_of_some _ (Heap.get?_push_of_some _ (Heap.get?_push_size _ rfl)))
  have g1 : (zsH5 s.heap x t l).get? s.heap.objs.size = some _ := Heap.get?_push_of_some _ (Heap.get?_push_of_some _ (Heap.get?_push_of_some _ (Heap.get?_push_of_some _ (Heap.get?_push_size _ rfl))))
  show _ ∧ _
  rw [z2, z3, z4] at g5
  rw [z1, z2] at g3
  rw [z3] at g4
  rw [z1] at g2
  rw [z4]
  exact ⟨⟨_, g5, rfl⟩, h _ g5 g3 g4 ⟨_, g1, rfl, rfl⟩ ⟨_, g2, rfl, rfl⟩ fun c o x =>
    Heap.get?_push_of_some _ (Heap.get?_push_of_some _ (Heap.get?_push_of_some _ (Heap.get?_push_of_some _ (Heap.get?_push_of_some _ x))))⟩
end
theorem zipS_len : ∀ (cs : List Nat) (ys : List Value), cs.length = ys.length → (zipS cs ys).length = cs.length
  | [], [], _ => rfl
  | [], _ :: _, h => nomatch h
  | _ :: _, [], h => nomatch h
  | _ :: r, _ :: q, h => by simp only [zipS, List.length_cons, zipS_len r q (by simpa using h)]
theorem zipS_get : ∀ (cs : List Nat) (ys : List Value) (i : Nat) {c : Nat} {y : Value}, cs[i]? = some c → ys[i]? = some y → (zipS cs ys)[i]? = some (.pair (fun t => .str ⟨#[c]⟩ t) y)
  | [], _, _, _, _, h, _ => by simp at h
  | _ :: _, [], _, _, _, _, h => by simp at h
  | c' :: r, y' :: q, 0, c, y, h, h' => by
    have e : c' = c := by simpa using h
    have e' : y' = y := by simpa using h'
    subst e e'
    rfl
  | c' :: r, y' :: q, i + 1, c, y, h, h' => by
    have g := zipS_get r q i (c := c) (y := y) (by simpa using h) (by simpa using h')
    simpa [zipS] using g
section
variable {prog : Program} {w : World} {A : Around} {E : Value → Shared → Prop} {s : Shared} {env : Env} {h₀ : Heap} {body : List Stmt} {Q : Flow → Shared → Prop}
theorem nm1 {a b : Nat} (h : a ≠ b) : (a : Addr) ∉ ([b] : List Addr) := fun hm => h (List.mem_singleton.mp hm)
theorem nm2 {a b c : Nat} (h : a ≠ b) (h' : a ≠ c) : (a : Addr) ∉ ([b, c] : List Addr) := fun hm => by
  rcases List.mem_cons.mp hm with e | hm
  · exact h e
  · exact h' (List.mem_singleton.mp hm)
theorem kw11 : True := by
 w_top off
 k_with_none
 k_with "ml" => first | assumption | (refine memsub (by assumption) ?_; first | assumption | exact List.Mem.head _ | (refine List.Mem.tail _ ?_; first | exact List.Mem.head _ | (refine List.Mem.tail _ ?_; first | exact List.Mem.head _ | (refine List.Mem.tail _ ?_; first | exact List.Mem.head _ | (refine List.Mem.tail _ ?_; first | assumption) | assumption) | assumption) | assumption) | assumption)
 k_with "k_mem" => first | exact List.Mem.head _ | (refine List.Mem.tail _ ?_; k_extra "k_mem") | k_extra "ml"
 k_with "ks" => repeat' (first | (k_unfold; (try dsimp only)) | (k_end; kc_close) | (walk1; (try (first | (with_reducible show wpAny _ _ (exec _ _) _ _ _; (try dsimp only); (refine letq ?_; intro qk9ᵩ); (try with_reducible refine wpst ?_; intro tk9ᵩ); (try walk_at "fold9")) | (with_reducible show wpAny _ _ (execs _ _) _ _ _; k_fold)))) | (dsimp only; walk1) | (leave1; walk_say "STEP leave1"; try dsimp only) | (k_unmd; k_unfold; (try dsimp only)) | fail "no step")
 k_with "in9" => first | with_reducible assumption | (refine' Frag.In.keeps ?y9X (Fr.keep ?y9F); (case y9F => k_asm); (case y9X => k_asm))
 k_with "eval Constant str" => with_reducible refine kstr ?_
 k_with "eval Constant int" => with_reducible refine kint ?_
 k_with "oc" => first | (apply c1; assumption) | (apply c2; assumption) | (apply l2; assumption) | (apply c3; assumption) | (apply c4; assumption) | (apply c5; assumption) | (apply c6; assumption) | (apply c7; assumption) | (apply c8; assumption) | (apply c9; assumption) | (apply c10; assumption) | (apply c11; assumption) | (apply c12; assumption) | (apply c13; assumption) | (apply c14; assumption) | (apply c15; assumption) | (apply c16; assumption)
 k_with "od" => first | (apply c1; assumption) | (apply c2; assumption) | (apply l2; assumption) | (apply c3; assumption) | (apply c4; assumption) | (apply c5; assumption) | (apply c6; assumption) | (apply c7; assumption)
 k_with "on" => first | (apply zsy; assumption) | (apply zgt; first | assumption | k_extra "oc") | (apply zlt; first | assumption | k_extra "oc") | (apply gtt; assumption; first | assumption | k_extra "od") | (apply ltt; assumption; first | assumption | k_extra "od")
 k_with "oi" => first | exact nn0 | exact nn0' | exact z63 (by assumption) (by assumption) | exact z63b (by assumption) (by assumption) | exact n63 (by assumption) (by assumption) | exact n63b (by assumption) (by assumption) | exact z63c (by assumption) (by assumption) | exact z63d (by assumption) (by assumption) | exact nlt (by assumption) | exact n62 (by assumption) | exact n62b (by assumption) | exact tnl (by assumption) (by assumption) | exact sub1 (by assumption) | exact sub2 (by assumption) (by assumption) | decide | exact Int.lt_of_lt_of_le (by assumption) (by decide) | exact Nat.le_trans (by assumption) (by decide) | exact ul (by assumption) (by decide) | exact up0 (by assumption) (by assumption) | k_extra "oc"
 k_with "om" => first | (k_whole; with_reducible (first | assumption | (show @Ne Nat _ _; k_extra "on") | (show @Eq Nat _ _; first | exact tn1 (by assumption) | exact z0i) | ((first | show @LT.lt Int _ _ _ | show @LE.le Int _ _ _ | show @LT.lt Nat _ _ _ | show @LE.le Nat _ _ _); k_extra "oi")))
 k_with "execs cons If" => (k_here; (with_reducible show wpAny _ _ (execs (PySem.Stmt.If (PySem.Expr.Compare (PySem.Expr.Name _ _) [.Eq] [PySem.Expr.Constant (.str _) _ _] _) _ _ _ :: _) _) _ _ _); first | ((with_reducible show wpAny _ _ (execs (PySem.Stmt.If _ _ [] _ :: _) _) _ _ _); k_dflt (refine' cif_f ?F ?v ?x ?c ?k ?d ?_; (case F => k_asm); (case x => kernel_rfl!); (case k => kernel_rfl!); (case d => kernel_rfl!); (case v => rfl); (case c => first | with_reducible assumption | kernel_rfl!); k_whole)) | ((with_reducible show wpAny _ _ (execs [PySem.Stmt.If _ _ (_ :: _) _] _) _ _ _); k_dflt (refine' cif_g ?F ?v ?x ?c ?k ?d ?_; (case F => k_asm); (case x => kernel_rfl!); (case k => kernel_rfl!); (case d => kernel_rfl!); (case v => rfl); (case c => first | with_reducible assumption | kernel_rfl!); k_whole)) | ((with_reducible show wpAny _ _ (execs [PySem.Stmt.If _ _ _ _] _) _ _ _); k_dflt (refine' cif_t ?F ?v ?x ?c ?k ?d ?_; (case F => k_asm); (case x => kernel_rfl!); (case k => kernel_rfl!); (case d => kernel_rfl!); (case v => rfl); (case c => first | with_reducible assumption | kernel_rfl!); k_whole)) | k_dflt (refine' cif_r ?F ?v ?x ?c ?k ?d ?_; (case F => k_asm); (case x => kernel_rfl!); (case k => kernel_rfl!); (case d => kernel_rfl!); (case v => rfl); (case c => first | with_reducible assumption | kernel_rfl!); k_whole))
 k_with "callWith" => ((with_reducible show wpAny _ _ (callWith _ (Value.builtin _) (_ :: _) (backTo _ (starEach (_ :: _) _)) []) _ _ _); refine callWith_method1 ?_)
 k_with "callWith ref" => (k_here; k_dflt (first | (refine' callWith_K ?y9k ?y9l ?_; (case y9k => k_asm); (case y9l => k_is); k_whole) | (refine' callWith_K0 ?y9k ?y9l ?_; (case y9k => k_in); (case y9l => k_is); k_whole)))
 k_with "eval Name" => (k_here; (fail_if_success (with_reducible show wpAny _ _ (eval (PySem.Expr.Name _ _) (compEnvC _ _ _ _)) _ _ _)); k_dflt (first | (refine' nameX_L ?y9F ?y9v ?_ ?y9a ?y9b ?y9d; (case y9F => k_asm); (case y9a => kernel_rfl!); (case y9b => kernel_rfl!); (case y9d => kernel_rfl!); (case y9v => rfl); k_whole) | (refine' nameX_K ?y9F ?y9X ?y9T ?y9e ?_ ?y9a ?y9b; (case y9F => k_asm); (case y9X => k_asm); (case y9T => k_asm); (case y9a => kernel_rfl!); (case y9b => kernel_rfl!); (case y9e => k_is); k_whole) | (refine' nameX_C ?y9N ?y9c ?y9m ?y9d ?_ ?y9a ?y9b; (case y9a => kernel_rfl!); (case y9b => kernel_rfl!); (case y9N => k_asm); (case y9c => rfl); (case y9m => k_mem); (case y9d => k_asm); k_whole) | (refine' nameX_B ?y9F ?y9X ?y9T ?y9e ?y9v ?y9n ?_ ?y9a ?y9b; (case y9F => k_asm); (case y9X => k_asm); (case y9T => k_asm); (case y9a => kernel_rfl!); (case y9b => kernel_rfl!); (case y9e => k_is); (case y9v => boot_fast); (case y9n => decide); k_whole)))
 k_with "execs cons Return" => with_reducible refine cret ?_
 k_with "newTuple" => (k_here; k_dflt (refine' kup_newTuple (by k_asm) (by k_asm) ?_ (by kmk_size)); intro D'ᵩ h'ᵩ F'ᵩ N'ᵩ l1ᵩ; have l2ᵩ := l1ᵩ; (try k_lt l1ᵩ))
 k_with "k9" => (first | exact rfl | assumption)
 k_with "d9" => (first | exact rmc0 (by assumption) (by decide) | exact rmc 1 (by assumption) (by decide) | exact rmc 2 (by assumption) (by decide) | exact rmc 3 (by assumption) (by decide))
 k_with "u9" => (first | exact rmu0 (by assumption) (by decide) | exact rmu 3 (by assumption) (by decide) | exact rmu 6 (by assumption) (by decide) | exact rmu 9 (by assumption) (by decide) | exact rmu 1 (by assumption) (by decide) | exact rmu 4 (by assumption) (by decide) | exact rmu 7 (by assumption) (by decide))
 k_with "r9" => (first | exact rm0 (by assumption) | exact rm 1 (by assumption) (by decide) | exact rm 2 (by assumption) (by decide) | exact rm 3 (by assumption) (by decide) | exact rm 4 (by assumption) (by decide))
 k_with "b9" => (first | exact BindsTo.of_eq rfl | exact binds_K (by k_in) rfl (by k_is) rfl rfl rfl)
 k_with "c9" => (k_dflt (refine' code_def ?k1 ?k2 ?k3 ?k4 ?k5 ?kA ?kF ?kK ?k6 ?k7 ?k8 ?k9 ?kB ?_ ?c2 ?c3 ?c4 ?c5; (case kA => exact rfl); (case kF => exact rfl); (case kK => k_extra "k9"); (case k1 => k_asm); (case k2 => k_asm); (case k3 => k_asm); (case k4 => k_asm); (case k5 => k_asm); (case k6 => k_is); (case k7 => k_is); (case k8 => k_extra "r9"); (case k9 => k_extra "b9"); (case c5 => decide); (case kB => exact locs rfl); (case c2 => exact rfl); (case c3 => exact rfl); (case c4 => exact rfl); k_whole); intro g'ᵩ L'ᵩ h'ᵩ FG'ᵩ F'ᵩ N'ᵩ B'ᵩ X'ᵩ T'ᵩ; (try dsimp only))
 k_with "i9" => (k_dflt (refine' item_led (by k_asm) (by k_mem) (by omega) (by with_reducible assumption) (by omega) ?_ (by with_unfolding_all rfl); k_whole))
 k_with "j9" => (first | k_dflt (refine' item_tupleT (News.isTup (by k_asm) (by k_mem)) (by decide) (by decide) (by rfl) (by rfl) ?_ (by with_unfolding_all rfl); k_whole) | k_extra "i9")
 k_with "mo" => exact ⟨_, _, _, _, _, _, _, _, ⟨_, _, _, _, _, _, _, _, _, _, _, _, _, _, _, _, _, _, _, _, _, rfl⟩⟩
 k_with "nt" => (first | assumption | exact news_tl (by assumption) | exact news_tl (news_tl (by assumption)) | exact news_tl (news_tl (news_tl (by assumption))) | exact news_tl (news_tl (news_tl (news_tl (by assumption)))) | exact news_tl (news_tl (news_tl (news_tl (news_tl (by assumption))))) | exact news_tl (news_tl (news_tl (news_tl (news_tl (news_tl (by assumption)))))) | exact news_tl (news_tl (news_tl (news_tl (news_tl (news_tl (news_tl (by assumption))))))))
 k_with "subscriptTail Attribute Subscript Constant ref int" => (k_here; k_extra "j9")
 k_with "subscriptTail Name Constant ref int" => (k_here; k_extra "j9")
 k_with "subscriptTail Attribute Name Constant ref int" => (k_here; k_extra "j9")
 k_with "subscriptTail Name Name ref int" => (k_here; k_extra "i9")
 k_with "ite" => first | with_reducible refine ite_tt ?_ | with_reducible refine ite_ff ?_ | (k_closed; k_dflt (first | (with_reducible refine' ite_bp ?y9z ?_; (case y9z => kernel_rfl!)) | (with_reducible refine' ite_bn ?y9z ?_; (case y9z => kernel_rfl!)) | refine ite_pos (by decide) ?_ | refine ite_neg (by decide) ?_)) | (with_reducible refine ite_af (by decide +kernel) ?_) | (with_reducible refine ite_at (by decide +kernel) ?_) | (with_reducible refine ite_dp (by omega) ?_) | (with_reducible refine ite_dn (by omega) ?_) | (with_reducible refine ite_bp (by assumption) ?_) | (with_reducible refine ite_bn (by assumption) ?_)
 k_with "call builtin:len" => (k_here; (with_reducible show wpAny _ _ (call (Value.builtin "len") [Value.ref _]) _ _ _); k_dflt (refine' len_led (by k_asm) (by k_mem) (by with_reducible assumption) (by omega) ?_; k_whole))
 k_with "call ref" => (k_here; (with_reducible show wpAny _ _ (call (Value.ref _) _) _ _ _); refine wpAny_call ?_; k_extra "c9")
 trivial
theorem zap (I l : Nat) (h : l < I) : ZApart (I + 4) (I + 2) (I + 3) I (I + 1) [I] [I + 1, l] where
  TIz := neN (by omega)
  TOz := neN (by omega)
  TITO := neN (by omega)
  TIi1 := neN (by omega)
  TIi2 := neN (by omega)
  i1f := .head _
  i2f := .head _
  z1 := nm1 (by omega)
  z2 := nm2 (by omega) (by omega)
  TO1 := nm1 (by omega)
  TO2 := nm2 (by omega) (by omega)
  i21 := nm1 (by omega)
  i12 := nm2 (by omega) (by omega)
theorem ktu_zipS {elts : List PySem.Expr} {k : Nat} {pos : Pos} {x : Str} {t : Tok} {l : Addr} {ys : List Value} {n : Nat} {m₀ : Str → Option Value} {news : List (Addr × Obj)} {xs : List Itm}
    (hh : A.handled = none) (F : Fr h₀ env.locals s.heap m₀) (N : News h₀ env.locals s.heap news) (hm : (l, tupO ys n) ∈ news) (hc : x.cps.all (· < 128) = true) (hlen : x.cps.toList.length = ys.length) (hxs : zipS x.cps.toList ys = xs)
    (rest₀ : ∀ I : Addr, (∀ p ∈ news, p.1 < I) → ItemsRest prog w A E h₀ env (.Tuple elts k pos) body Q s [(I + 4, "zip"), (I + 2, "tuple"), (I + 3, "tuple"), (I, "str_ascii_iterator"), (I + 1, "tuple_iterator")] [(l, tupO ys n)] xs m₀ news) :
    wpAny (model prog w) A (call (.type "zip") [.str x t, .ref l]) (fun xv s₁ => wpAny (model prog w) A (pyIter xv) (fun it s₂ => TurnsAt prog w A h₀ env (.Tuple elts k pos) body Q E it s₂) E s₁) E s := by
  subst hxs
  have hax := N _ hm
  have hl : s.heap.IsTuple l ys.toArray := ⟨_, hax.1, rfl, n, rfl⟩
  have hlt : l < s.heap.objs.size := Heap.lt_size hax.1
  have hLs : env.locals < s.heap.objs.size := F.ns.lt
  have hty : strIterType x = "str_ascii_iterator" := by unfold strIterType; rw [if_pos hc]
  have Z : ZApart (s.heap.objs.size + 4) (s.heap.objs.size + 2) (s.heap.objs.size + 3) s.heap.objs.size (s.heap.objs.size + 1) [s.heap.objs.size] [s.heap.objs.size + 1, l] := zap _ _ hlt
  refine call_zipS hl fun h' hz hTI hTO hi1 hi2 hk => ?_
  rw [hty] at hi1
  refine wpAny_pyIter_zip hz ?_
  refine ktu_core (tk0 := s.toks) (keep := [(l, tupO ys n)]) (KTurns.ofWalksU (walksZip (n := x.cps.size) (Draws.strAscii (A := A.in1) hh s.heap.objs.size x t) (drawsTup (A := A.in1) hh (s.heap.objs.size + 1) l (ktu_ne 1 hlt) ys.toArray) (Nat.le_of_eq (by rw [← Array.length_toList, hlen, List.size_toArray])) Z).toU) ?_ ?_ ?_ ?_ ?_ ?_ ?_ ?_ ?_ (F.keeps hk) (N.grown hk) (And.intro hm trivial) (rest₀ _ fun p hp => Heap.lt_size (N p hp).1)
  · rw [zipS_len _ _ hlen, Array.length_toList]
  · rintro i v h ⟨T, vals, rfl, ⟨x', y', ⟨c, u, hx', rfl⟩, hy, rfl⟩, hT⟩
    exact ⟨_, zipS_get x.cps.toList ys i (c := c) (y := y') (by simpa using hx') (by simpa using hy), T, u, rfl, hT⟩
  · rintro i h ⟨hz, hTI, ⟨a, b, hTO⟩, ⟨o1, ho1, hc1, _⟩, ⟨o2, ho2, hc2, _⟩, _⟩
    have e1 : ∃ o : Obj, h.get? (s.heap.objs.size + 4) = some o ∧ o.cls = .type "zip" := ⟨_, hz, rfl⟩
    have e2 : ∃ o : Obj, h.get? (s.heap.objs.size + 2) = some o ∧ o.cls = .type "tuple" := ⟨_, hTI, rfl⟩
    have e3 : ∃ o : Obj, h.get? (s.heap.objs.size + 3) = some o ∧ o.cls = .type "tuple" := ⟨_, hTO, rfl⟩
    obtain ⟨q1, g1, k1⟩ := e1
    obtain ⟨q2, g2, k2⟩ := e2
    obtain ⟨q3, g3, k3⟩ := e3
    refine ⟨[(s.heap.objs.size + 4, q1), (s.heap.objs.size + 2, q2), (s.heap.objs.size + 3, q3), (s.heap.objs.size, o1), (s.heap.objs.size + 1, o2)], ⟨⟨rfl, k1⟩, ⟨rfl, k2⟩, ⟨rfl, k3⟩, ⟨rfl, hc1⟩, ⟨rfl, hc2⟩, trivial⟩, fun p hp => ?_⟩
    rcases List.mem_cons.mp hp with rfl | hp
    · exact g1
    rcases List.mem_cons.mp hp with rfl | hp
    · exact g2
    rcases List.mem_cons.mp hp with rfl | hp
    · exact g3
    rcases List.mem_cons.mp hp with rfl | hp
    · exact ho1
    rw [List.mem_singleton.mp hp]
    exact ho2
  · intro b hb
    have hb' : b = s.heap.objs.size + 4 ∨ b = s.heap.objs.size + 2 ∨ b = s.heap.objs.size + 3 ∨ b = s.heap.objs.size ∨ b = s.heap.objs.size + 1 := by simpa using hb
    rcases hb' with rfl | rfl | rfl | rfl | rfl
    · exact ⟨by simp, ktu_new F (Nat.le_add_right _ _)⟩
    · exact ⟨by simp, ktu_new F (Nat.le_add_right _ _)⟩
    · exact ⟨by simp, ktu_new F (Nat.le_add_right _ _)⟩
    · exact ⟨by simp, ktu_new F (Nat.le_refl _)⟩
    · exact ⟨by simp, ktu_new F (Nat.le_add_right _ _)⟩
  · intro b hb
    have hb' : b = s.heap.objs.size + 4 ∨ b = s.heap.objs.size + 3 ∨ b = s.heap.objs.size ∨ b = s.heap.objs.size + 1 := by simpa using hb
    rcases hb' with rfl | rfl | rfl | rfl <;> simp
  · intro b hb
    have hb' : b = s.heap.objs.size + 4 ∨ b = s.heap.objs.size + 2 ∨ b = s.heap.objs.size + 3 ∨ b = s.heap.objs.size ∨ b = s.heap.objs.size + 1 ∨ b = l := by simpa using hb
    rcases hb' with rfl | rfl | rfl | rfl | rfl | rfl
    · exact .inl (by simp)
    · exact .inl (by simp)
    · exact .inl (by simp)
    · exact .inl (by simp)
    · exact .inl (by simp)
    · exact .inr ⟨_, List.mem_singleton.mpr rfl⟩
  · intro hI'
    have hb' : env.locals = s.heap.objs.size + 4 ∨ env.locals = s.heap.objs.size + 2 ∨ env.locals = s.heap.objs.size + 3 ∨ env.locals = s.heap.objs.size ∨ env.locals = s.heap.objs.size + 1 ∨ env.locals = l := by simpa using hI'
    rcases hb' with e | e | e | e | e | e
    · exact ktu_ne 4 hLs e
    · exact ktu_ne 2 hLs e
    · exact ktu_ne 3 hLs e
    · exact Nat.ne_of_lt hLs e
    · exact ktu_ne 1 hLs e
    · exact hax.2.1 e.symm
  · intro p hp hI'
    have hb' : p.1 = s.heap.objs.size + 4 ∨ p.1 = s.heap.objs.size + 3 ∨ p.1 = s.heap.objs.size ∨ p.1 = s.heap.objs.size + 1 := by simpa using hI'
    have hlp := Heap.lt_size (N p hp).1
    rcases hb' with e | e | e | e
    · exact ktu_ne 4 hlp e
    · exact ktu_ne 3 hlp e
    · exact Nat.ne_of_lt hlp e
    · exact ktu_ne 1 hlp e
  · exact ⟨hz, hTI, ⟨_, _, hTO⟩, hi1, hi2, let ⟨o, ho, r⟩ := hl; ⟨o, hk l o ho, r⟩⟩
end
end
section
open PyProof.V
theorem lkp_order : PySem.Spec.lookup (sS "order") SH6b = some (sS "l") := by kernel_rfl
theorem lkp_label : PySem.Spec.lookup (sS "label") SH6b = some (sS "l") := by kernel_rfl
theorem lkp_mov_imm : PySem.Spec.lookup (sS "mov_imm") SH6b = some (sS "zri") := by kernel_rfl
theorem lkp_add : PySem.Spec.lookup (sS "add") SH6b = some (sS "zrr") := by kernel_rfl
theorem lkp_cmp_imm : PySem.Spec.lookup (sS "cmp_imm") SH6b = some (sS "zri") := by kernel_rfl
theorem lkp_jcc : PySem.Spec.lookup (sS "jcc") SH6b = some (sS "ckl") := by kernel_rfl
theorem lkp_jmp : PySem.Spec.lookup (sS "jmp") SH6b = some (sS "kl") := by kernel_rfl
theorem lkp_ret : PySem.Spec.lookup (sS "ret") SH6b = some (sS "") := by kernel_rfl
theorem zipS_l {a0 : Value} : zipS (Str.ofString "l").cps.toList [a0] = [.pair (fun t => .str (Str.ofString "l") t) a0] := rfl
theorem zipS_zri {a0 a1 a2 : Value} : zipS (Str.ofString "zri").cps.toList [a0, a1, a2] = [.pair (fun t => .str (Str.ofString "z") t) a0, .pair (fun t => .str (Str.ofString "r") t) a1, .pair (fun t => .str (Str.ofString "i") t) a2] := rfl
theorem zipS_zrr {a0 a1 a2 : Value} : zipS (Str.ofString "zrr").cps.toList [a0, a1, a2] = [.pair (fun t => .str (Str.ofString "z") t) a0, .pair (fun t => .str (Str.ofString "r") t) a1, .pair (fun t => .str (Str.ofString "r") t) a2] := rfl
theorem zipS_ckl {a0 a1 a2 : Value} : zipS (Str.ofString "ckl").cps.toList [a0, a1, a2] = [.pair (fun t => .str (Str.ofString "c") t) a0, .pair (fun t => .str (Str.ofString "k") t) a1, .pair (fun t => .str (Str.ofString "l") t) a2] := rfl
theorem zipS_kl {a0 a1 : Value} : zipS (Str.ofString "kl").cps.toList [a0, a1] = [.pair (fun t => .str (Str.ofString "k") t) a0, .pair (fun t => .str (Str.ofString "l") t) a1] := rfl
theorem zipS_nil : zipS (Str.ofString "").cps.toList [] = [] := rfl
theorem ueW5 {h₀ h' : Heap} {L I : Addr} {m' : Str → Option Value} {tk : Nat} {s₁ : Shared} {o1 o2 o3 o4 o5 : Obj} {news all keep : List (Addr × Obj)} {R : (Str → Option Value) → List (Addr × Obj) → Prop} (hI : ∀ p ∈ news, p.1 < I) (F : Fr h₀ L h' m') (N : News h₀ L h' all)
    (hs : ∀ p ∈ (I + 4, o1) :: (I + 2, o2) :: (I + 3, o3) :: (I, o4) :: (I + 1, o5) :: news, p ∈ all) (hk : SubL keep news) (r : R m' news) :
    UnrEndW h₀ L s₁ [(I + 4, o1), (I + 2, o2), (I + 3, o3), (I, o4), (I + 1, o5)] (fun m' n' => SubL keep n' ∧ R m' n') { s₁ with heap := h', toks := tk } :=
  ⟨h', tk, m', news, rfl, F, fun p hp => N p (hs p hp), fun p hp q hq => by
    have h1 : (p.1 : Nat) < I := hI p hp
    have h2 : (I : Nat) ≤ q.1 := by
      simp only [List.mem_cons, List.not_mem_nil, or_false] at hq
      rcases hq with rfl | rfl | rfl | rfl | rfl
      · exact Nat.le_add_right I 4
      · exact Nat.le_add_right I 2
      · exact Nat.le_add_right I 3
      · exact Nat.le_refl I
      · exact Nat.le_add_right I 1
    exact Nat.ne_of_lt (Nat.lt_of_lt_of_le h1 h2), hk, r⟩
section
theorem kw12 : True := by
 w_top off
 k_with "fold9" => ((try (refine letf (by assumption) ?_; intro m9ᵩ F9ᵩ)); (try (refine letn (by assumption) ?_; intro w9ᵩ N9ᵩ)))
 k_with "binaryOp LShift int int" => (k_here; (with_reducible refine lshift_int_small (by decide) (by decide) (by decide) ?_))
 trivial
namespace EK.E_partfits_c
theorem core : @P w mean mg mb dp un gd cn cs a ccd cl outer A₀ base h₀ L m s Q E := by
  intro news v x p t B F X T hk N pf hd hu hret
  cases pf with
  | k o t => cases o <;> dsimp only [kdS] <;> k_steps <;> exact hret _ _ (by assumption) (by (first | assumption | exact news_tl (by assumption) | exact news_tl (news_tl (by assumption)) | exact news_tl (news_tl (news_tl (by assumption))) | exact news_tl (news_tl (news_tl (news_tl (by assumption)))) | exact news_tl (news_tl (news_tl (news_tl (news_tl (by assumption))))) | exact news_tl (news_tl (news_tl (news_tl (news_tl (news_tl (by assumption)))))) | exact news_tl (news_tl (news_tl (news_tl (news_tl (news_tl (news_tl (by assumption)))))))))
  | c c t =>
    obtain ⟨c, hc⟩ := c
    match c, hc with
    | 0, _ => dsimp only [ccS]; k_steps; exact hret _ _ (by assumption) (by (first | assumption | exact news_tl (by assumption) | exact news_tl (news_tl (by assumption)) | exact news_tl (news_tl (news_tl (by assumption))) | exact news_tl (news_tl (news_tl (news_tl (by assumption)))) | exact news_tl (news_tl (news_tl (news_tl (news_tl (by assumption))))) | exact news_tl (news_tl (news_tl (news_tl (news_tl (news_tl (by assumption)))))) | exact news_tl (news_tl (news_tl (news_tl (news_tl (news_tl (news_tl (by assumption)))))))))
    | 1, _ => dsimp only [ccS]; k_steps; exact hret _ _ (by assumption) (by (first | assumption | exact news_tl (by assumption) | exact news_tl (news_tl (by assumption)) | exact news_tl (news_tl (news_tl (by assumption))) | exact news_tl (news_tl (news_tl (news_tl (by assumption)))) | exact news_tl (news_tl (news_tl (news_tl (news_tl (by assumption))))) | exact news_tl (news_tl (news_tl (news_tl (news_tl (news_tl (by assumption)))))) | exact news_tl (news_tl (news_tl (news_tl (news_tl (news_tl (news_tl (by assumption)))))))))
    | 2, _ => dsimp only [ccS]; k_steps; exact hret _ _ (by assumption) (by (first | assumption | exact news_tl (by assumption) | exact news_tl (news_tl (by assumption)) | exact news_tl (news_tl (news_tl (by assumption))) | exact news_tl (news_tl (news_tl (news_tl (by assumption)))) | exact news_tl (news_tl (news_tl (news_tl (news_tl (by assumption))))) | exact news_tl (news_tl (news_tl (news_tl (news_tl (news_tl (by assumption)))))) | exact news_tl (news_tl (news_tl (news_tl (news_tl (news_tl (news_tl (by assumption)))))))))
  | z t => k_steps; exact hret _ _ (by assumption) (by (first | assumption | exact news_tl (by assumption) | exact news_tl (news_tl (by assumption)) | exact news_tl (news_tl (news_tl (by assumption))) | exact news_tl (news_tl (news_tl (news_tl (by assumption)))) | exact news_tl (news_tl (news_tl (news_tl (news_tl (by assumption))))) | exact news_tl (news_tl (news_tl (news_tl (news_tl (news_tl (by assumption)))))) | exact news_tl (news_tl (news_tl (news_tl (news_tl (news_tl (news_tl (by assumption)))))))))
  | r n t h1 h2 => k_steps; exact fin_b hret (decide_eq_true (by omega)).symm (by assumption) (by (first | assumption | exact news_tl (by assumption) | exact news_tl (news_tl (by assumption)) | exact news_tl (news_tl (news_tl (by assumption))) | exact news_tl (news_tl (news_tl (news_tl (by assumption)))) | exact news_tl (news_tl (news_tl (news_tl (news_tl (by assumption))))) | exact news_tl (news_tl (news_tl (news_tl (news_tl (news_tl (by assumption)))))) | exact news_tl (news_tl (news_tl (news_tl (news_tl (news_tl (news_tl (by assumption)))))))))
  | i n t h1 h2 => k_steps <;> first | exact fin_b hret (decide_eq_true (Int.lt_trans h2 (by decide))).symm (by assumption) (by (first | assumption | exact news_tl (by assumption) | exact news_tl (news_tl (by assumption)) | exact news_tl (news_tl (news_tl (by assumption))) | exact news_tl (news_tl (news_tl (news_tl (by assumption)))) | exact news_tl (news_tl (news_tl (news_tl (news_tl (by assumption))))) | exact news_tl (news_tl (news_tl (news_tl (news_tl (news_tl (by assumption)))))) | exact news_tl (news_tl (news_tl (news_tl (news_tl (news_tl (news_tl (by assumption))))))))) | exact fin_b hret (decide_eq_true (Int.le_trans (by decide) h1)).symm (by assumption) (by (first | assumption | exact news_tl (by assumption) | exact news_tl (news_tl (by assumption)) | exact news_tl (news_tl (news_tl (by assumption))) | exact news_tl (news_tl (news_tl (news_tl (by assumption)))) | exact news_tl (news_tl (news_tl (news_tl (news_tl (by assumption))))) | exact news_tl (news_tl (news_tl (news_tl (news_tl (news_tl (by assumption)))))) | exact news_tl (news_tl (news_tl (news_tl (news_tl (news_tl (news_tl (by assumption)))))))))
  | l n t h1 h2 => k_steps; exact fin_b hret (decide_eq_true (by omega)).symm (by assumption) (by (first | assumption | exact news_tl (by assumption) | exact news_tl (news_tl (by assumption)) | exact news_tl (news_tl (news_tl (by assumption))) | exact news_tl (news_tl (news_tl (news_tl (by assumption)))) | exact news_tl (news_tl (news_tl (news_tl (news_tl (by assumption))))) | exact news_tl (news_tl (news_tl (news_tl (news_tl (news_tl (by assumption)))))) | exact news_tl (news_tl (news_tl (news_tl (news_tl (news_tl (news_tl (by assumption)))))))))
end EK.E_partfits_c
theorem EK.E_partfits_c.all : ∀ c, EK.E_partfits_c.Pc c := by
  have h : EK.E_partfits_c.Pc kc := by with_unfolding_all exact EK.E_partfits_c.core
  rw [EK.eqk7] at h
  exact first_all (r := EK.lst8) h
theorem EK.eqk8 : kc = first EK.lst8 := EK.eqk7.trans (first_skip EK.E_partfits_c.all)
theorem partfits_c {w : World} {mean : ExcName → Option Value} {mg mb : Str → Option Value} {dp un : Nat} {gd : Option (List Code)} {cn : Str} {cs : Scope} {a : Addr} {ccd : Value} {cl : List (Str × Addr)} {outer : List Env} {A₀ : Around} {base h₀ : Heap} {L : Addr} {m : Str → Option Value} {s : Shared} {Q E : Value → Shared → Prop} (news : List (Addr × Obj)) (v : Value) (x : String) (p : Addr) (t : Tok)
    (B : Below A₀ base outer h₀) (F : Fr h₀ L s.heap m) (X : (hd.heap_1 w.params).In h₀) (T : Top viewP LZ mean mg mb h₀) (hk : cs.kind = .function)
    (N : News h₀ L s.heap news) (pf : PF x v)
    (hd : dp + 5 < recursionLimit) (hu : un + 60 < cLine)
    (hret : ∀ (h' : Heap) (tks : Nat), Fr h₀ L h' m → News h₀ L h' news → Q (.bool true) { s with heap := h', toks := tks }) : wpAny (model PySem.Challenge.rw_pf0284_01.row.prog w) (ktrTop dp un gd cn cs L a ccd cl outer) (call (.ref 138) [.str (Str.ofString x) t, v, .ref p]) Q E s := by
  with_unfolding_all exact EK.E_partfits_c.all ⟨w, mean, mg, mb, dp, un, gd, cn, cs, a, ccd, cl, outer, A₀, base, h₀, L, m, s, Q, E⟩ news v x p t B F X T hk N pf hd hu hret
end
end
section
open PyProof.V
section
theorem kw13 : True := by
 w_top off
 k_with_none
 k_with "ml" => first | assumption | (refine memsub (by assumption) ?_; first | assumption | exact List.Mem.head _ | (refine List.Mem.tail _ ?_; first | exact List.Mem.head _ | (refine List.Mem.tail _ ?_; first | exact List.Mem.head _ | (refine List.Mem.tail _ ?_; first | exact List.Mem.head _ | (refine List.Mem.tail _ ?_; first | assumption) | assumption) | assumption) | assumption) | assumption)
 k_with "k_mem" => first | exact List.Mem.head _ | (refine List.Mem.tail _ ?_; k_extra "k_mem") | k_extra "ml"
 k_with "ks" => repeat' (first | (k_unfold; (try dsimp only)) | (k_end; kc_close) | (walk1; (try (first | (with_reducible show wpAny _ _ (exec _ _) _ _ _; (try dsimp only); (refine letq ?_; intro qk9ᵩ); (try with_reducible refine wpst ?_; intro tk9ᵩ); (try walk_at "fold9")) | (with_reducible show wpAny _ _ (execs _ _) _ _ _; k_fold)))) | (dsimp only; walk1) | (leave1; walk_say "STEP leave1"; try dsimp only) | (k_unmd; k_unfold; (try dsimp only)) | fail "no step")
 k_with "in9" => first | with_reducible assumption | (refine' Frag.In.keeps ?y9X (Fr.keep ?y9F); (case y9F => k_asm); (case y9X => k_asm))
 k_with "eval Constant str" => with_reducible refine kstr ?_
 k_with "eval Constant int" => with_reducible refine kint ?_
 k_with "oc" => first | (apply c1; assumption) | (apply c2; assumption) | (apply l2; assumption) | (apply c3; assumption) | (apply c4; assumption) | (apply c5; assumption) | (apply c6; assumption) | (apply c7; assumption) | (apply c8; assumption) | (apply c9; assumption) | (apply c10; assumption) | (apply c11; assumption) | (apply c12; assumption) | (apply c13; assumption) | (apply c14; assumption) | (apply c15; assumption) | (apply c16; assumption)
 k_with "od" => first | (apply c1; assumption) | (apply c2; assumption) | (apply l2; assumption) | (apply c3; assumption) | (apply c4; assumption) | (apply c5; assumption) | (apply c6; assumption) | (apply c7; assumption)
 k_with "on" => first | (apply zsy; assumption) | (apply zgt; first | assumption | k_extra "oc") | (apply zlt; first | assumption | k_extra "oc") | (apply gtt; assumption; first | assumption | k_extra "od") | (apply ltt; assumption; first | assumption | k_extra "od")
 k_with "oi" => first | exact nn0 | exact nn0' | exact z63 (by assumption) (by assumption) | exact z63b (by assumption) (by assumption) | exact n63 (by assumption) (by assumption) | exact n63b (by assumption) (by assumption) | exact z63c (by assumption) (by assumption) | exact z63d (by assumption) (by assumption) | exact nlt (by assumption) | exact n62 (by assumption) | exact n62b (by assumption) | exact tnl (by assumption) (by assumption) | exact sub1 (by assumption) | exact sub2 (by assumption) (by assumption) | decide | exact Int.lt_of_lt_of_le (by assumption) (by decide) | exact Nat.le_trans (by assumption) (by decide) | exact ul (by assumption) (by decide) | exact up0 (by assumption) (by assumption) | k_extra "oc"
 k_with "om" => first | (k_whole; with_reducible (first | assumption | (show @Ne Nat _ _; k_extra "on") | (show @Eq Nat _ _; first | exact tn1 (by assumption) | exact z0i) | ((first | show @LT.lt Int _ _ _ | show @LE.le Int _ _ _ | show @LT.lt Nat _ _ _ | show @LE.le Nat _ _ _); k_extra "oi")))
 k_with "execs cons If" => (k_here; (with_reducible show wpAny _ _ (execs (PySem.Stmt.If (PySem.Expr.Compare (PySem.Expr.Name _ _) [.Eq] [PySem.Expr.Constant (.str _) _ _] _) _ _ _ :: _) _) _ _ _); first | ((with_reducible show wpAny _ _ (execs (PySem.Stmt.If _ _ [] _ :: _) _) _ _ _); k_dflt (refine' cif_f ?F ?v ?x ?c ?k ?d ?_; (case F => k_asm); (case x => kernel_rfl!); (case k => kernel_rfl!); (case d => kernel_rfl!); (case v => rfl); (case c => first | with_reducible assumption | kernel_rfl!); k_whole)) | ((with_reducible show wpAny _ _ (execs [PySem.Stmt.If _ _ (_ :: _) _] _) _ _ _); k_dflt (refine' cif_g ?F ?v ?x ?c ?k ?d ?_; (case F => k_asm); (case x => kernel_rfl!); (case k => kernel_rfl!); (case d => kernel_rfl!); (case v => rfl); (case c => first | with_reducible assumption | kernel_rfl!); k_whole)) | ((with_reducible show wpAny _ _ (execs [PySem.Stmt.If _ _ _ _] _) _ _ _); k_dflt (refine' cif_t ?F ?v ?x ?c ?k ?d ?_; (case F => k_asm); (case x => kernel_rfl!); (case k => kernel_rfl!); (case d => kernel_rfl!); (case v => rfl); (case c => first | with_reducible assumption | kernel_rfl!); k_whole)) | k_dflt (refine' cif_r ?F ?v ?x ?c ?k ?d ?_; (case F => k_asm); (case x => kernel_rfl!); (case k => kernel_rfl!); (case d => kernel_rfl!); (case v => rfl); (case c => first | with_reducible assumption | kernel_rfl!); k_whole))
 k_with "callWith" => ((with_reducible show wpAny _ _ (callWith _ (Value.builtin _) (_ :: _) (backTo _ (starEach (_ :: _) _)) []) _ _ _); refine callWith_method1 ?_)
 k_with "callWith ref" => (k_here; k_dflt (first | (refine' callWith_K ?y9k ?y9l ?_; (case y9k => k_asm); (case y9l => k_is); k_whole) | (refine' callWith_K0 ?y9k ?y9l ?_; (case y9k => k_in); (case y9l => k_is); k_whole)))
 k_with "eval Name" => (k_here; (fail_if_success (with_reducible show wpAny _ _ (eval (PySem.Expr.Name _ _) (compEnvC _ _ _ _)) _ _ _)); k_dflt (first | (refine' nameX_L ?y9F ?y9v ?_ ?y9a ?y9b ?y9d; (case y9F => k_asm); (case y9a => kernel_rfl!); (case y9b => kernel_rfl!); (case y9d => kernel_rfl!); (case y9v => rfl); k_whole) | (refine' nameX_K ?y9F ?y9X ?y9T ?y9e ?_ ?y9a ?y9b; (case y9F => k_asm); (case y9X => k_asm); (case y9T => k_asm); (case y9a => kernel_rfl!); (case y9b => kernel_rfl!); (case y9e => k_is); k_whole) | (refine' nameX_C ?y9N ?y9c ?y9m ?y9d ?_ ?y9a ?y9b; (case y9a => kernel_rfl!); (case y9b => kernel_rfl!); (case y9N => k_asm); (case y9c => rfl); (case y9m => k_mem); (case y9d => k_asm); k_whole) | (refine' nameX_B ?y9F ?y9X ?y9T ?y9e ?y9v ?y9n ?_ ?y9a ?y9b; (case y9F => k_asm); (case y9X => k_asm); (case y9T => k_asm); (case y9a => kernel_rfl!); (case y9b => kernel_rfl!); (case y9e => k_is); (case y9v => boot_fast); (case y9n => decide); k_whole)))
 k_with "execs cons Return" => with_reducible refine cret ?_
 k_with "newTuple" => (k_here; k_dflt (refine' kup_newTuple (by k_asm) (by k_asm) ?_ (by kmk_size)); intro D'ᵩ h'ᵩ F'ᵩ N'ᵩ l1ᵩ; have l2ᵩ := l1ᵩ; (try k_lt l1ᵩ))
 k_with "k9" => (first | exact rfl | assumption)
 k_with "d9" => (first | exact rmc0 (by assumption) (by decide) | exact rmc 1 (by assumption) (by decide) | exact rmc 2 (by assumption) (by decide) | exact rmc 3 (by assumption) (by decide))
 k_with "u9" => (first | exact rmu0 (by assumption) (by decide) | exact rmu 3 (by assumption) (by decide) | exact rmu 6 (by assumption) (by decide) | exact rmu 9 (by assumption) (by decide) | exact rmu 1 (by assumption) (by decide) | exact rmu 4 (by assumption) (by decide) | exact rmu 7 (by assumption) (by decide))
 k_with "r9" => (first | exact rm0 (by assumption) | exact rm 1 (by assumption) (by decide) | exact rm 2 (by assumption) (by decide) | exact rm 3 (by assumption) (by decide) | exact rm 4 (by assumption) (by decide))
 k_with "b9" => (first | exact BindsTo.of_eq rfl | exact binds_K (by k_in) rfl (by k_is) rfl rfl rfl)
 k_with "c9" => (k_dflt (refine' code_def ?k1 ?k2 ?k3 ?k4 ?k5 ?kA ?kF ?kK ?k6 ?k7 ?k8 ?k9 ?kB ?_ ?c2 ?c3 ?c4 ?c5; (case kA => exact rfl); (case kF => exact rfl); (case kK => k_extra "k9"); (case k1 => k_asm); (case k2 => k_asm); (case k3 => k_asm); (case k4 => k_asm); (case k5 => k_asm); (case k6 => k_is); (case k7 => k_is); (case k8 => k_extra "r9"); (case k9 => k_extra "b9"); (case c5 => decide); (case kB => exact locs rfl); (case c2 => exact rfl); (case c3 => exact rfl); (case c4 => exact rfl); k_whole); intro g'ᵩ L'ᵩ h'ᵩ FG'ᵩ F'ᵩ N'ᵩ B'ᵩ X'ᵩ T'ᵩ; (try dsimp only))
 k_with "i9" => (k_dflt (refine' item_led (by k_asm) (by k_mem) (by omega) (by with_reducible assumption) (by omega) ?_ (by with_unfolding_all rfl); k_whole))
 k_with "j9" => (first | k_dflt (refine' item_tupleT (News.isTup (by k_asm) (by k_mem)) (by decide) (by decide) (by rfl) (by rfl) ?_ (by with_unfolding_all rfl); k_whole) | k_extra "i9")
 k_with "mo" => exact ⟨_, _, _, _, _, _, _, _, ⟨_, _, _, _, _, _, _, _, _, _, _, _, _, _, _, _, _, _, _, _, _, rfl⟩⟩
 k_with "nt" => (first | assumption | exact news_tl (by assumption) | exact news_tl (news_tl (by assumption)) | exact news_tl (news_tl (news_tl (by assumption))) | exact news_tl (news_tl (news_tl (news_tl (by assumption)))) | exact news_tl (news_tl (news_tl (news_tl (news_tl (by assumption))))) | exact news_tl (news_tl (news_tl (news_tl (news_tl (news_tl (by assumption)))))) | exact news_tl (news_tl (news_tl (news_tl (news_tl (news_tl (news_tl (by assumption))))))))
 k_with "subscriptTail Attribute Subscript Constant ref int" => (k_here; k_extra "j9")
 k_with "subscriptTail Name Constant ref int" => (k_here; k_extra "j9")
 k_with "subscriptTail Attribute Name Constant ref int" => (k_here; k_extra "j9")
 k_with "subscriptTail Name Name ref int" => (k_here; k_extra "i9")
 k_with "ite" => first | with_reducible refine ite_tt ?_ | with_reducible refine ite_ff ?_ | (k_closed; k_dflt (first | (with_reducible refine' ite_bp ?y9z ?_; (case y9z => kernel_rfl!)) | (with_reducible refine' ite_bn ?y9z ?_; (case y9z => kernel_rfl!)) | refine ite_pos (by decide) ?_ | refine ite_neg (by decide) ?_)) | (with_reducible refine ite_af (by decide +kernel) ?_) | (with_reducible refine ite_at (by decide +kernel) ?_) | (with_reducible refine ite_dp (by omega) ?_) | (with_reducible refine ite_dn (by omega) ?_) | (with_reducible refine ite_bp (by assumption) ?_) | (with_reducible refine ite_bn (by assumption) ?_)
 k_with "call builtin:len" => (k_here; (with_reducible show wpAny _ _ (call (Value.builtin "len") [Value.ref _]) _ _ _); k_dflt (refine' len_led (by k_asm) (by k_mem) (by with_reducible assumption) (by omega) ?_; k_whole))
 k_with "call ref" => (k_here; (with_reducible show wpAny _ _ (call (Value.ref _) _) _ _ _); refine wpAny_call ?_; k_extra "c9")
 k_with "fold9" => (try (refine letf (by assumption) ?_; intro m9ᵩ F9ᵩ))
 k_with "getMethod ref" => (k_here; k_dflt (refine' kdg_method ?N ?p ?d ?_; (case N => k_asm); (case p => k_mem); (case d => with_reducible assumption); k_whole))
 k_with "call builtin:dict.get" => (k_here; k_dflt (refine' ds_get ?N ?p ?lo ?S ?l ?_; (case N => k_asm); (case p => k_mem); (case lo => assumption); (case S => with_reducible assumption); (case l => with_reducible first | exact lkp_order | exact lkp_label | exact lkp_mov_imm | exact lkp_add | exact lkp_cmp_imm | exact lkp_jcc | exact lkp_jmp | exact lkp_ret)); intro _ _)
 k_with "exec For Tuple Call cons nil" => (k_here; (rename Fr _ _ _ _ => lF'ᵩ); (with_unfolding_all refine' For_turns lF'ᵩ ?_; k_whole))
 k_with "call type:zip" => (k_here; k_dflt (refine' ktu_zipS ?hh ?F ?N ?hm ?hc ?hl ?hx ?_; (case hh => exact rfl); (case F => k_asm); (case N => k_asm); (case hm => k_mem); (case hc => decide +kernel); (case hl => exact rfl); (case hx => first | exact zipS_l | exact zipS_zri | exact zipS_zrr | exact zipS_ckl | exact zipS_kl | exact zipS_nil)); intro I'ᵩ l1ᵩ; (try k_lt l1ᵩ))
 k_with "UnrEndW" => (k_here; k_dflt (refine' ueW5 ?hI ?F ?N ?hs ?hk ?_; (case hI => assumption); (case F => k_asm); (case N => k_asm); (case hs => exact (fun p hp => by first | exact hp | exact List.mem_cons_of_mem _ hp | exact List.mem_cons_of_mem _ (List.mem_cons_of_mem _ hp) | exact List.mem_cons_of_mem _ (List.mem_cons_of_mem _ (List.mem_cons_of_mem _ hp)) | exact List.mem_cons_of_mem _ (List.mem_cons_of_mem _ (List.mem_cons_of_mem _ (List.mem_cons_of_mem _ hp))))); (case hk => exact And.intro (by k_mem) trivial)))
 k_with "call ref" => (k_here; (with_reducible show wpAny _ _ (call (Value.ref 138) _) _ _ _); k_dflt (refine' partfits_c  _ _ _ _ _ ?B ?F ?X ?T ?k ?N ?pf ?d ?u ?_; (case B => k_asm); (case F => k_asm); (case X => k_asm); (case T => k_asm); (case k => first | exact rfl | assumption); (case N => k_asm); (case pf => first | exact PF.z _ | exact PF.k _ _ | exact PF.c _ _ | exact PF.r _ _ (by omega) (by omega) | exact PF.i _ _ (by omega) (by omega) | exact PF.l _ _ (by omega) (by omega)); (case d => first | exact rmc0 (by assumption) (by decide) | exact rmc 1 (by assumption) (by decide) | exact rmc 2 (by assumption) (by decide) | exact rmc 3 (by assumption) (by decide)); (case u => first | exact rmu0 (by assumption) (by decide) | exact rmu 3 (by assumption) (by decide) | exact rmu 6 (by assumption) (by decide) | exact rmu 9 (by assumption) (by decide) | exact rmu 1 (by assumption) (by decide) | exact rmu 4 (by assumption) (by decide) | exact rmu 7 (by assumption) (by decide))); intro h'ᵩ tks'ᵩ F'ᵩ N'ᵩ)
 trivial
namespace EK.E_checkrow_c
theorem core : @P w mean mg mb dp un gd cn cs a ccd cl outer A₀ base h₀ L m s Q E := by
  intro news v r d o B F X T hk N hR ok hd' lo S hd hu hret
  obtain ⟨kvs, hD, _⟩ := id S
  obtain ⟨x, dx, p, e1, e2, t1, t2, t3, nn, ps, k, rfl, hx, hdx, hp, hps⟩ := hR
  cases r
  case mark o' n =>
    obtain ⟨g0, g1⟩ : 0 ≤ n ∧ n < 64 := ok
    dsimp only [nameOf, partsOf] at hdx hps
    obtain ⟨t4, rfl⟩ := da_i hps
    cases o' <;> dsimp only [kdS] at * <;> k_steps <;> exact hret _ _ (by assumption) (by (first | assumption | exact news_tl (by assumption) | exact news_tl (news_tl (by assumption)) | exact news_tl (news_tl (news_tl (by assumption))) | exact news_tl (news_tl (news_tl (news_tl (by assumption)))) | exact news_tl (news_tl (news_tl (news_tl (news_tl (by assumption))))) | exact news_tl (news_tl (news_tl (news_tl (news_tl (news_tl (by assumption)))))) | exact news_tl (news_tl (news_tl (news_tl (news_tl (news_tl (news_tl (by assumption)))))))))
  case jmp o' g =>
    obtain ⟨g0, g1⟩ : 0 ≤ g ∧ g < 64 := ok
    dsimp only [nameOf, partsOf] at hdx hps
    obtain ⟨t4, t5, rfl⟩ := da_si hps
    k_steps
    exact hret _ _ (by assumption) (by (first | assumption | exact news_tl (by assumption) | exact news_tl (news_tl (by assumption)) | exact news_tl (news_tl (news_tl (by assumption))) | exact news_tl (news_tl (news_tl (news_tl (by assumption)))) | exact news_tl (news_tl (news_tl (news_tl (news_tl (by assumption))))) | exact news_tl (news_tl (news_tl (news_tl (news_tl (news_tl (by assumption)))))) | exact news_tl (news_tl (news_tl (news_tl (news_tl (news_tl (news_tl (by assumption)))))))))
  case jcc c o' g =>
    obtain ⟨g0, g1⟩ : 0 ≤ g ∧ g < 64 := ok
    dsimp only [nameOf, partsOf] at hdx hps
    obtain ⟨t4, t5, t6, rfl⟩ := da_ssi hps
    k_steps
    exact hret _ _ (by assumption) (by (first | assumption | exact news_tl (by assumption) | exact news_tl (news_tl (by assumption)) | exact news_tl (news_tl (news_tl (by assumption))) | exact news_tl (news_tl (news_tl (news_tl (by assumption)))) | exact news_tl (news_tl (news_tl (news_tl (news_tl (by assumption))))) | exact news_tl (news_tl (news_tl (news_tl (news_tl (news_tl (by assumption)))))) | exact news_tl (news_tl (news_tl (news_tl (news_tl (news_tl (news_tl (by assumption)))))))))
  case mov a b =>
    obtain ⟨⟨g0, g1⟩, g2, g3⟩ : (0 ≤ a ∧ a < 4) ∧ 0 ≤ b ∧ b < 64 := ok
    dsimp only [nameOf, partsOf] at hdx hps
    obtain ⟨t4, t5, t6, rfl⟩ := da_iii hps
    k_steps
    exact hret _ _ (by assumption) (by (first | assumption | exact news_tl (by assumption) | exact news_tl (news_tl (by assumption)) | exact news_tl (news_tl (news_tl (by assumption))) | exact news_tl (news_tl (news_tl (news_tl (by assumption)))) | exact news_tl (news_tl (news_tl (news_tl (news_tl (by assumption))))) | exact news_tl (news_tl (news_tl (news_tl (news_tl (news_tl (by assumption)))))) | exact news_tl (news_tl (news_tl (news_tl (news_tl (news_tl (news_tl (by assumption)))))))))
  case add a b =>
    obtain ⟨⟨g0, g1⟩, g2, g3⟩ : (0 ≤ a ∧ a < 4) ∧ 0 ≤ b ∧ b < 4 := ok
    dsimp only [nameOf, partsOf] at hdx hps
    obtain ⟨t4, t5, t6, rfl⟩ := da_iii hps
    k_steps
    exact hret _ _ (by assumption) (by (first | assumption | exact news_tl (by assumption) | exact news_tl (news_tl (by assumption)) | exact news_tl (news_tl (news_tl (by assumption))) | exact news_tl (news_tl (news_tl (news_tl (by assumption)))) | exact news_tl (news_tl (news_tl (news_tl (news_tl (by assumption))))) | exact news_tl (news_tl (news_tl (news_tl (news_tl (news_tl (by assumption)))))) | exact news_tl (news_tl (news_tl (news_tl (news_tl (news_tl (news_tl (by assumption)))))))))
  case cmp a b =>
    obtain ⟨⟨g0, g1⟩, g2, g3⟩ : (0 ≤ a ∧ a < 4) ∧ 0 ≤ b ∧ b < 64 := ok
    dsimp only [nameOf, partsOf] at hdx hps
    obtain ⟨t4, t5, t6, rfl⟩ := da_iii hps
    k_steps
    exact hret _ _ (by assumption) (by (first | assumption | exact news_tl (by assumption) | exact news_tl (news_tl (by assumption)) | exact news_tl (news_tl (news_tl (by assumption))) | exact news_tl (news_tl (news_tl (news_tl (by assumption)))) | exact news_tl (news_tl (news_tl (news_tl (news_tl (by assumption))))) | exact news_tl (news_tl (news_tl (news_tl (news_tl (news_tl (by assumption)))))) | exact news_tl (news_tl (news_tl (news_tl (news_tl (news_tl (news_tl (by assumption)))))))))
  case ret =>
    dsimp only [nameOf, partsOf] at hdx hps
    obtain rfl := da_nil hps
    k_steps
    exact hret _ _ (by assumption) (by (first | assumption | exact news_tl (by assumption) | exact news_tl (news_tl (by assumption)) | exact news_tl (news_tl (news_tl (by assumption))) | exact news_tl (news_tl (news_tl (news_tl (by assumption)))) | exact news_tl (news_tl (news_tl (news_tl (news_tl (by assumption))))) | exact news_tl (news_tl (news_tl (news_tl (news_tl (news_tl (by assumption)))))) | exact news_tl (news_tl (news_tl (news_tl (news_tl (news_tl (news_tl (by assumption)))))))))
end EK.E_checkrow_c
theorem EK.E_checkrow_c.all : ∀ c, EK.E_checkrow_c.Pc c := by
  have h : EK.E_checkrow_c.Pc kc := by with_unfolding_all exact EK.E_checkrow_c.core
  rw [EK.eqk8] at h
  exact first_all (r := EK.lst9) h
theorem EK.eqk9 : kc = first EK.lst9 := EK.eqk8.trans (first_skip EK.E_checkrow_c.all)
theorem checkrow_c {w : World} {mean : ExcName → Option Value} {mg mb : Str → Option Value} {dp un : Nat} {gd : Option (List Code)} {cn : Str} {cs : Scope} {a : Addr} {ccd : Value} {cl : List (Str × Addr)} {outer : List Env} {A₀ : Around} {base h₀ : Heap} {L : Addr} {m : Str → Option Value} {s : Shared} {Q E : Value → Shared → Prop} (news : List (Addr × Obj)) (v : Value) (r : TR) (d : Addr) (o : Obj)
    (B : Below A₀ base outer h₀) (F : Fr h₀ L s.heap m) (X : (hd.heap_1 w.params).In h₀) (T : Top viewP LZ mean mg mb h₀) (hk : cs.kind = .function)
    (N : News h₀ L s.heap news) (hR : RowIn news v r) (ok : okTR r) (hd' : (d, o) ∈ news) (lo : (d == sysModules) = false) (S : DS PySem.Challenge.rw_pf0284_01.row.prog w o SH6b)
    (hd : dp + 8 < recursionLimit) (hu : un + 100 < cLine)
    (hret : ∀ (h' : Heap) (tks : Nat), Fr h₀ L h' m → News h₀ L h' news → Q v { s with heap := h', toks := tks }) : wpAny (model PySem.Challenge.rw_pf0284_01.row.prog w) (ktrTop dp un gd cn cs L a ccd cl outer) (call (.ref 146) [v, .ref d]) Q E s := by
  with_unfolding_all exact EK.E_checkrow_c.all ⟨w, mean, mg, mb, dp, un, gd, cn, cs, a, ccd, cl, outer, A₀, base, h₀, L, m, s, Q, E⟩ news v r d o B F X T hk N hR ok hd' lo S hd hu hret
end
end
section
section
theorem kw14 : True := by
 w_top off
 k_with_none
 k_with "ml" => first | assumption | (refine memsub (by assumption) ?_; first | assumption | exact List.Mem.head _ | (refine List.Mem.tail _ ?_; first | exact List.Mem.head _ | (refine List.Mem.tail _ ?_; first | exact List.Mem.head _ | (refine List.Mem.tail _ ?_; first | exact List.Mem.head _ | (refine List.Mem.tail _ ?_; first | assumption) | assumption) | assumption) | assumption) | assumption)
 k_with "k_mem" => first | exact List.Mem.head _ | (refine List.Mem.tail _ ?_; k_extra "k_mem") | k_extra "ml"
 k_with "ks" => repeat' (first | (k_unfold; (try dsimp only)) | (k_end; kc_close) | (walk1; (try (first | (with_reducible show wpAny _ _ (exec _ _) _ _ _; (try dsimp only); (refine letq ?_; intro qk9ᵩ); (try with_reducible refine wpst ?_; intro tk9ᵩ); (try walk_at "fold9")) | (with_reducible show wpAny _ _ (execs _ _) _ _ _; k_fold)))) | (dsimp only; walk1) | (leave1; walk_say "STEP leave1"; try dsimp only) | (k_unmd; k_unfold; (try dsimp only)) | fail "no step")
 k_with "in9" => first | with_reducible assumption | (refine' Frag.In.keeps ?y9X (Fr.keep ?y9F); (case y9F => k_asm); (case y9X => k_asm))
 k_with "eval Constant str" => with_reducible refine kstr ?_
 k_with "eval Constant int" => with_reducible refine kint ?_
 k_with "oc" => first | (apply c1; assumption) | (apply c2; assumption) | (apply l2; assumption) | (apply c3; assumption) | (apply c4; assumption) | (apply c5; assumption) | (apply c6; assumption) | (apply c7; assumption) | (apply c8; assumption) | (apply c9; assumption) | (apply c10; assumption) | (apply c11; assumption) | (apply c12; assumption) | (apply c13; assumption) | (apply c14; assumption) | (apply c15; assumption) | (apply c16; assumption)
 k_with "od" => first | (apply c1; assumption) | (apply c2; assumption) | (apply l2; assumption) | (apply c3; assumption) | (apply c4; assumption) | (apply c5; assumption) | (apply c6; assumption) | (apply c7; assumption)
 k_with "on" => first | (apply zsy; assumption) | (apply zgt; first | assumption | k_extra "oc") | (apply zlt; first | assumption | k_extra "oc") | (apply gtt; assumption; first | assumption | k_extra "od") | (apply ltt; assumption; first | assumption | k_extra "od")
 k_with "oi" => first | exact nn0 | exact nn0' | exact z63 (by assumption) (by assumption) | exact z63b (by assumption) (by assumption) | exact n63 (by assumption) (by assumption) | exact n63b (by assumption) (by assumption) | exact z63c (by assumption) (by assumption) | exact z63d (by assumption) (by assumption) | exact nlt (by assumption) | exact n62 (by assumption) | exact n62b (by assumption) | exact tnl (by assumption) (by assumption) | exact sub1 (by assumption) | exact sub2 (by assumption) (by assumption) | decide | exact Int.lt_of_lt_of_le (by assumption) (by decide) | exact Nat.le_trans (by assumption) (by decide) | exact ul (by assumption) (by decide) | exact up0 (by assumption) (by assumption) | k_extra "oc"
 k_with "om" => first | (k_whole; with_reducible (first | assumption | (show @Ne Nat _ _; k_extra "on") | (show @Eq Nat _ _; first | exact tn1 (by assumption) | exact z0i) | ((first | show @LT.lt Int _ _ _ | show @LE.le Int _ _ _ | show @LT.lt Nat _ _ _ | show @LE.le Nat _ _ _); k_extra "oi")))
 k_with "execs cons If" => (k_here; (with_reducible show wpAny _ _ (execs (PySem.Stmt.If (PySem.Expr.Compare (PySem.Expr.Name _ _) [.Eq] [PySem.Expr.Constant (.str _) _ _] _) _ _ _ :: _) _) _ _ _); first | ((with_reducible show wpAny _ _ (execs (PySem.Stmt.If _ _ [] _ :: _) _) _ _ _); k_dflt (refine' cif_f ?F ?v ?x ?c ?k ?d ?_; (case F => k_asm); (case x => kernel_rfl!); (case k => kernel_rfl!); (case d => kernel_rfl!); (case v => rfl); (case c => first | with_reducible assumption | kernel_rfl!); k_whole)) | ((with_reducible show wpAny _ _ (execs [PySem.Stmt.If _ _ (_ :: _) _] _) _ _ _); k_dflt (refine' cif_g ?F ?v ?x ?c ?k ?d ?_; (case F => k_asm); (case x => kernel_rfl!); (case k => kernel_rfl!); (case d => kernel_rfl!); (case v => rfl); (case c => first | with_reducible assumption | kernel_rfl!); k_whole)) | ((with_reducible show wpAny _ _ (execs [PySem.Stmt.If _ _ _ _] _) _ _ _); k_dflt (refine' cif_t ?F ?v ?x ?c ?k ?d ?_; (case F => k_asm); (case x => kernel_rfl!); (case k => kernel_rfl!); (case d => kernel_rfl!); (case v => rfl); (case c => first | with_reducible assumption | kernel_rfl!); k_whole)) | k_dflt (refine' cif_r ?F ?v ?x ?c ?k ?d ?_; (case F => k_asm); (case x => kernel_rfl!); (case k => kernel_rfl!); (case d => kernel_rfl!); (case v => rfl); (case c => first | with_reducible assumption | kernel_rfl!); k_whole))
 k_with "callWith" => ((with_reducible show wpAny _ _ (callWith _ (Value.builtin _) (_ :: _) (backTo _ (starEach (_ :: _) _)) []) _ _ _); refine callWith_method1 ?_)
 k_with "callWith ref" => (k_here; k_dflt (first | (refine' callWith_K ?y9k ?y9l ?_; (case y9k => k_asm); (case y9l => k_is); k_whole) | (refine' callWith_K0 ?y9k ?y9l ?_; (case y9k => k_in); (case y9l => k_is); k_whole)))
 k_with "eval Name" => (k_here; (fail_if_success (with_reducible show wpAny _ _ (eval (PySem.Expr.Name _ _) (compEnvC _ _ _ _)) _ _ _)); k_dflt (first | (refine' nameX_L ?y9F ?y9v ?_ ?y9a ?y9b ?y9d; (case y9F => k_asm); (case y9a => kernel_rfl!); (case y9b => kernel_rfl!); (case y9d => kernel_rfl!); (case y9v => rfl); k_whole) | (refine' nameX_K ?y9F ?y9X ?y9T ?y9e ?_ ?y9a ?y9b; (case y9F => k_asm); (case y9X => k_asm); (case y9T => k_asm); (case y9a => kernel_rfl!); (case y9b => kernel_rfl!); (case y9e => k_is); k_whole) | (refine' nameX_C ?y9N ?y9c ?y9m ?y9d ?_ ?y9a ?y9b; (case y9a => kernel_rfl!); (case y9b => kernel_rfl!); (case y9N => k_asm); (case y9c => rfl); (case y9m => k_mem); (case y9d => k_asm); k_whole) | (refine' nameX_B ?y9F ?y9X ?y9T ?y9e ?y9v ?y9n ?_ ?y9a ?y9b; (case y9F => k_asm); (case y9X => k_asm); (case y9T => k_asm); (case y9a => kernel_rfl!); (case y9b => kernel_rfl!); (case y9e => k_is); (case y9v => boot_fast); (case y9n => decide); k_whole)))
 k_with "execs cons Return" => with_reducible refine cret ?_
 k_with "newTuple" => (k_here; k_dflt (refine' kup_newTuple (by k_asm) (by k_asm) ?_ (by kmk_size)); intro D'ᵩ h'ᵩ F'ᵩ N'ᵩ l1ᵩ; have l2ᵩ := l1ᵩ; (try k_lt l1ᵩ))
 k_with "k9" => (first | exact rfl | assumption)
 k_with "d9" => (first | exact rmc0 (by assumption) (by decide) | exact rmc 1 (by assumption) (by decide) | exact rmc 2 (by assumption) (by decide) | exact rmc 3 (by assumption) (by decide))
 k_with "u9" => (first | exact rmu0 (by assumption) (by decide) | exact rmu 3 (by assumption) (by decide) | exact rmu 6 (by assumption) (by decide) | exact rmu 9 (by assumption) (by decide) | exact rmu 1 (by assumption) (by decide) | exact rmu 4 (by assumption) (by decide) | exact rmu 7 (by assumption) (by decide))
 k_with "r9" => (first | exact rm0 (by assumption) | exact rm 1 (by assumption) (by decide) | exact rm 2 (by assumption) (by decide) | exact rm 3 (by assumption) (by decide) | exact rm 4 (by assumption) (by decide))
 k_with "b9" => (first | exact BindsTo.of_eq rfl | exact binds_K (by k_in) rfl (by k_is) rfl rfl rfl)
 k_with "c9" => (k_dflt (refine' code_def ?k1 ?k2 ?k3 ?k4 ?k5 ?kA ?kF ?kK ?k6 ?k7 ?k8 ?k9 ?kB ?_ ?c2 ?c3 ?c4 ?c5; (case kA => exact rfl); (case kF => exact rfl); (case kK => k_extra "k9"); (case k1 => k_asm); (case k2 => k_asm); (case k3 => k_asm); (case k4 => k_asm); (case k5 => k_asm); (case k6 => k_is); (case k7 => k_is); (case k8 => k_extra "r9"); (case k9 => k_extra "b9"); (case c5 => decide); (case kB => exact locs rfl); (case c2 => exact rfl); (case c3 => exact rfl); (case c4 => exact rfl); k_whole); intro g'ᵩ L'ᵩ h'ᵩ FG'ᵩ F'ᵩ N'ᵩ B'ᵩ X'ᵩ T'ᵩ; (try dsimp only))
 k_with "i9" => (k_dflt (refine' item_led (by k_asm) (by k_mem) (by omega) (by with_reducible assumption) (by omega) ?_ (by with_unfolding_all rfl); k_whole))
 k_with "j9" => (first | k_dflt (refine' item_tupleT (News.isTup (by k_asm) (by k_mem)) (by decide) (by decide) (by rfl) (by rfl) ?_ (by with_unfolding_all rfl); k_whole) | k_extra "i9")
 k_with "mo" => exact ⟨_, _, _, _, _, _, _, _, ⟨_, _, _, _, _, _, _, _, _, _, _, _, _, _, _, _, _, _, _, _, _, rfl⟩⟩
 k_with "nt" => (first | assumption | exact news_tl (by assumption) | exact news_tl (news_tl (by assumption)) | exact news_tl (news_tl (news_tl (by assumption))) | exact news_tl (news_tl (news_tl (news_tl (by assumption)))) | exact news_tl (news_tl (news_tl (news_tl (news_tl (by assumption))))) | exact news_tl (news_tl (news_tl (news_tl (news_tl (news_tl (by assumption)))))) | exact news_tl (news_tl (news_tl (news_tl (news_tl (news_tl (news_tl (by assumption))))))))
 k_with "subscriptTail Attribute Subscript Constant ref int" => (k_here; k_extra "j9")
 k_with "subscriptTail Name Constant ref int" => (k_here; k_extra "j9")
 k_with "subscriptTail Attribute Name Constant ref int" => (k_here; k_extra "j9")
 k_with "subscriptTail Name Name ref int" => (k_here; k_extra "i9")
 k_with "ite" => first | with_reducible refine ite_tt ?_ | with_reducible refine ite_ff ?_ | (k_closed; k_dflt (first | (with_reducible refine' ite_bp ?y9z ?_; (case y9z => kernel_rfl!)) | (with_reducible refine' ite_bn ?y9z ?_; (case y9z => kernel_rfl!)) | refine ite_pos (by decide) ?_ | refine ite_neg (by decide) ?_)) | (with_reducible refine ite_af (by decide +kernel) ?_) | (with_reducible refine ite_at (by decide +kernel) ?_) | (with_reducible refine ite_dp (by omega) ?_) | (with_reducible refine ite_dn (by omega) ?_) | (with_reducible refine ite_bp (by assumption) ?_) | (with_reducible refine ite_bn (by assumption) ?_)
 k_with "call builtin:len" => (k_here; (with_reducible show wpAny _ _ (call (Value.builtin "len") [Value.ref _]) _ _ _); k_dflt (refine' len_led (by k_asm) (by k_mem) (by with_reducible assumption) (by omega) ?_; k_whole))
 k_with "call ref" => (k_here; (with_reducible show wpAny _ _ (call (Value.ref _) _) _ _ _); refine wpAny_call ?_; k_extra "c9")
 k_with "fold9" => (try (refine letf (by assumption) ?_; intro m9ᵩ F9ᵩ))
 k_with "exec For" => (k_here; (with_reducible show wpAny _ _ (exec (PySem.Stmt.For _ _ _ _ _) _) _ _ _); refine StopG.out ?_)
 k_with "pyIter ref" => (k_here; (with_reducible show wpAny _ _ (pyIter (Value.ref _)) _ _ _); refine StopG.out ?_)
 k_with "FIPost" => (k_here; with_reducible refine firet ?_; (try dsimp only))
 trivial
theorem marks_set' {prog : Program} {w : World} {A : Around} {E : Value → Shared → Prop} {s : Shared} {h₀ : Heap} {L d a I : Addr} {m : Str → Option Value} {own : List (Addr × Obj)} {o ok oI : Obj} {q : Addr × Obj} {ms : List ((Bool × Int) × Nat)} {k : Bool × Int} {i : Nat} {t : Tok} {Q : Unit → Shared → Prop}
    (F : Fr h₀ L s.heap m) (N : News h₀ L s.heap ((a, ok) :: q :: (I, oI) :: (d, o) :: own)) (la : ∀ p ∈ (I, oI) :: (d, o) :: own, p.1 < a) (hoff : ∀ p ∈ (d, o) :: own, p.1 ≠ I) (hof : ∀ p ∈ own, p.1 ≠ d) (M : MarksAt prog w own o ms) (tk : TupKeyObj (mixKind prog w) (mkey k) ok) (hu : A.units + 1 < cLine)
    (hl : lk ms k = none) (hz : ms.length ≤ 64) (h : ∀ h' o', Fr h₀ L h' m → News h₀ L h' ((I, oI) :: (d, o') :: (a, ok) :: own) → MarksAt prog w ((a, ok) :: own) o' (ms ++ [(k, i)]) → (∀ p ∈ (a, ok) :: own, p.1 ≠ d) → (∀ p ∈ (d, o') :: (a, ok) :: own, p.1 ≠ I) → Q () { s with heap := h', toks := s.toks + 3 }) :
    wpAny (model prog w) A (setItem (.ref d) (.ref a) (.int (i : Int) t)) Q E s := by
  have had : ∀ p ∈ (a, ok) :: own, p.1 ≠ d := fun p hp => by
    rcases List.mem_cons.mp hp with rfl | hp
    · exact Nat.ne_of_gt (la _ (.tail _ (.head _)))
    · exact hof p hp
  refine marks_set F N (.tail _ (.tail _ (.tail _ (.head _)))) ((I, oI) :: (a, ok) :: own) ?_ ?_ M (fun p hp => .tail _ (.tail _ hp)) (.tail _ (.head _)) tk hu hl (by rw [PySem.sizeLine_eq]; omega) fun h' o' F' N' M' => h h' o' F' ?_ M' had ?_
  · intro p hp
    rcases List.mem_cons.mp hp with rfl | hp
    · exact .tail _ (.tail _ (.head _))
    · rcases List.mem_cons.mp hp with rfl | hp
      · exact .head _
      · exact .tail _ (.tail _ (.tail _ (.tail _ hp)))
  · intro p hp
    rcases List.mem_cons.mp hp with rfl | hp
    · exact Ne.symm (hoff _ (.head _))
    · exact had p hp
  · intro p hp
    rcases List.mem_cons.mp hp with rfl | hp
    · exact N' _ (.tail _ (.head _))
    · rcases List.mem_cons.mp hp with rfl | hp
      · exact N' _ (.head _)
      · exact N' _ (.tail _ (.tail _ hp))
  · intro p hp
    rcases List.mem_cons.mp hp with rfl | hp
    · exact hoff (d, o) (.head _)
    · rcases List.mem_cons.mp hp with rfl | hp
      · exact Nat.ne_of_gt (la _ (.head _))
      · exact hoff p (.tail _ hp)
theorem kw15 : True := by
 w_top off
 k_with "compareOp In ref ref" => (k_here; refine StopG.out ?_)
 k_with "setItem ref" => (k_here; refine StopG.out ?_)
 trivial
namespace EK.E_marks_c
theorem core : @P w mean mg mb dp un gd cn cs a ccd cl outer A₀ base h₀ L m s Q E := by
  intro news l vs n rs B F X T hk N hl hR hz hnd hd hu hret
  have hlen := hR.length
  k_steps
  refine StopG.mk ?_
  rename Fr _ _ _ _ => F9
  rename News _ _ _ _ => N9
  rename (_ == sysModules) = false => lo
  rename ∀ p ∈ news, p.1 < _ => l1
  rename PySem.Obj.IsDictOf (PySem.strKind _ _) _ [] => hD
  refine forRs [Str.ofString "at", Str.ofString "key"] (fun i nw => ∃ own od, nw = (_, od) :: own ∧ MarksAt PySem.Challenge.rw_pf0284_01.row.prog w own od (marksL 0 (rs.take i)) ∧ Grow news own ∧ (∀ p ∈ own, p.1 ≠ _) ) rfl (by assumption) hz F9 N9 ⟨news, _, rfl, MarksAt.empty hD, Grow.refl, fun p hp => Nat.ne_of_lt (l1 p hp)⟩ ?_ ?_
  · rintro I oI i u nw t h tk hc hi hI ⟨own, od, rfl, hM, hG, hof⟩ hoff F1 N1
    clear F9 N9
    obtain ⟨v, hv, hrow⟩ := hR.get hi
    obtain ⟨x, dx, p, e1, e2, t1, t2, t3, nn, ps, k, rfl, hx, hdx, hp, hps⟩ := hrow.mono hG.sub
    have hl' := hG.sub _ hl
    have hv' : vs[((i : Nat) : Int).toNat]? = some (.ref x) := hv
    have hmt := marksL_take rs 0 i hi
    have hfr := fun o n => marks_fresh (o := o) (n := n) hnd hi
    revert hmt hfr hdx hps
    generalize hr : rs[i] = r
    intro hdx hps hmt hfr
    cases r
    case mark o g =>
      dsimp only [nameOf, partsOf] at hdx hps
      obtain ⟨t4, rfl⟩ := da_i hps
      have hf := hfr o g rfl
      cases o <;> dsimp only [kdS] at * <;> k_steps
      all_goals
        rename News _ _ _ _ => N9
        rename Fr _ _ _ _ => F9
        rename ∀ p ∈ (_ :: _ :: _ :: own), p.1 < _ => l9
        refine StopG.mk ?_
        refine marks_in_none (nw := own) (k := (_, g)) N9 (by k_mem) lo hM (fun p hp => .tail _ (.tail _ (.tail _ (.tail _ hp)))) (.head _) (mkey_obj (o := _)) (by (first | exact rmu0 (by assumption) (by decide) | exact rmu 3 (by assumption) (by decide) | exact rmu 6 (by assumption) (by decide) | exact rmu 9 (by assumption) (by decide) | exact rmu 1 (by assumption) (by decide) | exact rmu 4 (by assumption) (by decide) | exact rmu 7 (by assumption) (by decide))) hf fun tk => ?_
        k_steps
        refine StopG.mk ?_
        refine marks_set' F9 N9 (fun p hp => l9 p (.tail _ hp)) hoff hof hM (mkey_obj (o := _)) (by (first | exact rmu0 (by assumption) (by decide) | exact rmu 3 (by assumption) (by decide) | exact rmu 6 (by assumption) (by decide) | exact rmu 9 (by assumption) (by decide) | exact rmu 1 (by assumption) (by decide) | exact rmu 4 (by assumption) (by decide) | exact rmu 7 (by assumption) (by decide))) hf (by have := marksL_len (rs.take i) 0; rw [List.length_take] at this; omega) ?_
        intro h' o' F' N' hM' hof' hoff'
        k_steps
        refine fiend ((_, o') :: _ :: own) (by assumption) N' (fun p hp => hp) (by simpa using hoff') ⟨(fun z hz => by
               have hz' := hz
               simp only [List.contains_cons, List.contains_nil, Bool.or_false, Bool.or_eq_false_iff, beq_eq_false_iff_ne, ne_eq] at hz
               simp +zetaDelta [hz, hz']), _ :: own, o', rfl, ?_, ?_, ?_⟩
        · rw [hmt, Nat.zero_add]
          exact hM'
        · exact hG.cons fun p hp => l9 _ (.tail _ (.tail _ (.tail _ (hG.sub p hp))))
        · exact hof'
    all_goals
      dsimp only [nameOf, partsOf] at *
      k_steps
      refine fiend ((_, od) :: own) (by assumption) (by (first | assumption | exact news_tl (by assumption) | exact news_tl (news_tl (by assumption)) | exact news_tl (news_tl (news_tl (by assumption))) | exact news_tl (news_tl (news_tl (news_tl (by assumption)))) | exact news_tl (news_tl (news_tl (news_tl (news_tl (by assumption))))) | exact news_tl (news_tl (news_tl (news_tl (news_tl (news_tl (by assumption)))))) | exact news_tl (news_tl (news_tl (news_tl (news_tl (news_tl (news_tl (by assumption))))))))) (fun p hp => hp) (by simpa using hoff) ⟨(fun z hz => by
               have hz' := hz
               simp only [List.contains_cons, List.contains_nil, Bool.or_false, Bool.or_eq_false_iff, beq_eq_false_iff_ne, ne_eq] at hz
               simp +zetaDelta [hz, hz']), own, od, rfl, ?_, hG, hof⟩
      rw [hmt]
      simpa using hM
  · rintro u nw h tk ⟨own, od, rfl, hM, hG, hof⟩ F1 N1
    rw [List.take_length] at hM
    k_steps
    exact hret _ od own h _ (by assumption) (by (first | assumption | exact news_tl (by assumption) | exact news_tl (news_tl (by assumption)) | exact news_tl (news_tl (news_tl (by assumption))) | exact news_tl (news_tl (news_tl (news_tl (by assumption)))) | exact news_tl (news_tl (news_tl (news_tl (news_tl (by assumption))))) | exact news_tl (news_tl (news_tl (news_tl (news_tl (news_tl (by assumption)))))) | exact news_tl (news_tl (news_tl (news_tl (news_tl (news_tl (news_tl (by assumption))))))))) l1 ⟨fun p hp => .tail _ (hG.sub p hp), fun p hp => (List.mem_cons.mp hp).elim (fun e => .inr (by subst e; exact l1)) (hG.new p)⟩ hG.sub lo hM
end EK.E_marks_c
theorem EK.E_marks_c.all : ∀ c, EK.E_marks_c.Pc c := by
  have h : EK.E_marks_c.Pc kc := by with_unfolding_all exact EK.E_marks_c.core
  rw [EK.eqk9] at h
  exact first_all (r := EK.lst10) h
theorem EK.eqk10 : kc = first EK.lst10 := EK.eqk9.trans (first_skip EK.E_marks_c.all)
theorem marks_c {w : World} {mean : ExcName → Option Value} {mg mb : Str → Option Value} {dp un : Nat} {gd : Option (List Code)} {cn : Str} {cs : Scope} {a : Addr} {ccd : Value} {cl : List (Str × Addr)} {outer : List Env} {A₀ : Around} {base h₀ : Heap} {L : Addr} {m : Str → Option Value} {s : Shared} {Q E : Value → Shared → Prop} (news : List (Addr × Obj)) (l : Addr) (vs : List Value) (n : Nat) (rs : List TR)
    (B : Below A₀ base outer h₀) (F : Fr h₀ L s.heap m) (X : (hd.heap_1 w.params).In h₀) (T : Top viewP LZ mean mg mb h₀) (hk : cs.kind = .function)
    (N : News h₀ L s.heap news) (hl : (l, listOf vs.toArray n) ∈ news) (hR : RowsIn news vs rs) (hz : rs.length ≤ 64) (hnd : ((marksL 0 rs).map (·.1)).Nodup)
    (hd : dp + 5 < recursionLimit) (hu : un + 100 < cLine)
    (hret : ∀ (d : Addr) (o : Obj) (own : List (Addr × Obj)) (h' : Heap) (tks : Nat), Fr h₀ L h' m → News h₀ L h' ((d, o) :: own) → (∀ p ∈ news, p.1 < d) → Grow news ((d, o) :: own) → (∀ p ∈ news, p ∈ own) → (d == sysModules) = false → MarksAt PySem.Challenge.rw_pf0284_01.row.prog w own o (marksL 0 rs) → Q (.ref d) { s with heap := h', toks := tks }) : wpAny (model PySem.Challenge.rw_pf0284_01.row.prog w) (ktrTop dp un gd cn cs L a ccd cl outer) (call (.ref 167) [.ref l]) Q E s := by
  with_unfolding_all exact EK.E_marks_c.all ⟨w, mean, mg, mb, dp, un, gd, cn, cs, a, ccd, cl, outer, A₀, base, h₀, L, m, s, Q, E⟩ news l vs n rs B F X T hk N hl hR hz hnd hd hu hret
end
end
section
open PyProof.V
section
theorem kw16 : True := by
 w_top off
 k_with_none
 k_with "ml" => first | assumption | (refine memsub (by assumption) ?_; first | assumption | exact List.Mem.head _ | (refine List.Mem.tail _ ?_; first | exact List.Mem.head _ | (refine List.Mem.tail _ ?_; first | exact List.Mem.head _ | (refine List.Mem.tail _ ?_; first | exact List.Mem.head _ | (refine List.Mem.tail _ ?_; first | assumption) | assumption) | assumption) | assumption) | assumption)
 k_with "k_mem" => first | exact List.Mem.head _ | (refine List.Mem.tail _ ?_; k_extra "k_mem") | k_extra "ml"
 k_with "ks" => repeat' (first | (k_unfold; (try dsimp only)) | (k_end; kc_close) | (walk1; (try (first | (with_reducible show wpAny _ _ (exec _ _) _ _ _; (try dsimp only); (refine letq ?_; intro qk9ᵩ); (try with_reducible refine wpst ?_; intro tk9ᵩ); (try walk_at "fold9")) | (with_reducible show wpAny _ _ (execs _ _) _ _ _; k_fold)))) | (dsimp only; walk1) | (leave1; walk_say "STEP leave1"; try dsimp only) | (k_unmd; k_unfold; (try dsimp only)) | fail "no step")
 k_with "in9" => first | with_reducible assumption | (refine' Frag.In.keeps ?y9X (Fr.keep ?y9F); (case y9F => k_asm); (case y9X => k_asm))
 k_with "eval Constant str" => with_reducible refine kstr ?_
 k_with "eval Constant int" => with_reducible refine kint ?_
 k_with "oc" => first | (apply c1; assumption) | (apply c2; assumption) | (apply l2; assumption) | (apply c3; assumption) | (apply c4; assumption) | (apply c5; assumption) | (apply c6; assumption) | (apply c7; assumption) | (apply c8; assumption) | (apply c9; assumption) | (apply c10; assumption) | (apply c11; assumption) | (apply c12; assumption) | (apply c13; assumption) | (apply c14; assumption) | (apply c15; assumption) | (apply c16; assumption)
 k_with "od" => first | (apply c1; assumption) | (apply c2; assumption) | (apply l2; assumption) | (apply c3; assumption) | (apply c4; assumption) | (apply c5; assumption) | (apply c6; assumption) | (apply c7; assumption)
 k_with "on" => first | (apply zsy; assumption) | (apply zgt; first | assumption | k_extra "oc") | (apply zlt; first | assumption | k_extra "oc") | (apply gtt; assumption; first | assumption | k_extra "od") | (apply ltt; assumption; first | assumption | k_extra "od")
 k_with "oi" => first | exact nn0 | exact nn0' | exact z63 (by assumption) (by assumption) | exact z63b (by assumption) (by assumption) | exact n63 (by assumption) (by assumption) | exact n63b (by assumption) (by assumption) | exact z63c (by assumption) (by assumption) | exact z63d (by assumption) (by assumption) | exact nlt (by assumption) | exact n62 (by assumption) | exact n62b (by assumption) | exact tnl (by assumption) (by assumption) | exact sub1 (by assumption) | exact sub2 (by assumption) (by assumption) | decide | exact Int.lt_of_lt_of_le (by assumption) (by decide) | exact Nat.le_trans (by assumption) (by decide) | exact ul (by assumption) (by decide) | exact up0 (by assumption) (by assumption) | k_extra "oc"
 k_with "om" => first | (k_whole; with_reducible (first | assumption | (show @Ne Nat _ _; k_extra "on") | (show @Eq Nat _ _; first | exact tn1 (by assumption) | exact z0i) | ((first | show @LT.lt Int _ _ _ | show @LE.le Int _ _ _ | show @LT.lt Nat _ _ _ | show @LE.le Nat _ _ _); k_extra "oi")))
 k_with "execs cons If" => (k_here; (with_reducible show wpAny _ _ (execs (PySem.Stmt.If (PySem.Expr.Compare (PySem.Expr.Name _ _) [.Eq] [PySem.Expr.Constant (.str _) _ _] _) _ _ _ :: _) _) _ _ _); first | ((with_reducible show wpAny _ _ (execs (PySem.Stmt.If _ _ [] _ :: _) _) _ _ _); k_dflt (refine' cif_f ?F ?v ?x ?c ?k ?d ?_; (case F => k_asm); (case x => kernel_rfl!); (case k => kernel_rfl!); (case d => kernel_rfl!); (case v => rfl); (case c => first | with_reducible assumption | kernel_rfl!); k_whole)) | ((with_reducible show wpAny _ _ (execs [PySem.Stmt.If _ _ (_ :: _) _] _) _ _ _); k_dflt (refine' cif_g ?F ?v ?x ?c ?k ?d ?_; (case F => k_asm); (case x => kernel_rfl!); (case k => kernel_rfl!); (case d => kernel_rfl!); (case v => rfl); (case c => first | with_reducible assumption | kernel_rfl!); k_whole)) | ((with_reducible show wpAny _ _ (execs [PySem.Stmt.If _ _ _ _] _) _ _ _); k_dflt (refine' cif_t ?F ?v ?x ?c ?k ?d ?_; (case F => k_asm); (case x => kernel_rfl!); (case k => kernel_rfl!); (case d => kernel_rfl!); (case v => rfl); (case c => first | with_reducible assumption | kernel_rfl!); k_whole)) | k_dflt (refine' cif_r ?F ?v ?x ?c ?k ?d ?_; (case F => k_asm); (case x => kernel_rfl!); (case k => kernel_rfl!); (case d => kernel_rfl!); (case v => rfl); (case c => first | with_reducible assumption | kernel_rfl!); k_whole))
 k_with "callWith" => ((with_reducible show wpAny _ _ (callWith _ (Value.builtin _) (_ :: _) (backTo _ (starEach (_ :: _) _)) []) _ _ _); refine callWith_method1 ?_)
 k_with "callWith ref" => (k_here; k_dflt (first | (refine' callWith_K ?y9k ?y9l ?_; (case y9k => k_asm); (case y9l => k_is); k_whole) | (refine' callWith_K0 ?y9k ?y9l ?_; (case y9k => k_in); (case y9l => k_is); k_whole)))
 k_with "eval Name" => (k_here; (fail_if_success (with_reducible show wpAny _ _ (eval (PySem.Expr.Name _ _) (compEnvC _ _ _ _)) _ _ _)); k_dflt (first | (refine' nameX_L ?y9F ?y9v ?_ ?y9a ?y9b ?y9d; (case y9F => k_asm); (case y9a => kernel_rfl!); (case y9b => kernel_rfl!); (case y9d => kernel_rfl!); (case y9v => rfl); k_whole) | (refine' nameX_K ?y9F ?y9X ?y9T ?y9e ?_ ?y9a ?y9b; (case y9F => k_asm); (case y9X => k_asm); (case y9T => k_asm); (case y9a => kernel_rfl!); (case y9b => kernel_rfl!); (case y9e => k_is); k_whole) | (refine' nameX_C ?y9N ?y9c ?y9m ?y9d ?_ ?y9a ?y9b; (case y9a => kernel_rfl!); (case y9b => kernel_rfl!); (case y9N => k_asm); (case y9c => rfl); (case y9m => k_mem); (case y9d => k_asm); k_whole) | (refine' nameX_B ?y9F ?y9X ?y9T ?y9e ?y9v ?y9n ?_ ?y9a ?y9b; (case y9F => k_asm); (case y9X => k_asm); (case y9T => k_asm); (case y9a => kernel_rfl!); (case y9b => kernel_rfl!); (case y9e => k_is); (case y9v => boot_fast); (case y9n => decide); k_whole)))
 k_with "execs cons Return" => with_reducible refine cret ?_
 k_with "newTuple" => (k_here; k_dflt (refine' kup_newTuple (by k_asm) (by k_asm) ?_ (by kmk_size)); intro D'ᵩ h'ᵩ F'ᵩ N'ᵩ l1ᵩ; have l2ᵩ := l1ᵩ; (try k_lt l1ᵩ))
 k_with "k9" => (first | exact rfl | assumption)
 k_with "d9" => (first | exact rmc0 (by assumption) (by decide) | exact rmc 1 (by assumption) (by decide) | exact rmc 2 (by assumption) (by decide) | exact rmc 3 (by assumption) (by decide))
 k_with "u9" => (first | exact rmu0 (by assumption) (by decide) | exact rmu 3 (by assumption) (by decide) | exact rmu 6 (by assumption) (by decide) | exact rmu 9 (by assumption) (by decide) | exact rmu 1 (by assumption) (by decide) | exact rmu 4 (by assumption) (by decide) | exact rmu 7 (by assumption) (by decide))
 k_with "r9" => (first | exact rm0 (by assumption) | exact rm 1 (by assumption) (by decide) | exact rm 2 (by assumption) (by decide) | exact rm 3 (by assumption) (by decide) | exact rm 4 (by assumption) (by decide))
 k_with "b9" => (first | exact BindsTo.of_eq rfl | exact binds_K (by k_in) rfl (by k_is) rfl rfl rfl)
 k_with "c9" => (k_dflt (refine' code_def ?k1 ?k2 ?k3 ?k4 ?k5 ?kA ?kF ?kK ?k6 ?k7 ?k8 ?k9 ?kB ?_ ?c2 ?c3 ?c4 ?c5; (case kA => exact rfl); (case kF => exact rfl); (case kK => k_extra "k9"); (case k1 => k_asm); (case k2 => k_asm); (case k3 => k_asm); (case k4 => k_asm); (case k5 => k_asm); (case k6 => k_is); (case k7 => k_is); (case k8 => k_extra "r9"); (case k9 => k_extra "b9"); (case c5 => decide); (case kB => exact locs rfl); (case c2 => exact rfl); (case c3 => exact rfl); (case c4 => exact rfl); k_whole); intro g'ᵩ L'ᵩ h'ᵩ FG'ᵩ F'ᵩ N'ᵩ B'ᵩ X'ᵩ T'ᵩ; (try dsimp only))
 k_with "i9" => (k_dflt (refine' item_led (by k_asm) (by k_mem) (by omega) (by with_reducible assumption) (by omega) ?_ (by with_unfolding_all rfl); k_whole))
 k_with "j9" => (first | k_dflt (refine' item_tupleT (News.isTup (by k_asm) (by k_mem)) (by decide) (by decide) (by rfl) (by rfl) ?_ (by with_unfolding_all rfl); k_whole) | k_extra "i9")
 k_with "mo" => exact ⟨_, _, _, _, _, _, _, _, ⟨_, _, _, _, _, _, _, _, _, _, _, _, _, _, _, _, _, _, _, _, _, rfl⟩⟩
 k_with "nt" => (first | assumption | exact news_tl (by assumption) | exact news_tl (news_tl (by assumption)) | exact news_tl (news_tl (news_tl (by assumption))) | exact news_tl (news_tl (news_tl (news_tl (by assumption)))) | exact news_tl (news_tl (news_tl (news_tl (news_tl (by assumption))))) | exact news_tl (news_tl (news_tl (news_tl (news_tl (news_tl (by assumption)))))) | exact news_tl (news_tl (news_tl (news_tl (news_tl (news_tl (news_tl (by assumption))))))))
 k_with "subscriptTail Attribute Subscript Constant ref int" => (k_here; k_extra "j9")
 k_with "subscriptTail Name Constant ref int" => (k_here; k_extra "j9")
 k_with "subscriptTail Attribute Name Constant ref int" => (k_here; k_extra "j9")
 k_with "subscriptTail Name Name ref int" => (k_here; k_extra "i9")
 k_with "ite" => first | with_reducible refine ite_tt ?_ | with_reducible refine ite_ff ?_ | (k_closed; k_dflt (first | (with_reducible refine' ite_bp ?y9z ?_; (case y9z => kernel_rfl!)) | (with_reducible refine' ite_bn ?y9z ?_; (case y9z => kernel_rfl!)) | refine ite_pos (by decide) ?_ | refine ite_neg (by decide) ?_)) | (with_reducible refine ite_af (by decide +kernel) ?_) | (with_reducible refine ite_at (by decide +kernel) ?_) | (with_reducible refine ite_dp (by omega) ?_) | (with_reducible refine ite_dn (by omega) ?_) | (with_reducible refine ite_bp (by assumption) ?_) | (with_reducible refine ite_bn (by assumption) ?_)
 k_with "call builtin:len" => (k_here; (with_reducible show wpAny _ _ (call (Value.builtin "len") [Value.ref _]) _ _ _); k_dflt (refine' len_led (by k_asm) (by k_mem) (by with_reducible assumption) (by omega) ?_; k_whole))
 k_with "call ref" => (k_here; (with_reducible show wpAny _ _ (call (Value.ref _) _) _ _ _); refine wpAny_call ?_; k_extra "c9")
 k_with "fold9" => (try (refine letf (by assumption) ?_; intro m9ᵩ F9ᵩ))
 trivial
namespace EK.E_goalof_c
theorem core : @P w mean mg mb dp un gd cn cs a ccd cl outer A₀ base h₀ L m s Q E := by
  intro news v r B F X T hk N hR hd hu hno hyes
  obtain ⟨x, dx, p, e1, e2, t1, t2, t3, nn, ps, k, rfl, hx, hdx, hp, hps⟩ := hR
  cases r
  case mark o g =>
    dsimp only [nameOf, partsOf] at *
    cases o <;> dsimp only [kdS] at * <;> k_steps <;> exact hno rfl _ _ (by assumption) (by (first | assumption | exact news_tl (by assumption) | exact news_tl (news_tl (by assumption)) | exact news_tl (news_tl (news_tl (by assumption))) | exact news_tl (news_tl (news_tl (news_tl (by assumption)))) | exact news_tl (news_tl (news_tl (news_tl (news_tl (by assumption))))) | exact news_tl (news_tl (news_tl (news_tl (news_tl (news_tl (by assumption)))))) | exact news_tl (news_tl (news_tl (news_tl (news_tl (news_tl (news_tl (by assumption)))))))))
  case jmp o' g =>
    dsimp only [nameOf, partsOf] at hdx hps
    obtain ⟨t4, t5, rfl⟩ := da_si hps
    k_steps
    exact hyes _ _ rfl _ _ _ _ _ (by assumption) (by assumption) (by assumption)
  case jcc c o' g =>
    dsimp only [nameOf, partsOf] at hdx hps
    obtain ⟨t4, t5, t6, rfl⟩ := da_ssi hps
    k_steps
    exact hyes _ _ rfl _ _ _ _ _ (by assumption) (by assumption) (by assumption)
  all_goals
    dsimp only [nameOf, partsOf] at *
    k_steps
    exact hno rfl _ _ (by assumption) (by (first | assumption | exact news_tl (by assumption) | exact news_tl (news_tl (by assumption)) | exact news_tl (news_tl (news_tl (by assumption))) | exact news_tl (news_tl (news_tl (news_tl (by assumption)))) | exact news_tl (news_tl (news_tl (news_tl (news_tl (by assumption))))) | exact news_tl (news_tl (news_tl (news_tl (news_tl (news_tl (by assumption)))))) | exact news_tl (news_tl (news_tl (news_tl (news_tl (news_tl (news_tl (by assumption)))))))))
end EK.E_goalof_c
theorem EK.E_goalof_c.all : ∀ c, EK.E_goalof_c.Pc c := by
  have h : EK.E_goalof_c.Pc kc := by with_unfolding_all exact EK.E_goalof_c.core
  rw [EK.eqk10] at h
  exact first_all (r := EK.lst11) h
theorem EK.eqk11 : kc = first EK.lst11 := EK.eqk10.trans (first_skip EK.E_goalof_c.all)
theorem goalof_c {w : World} {mean : ExcName → Option Value} {mg mb : Str → Option Value} {dp un : Nat} {gd : Option (List Code)} {cn : Str} {cs : Scope} {a : Addr} {ccd : Value} {cl : List (Str × Addr)} {outer : List Env} {A₀ : Around} {base h₀ : Heap} {L : Addr} {m : Str → Option Value} {s : Shared} {Q E : Value → Shared → Prop} (news : List (Addr × Obj)) (v : Value) (r : TR)
    (B : Below A₀ base outer h₀) (F : Fr h₀ L s.heap m) (X : (hd.heap_1 w.params).In h₀) (T : Top viewP LZ mean mg mb h₀) (hk : cs.kind = .function)
    (N : News h₀ L s.heap news) (hR : RowIn news v r)
    (hd : dp + 5 < recursionLimit) (hu : un + 60 < cLine)
    (hno : goalT r = none → ∀ (h' : Heap) (tks : Nat), Fr h₀ L h' m → News h₀ L h' news → Q .none { s with heap := h', toks := tks })
    (hyes : ∀ o g, goalT r = some (o, g) → ∀ (D : Addr) (t u : Tok) (h' : Heap) (tks : Nat), Fr h₀ L h' m → News h₀ L h' ((D, tupO [.str (kdS o) t, .int g u] 0) :: news) → (∀ p ∈ news, p.1 < D) → Q (.ref D) { s with heap := h', toks := tks }) : wpAny (model PySem.Challenge.rw_pf0284_01.row.prog w) (ktrTop dp un gd cn cs L a ccd cl outer) (call (.ref 160) [v]) Q E s := by
  with_unfolding_all exact EK.E_goalof_c.all ⟨w, mean, mg, mb, dp, un, gd, cn, cs, a, ccd, cl, outer, A₀, base, h₀, L, m, s, Q, E⟩ news v r B F X T hk N hR hd hu hno hyes
end
theorem lk_isSome {ms : List ((Bool × Int) × Nat)} {k : Bool × Int} (h : k ∈ ms.map (·.1)) : (lk ms k).isSome = true := by
  unfold lk
  rw [Option.isSome_map, List.find?_isSome]
  obtain ⟨x, hx, rfl⟩ := List.mem_map.mp h
  exact ⟨x, hx, decide_eq_true rfl⟩
section
theorem kw17 : True := by
 w_top off
 k_with "pyIter ref" => (k_here; (with_reducible show wpAny _ _ (pyIter (Value.ref _)) _ _ _); refine StopG.out ?_)
 k_with "FIPost" => (k_here; with_reducible refine firet ?_; (try dsimp only))
 k_with "call ref" => (k_here; (with_reducible show wpAny _ _ (call (Value.ref 167) _) _ _ _); k_dflt (refine' marks_c  _ _ _ _ _ ?B ?F ?X ?T ?k ?N ?hl ?hR ?hz ?nd ?d ?u ?_; (case B => k_asm); (case F => k_asm); (case X => k_asm); (case T => k_asm); (case k => first | exact rfl | assumption); (case N => k_asm); (case hl => k_mem); (case hR => with_reducible assumption); (case hz => assumption); (case nd => assumption); (case d => first | exact rmc0 (by assumption) (by decide) | exact rmc 1 (by assumption) (by decide) | exact rmc 2 (by assumption) (by decide) | exact rmc 3 (by assumption) (by decide)); (case u => first | exact rmu0 (by assumption) (by decide) | exact rmu 3 (by assumption) (by decide) | exact rmu 6 (by assumption) (by decide) | exact rmu 9 (by assumption) (by decide) | exact rmu 1 (by assumption) (by decide) | exact rmu 4 (by assumption) (by decide) | exact rmu 7 (by assumption) (by decide))); intro d'ᵩ o'ᵩ own'ᵩ h'ᵩ tks'ᵩ F'ᵩ N'ᵩ l1ᵩ G'ᵩ sub'ᵩ lo'ᵩ M'ᵩ)
 k_with "call ref" => (k_here; (with_reducible show wpAny _ _ (call (Value.ref 124) _) _ _ _); k_dflt (refine' shapes_c  _ ?B ?F ?X ?T ?k ?N ?d ?u ?_; (case B => k_asm); (case F => k_asm); (case X => k_asm); (case T => k_asm); (case k => first | exact rfl | assumption); (case N => k_asm); (case d => first | exact rmc0 (by assumption) (by decide) | exact rmc 1 (by assumption) (by decide) | exact rmc 2 (by assumption) (by decide) | exact rmc 3 (by assumption) (by decide)); (case u => first | exact rmu0 (by assumption) (by decide) | exact rmu 3 (by assumption) (by decide) | exact rmu 6 (by assumption) (by decide) | exact rmu 9 (by assumption) (by decide) | exact rmu 1 (by assumption) (by decide) | exact rmu 4 (by assumption) (by decide) | exact rmu 7 (by assumption) (by decide))); intro d'ᵩ o'ᵩ h'ᵩ tks'ᵩ F'ᵩ N'ᵩ l1ᵩ lo'ᵩ S'ᵩ)
 k_with "call ref" => (k_here; (with_reducible show wpAny _ _ (call (Value.ref 146) _) _ _ _); k_dflt (refine' checkrow_c  _ _ _ _ _ ?B ?F ?X ?T ?k ?N ?hR ?ok ?hd ?lo ?S ?d ?u ?_; (case B => k_asm); (case F => k_asm); (case X => k_asm); (case T => k_asm); (case k => first | exact rfl | assumption); (case N => k_asm); (case hR => first | with_reducible assumption | (refine' RowIn.mono ?ss ?rr; (case rr => with_reducible assumption); (case ss => intro pᵩ hpᵩ; k_mem))); (case ok => assumption); (case hd => k_mem); (case lo => assumption); (case S => with_reducible assumption); (case d => first | exact rmc0 (by assumption) (by decide) | exact rmc 1 (by assumption) (by decide) | exact rmc 2 (by assumption) (by decide) | exact rmc 3 (by assumption) (by decide)); (case u => first | exact rmu0 (by assumption) (by decide) | exact rmu 3 (by assumption) (by decide) | exact rmu 6 (by assumption) (by decide) | exact rmu 9 (by assumption) (by decide) | exact rmu 1 (by assumption) (by decide) | exact rmu 4 (by assumption) (by decide) | exact rmu 7 (by assumption) (by decide))); intro h'ᵩ tks'ᵩ F'ᵩ N'ᵩ)
 k_with "call ref" => (k_here; (with_reducible show wpAny _ _ (call (Value.ref 160) _) _ _ _); refine StopG.out ?_)
 trivial
namespace EK.E_checkrows_c
theorem core : @P w mean mg mb dp un gd cn cs a ccd cl outer A₀ base h₀ L m s Q E := by
  intro news l vs n rs B F X T hk N hl hR hz hnd hok hgo hd hu hret
  have hlen := hR.length
  k_steps
  refine StopG.mk ?_
  rename Fr _ _ _ _ => F9
  rename News _ _ _ _ => N9
  rename DS _ _ _ _ => hS
  rename MarksAt _ _ _ _ _ => hM
  rename ∀ p ∈ news, p ∈ _ => hsub
  rename Grow _ _ => hG
  rename ∀ p ∈ news, p.1 < _ => hlt
  refine forRs [Str.ofString "at", Str.ofString "goal"] (fun _ nw => nw = _) rfl (by assumption) hz F9 N9 rfl ?_ ?_
  · rintro I oI i u nw t h tk hc hi hI rfl hoff F1 N1
    obtain ⟨v, hv, hrow⟩ := hR.get hi
    have hv' : vs[((i : Nat) : Int).toNat]? = some v := hv
    have hok' := hok _ (List.getElem_mem hi)
    have hgo' := hgo _ (List.getElem_mem hi)
    k_steps
    refine StopG.mk ?_
    k_here
    k_dflt (refine' goalof_c  _ _ _ ?B ?F ?X ?T ?k ?N ?hR ?d ?u ?_ ?_)
    case N => k_asm
    (case B => k_asm); (case F => k_asm); (case X => k_asm); (case T => k_asm); (case k => first | exact rfl | assumption)
    case hR => refine' RowIn.mono ?ss ?rr; (case rr => with_reducible assumption); (case ss => intro p hp; k_mem)
    (case d => first | exact rmc0 (by assumption) (by decide) | exact rmc 1 (by assumption) (by decide) | exact rmc 2 (by assumption) (by decide) | exact rmc 3 (by assumption) (by decide)); (case u => first | exact rmu0 (by assumption) (by decide) | exact rmu 3 (by assumption) (by decide) | exact rmu 6 (by assumption) (by decide) | exact rmu 9 (by assumption) (by decide) | exact rmu 1 (by assumption) (by decide) | exact rmu 4 (by assumption) (by decide) | exact rmu 7 (by assumption) (by decide))
    · intro _ h' tks F' N'
      k_steps
      refine fiend _ (by assumption) (by assumption) (fun p hp => hp) (by simpa using hoff) ⟨(fun z hz => by
               have hz' := hz
               simp only [List.contains_cons, List.contains_nil, Bool.or_false, Bool.or_eq_false_iff, beq_eq_false_iff_ne, ne_eq] at hz
               simp +zetaDelta [hz, hz']), rfl⟩
    · intro o g hg D t u h' tks F' N' lD
      have hlk := lk_isSome (hgo' _ hg)
      k_steps
      rename News _ _ _ _ => N7
      refine marks_notIn (k := (o, g)) N7 (by k_mem) (by assumption) hM (fun p hp => by k_mem) (.head _) mkey_obj (by (first | exact rmu0 (by assumption) (by decide) | exact rmu 3 (by assumption) (by decide) | exact rmu 6 (by assumption) (by decide) | exact rmu 9 (by assumption) (by decide) | exact rmu 1 (by assumption) (by decide) | exact rmu 4 (by assumption) (by decide) | exact rmu 7 (by assumption) (by decide))) ?_
      rw [hlk]
      k_steps
      refine fiend _ (by assumption) (news_tl N7) (fun p hp => hp) (by simpa using hoff) ⟨(fun z hz => by
               have hz' := hz
               simp only [List.contains_cons, List.contains_nil, Bool.or_false, Bool.or_eq_false_iff, beq_eq_false_iff_ne, ne_eq] at hz
               simp +zetaDelta [hz, hz']), rfl⟩
  · rintro u nw h tk rfl F1 N1
    k_steps
    exact hret _ _ _ _ _ (by assumption) (by (first | assumption | exact news_tl (by assumption) | exact news_tl (news_tl (by assumption)) | exact news_tl (news_tl (news_tl (by assumption))) | exact news_tl (news_tl (news_tl (news_tl (by assumption)))) | exact news_tl (news_tl (news_tl (news_tl (news_tl (by assumption))))) | exact news_tl (news_tl (news_tl (news_tl (news_tl (news_tl (by assumption)))))) | exact news_tl (news_tl (news_tl (news_tl (news_tl (news_tl (news_tl (by assumption))))))))) hlt hG hsub (by assumption) hM
end EK.E_checkrows_c
theorem EK.E_checkrows_c.all : ∀ c, EK.E_checkrows_c.Pc c := by
  have h : EK.E_checkrows_c.Pc kc := by with_unfolding_all exact EK.E_checkrows_c.core
  rw [EK.eqk11] at h
  exact first_all (r := EK.lst12) h
theorem EK.eqk12 : kc = first EK.lst12 := EK.eqk11.trans (first_skip EK.E_checkrows_c.all)
theorem checkrows_c {w : World} {mean : ExcName → Option Value} {mg mb : Str → Option Value} {dp un : Nat} {gd : Option (List Code)} {cn : Str} {cs : Scope} {a : Addr} {ccd : Value} {cl : List (Str × Addr)} {outer : List Env} {A₀ : Around} {base h₀ : Heap} {L : Addr} {m : Str → Option Value} {s : Shared} {Q E : Value → Shared → Prop} (news : List (Addr × Obj)) (l : Addr) (vs : List Value) (n : Nat) (rs : List TR)
    (B : Below A₀ base outer h₀) (F : Fr h₀ L s.heap m) (X : (hd.heap_1 w.params).In h₀) (T : Top viewP LZ mean mg mb h₀) (hk : cs.kind = .function)
    (N : News h₀ L s.heap news) (hl : (l, listOf vs.toArray n) ∈ news) (hR : RowsIn news vs rs) (hz : rs.length ≤ 64) (hnd : ((marksL 0 rs).map (·.1)).Nodup) (hok : ∀ r ∈ rs, okTR r)
    (hgo : ∀ r ∈ rs, ∀ g, goalT r = some g → g ∈ (marksL 0 rs).map (·.1))
    (hd : dp + 20 < recursionLimit) (hu : un + 200 < cLine)
    (hret : ∀ (d : Addr) (o : Obj) (own : List (Addr × Obj)) (h' : Heap) (tks : Nat), Fr h₀ L h' m → News h₀ L h' ((d, o) :: own) → (∀ p ∈ news, p.1 < d) → Grow news ((d, o) :: own) → (∀ p ∈ news, p ∈ own) → (d == sysModules) = false → MarksAt PySem.Challenge.rw_pf0284_01.row.prog w own o (marksL 0 rs) → Q (.ref d) { s with heap := h', toks := tks }) : wpAny (model PySem.Challenge.rw_pf0284_01.row.prog w) (ktrTop dp un gd cn cs L a ccd cl outer) (call (.ref 174) [.ref l]) Q E s := by
  with_unfolding_all exact EK.E_checkrows_c.all ⟨w, mean, mg, mb, dp, un, gd, cn, cs, a, ccd, cl, outer, A₀, base, h₀, L, m, s, Q, E⟩ news l vs n rs B F X T hk N hl hR hz hnd hok hgo hd hu hret
end
end
section
open PyProof.V PySem.Spec PySem.Calls
theorem mem_offA {d : Addr} {l : List (Addr × Obj)} {p : Addr × Obj} : p ∈ offA d l ↔ p ∈ l ∧ p.1 ≠ d := by
  unfold offA
  rw [List.mem_filter]
  constructor
  · rintro ⟨a, b⟩; exact ⟨a, of_decide_eq_true b⟩
  · rintro ⟨a, b⟩; exact ⟨a, decide_eq_true b⟩
theorem offA_off {d : Addr} {l : List (Addr × Obj)} : OwnOff (offA d l) [d] := fun p hp b hb => by
  rw [List.mem_singleton.mp hb]
  exact (mem_offA.mp hp).2
theorem MarksAt.offA {prog : Program} {w : World} {h₀ h : Heap} {L d : Addr} {own : List (Addr × Obj)} {o od : Obj} {ms : List ((Bool × Int) × Nat)} (M : MarksAt prog w own o ms) (N : News h₀ L h own) (hd : (d, od) ∈ own) (hc : od.cls = .type "dict" ∨ od.cls = .type "list") : MarksAt prog w (offA d own) o ms := by
  obtain ⟨es, ep, xs, a, b, c, e, f, g⟩ := M
  refine ⟨es, ep, xs, a, b, c, e, fun x hx => ?_, g⟩
  obtain ⟨ok, hm, t⟩ := f x hx
  refine ⟨ok, mem_offA.mpr ⟨hm, fun q => ?_⟩, t⟩
  have h1 := N _ hm
  have h2 := N _ hd
  have q' : x.2.1 = d := q
  rw [q'] at h1
  have e1 : ok = od := Option.some.inj (h1.1.symm.trans h2.1)
  have h3 := t.1
  rw [e1] at h3
  rcases hc with hc | hc
  · rw [hc] at h3; exact absurd h3 (by decide)
  · rw [hc] at h3; exact absurd h3 (by decide)
theorem regroup {prog : Program} {w : World} {h₀ h : Heap} {L x dx md : Addr} {ox odx mo : Obj} {news own : List (Addr × Obj)} {ms : List ((Bool × Int) × Nat)} (N : News h₀ L h ((md, mo) :: own)) (hs : ∀ p ∈ (x, ox) :: (dx, odx) :: news, p ∈ own) (hl : ∀ p ∈ (x, ox) :: (dx, odx) :: news, p.1 < md)
    (G : Grow ((x, ox) :: (dx, odx) :: news) ((md, mo) :: own)) (hn : ∀ p ∈ news, p.1 < dx) (hx : dx < x) (hc : odx.cls = .type "dict") (M : MarksAt prog w own mo ms) :
    ∃ own2, News h₀ L h ((x, ox) :: (dx, odx) :: (md, mo) :: own2) ∧ OwnOff own2 [dx] ∧ (@LT.lt Nat _ dx md ∧ @LT.lt Nat _ x md) ∧ MarksAt prog w own2 mo ms ∧ (∀ p ∈ news, p ∈ own2) ∧ (∀ p ∈ own2, p ∈ news ∨ ∀ q ∈ news, q.1 < p.1) := by
  have hd : (dx, odx) ∈ own := hs _ (.tail _ (.head _))
  refine ⟨offA dx own, fun p hp => ?_, offA_off, ⟨hl _ (.tail _ (.head _)), hl _ (.head _)⟩, M.offA (fun p hp => N p (.tail _ hp)) hd (.inl hc), fun p hp => mem_offA.mpr ⟨hs p (.tail _ (.tail _ hp)), Nat.ne_of_lt (hn p hp)⟩, fun p hp => ?_⟩
  · rcases List.mem_cons.mp hp with rfl | hp
    · exact N _ (.tail _ (hs _ (.head _)))
    · rcases List.mem_cons.mp hp with rfl | hp
      · exact N _ (.tail _ hd)
      · rcases List.mem_cons.mp hp with rfl | hp
        · exact N _ (.head _)
        · exact N _ (.tail _ (mem_offA.mp hp).1)
  · have h1 := mem_offA.mp hp
    rcases G.new p (.tail _ h1.1) with h | h
    · rcases List.mem_cons.mp h with rfl | h
      · exact .inr fun q hq => Nat.lt_trans (hn q hq) hx
      · rcases List.mem_cons.mp h with rfl | h
        · exact absurd rfl h1.2
        · exact .inl h
    · exact .inr fun q hq => h q (.tail _ (.tail _ hq))
theorem ltAll {d : Addr} : ∀ {l : List (Addr × Obj)}, AllLt d l → ∀ p ∈ l, p.1 < d
  | [], _, _, h => nomatch h
  | _ :: _, x, p, h => by
    rcases List.mem_cons.mp h with rfl | h
    · exact x.1
    · exact ltAll x.2 p h
theorem FlagsAt.mono {a b : List (Addr × Obj)} {fl : Addr} {c z s v : Value} (hs : ∀ p ∈ a, p ∈ b) : FlagsAt a fl c z s v → FlagsAt b fl c z s v
  | ⟨fd, h1, h2, h3, h4, t1, t2, t3, t4, n, x, y⟩ => ⟨fd, h1, h2, h3, h4, t1, t2, t3, t4, n, hs _ x, hs _ y⟩
theorem MachC.mono {prog : Program} {w : World} {a b : List (Addr × Obj)} {x dx l md pl : Addr} {rs : List TR} (hs : ∀ p ∈ a, p ∈ b) (M : MachC prog w a x dx l md pl rs) : MachC prog w b x dx l md pl rs where
  inst := hs _ M.inst
  lo := M.lo
  mks := let ⟨mo, h, k⟩ := M.mks; ⟨mo, hs _ h, k.mono hs⟩
  rows := let ⟨vs, n, h, k⟩ := M.rows; ⟨vs, n, hs _ h, k.mono hs⟩
  pile := hs _ M.pile
end
section
open PyProof.V
theorem regs_init (t u : Tok) : IntsAre ((List.replicate (Int.toNat 16) [Value.int 9 t]).flatten.set (Int.toNat 4) (Value.int 1879048192 u)) regs0 := by
  show IntsAre [.int 9 t, .int 9 t, .int 9 t, .int 9 t, .int 1879048192 u, .int 9 t, .int 9 t, .int 9 t, .int 9 t, .int 9 t, .int 9 t, .int 9 t, .int 9 t, .int 9 t, .int 9 t, .int 9 t] _
  exact .cons _ _ (.cons _ _ (.cons _ _ (.cons _ _ (.cons _ _ (.cons _ _ (.cons _ _ (.cons _ _ (.cons _ _ (.cons _ _ (.cons _ _ (.cons _ _ (.cons _ _ (.cons _ _ (.cons _ _ (.cons _ _ .nil)))))))))))))))
theorem kw18 : True := by
 w_top off
 k_with_none
 k_with "ml" => first | assumption | (refine memsub (by assumption) ?_; first | assumption | exact List.Mem.head _ | (refine List.Mem.tail _ ?_; first | exact List.Mem.head _ | (refine List.Mem.tail _ ?_; first | exact List.Mem.head _ | (refine List.Mem.tail _ ?_; first | exact List.Mem.head _ | (refine List.Mem.tail _ ?_; first | assumption) | assumption) | assumption) | assumption) | assumption)
 k_with "k_mem" => first | exact List.Mem.head _ | (refine List.Mem.tail _ ?_; k_extra "k_mem") | k_extra "ml"
 k_with "ks" => repeat' (first | (k_unfold; (try dsimp only)) | (k_end; kc_close) | (walk1; (try (first | (with_reducible show wpAny _ _ (exec _ _) _ _ _; (try dsimp only); (refine letq ?_; intro qk9ᵩ); (try with_reducible refine wpst ?_; intro tk9ᵩ); (try walk_at "fold9")) | (with_reducible show wpAny _ _ (execs _ _) _ _ _; k_fold)))) | (dsimp only; walk1) | (leave1; walk_say "STEP leave1"; try dsimp only) | (k_unmd; k_unfold; (try dsimp only)) | fail "no step")
 k_with "in9" => first | with_reducible assumption | (refine' Frag.In.keeps ?y9X (Fr.keep ?y9F); (case y9F => k_asm); (case y9X => k_asm))
 k_with "eval Constant str" => with_reducible refine kstr ?_
 k_with "eval Constant int" => with_reducible refine kint ?_
 k_with "oc" => first | (apply c1; assumption) | (apply c2; assumption) | (apply l2; assumption) | (apply c3; assumption) | (apply c4; assumption) | (apply c5; assumption) | (apply c6; assumption) | (apply c7; assumption) | (apply c8; assumption) | (apply c9; assumption) | (apply c10; assumption) | (apply c11; assumption) | (apply c12; assumption) | (apply c13; assumption) | (apply c14; assumption) | (apply c15; assumption) | (apply c16; assumption)
 k_with "od" => first | (apply c1; assumption) | (apply c2; assumption) | (apply l2; assumption) | (apply c3; assumption) | (apply c4; assumption) | (apply c5; assumption) | (apply c6; assumption) | (apply c7; assumption)
 k_with "on" => first | (apply zsy; assumption) | (apply zgt; first | assumption | k_extra "oc") | (apply zlt; first | assumption | k_extra "oc") | (apply gtt; assumption; first | assumption | k_extra "od") | (apply ltt; assumption; first | assumption | k_extra "od")
 k_with "oi" => first | exact nn0 | exact nn0' | exact z63 (by assumption) (by assumption) | exact z63b (by assumption) (by assumption) | exact n63 (by assumption) (by assumption) | exact n63b (by assumption) (by assumption) | exact z63c (by assumption) (by assumption) | exact z63d (by assumption) (by assumption) | exact nlt (by assumption) | exact n62 (by assumption) | exact n62b (by assumption) | exact tnl (by assumption) (by assumption) | exact sub1 (by assumption) | exact sub2 (by assumption) (by assumption) | decide | exact Int.lt_of_lt_of_le (by assumption) (by decide) | exact Nat.le_trans (by assumption) (by decide) | exact ul (by assumption) (by decide) | exact up0 (by assumption) (by assumption) | k_extra "oc"
 k_with "om" => first | (k_whole; with_reducible (first | assumption | (show @Ne Nat _ _; k_extra "on") | (show @Eq Nat _ _; first | exact tn1 (by assumption) | exact z0i) | ((first | show @LT.lt Int _ _ _ | show @LE.le Int _ _ _ | show @LT.lt Nat _ _ _ | show @LE.le Nat _ _ _); k_extra "oi")))
 k_with "execs cons If" => (k_here; (with_reducible show wpAny _ _ (execs (PySem.Stmt.If (PySem.Expr.Compare (PySem.Expr.Name _ _) [.Eq] [PySem.Expr.Constant (.str _) _ _] _) _ _ _ :: _) _) _ _ _); first | ((with_reducible show wpAny _ _ (execs (PySem.Stmt.If _ _ [] _ :: _) _) _ _ _); k_dflt (refine' cif_f ?F ?v ?x ?c ?k ?d ?_; (case F => k_asm); (case x => kernel_rfl!); (case k => kernel_rfl!); (case d => kernel_rfl!); (case v => rfl); (case c => first | with_reducible assumption | kernel_rfl!); k_whole)) | ((with_reducible show wpAny _ _ (execs [PySem.Stmt.If _ _ (_ :: _) _] _) _ _ _); k_dflt (refine' cif_g ?F ?v ?x ?c ?k ?d ?_; (case F => k_asm); (case x => kernel_rfl!); (case k => kernel_rfl!); (case d => kernel_rfl!); (case v => rfl); (case c => first | with_reducible assumption | kernel_rfl!); k_whole)) | ((with_reducible show wpAny _ _ (execs [PySem.Stmt.If _ _ _ _] _) _ _ _); k_dflt (refine' cif_t ?F ?v ?x ?c ?k ?d ?_; (case F => k_asm); (case x => kernel_rfl!); (case k => kernel_rfl!); (case d => kernel_rfl!); (case v => rfl); (case c => first | with_reducible assumption | kernel_rfl!); k_whole)) | k_dflt (refine' cif_r ?F ?v ?x ?c ?k ?d ?_; (case F => k_asm); (case x => kernel_rfl!); (case k => kernel_rfl!); (case d => kernel_rfl!); (case v => rfl); (case c => first | with_reducible assumption | kernel_rfl!); k_whole))
 k_with "callWith" => ((with_reducible show wpAny _ _ (callWith _ (Value.builtin _) (_ :: _) (backTo _ (starEach (_ :: _) _)) []) _ _ _); refine callWith_method1 ?_)
 k_with "callWith ref" => (k_here; k_dflt (first | (refine' callWith_K ?y9k ?y9l ?_; (case y9k => k_asm); (case y9l => k_is); k_whole) | (refine' callWith_K0 ?y9k ?y9l ?_; (case y9k => k_in); (case y9l => k_is); k_whole)))
 k_with "eval Name" => (k_here; (fail_if_success (with_reducible show wpAny _ _ (eval (PySem.Expr.Name _ _) (compEnvC _ _ _ _)) _ _ _)); k_dflt (first | (refine' nameX_L ?y9F ?y9v ?_ ?y9a ?y9b ?y9d; (case y9F => k_asm); (case y9a => kernel_rfl!); (case y9b => kernel_rfl!); (case y9d => kernel_rfl!); (case y9v => rfl); k_whole) | (refine' nameX_K ?y9F ?y9X ?y9T ?y9e ?_ ?y9a ?y9b; (case y9F => k_asm); (case y9X => k_asm); (case y9T => k_asm); (case y9a => kernel_rfl!); (case y9b => kernel_rfl!); (case y9e => k_is); k_whole) | (refine' nameX_C ?y9N ?y9c ?y9m ?y9d ?_ ?y9a ?y9b; (case y9a => kernel_rfl!); (case y9b => kernel_rfl!); (case y9N => k_asm); (case y9c => rfl); (case y9m => k_mem); (case y9d => k_asm); k_whole) | (refine' nameX_B ?y9F ?y9X ?y9T ?y9e ?y9v ?y9n ?_ ?y9a ?y9b; (case y9F => k_asm); (case y9X => k_asm); (case y9T => k_asm); (case y9a => kernel_rfl!); (case y9b => kernel_rfl!); (case y9e => k_is); (case y9v => boot_fast); (case y9n => decide); k_whole)))
 k_with "execs cons Return" => with_reducible refine cret ?_
 k_with "newTuple" => (k_here; k_dflt (refine' kup_newTuple (by k_asm) (by k_asm) ?_ (by kmk_size)); intro D'ᵩ h'ᵩ F'ᵩ N'ᵩ l1ᵩ; have l2ᵩ := l1ᵩ; (try k_lt l1ᵩ))
 k_with "k9" => (first | exact rfl | assumption)
 k_with "d9" => (first | exact rmc0 (by assumption) (by decide) | exact rmc 1 (by assumption) (by decide) | exact rmc 2 (by assumption) (by decide) | exact rmc 3 (by assumption) (by decide))
 k_with "u9" => (first | exact rmu0 (by assumption) (by decide) | exact rmu 3 (by assumption) (by decide) | exact rmu 6 (by assumption) (by decide) | exact rmu 9 (by assumption) (by decide) | exact rmu 1 (by assumption) (by decide) | exact rmu 4 (by assumption) (by decide) | exact rmu 7 (by assumption) (by decide))
 k_with "r9" => (first | exact rm0 (by assumption) | exact rm 1 (by assumption) (by decide) | exact rm 2 (by assumption) (by decide) | exact rm 3 (by assumption) (by decide) | exact rm 4 (by assumption) (by decide))
 k_with "b9" => (first | exact BindsTo.of_eq rfl | exact binds_K (by k_in) rfl (by k_is) rfl rfl rfl)
 k_with "c9" => (k_dflt (refine' code_def ?k1 ?k2 ?k3 ?k4 ?k5 ?kA ?kF ?kK ?k6 ?k7 ?k8 ?k9 ?kB ?_ ?c2 ?c3 ?c4 ?c5; (case kA => exact rfl); (case kF => exact rfl); (case kK => k_extra "k9"); (case k1 => k_asm); (case k2 => k_asm); (case k3 => k_asm); (case k4 => k_asm); (case k5 => k_asm); (case k6 => k_is); (case k7 => k_is); (case k8 => k_extra "r9"); (case k9 => k_extra "b9"); (case c5 => decide); (case kB => exact locs rfl); (case c2 => exact rfl); (case c3 => exact rfl); (case c4 => exact rfl); k_whole); intro g'ᵩ L'ᵩ h'ᵩ FG'ᵩ F'ᵩ N'ᵩ B'ᵩ X'ᵩ T'ᵩ; (try dsimp only))
 k_with "i9" => (k_dflt (refine' item_led (by k_asm) (by k_mem) (by omega) (by with_reducible assumption) (by omega) ?_ (by with_unfolding_all rfl); k_whole))
 k_with "j9" => (first | k_dflt (refine' item_tupleT (News.isTup (by k_asm) (by k_mem)) (by decide) (by decide) (by rfl) (by rfl) ?_ (by with_unfolding_all rfl); k_whole) | k_extra "i9")
 k_with "mo" => exact ⟨_, _, _, _, _, _, _, _, ⟨_, _, _, _, _, _, _, _, _, _, _, _, _, _, _, _, _, _, _, _, _, rfl⟩⟩
 k_with "nt" => (first | assumption | exact news_tl (by assumption) | exact news_tl (news_tl (by assumption)) | exact news_tl (news_tl (news_tl (by assumption))) | exact news_tl (news_tl (news_tl (news_tl (by assumption)))) | exact news_tl (news_tl (news_tl (news_tl (news_tl (by assumption))))) | exact news_tl (news_tl (news_tl (news_tl (news_tl (news_tl (by assumption)))))) | exact news_tl (news_tl (news_tl (news_tl (news_tl (news_tl (news_tl (by assumption))))))))
 k_with "subscriptTail Attribute Subscript Constant ref int" => (k_here; k_extra "j9")
 k_with "subscriptTail Name Constant ref int" => (k_here; k_extra "j9")
 k_with "subscriptTail Attribute Name Constant ref int" => (k_here; k_extra "j9")
 k_with "subscriptTail Name Name ref int" => (k_here; k_extra "i9")
 k_with "ite" => first | with_reducible refine ite_tt ?_ | with_reducible refine ite_ff ?_ | (k_closed; k_dflt (first | (with_reducible refine' ite_bp ?y9z ?_; (case y9z => kernel_rfl!)) | (with_reducible refine' ite_bn ?y9z ?_; (case y9z => kernel_rfl!)) | refine ite_pos (by decide) ?_ | refine ite_neg (by decide) ?_)) | (with_reducible refine ite_af (by decide +kernel) ?_) | (with_reducible refine ite_at (by decide +kernel) ?_) | (with_reducible refine ite_dp (by omega) ?_) | (with_reducible refine ite_dn (by omega) ?_) | (with_reducible refine ite_bp (by assumption) ?_) | (with_reducible refine ite_bn (by assumption) ?_)
 k_with "call builtin:len" => (k_here; (with_reducible show wpAny _ _ (call (Value.builtin "len") [Value.ref _]) _ _ _); k_dflt (refine' len_led (by k_asm) (by k_mem) (by with_reducible assumption) (by omega) ?_; k_whole))
 k_with "call ref" => (k_here; (with_reducible show wpAny _ _ (call (Value.ref _) _) _ _ _); refine wpAny_call ?_; k_extra "c9")
 k_with "fold9" => (try (refine letf (by assumption) ?_; intro m9ᵩ F9ᵩ))
 trivial
theorem initEnd {h₀ h : Heap} {L : Addr} {a b c e q f d g : Addr × Obj} {own2 : List (Addr × Obj)} (N : News h₀ L h (a :: b :: c :: e :: q :: f :: d :: g :: own2)) : News h₀ L h (d :: e :: a :: b :: c :: f :: g :: own2) := news_sub N (by repeat' (first | exact fun _ h => h | refine subl_cons (by k_mem) ?_ | (intro p hp; k_mem)))
section
theorem kw19 : True := by
 w_top off
 k_with "call ref" => (k_here; (with_reducible show wpAny _ _ (call (Value.ref _) _) _ _ _); k_dflt (refine' call_cls (by k_asm) (by k_asm) (by k_asm) (by k_is) (by k_is) (by k_is) ?_; k_whole); intro x'ᵩ d'ᵩ h'ᵩ F'ᵩ N'ᵩ l1ᵩ l2ᵩ; (try k_lt l1ᵩ); (try k_lt2 l2ᵩ); k_extra "c9")
 k_with "call ref" => (k_here; (with_reducible show wpAny _ _ (call (Value.ref 174) _) _ _ _); k_dflt (refine' checkrows_c  _ _ _ _ _ ?B ?F ?X ?T ?k ?N ?hl ?hR ?hz ?nd ?ok ?go ?d ?u ?_; (case B => k_asm); (case F => k_asm); (case X => k_asm); (case T => k_asm); (case k => first | exact rfl | assumption); (case N => k_asm); (case hl => k_mem); (case hR => refine' RowsIn.mono ?ss ?rr; (case rr => with_reducible assumption); (case ss => intro pᵩ hpᵩ; k_mem)); (case hz => assumption); (case nd => assumption); (case ok => assumption); (case go => assumption); (case d => first | exact rmc0 (by assumption) (by decide) | exact rmc 1 (by assumption) (by decide) | exact rmc 2 (by assumption) (by decide) | exact rmc 3 (by assumption) (by decide)); (case u => first | exact rmu0 (by assumption) (by decide) | exact rmu 3 (by assumption) (by decide) | exact rmu 6 (by assumption) (by decide) | exact rmu 9 (by assumption) (by decide) | exact rmu 1 (by assumption) (by decide) | exact rmu 4 (by assumption) (by decide) | exact rmu 7 (by assumption) (by decide))); intro d'ᵩ o'ᵩ own'ᵩ h'ᵩ tks'ᵩ F'ᵩ N'ᵩ l1ᵩ G'ᵩ sub'ᵩ lo'ᵩ M'ᵩ)
 trivial
namespace EK.E_init_c
theorem core : @P w mean mg mb dp un gd cn cs a ccd cl outer A₀ base h₀ L m s Q E := by
  intro news l vs n rs t B F X T hk N hl hR hz hnd hok hgo hd hu hret
  k_steps
  rename News _ _ _ _ => N9
  rename Grow _ _ => hG
  rename MarksAt _ _ _ _ _ => hM
  rename ∀ p ∈ _ :: _, p ∈ _ => hsub
  rename ∀ p ∈ _ :: _ :: news, p.1 < _ => hlt
  rename ∀ p ∈ news, p.1 < _ => hn
  rename _ < _ => hxd
  obtain ⟨own2, N8, ho2, ⟨hm1, hm2⟩, hM2, hsub2, hgr2⟩ := regroup N9 hsub hlt hG hn hxd rfl hM
  clear N9 hG hM hsub
  have hl2 := hsub2 _ hl
  k_steps
  rename News _ _ _ _ => N7
  rename _ ∧ _ ∧ _ ∧ _ ∧ AllLt _ own2 => hrg
  have N6 := initEnd N7
  refine hret _ _ _ _ _ _ _ _ _ _ _ _ (by assumption) N6 ⟨_, _, _, _, _, _, _, _, _, _, _, _, _, _, _, _, _, _, _, _, _, rfl⟩ ?_ ⟨by k_mem, by assumption, ⟨_, by k_mem, hM2.mono fun p hp => by k_mem⟩, ⟨vs, n, by k_mem, hR.mono fun p hp => by k_mem⟩, .head _⟩ ?_ ?_ (fun p hp => by k_mem) hn
  · exact regs_init _ _
  · intro p hp b hb
    simp only [List.mem_cons, List.not_mem_nil, or_false] at hp hb
    rcases hb with rfl | rfl
    · rcases hp with rfl | rfl | rfl | rfl | rfl | hp
      · refine neN ?_; dsimp only; omega
      · refine neN ?_; dsimp only; omega
      · refine neN ?_; dsimp only; omega
      · refine neN ?_; dsimp only; omega
      · refine neN ?_; dsimp only; omega
      · exact ho2 p hp _ (List.mem_singleton.mpr rfl)
    · rcases hp with rfl | rfl | rfl | rfl | rfl | hp
      · refine neN ?_; dsimp only; omega
      · refine neN ?_; dsimp only; omega
      · refine neN ?_; dsimp only; omega
      · refine neN ?_; dsimp only; omega
      · refine neN ?_; dsimp only; omega
      · exact Nat.ne_of_lt (ltAll hrg.2.2.2.2 p hp)
  · exact hrg.2.2.1
end EK.E_init_c
theorem EK.E_init_c.all : ∀ c, EK.E_init_c.Pc c := by
  have h : EK.E_init_c.Pc kc := by with_unfolding_all exact EK.E_init_c.core
  rw [EK.eqk12] at h
  exact first_all (r := EK.lst13) h
theorem EK.eqk13 : kc = first EK.lst13 := EK.eqk12.trans (first_skip EK.E_init_c.all)
theorem init_c {w : World} {mean : ExcName → Option Value} {mg mb : Str → Option Value} {dp un : Nat} {gd : Option (List Code)} {cn : Str} {cs : Scope} {a : Addr} {ccd : Value} {cl : List (Str × Addr)} {outer : List Env} {A₀ : Around} {base h₀ : Heap} {L : Addr} {m : Str → Option Value} {s : Shared} {Q E : Value → Shared → Prop} (news : List (Addr × Obj)) (l : Addr) (vs : List Value) (n : Nat) (rs : List TR) (t : Tok)
    (B : Below A₀ base outer h₀) (F : Fr h₀ L s.heap m) (X : (hd.heap_1 w.params).In h₀) (T : Top viewP LZ mean mg mb h₀) (hk : cs.kind = .function)
    (N : News h₀ L s.heap news) (hl : (l, listOf vs.toArray n) ∈ news) (hR : RowsIn news vs rs) (hz : rs.length ≤ 64) (hnd : ((marksL 0 rs).map (·.1)).Nodup) (hok : ∀ r ∈ rs, okTR r)
    (hgo : ∀ r ∈ rs, ∀ g, goalT r = some g → g ∈ (marksL 0 rs).map (·.1))
    (hd : dp + 30 < recursionLimit) (hu : un + 300 < cLine)
    (hret : ∀ (x dx rg pl fl md : Addr) (o : Obj) (gs : List Value) (k : Nat) (own : List (Addr × Obj)) (h' : Heap) (tks : Nat), Fr h₀ L h' m → News h₀ L h' ((dx, o) :: (rg, listOf gs.toArray k) :: own) → MObj o l md rg fl pl 0 0 0 false → IntsAre gs regs0 →
      MachC PySem.Challenge.rw_pf0284_01.row.prog w own x dx l md pl rs → OwnOff own [dx, rg] → @LT.lt Nat _ dx rg → (∀ p ∈ news, p ∈ own) → (∀ q ∈ news, q.1 < dx) → Q (.ref x) { s with heap := h', toks := tks }) : wpAny (model PySem.Challenge.rw_pf0284_01.row.prog w) (ktrTop dp un gd cn cs L a ccd cl outer) (call (.ref 450) [.ref l, .int 9 t]) Q E s := by
  with_unfolding_all exact EK.E_init_c.all ⟨w, mean, mg, mb, dp, un, gd, cn, cs, a, ccd, cl, outer, A₀, base, h₀, L, m, s, Q, E⟩ news l vs n rs t B F X T hk N hl hR hz hnd hok hgo hd hu hret
end
end
section
open PyProof.V
theorem nat_mask (a : Nat) : a &&& 18446744073709551615 = a % 18446744073709551616 := Nat.and_two_pow_sub_one_eq_mod a 64
theorem kw20 : True := by
 w_top off
 k_with_none
 k_with "ml" => first | assumption | (refine memsub (by assumption) ?_; first | assumption | exact List.Mem.head _ | (refine List.Mem.tail _ ?_; first | exact List.Mem.head _ | (refine List.Mem.tail _ ?_; first | exact List.Mem.head _ | (refine List.Mem.tail _ ?_; first | exact List.Mem.head _ | (refine List.Mem.tail _ ?_; first | assumption) | assumption) | assumption) | assumption) | assumption)
 k_with "k_mem" => first | exact List.Mem.head _ | (refine List.Mem.tail _ ?_; k_extra "k_mem") | k_extra "ml"
 k_with "ks" => repeat' (first | (k_unfold; (try dsimp only)) | (k_end; kc_close) | (walk1; (try (first | (with_reducible show wpAny _ _ (exec _ _) _ _ _; (try dsimp only); (refine letq ?_; intro qk9ᵩ); (try with_reducible refine wpst ?_; intro tk9ᵩ); (try walk_at "fold9")) | (with_reducible show wpAny _ _ (execs _ _) _ _ _; k_fold)))) | (dsimp only; walk1) | (leave1; walk_say "STEP leave1"; try dsimp only) | (k_unmd; k_unfold; (try dsimp only)) | fail "no step")
 k_with "in9" => first | with_reducible assumption | (refine' Frag.In.keeps ?y9X (Fr.keep ?y9F); (case y9F => k_asm); (case y9X => k_asm))
 k_with "eval Constant str" => with_reducible refine kstr ?_
 k_with "eval Constant int" => with_reducible refine kint ?_
 k_with "oc" => first | (apply c1; assumption) | (apply c2; assumption) | (apply l2; assumption) | (apply c3; assumption) | (apply c4; assumption) | (apply c5; assumption) | (apply c6; assumption) | (apply c7; assumption) | (apply c8; assumption) | (apply c9; assumption) | (apply c10; assumption) | (apply c11; assumption) | (apply c12; assumption) | (apply c13; assumption) | (apply c14; assumption) | (apply c15; assumption) | (apply c16; assumption)
 k_with "od" => first | (apply c1; assumption) | (apply c2; assumption) | (apply l2; assumption) | (apply c3; assumption) | (apply c4; assumption) | (apply c5; assumption) | (apply c6; assumption) | (apply c7; assumption)
 k_with "on" => first | (apply zsy; assumption) | (apply zgt; first | assumption | k_extra "oc") | (apply zlt; first | assumption | k_extra "oc") | (apply gtt; assumption; first | assumption | k_extra "od") | (apply ltt; assumption; first | assumption | k_extra "od")
 k_with "oi" => first | exact nn0 | exact nn0' | exact z63 (by assumption) (by assumption) | exact z63b (by assumption) (by assumption) | exact n63 (by assumption) (by assumption) | exact n63b (by assumption) (by assumption) | exact z63c (by assumption) (by assumption) | exact z63d (by assumption) (by assumption) | exact nlt (by assumption) | exact n62 (by assumption) | exact n62b (by assumption) | exact tnl (by assumption) (by assumption) | exact sub1 (by assumption) | exact sub2 (by assumption) (by assumption) | decide | exact Int.lt_of_lt_of_le (by assumption) (by decide) | exact Nat.le_trans (by assumption) (by decide) | exact ul (by assumption) (by decide) | exact up0 (by assumption) (by assumption) | k_extra "oc"
 k_with "om" => first | (k_whole; with_reducible (first | assumption | (show @Ne Nat _ _; k_extra "on") | (show @Eq Nat _ _; first | exact tn1 (by assumption) | exact z0i) | ((first | show @LT.lt Int _ _ _ | show @LE.le Int _ _ _ | show @LT.lt Nat _ _ _ | show @LE.le Nat _ _ _); k_extra "oi")))
 k_with "execs cons If" => (k_here; (with_reducible show wpAny _ _ (execs (PySem.Stmt.If (PySem.Expr.Compare (PySem.Expr.Name _ _) [.Eq] [PySem.Expr.Constant (.str _) _ _] _) _ _ _ :: _) _) _ _ _); first | ((with_reducible show wpAny _ _ (execs (PySem.Stmt.If _ _ [] _ :: _) _) _ _ _); k_dflt (refine' cif_f ?F ?v ?x ?c ?k ?d ?_; (case F => k_asm); (case x => kernel_rfl!); (case k => kernel_rfl!); (case d => kernel_rfl!); (case v => rfl); (case c => first | with_reducible assumption | kernel_rfl!); k_whole)) | ((with_reducible show wpAny _ _ (execs [PySem.Stmt.If _ _ (_ :: _) _] _) _ _ _); k_dflt (refine' cif_g ?F ?v ?x ?c ?k ?d ?_; (case F => k_asm); (case x => kernel_rfl!); (case k => kernel_rfl!); (case d => kernel_rfl!); (case v => rfl); (case c => first | with_reducible assumption | kernel_rfl!); k_whole)) | ((with_reducible show wpAny _ _ (execs [PySem.Stmt.If _ _ _ _] _) _ _ _); k_dflt (refine' cif_t ?F ?v ?x ?c ?k ?d ?_; (case F => k_asm); (case x => kernel_rfl!); (case k => kernel_rfl!); (case d => kernel_rfl!); (case v => rfl); (case c => first | with_reducible assumption | kernel_rfl!); k_whole)) | k_dflt (refine' cif_r ?F ?v ?x ?c ?k ?d ?_; (case F => k_asm); (case x => kernel_rfl!); (case k => kernel_rfl!); (case d => kernel_rfl!); (case v => rfl); (case c => first | with_reducible assumption | kernel_rfl!); k_whole))
 k_with "callWith" => ((with_reducible show wpAny _ _ (callWith _ (Value.builtin _) (_ :: _) (backTo _ (starEach (_ :: _) _)) []) _ _ _); refine callWith_method1 ?_)
 k_with "callWith ref" => (k_here; k_dflt (first | (refine' callWith_K ?y9k ?y9l ?_; (case y9k => k_asm); (case y9l => k_is); k_whole) | (refine' callWith_K0 ?y9k ?y9l ?_; (case y9k => k_in); (case y9l => k_is); k_whole)))
 k_with "eval Name" => (k_here; (fail_if_success (with_reducible show wpAny _ _ (eval (PySem.Expr.Name _ _) (compEnvC _ _ _ _)) _ _ _)); k_dflt (first | (refine' nameX_L ?y9F ?y9v ?_ ?y9a ?y9b ?y9d; (case y9F => k_asm); (case y9a => kernel_rfl!); (case y9b => kernel_rfl!); (case y9d => kernel_rfl!); (case y9v => rfl); k_whole) | (refine' nameX_K ?y9F ?y9X ?y9T ?y9e ?_ ?y9a ?y9b; (case y9F => k_asm); (case y9X => k_asm); (case y9T => k_asm); (case y9a => kernel_rfl!); (case y9b => kernel_rfl!); (case y9e => k_is); k_whole) | (refine' nameX_C ?y9N ?y9c ?y9m ?y9d ?_ ?y9a ?y9b; (case y9a => kernel_rfl!); (case y9b => kernel_rfl!); (case y9N => k_asm); (case y9c => rfl); (case y9m => k_mem); (case y9d => k_asm); k_whole) | (refine' nameX_B ?y9F ?y9X ?y9T ?y9e ?y9v ?y9n ?_ ?y9a ?y9b; (case y9F => k_asm); (case y9X => k_asm); (case y9T => k_asm); (case y9a => kernel_rfl!); (case y9b => kernel_rfl!); (case y9e => k_is); (case y9v => boot_fast); (case y9n => decide); k_whole)))
 k_with "execs cons Return" => with_reducible refine cret ?_
 k_with "newTuple" => (k_here; k_dflt (refine' kup_newTuple (by k_asm) (by k_asm) ?_ (by kmk_size)); intro D'ᵩ h'ᵩ F'ᵩ N'ᵩ l1ᵩ; have l2ᵩ := l1ᵩ; (try k_lt l1ᵩ))
 k_with "k9" => (first | exact rfl | assumption)
 k_with "d9" => (first | exact rmc0 (by assumption) (by decide) | exact rmc 1 (by assumption) (by decide) | exact rmc 2 (by assumption) (by decide) | exact rmc 3 (by assumption) (by decide))
 k_with "u9" => (first | exact rmu0 (by assumption) (by decide) | exact rmu 3 (by assumption) (by decide) | exact rmu 6 (by assumption) (by decide) | exact rmu 9 (by assumption) (by decide) | exact rmu 1 (by assumption) (by decide) | exact rmu 4 (by assumption) (by decide) | exact rmu 7 (by assumption) (by decide))
 k_with "r9" => (first | exact rm0 (by assumption) | exact rm 1 (by assumption) (by decide) | exact rm 2 (by assumption) (by decide) | exact rm 3 (by assumption) (by decide) | exact rm 4 (by assumption) (by decide))
 k_with "b9" => (first | exact BindsTo.of_eq rfl | exact binds_K (by k_in) rfl (by k_is) rfl rfl rfl)
 k_with "c9" => (k_dflt (refine' code_def ?k1 ?k2 ?k3 ?k4 ?k5 ?kA ?kF ?kK ?k6 ?k7 ?k8 ?k9 ?kB ?_ ?c2 ?c3 ?c4 ?c5; (case kA => exact rfl); (case kF => exact rfl); (case kK => k_extra "k9"); (case k1 => k_asm); (case k2 => k_asm); (case k3 => k_asm); (case k4 => k_asm); (case k5 => k_asm); (case k6 => k_is); (case k7 => k_is); (case k8 => k_extra "r9"); (case k9 => k_extra "b9"); (case c5 => decide); (case kB => exact locs rfl); (case c2 => exact rfl); (case c3 => exact rfl); (case c4 => exact rfl); k_whole); intro g'ᵩ L'ᵩ h'ᵩ FG'ᵩ F'ᵩ N'ᵩ B'ᵩ X'ᵩ T'ᵩ; (try dsimp only))
 k_with "i9" => (k_dflt (refine' item_led (by k_asm) (by k_mem) (by omega) (by with_reducible assumption) (by omega) ?_ (by with_unfolding_all rfl); k_whole))
 k_with "j9" => (first | k_dflt (refine' item_tupleT (News.isTup (by k_asm) (by k_mem)) (by decide) (by decide) (by rfl) (by rfl) ?_ (by with_unfolding_all rfl); k_whole) | k_extra "i9")
 k_with "mo" => exact ⟨_, _, _, _, _, _, _, _, ⟨_, _, _, _, _, _, _, _, _, _, _, _, _, _, _, _, _, _, _, _, _, rfl⟩⟩
 k_with "nt" => (first | assumption | exact news_tl (by assumption) | exact news_tl (news_tl (by assumption)) | exact news_tl (news_tl (news_tl (by assumption))) | exact news_tl (news_tl (news_tl (news_tl (by assumption)))) | exact news_tl (news_tl (news_tl (news_tl (news_tl (by assumption))))) | exact news_tl (news_tl (news_tl (news_tl (news_tl (news_tl (by assumption)))))) | exact news_tl (news_tl (news_tl (news_tl (news_tl (news_tl (news_tl (by assumption))))))))
 k_with "subscriptTail Attribute Subscript Constant ref int" => (k_here; k_extra "j9")
 k_with "subscriptTail Name Constant ref int" => (k_here; k_extra "j9")
 k_with "subscriptTail Attribute Name Constant ref int" => (k_here; k_extra "j9")
 k_with "subscriptTail Name Name ref int" => (k_here; k_extra "i9")
 k_with "ite" => first | with_reducible refine ite_tt ?_ | with_reducible refine ite_ff ?_ | (k_closed; k_dflt (first | (with_reducible refine' ite_bp ?y9z ?_; (case y9z => kernel_rfl!)) | (with_reducible refine' ite_bn ?y9z ?_; (case y9z => kernel_rfl!)) | refine ite_pos (by decide) ?_ | refine ite_neg (by decide) ?_)) | (with_reducible refine ite_af (by decide +kernel) ?_) | (with_reducible refine ite_at (by decide +kernel) ?_) | (with_reducible refine ite_dp (by omega) ?_) | (with_reducible refine ite_dn (by omega) ?_) | (with_reducible refine ite_bp (by assumption) ?_) | (with_reducible refine ite_bn (by assumption) ?_)
 k_with "call builtin:len" => (k_here; (with_reducible show wpAny _ _ (call (Value.builtin "len") [Value.ref _]) _ _ _); k_dflt (refine' len_led (by k_asm) (by k_mem) (by with_reducible assumption) (by omega) ?_; k_whole))
 k_with "call ref" => (k_here; (with_reducible show wpAny _ _ (call (Value.ref _) _) _ _ _); refine wpAny_call ?_; k_extra "c9")
 trivial
theorem bitAnd_64 {k : Int} (h1 : -18446744073709551616 < k) (h2 : k < 18446744073709551616) : Builtin.bitAnd k (1 * 2 ^ Int.toNat 64 - 1) = k % 18446744073709551616 := by
  have e : (1 * 2 ^ Int.toNat 64 - 1 : Int) = 18446744073709551615 := by decide +kernel
  rw [e]
  by_cases hk : 0 ≤ k
  · rw [bitAnd_pp hk (by decide)]
    obtain ⟨n, rfl⟩ := Int.eq_ofNat_of_zero_le hk
    have : (18446744073709551615 : Int).toNat = 18446744073709551615 := by decide
    rw [this, Int.toNat_natCast, nat_mask]
    omega
  · rw [bitAnd_np hk (by decide)]
    have e2 : Builtin.bitNot k = -k - 1 := by unfold Builtin.bitNot; omega
    rw [e2]
    have : (18446744073709551615 : Int).toNat = 18446744073709551615 := by decide
    rw [this, Nat.and_comm, nat_mask]
    omega
theorem sign_64 {k : Int} (h1 : 0 ≤ k) (h2 : k < 18446744073709551616) : (Builtin.bitAnd (k.fdiv (2 ^ (64 - 1 : Int).toNat)) 1 == 1) = decide (9223372036854775808 ≤ k) := by
  have e : ((2 : Int) ^ (64 - 1 : Int).toNat) = 9223372036854775808 := by decide +kernel
  rw [e, bitAnd_m1, Int.fdiv_eq_ediv_of_nonneg _ (by decide)]
  by_cases h : 9223372036854775808 ≤ k
  · have : k / 9223372036854775808 = 1 := by omega
    rw [this, decide_eq_true h]; rfl
  · have : k / 9223372036854775808 = 0 := by omega
    rw [this, decide_eq_false h]; rfl
section
namespace EK.E_wrap_c
theorem core : @P w mean mg mb dp un gd cn cs a ccd cl outer A₀ base h₀ L m s Q E := by
  intro news k t u B F X T hk N h1 h2 hd hu hret
  k_steps
  rw [bitAnd_64 h1 h2]
  exact hret _ _ _ (by assumption) (by (first | assumption | exact news_tl (by assumption) | exact news_tl (news_tl (by assumption)) | exact news_tl (news_tl (news_tl (by assumption))) | exact news_tl (news_tl (news_tl (news_tl (by assumption)))) | exact news_tl (news_tl (news_tl (news_tl (news_tl (by assumption))))) | exact news_tl (news_tl (news_tl (news_tl (news_tl (news_tl (by assumption)))))) | exact news_tl (news_tl (news_tl (news_tl (news_tl (news_tl (news_tl (by assumption)))))))))
end EK.E_wrap_c
theorem EK.E_wrap_c.all : ∀ c, EK.E_wrap_c.Pc c := by
  have h : EK.E_wrap_c.Pc kc := by with_unfolding_all exact EK.E_wrap_c.core
  rw [EK.eqk13] at h
  exact first_all (r := EK.lst14) h
theorem EK.eqk14 : kc = first EK.lst14 := EK.eqk13.trans (first_skip EK.E_wrap_c.all)
theorem wrap_c {w : World} {mean : ExcName → Option Value} {mg mb : Str → Option Value} {dp un : Nat} {gd : Option (List Code)} {cn : Str} {cs : Scope} {a : Addr} {ccd : Value} {cl : List (Str × Addr)} {outer : List Env} {A₀ : Around} {base h₀ : Heap} {L : Addr} {m : Str → Option Value} {s : Shared} {Q E : Value → Shared → Prop} (news : List (Addr × Obj)) (k : Int) (t u : Tok)
    (B : Below A₀ base outer h₀) (F : Fr h₀ L s.heap m) (X : (hd.heap_1 w.params).In h₀) (T : Top viewP LZ mean mg mb h₀) (hk : cs.kind = .function)
    (N : News h₀ L s.heap news) (h1 : - 18446744073709551616 < k) (h2 : k < 18446744073709551616)
    (hd : dp + 5 < recursionLimit) (hu : un + 60 < cLine)
    (hret : ∀ (t : Tok) (h' : Heap) (tks : Nat), Fr h₀ L h' m → News h₀ L h' news → Q (.int (k % 18446744073709551616) t) { s with heap := h', toks := tks }) : wpAny (model PySem.Challenge.rw_pf0284_01.row.prog w) (ktrTop dp un gd cn cs L a ccd cl outer) (call (.ref 74) [.int k t, .int 64 u]) Q E s := by
  with_unfolding_all exact EK.E_wrap_c.all ⟨w, mean, mg, mb, dp, un, gd, cn, cs, a, ccd, cl, outer, A₀, base, h₀, L, m, s, Q, E⟩ news k t u B F X T hk N h1 h2 hd hu hret
namespace EK.E_signbit_c
theorem core : @P w mean mg mb dp un gd cn cs a ccd cl outer A₀ base h₀ L m s Q E := by
  intro news k t u B F X T hk N h1 h2 hd hu hret
  k_steps
  rw [sign_64 h1 h2]
  exact hret _ _ (by assumption) (by (first | assumption | exact news_tl (by assumption) | exact news_tl (news_tl (by assumption)) | exact news_tl (news_tl (news_tl (by assumption))) | exact news_tl (news_tl (news_tl (news_tl (by assumption)))) | exact news_tl (news_tl (news_tl (news_tl (news_tl (by assumption))))) | exact news_tl (news_tl (news_tl (news_tl (news_tl (news_tl (by assumption)))))) | exact news_tl (news_tl (news_tl (news_tl (news_tl (news_tl (news_tl (by assumption)))))))))
end EK.E_signbit_c
theorem EK.E_signbit_c.all : ∀ c, EK.E_signbit_c.Pc c := by
  have h : EK.E_signbit_c.Pc kc := by with_unfolding_all exact EK.E_signbit_c.core
  rw [EK.eqk14] at h
  exact first_all (r := EK.lst15) h
theorem EK.eqk15 : kc = first EK.lst15 := EK.eqk14.trans (first_skip EK.E_signbit_c.all)
theorem signbit_c {w : World} {mean : ExcName → Option Value} {mg mb : Str → Option Value} {dp un : Nat} {gd : Option (List Code)} {cn : Str} {cs : Scope} {a : Addr} {ccd : Value} {cl : List (Str × Addr)} {outer : List Env} {A₀ : Around} {base h₀ : Heap} {L : Addr} {m : Str → Option Value} {s : Shared} {Q E : Value → Shared → Prop} (news : List (Addr × Obj)) (k : Int) (t u : Tok)
    (B : Below A₀ base outer h₀) (F : Fr h₀ L s.heap m) (X : (hd.heap_1 w.params).In h₀) (T : Top viewP LZ mean mg mb h₀) (hk : cs.kind = .function)
    (N : News h₀ L s.heap news) (h1 : 0 ≤ k) (h2 : k < 18446744073709551616)
    (hd : dp + 5 < recursionLimit) (hu : un + 60 < cLine)
    (hret : ∀ (h' : Heap) (tks : Nat), Fr h₀ L h' m → News h₀ L h' news → Q (.bool (decide (9223372036854775808 ≤ k))) { s with heap := h', toks := tks }) : wpAny (model PySem.Challenge.rw_pf0284_01.row.prog w) (ktrTop dp un gd cn cs L a ccd cl outer) (call (.ref 256) [.int k t, .int 64 u]) Q E s := by
  with_unfolding_all exact EK.E_signbit_c.all ⟨w, mean, mg, mb, dp, un, gd, cn, cs, a, ccd, cl, outer, A₀, base, h₀, L, m, s, Q, E⟩ news k t u B F X T hk N h1 h2 hd hu hret
end
end
section
open PyProof.V
theorem kw21 : True := by
 w_top off
 k_with "fold9" => (try (refine letf (by assumption) ?_; intro m9ᵩ F9ᵩ))
 trivial
theorem dz {x y : Int} (h1 : 0 ≤ x) (h2 : x < 4611686018427387904) (h3 : 0 ≤ y) (h4 : y < 4611686018427387904) : ((x - y) % 18446744073709551616 == 0) = decide (x = y) := by
  by_cases h : x = y
  · subst h; simp
  · rw [decide_eq_false h]
    have : (x - y) % 18446744073709551616 ≠ 0 := by omega
    simpa using this
theorem dsg {x y : Int} (h1 : 0 ≤ x) (h2 : x < 4611686018427387904) (h3 : 0 ≤ y) (h4 : y < 4611686018427387904) : decide (9223372036854775808 ≤ (x - y) % 18446744073709551616) = decide (x < y) := by
  by_cases h : x < y
  · rw [decide_eq_true h, decide_eq_true (by omega)]
  · rw [decide_eq_false h, decide_eq_false (by omega)]
theorem FlD.conv {od : Obj} {c z s v z' s' : Value} (h : FlD od c z s v) (ez : z = z') (es : s = s') : FlD od c z' s' v := ez ▸ es ▸ h
theorem FlD.at {od : Obj} {fl fd : Addr} {l : List (Addr × Obj)} {c z s v : Value} (h : FlD od c z s v) (h1 : (fl, instObj 238 fd) ∈ l) (h2 : (fd, od) ∈ l) : FlagsAt l fl c z s v := by
  obtain ⟨q1, q2, q3, q4, t1, t2, t3, t4, n, rfl⟩ := h
  exact ⟨fd, q1, q2, q3, q4, t1, t2, t3, t4, n, h1, h2⟩
section
theorem signbit0_c {w : World} {mean : ExcName → Option Value} {mg mb : Str → Option Value} {dp un : Nat} {gd : Option (List Code)} {cn : Str} {cs : Scope} {a : Addr} {ccd : Value} {cl : List (Str × Addr)} {outer : List Env} {A₀ : Around} {base h₀ : Heap} {L : Addr} {m : Str → Option Value} {s : Shared} {Q E : Value → Shared → Prop} (news : List (Addr × Obj)) (k : Int) (t u : Tok)
    (B : Below A₀ base outer h₀) (F : Fr h₀ L s.heap m) (X : (hd.heap_1 w.params).In h₀) (T : Top viewP LZ mean mg mb h₀) (hk : cs.kind = .function)
    (N : News h₀ L s.heap news) (h1 : 0 ≤ k) (h2 : k < 9223372036854775808)
    (hd : dp + 5 < recursionLimit) (hu : un + 60 < cLine)
    (hret : ∀ (h' : Heap) (tks : Nat), Fr h₀ L h' m → News h₀ L h' news → Q (.bool false) { s with heap := h', toks := tks }) :
    wpAny (model PySem.Challenge.rw_pf0284_01.row.prog w) (ktrTop dp un gd cn cs L a ccd cl outer) (call (.ref 256) [.int k t, .int 64 u]) Q E s :=
  signbit_c  _ _ _ _ B F X T hk N h1 (by omega) hd hu fun h' tks F' N' => by
    rw [decide_eq_false (by omega)]
    exact hret h' tks F' N'
theorem kw22 : True := by
 w_top off
 k_with "call ref" => (k_here; (with_reducible show wpAny _ _ (call (Value.ref _) _) _ _ _); k_dflt (refine' call_cls (by k_asm) (by k_asm) (by k_asm) (by k_is) (by k_is) (by k_is) ?_; k_whole); intro x'ᵩ d'ᵩ h'ᵩ F'ᵩ N'ᵩ l1ᵩ l2ᵩ; (try k_lt l1ᵩ); (try k_lt2 l2ᵩ); k_extra "c9")
 k_with "call ref" => (k_here; (with_reducible show wpAny _ _ (call (Value.ref 74) [_, _]) _ _ _); k_dflt (refine' wrap_c  _ _ _ _ ?B ?F ?X ?T ?k ?N ?a ?b ?d ?u ?_; (case B => k_asm); (case F => k_asm); (case X => k_asm); (case T => k_asm); (case k => first | exact rfl | assumption); (case N => k_asm); (case a => omega); (case b => omega); (case d => first | exact rmc0 (by assumption) (by decide) | exact rmc 1 (by assumption) (by decide) | exact rmc 2 (by assumption) (by decide) | exact rmc 3 (by assumption) (by decide)); (case u => first | exact rmu0 (by assumption) (by decide) | exact rmu 3 (by assumption) (by decide) | exact rmu 6 (by assumption) (by decide) | exact rmu 9 (by assumption) (by decide) | exact rmu 1 (by assumption) (by decide) | exact rmu 4 (by assumption) (by decide) | exact rmu 7 (by assumption) (by decide))); intro t'ᵩ h'ᵩ tks'ᵩ F'ᵩ N'ᵩ)
 k_with "call ref" => (k_here; (with_reducible show wpAny _ _ (call (Value.ref 256) _) _ _ _); k_dflt (first
  | (refine' signbit0_c  _ _ _ _ ?B ?F ?X ?T ?k ?N ?a ?b ?d ?u ?_; (case B => k_asm); (case F => k_asm); (case X => k_asm); (case T => k_asm); (case k => first | exact rfl | assumption); (case N => k_asm); (case a => omega); (case b => omega); (case d => first | exact rmc0 (by assumption) (by decide) | exact rmc 1 (by assumption) (by decide) | exact rmc 2 (by assumption) (by decide) | exact rmc 3 (by assumption) (by decide)); (case u => first | exact rmu0 (by assumption) (by decide) | exact rmu 3 (by assumption) (by decide) | exact rmu 6 (by assumption) (by decide) | exact rmu 9 (by assumption) (by decide) | exact rmu 1 (by assumption) (by decide) | exact rmu 4 (by assumption) (by decide) | exact rmu 7 (by assumption) (by decide)))
  | (refine' signbit_c  _ _ _ _ ?B ?F ?X ?T ?k ?N ?a ?b ?d ?u ?_; (case B => k_asm); (case F => k_asm); (case X => k_asm); (case T => k_asm); (case k => first | exact rfl | assumption); (case N => k_asm); (case a => omega); (case b => omega); (case d => first | exact rmc0 (by assumption) (by decide) | exact rmc 1 (by assumption) (by decide) | exact rmc 2 (by assumption) (by decide) | exact rmc 3 (by assumption) (by decide)); (case u => first | exact rmu0 (by assumption) (by decide) | exact rmu 3 (by assumption) (by decide) | exact rmu 6 (by assumption) (by decide) | exact rmu 9 (by assumption) (by decide) | exact rmu 1 (by assumption) (by decide) | exact rmu 4 (by assumption) (by decide) | exact rmu 7 (by assumption) (by decide)))); intro h'ᵩ tks'ᵩ F'ᵩ N'ᵩ)
 trivial
namespace EK.E_dflags_c
theorem core : @P w mean mg mb dp un gd cn cs a ccd cl outer A₀ base h₀ L m s Q E := by
  intro news x y t u v B F X T hk N h1 h2 h3 h4 hd hu hret
  k_steps
  refine hret _ _ _ _ _ (by assumption) (by assumption) (by assumption) (by assumption) ?_
  exact FlD.conv ⟨_, _, _, _, _, _, _, _, _, rfl⟩ (congrArg Value.bool (dz h1 h2 h3 h4)) (congrArg Value.bool (dsg h1 h2 h3 h4))
end EK.E_dflags_c
theorem EK.E_dflags_c.all : ∀ c, EK.E_dflags_c.Pc c := by
  have h : EK.E_dflags_c.Pc kc := by with_unfolding_all exact EK.E_dflags_c.core
  rw [EK.eqk15] at h
  exact first_all (r := EK.lst16) h
theorem EK.eqk16 : kc = first EK.lst16 := EK.eqk15.trans (first_skip EK.E_dflags_c.all)
theorem dflags_c {w : World} {mean : ExcName → Option Value} {mg mb : Str → Option Value} {dp un : Nat} {gd : Option (List Code)} {cn : Str} {cs : Scope} {a : Addr} {ccd : Value} {cl : List (Str × Addr)} {outer : List Env} {A₀ : Around} {base h₀ : Heap} {L : Addr} {m : Str → Option Value} {s : Shared} {Q E : Value → Shared → Prop} (news : List (Addr × Obj)) (x y : Int) (t u v : Tok)
    (B : Below A₀ base outer h₀) (F : Fr h₀ L s.heap m) (X : (hd.heap_1 w.params).In h₀) (T : Top viewP LZ mean mg mb h₀) (hk : cs.kind = .function)
    (N : News h₀ L s.heap news) (h1 : 0 ≤ x) (h2 : x < 4611686018427387904) (h3 : 0 ≤ y) (h4 : y < 4611686018427387904)
    (hd : dp + 15 < recursionLimit) (hu : un + 150 < cLine)
    (hret : ∀ (fx fd : Addr) (od : Obj) (h' : Heap) (tks : Nat), Fr h₀ L h' m → News h₀ L h' ((fx, instObj 238 fd) :: (fd, od) :: news) → (∀ p ∈ news, p.1 < fd) → @LT.lt Nat _ fd fx → FlD od (.bool (decide (x < y))) (.bool (decide (x = y))) (.bool (decide (x < y))) (.bool false) → Q (.ref fx) { s with heap := h', toks := tks }) : wpAny (model PySem.Challenge.rw_pf0284_01.row.prog w) (ktrTop dp un gd cn cs L a ccd cl outer) (call (.ref 277) [.int x t, .int y u, .int 64 v]) Q E s := by
  with_unfolding_all exact EK.E_dflags_c.all ⟨w, mean, mg, mb, dp, un, gd, cn, cs, a, ccd, cl, outer, A₀, base, h₀, L, m, s, Q, E⟩ news x y t u v B F X T hk N h1 h2 h3 h4 hd hu hret
namespace EK.E_sflags_c
theorem core : @P w mean mg mb dp un gd cn cs a ccd cl outer A₀ base h₀ L m s Q E := by
  intro news x y t u v B F X T hk N h1 h2 h3 h4 hd hu hret
  k_steps
  exact hret _ _ _ _ _ (by assumption) (by assumption) (by assumption) (by assumption)
end EK.E_sflags_c
theorem EK.E_sflags_c.all : ∀ c, EK.E_sflags_c.Pc c := by
  have h : EK.E_sflags_c.Pc kc := by with_unfolding_all exact EK.E_sflags_c.core
  rw [EK.eqk16] at h
  exact first_all (r := EK.lst17) h
theorem EK.eqk17 : kc = first EK.lst17 := EK.eqk16.trans (first_skip EK.E_sflags_c.all)
theorem sflags_c {w : World} {mean : ExcName → Option Value} {mg mb : Str → Option Value} {dp un : Nat} {gd : Option (List Code)} {cn : Str} {cs : Scope} {a : Addr} {ccd : Value} {cl : List (Str × Addr)} {outer : List Env} {A₀ : Around} {base h₀ : Heap} {L : Addr} {m : Str → Option Value} {s : Shared} {Q E : Value → Shared → Prop} (news : List (Addr × Obj)) (x y : Int) (t u v : Tok)
    (B : Below A₀ base outer h₀) (F : Fr h₀ L s.heap m) (X : (hd.heap_1 w.params).In h₀) (T : Top viewP LZ mean mg mb h₀) (hk : cs.kind = .function)
    (N : News h₀ L s.heap news) (h1 : 0 ≤ x) (h2 : x < 4611686018427387904) (h3 : 0 ≤ y) (h4 : y < 4611686018427387904)
    (hd : dp + 15 < recursionLimit) (hu : un + 150 < cLine)
    (hret : ∀ (fx fd : Addr) (od : Obj) (h' : Heap) (tks : Nat), Fr h₀ L h' m → News h₀ L h' ((fx, instObj 238 fd) :: (fd, od) :: news) → (∀ p ∈ news, p.1 < fd) → @LT.lt Nat _ fd fx → Q (.ref fx) { s with heap := h', toks := tks }) : wpAny (model PySem.Challenge.rw_pf0284_01.row.prog w) (ktrTop dp un gd cn cs L a ccd cl outer) (call (.ref 270) [.int x t, .int y u, .int 64 v]) Q E s := by
  with_unfolding_all exact EK.E_sflags_c.all ⟨w, mean, mg, mb, dp, un, gd, cn, cs, a, ccd, cl, outer, A₀, base, h₀, L, m, s, Q, E⟩ news x y t u v B F X T hk N h1 h2 h3 h4 hd hu hret
end
end
section
open PyProof.V
theorem kw23 : True := by
 w_top off
 k_with_none
 k_with "ml" => first | assumption | (refine memsub (by assumption) ?_; first | assumption | exact List.Mem.head _ | (refine List.Mem.tail _ ?_; first | exact List.Mem.head _ | (refine List.Mem.tail _ ?_; first | exact List.Mem.head _ | (refine List.Mem.tail _ ?_; first | exact List.Mem.head _ | (refine List.Mem.tail _ ?_; first | assumption) | assumption) | assumption) | assumption) | assumption)
 k_with "k_mem" => first | exact List.Mem.head _ | (refine List.Mem.tail _ ?_; k_extra "k_mem") | k_extra "ml"
 k_with "ks" => repeat' (first | (k_unfold; (try dsimp only)) | (k_end; kc_close) | (walk1; (try (first | (with_reducible show wpAny _ _ (exec _ _) _ _ _; (try dsimp only); (refine letq ?_; intro qk9ᵩ); (try with_reducible refine wpst ?_; intro tk9ᵩ); (try walk_at "fold9")) | (with_reducible show wpAny _ _ (execs _ _) _ _ _; k_fold)))) | (dsimp only; walk1) | (leave1; walk_say "STEP leave1"; try dsimp only) | (k_unmd; k_unfold; (try dsimp only)) | fail "no step")
 k_with "in9" => first | with_reducible assumption | (refine' Frag.In.keeps ?y9X (Fr.keep ?y9F); (case y9F => k_asm); (case y9X => k_asm))
 k_with "eval Constant str" => with_reducible refine kstr ?_
 k_with "eval Constant int" => with_reducible refine kint ?_
 k_with "oc" => first | (apply c1; assumption) | (apply c2; assumption) | (apply l2; assumption) | (apply c3; assumption) | (apply c4; assumption) | (apply c5; assumption) | (apply c6; assumption) | (apply c7; assumption) | (apply c8; assumption) | (apply c9; assumption) | (apply c10; assumption) | (apply c11; assumption) | (apply c12; assumption) | (apply c13; assumption) | (apply c14; assumption) | (apply c15; assumption) | (apply c16; assumption)
 k_with "od" => first | (apply c1; assumption) | (apply c2; assumption) | (apply l2; assumption) | (apply c3; assumption) | (apply c4; assumption) | (apply c5; assumption) | (apply c6; assumption) | (apply c7; assumption)
 k_with "on" => first | (apply zsy; assumption) | (apply zgt; first | assumption | k_extra "oc") | (apply zlt; first | assumption | k_extra "oc") | (apply gtt; assumption; first | assumption | k_extra "od") | (apply ltt; assumption; first | assumption | k_extra "od")
 k_with "oi" => first | exact nn0 | exact nn0' | exact z63 (by assumption) (by assumption) | exact z63b (by assumption) (by assumption) | exact n63 (by assumption) (by assumption) | exact n63b (by assumption) (by assumption) | exact z63c (by assumption) (by assumption) | exact z63d (by assumption) (by assumption) | exact nlt (by assumption) | exact n62 (by assumption) | exact n62b (by assumption) | exact tnl (by assumption) (by assumption) | exact sub1 (by assumption) | exact sub2 (by assumption) (by assumption) | decide | exact Int.lt_of_lt_of_le (by assumption) (by decide) | exact Nat.le_trans (by assumption) (by decide) | exact ul (by assumption) (by decide) | exact up0 (by assumption) (by assumption) | k_extra "oc"
 k_with "om" => first | (k_whole; with_reducible (first | assumption | (show @Ne Nat _ _; k_extra "on") | (show @Eq Nat _ _; first | exact tn1 (by assumption) | exact z0i) | ((first | show @LT.lt Int _ _ _ | show @LE.le Int _ _ _ | show @LT.lt Nat _ _ _ | show @LE.le Nat _ _ _); k_extra "oi")))
 k_with "execs cons If" => (k_here; (with_reducible show wpAny _ _ (execs (PySem.Stmt.If (PySem.Expr.Compare (PySem.Expr.Name _ _) [.Eq] [PySem.Expr.Constant (.str _) _ _] _) _ _ _ :: _) _) _ _ _); first | ((with_reducible show wpAny _ _ (execs (PySem.Stmt.If _ _ [] _ :: _) _) _ _ _); k_dflt (refine' cif_f ?F ?v ?x ?c ?k ?d ?_; (case F => k_asm); (case x => kernel_rfl!); (case k => kernel_rfl!); (case d => kernel_rfl!); (case v => rfl); (case c => first | with_reducible assumption | kernel_rfl!); k_whole)) | ((with_reducible show wpAny _ _ (execs [PySem.Stmt.If _ _ (_ :: _) _] _) _ _ _); k_dflt (refine' cif_g ?F ?v ?x ?c ?k ?d ?_; (case F => k_asm); (case x => kernel_rfl!); (case k => kernel_rfl!); (case d => kernel_rfl!); (case v => rfl); (case c => first | with_reducible assumption | kernel_rfl!); k_whole)) | ((with_reducible show wpAny _ _ (execs [PySem.Stmt.If _ _ _ _] _) _ _ _); k_dflt (refine' cif_t ?F ?v ?x ?c ?k ?d ?_; (case F => k_asm); (case x => kernel_rfl!); (case k => kernel_rfl!); (case d => kernel_rfl!); (case v => rfl); (case c => first | with_reducible assumption | kernel_rfl!); k_whole)) | k_dflt (refine' cif_r ?F ?v ?x ?c ?k ?d ?_; (case F => k_asm); (case x => kernel_rfl!); (case k => kernel_rfl!); (case d => kernel_rfl!); (case v => rfl); (case c => first | with_reducible assumption | kernel_rfl!); k_whole))
 k_with "callWith" => ((with_reducible show wpAny _ _ (callWith _ (Value.builtin _) (_ :: _) (backTo _ (starEach (_ :: _) _)) []) _ _ _); refine callWith_method1 ?_)
 k_with "callWith ref" => (k_here; k_dflt (first | (refine' callWith_K ?y9k ?y9l ?_; (case y9k => k_asm); (case y9l => k_is); k_whole) | (refine' callWith_K0 ?y9k ?y9l ?_; (case y9k => k_in); (case y9l => k_is); k_whole)))
 k_with "eval Name" => (k_here; (fail_if_success (with_reducible show wpAny _ _ (eval (PySem.Expr.Name _ _) (compEnvC _ _ _ _)) _ _ _)); k_dflt (first | (refine' nameX_L ?y9F ?y9v ?_ ?y9a ?y9b ?y9d; (case y9F => k_asm); (case y9a => kernel_rfl!); (case y9b => kernel_rfl!); (case y9d => kernel_rfl!); (case y9v => rfl); k_whole) | (refine' nameX_K ?y9F ?y9X ?y9T ?y9e ?_ ?y9a ?y9b; (case y9F => k_asm); (case y9X => k_asm); (case y9T => k_asm); (case y9a => kernel_rfl!); (case y9b => kernel_rfl!); (case y9e => k_is); k_whole) | (refine' nameX_C ?y9N ?y9c ?y9m ?y9d ?_ ?y9a ?y9b; (case y9a => kernel_rfl!); (case y9b => kernel_rfl!); (case y9N => k_asm); (case y9c => rfl); (case y9m => k_mem); (case y9d => k_asm); k_whole) | (refine' nameX_B ?y9F ?y9X ?y9T ?y9e ?y9v ?y9n ?_ ?y9a ?y9b; (case y9F => k_asm); (case y9X => k_asm); (case y9T => k_asm); (case y9a => kernel_rfl!); (case y9b => kernel_rfl!); (case y9e => k_is); (case y9v => boot_fast); (case y9n => decide); k_whole)))
 k_with "execs cons Return" => with_reducible refine cret ?_
 k_with "newTuple" => (k_here; k_dflt (refine' kup_newTuple (by k_asm) (by k_asm) ?_ (by kmk_size)); intro D'ᵩ h'ᵩ F'ᵩ N'ᵩ l1ᵩ; have l2ᵩ := l1ᵩ; (try k_lt l1ᵩ))
 k_with "k9" => (first | exact rfl | assumption)
 k_with "d9" => (first | exact rmc0 (by assumption) (by decide) | exact rmc 1 (by assumption) (by decide) | exact rmc 2 (by assumption) (by decide) | exact rmc 3 (by assumption) (by decide))
 k_with "u9" => (first | exact rmu0 (by assumption) (by decide) | exact rmu 3 (by assumption) (by decide) | exact rmu 6 (by assumption) (by decide) | exact rmu 9 (by assumption) (by decide) | exact rmu 1 (by assumption) (by decide) | exact rmu 4 (by assumption) (by decide) | exact rmu 7 (by assumption) (by decide))
 k_with "r9" => (first | exact rm0 (by assumption) | exact rm 1 (by assumption) (by decide) | exact rm 2 (by assumption) (by decide) | exact rm 3 (by assumption) (by decide) | exact rm 4 (by assumption) (by decide))
 k_with "b9" => (first | exact BindsTo.of_eq rfl | exact binds_K (by k_in) rfl (by k_is) rfl rfl rfl)
 k_with "c9" => (k_dflt (refine' code_def ?k1 ?k2 ?k3 ?k4 ?k5 ?kA ?kF ?kK ?k6 ?k7 ?k8 ?k9 ?kB ?_ ?c2 ?c3 ?c4 ?c5; (case kA => exact rfl); (case kF => exact rfl); (case kK => k_extra "k9"); (case k1 => k_asm); (case k2 => k_asm); (case k3 => k_asm); (case k4 => k_asm); (case k5 => k_asm); (case k6 => k_is); (case k7 => k_is); (case k8 => k_extra "r9"); (case k9 => k_extra "b9"); (case c5 => decide); (case kB => exact locs rfl); (case c2 => exact rfl); (case c3 => exact rfl); (case c4 => exact rfl); k_whole); intro g'ᵩ L'ᵩ h'ᵩ FG'ᵩ F'ᵩ N'ᵩ B'ᵩ X'ᵩ T'ᵩ; (try dsimp only))
 k_with "i9" => (k_dflt (refine' item_led (by k_asm) (by k_mem) (by omega) (by with_reducible assumption) (by omega) ?_ (by with_unfolding_all rfl); k_whole))
 k_with "j9" => (first | k_dflt (refine' item_tupleT (News.isTup (by k_asm) (by k_mem)) (by decide) (by decide) (by rfl) (by rfl) ?_ (by with_unfolding_all rfl); k_whole) | k_extra "i9")
 k_with "mo" => exact ⟨_, _, _, _, _, _, _, _, ⟨_, _, _, _, _, _, _, _, _, _, _, _, _, _, _, _, _, _, _, _, _, rfl⟩⟩
 k_with "nt" => (first | assumption | exact news_tl (by assumption) | exact news_tl (news_tl (by assumption)) | exact news_tl (news_tl (news_tl (by assumption))) | exact news_tl (news_tl (news_tl (news_tl (by assumption)))) | exact news_tl (news_tl (news_tl (news_tl (news_tl (by assumption))))) | exact news_tl (news_tl (news_tl (news_tl (news_tl (news_tl (by assumption)))))) | exact news_tl (news_tl (news_tl (news_tl (news_tl (news_tl (news_tl (by assumption))))))))
 k_with "subscriptTail Attribute Subscript Constant ref int" => (k_here; k_extra "j9")
 k_with "subscriptTail Name Constant ref int" => (k_here; k_extra "j9")
 k_with "subscriptTail Attribute Name Constant ref int" => (k_here; k_extra "j9")
 k_with "subscriptTail Name Name ref int" => (k_here; k_extra "i9")
 k_with "ite" => first | with_reducible refine ite_tt ?_ | with_reducible refine ite_ff ?_ | (k_closed; k_dflt (first | (with_reducible refine' ite_bp ?y9z ?_; (case y9z => kernel_rfl!)) | (with_reducible refine' ite_bn ?y9z ?_; (case y9z => kernel_rfl!)) | refine ite_pos (by decide) ?_ | refine ite_neg (by decide) ?_)) | (with_reducible refine ite_af (by decide +kernel) ?_) | (with_reducible refine ite_at (by decide +kernel) ?_) | (with_reducible refine ite_dp (by omega) ?_) | (with_reducible refine ite_dn (by omega) ?_) | (with_reducible refine ite_bp (by assumption) ?_) | (with_reducible refine ite_bn (by assumption) ?_)
 k_with "call builtin:len" => (k_here; (with_reducible show wpAny _ _ (call (Value.builtin "len") [Value.ref _]) _ _ _); k_dflt (refine' len_led (by k_asm) (by k_mem) (by with_reducible assumption) (by omega) ?_; k_whole))
 k_with "call ref" => (k_here; (with_reducible show wpAny _ _ (call (Value.ref _) _) _ _ _); refine wpAny_call ?_; k_extra "c9")
 trivial
theorem news_cmp {h₀ h : Heap} {L : Addr} {a b c e f : Addr × Obj} {l : List (Addr × Obj)} (N : News h₀ L h (a :: b :: c :: e :: f :: l)) : News h₀ L h (e :: f :: b :: c :: l) := news_sub N (by repeat' (first | exact fun _ h => h | refine subl_cons (by k_mem) ?_ | (intro p hp; k_mem)))
theorem off_cmp {fx fd dx rg : Addr} {o o' : Obj} {own : List (Addr × Obj)} (h : OwnOff own [dx, rg]) (h1 : @LT.lt Nat _ dx fx) (h2 : @LT.lt Nat _ rg fx) (h3 : @LT.lt Nat _ dx fd) (h4 : @LT.lt Nat _ rg fd) : OwnOff ((fx, o) :: (fd, o') :: own) [dx, rg] := by
  intro p hp b hb
  simp only [List.mem_cons, List.not_mem_nil, or_false] at hp hb
  rcases hb with rfl | rfl
  · rcases hp with rfl | rfl | hp
    · exact Nat.ne_of_gt h1
    · exact Nat.ne_of_gt h3
    · exact h p hp _ (.head _)
  · rcases hp with rfl | rfl | hp
    · exact Nat.ne_of_gt h2
    · exact Nat.ne_of_gt h4
    · exact h p hp _ (.tail _ (.head _))
section
theorem kw24 : True := by
 w_top off
 k_with "call ref" => (k_here; (with_reducible show wpAny _ _ (call (Value.ref 74) [_, _]) _ _ _); k_dflt (refine' wrap_c  _ _ _ _ ?B ?F ?X ?T ?k ?N ?a ?b ?d ?u ?_; (case B => k_asm); (case F => k_asm); (case X => k_asm); (case T => k_asm); (case k => first | exact rfl | assumption); (case N => k_asm); (case a => omega); (case b => omega); (case d => first | exact rmc0 (by assumption) (by decide) | exact rmc 1 (by assumption) (by decide) | exact rmc 2 (by assumption) (by decide) | exact rmc 3 (by assumption) (by decide)); (case u => first | exact rmu0 (by assumption) (by decide) | exact rmu 3 (by assumption) (by decide) | exact rmu 6 (by assumption) (by decide) | exact rmu 9 (by assumption) (by decide) | exact rmu 1 (by assumption) (by decide) | exact rmu 4 (by assumption) (by decide) | exact rmu 7 (by assumption) (by decide))); intro t'ᵩ h'ᵩ tks'ᵩ F'ᵩ N'ᵩ)
 trivial
namespace EK.E_take_c
theorem core : @P w mean mg mb dp un gd cn cs a ccd cl outer A₀ base h₀ L m s Q E := by
  intro own x dx rg o gs regs kk i t u B F X T hk N hx hM hg hl h0 h1 hb hd hu hret
  obtain ⟨l, md, fl, pl, at', order, steps, over, q1, q2, q3, q4, q5, q6, q7, q8, q9, t1, t2, t3, t4, t5, t6, t7, t8, t9, ta, to, ts, rfl⟩ := hM
  k_steps
  rw [Int.emod_eq_of_lt hb.1 (by omega)]
  exact hret _ _ _ (by assumption) (by (first | assumption | exact news_tl (by assumption) | exact news_tl (news_tl (by assumption)) | exact news_tl (news_tl (news_tl (by assumption))) | exact news_tl (news_tl (news_tl (news_tl (by assumption)))) | exact news_tl (news_tl (news_tl (news_tl (news_tl (by assumption))))) | exact news_tl (news_tl (news_tl (news_tl (news_tl (news_tl (by assumption)))))) | exact news_tl (news_tl (news_tl (news_tl (news_tl (news_tl (news_tl (by assumption)))))))))
end EK.E_take_c
theorem EK.E_take_c.all : ∀ c, EK.E_take_c.Pc c := by
  have h : EK.E_take_c.Pc kc := by with_unfolding_all exact EK.E_take_c.core
  rw [EK.eqk17] at h
  exact first_all (r := EK.lst18) h
theorem EK.eqk18 : kc = first EK.lst18 := EK.eqk17.trans (first_skip EK.E_take_c.all)
theorem take_c {w : World} {mean : ExcName → Option Value} {mg mb : Str → Option Value} {dp un : Nat} {gd : Option (List Code)} {cn : Str} {cs : Scope} {a : Addr} {ccd : Value} {cl : List (Str × Addr)} {outer : List Env} {A₀ : Around} {base h₀ : Heap} {L : Addr} {m : Str → Option Value} {s : Shared} {Q E : Value → Shared → Prop} (own : List (Addr × Obj)) (x dx rg : Addr) (o : Obj) (gs : List Value) (regs : List Int) (kk : Nat) (i : Int) (t u : Tok)
    (B : Below A₀ base outer h₀) (F : Fr h₀ L s.heap m) (X : (hd.heap_1 w.params).In h₀) (T : Top viewP LZ mean mg mb h₀) (hk : cs.kind = .function)
    (N : News h₀ L s.heap ((dx, o) :: (rg, listOf gs.toArray kk) :: own)) (hx : (x, instObj 450 dx) ∈ own) (hM : MO o rg) (hg : IntsAre gs regs) (hl : regs.length = 16) (h0 : 0 ≤ i) (h1 : i < 16)
    (hb : 0 ≤ regs.getD i.toNat 0 ∧ regs.getD i.toNat 0 < 9223372036854775808)
    (hd : dp + 8 < recursionLimit) (hu : un + 80 < cLine)
    (hret : ∀ (t : Tok) (h' : Heap) (tks : Nat), Fr h₀ L h' m → News h₀ L h' ((dx, o) :: (rg, listOf gs.toArray kk) :: own) → Q (.int (regs.getD i.toNat 0) t) { s with heap := h', toks := tks }) : wpAny (model PySem.Challenge.rw_pf0284_01.row.prog w) (ktrTop dp un gd cn cs L a ccd cl outer) (call (.ref 363) [.ref x, .int i t, .int 64 u]) Q E s := by
  with_unfolding_all exact EK.E_take_c.all ⟨w, mean, mg, mb, dp, un, gd, cn, cs, a, ccd, cl, outer, A₀, base, h₀, L, m, s, Q, E⟩ own x dx rg o gs regs kk i t u B F X T hk N hx hM hg hl h0 h1 hb hd hu hret
namespace EK.E_put_c
theorem core : @P w mean mg mb dp un gd cn cs a ccd cl outer A₀ base h₀ L m s Q E := by
  intro own x dx rg o gs regs kk i v t u t' B F X T hk N hx hM hg hl h0 h1 hof hdr hb hd hu hret
  obtain ⟨l, md, fl, pl, at', order, steps, over, q1, q2, q3, q4, q5, q6, q7, q8, q9, t1, t2, t3, t4, t5, t6, t7, t8, t9, ta, to, ts, rfl⟩ := hM
  k_steps
  rename News _ _ _ _ => N7
  rename IntsAre _ _ => hi
  have e2 : regs.set i.toNat (v % 18446744073709551616) = regs.set i.toNat v := by rw [Int.emod_eq_of_lt hb.1 (by omega)]
  refine hret _ .none _ _ (by assumption) N7 ?_
  rw [← e2]
  exact hi
end EK.E_put_c
theorem EK.E_put_c.all : ∀ c, EK.E_put_c.Pc c := by
  have h : EK.E_put_c.Pc kc := by with_unfolding_all exact EK.E_put_c.core
  rw [EK.eqk18] at h
  exact first_all (r := EK.lst19) h
theorem EK.eqk19 : kc = first EK.lst19 := EK.eqk18.trans (first_skip EK.E_put_c.all)
theorem put_c {w : World} {mean : ExcName → Option Value} {mg mb : Str → Option Value} {dp un : Nat} {gd : Option (List Code)} {cn : Str} {cs : Scope} {a : Addr} {ccd : Value} {cl : List (Str × Addr)} {outer : List Env} {A₀ : Around} {base h₀ : Heap} {L : Addr} {m : Str → Option Value} {s : Shared} {Q E : Value → Shared → Prop} (own : List (Addr × Obj)) (x dx rg : Addr) (o : Obj) (gs : List Value) (regs : List Int) (kk : Nat) (i v : Int) (t u t' : Tok)
    (B : Below A₀ base outer h₀) (F : Fr h₀ L s.heap m) (X : (hd.heap_1 w.params).In h₀) (T : Top viewP LZ mean mg mb h₀) (hk : cs.kind = .function)
    (N : News h₀ L s.heap ((dx, o) :: (rg, listOf gs.toArray kk) :: own)) (hx : (x, instObj 450 dx) ∈ own) (hM : MO o rg) (hg : IntsAre gs regs) (hl : regs.length = 16) (h0 : 0 ≤ i) (h1 : i < 16) (hof : OwnOff own [dx, rg]) (hdr : @LT.lt Nat _ dx rg)
    (hb : 0 ≤ v ∧ v < 9223372036854775808)
    (hd : dp + 8 < recursionLimit) (hu : un + 80 < cLine)
    (hret : ∀ (gs' : List Value) (r : Value) (h' : Heap) (tks : Nat), Fr h₀ L h' m → News h₀ L h' ((dx, o) :: (rg, listOf gs'.toArray kk) :: own) → IntsAre gs' (regs.set i.toNat v) → Q .none { s with heap := h', toks := tks }) : wpAny (model PySem.Challenge.rw_pf0284_01.row.prog w) (ktrTop dp un gd cn cs L a ccd cl outer) (call (.ref 355) [.ref x, .int i t, .int v u, .int 64 t']) Q E s := by
  with_unfolding_all exact EK.E_put_c.all ⟨w, mean, mg, mb, dp, un, gd, cn, cs, a, ccd, cl, outer, A₀, base, h₀, L, m, s, Q, E⟩ own x dx rg o gs regs kk i v t u t' B F X T hk N hx hM hg hl h0 h1 hof hdr hb hd hu hret
end
end
section
open PyProof.V
section
theorem kw25 : True := by
 w_top off
 k_with_none
 k_with "ml" => first | assumption | (refine memsub (by assumption) ?_; first | assumption | exact List.Mem.head _ | (refine List.Mem.tail _ ?_; first | exact List.Mem.head _ | (refine List.Mem.tail _ ?_; first | exact List.Mem.head _ | (refine List.Mem.tail _ ?_; first | exact List.Mem.head _ | (refine List.Mem.tail _ ?_; first | assumption) | assumption) | assumption) | assumption) | assumption)
 k_with "k_mem" => first | exact List.Mem.head _ | (refine List.Mem.tail _ ?_; k_extra "k_mem") | k_extra "ml"
 k_with "ks" => repeat' (first | (k_unfold; (try dsimp only)) | (k_end; kc_close) | (walk1; (try (first | (with_reducible show wpAny _ _ (exec _ _) _ _ _; (try dsimp only); (refine letq ?_; intro qk9ᵩ); (try with_reducible refine wpst ?_; intro tk9ᵩ); (try walk_at "fold9")) | (with_reducible show wpAny _ _ (execs _ _) _ _ _; k_fold)))) | (dsimp only; walk1) | (leave1; walk_say "STEP leave1"; try dsimp only) | (k_unmd; k_unfold; (try dsimp only)) | fail "no step")
 k_with "in9" => first | with_reducible assumption | (refine' Frag.In.keeps ?y9X (Fr.keep ?y9F); (case y9F => k_asm); (case y9X => k_asm))
 k_with "eval Constant str" => with_reducible refine kstr ?_
 k_with "eval Constant int" => with_reducible refine kint ?_
 k_with "oc" => first | (apply c1; assumption) | (apply c2; assumption) | (apply l2; assumption) | (apply c3; assumption) | (apply c4; assumption) | (apply c5; assumption) | (apply c6; assumption) | (apply c7; assumption) | (apply c8; assumption) | (apply c9; assumption) | (apply c10; assumption) | (apply c11; assumption) | (apply c12; assumption) | (apply c13; assumption) | (apply c14; assumption) | (apply c15; assumption) | (apply c16; assumption)
 k_with "od" => first | (apply c1; assumption) | (apply c2; assumption) | (apply l2; assumption) | (apply c3; assumption) | (apply c4; assumption) | (apply c5; assumption) | (apply c6; assumption) | (apply c7; assumption)
 k_with "on" => first | (apply zsy; assumption) | (apply zgt; first | assumption | k_extra "oc") | (apply zlt; first | assumption | k_extra "oc") | (apply gtt; assumption; first | assumption | k_extra "od") | (apply ltt; assumption; first | assumption | k_extra "od")
 k_with "oi" => first | exact nn0 | exact nn0' | exact z63 (by assumption) (by assumption) | exact z63b (by assumption) (by assumption) | exact n63 (by assumption) (by assumption) | exact n63b (by assumption) (by assumption) | exact z63c (by assumption) (by assumption) | exact z63d (by assumption) (by assumption) | exact nlt (by assumption) | exact n62 (by assumption) | exact n62b (by assumption) | exact tnl (by assumption) (by assumption) | exact sub1 (by assumption) | exact sub2 (by assumption) (by assumption) | decide | exact Int.lt_of_lt_of_le (by assumption) (by decide) | exact Nat.le_trans (by assumption) (by decide) | exact ul (by assumption) (by decide) | exact up0 (by assumption) (by assumption) | k_extra "oc"
 k_with "om" => first | (k_whole; with_reducible (first | assumption | (show @Ne Nat _ _; k_extra "on") | (show @Eq Nat _ _; first | exact tn1 (by assumption) | exact z0i) | ((first | show @LT.lt Int _ _ _ | show @LE.le Int _ _ _ | show @LT.lt Nat _ _ _ | show @LE.le Nat _ _ _); k_extra "oi")))
 k_with "execs cons If" => (k_here; (with_reducible show wpAny _ _ (execs (PySem.Stmt.If (PySem.Expr.Compare (PySem.Expr.Name _ _) [.Eq] [PySem.Expr.Constant (.str _) _ _] _) _ _ _ :: _) _) _ _ _); first | ((with_reducible show wpAny _ _ (execs (PySem.Stmt.If _ _ [] _ :: _) _) _ _ _); k_dflt (refine' cif_f ?F ?v ?x ?c ?k ?d ?_; (case F => k_asm); (case x => kernel_rfl!); (case k => kernel_rfl!); (case d => kernel_rfl!); (case v => rfl); (case c => first | with_reducible assumption | kernel_rfl!); k_whole)) | ((with_reducible show wpAny _ _ (execs [PySem.Stmt.If _ _ (_ :: _) _] _) _ _ _); k_dflt (refine' cif_g ?F ?v ?x ?c ?k ?d ?_; (case F => k_asm); (case x => kernel_rfl!); (case k => kernel_rfl!); (case d => kernel_rfl!); (case v => rfl); (case c => first | with_reducible assumption | kernel_rfl!); k_whole)) | ((with_reducible show wpAny _ _ (execs [PySem.Stmt.If _ _ _ _] _) _ _ _); k_dflt (refine' cif_t ?F ?v ?x ?c ?k ?d ?_; (case F => k_asm); (case x => kernel_rfl!); (case k => kernel_rfl!); (case d => kernel_rfl!); (case v => rfl); (case c => first | with_reducible assumption | kernel_rfl!); k_whole)) | k_dflt (refine' cif_r ?F ?v ?x ?c ?k ?d ?_; (case F => k_asm); (case x => kernel_rfl!); (case k => kernel_rfl!); (case d => kernel_rfl!); (case v => rfl); (case c => first | with_reducible assumption | kernel_rfl!); k_whole))
 k_with "callWith" => ((with_reducible show wpAny _ _ (callWith _ (Value.builtin _) (_ :: _) (backTo _ (starEach (_ :: _) _)) []) _ _ _); refine callWith_method1 ?_)
 k_with "callWith ref" => (k_here; k_dflt (first | (refine' callWith_K ?y9k ?y9l ?_; (case y9k => k_asm); (case y9l => k_is); k_whole) | (refine' callWith_K0 ?y9k ?y9l ?_; (case y9k => k_in); (case y9l => k_is); k_whole)))
 k_with "eval Name" => (k_here; (fail_if_success (with_reducible show wpAny _ _ (eval (PySem.Expr.Name _ _) (compEnvC _ _ _ _)) _ _ _)); k_dflt (first | (refine' nameX_L ?y9F ?y9v ?_ ?y9a ?y9b ?y9d; (case y9F => k_asm); (case y9a => kernel_rfl!); (case y9b => kernel_rfl!); (case y9d => kernel_rfl!); (case y9v => rfl); k_whole) | (refine' nameX_K ?y9F ?y9X ?y9T ?y9e ?_ ?y9a ?y9b; (case y9F => k_asm); (case y9X => k_asm); (case y9T => k_asm); (case y9a => kernel_rfl!); (case y9b => kernel_rfl!); (case y9e => k_is); k_whole) | (refine' nameX_C ?y9N ?y9c ?y9m ?y9d ?_ ?y9a ?y9b; (case y9a => kernel_rfl!); (case y9b => kernel_rfl!); (case y9N => k_asm); (case y9c => rfl); (case y9m => k_mem); (case y9d => k_asm); k_whole) | (refine' nameX_B ?y9F ?y9X ?y9T ?y9e ?y9v ?y9n ?_ ?y9a ?y9b; (case y9F => k_asm); (case y9X => k_asm); (case y9T => k_asm); (case y9a => kernel_rfl!); (case y9b => kernel_rfl!); (case y9e => k_is); (case y9v => boot_fast); (case y9n => decide); k_whole)))
 k_with "execs cons Return" => with_reducible refine cret ?_
 k_with "newTuple" => (k_here; k_dflt (refine' kup_newTuple (by k_asm) (by k_asm) ?_ (by kmk_size)); intro D'ᵩ h'ᵩ F'ᵩ N'ᵩ l1ᵩ; have l2ᵩ := l1ᵩ; (try k_lt l1ᵩ))
 k_with "k9" => (first | exact rfl | assumption)
 k_with "d9" => (first | exact rmc0 (by assumption) (by decide) | exact rmc 1 (by assumption) (by decide) | exact rmc 2 (by assumption) (by decide) | exact rmc 3 (by assumption) (by decide))
 k_with "u9" => (first | exact rmu0 (by assumption) (by decide) | exact rmu 3 (by assumption) (by decide) | exact rmu 6 (by assumption) (by decide) | exact rmu 9 (by assumption) (by decide) | exact rmu 1 (by assumption) (by decide) | exact rmu 4 (by assumption) (by decide) | exact rmu 7 (by assumption) (by decide))
 k_with "r9" => (first | exact rm0 (by assumption) | exact rm 1 (by assumption) (by decide) | exact rm 2 (by assumption) (by decide) | exact rm 3 (by assumption) (by decide) | exact rm 4 (by assumption) (by decide))
 k_with "b9" => (first | exact BindsTo.of_eq rfl | exact binds_K (by k_in) rfl (by k_is) rfl rfl rfl)
 k_with "c9" => (k_dflt (refine' code_def ?k1 ?k2 ?k3 ?k4 ?k5 ?kA ?kF ?kK ?k6 ?k7 ?k8 ?k9 ?kB ?_ ?c2 ?c3 ?c4 ?c5; (case kA => exact rfl); (case kF => exact rfl); (case kK => k_extra "k9"); (case k1 => k_asm); (case k2 => k_asm); (case k3 => k_asm); (case k4 => k_asm); (case k5 => k_asm); (case k6 => k_is); (case k7 => k_is); (case k8 => k_extra "r9"); (case k9 => k_extra "b9"); (case c5 => decide); (case kB => exact locs rfl); (case c2 => exact rfl); (case c3 => exact rfl); (case c4 => exact rfl); k_whole); intro g'ᵩ L'ᵩ h'ᵩ FG'ᵩ F'ᵩ N'ᵩ B'ᵩ X'ᵩ T'ᵩ; (try dsimp only))
 k_with "i9" => (k_dflt (refine' item_led (by k_asm) (by k_mem) (by omega) (by with_reducible assumption) (by omega) ?_ (by with_unfolding_all rfl); k_whole))
 k_with "j9" => (first | k_dflt (refine' item_tupleT (News.isTup (by k_asm) (by k_mem)) (by decide) (by decide) (by rfl) (by rfl) ?_ (by with_unfolding_all rfl); k_whole) | k_extra "i9")
 k_with "mo" => exact ⟨_, _, _, _, _, _, _, _, ⟨_, _, _, _, _, _, _, _, _, _, _, _, _, _, _, _, _, _, _, _, _, rfl⟩⟩
 k_with "nt" => (first | assumption | exact news_tl (by assumption) | exact news_tl (news_tl (by assumption)) | exact news_tl (news_tl (news_tl (by assumption))) | exact news_tl (news_tl (news_tl (news_tl (by assumption)))) | exact news_tl (news_tl (news_tl (news_tl (news_tl (by assumption))))) | exact news_tl (news_tl (news_tl (news_tl (news_tl (news_tl (by assumption)))))) | exact news_tl (news_tl (news_tl (news_tl (news_tl (news_tl (news_tl (by assumption))))))))
 k_with "subscriptTail Attribute Subscript Constant ref int" => (k_here; k_extra "j9")
 k_with "subscriptTail Name Constant ref int" => (k_here; k_extra "j9")
 k_with "subscriptTail Attribute Name Constant ref int" => (k_here; k_extra "j9")
 k_with "subscriptTail Name Name ref int" => (k_here; k_extra "i9")
 k_with "ite" => first | with_reducible refine ite_tt ?_ | with_reducible refine ite_ff ?_ | (k_closed; k_dflt (first | (with_reducible refine' ite_bp ?y9z ?_; (case y9z => kernel_rfl!)) | (with_reducible refine' ite_bn ?y9z ?_; (case y9z => kernel_rfl!)) | refine ite_pos (by decide) ?_ | refine ite_neg (by decide) ?_)) | (with_reducible refine ite_af (by decide +kernel) ?_) | (with_reducible refine ite_at (by decide +kernel) ?_) | (with_reducible refine ite_dp (by omega) ?_) | (with_reducible refine ite_dn (by omega) ?_) | (with_reducible refine ite_bp (by assumption) ?_) | (with_reducible refine ite_bn (by assumption) ?_)
 k_with "call builtin:len" => (k_here; (with_reducible show wpAny _ _ (call (Value.builtin "len") [Value.ref _]) _ _ _); k_dflt (refine' len_led (by k_asm) (by k_mem) (by with_reducible assumption) (by omega) ?_; k_whole))
 k_with "call ref" => (k_here; (with_reducible show wpAny _ _ (call (Value.ref _) _) _ _ _); refine wpAny_call ?_; k_extra "c9")
 k_with "fold9" => (try (refine letf (by assumption) ?_; intro m9ᵩ F9ᵩ))
 trivial
namespace EK.E_moveno_c
theorem core : @P w mean mg mb dp un gd cn cs a ccd cl outer A₀ base h₀ L m s Q E := by
  intro news x p nm t B F X T hk N hn hd hu hret
  simp only [List.mem_cons, List.not_mem_nil, or_false] at hn
  rcases hn with rfl | rfl | rfl | rfl | rfl <;> ((k_dflt (refine' code_def ?k1 ?k2 ?k3 ?k4 ?k5 ?kA ?kF ?kK ?k6 ?k7 ?k8 ?k9 ?kB ?_ ?c2 ?c3 ?c4 ?c5; (case kA => exact rfl); (case kF => exact rfl); (case kK => first | exact rfl | assumption); (case k1 => k_asm); (case k2 => k_asm); (case k3 => k_asm); (case k4 => k_asm); (case k5 => k_asm); (case k6 => k_is); (case k7 => k_is); (case k8 => first | exact rm0 (by assumption) | exact rm 1 (by assumption) (by decide) | exact rm 2 (by assumption) (by decide) | exact rm 3 (by assumption) (by decide) | exact rm 4 (by assumption) (by decide)); (case k9 => first | exact BindsTo.of_eq rfl | exact binds_K (by k_in) rfl (by k_is) rfl rfl rfl); (case c5 => decide); (case kB => exact locs rfl); (case c2 => exact rfl); (case c3 => exact rfl); (case c4 => exact rfl); k_whole)); (intro g' L' h' FG' F' N' B' X' T'); (try dsimp only)) <;> k_steps <;> exact hret _ _ (by assumption) (by (first | assumption | exact news_tl (by assumption) | exact news_tl (news_tl (by assumption)) | exact news_tl (news_tl (news_tl (by assumption))) | exact news_tl (news_tl (news_tl (news_tl (by assumption)))) | exact news_tl (news_tl (news_tl (news_tl (news_tl (by assumption))))) | exact news_tl (news_tl (news_tl (news_tl (news_tl (news_tl (by assumption)))))) | exact news_tl (news_tl (news_tl (news_tl (news_tl (news_tl (news_tl (by assumption)))))))))
end EK.E_moveno_c
theorem EK.E_moveno_c.all : ∀ c, EK.E_moveno_c.Pc c := by
  have h : EK.E_moveno_c.Pc kc := by with_unfolding_all exact EK.E_moveno_c.core
  rw [EK.eqk19] at h
  exact first_all (r := EK.lst20) h
theorem EK.eqk20 : kc = first EK.lst20 := EK.eqk19.trans (first_skip EK.E_moveno_c.all)
theorem moveno_c {w : World} {mean : ExcName → Option Value} {mg mb : Str → Option Value} {dp un : Nat} {gd : Option (List Code)} {cn : Str} {cs : Scope} {a : Addr} {ccd : Value} {cl : List (Str × Addr)} {outer : List Env} {A₀ : Around} {base h₀ : Heap} {L : Addr} {m : Str → Option Value} {s : Shared} {Q E : Value → Shared → Prop} (news : List (Addr × Obj)) (x p : Addr) (nm : Str) (t : Tok)
    (B : Below A₀ base outer h₀) (F : Fr h₀ L s.heap m) (X : (hd.heap_1 w.params).In h₀) (T : Top viewP LZ mean mg mb h₀) (hk : cs.kind = .function)
    (N : News h₀ L s.heap news) (hn : nm ∈ [Str.ofString "add", Str.ofString "cmp_imm", Str.ofString "jcc", Str.ofString "jmp", Str.ofString "ret"])
    (hd : dp + 8 < recursionLimit) (hu : un + 80 < cLine)
    (hret : ∀ (h' : Heap) (tks : Nat), Fr h₀ L h' m → News h₀ L h' news → Q (.bool false) { s with heap := h', toks := tks }) : codeAny (model PySem.Challenge.rw_pf0284_01.row.prog w) (ktrTop dp un gd cn cs L a ccd cl outer) (.call (.ref 384) ⟨[.ref x, .str nm t, .ref p], []⟩) (fun r s' => match r with | .ok (.ret v) => Q v s' | .ok _ => False | .error e => E e s') s := by
  with_unfolding_all exact EK.E_moveno_c.all ⟨w, mean, mg, mb, dp, un, gd, cn, cs, a, ccd, cl, outer, A₀, base, h₀, L, m, s, Q, E⟩ news x p nm t B F X T hk N hn hd hu hret
namespace EK.E_twono_c
theorem core : @P w mean mg mb dp un gd cn cs a ccd cl outer A₀ base h₀ L m s Q E := by
  intro news x p nm t B F X T hk N hn hd hu hret
  simp only [List.mem_cons, List.not_mem_nil, or_false] at hn
  rcases hn with rfl | rfl | rfl <;> ((k_dflt (refine' code_def ?k1 ?k2 ?k3 ?k4 ?k5 ?kA ?kF ?kK ?k6 ?k7 ?k8 ?k9 ?kB ?_ ?c2 ?c3 ?c4 ?c5; (case kA => exact rfl); (case kF => exact rfl); (case kK => first | exact rfl | assumption); (case k1 => k_asm); (case k2 => k_asm); (case k3 => k_asm); (case k4 => k_asm); (case k5 => k_asm); (case k6 => k_is); (case k7 => k_is); (case k8 => first | exact rm0 (by assumption) | exact rm 1 (by assumption) (by decide) | exact rm 2 (by assumption) (by decide) | exact rm 3 (by assumption) (by decide) | exact rm 4 (by assumption) (by decide)); (case k9 => first | exact BindsTo.of_eq rfl | exact binds_K (by k_in) rfl (by k_is) rfl rfl rfl); (case c5 => decide); (case kB => exact locs rfl); (case c2 => exact rfl); (case c3 => exact rfl); (case c4 => exact rfl); k_whole)); (intro g' L' h' FG' F' N' B' X' T'); (try dsimp only)) <;> k_steps <;> exact hret _ _ (by assumption) (by (first | assumption | exact news_tl (by assumption) | exact news_tl (news_tl (by assumption)) | exact news_tl (news_tl (news_tl (by assumption))) | exact news_tl (news_tl (news_tl (news_tl (by assumption)))) | exact news_tl (news_tl (news_tl (news_tl (news_tl (by assumption))))) | exact news_tl (news_tl (news_tl (news_tl (news_tl (news_tl (by assumption)))))) | exact news_tl (news_tl (news_tl (news_tl (news_tl (news_tl (news_tl (by assumption)))))))))
end EK.E_twono_c
theorem EK.E_twono_c.all : ∀ c, EK.E_twono_c.Pc c := by
  have h : EK.E_twono_c.Pc kc := by with_unfolding_all exact EK.E_twono_c.core
  rw [EK.eqk20] at h
  exact first_all (r := EK.lst21) h
theorem EK.eqk21 : kc = first EK.lst21 := EK.eqk20.trans (first_skip EK.E_twono_c.all)
theorem twono_c {w : World} {mean : ExcName → Option Value} {mg mb : Str → Option Value} {dp un : Nat} {gd : Option (List Code)} {cn : Str} {cs : Scope} {a : Addr} {ccd : Value} {cl : List (Str × Addr)} {outer : List Env} {A₀ : Around} {base h₀ : Heap} {L : Addr} {m : Str → Option Value} {s : Shared} {Q E : Value → Shared → Prop} (news : List (Addr × Obj)) (x p : Addr) (nm : Str) (t : Tok)
    (B : Below A₀ base outer h₀) (F : Fr h₀ L s.heap m) (X : (hd.heap_1 w.params).In h₀) (T : Top viewP LZ mean mg mb h₀) (hk : cs.kind = .function)
    (N : News h₀ L s.heap news) (hn : nm ∈ [Str.ofString "jcc", Str.ofString "jmp", Str.ofString "ret"])
    (hd : dp + 8 < recursionLimit) (hu : un + 80 < cLine)
    (hret : ∀ (h' : Heap) (tks : Nat), Fr h₀ L h' m → News h₀ L h' news → Q (.bool false) { s with heap := h', toks := tks }) : codeAny (model PySem.Challenge.rw_pf0284_01.row.prog w) (ktrTop dp un gd cn cs L a ccd cl outer) (.call (.ref 391) ⟨[.ref x, .str nm t, .ref p], []⟩) (fun r s' => match r with | .ok (.ret v) => Q v s' | .ok _ => False | .error e => E e s') s := by
  with_unfolding_all exact EK.E_twono_c.all ⟨w, mean, mg, mb, dp, un, gd, cn, cs, a, ccd, cl, outer, A₀, base, h₀, L, m, s, Q, E⟩ news x p nm t B F X T hk N hn hd hu hret
namespace EK.E_shiftno_c
theorem core : @P w mean mg mb dp un gd cn cs a ccd cl outer A₀ base h₀ L m s Q E := by
  intro news x p nm t B F X T hk N hn hd hu hret
  simp only [List.mem_cons, List.not_mem_nil, or_false] at hn
  rcases hn with rfl | rfl | rfl <;> ((k_dflt (refine' code_def ?k1 ?k2 ?k3 ?k4 ?k5 ?kA ?kF ?kK ?k6 ?k7 ?k8 ?k9 ?kB ?_ ?c2 ?c3 ?c4 ?c5; (case kA => exact rfl); (case kF => exact rfl); (case kK => first | exact rfl | assumption); (case k1 => k_asm); (case k2 => k_asm); (case k3 => k_asm); (case k4 => k_asm); (case k5 => k_asm); (case k6 => k_is); (case k7 => k_is); (case k8 => first | exact rm0 (by assumption) | exact rm 1 (by assumption) (by decide) | exact rm 2 (by assumption) (by decide) | exact rm 3 (by assumption) (by decide) | exact rm 4 (by assumption) (by decide)); (case k9 => first | exact BindsTo.of_eq rfl | exact binds_K (by k_in) rfl (by k_is) rfl rfl rfl); (case c5 => decide); (case kB => exact locs rfl); (case c2 => exact rfl); (case c3 => exact rfl); (case c4 => exact rfl); k_whole)); (intro g' L' h' FG' F' N' B' X' T'); (try dsimp only)) <;> k_steps <;> exact hret _ _ (by assumption) (by (first | assumption | exact news_tl (by assumption) | exact news_tl (news_tl (by assumption)) | exact news_tl (news_tl (news_tl (by assumption))) | exact news_tl (news_tl (news_tl (news_tl (by assumption)))) | exact news_tl (news_tl (news_tl (news_tl (news_tl (by assumption))))) | exact news_tl (news_tl (news_tl (news_tl (news_tl (news_tl (by assumption)))))) | exact news_tl (news_tl (news_tl (news_tl (news_tl (news_tl (news_tl (by assumption)))))))))
end EK.E_shiftno_c
theorem EK.E_shiftno_c.all : ∀ c, EK.E_shiftno_c.Pc c := by
  have h : EK.E_shiftno_c.Pc kc := by with_unfolding_all exact EK.E_shiftno_c.core
  rw [EK.eqk21] at h
  exact first_all (r := EK.lst22) h
theorem EK.eqk22 : kc = first EK.lst22 := EK.eqk21.trans (first_skip EK.E_shiftno_c.all)
theorem shiftno_c {w : World} {mean : ExcName → Option Value} {mg mb : Str → Option Value} {dp un : Nat} {gd : Option (List Code)} {cn : Str} {cs : Scope} {a : Addr} {ccd : Value} {cl : List (Str × Addr)} {outer : List Env} {A₀ : Around} {base h₀ : Heap} {L : Addr} {m : Str → Option Value} {s : Shared} {Q E : Value → Shared → Prop} (news : List (Addr × Obj)) (x p : Addr) (nm : Str) (t : Tok)
    (B : Below A₀ base outer h₀) (F : Fr h₀ L s.heap m) (X : (hd.heap_1 w.params).In h₀) (T : Top viewP LZ mean mg mb h₀) (hk : cs.kind = .function)
    (N : News h₀ L s.heap news) (hn : nm ∈ [Str.ofString "jcc", Str.ofString "jmp", Str.ofString "ret"])
    (hd : dp + 8 < recursionLimit) (hu : un + 80 < cLine)
    (hret : ∀ (h' : Heap) (tks : Nat), Fr h₀ L h' m → News h₀ L h' news → Q (.bool false) { s with heap := h', toks := tks }) : codeAny (model PySem.Challenge.rw_pf0284_01.row.prog w) (ktrTop dp un gd cn cs L a ccd cl outer) (.call (.ref 398) ⟨[.ref x, .str nm t, .ref p], []⟩) (fun r s' => match r with | .ok (.ret v) => Q v s' | .ok _ => False | .error e => E e s') s := by
  with_unfolding_all exact EK.E_shiftno_c.all ⟨w, mean, mg, mb, dp, un, gd, cn, cs, a, ccd, cl, outer, A₀, base, h₀, L, m, s, Q, E⟩ news x p nm t B F X T hk N hn hd hu hret
namespace EK.E_divno_c
theorem core : @P w mean mg mb dp un gd cn cs a ccd cl outer A₀ base h₀ L m s Q E := by
  intro news x p nm t B F X T hk N hn hd hu hret
  simp only [List.mem_cons, List.not_mem_nil, or_false] at hn
  rcases hn with rfl | rfl | rfl <;> ((k_dflt (refine' code_def ?k1 ?k2 ?k3 ?k4 ?k5 ?kA ?kF ?kK ?k6 ?k7 ?k8 ?k9 ?kB ?_ ?c2 ?c3 ?c4 ?c5; (case kA => exact rfl); (case kF => exact rfl); (case kK => first | exact rfl | assumption); (case k1 => k_asm); (case k2 => k_asm); (case k3 => k_asm); (case k4 => k_asm); (case k5 => k_asm); (case k6 => k_is); (case k7 => k_is); (case k8 => first | exact rm0 (by assumption) | exact rm 1 (by assumption) (by decide) | exact rm 2 (by assumption) (by decide) | exact rm 3 (by assumption) (by decide) | exact rm 4 (by assumption) (by decide)); (case k9 => first | exact BindsTo.of_eq rfl | exact binds_K (by k_in) rfl (by k_is) rfl rfl rfl); (case c5 => decide); (case kB => exact locs rfl); (case c2 => exact rfl); (case c3 => exact rfl); (case c4 => exact rfl); k_whole)); (intro g' L' h' FG' F' N' B' X' T'); (try dsimp only)) <;> k_steps <;> exact hret _ _ (by assumption) (by (first | assumption | exact news_tl (by assumption) | exact news_tl (news_tl (by assumption)) | exact news_tl (news_tl (news_tl (by assumption))) | exact news_tl (news_tl (news_tl (news_tl (by assumption)))) | exact news_tl (news_tl (news_tl (news_tl (news_tl (by assumption))))) | exact news_tl (news_tl (news_tl (news_tl (news_tl (news_tl (by assumption)))))) | exact news_tl (news_tl (news_tl (news_tl (news_tl (news_tl (news_tl (by assumption)))))))))
end EK.E_divno_c
theorem EK.E_divno_c.all : ∀ c, EK.E_divno_c.Pc c := by
  have h : EK.E_divno_c.Pc kc := by with_unfolding_all exact EK.E_divno_c.core
  rw [EK.eqk22] at h
  exact first_all (r := EK.lst23) h
theorem EK.eqk23 : kc = first EK.lst23 := EK.eqk22.trans (first_skip EK.E_divno_c.all)
theorem divno_c {w : World} {mean : ExcName → Option Value} {mg mb : Str → Option Value} {dp un : Nat} {gd : Option (List Code)} {cn : Str} {cs : Scope} {a : Addr} {ccd : Value} {cl : List (Str × Addr)} {outer : List Env} {A₀ : Around} {base h₀ : Heap} {L : Addr} {m : Str → Option Value} {s : Shared} {Q E : Value → Shared → Prop} (news : List (Addr × Obj)) (x p : Addr) (nm : Str) (t : Tok)
    (B : Below A₀ base outer h₀) (F : Fr h₀ L s.heap m) (X : (hd.heap_1 w.params).In h₀) (T : Top viewP LZ mean mg mb h₀) (hk : cs.kind = .function)
    (N : News h₀ L s.heap news) (hn : nm ∈ [Str.ofString "jcc", Str.ofString "jmp", Str.ofString "ret"])
    (hd : dp + 8 < recursionLimit) (hu : un + 80 < cLine)
    (hret : ∀ (h' : Heap) (tks : Nat), Fr h₀ L h' m → News h₀ L h' news → Q (.bool false) { s with heap := h', toks := tks }) : codeAny (model PySem.Challenge.rw_pf0284_01.row.prog w) (ktrTop dp un gd cn cs L a ccd cl outer) (.call (.ref 405) ⟨[.ref x, .str nm t, .ref p], []⟩) (fun r s' => match r with | .ok (.ret v) => Q v s' | .ok _ => False | .error e => E e s') s := by
  with_unfolding_all exact EK.E_divno_c.all ⟨w, mean, mg, mb, dp, un, gd, cn, cs, a, ccd, cl, outer, A₀, base, h₀, L, m, s, Q, E⟩ news x p nm t B F X T hk N hn hd hu hret
end
end
section
open PyProof.V
section
theorem kw26 : True := by
 w_top off
 k_with_none
 k_with "ml" => first | assumption | (refine memsub (by assumption) ?_; first | assumption | exact List.Mem.head _ | (refine List.Mem.tail _ ?_; first | exact List.Mem.head _ | (refine List.Mem.tail _ ?_; first | exact List.Mem.head _ | (refine List.Mem.tail _ ?_; first | exact List.Mem.head _ | (refine List.Mem.tail _ ?_; first | assumption) | assumption) | assumption) | assumption) | assumption)
 k_with "k_mem" => first | exact List.Mem.head _ | (refine List.Mem.tail _ ?_; k_extra "k_mem") | k_extra "ml"
 k_with "ks" => repeat' (first | (k_unfold; (try dsimp only)) | (k_end; kc_close) | (walk1; (try (first | (with_reducible show wpAny _ _ (exec _ _) _ _ _; (try dsimp only); (refine letq ?_; intro qk9ᵩ); (try with_reducible refine wpst ?_; intro tk9ᵩ); (try walk_at "fold9")) | (with_reducible show wpAny _ _ (execs _ _) _ _ _; k_fold)))) | (dsimp only; walk1) | (leave1; walk_say "STEP leave1"; try dsimp only) | (k_unmd; k_unfold; (try dsimp only)) | fail "no step")
 k_with "in9" => first | with_reducible assumption | (refine' Frag.In.keeps ?y9X (Fr.keep ?y9F); (case y9F => k_asm); (case y9X => k_asm))
 k_with "eval Constant str" => with_reducible refine kstr ?_
 k_with "eval Constant int" => with_reducible refine kint ?_
 k_with "oc" => first | (apply c1; assumption) | (apply c2; assumption) | (apply l2; assumption) | (apply c3; assumption) | (apply c4; assumption) | (apply c5; assumption) | (apply c6; assumption) | (apply c7; assumption) | (apply c8; assumption) | (apply c9; assumption) | (apply c10; assumption) | (apply c11; assumption) | (apply c12; assumption) | (apply c13; assumption) | (apply c14; assumption) | (apply c15; assumption) | (apply c16; assumption)
 k_with "od" => first | (apply c1; assumption) | (apply c2; assumption) | (apply l2; assumption) | (apply c3; assumption) | (apply c4; assumption) | (apply c5; assumption) | (apply c6; assumption) | (apply c7; assumption)
 k_with "on" => first | (apply zsy; assumption) | (apply zgt; first | assumption | k_extra "oc") | (apply zlt; first | assumption | k_extra "oc") | (apply gtt; assumption; first | assumption | k_extra "od") | (apply ltt; assumption; first | assumption | k_extra "od")
 k_with "oi" => first | exact nn0 | exact nn0' | exact z63 (by assumption) (by assumption) | exact z63b (by assumption) (by assumption) | exact n63 (by assumption) (by assumption) | exact n63b (by assumption) (by assumption) | exact z63c (by assumption) (by assumption) | exact z63d (by assumption) (by assumption) | exact nlt (by assumption) | exact n62 (by assumption) | exact n62b (by assumption) | exact tnl (by assumption) (by assumption) | exact sub1 (by assumption) | exact sub2 (by assumption) (by assumption) | decide | exact Int.lt_of_lt_of_le (by assumption) (by decide) | exact Nat.le_trans (by assumption) (by decide) | exact ul (by assumption) (by decide) | exact up0 (by assumption) (by assumption) | k_extra "oc"
 k_with "om" => first | (k_whole; with_reducible (first | assumption | (show @Ne Nat _ _; k_extra "on") | (show @Eq Nat _ _; first | exact tn1 (by assumption) | exact z0i) | ((first | show @LT.lt Int _ _ _ | show @LE.le Int _ _ _ | show @LT.lt Nat _ _ _ | show @LE.le Nat _ _ _); k_extra "oi")))
 k_with "execs cons If" => (k_here; (with_reducible show wpAny _ _ (execs (PySem.Stmt.If (PySem.Expr.Compare (PySem.Expr.Name _ _) [.Eq] [PySem.Expr.Constant (.str _) _ _] _) _ _ _ :: _) _) _ _ _); first | ((with_reducible show wpAny _ _ (execs (PySem.Stmt.If _ _ [] _ :: _) _) _ _ _); k_dflt (refine' cif_f ?F ?v ?x ?c ?k ?d ?_; (case F => k_asm); (case x => kernel_rfl!); (case k => kernel_rfl!); (case d => kernel_rfl!); (case v => rfl); (case c => first | with_reducible assumption | kernel_rfl!); k_whole)) | ((with_reducible show wpAny _ _ (execs [PySem.Stmt.If _ _ (_ :: _) _] _) _ _ _); k_dflt (refine' cif_g ?F ?v ?x ?c ?k ?d ?_; (case F => k_asm); (case x => kernel_rfl!); (case k => kernel_rfl!); (case d => kernel_rfl!); (case v => rfl); (case c => first | with_reducible assumption | kernel_rfl!); k_whole)) | ((with_reducible show wpAny _ _ (execs [PySem.Stmt.If _ _ _ _] _) _ _ _); k_dflt (refine' cif_t ?F ?v ?x ?c ?k ?d ?_; (case F => k_asm); (case x => kernel_rfl!); (case k => kernel_rfl!); (case d => kernel_rfl!); (case v => rfl); (case c => first | with_reducible assumption | kernel_rfl!); k_whole)) | k_dflt (refine' cif_r ?F ?v ?x ?c ?k ?d ?_; (case F => k_asm); (case x => kernel_rfl!); (case k => kernel_rfl!); (case d => kernel_rfl!); (case v => rfl); (case c => first | with_reducible assumption | kernel_rfl!); k_whole))
 k_with "callWith" => ((with_reducible show wpAny _ _ (callWith _ (Value.builtin _) (_ :: _) (backTo _ (starEach (_ :: _) _)) []) _ _ _); refine callWith_method1 ?_)
 k_with "callWith ref" => (k_here; k_dflt (first | (refine' callWith_K ?y9k ?y9l ?_; (case y9k => k_asm); (case y9l => k_is); k_whole) | (refine' callWith_K0 ?y9k ?y9l ?_; (case y9k => k_in); (case y9l => k_is); k_whole)))
 k_with "eval Name" => (k_here; (fail_if_success (with_reducible show wpAny _ _ (eval (PySem.Expr.Name _ _) (compEnvC _ _ _ _)) _ _ _)); k_dflt (first | (refine' nameX_L ?y9F ?y9v ?_ ?y9a ?y9b ?y9d; (case y9F => k_asm); (case y9a => kernel_rfl!); (case y9b => kernel_rfl!); (case y9d => kernel_rfl!); (case y9v => rfl); k_whole) | (refine' nameX_K ?y9F ?y9X ?y9T ?y9e ?_ ?y9a ?y9b; (case y9F => k_asm); (case y9X => k_asm); (case y9T => k_asm); (case y9a => kernel_rfl!); (case y9b => kernel_rfl!); (case y9e => k_is); k_whole) | (refine' nameX_C ?y9N ?y9c ?y9m ?y9d ?_ ?y9a ?y9b; (case y9a => kernel_rfl!); (case y9b => kernel_rfl!); (case y9N => k_asm); (case y9c => rfl); (case y9m => k_mem); (case y9d => k_asm); k_whole) | (refine' nameX_B ?y9F ?y9X ?y9T ?y9e ?y9v ?y9n ?_ ?y9a ?y9b; (case y9F => k_asm); (case y9X => k_asm); (case y9T => k_asm); (case y9a => kernel_rfl!); (case y9b => kernel_rfl!); (case y9e => k_is); (case y9v => boot_fast); (case y9n => decide); k_whole)))
 k_with "execs cons Return" => with_reducible refine cret ?_
 k_with "newTuple" => (k_here; k_dflt (refine' kup_newTuple (by k_asm) (by k_asm) ?_ (by kmk_size)); intro D'ᵩ h'ᵩ F'ᵩ N'ᵩ l1ᵩ; have l2ᵩ := l1ᵩ; (try k_lt l1ᵩ))
 k_with "k9" => (first | exact rfl | assumption)
 k_with "d9" => (first | exact rmc0 (by assumption) (by decide) | exact rmc 1 (by assumption) (by decide) | exact rmc 2 (by assumption) (by decide) | exact rmc 3 (by assumption) (by decide))
 k_with "u9" => (first | exact rmu0 (by assumption) (by decide) | exact rmu 3 (by assumption) (by decide) | exact rmu 6 (by assumption) (by decide) | exact rmu 9 (by assumption) (by decide) | exact rmu 1 (by assumption) (by decide) | exact rmu 4 (by assumption) (by decide) | exact rmu 7 (by assumption) (by decide))
 k_with "r9" => (first | exact rm0 (by assumption) | exact rm 1 (by assumption) (by decide) | exact rm 2 (by assumption) (by decide) | exact rm 3 (by assumption) (by decide) | exact rm 4 (by assumption) (by decide))
 k_with "b9" => (first | exact BindsTo.of_eq rfl | exact binds_K (by k_in) rfl (by k_is) rfl rfl rfl)
 k_with "c9" => (k_dflt (refine' code_def ?k1 ?k2 ?k3 ?k4 ?k5 ?kA ?kF ?kK ?k6 ?k7 ?k8 ?k9 ?kB ?_ ?c2 ?c3 ?c4 ?c5; (case kA => exact rfl); (case kF => exact rfl); (case kK => k_extra "k9"); (case k1 => k_asm); (case k2 => k_asm); (case k3 => k_asm); (case k4 => k_asm); (case k5 => k_asm); (case k6 => k_is); (case k7 => k_is); (case k8 => k_extra "r9"); (case k9 => k_extra "b9"); (case c5 => decide); (case kB => exact locs rfl); (case c2 => exact rfl); (case c3 => exact rfl); (case c4 => exact rfl); k_whole); intro g'ᵩ L'ᵩ h'ᵩ FG'ᵩ F'ᵩ N'ᵩ B'ᵩ X'ᵩ T'ᵩ; (try dsimp only))
 k_with "i9" => (k_dflt (refine' item_led (by k_asm) (by k_mem) (by omega) (by with_reducible assumption) (by omega) ?_ (by with_unfolding_all rfl); k_whole))
 k_with "j9" => (first | k_dflt (refine' item_tupleT (News.isTup (by k_asm) (by k_mem)) (by decide) (by decide) (by rfl) (by rfl) ?_ (by with_unfolding_all rfl); k_whole) | k_extra "i9")
 k_with "mo" => exact ⟨_, _, _, _, _, _, _, _, ⟨_, _, _, _, _, _, _, _, _, _, _, _, _, _, _, _, _, _, _, _, _, rfl⟩⟩
 k_with "nt" => (first | assumption | exact news_tl (by assumption) | exact news_tl (news_tl (by assumption)) | exact news_tl (news_tl (news_tl (by assumption))) | exact news_tl (news_tl (news_tl (news_tl (by assumption)))) | exact news_tl (news_tl (news_tl (news_tl (news_tl (by assumption))))) | exact news_tl (news_tl (news_tl (news_tl (news_tl (news_tl (by assumption)))))) | exact news_tl (news_tl (news_tl (news_tl (news_tl (news_tl (news_tl (by assumption))))))))
 k_with "subscriptTail Attribute Subscript Constant ref int" => (k_here; k_extra "j9")
 k_with "subscriptTail Name Constant ref int" => (k_here; k_extra "j9")
 k_with "subscriptTail Attribute Name Constant ref int" => (k_here; k_extra "j9")
 k_with "subscriptTail Name Name ref int" => (k_here; k_extra "i9")
 k_with "ite" => first | with_reducible refine ite_tt ?_ | with_reducible refine ite_ff ?_ | (k_closed; k_dflt (first | (with_reducible refine' ite_bp ?y9z ?_; (case y9z => kernel_rfl!)) | (with_reducible refine' ite_bn ?y9z ?_; (case y9z => kernel_rfl!)) | refine ite_pos (by decide) ?_ | refine ite_neg (by decide) ?_)) | (with_reducible refine ite_af (by decide +kernel) ?_) | (with_reducible refine ite_at (by decide +kernel) ?_) | (with_reducible refine ite_dp (by omega) ?_) | (with_reducible refine ite_dn (by omega) ?_) | (with_reducible refine ite_bp (by assumption) ?_) | (with_reducible refine ite_bn (by assumption) ?_)
 k_with "call builtin:len" => (k_here; (with_reducible show wpAny _ _ (call (Value.builtin "len") [Value.ref _]) _ _ _); k_dflt (refine' len_led (by k_asm) (by k_mem) (by with_reducible assumption) (by omega) ?_; k_whole))
 k_with "call ref" => (k_here; (with_reducible show wpAny _ _ (call (Value.ref _) _) _ _ _); refine wpAny_call ?_; k_extra "c9")
 k_with "fold9" => ((try (refine letf (by assumption) ?_; intro m9ᵩ F9ᵩ)); (try (refine letn (by assumption) ?_; intro w9ᵩ N9ᵩ)))
 k_with "call ref" => (k_here; (with_reducible show wpAny _ _ (call (Value.ref 355) _) _ _ _); k_dflt (refine' put_c  _ _ _ _ _ _ _ _ _ _ _ _ _ ?B ?F ?X ?T ?k ?N ?hx ?hM ?hg ?hl ?a ?b ?ho ?hr ?hb ?d ?u ?_; (case B => k_asm); (case F => k_asm); (case X => k_asm); (case T => k_asm); (case k => k_extra "k9"); (case N => first | assumption | exact news_cmp (by assumption) | exact news_tl (by assumption)); (case hx => assumption); (case hM => k_extra "mo"); (case hg => with_reducible assumption); (case hl => assumption); (case a => omega); (case b => omega); (case ho => first | assumption | exact off_cmp (by assumption) (by omega) (by omega) (by omega) (by omega)); (case hr => assumption); (case hb => first | assumption | exact ⟨by omega, by omega⟩); (case d => k_extra "d9"); (case u => k_extra "u9")); intro gs'ᵩ r'ᵩ h'ᵩ tks'ᵩ F'ᵩ N'ᵩ hg'ᵩ)
 trivial
namespace EK.E_move_c
theorem core : @P w mean mg mb dp un gd cn cs a ccd cl outer A₀ base h₀ L m s Q E := by
  intro own x dx rg l md pl fl o gs regs kk at' order steps v rs a' b' p k t t1 t2 t3 B F X T hk N hC hM hof hdr hg hl hp4 hd hu hp ok hret
  obtain ⟨q1, q2, q3, q4, q5, q6, q7, q8, q9, u1, u2, u3, u4, u5, u6, u7, u8, u9, ta, to, ts, rfl⟩ := hM
  obtain ⟨⟨k1, k2⟩, k3, k4⟩ := ok
  have hx := hC.inst
  ((k_dflt (refine' code_def ?k1 ?k2 ?k3 ?k4 ?k5 ?kA ?kF ?kK ?k6 ?k7 ?k8 ?k9 ?kB ?_ ?c2 ?c3 ?c4 ?c5; (case kA => exact rfl); (case kF => exact rfl); (case kK => first | exact rfl | assumption); (case k1 => k_asm); (case k2 => k_asm); (case k3 => k_asm); (case k4 => k_asm); (case k5 => k_asm); (case k6 => k_is); (case k7 => k_is); (case k8 => first | exact rm0 (by assumption) | exact rm 1 (by assumption) (by decide) | exact rm 2 (by assumption) (by decide) | exact rm 3 (by assumption) (by decide) | exact rm 4 (by assumption) (by decide)); (case k9 => first | exact BindsTo.of_eq rfl | exact binds_K (by k_in) rfl (by k_is) rfl rfl rfl); (case c5 => decide); (case kB => exact locs rfl); (case c2 => exact rfl); (case c3 => exact rfl); (case c4 => exact rfl); k_whole)); (intro g' L' h' FG' F' N' B' X' T'); (try dsimp only))
  k_steps
  exact hret _ _ _ (by assumption) (by (first | assumption | exact news_tl (by assumption) | exact news_tl (news_tl (by assumption)) | exact news_tl (news_tl (news_tl (by assumption))) | exact news_tl (news_tl (news_tl (news_tl (by assumption)))) | exact news_tl (news_tl (news_tl (news_tl (news_tl (by assumption))))) | exact news_tl (news_tl (news_tl (news_tl (news_tl (news_tl (by assumption)))))) | exact news_tl (news_tl (news_tl (news_tl (news_tl (news_tl (news_tl (by assumption))))))))) (by assumption)
end EK.E_move_c
theorem EK.E_move_c.all : ∀ c, EK.E_move_c.Pc c := by
  have h : EK.E_move_c.Pc kc := by with_unfolding_all exact EK.E_move_c.core
  rw [EK.eqk23] at h
  exact first_all (r := EK.lst24) h
theorem EK.eqk24 : kc = first EK.lst24 := EK.eqk23.trans (first_skip EK.E_move_c.all)
theorem move_c {w : World} {mean : ExcName → Option Value} {mg mb : Str → Option Value} {dp un : Nat} {gd : Option (List Code)} {cn : Str} {cs : Scope} {a : Addr} {ccd : Value} {cl : List (Str × Addr)} {outer : List Env} {A₀ : Around} {base h₀ : Heap} {L : Addr} {m : Str → Option Value} {s : Shared} {Q E : Value → Shared → Prop} (own : List (Addr × Obj)) (x dx rg l md pl fl : Addr) (o : Obj) (gs : List Value) (regs : List Int) (kk : Nat) (at' order steps : Int) (v : Value) (rs : List TR) (a' b' : Int) (p : Addr) (k : Nat) (t t1 t2 t3 : Tok)
    (B : Below A₀ base outer h₀) (F : Fr h₀ L s.heap m) (X : (hd.heap_1 w.params).In h₀) (T : Top viewP LZ mean mg mb h₀) (hk : cs.kind = .function)
    (N : News h₀ L s.heap ((dx, o) :: (rg, listOf gs.toArray kk) :: own)) (hC : MachC PySem.Challenge.rw_pf0284_01.row.prog w own x dx l md pl rs) (hM : MObj o l md rg fl pl at' order steps false) (hof : OwnOff own [dx, rg]) (hdr : @LT.lt Nat _ dx rg) (hg : IntsAre gs regs) (hl : regs.length = 16)
    (hp4 : ∀ i : Nat, i < 4 → 0 ≤ regs.getD i 0 ∧ regs.getD i 0 < 1152921504606846976)
    (hd : dp + 30 < recursionLimit) (hu : un + 300 < cLine)
    (hp : (p, tupO [.int 64 t1, .int a' t2, .int b' t3] k) ∈ own) (ok : (0 ≤ a' ∧ a' < 4) ∧ 0 ≤ b' ∧ b' < 64)
    (hret : ∀ (gs' : List Value) (h' : Heap) (tks : Nat), Fr h₀ L h' m → News h₀ L h' ((dx, o) :: (rg, listOf gs'.toArray kk) :: own) → IntsAre gs' (regs.set a'.toNat b') → Q (.bool true) { s with heap := h', toks := tks }) : codeAny (model PySem.Challenge.rw_pf0284_01.row.prog w) (ktrTop dp un gd cn cs L a ccd cl outer) (.call (.ref 384) ⟨[.ref x, .str (Str.ofString "mov_imm") t, .ref p], []⟩) (fun r s' => match r with | .ok (.ret v) => Q v s' | .ok _ => False | .error e => E e s') s := by
  with_unfolding_all exact EK.E_move_c.all ⟨w, mean, mg, mb, dp, un, gd, cn, cs, a, ccd, cl, outer, A₀, base, h₀, L, m, s, Q, E⟩ own x dx rg l md pl fl o gs regs kk at' order steps v rs a' b' p k t t1 t2 t3 B F X T hk N hC hM hof hdr hg hl hp4 hd hu hp ok hret
end
section
theorem kw27 : True := by
 w_top off
 k_with_none
 k_with "ml" => first | assumption | (refine memsub (by assumption) ?_; first | assumption | exact List.Mem.head _ | (refine List.Mem.tail _ ?_; first | exact List.Mem.head _ | (refine List.Mem.tail _ ?_; first | exact List.Mem.head _ | (refine List.Mem.tail _ ?_; first | exact List.Mem.head _ | (refine List.Mem.tail _ ?_; first | assumption) | assumption) | assumption) | assumption) | assumption)
 k_with "k_mem" => first | exact List.Mem.head _ | (refine List.Mem.tail _ ?_; k_extra "k_mem") | k_extra "ml"
 k_with "ks" => repeat' (first | (k_unfold; (try dsimp only)) | (k_end; kc_close) | (walk1; (try (first | (with_reducible show wpAny _ _ (exec _ _) _ _ _; (try dsimp only); (refine letq ?_; intro qk9ᵩ); (try with_reducible refine wpst ?_; intro tk9ᵩ); (try walk_at "fold9")) | (with_reducible show wpAny _ _ (execs _ _) _ _ _; k_fold)))) | (dsimp only; walk1) | (leave1; walk_say "STEP leave1"; try dsimp only) | (k_unmd; k_unfold; (try dsimp only)) | fail "no step")
 k_with "in9" => first | with_reducible assumption | (refine' Frag.In.keeps ?y9X (Fr.keep ?y9F); (case y9F => k_asm); (case y9X => k_asm))
 k_with "eval Constant str" => with_reducible refine kstr ?_
 k_with "eval Constant int" => with_reducible refine kint ?_
 k_with "oc" => first | (apply c1; assumption) | (apply c2; assumption) | (apply l2; assumption) | (apply c3; assumption) | (apply c4; assumption) | (apply c5; assumption) | (apply c6; assumption) | (apply c7; assumption) | (apply c8; assumption) | (apply c9; assumption) | (apply c10; assumption) | (apply c11; assumption) | (apply c12; assumption) | (apply c13; assumption) | (apply c14; assumption) | (apply c15; assumption) | (apply c16; assumption)
 k_with "od" => first | (apply c1; assumption) | (apply c2; assumption) | (apply l2; assumption) | (apply c3; assumption) | (apply c4; assumption) | (apply c5; assumption) | (apply c6; assumption) | (apply c7; assumption)
 k_with "on" => first | (apply zsy; assumption) | (apply zgt; first | assumption | k_extra "oc") | (apply zlt; first | assumption | k_extra "oc") | (apply gtt; assumption; first | assumption | k_extra "od") | (apply ltt; assumption; first | assumption | k_extra "od")
 k_with "oi" => first | exact nn0 | exact nn0' | exact z63 (by assumption) (by assumption) | exact z63b (by assumption) (by assumption) | exact n63 (by assumption) (by assumption) | exact n63b (by assumption) (by assumption) | exact z63c (by assumption) (by assumption) | exact z63d (by assumption) (by assumption) | exact nlt (by assumption) | exact n62 (by assumption) | exact n62b (by assumption) | exact tnl (by assumption) (by assumption) | exact sub1 (by assumption) | exact sub2 (by assumption) (by assumption) | decide | exact Int.lt_of_lt_of_le (by assumption) (by decide) | exact Nat.le_trans (by assumption) (by decide) | exact ul (by assumption) (by decide) | exact up0 (by assumption) (by assumption) | k_extra "oc"
 k_with "om" => first | (k_whole; with_reducible (first | assumption | (show @Ne Nat _ _; k_extra "on") | (show @Eq Nat _ _; first | exact tn1 (by assumption) | exact z0i) | ((first | show @LT.lt Int _ _ _ | show @LE.le Int _ _ _ | show @LT.lt Nat _ _ _ | show @LE.le Nat _ _ _); k_extra "oi")))
 k_with "execs cons If" => (k_here; (with_reducible show wpAny _ _ (execs (PySem.Stmt.If (PySem.Expr.Compare (PySem.Expr.Name _ _) [.Eq] [PySem.Expr.Constant (.str _) _ _] _) _ _ _ :: _) _) _ _ _); first | ((with_reducible show wpAny _ _ (execs (PySem.Stmt.If _ _ [] _ :: _) _) _ _ _); k_dflt (refine' cif_f ?F ?v ?x ?c ?k ?d ?_; (case F => k_asm); (case x => kernel_rfl!); (case k => kernel_rfl!); (case d => kernel_rfl!); (case v => rfl); (case c => first | with_reducible assumption | kernel_rfl!); k_whole)) | ((with_reducible show wpAny _ _ (execs [PySem.Stmt.If _ _ (_ :: _) _] _) _ _ _); k_dflt (refine' cif_g ?F ?v ?x ?c ?k ?d ?_; (case F => k_asm); (case x => kernel_rfl!); (case k => kernel_rfl!); (case d => kernel_rfl!); (case v => rfl); (case c => first | with_reducible assumption | kernel_rfl!); k_whole)) | ((with_reducible show wpAny _ _ (execs [PySem.Stmt.If _ _ _ _] _) _ _ _); k_dflt (refine' cif_t ?F ?v ?x ?c ?k ?d ?_; (case F => k_asm); (case x => kernel_rfl!); (case k => kernel_rfl!); (case d => kernel_rfl!); (case v => rfl); (case c => first | with_reducible assumption | kernel_rfl!); k_whole)) | k_dflt (refine' cif_r ?F ?v ?x ?c ?k ?d ?_; (case F => k_asm); (case x => kernel_rfl!); (case k => kernel_rfl!); (case d => kernel_rfl!); (case v => rfl); (case c => first | with_reducible assumption | kernel_rfl!); k_whole))
 k_with "callWith" => ((with_reducible show wpAny _ _ (callWith _ (Value.builtin _) (_ :: _) (backTo _ (starEach (_ :: _) _)) []) _ _ _); refine callWith_method1 ?_)
 k_with "callWith ref" => (k_here; k_dflt (first | (refine' callWith_K ?y9k ?y9l ?_; (case y9k => k_asm); (case y9l => k_is); k_whole) | (refine' callWith_K0 ?y9k ?y9l ?_; (case y9k => k_in); (case y9l => k_is); k_whole)))
 k_with "eval Name" => (k_here; (fail_if_success (with_reducible show wpAny _ _ (eval (PySem.Expr.Name _ _) (compEnvC _ _ _ _)) _ _ _)); k_dflt (first | (refine' nameX_L ?y9F ?y9v ?_ ?y9a ?y9b ?y9d; (case y9F => k_asm); (case y9a => kernel_rfl!); (case y9b => kernel_rfl!); (case y9d => kernel_rfl!); (case y9v => rfl); k_whole) | (refine' nameX_K ?y9F ?y9X ?y9T ?y9e ?_ ?y9a ?y9b; (case y9F => k_asm); (case y9X => k_asm); (case y9T => k_asm); (case y9a => kernel_rfl!); (case y9b => kernel_rfl!); (case y9e => k_is); k_whole) | (refine' nameX_C ?y9N ?y9c ?y9m ?y9d ?_ ?y9a ?y9b; (case y9a => kernel_rfl!); (case y9b => kernel_rfl!); (case y9N => k_asm); (case y9c => rfl); (case y9m => k_mem); (case y9d => k_asm); k_whole) | (refine' nameX_B ?y9F ?y9X ?y9T ?y9e ?y9v ?y9n ?_ ?y9a ?y9b; (case y9F => k_asm); (case y9X => k_asm); (case y9T => k_asm); (case y9a => kernel_rfl!); (case y9b => kernel_rfl!); (case y9e => k_is); (case y9v => boot_fast); (case y9n => decide); k_whole)))
 k_with "execs cons Return" => with_reducible refine cret ?_
 k_with "newTuple" => (k_here; k_dflt (refine' kup_newTuple (by k_asm) (by k_asm) ?_ (by kmk_size)); intro D'ᵩ h'ᵩ F'ᵩ N'ᵩ l1ᵩ; have l2ᵩ := l1ᵩ; (try k_lt l1ᵩ))
 k_with "k9" => (first | exact rfl | assumption)
 k_with "d9" => (first | exact rmc0 (by assumption) (by decide) | exact rmc 1 (by assumption) (by decide) | exact rmc 2 (by assumption) (by decide) | exact rmc 3 (by assumption) (by decide))
 k_with "u9" => (first | exact rmu0 (by assumption) (by decide) | exact rmu 3 (by assumption) (by decide) | exact rmu 6 (by assumption) (by decide) | exact rmu 9 (by assumption) (by decide) | exact rmu 1 (by assumption) (by decide) | exact rmu 4 (by assumption) (by decide) | exact rmu 7 (by assumption) (by decide))
 k_with "r9" => (first | exact rm0 (by assumption) | exact rm 1 (by assumption) (by decide) | exact rm 2 (by assumption) (by decide) | exact rm 3 (by assumption) (by decide) | exact rm 4 (by assumption) (by decide))
 k_with "b9" => (first | exact BindsTo.of_eq rfl | exact binds_K (by k_in) rfl (by k_is) rfl rfl rfl)
 k_with "c9" => (k_dflt (refine' code_def ?k1 ?k2 ?k3 ?k4 ?k5 ?kA ?kF ?kK ?k6 ?k7 ?k8 ?k9 ?kB ?_ ?c2 ?c3 ?c4 ?c5; (case kA => exact rfl); (case kF => exact rfl); (case kK => k_extra "k9"); (case k1 => k_asm); (case k2 => k_asm); (case k3 => k_asm); (case k4 => k_asm); (case k5 => k_asm); (case k6 => k_is); (case k7 => k_is); (case k8 => k_extra "r9"); (case k9 => k_extra "b9"); (case c5 => decide); (case kB => exact locs rfl); (case c2 => exact rfl); (case c3 => exact rfl); (case c4 => exact rfl); k_whole); intro g'ᵩ L'ᵩ h'ᵩ FG'ᵩ F'ᵩ N'ᵩ B'ᵩ X'ᵩ T'ᵩ; (try dsimp only))
 k_with "i9" => (k_dflt (refine' item_led (by k_asm) (by k_mem) (by omega) (by with_reducible assumption) (by omega) ?_ (by with_unfolding_all rfl); k_whole))
 k_with "j9" => (first | k_dflt (refine' item_tupleT (News.isTup (by k_asm) (by k_mem)) (by decide) (by decide) (by rfl) (by rfl) ?_ (by with_unfolding_all rfl); k_whole) | k_extra "i9")
 k_with "mo" => exact ⟨_, _, _, _, _, _, _, _, ⟨_, _, _, _, _, _, _, _, _, _, _, _, _, _, _, _, _, _, _, _, _, rfl⟩⟩
 k_with "nt" => (first | assumption | exact news_tl (by assumption) | exact news_tl (news_tl (by assumption)) | exact news_tl (news_tl (news_tl (by assumption))) | exact news_tl (news_tl (news_tl (news_tl (by assumption)))) | exact news_tl (news_tl (news_tl (news_tl (news_tl (by assumption))))) | exact news_tl (news_tl (news_tl (news_tl (news_tl (news_tl (by assumption)))))) | exact news_tl (news_tl (news_tl (news_tl (news_tl (news_tl (news_tl (by assumption))))))))
 k_with "subscriptTail Attribute Subscript Constant ref int" => (k_here; k_extra "j9")
 k_with "subscriptTail Name Constant ref int" => (k_here; k_extra "j9")
 k_with "subscriptTail Attribute Name Constant ref int" => (k_here; k_extra "j9")
 k_with "subscriptTail Name Name ref int" => (k_here; k_extra "i9")
 k_with "ite" => first | with_reducible refine ite_tt ?_ | with_reducible refine ite_ff ?_ | (k_closed; k_dflt (first | (with_reducible refine' ite_bp ?y9z ?_; (case y9z => kernel_rfl!)) | (with_reducible refine' ite_bn ?y9z ?_; (case y9z => kernel_rfl!)) | refine ite_pos (by decide) ?_ | refine ite_neg (by decide) ?_)) | (with_reducible refine ite_af (by decide +kernel) ?_) | (with_reducible refine ite_at (by decide +kernel) ?_) | (with_reducible refine ite_dp (by omega) ?_) | (with_reducible refine ite_dn (by omega) ?_) | (with_reducible refine ite_bp (by assumption) ?_) | (with_reducible refine ite_bn (by assumption) ?_)
 k_with "call builtin:len" => (k_here; (with_reducible show wpAny _ _ (call (Value.builtin "len") [Value.ref _]) _ _ _); k_dflt (refine' len_led (by k_asm) (by k_mem) (by with_reducible assumption) (by omega) ?_; k_whole))
 k_with "call ref" => (k_here; (with_reducible show wpAny _ _ (call (Value.ref _) _) _ _ _); refine wpAny_call ?_; k_extra "c9")
 k_with "fold9" => ((try (refine letf (by assumption) ?_; intro m9ᵩ F9ᵩ)); (try (refine letn (by assumption) ?_; intro w9ᵩ N9ᵩ)))
 k_with "call ref" => (k_here; (with_reducible show wpAny _ _ (call (Value.ref 363) _) _ _ _); k_dflt (refine' take_c  _ _ _ _ _ _ _ _ _ _ _ ?B ?F ?X ?T ?k ?N ?hx ?hM ?hg ?hl ?a ?b ?hb ?d ?u ?_; (case B => k_asm); (case F => k_asm); (case X => k_asm); (case T => k_asm); (case k => k_extra "k9"); (case N => k_extra "nt"); (case hx => assumption); (case hM => k_extra "mo"); (case hg => with_reducible assumption); (case hl => assumption); (case a => omega); (case b => omega); (case hb => first | assumption | exact ⟨by omega, by omega⟩); (case d => k_extra "d9"); (case u => k_extra "u9")); intro t'ᵩ h'ᵩ tks'ᵩ F'ᵩ N'ᵩ)
 k_with "call ref" => (k_here; (with_reducible show wpAny _ _ (call (Value.ref 277) _) _ _ _); k_dflt (refine' dflags_c  _ _ _ _ _ _ ?B ?F ?X ?T ?k ?N ?a ?b ?c ?e ?d ?u ?_; (case B => k_asm); (case F => k_asm); (case X => k_asm); (case T => k_asm); (case k => k_extra "k9"); (case N => k_asm); (case a => omega); (case b => omega); (case c => omega); (case e => omega); (case d => k_extra "d9"); (case u => k_extra "u9")); intro fxᵩ fdᵩ odᵩ h'ᵩ tks'ᵩ F'ᵩ N'ᵩ l1ᵩ l2ᵩ flkᵩ; (try k_lt l1ᵩ))
 k_with "call ref" => (k_here; (with_reducible show wpAny _ _ (call (Value.ref 74) [_, _]) _ _ _); k_dflt (refine' wrap_c  _ _ _ _ ?B ?F ?X ?T ?k ?N ?a ?b ?d ?u ?_; (case B => k_asm); (case F => k_asm); (case X => k_asm); (case T => k_asm); (case k => k_extra "k9"); (case N => k_asm); (case a => omega); (case b => omega); (case d => k_extra "d9"); (case u => k_extra "u9")); intro t'ᵩ h'ᵩ tks'ᵩ F'ᵩ N'ᵩ)
 trivial
namespace EK.E_twocmp_c
theorem core : @P w mean mg mb dp un gd cn cs a ccd cl outer A₀ base h₀ L m s Q E := by
  intro own x dx rg l md pl fl o gs regs kk at' order steps v rs a' b' p k t t1 t2 t3 B F X T hk N hC hM hof hdr hg hl hp4 hd hu hp ok hret
  obtain ⟨q1, q2, q3, q4, q5, q6, q7, q8, q9, u1, u2, u3, u4, u5, u6, u7, u8, u9, ta, to, ts, rfl⟩ := hM
  obtain ⟨⟨k1, k2⟩, k3, k4⟩ := ok
  have hx := hC.inst
  have hb1 := hp4 a'.toNat (by omega)
  ((k_dflt (refine' code_def ?k1 ?k2 ?k3 ?k4 ?k5 ?kA ?kF ?kK ?k6 ?k7 ?k8 ?k9 ?kB ?_ ?c2 ?c3 ?c4 ?c5; (case kA => exact rfl); (case kF => exact rfl); (case kK => first | exact rfl | assumption); (case k1 => k_asm); (case k2 => k_asm); (case k3 => k_asm); (case k4 => k_asm); (case k5 => k_asm); (case k6 => k_is); (case k7 => k_is); (case k8 => first | exact rm0 (by assumption) | exact rm 1 (by assumption) (by decide) | exact rm 2 (by assumption) (by decide) | exact rm 3 (by assumption) (by decide) | exact rm 4 (by assumption) (by decide)); (case k9 => first | exact BindsTo.of_eq rfl | exact binds_K (by k_in) rfl (by k_is) rfl rfl rfl); (case c5 => decide); (case kB => exact locs rfl); (case c2 => exact rfl); (case c3 => exact rfl); (case c4 => exact rfl); k_whole)); (intro g' L' h' FG' F' N' B' X' T'); (try dsimp only))
  k_steps
  rename News _ _ _ _ => N9
  rename Fr _ _ _ _ => F9
  rename FlD _ _ _ _ _ => flk
  rw [Int.emod_eq_of_lt k3 (by omega)] at flk
  refine hret _ _ _ _ _ _ F9 (news_cmp N9) (off_cmp hof (by omega) (by omega) (by omega) (by omega)) ⟨_, _, _, _, _, _, _, _, _, _, _, _, _, _, _, _, _, _, _, _, _, rfl⟩ (flk.at (.head _) (.tail _ (.head _)))
end EK.E_twocmp_c
theorem EK.E_twocmp_c.all : ∀ c, EK.E_twocmp_c.Pc c := by
  have h : EK.E_twocmp_c.Pc kc := by with_unfolding_all exact EK.E_twocmp_c.core
  rw [EK.eqk24] at h
  exact first_all (r := EK.lst25) h
theorem EK.eqk25 : kc = first EK.lst25 := EK.eqk24.trans (first_skip EK.E_twocmp_c.all)
theorem twocmp_c {w : World} {mean : ExcName → Option Value} {mg mb : Str → Option Value} {dp un : Nat} {gd : Option (List Code)} {cn : Str} {cs : Scope} {a : Addr} {ccd : Value} {cl : List (Str × Addr)} {outer : List Env} {A₀ : Around} {base h₀ : Heap} {L : Addr} {m : Str → Option Value} {s : Shared} {Q E : Value → Shared → Prop} (own : List (Addr × Obj)) (x dx rg l md pl fl : Addr) (o : Obj) (gs : List Value) (regs : List Int) (kk : Nat) (at' order steps : Int) (v : Value) (rs : List TR) (a' b' : Int) (p : Addr) (k : Nat) (t t1 t2 t3 : Tok)
    (B : Below A₀ base outer h₀) (F : Fr h₀ L s.heap m) (X : (hd.heap_1 w.params).In h₀) (T : Top viewP LZ mean mg mb h₀) (hk : cs.kind = .function)
    (N : News h₀ L s.heap ((dx, o) :: (rg, listOf gs.toArray kk) :: own)) (hC : MachC PySem.Challenge.rw_pf0284_01.row.prog w own x dx l md pl rs) (hM : MObj o l md rg fl pl at' order steps false) (hof : OwnOff own [dx, rg]) (hdr : @LT.lt Nat _ dx rg) (hg : IntsAre gs regs) (hl : regs.length = 16)
    (hp4 : ∀ i : Nat, i < 4 → 0 ≤ regs.getD i 0 ∧ regs.getD i 0 < 1152921504606846976)
    (hd : dp + 30 < recursionLimit) (hu : un + 300 < cLine)
    (hp : (p, tupO [.int 64 t1, .int a' t2, .int b' t3] k) ∈ own) (ok : (0 ≤ a' ∧ a' < 4) ∧ 0 ≤ b' ∧ b' < 64)
    (hret : ∀ (fx fd : Addr) (fo : Obj) (o' : Obj) (h' : Heap) (tks : Nat), Fr h₀ L h' m → News h₀ L h' ((dx, o') :: (rg, listOf gs.toArray kk) :: (fx, instObj 238 fd) :: (fd, fo) :: own) → OwnOff ((fx, instObj 238 fd) :: (fd, fo) :: own) [dx, rg] → MObj o' l md rg fx pl at' order steps false → FK ((fx, instObj 238 fd) :: (fd, fo) :: own) fx (some (regs.getD a'.toNat 0, b')) → Q (.bool true) { s with heap := h', toks := tks }) : codeAny (model PySem.Challenge.rw_pf0284_01.row.prog w) (ktrTop dp un gd cn cs L a ccd cl outer) (.call (.ref 391) ⟨[.ref x, .str (Str.ofString "cmp_imm") t, .ref p], []⟩) (fun r s' => match r with | .ok (.ret v) => Q v s' | .ok _ => False | .error e => E e s') s := by
  with_unfolding_all exact EK.E_twocmp_c.all ⟨w, mean, mg, mb, dp, un, gd, cn, cs, a, ccd, cl, outer, A₀, base, h₀, L, m, s, Q, E⟩ own x dx rg l md pl fl o gs regs kk at' order steps v rs a' b' p k t t1 t2 t3 B F X T hk N hC hM hof hdr hg hl hp4 hd hu hp ok hret
end
section
theorem kw28 : True := by
 w_top off
 k_with_none
 k_with "ml" => first | assumption | (refine memsub (by assumption) ?_; first | assumption | exact List.Mem.head _ | (refine List.Mem.tail _ ?_; first | exact List.Mem.head _ | (refine List.Mem.tail _ ?_; first | exact List.Mem.head _ | (refine List.Mem.tail _ ?_; first | exact List.Mem.head _ | (refine List.Mem.tail _ ?_; first | assumption) | assumption) | assumption) | assumption) | assumption)
 k_with "k_mem" => first | exact List.Mem.head _ | (refine List.Mem.tail _ ?_; k_extra "k_mem") | k_extra "ml"
 k_with "ks" => repeat' (first | (k_unfold; (try dsimp only)) | (k_end; kc_close) | (walk1; (try (first | (with_reducible show wpAny _ _ (exec _ _) _ _ _; (try dsimp only); (refine letq ?_; intro qk9ᵩ); (try with_reducible refine wpst ?_; intro tk9ᵩ); (try walk_at "fold9")) | (with_reducible show wpAny _ _ (execs _ _) _ _ _; k_fold)))) | (dsimp only; walk1) | (leave1; walk_say "STEP leave1"; try dsimp only) | (k_unmd; k_unfold; (try dsimp only)) | fail "no step")
 k_with "in9" => first | with_reducible assumption | (refine' Frag.In.keeps ?y9X (Fr.keep ?y9F); (case y9F => k_asm); (case y9X => k_asm))
 k_with "eval Constant str" => with_reducible refine kstr ?_
 k_with "eval Constant int" => with_reducible refine kint ?_
 k_with "oc" => first | (apply c1; assumption) | (apply c2; assumption) | (apply l2; assumption) | (apply c3; assumption) | (apply c4; assumption) | (apply c5; assumption) | (apply c6; assumption) | (apply c7; assumption) | (apply c8; assumption) | (apply c9; assumption) | (apply c10; assumption) | (apply c11; assumption) | (apply c12; assumption) | (apply c13; assumption) | (apply c14; assumption) | (apply c15; assumption) | (apply c16; assumption)
 k_with "od" => first | (apply c1; assumption) | (apply c2; assumption) | (apply l2; assumption) | (apply c3; assumption) | (apply c4; assumption) | (apply c5; assumption) | (apply c6; assumption) | (apply c7; assumption)
 k_with "on" => first | (apply zsy; assumption) | (apply zgt; first | assumption | k_extra "oc") | (apply zlt; first | assumption | k_extra "oc") | (apply gtt; assumption; first | assumption | k_extra "od") | (apply ltt; assumption; first | assumption | k_extra "od")
 k_with "oi" => first | exact nn0 | exact nn0' | exact z63 (by assumption) (by assumption) | exact z63b (by assumption) (by assumption) | exact n63 (by assumption) (by assumption) | exact n63b (by assumption) (by assumption) | exact z63c (by assumption) (by assumption) | exact z63d (by assumption) (by assumption) | exact nlt (by assumption) | exact n62 (by assumption) | exact n62b (by assumption) | exact tnl (by assumption) (by assumption) | exact sub1 (by assumption) | exact sub2 (by assumption) (by assumption) | decide | exact Int.lt_of_lt_of_le (by assumption) (by decide) | exact Nat.le_trans (by assumption) (by decide) | exact ul (by assumption) (by decide) | exact up0 (by assumption) (by assumption) | k_extra "oc"
 k_with "om" => first | (k_whole; with_reducible (first | assumption | (show @Ne Nat _ _; k_extra "on") | (show @Eq Nat _ _; first | exact tn1 (by assumption) | exact z0i) | ((first | show @LT.lt Int _ _ _ | show @LE.le Int _ _ _ | show @LT.lt Nat _ _ _ | show @LE.le Nat _ _ _); k_extra "oi")))
 k_with "execs cons If" => (k_here; (with_reducible show wpAny _ _ (execs (PySem.Stmt.If (PySem.Expr.Compare (PySem.Expr.Name _ _) [.Eq] [PySem.Expr.Constant (.str _) _ _] _) _ _ _ :: _) _) _ _ _); first | ((with_reducible show wpAny _ _ (execs (PySem.Stmt.If _ _ [] _ :: _) _) _ _ _); k_dflt (refine' cif_f ?F ?v ?x ?c ?k ?d ?_; (case F => k_asm); (case x => kernel_rfl!); (case k => kernel_rfl!); (case d => kernel_rfl!); (case v => rfl); (case c => first | with_reducible assumption | kernel_rfl!); k_whole)) | ((with_reducible show wpAny _ _ (execs [PySem.Stmt.If _ _ (_ :: _) _] _) _ _ _); k_dflt (refine' cif_g ?F ?v ?x ?c ?k ?d ?_; (case F => k_asm); (case x => kernel_rfl!); (case k => kernel_rfl!); (case d => kernel_rfl!); (case v => rfl); (case c => first | with_reducible assumption | kernel_rfl!); k_whole)) | ((with_reducible show wpAny _ _ (execs [PySem.Stmt.If _ _ _ _] _) _ _ _); k_dflt (refine' cif_t ?F ?v ?x ?c ?k ?d ?_; (case F => k_asm); (case x => kernel_rfl!); (case k => kernel_rfl!); (case d => kernel_rfl!); (case v => rfl); (case c => first | with_reducible assumption | kernel_rfl!); k_whole)) | k_dflt (refine' cif_r ?F ?v ?x ?c ?k ?d ?_; (case F => k_asm); (case x => kernel_rfl!); (case k => kernel_rfl!); (case d => kernel_rfl!); (case v => rfl); (case c => first | with_reducible assumption | kernel_rfl!); k_whole))
 k_with "callWith" => ((with_reducible show wpAny _ _ (callWith _ (Value.builtin _) (_ :: _) (backTo _ (starEach (_ :: _) _)) []) _ _ _); refine callWith_method1 ?_)
 k_with "callWith ref" => (k_here; k_dflt (first | (refine' callWith_K ?y9k ?y9l ?_; (case y9k => k_asm); (case y9l => k_is); k_whole) | (refine' callWith_K0 ?y9k ?y9l ?_; (case y9k => k_in); (case y9l => k_is); k_whole)))
 k_with "eval Name" => (k_here; (fail_if_success (with_reducible show wpAny _ _ (eval (PySem.Expr.Name _ _) (compEnvC _ _ _ _)) _ _ _)); k_dflt (first | (refine' nameX_L ?y9F ?y9v ?_ ?y9a ?y9b ?y9d; (case y9F => k_asm); (case y9a => kernel_rfl!); (case y9b => kernel_rfl!); (case y9d => kernel_rfl!); (case y9v => rfl); k_whole) | (refine' nameX_K ?y9F ?y9X ?y9T ?y9e ?_ ?y9a ?y9b; (case y9F => k_asm); (case y9X => k_asm); (case y9T => k_asm); (case y9a => kernel_rfl!); (case y9b => kernel_rfl!); (case y9e => k_is); k_whole) | (refine' nameX_C ?y9N ?y9c ?y9m ?y9d ?_ ?y9a ?y9b; (case y9a => kernel_rfl!); (case y9b => kernel_rfl!); (case y9N => k_asm); (case y9c => rfl); (case y9m => k_mem); (case y9d => k_asm); k_whole) | (refine' nameX_B ?y9F ?y9X ?y9T ?y9e ?y9v ?y9n ?_ ?y9a ?y9b; (case y9F => k_asm); (case y9X => k_asm); (case y9T => k_asm); (case y9a => kernel_rfl!); (case y9b => kernel_rfl!); (case y9e => k_is); (case y9v => boot_fast); (case y9n => decide); k_whole)))
 k_with "execs cons Return" => with_reducible refine cret ?_
 k_with "newTuple" => (k_here; k_dflt (refine' kup_newTuple (by k_asm) (by k_asm) ?_ (by kmk_size)); intro D'ᵩ h'ᵩ F'ᵩ N'ᵩ l1ᵩ; have l2ᵩ := l1ᵩ; (try k_lt l1ᵩ))
 k_with "k9" => (first | exact rfl | assumption)
 k_with "d9" => (first | exact rmc0 (by assumption) (by decide) | exact rmc 1 (by assumption) (by decide) | exact rmc 2 (by assumption) (by decide) | exact rmc 3 (by assumption) (by decide))
 k_with "u9" => (first | exact rmu0 (by assumption) (by decide) | exact rmu 3 (by assumption) (by decide) | exact rmu 6 (by assumption) (by decide) | exact rmu 9 (by assumption) (by decide) | exact rmu 1 (by assumption) (by decide) | exact rmu 4 (by assumption) (by decide) | exact rmu 7 (by assumption) (by decide))
 k_with "r9" => (first | exact rm0 (by assumption) | exact rm 1 (by assumption) (by decide) | exact rm 2 (by assumption) (by decide) | exact rm 3 (by assumption) (by decide) | exact rm 4 (by assumption) (by decide))
 k_with "b9" => (first | exact BindsTo.of_eq rfl | exact binds_K (by k_in) rfl (by k_is) rfl rfl rfl)
 k_with "c9" => (k_dflt (refine' code_def ?k1 ?k2 ?k3 ?k4 ?k5 ?kA ?kF ?kK ?k6 ?k7 ?k8 ?k9 ?kB ?_ ?c2 ?c3 ?c4 ?c5; (case kA => exact rfl); (case kF => exact rfl); (case kK => k_extra "k9"); (case k1 => k_asm); (case k2 => k_asm); (case k3 => k_asm); (case k4 => k_asm); (case k5 => k_asm); (case k6 => k_is); (case k7 => k_is); (case k8 => k_extra "r9"); (case k9 => k_extra "b9"); (case c5 => decide); (case kB => exact locs rfl); (case c2 => exact rfl); (case c3 => exact rfl); (case c4 => exact rfl); k_whole); intro g'ᵩ L'ᵩ h'ᵩ FG'ᵩ F'ᵩ N'ᵩ B'ᵩ X'ᵩ T'ᵩ; (try dsimp only))
 k_with "i9" => (k_dflt (refine' item_led (by k_asm) (by k_mem) (by omega) (by with_reducible assumption) (by omega) ?_ (by with_unfolding_all rfl); k_whole))
 k_with "j9" => (first | k_dflt (refine' item_tupleT (News.isTup (by k_asm) (by k_mem)) (by decide) (by decide) (by rfl) (by rfl) ?_ (by with_unfolding_all rfl); k_whole) | k_extra "i9")
 k_with "mo" => exact ⟨_, _, _, _, _, _, _, _, ⟨_, _, _, _, _, _, _, _, _, _, _, _, _, _, _, _, _, _, _, _, _, rfl⟩⟩
 k_with "nt" => (first | assumption | exact news_tl (by assumption) | exact news_tl (news_tl (by assumption)) | exact news_tl (news_tl (news_tl (by assumption))) | exact news_tl (news_tl (news_tl (news_tl (by assumption)))) | exact news_tl (news_tl (news_tl (news_tl (news_tl (by assumption))))) | exact news_tl (news_tl (news_tl (news_tl (news_tl (news_tl (by assumption)))))) | exact news_tl (news_tl (news_tl (news_tl (news_tl (news_tl (news_tl (by assumption))))))))
 k_with "subscriptTail Attribute Subscript Constant ref int" => (k_here; k_extra "j9")
 k_with "subscriptTail Name Constant ref int" => (k_here; k_extra "j9")
 k_with "subscriptTail Attribute Name Constant ref int" => (k_here; k_extra "j9")
 k_with "subscriptTail Name Name ref int" => (k_here; k_extra "i9")
 k_with "ite" => first | with_reducible refine ite_tt ?_ | with_reducible refine ite_ff ?_ | (k_closed; k_dflt (first | (with_reducible refine' ite_bp ?y9z ?_; (case y9z => kernel_rfl!)) | (with_reducible refine' ite_bn ?y9z ?_; (case y9z => kernel_rfl!)) | refine ite_pos (by decide) ?_ | refine ite_neg (by decide) ?_)) | (with_reducible refine ite_af (by decide +kernel) ?_) | (with_reducible refine ite_at (by decide +kernel) ?_) | (with_reducible refine ite_dp (by omega) ?_) | (with_reducible refine ite_dn (by omega) ?_) | (with_reducible refine ite_bp (by assumption) ?_) | (with_reducible refine ite_bn (by assumption) ?_)
 k_with "call builtin:len" => (k_here; (with_reducible show wpAny _ _ (call (Value.builtin "len") [Value.ref _]) _ _ _); k_dflt (refine' len_led (by k_asm) (by k_mem) (by with_reducible assumption) (by omega) ?_; k_whole))
 k_with "call ref" => (k_here; (with_reducible show wpAny _ _ (call (Value.ref _) _) _ _ _); refine wpAny_call ?_; k_extra "c9")
 k_with "fold9" => ((try (refine letf (by assumption) ?_; intro m9ᵩ F9ᵩ)); (try (refine letn (by assumption) ?_; intro w9ᵩ N9ᵩ)))
 k_with "call ref" => (k_here; (with_reducible show wpAny _ _ (call (Value.ref 363) _) _ _ _); k_dflt (refine' take_c  _ _ _ _ _ _ _ _ _ _ _ ?B ?F ?X ?T ?k ?N ?hx ?hM ?hg ?hl ?a ?b ?hb ?d ?u ?_; (case B => k_asm); (case F => k_asm); (case X => k_asm); (case T => k_asm); (case k => k_extra "k9"); (case N => k_extra "nt"); (case hx => assumption); (case hM => k_extra "mo"); (case hg => with_reducible assumption); (case hl => assumption); (case a => omega); (case b => omega); (case hb => first | assumption | exact ⟨by omega, by omega⟩); (case d => k_extra "d9"); (case u => k_extra "u9")); intro t'ᵩ h'ᵩ tks'ᵩ F'ᵩ N'ᵩ)
 k_with "call ref" => (k_here; (with_reducible show wpAny _ _ (call (Value.ref 355) _) _ _ _); k_dflt (refine' put_c  _ _ _ _ _ _ _ _ _ _ _ _ _ ?B ?F ?X ?T ?k ?N ?hx ?hM ?hg ?hl ?a ?b ?ho ?hr ?hb ?d ?u ?_; (case B => k_asm); (case F => k_asm); (case X => k_asm); (case T => k_asm); (case k => k_extra "k9"); (case N => first | assumption | exact news_cmp (by assumption) | exact news_tl (by assumption)); (case hx => assumption); (case hM => k_extra "mo"); (case hg => with_reducible assumption); (case hl => assumption); (case a => omega); (case b => omega); (case ho => first | assumption | exact off_cmp (by assumption) (by omega) (by omega) (by omega) (by omega)); (case hr => assumption); (case hb => first | assumption | exact ⟨by omega, by omega⟩); (case d => k_extra "d9"); (case u => k_extra "u9")); intro gs'ᵩ r'ᵩ h'ᵩ tks'ᵩ F'ᵩ N'ᵩ hg'ᵩ)
 k_with "call ref" => (k_here; (with_reducible show wpAny _ _ (call (Value.ref 270) _) _ _ _); k_dflt (refine' sflags_c  _ _ _ _ _ _ ?B ?F ?X ?T ?k ?N ?a ?b ?c ?e ?d ?u ?_; (case B => k_asm); (case F => k_asm); (case X => k_asm); (case T => k_asm); (case k => k_extra "k9"); (case N => k_asm); (case a => omega); (case b => omega); (case c => omega); (case e => omega); (case d => k_extra "d9"); (case u => k_extra "u9")); intro fxᵩ fdᵩ odᵩ h'ᵩ tks'ᵩ F'ᵩ N'ᵩ l1ᵩ l2ᵩ; (try k_lt l1ᵩ))
 k_with "call ref" => (k_here; (with_reducible show wpAny _ _ (call (Value.ref 74) [_, _]) _ _ _); k_dflt (refine' wrap_c  _ _ _ _ ?B ?F ?X ?T ?k ?N ?a ?b ?d ?u ?_; (case B => k_asm); (case F => k_asm); (case X => k_asm); (case T => k_asm); (case k => k_extra "k9"); (case N => k_asm); (case a => omega); (case b => omega); (case d => k_extra "d9"); (case u => k_extra "u9")); intro t'ᵩ h'ᵩ tks'ᵩ F'ᵩ N'ᵩ)
 trivial
namespace EK.E_twoadd_c
theorem core : @P w mean mg mb dp un gd cn cs a ccd cl outer A₀ base h₀ L m s Q E := by
  intro own x dx rg l md pl fl o gs regs kk at' order steps v rs a' b' p k t t1 t2 t3 B F X T hk N hC hM hof hdr hg hl hp4 hd hu hp ok hret
  obtain ⟨q1, q2, q3, q4, q5, q6, q7, q8, q9, u1, u2, u3, u4, u5, u6, u7, u8, u9, ta, to, ts, rfl⟩ := hM
  obtain ⟨⟨k1, k2⟩, k3, k4⟩ := ok
  have hx := hC.inst
  have hb1 := hp4 a'.toNat (by omega)
  have hb2 := hp4 b'.toNat (by omega)
  ((k_dflt (refine' code_def ?k1 ?k2 ?k3 ?k4 ?k5 ?kA ?kF ?kK ?k6 ?k7 ?k8 ?k9 ?kB ?_ ?c2 ?c3 ?c4 ?c5; (case kA => exact rfl); (case kF => exact rfl); (case kK => first | exact rfl | assumption); (case k1 => k_asm); (case k2 => k_asm); (case k3 => k_asm); (case k4 => k_asm); (case k5 => k_asm); (case k6 => k_is); (case k7 => k_is); (case k8 => first | exact rm0 (by assumption) | exact rm 1 (by assumption) (by decide) | exact rm 2 (by assumption) (by decide) | exact rm 3 (by assumption) (by decide) | exact rm 4 (by assumption) (by decide)); (case k9 => first | exact BindsTo.of_eq rfl | exact binds_K (by k_in) rfl (by k_is) rfl rfl rfl); (case c5 => decide); (case kB => exact locs rfl); (case c2 => exact rfl); (case c3 => exact rfl); (case c4 => exact rfl); k_whole)); (intro g' L' h' FG' F' N' B' X' T'); (try dsimp only))
  k_steps
  rename News _ _ _ _ => N9
  rename Fr _ _ _ _ => F9
  rename IntsAre _ _ => hi9
  simp +zetaDelta only [show (regs.getD a'.toNat 0 + regs.getD b'.toNat 0) % 18446744073709551616 = regs.getD a'.toNat 0 + regs.getD b'.toNat 0 from Int.emod_eq_of_lt (by omega) (by omega)] at hi9 N9
  exact hret _ _ _ _ _ _ _ F9 (news_cmp N9) (off_cmp hof (by omega) (by omega) (by omega) (by omega)) ⟨_, _, _, _, _, _, _, _, _, _, _, _, _, _, _, _, _, _, _, _, _, rfl⟩ hi9
end EK.E_twoadd_c
theorem EK.E_twoadd_c.all : ∀ c, EK.E_twoadd_c.Pc c := by
  have h : EK.E_twoadd_c.Pc kc := by with_unfolding_all exact EK.E_twoadd_c.core
  rw [EK.eqk25] at h
  exact first_all (r := EK.lst26) h
theorem EK.eqk26 : kc = first EK.lst26 := EK.eqk25.trans (first_skip EK.E_twoadd_c.all)
theorem twoadd_c {w : World} {mean : ExcName → Option Value} {mg mb : Str → Option Value} {dp un : Nat} {gd : Option (List Code)} {cn : Str} {cs : Scope} {a : Addr} {ccd : Value} {cl : List (Str × Addr)} {outer : List Env} {A₀ : Around} {base h₀ : Heap} {L : Addr} {m : Str → Option Value} {s : Shared} {Q E : Value → Shared → Prop} (own : List (Addr × Obj)) (x dx rg l md pl fl : Addr) (o : Obj) (gs : List Value) (regs : List Int) (kk : Nat) (at' order steps : Int) (v : Value) (rs : List TR) (a' b' : Int) (p : Addr) (k : Nat) (t t1 t2 t3 : Tok)
    (B : Below A₀ base outer h₀) (F : Fr h₀ L s.heap m) (X : (hd.heap_1 w.params).In h₀) (T : Top viewP LZ mean mg mb h₀) (hk : cs.kind = .function)
    (N : News h₀ L s.heap ((dx, o) :: (rg, listOf gs.toArray kk) :: own)) (hC : MachC PySem.Challenge.rw_pf0284_01.row.prog w own x dx l md pl rs) (hM : MObj o l md rg fl pl at' order steps false) (hof : OwnOff own [dx, rg]) (hdr : @LT.lt Nat _ dx rg) (hg : IntsAre gs regs) (hl : regs.length = 16)
    (hp4 : ∀ i : Nat, i < 4 → 0 ≤ regs.getD i 0 ∧ regs.getD i 0 < 1152921504606846976)
    (hd : dp + 30 < recursionLimit) (hu : un + 300 < cLine)
    (hp : (p, tupO [.int 64 t1, .int a' t2, .int b' t3] k) ∈ own) (ok : (0 ≤ a' ∧ a' < 4) ∧ 0 ≤ b' ∧ b' < 4)
    (hret : ∀ (fx fd : Addr) (fo : Obj) (o' : Obj) (gs' : List Value) (h' : Heap) (tks : Nat), Fr h₀ L h' m → News h₀ L h' ((dx, o') :: (rg, listOf gs'.toArray kk) :: (fx, instObj 238 fd) :: (fd, fo) :: own) → OwnOff ((fx, instObj 238 fd) :: (fd, fo) :: own) [dx, rg] → MObj o' l md rg fx pl at' order steps false → IntsAre gs' (regs.set a'.toNat (regs.getD a'.toNat 0 + regs.getD b'.toNat 0)) → Q (.bool true) { s with heap := h', toks := tks }) : codeAny (model PySem.Challenge.rw_pf0284_01.row.prog w) (ktrTop dp un gd cn cs L a ccd cl outer) (.call (.ref 391) ⟨[.ref x, .str (Str.ofString "add") t, .ref p], []⟩) (fun r s' => match r with | .ok (.ret v) => Q v s' | .ok _ => False | .error e => E e s') s := by
  with_unfolding_all exact EK.E_twoadd_c.all ⟨w, mean, mg, mb, dp, un, gd, cn, cs, a, ccd, cl, outer, A₀, base, h₀, L, m, s, Q, E⟩ own x dx rg l md pl fl o gs regs kk at' order steps v rs a' b' p k t t1 t2 t3 B F X T hk N hC hM hof hdr hg hl hp4 hd hu hp ok hret
end
section
theorem kw29 : True := by
 w_top off
 k_with_none
 k_with "ml" => first | assumption | (refine memsub (by assumption) ?_; first | assumption | exact List.Mem.head _ | (refine List.Mem.tail _ ?_; first | exact List.Mem.head _ | (refine List.Mem.tail _ ?_; first | exact List.Mem.head _ | (refine List.Mem.tail _ ?_; first | exact List.Mem.head _ | (refine List.Mem.tail _ ?_; first | assumption) | assumption) | assumption) | assumption) | assumption)
 k_with "k_mem" => first | exact List.Mem.head _ | (refine List.Mem.tail _ ?_; k_extra "k_mem") | k_extra "ml"
 k_with "ks" => repeat' (first | (k_unfold; (try dsimp only)) | (k_end; kc_close) | (walk1; (try (first | (with_reducible show wpAny _ _ (exec _ _) _ _ _; (try dsimp only); (refine letq ?_; intro qk9ᵩ); (try with_reducible refine wpst ?_; intro tk9ᵩ); (try walk_at "fold9")) | (with_reducible show wpAny _ _ (execs _ _) _ _ _; k_fold)))) | (dsimp only; walk1) | (leave1; walk_say "STEP leave1"; try dsimp only) | (k_unmd; k_unfold; (try dsimp only)) | fail "no step")
 k_with "in9" => first | with_reducible assumption | (refine' Frag.In.keeps ?y9X (Fr.keep ?y9F); (case y9F => k_asm); (case y9X => k_asm))
 k_with "eval Constant str" => with_reducible refine kstr ?_
 k_with "eval Constant int" => with_reducible refine kint ?_
 k_with "oc" => first | (apply c1; assumption) | (apply c2; assumption) | (apply l2; assumption) | (apply c3; assumption) | (apply c4; assumption) | (apply c5; assumption) | (apply c6; assumption) | (apply c7; assumption) | (apply c8; assumption) | (apply c9; assumption) | (apply c10; assumption) | (apply c11; assumption) | (apply c12; assumption) | (apply c13; assumption) | (apply c14; assumption) | (apply c15; assumption) | (apply c16; assumption)
 k_with "od" => first | (apply c1; assumption) | (apply c2; assumption) | (apply l2; assumption) | (apply c3; assumption) | (apply c4; assumption) | (apply c5; assumption) | (apply c6; assumption) | (apply c7; assumption)
 k_with "on" => first | (apply zsy; assumption) | (apply zgt; first | assumption | k_extra "oc") | (apply zlt; first | assumption | k_extra "oc") | (apply gtt; assumption; first | assumption | k_extra "od") | (apply ltt; assumption; first | assumption | k_extra "od")
 k_with "oi" => first | exact nn0 | exact nn0' | exact z63 (by assumption) (by assumption) | exact z63b (by assumption) (by assumption) | exact n63 (by assumption) (by assumption) | exact n63b (by assumption) (by assumption) | exact z63c (by assumption) (by assumption) | exact z63d (by assumption) (by assumption) | exact nlt (by assumption) | exact n62 (by assumption) | exact n62b (by assumption) | exact tnl (by assumption) (by assumption) | exact sub1 (by assumption) | exact sub2 (by assumption) (by assumption) | decide | exact Int.lt_of_lt_of_le (by assumption) (by decide) | exact Nat.le_trans (by assumption) (by decide) | exact ul (by assumption) (by decide) | exact up0 (by assumption) (by assumption) | k_extra "oc"
 k_with "om" => first | (k_whole; with_reducible (first | assumption | (show @Ne Nat _ _; k_extra "on") | (show @Eq Nat _ _; first | exact tn1 (by assumption) | exact z0i) | ((first | show @LT.lt Int _ _ _ | show @LE.le Int _ _ _ | show @LT.lt Nat _ _ _ | show @LE.le Nat _ _ _); k_extra "oi")))
 k_with "execs cons If" => (k_here; (with_reducible show wpAny _ _ (execs (PySem.Stmt.If (PySem.Expr.Compare (PySem.Expr.Name _ _) [.Eq] [PySem.Expr.Constant (.str _) _ _] _) _ _ _ :: _) _) _ _ _); first | ((with_reducible show wpAny _ _ (execs (PySem.Stmt.If _ _ [] _ :: _) _) _ _ _); k_dflt (refine' cif_f ?F ?v ?x ?c ?k ?d ?_; (case F => k_asm); (case x => kernel_rfl!); (case k => kernel_rfl!); (case d => kernel_rfl!); (case v => rfl); (case c => first | with_reducible assumption | kernel_rfl!); k_whole)) | ((with_reducible show wpAny _ _ (execs [PySem.Stmt.If _ _ (_ :: _) _] _) _ _ _); k_dflt (refine' cif_g ?F ?v ?x ?c ?k ?d ?_; (case F => k_asm); (case x => kernel_rfl!); (case k => kernel_rfl!); (case d => kernel_rfl!); (case v => rfl); (case c => first | with_reducible assumption | kernel_rfl!); k_whole)) | ((with_reducible show wpAny _ _ (execs [PySem.Stmt.If _ _ _ _] _) _ _ _); k_dflt (refine' cif_t ?F ?v ?x ?c ?k ?d ?_; (case F => k_asm); (case x => kernel_rfl!); (case k => kernel_rfl!); (case d => kernel_rfl!); (case v => rfl); (case c => first | with_reducible assumption | kernel_rfl!); k_whole)) | k_dflt (refine' cif_r ?F ?v ?x ?c ?k ?d ?_; (case F => k_asm); (case x => kernel_rfl!); (case k => kernel_rfl!); (case d => kernel_rfl!); (case v => rfl); (case c => first | with_reducible assumption | kernel_rfl!); k_whole))
 k_with "callWith" => ((with_reducible show wpAny _ _ (callWith _ (Value.builtin _) (_ :: _) (backTo _ (starEach (_ :: _) _)) []) _ _ _); refine callWith_method1 ?_)
 k_with "callWith ref" => (k_here; k_dflt (first | (refine' callWith_K ?y9k ?y9l ?_; (case y9k => k_asm); (case y9l => k_is); k_whole) | (refine' callWith_K0 ?y9k ?y9l ?_; (case y9k => k_in); (case y9l => k_is); k_whole)))
 k_with "eval Name" => (k_here; (fail_if_success (with_reducible show wpAny _ _ (eval (PySem.Expr.Name _ _) (compEnvC _ _ _ _)) _ _ _)); k_dflt (first | (refine' nameX_L ?y9F ?y9v ?_ ?y9a ?y9b ?y9d; (case y9F => k_asm); (case y9a => kernel_rfl!); (case y9b => kernel_rfl!); (case y9d => kernel_rfl!); (case y9v => rfl); k_whole) | (refine' nameX_K ?y9F ?y9X ?y9T ?y9e ?_ ?y9a ?y9b; (case y9F => k_asm); (case y9X => k_asm); (case y9T => k_asm); (case y9a => kernel_rfl!); (case y9b => kernel_rfl!); (case y9e => k_is); k_whole) | (refine' nameX_C ?y9N ?y9c ?y9m ?y9d ?_ ?y9a ?y9b; (case y9a => kernel_rfl!); (case y9b => kernel_rfl!); (case y9N => k_asm); (case y9c => rfl); (case y9m => k_mem); (case y9d => k_asm); k_whole) | (refine' nameX_B ?y9F ?y9X ?y9T ?y9e ?y9v ?y9n ?_ ?y9a ?y9b; (case y9F => k_asm); (case y9X => k_asm); (case y9T => k_asm); (case y9a => kernel_rfl!); (case y9b => kernel_rfl!); (case y9e => k_is); (case y9v => boot_fast); (case y9n => decide); k_whole)))
 k_with "execs cons Return" => with_reducible refine cret ?_
 k_with "newTuple" => (k_here; k_dflt (refine' kup_newTuple (by k_asm) (by k_asm) ?_ (by kmk_size)); intro D'ᵩ h'ᵩ F'ᵩ N'ᵩ l1ᵩ; have l2ᵩ := l1ᵩ; (try k_lt l1ᵩ))
 k_with "k9" => (first | exact rfl | assumption)
 k_with "d9" => (first | exact rmc0 (by assumption) (by decide) | exact rmc 1 (by assumption) (by decide) | exact rmc 2 (by assumption) (by decide) | exact rmc 3 (by assumption) (by decide))
 k_with "u9" => (first | exact rmu0 (by assumption) (by decide) | exact rmu 3 (by assumption) (by decide) | exact rmu 6 (by assumption) (by decide) | exact rmu 9 (by assumption) (by decide) | exact rmu 1 (by assumption) (by decide) | exact rmu 4 (by assumption) (by decide) | exact rmu 7 (by assumption) (by decide))
 k_with "r9" => (first | exact rm0 (by assumption) | exact rm 1 (by assumption) (by decide) | exact rm 2 (by assumption) (by decide) | exact rm 3 (by assumption) (by decide) | exact rm 4 (by assumption) (by decide))
 k_with "b9" => (first | exact BindsTo.of_eq rfl | exact binds_K (by k_in) rfl (by k_is) rfl rfl rfl)
 k_with "c9" => (k_dflt (refine' code_def ?k1 ?k2 ?k3 ?k4 ?k5 ?kA ?kF ?kK ?k6 ?k7 ?k8 ?k9 ?kB ?_ ?c2 ?c3 ?c4 ?c5; (case kA => exact rfl); (case kF => exact rfl); (case kK => k_extra "k9"); (case k1 => k_asm); (case k2 => k_asm); (case k3 => k_asm); (case k4 => k_asm); (case k5 => k_asm); (case k6 => k_is); (case k7 => k_is); (case k8 => k_extra "r9"); (case k9 => k_extra "b9"); (case c5 => decide); (case kB => exact locs rfl); (case c2 => exact rfl); (case c3 => exact rfl); (case c4 => exact rfl); k_whole); intro g'ᵩ L'ᵩ h'ᵩ FG'ᵩ F'ᵩ N'ᵩ B'ᵩ X'ᵩ T'ᵩ; (try dsimp only))
 k_with "i9" => (k_dflt (refine' item_led (by k_asm) (by k_mem) (by omega) (by with_reducible assumption) (by omega) ?_ (by with_unfolding_all rfl); k_whole))
 k_with "j9" => (first | k_dflt (refine' item_tupleT (News.isTup (by k_asm) (by k_mem)) (by decide) (by decide) (by rfl) (by rfl) ?_ (by with_unfolding_all rfl); k_whole) | k_extra "i9")
 k_with "mo" => exact ⟨_, _, _, _, _, _, _, _, ⟨_, _, _, _, _, _, _, _, _, _, _, _, _, _, _, _, _, _, _, _, _, rfl⟩⟩
 k_with "nt" => (first | assumption | exact news_tl (by assumption) | exact news_tl (news_tl (by assumption)) | exact news_tl (news_tl (news_tl (by assumption))) | exact news_tl (news_tl (news_tl (news_tl (by assumption)))) | exact news_tl (news_tl (news_tl (news_tl (news_tl (by assumption))))) | exact news_tl (news_tl (news_tl (news_tl (news_tl (news_tl (by assumption)))))) | exact news_tl (news_tl (news_tl (news_tl (news_tl (news_tl (news_tl (by assumption))))))))
 k_with "subscriptTail Attribute Subscript Constant ref int" => (k_here; k_extra "j9")
 k_with "subscriptTail Name Constant ref int" => (k_here; k_extra "j9")
 k_with "subscriptTail Attribute Name Constant ref int" => (k_here; k_extra "j9")
 k_with "subscriptTail Name Name ref int" => (k_here; k_extra "i9")
 k_with "ite" => first | with_reducible refine ite_tt ?_ | with_reducible refine ite_ff ?_ | (k_closed; k_dflt (first | (with_reducible refine' ite_bp ?y9z ?_; (case y9z => kernel_rfl!)) | (with_reducible refine' ite_bn ?y9z ?_; (case y9z => kernel_rfl!)) | refine ite_pos (by decide) ?_ | refine ite_neg (by decide) ?_)) | (with_reducible refine ite_af (by decide +kernel) ?_) | (with_reducible refine ite_at (by decide +kernel) ?_) | (with_reducible refine ite_dp (by omega) ?_) | (with_reducible refine ite_dn (by omega) ?_) | (with_reducible refine ite_bp (by assumption) ?_) | (with_reducible refine ite_bn (by assumption) ?_)
 k_with "call builtin:len" => (k_here; (with_reducible show wpAny _ _ (call (Value.builtin "len") [Value.ref _]) _ _ _); k_dflt (refine' len_led (by k_asm) (by k_mem) (by with_reducible assumption) (by omega) ?_; k_whole))
 k_with "call ref" => (k_here; (with_reducible show wpAny _ _ (call (Value.ref _) _) _ _ _); refine wpAny_call ?_; k_extra "c9")
 k_with "fold9" => ((try (refine letf (by assumption) ?_; intro m9ᵩ F9ᵩ)); (try (refine letn (by assumption) ?_; intro w9ᵩ N9ᵩ)))
 k_with "subscriptTail" => (k_here; (with_reducible show wpAny _ _ (subscriptTail _ _ (Value.ref _) (Value.ref _)) _ _ _); k_dflt (refine' marks_item (by k_asm) (by k_mem) (by with_reducible assumption) (by intro pᵩ hpᵩ; k_mem) (by k_mem) (by exact mkey_obj (o := _)) (by k_extra "u9") (by assumption) ?_); intro t'ᵩ)
 trivial
namespace EK.E_wayjmp_c
theorem core : @P w mean mg mb dp un gd cn cs a ccd cl outer A₀ base h₀ L m s Q E := by
  intro own x dx rg l md pl fl o gs regs kk at' order steps v rs b g j p k t t1 t2 B F X T hk N hC hM hof hdr hg hl hp4 hd hu hp hj hret
  obtain ⟨q1, q2, q3, q4, q5, q6, q7, q8, q9, u1, u2, u3, u4, u5, u6, u7, u8, u9, ta, to, ts, rfl⟩ := hM
  obtain ⟨mo, hmd, hmk⟩ := hC.mks
  have hx := hC.inst
  ((k_dflt (refine' code_def ?k1 ?k2 ?k3 ?k4 ?k5 ?kA ?kF ?kK ?k6 ?k7 ?k8 ?k9 ?kB ?_ ?c2 ?c3 ?c4 ?c5; (case kA => exact rfl); (case kF => exact rfl); (case kK => first | exact rfl | assumption); (case k1 => k_asm); (case k2 => k_asm); (case k3 => k_asm); (case k4 => k_asm); (case k5 => k_asm); (case k6 => k_is); (case k7 => k_is); (case k8 => first | exact rm0 (by assumption) | exact rm 1 (by assumption) (by decide) | exact rm 2 (by assumption) (by decide) | exact rm 3 (by assumption) (by decide) | exact rm 4 (by assumption) (by decide)); (case k9 => first | exact BindsTo.of_eq rfl | exact binds_K (by k_in) rfl (by k_is) rfl rfl rfl); (case c5 => decide); (case kB => exact locs rfl); (case c2 => exact rfl); (case c3 => exact rfl); (case c4 => exact rfl); k_whole)); (intro g' L' h' FG' F' N' B' X' T'); (try dsimp only))
  k_steps
  (rename News _ _ _ _ => N9; rename Fr _ _ _ _ => F9; first | exact hret _ _ _ F9 N9 ⟨_, _, _, _, _, _, _, _, _, _, _, _, _, _, _, _, _, _, _, _, _, rfl⟩ | exact hret _ _ _ F9 (news_tl N9) ⟨_, _, _, _, _, _, _, _, _, _, _, _, _, _, _, _, _, _, _, _, _, rfl⟩ | exact hret _ _ _ F9 (news_tl (news_tl N9)) ⟨_, _, _, _, _, _, _, _, _, _, _, _, _, _, _, _, _, _, _, _, _, rfl⟩ | exact hret _ _ _ F9 (news_tl (news_tl (news_tl N9))) ⟨_, _, _, _, _, _, _, _, _, _, _, _, _, _, _, _, _, _, _, _, _, rfl⟩)
end EK.E_wayjmp_c
theorem EK.E_wayjmp_c.all : ∀ c, EK.E_wayjmp_c.Pc c := by
  have h : EK.E_wayjmp_c.Pc kc := by with_unfolding_all exact EK.E_wayjmp_c.core
  rw [EK.eqk26] at h
  exact first_all (r := EK.lst27) h
theorem EK.eqk27 : kc = first EK.lst27 := EK.eqk26.trans (first_skip EK.E_wayjmp_c.all)
theorem wayjmp_c {w : World} {mean : ExcName → Option Value} {mg mb : Str → Option Value} {dp un : Nat} {gd : Option (List Code)} {cn : Str} {cs : Scope} {a : Addr} {ccd : Value} {cl : List (Str × Addr)} {outer : List Env} {A₀ : Around} {base h₀ : Heap} {L : Addr} {m : Str → Option Value} {s : Shared} {Q E : Value → Shared → Prop} (own : List (Addr × Obj)) (x dx rg l md pl fl : Addr) (o : Obj) (gs : List Value) (regs : List Int) (kk : Nat) (at' order steps : Int) (v : Value) (rs : List TR) (b : Bool) (g : Int) (j : Nat) (p : Addr) (k : Nat) (t t1 t2 : Tok)
    (B : Below A₀ base outer h₀) (F : Fr h₀ L s.heap m) (X : (hd.heap_1 w.params).In h₀) (T : Top viewP LZ mean mg mb h₀) (hk : cs.kind = .function)
    (N : News h₀ L s.heap ((dx, o) :: (rg, listOf gs.toArray kk) :: own)) (hC : MachC PySem.Challenge.rw_pf0284_01.row.prog w own x dx l md pl rs) (hM : MObj o l md rg fl pl at' order steps false) (hof : OwnOff own [dx, rg]) (hdr : @LT.lt Nat _ dx rg) (hg : IntsAre gs regs) (hl : regs.length = 16)
    (hp4 : ∀ i : Nat, i < 4 → 0 ≤ regs.getD i 0 ∧ regs.getD i 0 < 1152921504606846976)
    (hd : dp + 30 < recursionLimit) (hu : un + 300 < cLine)
    (hp : (p, tupO [.str (kdS b) t1, .int g t2] k) ∈ own) (hj : lk (marksL 0 rs) (b, g) = some j)
    (hret : ∀ (o' : Obj) (h' : Heap) (tks : Nat), Fr h₀ L h' m → News h₀ L h' ((dx, o') :: (rg, listOf gs.toArray kk) :: own) → MObj o' l md rg fl pl j order steps false → Q (.bool true) { s with heap := h', toks := tks }) : codeAny (model PySem.Challenge.rw_pf0284_01.row.prog w) (ktrTop dp un gd cn cs L a ccd cl outer) (.call (.ref 426) ⟨[.ref x, .str (Str.ofString "jmp") t, .ref p], []⟩) (fun r s' => match r with | .ok (.ret v) => Q v s' | .ok _ => False | .error e => E e s') s := by
  with_unfolding_all exact EK.E_wayjmp_c.all ⟨w, mean, mg, mb, dp, un, gd, cn, cs, a, ccd, cl, outer, A₀, base, h₀, L, m, s, Q, E⟩ own x dx rg l md pl fl o gs regs kk at' order steps v rs b g j p k t t1 t2 B F X T hk N hC hM hof hdr hg hl hp4 hd hu hp hj hret
namespace EK.E_wayret_c
theorem core : @P w mean mg mb dp un gd cn cs a ccd cl outer A₀ base h₀ L m s Q E := by
  intro own x dx rg l md pl fl o gs regs kk at' order steps v rs p t B F X T hk N hC hM hof hdr hg hl hp4 hd hu hret
  obtain ⟨q1, q2, q3, q4, q5, q6, q7, q8, q9, u1, u2, u3, u4, u5, u6, u7, u8, u9, ta, to, ts, rfl⟩ := hM
  have hx := hC.inst
  have hpl := hC.pile
  ((k_dflt (refine' code_def ?k1 ?k2 ?k3 ?k4 ?k5 ?kA ?kF ?kK ?k6 ?k7 ?k8 ?k9 ?kB ?_ ?c2 ?c3 ?c4 ?c5; (case kA => exact rfl); (case kF => exact rfl); (case kK => first | exact rfl | assumption); (case k1 => k_asm); (case k2 => k_asm); (case k3 => k_asm); (case k4 => k_asm); (case k5 => k_asm); (case k6 => k_is); (case k7 => k_is); (case k8 => first | exact rm0 (by assumption) | exact rm 1 (by assumption) (by decide) | exact rm 2 (by assumption) (by decide) | exact rm 3 (by assumption) (by decide) | exact rm 4 (by assumption) (by decide)); (case k9 => first | exact BindsTo.of_eq rfl | exact binds_K (by k_in) rfl (by k_is) rfl rfl rfl); (case c5 => decide); (case kB => exact locs rfl); (case c2 => exact rfl); (case c3 => exact rfl); (case c4 => exact rfl); k_whole)); (intro g' L' h' FG' F' N' B' X' T'); (try dsimp only))
  k_steps
  (rename News _ _ _ _ => N9; rename Fr _ _ _ _ => F9; first | exact hret _ _ _ F9 N9 ⟨_, _, _, _, _, _, _, _, _, _, _, _, _, _, _, _, _, _, _, _, _, rfl⟩ | exact hret _ _ _ F9 (news_tl N9) ⟨_, _, _, _, _, _, _, _, _, _, _, _, _, _, _, _, _, _, _, _, _, rfl⟩ | exact hret _ _ _ F9 (news_tl (news_tl N9)) ⟨_, _, _, _, _, _, _, _, _, _, _, _, _, _, _, _, _, _, _, _, _, rfl⟩ | exact hret _ _ _ F9 (news_tl (news_tl (news_tl N9))) ⟨_, _, _, _, _, _, _, _, _, _, _, _, _, _, _, _, _, _, _, _, _, rfl⟩)
end EK.E_wayret_c
theorem EK.E_wayret_c.all : ∀ c, EK.E_wayret_c.Pc c := by
  have h : EK.E_wayret_c.Pc kc := by with_unfolding_all exact EK.E_wayret_c.core
  rw [EK.eqk27] at h
  exact first_all (r := EK.lst28) h
theorem EK.eqk28 : kc = first EK.lst28 := EK.eqk27.trans (first_skip EK.E_wayret_c.all)
theorem wayret_c {w : World} {mean : ExcName → Option Value} {mg mb : Str → Option Value} {dp un : Nat} {gd : Option (List Code)} {cn : Str} {cs : Scope} {a : Addr} {ccd : Value} {cl : List (Str × Addr)} {outer : List Env} {A₀ : Around} {base h₀ : Heap} {L : Addr} {m : Str → Option Value} {s : Shared} {Q E : Value → Shared → Prop} (own : List (Addr × Obj)) (x dx rg l md pl fl : Addr) (o : Obj) (gs : List Value) (regs : List Int) (kk : Nat) (at' order steps : Int) (v : Value) (rs : List TR) (p : Addr) (t : Tok)
    (B : Below A₀ base outer h₀) (F : Fr h₀ L s.heap m) (X : (hd.heap_1 w.params).In h₀) (T : Top viewP LZ mean mg mb h₀) (hk : cs.kind = .function)
    (N : News h₀ L s.heap ((dx, o) :: (rg, listOf gs.toArray kk) :: own)) (hC : MachC PySem.Challenge.rw_pf0284_01.row.prog w own x dx l md pl rs) (hM : MObj o l md rg fl pl at' order steps false) (hof : OwnOff own [dx, rg]) (hdr : @LT.lt Nat _ dx rg) (hg : IntsAre gs regs) (hl : regs.length = 16)
    (hp4 : ∀ i : Nat, i < 4 → 0 ≤ regs.getD i 0 ∧ regs.getD i 0 < 1152921504606846976)
    (hd : dp + 30 < recursionLimit) (hu : un + 300 < cLine)
    (hret : ∀ (o' : Obj) (h' : Heap) (tks : Nat), Fr h₀ L h' m → News h₀ L h' ((dx, o') :: (rg, listOf gs.toArray kk) :: own) → MObj o' l md rg fl pl at' order steps true → Q (.bool true) { s with heap := h', toks := tks }) : codeAny (model PySem.Challenge.rw_pf0284_01.row.prog w) (ktrTop dp un gd cn cs L a ccd cl outer) (.call (.ref 426) ⟨[.ref x, .str (Str.ofString "ret") t, .ref p], []⟩) (fun r s' => match r with | .ok (.ret v) => Q v s' | .ok _ => False | .error e => E e s') s := by
  with_unfolding_all exact EK.E_wayret_c.all ⟨w, mean, mg, mb, dp, un, gd, cn, cs, a, ccd, cl, outer, A₀, base, h₀, L, m, s, Q, E⟩ own x dx rg l md pl fl o gs regs kk at' order steps v rs p t B F X T hk N hC hM hof hdr hg hl hp4 hd hu hret
end
end
section
open PyProof.V
theorem fin3 : ∀ c : Fin 3, c = 0 ∨ c = 1 ∨ c = 2 := by decide
theorem kw30 : True := by
 w_top off
 k_with_none
 k_with "ml" => first | assumption | (refine memsub (by assumption) ?_; first | assumption | exact List.Mem.head _ | (refine List.Mem.tail _ ?_; first | exact List.Mem.head _ | (refine List.Mem.tail _ ?_; first | exact List.Mem.head _ | (refine List.Mem.tail _ ?_; first | exact List.Mem.head _ | (refine List.Mem.tail _ ?_; first | assumption) | assumption) | assumption) | assumption) | assumption)
 k_with "k_mem" => first | exact List.Mem.head _ | (refine List.Mem.tail _ ?_; k_extra "k_mem") | k_extra "ml"
 k_with "ks" => repeat' (first | (k_unfold; (try dsimp only)) | (k_end; kc_close) | (walk1; (try (first | (with_reducible show wpAny _ _ (exec _ _) _ _ _; (try dsimp only); (refine letq ?_; intro qk9ᵩ); (try with_reducible refine wpst ?_; intro tk9ᵩ); (try walk_at "fold9")) | (with_reducible show wpAny _ _ (execs _ _) _ _ _; k_fold)))) | (dsimp only; walk1) | (leave1; walk_say "STEP leave1"; try dsimp only) | (k_unmd; k_unfold; (try dsimp only)) | fail "no step")
 k_with "in9" => first | with_reducible assumption | (refine' Frag.In.keeps ?y9X (Fr.keep ?y9F); (case y9F => k_asm); (case y9X => k_asm))
 k_with "eval Constant str" => with_reducible refine kstr ?_
 k_with "eval Constant int" => with_reducible refine kint ?_
 k_with "oc" => first | (apply c1; assumption) | (apply c2; assumption) | (apply l2; assumption) | (apply c3; assumption) | (apply c4; assumption) | (apply c5; assumption) | (apply c6; assumption) | (apply c7; assumption) | (apply c8; assumption) | (apply c9; assumption) | (apply c10; assumption) | (apply c11; assumption) | (apply c12; assumption) | (apply c13; assumption) | (apply c14; assumption) | (apply c15; assumption) | (apply c16; assumption)
 k_with "od" => first | (apply c1; assumption) | (apply c2; assumption) | (apply l2; assumption) | (apply c3; assumption) | (apply c4; assumption) | (apply c5; assumption) | (apply c6; assumption) | (apply c7; assumption)
 k_with "on" => first | (apply zsy; assumption) | (apply zgt; first | assumption | k_extra "oc") | (apply zlt; first | assumption | k_extra "oc") | (apply gtt; assumption; first | assumption | k_extra "od") | (apply ltt; assumption; first | assumption | k_extra "od")
 k_with "oi" => first | exact nn0 | exact nn0' | exact z63 (by assumption) (by assumption) | exact z63b (by assumption) (by assumption) | exact n63 (by assumption) (by assumption) | exact n63b (by assumption) (by assumption) | exact z63c (by assumption) (by assumption) | exact z63d (by assumption) (by assumption) | exact nlt (by assumption) | exact n62 (by assumption) | exact n62b (by assumption) | exact tnl (by assumption) (by assumption) | exact sub1 (by assumption) | exact sub2 (by assumption) (by assumption) | decide | exact Int.lt_of_lt_of_le (by assumption) (by decide) | exact Nat.le_trans (by assumption) (by decide) | exact ul (by assumption) (by decide) | exact up0 (by assumption) (by assumption) | k_extra "oc"
 k_with "om" => first | (k_whole; with_reducible (first | assumption | (show @Ne Nat _ _; k_extra "on") | (show @Eq Nat _ _; first | exact tn1 (by assumption) | exact z0i) | ((first | show @LT.lt Int _ _ _ | show @LE.le Int _ _ _ | show @LT.lt Nat _ _ _ | show @LE.le Nat _ _ _); k_extra "oi")))
 k_with "execs cons If" => (k_here; (with_reducible show wpAny _ _ (execs (PySem.Stmt.If (PySem.Expr.Compare (PySem.Expr.Name _ _) [.Eq] [PySem.Expr.Constant (.str _) _ _] _) _ _ _ :: _) _) _ _ _); first | ((with_reducible show wpAny _ _ (execs (PySem.Stmt.If _ _ [] _ :: _) _) _ _ _); k_dflt (refine' cif_f ?F ?v ?x ?c ?k ?d ?_; (case F => k_asm); (case x => kernel_rfl!); (case k => kernel_rfl!); (case d => kernel_rfl!); (case v => rfl); (case c => first | with_reducible assumption | kernel_rfl!); k_whole)) | ((with_reducible show wpAny _ _ (execs [PySem.Stmt.If _ _ (_ :: _) _] _) _ _ _); k_dflt (refine' cif_g ?F ?v ?x ?c ?k ?d ?_; (case F => k_asm); (case x => kernel_rfl!); (case k => kernel_rfl!); (case d => kernel_rfl!); (case v => rfl); (case c => first | with_reducible assumption | kernel_rfl!); k_whole)) | ((with_reducible show wpAny _ _ (execs [PySem.Stmt.If _ _ _ _] _) _ _ _); k_dflt (refine' cif_t ?F ?v ?x ?c ?k ?d ?_; (case F => k_asm); (case x => kernel_rfl!); (case k => kernel_rfl!); (case d => kernel_rfl!); (case v => rfl); (case c => first | with_reducible assumption | kernel_rfl!); k_whole)) | k_dflt (refine' cif_r ?F ?v ?x ?c ?k ?d ?_; (case F => k_asm); (case x => kernel_rfl!); (case k => kernel_rfl!); (case d => kernel_rfl!); (case v => rfl); (case c => first | with_reducible assumption | kernel_rfl!); k_whole))
 k_with "callWith" => ((with_reducible show wpAny _ _ (callWith _ (Value.builtin _) (_ :: _) (backTo _ (starEach (_ :: _) _)) []) _ _ _); refine callWith_method1 ?_)
 k_with "callWith ref" => (k_here; k_dflt (first | (refine' callWith_K ?y9k ?y9l ?_; (case y9k => k_asm); (case y9l => k_is); k_whole) | (refine' callWith_K0 ?y9k ?y9l ?_; (case y9k => k_in); (case y9l => k_is); k_whole)))
 k_with "eval Name" => (k_here; (fail_if_success (with_reducible show wpAny _ _ (eval (PySem.Expr.Name _ _) (compEnvC _ _ _ _)) _ _ _)); k_dflt (first | (refine' nameX_L ?y9F ?y9v ?_ ?y9a ?y9b ?y9d; (case y9F => k_asm); (case y9a => kernel_rfl!); (case y9b => kernel_rfl!); (case y9d => kernel_rfl!); (case y9v => rfl); k_whole) | (refine' nameX_K ?y9F ?y9X ?y9T ?y9e ?_ ?y9a ?y9b; (case y9F => k_asm); (case y9X => k_asm); (case y9T => k_asm); (case y9a => kernel_rfl!); (case y9b => kernel_rfl!); (case y9e => k_is); k_whole) | (refine' nameX_C ?y9N ?y9c ?y9m ?y9d ?_ ?y9a ?y9b; (case y9a => kernel_rfl!); (case y9b => kernel_rfl!); (case y9N => k_asm); (case y9c => rfl); (case y9m => k_mem); (case y9d => k_asm); k_whole) | (refine' nameX_B ?y9F ?y9X ?y9T ?y9e ?y9v ?y9n ?_ ?y9a ?y9b; (case y9F => k_asm); (case y9X => k_asm); (case y9T => k_asm); (case y9a => kernel_rfl!); (case y9b => kernel_rfl!); (case y9e => k_is); (case y9v => boot_fast); (case y9n => decide); k_whole)))
 k_with "execs cons Return" => with_reducible refine cret ?_
 k_with "newTuple" => (k_here; k_dflt (refine' kup_newTuple (by k_asm) (by k_asm) ?_ (by kmk_size)); intro D'ᵩ h'ᵩ F'ᵩ N'ᵩ l1ᵩ; have l2ᵩ := l1ᵩ; (try k_lt l1ᵩ))
 k_with "k9" => (first | exact rfl | assumption)
 k_with "d9" => (first | exact rmc0 (by assumption) (by decide) | exact rmc 1 (by assumption) (by decide) | exact rmc 2 (by assumption) (by decide) | exact rmc 3 (by assumption) (by decide))
 k_with "u9" => (first | exact rmu0 (by assumption) (by decide) | exact rmu 3 (by assumption) (by decide) | exact rmu 6 (by assumption) (by decide) | exact rmu 9 (by assumption) (by decide) | exact rmu 1 (by assumption) (by decide) | exact rmu 4 (by assumption) (by decide) | exact rmu 7 (by assumption) (by decide))
 k_with "r9" => (first | exact rm0 (by assumption) | exact rm 1 (by assumption) (by decide) | exact rm 2 (by assumption) (by decide) | exact rm 3 (by assumption) (by decide) | exact rm 4 (by assumption) (by decide))
 k_with "b9" => (first | exact BindsTo.of_eq rfl | exact binds_K (by k_in) rfl (by k_is) rfl rfl rfl)
 k_with "c9" => (k_dflt (refine' code_def ?k1 ?k2 ?k3 ?k4 ?k5 ?kA ?kF ?kK ?k6 ?k7 ?k8 ?k9 ?kB ?_ ?c2 ?c3 ?c4 ?c5; (case kA => exact rfl); (case kF => exact rfl); (case kK => k_extra "k9"); (case k1 => k_asm); (case k2 => k_asm); (case k3 => k_asm); (case k4 => k_asm); (case k5 => k_asm); (case k6 => k_is); (case k7 => k_is); (case k8 => k_extra "r9"); (case k9 => k_extra "b9"); (case c5 => decide); (case kB => exact locs rfl); (case c2 => exact rfl); (case c3 => exact rfl); (case c4 => exact rfl); k_whole); intro g'ᵩ L'ᵩ h'ᵩ FG'ᵩ F'ᵩ N'ᵩ B'ᵩ X'ᵩ T'ᵩ; (try dsimp only))
 k_with "i9" => (k_dflt (refine' item_led (by k_asm) (by k_mem) (by omega) (by with_reducible assumption) (by omega) ?_ (by with_unfolding_all rfl); k_whole))
 k_with "j9" => (first | k_dflt (refine' item_tupleT (News.isTup (by k_asm) (by k_mem)) (by decide) (by decide) (by rfl) (by rfl) ?_ (by with_unfolding_all rfl); k_whole) | k_extra "i9")
 k_with "mo" => exact ⟨_, _, _, _, _, _, _, _, ⟨_, _, _, _, _, _, _, _, _, _, _, _, _, _, _, _, _, _, _, _, _, rfl⟩⟩
 k_with "nt" => (first | assumption | exact news_tl (by assumption) | exact news_tl (news_tl (by assumption)) | exact news_tl (news_tl (news_tl (by assumption))) | exact news_tl (news_tl (news_tl (news_tl (by assumption)))) | exact news_tl (news_tl (news_tl (news_tl (news_tl (by assumption))))) | exact news_tl (news_tl (news_tl (news_tl (news_tl (news_tl (by assumption)))))) | exact news_tl (news_tl (news_tl (news_tl (news_tl (news_tl (news_tl (by assumption))))))))
 k_with "subscriptTail Attribute Subscript Constant ref int" => (k_here; k_extra "j9")
 k_with "subscriptTail Name Constant ref int" => (k_here; k_extra "j9")
 k_with "subscriptTail Attribute Name Constant ref int" => (k_here; k_extra "j9")
 k_with "subscriptTail Name Name ref int" => (k_here; k_extra "i9")
 k_with "ite" => first | with_reducible refine ite_tt ?_ | with_reducible refine ite_ff ?_ | (k_closed; k_dflt (first | (with_reducible refine' ite_bp ?y9z ?_; (case y9z => kernel_rfl!)) | (with_reducible refine' ite_bn ?y9z ?_; (case y9z => kernel_rfl!)) | refine ite_pos (by decide) ?_ | refine ite_neg (by decide) ?_)) | (with_reducible refine ite_af (by decide +kernel) ?_) | (with_reducible refine ite_at (by decide +kernel) ?_) | (with_reducible refine ite_dp (by omega) ?_) | (with_reducible refine ite_dn (by omega) ?_) | (with_reducible refine ite_bp (by assumption) ?_) | (with_reducible refine ite_bn (by assumption) ?_)
 k_with "call builtin:len" => (k_here; (with_reducible show wpAny _ _ (call (Value.builtin "len") [Value.ref _]) _ _ _); k_dflt (refine' len_led (by k_asm) (by k_mem) (by with_reducible assumption) (by omega) ?_; k_whole))
 k_with "call ref" => (k_here; (with_reducible show wpAny _ _ (call (Value.ref _) _) _ _ _); refine wpAny_call ?_; k_extra "c9")
 k_with "fold9" => (try (refine letf (by assumption) ?_; intro m9ᵩ F9ᵩ))
 trivial
theorem cb_eq (c : Fin 3) (x y : Int) : cb c (decide (x < y)) (decide (x = y)) = condB c x y := by
  obtain rfl | rfl | rfl : c = 0 ∨ c = 1 ∨ c = 2 := by revert c; decide
  · rfl
  · show (!decide (x < y) && !decide (x = y)) = decide (y < x)
    by_cases h1 : x < y
    · rw [decide_eq_true h1, decide_eq_false (by omega : ¬ y < x)]; rfl
    · by_cases h2 : x = y
      · rw [decide_eq_false h1, decide_eq_true h2, decide_eq_false (by omega : ¬ y < x)]; rfl
      · rw [decide_eq_false h1, decide_eq_false h2, decide_eq_true (by omega : y < x)]; rfl
  · show (decide (x < y) || decide (x = y)) = decide (x ≤ y)
    by_cases h1 : x < y
    · rw [decide_eq_true h1, decide_eq_true (by omega : x ≤ y)]; rfl
    · by_cases h2 : x = y
      · rw [decide_eq_false h1, decide_eq_true h2, decide_eq_true (by omega : x ≤ y)]; rfl
      · rw [decide_eq_false h1, decide_eq_false h2, decide_eq_false (by omega : ¬ x ≤ y)]; rfl
section
namespace EK.E_cond_c
theorem core : @P w mean mg mb dp un gd cn cs a ccd cl outer A₀ base h₀ L m s Q E := by
  intro news c fl p z t B F X T hk N hf hd hu hret
  obtain ⟨fd, q1, q2, q3, q4, t1, t2, t3, t4, n, hm1, hm2⟩ := hf
  obtain rfl | rfl | rfl := fin3 c
  all_goals
    dsimp only [ccS, cb] at hret ⊢
    cases p <;> cases z <;> k_steps <;> exact hret _ _ (by assumption) (by (first | assumption | exact news_tl (by assumption) | exact news_tl (news_tl (by assumption)) | exact news_tl (news_tl (news_tl (by assumption))) | exact news_tl (news_tl (news_tl (news_tl (by assumption)))) | exact news_tl (news_tl (news_tl (news_tl (news_tl (by assumption))))) | exact news_tl (news_tl (news_tl (news_tl (news_tl (news_tl (by assumption)))))) | exact news_tl (news_tl (news_tl (news_tl (news_tl (news_tl (news_tl (by assumption)))))))))
end EK.E_cond_c
theorem EK.E_cond_c.all : ∀ c, EK.E_cond_c.Pc c := by
  have h : EK.E_cond_c.Pc kc := by with_unfolding_all exact EK.E_cond_c.core
  rw [EK.eqk28] at h
  exact first_all (r := EK.lst29) h
theorem EK.eqk29 : kc = first EK.lst29 := EK.eqk28.trans (first_skip EK.E_cond_c.all)
theorem cond_c {w : World} {mean : ExcName → Option Value} {mg mb : Str → Option Value} {dp un : Nat} {gd : Option (List Code)} {cn : Str} {cs : Scope} {a : Addr} {ccd : Value} {cl : List (Str × Addr)} {outer : List Env} {A₀ : Around} {base h₀ : Heap} {L : Addr} {m : Str → Option Value} {s : Shared} {Q E : Value → Shared → Prop} (news : List (Addr × Obj)) (c : Fin 3) (fl : Addr) (p z : Bool) (t : Tok)
    (B : Below A₀ base outer h₀) (F : Fr h₀ L s.heap m) (X : (hd.heap_1 w.params).In h₀) (T : Top viewP LZ mean mg mb h₀) (hk : cs.kind = .function)
    (N : News h₀ L s.heap news) (hf : FlagsAt news fl (.bool p) (.bool z) (.bool p) (.bool false))
    (hd : dp + 8 < recursionLimit) (hu : un + 80 < cLine)
    (hret : ∀ (h' : Heap) (tks : Nat), Fr h₀ L h' m → News h₀ L h' news → Q (.bool (cb c p z)) { s with heap := h', toks := tks }) : wpAny (model PySem.Challenge.rw_pf0284_01.row.prog w) (ktrTop dp un gd cn cs L a ccd cl outer) (call (.ref 298) [.str (ccS c) t, .ref fl]) Q E s := by
  with_unfolding_all exact EK.E_cond_c.all ⟨w, mean, mg, mb, dp, un, gd, cn, cs, a, ccd, cl, outer, A₀, base, h₀, L, m, s, Q, E⟩ news c fl p z t B F X T hk N hf hd hu hret
end
section
theorem kw31 : True := by
 w_top off
 k_with "subscriptTail" => (k_here; (with_reducible show wpAny _ _ (subscriptTail _ _ (Value.ref _) (Value.ref _)) _ _ _); k_dflt (refine' marks_item (by k_asm) (by k_mem) (by with_reducible assumption) (by intro pᵩ hpᵩ; k_mem) (by k_mem) (by exact mkey_obj (o := _)) (by k_extra "u9") (by assumption) ?_); intro t'ᵩ)
 k_with "call ref" => (k_here; (with_reducible show wpAny _ _ (call (Value.ref 298) _) _ _ _); k_dflt (refine' cond_c  _ _ _ _ _ _ ?B ?F ?X ?T ?k ?N ?f ?d ?u ?_; (case B => k_asm); (case F => k_asm); (case X => k_asm); (case T => k_asm); (case k => first | exact rfl | assumption); (case N => k_asm); (case f => refine' FlagsAt.mono ?ss ?rr; (case rr => with_reducible assumption); (case ss => intro pᵩ hpᵩ; k_mem)); (case d => first | exact rmc0 (by assumption) (by decide) | exact rmc 1 (by assumption) (by decide) | exact rmc 2 (by assumption) (by decide) | exact rmc 3 (by assumption) (by decide)); (case u => first | exact rmu0 (by assumption) (by decide) | exact rmu 3 (by assumption) (by decide) | exact rmu 6 (by assumption) (by decide) | exact rmu 9 (by assumption) (by decide) | exact rmu 1 (by assumption) (by decide) | exact rmu 4 (by assumption) (by decide) | exact rmu 7 (by assumption) (by decide))); intro h'ᵩ tks'ᵩ F'ᵩ N'ᵩ)
 trivial
namespace EK.E_wayjcc_c
theorem core : @P w mean mg mb dp un gd cn cs a ccd cl outer A₀ base h₀ L m s Q E := by
  intro own x dx rg l md pl fl o gs regs kk at' order steps v rs c b g x' y' j p k t t1 t2 t3 B F X T hk N hC hM hof hdr hg hl hp4 hd hu hp hj hf hret
  obtain ⟨q1, q2, q3, q4, q5, q6, q7, q8, q9, u1, u2, u3, u4, u5, u6, u7, u8, u9, ta, to, ts, rfl⟩ := hM
  obtain ⟨mo, hmd, hmk⟩ := hC.mks
  have hx := hC.inst
  have e := cb_eq c x' y'
  dsimp only [FK] at hf
  cases hc : condB c x' y'
  · rw [hc] at e
    simp only [hc] at hret
    ((k_dflt (refine' code_def ?k1 ?k2 ?k3 ?k4 ?k5 ?kA ?kF ?kK ?k6 ?k7 ?k8 ?k9 ?kB ?_ ?c2 ?c3 ?c4 ?c5; (case kA => exact rfl); (case kF => exact rfl); (case kK => first | exact rfl | assumption); (case k1 => k_asm); (case k2 => k_asm); (case k3 => k_asm); (case k4 => k_asm); (case k5 => k_asm); (case k6 => k_is); (case k7 => k_is); (case k8 => first | exact rm0 (by assumption) | exact rm 1 (by assumption) (by decide) | exact rm 2 (by assumption) (by decide) | exact rm 3 (by assumption) (by decide) | exact rm 4 (by assumption) (by decide)); (case k9 => first | exact BindsTo.of_eq rfl | exact binds_K (by k_in) rfl (by k_is) rfl rfl rfl); (case c5 => decide); (case kB => exact locs rfl); (case c2 => exact rfl); (case c3 => exact rfl); (case c4 => exact rfl); k_whole)); (intro g' L' h' FG' F' N' B' X' T'); (try dsimp only))
    k_steps
    (rename News _ _ _ _ => N9; rename Fr _ _ _ _ => F9; first | exact hret _ _ _ F9 N9 ⟨_, _, _, _, _, _, _, _, _, _, _, _, _, _, _, _, _, _, _, _, _, rfl⟩ | exact hret _ _ _ F9 (news_tl N9) ⟨_, _, _, _, _, _, _, _, _, _, _, _, _, _, _, _, _, _, _, _, _, rfl⟩ | exact hret _ _ _ F9 (news_tl (news_tl N9)) ⟨_, _, _, _, _, _, _, _, _, _, _, _, _, _, _, _, _, _, _, _, _, rfl⟩ | exact hret _ _ _ F9 (news_tl (news_tl (news_tl N9))) ⟨_, _, _, _, _, _, _, _, _, _, _, _, _, _, _, _, _, _, _, _, _, rfl⟩)
  · rw [hc] at e
    simp only [hc] at hret
    ((k_dflt (refine' code_def ?k1 ?k2 ?k3 ?k4 ?k5 ?kA ?kF ?kK ?k6 ?k7 ?k8 ?k9 ?kB ?_ ?c2 ?c3 ?c4 ?c5; (case kA => exact rfl); (case kF => exact rfl); (case kK => first | exact rfl | assumption); (case k1 => k_asm); (case k2 => k_asm); (case k3 => k_asm); (case k4 => k_asm); (case k5 => k_asm); (case k6 => k_is); (case k7 => k_is); (case k8 => first | exact rm0 (by assumption) | exact rm 1 (by assumption) (by decide) | exact rm 2 (by assumption) (by decide) | exact rm 3 (by assumption) (by decide) | exact rm 4 (by assumption) (by decide)); (case k9 => first | exact BindsTo.of_eq rfl | exact binds_K (by k_in) rfl (by k_is) rfl rfl rfl); (case c5 => decide); (case kB => exact locs rfl); (case c2 => exact rfl); (case c3 => exact rfl); (case c4 => exact rfl); k_whole)); (intro g' L' h' FG' F' N' B' X' T'); (try dsimp only))
    k_steps
    (rename News _ _ _ _ => N9; rename Fr _ _ _ _ => F9; first | exact hret _ _ _ F9 N9 ⟨_, _, _, _, _, _, _, _, _, _, _, _, _, _, _, _, _, _, _, _, _, rfl⟩ | exact hret _ _ _ F9 (news_tl N9) ⟨_, _, _, _, _, _, _, _, _, _, _, _, _, _, _, _, _, _, _, _, _, rfl⟩ | exact hret _ _ _ F9 (news_tl (news_tl N9)) ⟨_, _, _, _, _, _, _, _, _, _, _, _, _, _, _, _, _, _, _, _, _, rfl⟩ | exact hret _ _ _ F9 (news_tl (news_tl (news_tl N9))) ⟨_, _, _, _, _, _, _, _, _, _, _, _, _, _, _, _, _, _, _, _, _, rfl⟩)
end EK.E_wayjcc_c
theorem EK.E_wayjcc_c.all : ∀ c, EK.E_wayjcc_c.Pc c := by
  have h : EK.E_wayjcc_c.Pc kc := by with_unfolding_all exact EK.E_wayjcc_c.core
  rw [EK.eqk29] at h
  exact first_all (r := EK.lst30) h
theorem EK.eqk30 : kc = first EK.lst30 := EK.eqk29.trans (first_skip EK.E_wayjcc_c.all)
theorem wayjcc_c {w : World} {mean : ExcName → Option Value} {mg mb : Str → Option Value} {dp un : Nat} {gd : Option (List Code)} {cn : Str} {cs : Scope} {a : Addr} {ccd : Value} {cl : List (Str × Addr)} {outer : List Env} {A₀ : Around} {base h₀ : Heap} {L : Addr} {m : Str → Option Value} {s : Shared} {Q E : Value → Shared → Prop} (own : List (Addr × Obj)) (x dx rg l md pl fl : Addr) (o : Obj) (gs : List Value) (regs : List Int) (kk : Nat) (at' order steps : Int) (v : Value) (rs : List TR) (c : Fin 3) (b : Bool) (g x' y' : Int) (j : Nat) (p : Addr) (k : Nat) (t t1 t2 t3 : Tok)
    (B : Below A₀ base outer h₀) (F : Fr h₀ L s.heap m) (X : (hd.heap_1 w.params).In h₀) (T : Top viewP LZ mean mg mb h₀) (hk : cs.kind = .function)
    (N : News h₀ L s.heap ((dx, o) :: (rg, listOf gs.toArray kk) :: own)) (hC : MachC PySem.Challenge.rw_pf0284_01.row.prog w own x dx l md pl rs) (hM : MObj o l md rg fl pl at' order steps false) (hof : OwnOff own [dx, rg]) (hdr : @LT.lt Nat _ dx rg) (hg : IntsAre gs regs) (hl : regs.length = 16)
    (hp4 : ∀ i : Nat, i < 4 → 0 ≤ regs.getD i 0 ∧ regs.getD i 0 < 1152921504606846976)
    (hd : dp + 30 < recursionLimit) (hu : un + 300 < cLine)
    (hp : (p, tupO [.str (ccS c) t3, .str (kdS b) t1, .int g t2] k) ∈ own) (hj : lk (marksL 0 rs) (b, g) = some j)
    (hf : FK own fl (some (x', y')))
    (hret : ∀ (o' : Obj) (h' : Heap) (tks : Nat), Fr h₀ L h' m → News h₀ L h' ((dx, o') :: (rg, listOf gs.toArray kk) :: own) → MObj o' l md rg fl pl (if condB c x' y' = true then (j : Int) else at') order steps false → Q (.bool true) { s with heap := h', toks := tks }) : codeAny (model PySem.Challenge.rw_pf0284_01.row.prog w) (ktrTop dp un gd cn cs L a ccd cl outer) (.call (.ref 426) ⟨[.ref x, .str (Str.ofString "jcc") t, .ref p], []⟩) (fun r s' => match r with | .ok (.ret v) => Q v s' | .ok _ => False | .error e => E e s') s := by
  with_unfolding_all exact EK.E_wayjcc_c.all ⟨w, mean, mg, mb, dp, un, gd, cn, cs, a, ccd, cl, outer, A₀, base, h₀, L, m, s, Q, E⟩ own x dx rg l md pl fl o gs regs kk at' order steps v rs c b g x' y' j p k t t1 t2 t3 B F X T hk N hC hM hof hdr hg hl hp4 hd hu hp hj hf hret
end
end
section
open PyProof.V
theorem ueW1 {h₀ h' : Heap} {L I : Addr} {m' : Str → Option Value} {tk : Nat} {s₁ : Shared} {o1 : Obj} {news all keep : List (Addr × Obj)} {R : (Str → Option Value) → List (Addr × Obj) → Prop} (hI : ∀ p ∈ news, p.1 < I) (F : Fr h₀ L h' m') (N : News h₀ L h' all)
    (hs : ∀ p ∈ (I, o1) :: news, p ∈ all) (hk : SubL keep news) (r : R m' news) :
    UnrEndW h₀ L s₁ [(I, o1)] (fun m' n' => SubL keep n' ∧ R m' n') { s₁ with heap := h', toks := tk } :=
  ⟨h', tk, m', news, rfl, F, fun p hp => N p (hs p hp), fun p hp q hq => by
    rw [List.mem_singleton.mp hq]
    exact Nat.ne_of_lt (hI p hp), hk, r⟩
section
theorem kw32 : True := by
 w_top off
 k_with_none
 k_with "ml" => first | assumption | (refine memsub (by assumption) ?_; first | assumption | exact List.Mem.head _ | (refine List.Mem.tail _ ?_; first | exact List.Mem.head _ | (refine List.Mem.tail _ ?_; first | exact List.Mem.head _ | (refine List.Mem.tail _ ?_; first | exact List.Mem.head _ | (refine List.Mem.tail _ ?_; first | assumption) | assumption) | assumption) | assumption) | assumption)
 k_with "k_mem" => first | exact List.Mem.head _ | (refine List.Mem.tail _ ?_; k_extra "k_mem") | k_extra "ml"
 k_with "ks" => repeat' (first | (k_unfold; (try dsimp only)) | (k_end; kc_close) | (walk1; (try (first | (with_reducible show wpAny _ _ (exec _ _) _ _ _; (try dsimp only); (refine letq ?_; intro qk9ᵩ); (try with_reducible refine wpst ?_; intro tk9ᵩ); (try walk_at "fold9")) | (with_reducible show wpAny _ _ (execs _ _) _ _ _; k_fold)))) | (dsimp only; walk1) | (leave1; walk_say "STEP leave1"; try dsimp only) | (k_unmd; k_unfold; (try dsimp only)) | fail "no step")
 k_with "in9" => first | with_reducible assumption | (refine' Frag.In.keeps ?y9X (Fr.keep ?y9F); (case y9F => k_asm); (case y9X => k_asm))
 k_with "eval Constant str" => with_reducible refine kstr ?_
 k_with "eval Constant int" => with_reducible refine kint ?_
 k_with "oc" => first | (apply c1; assumption) | (apply c2; assumption) | (apply l2; assumption) | (apply c3; assumption) | (apply c4; assumption) | (apply c5; assumption) | (apply c6; assumption) | (apply c7; assumption) | (apply c8; assumption) | (apply c9; assumption) | (apply c10; assumption) | (apply c11; assumption) | (apply c12; assumption) | (apply c13; assumption) | (apply c14; assumption) | (apply c15; assumption) | (apply c16; assumption)
 k_with "od" => first | (apply c1; assumption) | (apply c2; assumption) | (apply l2; assumption) | (apply c3; assumption) | (apply c4; assumption) | (apply c5; assumption) | (apply c6; assumption) | (apply c7; assumption)
 k_with "on" => first | (apply zsy; assumption) | (apply zgt; first | assumption | k_extra "oc") | (apply zlt; first | assumption | k_extra "oc") | (apply gtt; assumption; first | assumption | k_extra "od") | (apply ltt; assumption; first | assumption | k_extra "od")
 k_with "oi" => first | exact nn0 | exact nn0' | exact z63 (by assumption) (by assumption) | exact z63b (by assumption) (by assumption) | exact n63 (by assumption) (by assumption) | exact n63b (by assumption) (by assumption) | exact z63c (by assumption) (by assumption) | exact z63d (by assumption) (by assumption) | exact nlt (by assumption) | exact n62 (by assumption) | exact n62b (by assumption) | exact tnl (by assumption) (by assumption) | exact sub1 (by assumption) | exact sub2 (by assumption) (by assumption) | decide | exact Int.lt_of_lt_of_le (by assumption) (by decide) | exact Nat.le_trans (by assumption) (by decide) | exact ul (by assumption) (by decide) | exact up0 (by assumption) (by assumption) | k_extra "oc"
 k_with "om" => first | (k_whole; with_reducible (first | assumption | (show @Ne Nat _ _; k_extra "on") | (show @Eq Nat _ _; first | exact tn1 (by assumption) | exact z0i) | ((first | show @LT.lt Int _ _ _ | show @LE.le Int _ _ _ | show @LT.lt Nat _ _ _ | show @LE.le Nat _ _ _); k_extra "oi")))
 k_with "execs cons If" => (k_here; (with_reducible show wpAny _ _ (execs (PySem.Stmt.If (PySem.Expr.Compare (PySem.Expr.Name _ _) [.Eq] [PySem.Expr.Constant (.str _) _ _] _) _ _ _ :: _) _) _ _ _); first | ((with_reducible show wpAny _ _ (execs (PySem.Stmt.If _ _ [] _ :: _) _) _ _ _); k_dflt (refine' cif_f ?F ?v ?x ?c ?k ?d ?_; (case F => k_asm); (case x => kernel_rfl!); (case k => kernel_rfl!); (case d => kernel_rfl!); (case v => rfl); (case c => first | with_reducible assumption | kernel_rfl!); k_whole)) | ((with_reducible show wpAny _ _ (execs [PySem.Stmt.If _ _ (_ :: _) _] _) _ _ _); k_dflt (refine' cif_g ?F ?v ?x ?c ?k ?d ?_; (case F => k_asm); (case x => kernel_rfl!); (case k => kernel_rfl!); (case d => kernel_rfl!); (case v => rfl); (case c => first | with_reducible assumption | kernel_rfl!); k_whole)) | ((with_reducible show wpAny _ _ (execs [PySem.Stmt.If _ _ _ _] _) _ _ _); k_dflt (refine' cif_t ?F ?v ?x ?c ?k ?d ?_; (case F => k_asm); (case x => kernel_rfl!); (case k => kernel_rfl!); (case d => kernel_rfl!); (case v => rfl); (case c => first | with_reducible assumption | kernel_rfl!); k_whole)) | k_dflt (refine' cif_r ?F ?v ?x ?c ?k ?d ?_; (case F => k_asm); (case x => kernel_rfl!); (case k => kernel_rfl!); (case d => kernel_rfl!); (case v => rfl); (case c => first | with_reducible assumption | kernel_rfl!); k_whole))
 k_with "callWith" => ((with_reducible show wpAny _ _ (callWith _ (Value.builtin _) (_ :: _) (backTo _ (starEach (_ :: _) _)) []) _ _ _); refine callWith_method1 ?_)
 k_with "callWith ref" => (k_here; k_dflt (first | (refine' callWith_K ?y9k ?y9l ?_; (case y9k => k_asm); (case y9l => k_is); k_whole) | (refine' callWith_K0 ?y9k ?y9l ?_; (case y9k => k_in); (case y9l => k_is); k_whole)))
 k_with "eval Name" => (k_here; (fail_if_success (with_reducible show wpAny _ _ (eval (PySem.Expr.Name _ _) (compEnvC _ _ _ _)) _ _ _)); k_dflt (first | (refine' nameX_L ?y9F ?y9v ?_ ?y9a ?y9b ?y9d; (case y9F => k_asm); (case y9a => kernel_rfl!); (case y9b => kernel_rfl!); (case y9d => kernel_rfl!); (case y9v => rfl); k_whole) | (refine' nameX_K ?y9F ?y9X ?y9T ?y9e ?_ ?y9a ?y9b; (case y9F => k_asm); (case y9X => k_asm); (case y9T => k_asm); (case y9a => kernel_rfl!); (case y9b => kernel_rfl!); (case y9e => k_is); k_whole) | (refine' nameX_C ?y9N ?y9c ?y9m ?y9d ?_ ?y9a ?y9b; (case y9a => kernel_rfl!); (case y9b => kernel_rfl!); (case y9N => k_asm); (case y9c => rfl); (case y9m => k_mem); (case y9d => k_asm); k_whole) | (refine' nameX_B ?y9F ?y9X ?y9T ?y9e ?y9v ?y9n ?_ ?y9a ?y9b; (case y9F => k_asm); (case y9X => k_asm); (case y9T => k_asm); (case y9a => kernel_rfl!); (case y9b => kernel_rfl!); (case y9e => k_is); (case y9v => boot_fast); (case y9n => decide); k_whole)))
 k_with "execs cons Return" => with_reducible refine cret ?_
 k_with "newTuple" => (k_here; k_dflt (refine' kup_newTuple (by k_asm) (by k_asm) ?_ (by kmk_size)); intro D'ᵩ h'ᵩ F'ᵩ N'ᵩ l1ᵩ; have l2ᵩ := l1ᵩ; (try k_lt l1ᵩ))
 k_with "k9" => (first | exact rfl | assumption)
 k_with "d9" => (first | exact rmc0 (by assumption) (by decide) | exact rmc 1 (by assumption) (by decide) | exact rmc 2 (by assumption) (by decide) | exact rmc 3 (by assumption) (by decide))
 k_with "u9" => (first | exact rmu0 (by assumption) (by decide) | exact rmu 3 (by assumption) (by decide) | exact rmu 6 (by assumption) (by decide) | exact rmu 9 (by assumption) (by decide) | exact rmu 1 (by assumption) (by decide) | exact rmu 4 (by assumption) (by decide) | exact rmu 7 (by assumption) (by decide))
 k_with "r9" => (first | exact rm0 (by assumption) | exact rm 1 (by assumption) (by decide) | exact rm 2 (by assumption) (by decide) | exact rm 3 (by assumption) (by decide) | exact rm 4 (by assumption) (by decide))
 k_with "b9" => (first | exact BindsTo.of_eq rfl | exact binds_K (by k_in) rfl (by k_is) rfl rfl rfl)
 k_with "c9" => (k_dflt (refine' code_def ?k1 ?k2 ?k3 ?k4 ?k5 ?kA ?kF ?kK ?k6 ?k7 ?k8 ?k9 ?kB ?_ ?c2 ?c3 ?c4 ?c5; (case kA => exact rfl); (case kF => exact rfl); (case kK => k_extra "k9"); (case k1 => k_asm); (case k2 => k_asm); (case k3 => k_asm); (case k4 => k_asm); (case k5 => k_asm); (case k6 => k_is); (case k7 => k_is); (case k8 => k_extra "r9"); (case k9 => k_extra "b9"); (case c5 => decide); (case kB => exact locs rfl); (case c2 => exact rfl); (case c3 => exact rfl); (case c4 => exact rfl); k_whole); intro g'ᵩ L'ᵩ h'ᵩ FG'ᵩ F'ᵩ N'ᵩ B'ᵩ X'ᵩ T'ᵩ; (try dsimp only))
 k_with "i9" => (k_dflt (refine' item_led (by k_asm) (by k_mem) (by omega) (by with_reducible assumption) (by omega) ?_ (by with_unfolding_all rfl); k_whole))
 k_with "j9" => (first | k_dflt (refine' item_tupleT (News.isTup (by k_asm) (by k_mem)) (by decide) (by decide) (by rfl) (by rfl) ?_ (by with_unfolding_all rfl); k_whole) | k_extra "i9")
 k_with "mo" => exact ⟨_, _, _, _, _, _, _, _, ⟨_, _, _, _, _, _, _, _, _, _, _, _, _, _, _, _, _, _, _, _, _, rfl⟩⟩
 k_with "nt" => (first | assumption | exact news_tl (by assumption) | exact news_tl (news_tl (by assumption)) | exact news_tl (news_tl (news_tl (by assumption))) | exact news_tl (news_tl (news_tl (news_tl (by assumption)))) | exact news_tl (news_tl (news_tl (news_tl (news_tl (by assumption))))) | exact news_tl (news_tl (news_tl (news_tl (news_tl (news_tl (by assumption)))))) | exact news_tl (news_tl (news_tl (news_tl (news_tl (news_tl (news_tl (by assumption))))))))
 k_with "subscriptTail Attribute Subscript Constant ref int" => (k_here; k_extra "j9")
 k_with "subscriptTail Name Constant ref int" => (k_here; k_extra "j9")
 k_with "subscriptTail Attribute Name Constant ref int" => (k_here; k_extra "j9")
 k_with "subscriptTail Name Name ref int" => (k_here; k_extra "i9")
 k_with "ite" => first | with_reducible refine ite_tt ?_ | with_reducible refine ite_ff ?_ | (k_closed; k_dflt (first | (with_reducible refine' ite_bp ?y9z ?_; (case y9z => kernel_rfl!)) | (with_reducible refine' ite_bn ?y9z ?_; (case y9z => kernel_rfl!)) | refine ite_pos (by decide) ?_ | refine ite_neg (by decide) ?_)) | (with_reducible refine ite_af (by decide +kernel) ?_) | (with_reducible refine ite_at (by decide +kernel) ?_) | (with_reducible refine ite_dp (by omega) ?_) | (with_reducible refine ite_dn (by omega) ?_) | (with_reducible refine ite_bp (by assumption) ?_) | (with_reducible refine ite_bn (by assumption) ?_)
 k_with "call builtin:len" => (k_here; (with_reducible show wpAny _ _ (call (Value.builtin "len") [Value.ref _]) _ _ _); k_dflt (refine' len_led (by k_asm) (by k_mem) (by with_reducible assumption) (by omega) ?_; k_whole))
 k_with "call ref" => (k_here; (with_reducible show wpAny _ _ (call (Value.ref _) _) _ _ _); refine wpAny_call ?_; k_extra "c9")
 k_with "fold9" => ((try (refine letf (by assumption) ?_; intro m9ᵩ F9ᵩ)); (try (refine letn (by assumption) ?_; intro w9ᵩ N9ᵩ)))
 trivial
namespace EK.E_dorow_mark
theorem core : @P w mean mg mb dp un gd cn cs a ccd cl outer A₀ base h₀ L m s Q E := by
  intro own x dx rg l md pl fl o gs regs kk at' order steps v rs b n B F X T hk N hC hM hof hdr hg hl hp4 hd hu hR hret
  obtain ⟨q1, q2, q3, q4, q5, q6, q7, q8, q9, t1, t2, t3, t4, t5, t6, t7, t8, t9, ta, to, ts, rfl⟩ := hM
  obtain ⟨y, dy, p, e1, e2, u1, u2, u3, ny, ps, k, rfl, hy, hdy, hp, hps⟩ := hR
  have hx := hC.inst
  dsimp only [nameOf, partsOf] at hdy hps
  obtain ⟨t10, rfl⟩ := da_i hps
  cases b <;> dsimp only [kdS] at * <;> k_steps <;> exact hret _ _ _ (by assumption) (by (first | assumption | exact news_tl (by assumption) | exact news_tl (news_tl (by assumption)) | exact news_tl (news_tl (news_tl (by assumption))) | exact news_tl (news_tl (news_tl (news_tl (by assumption)))) | exact news_tl (news_tl (news_tl (news_tl (news_tl (by assumption))))) | exact news_tl (news_tl (news_tl (news_tl (news_tl (news_tl (by assumption)))))) | exact news_tl (news_tl (news_tl (news_tl (news_tl (news_tl (news_tl (by assumption))))))))) ⟨_, _, _, _, _, _, _, _, _, _, _, _, _, _, _, _, _, _, _, _, _, rfl⟩
end EK.E_dorow_mark
theorem EK.E_dorow_mark.all : ∀ c, EK.E_dorow_mark.Pc c := by
  have h : EK.E_dorow_mark.Pc kc := by with_unfolding_all exact EK.E_dorow_mark.core
  rw [EK.eqk30] at h
  exact first_all (r := EK.lst31) h
theorem EK.eqk31 : kc = first EK.lst31 := EK.eqk30.trans (first_skip EK.E_dorow_mark.all)
theorem dorow_mark {w : World} {mean : ExcName → Option Value} {mg mb : Str → Option Value} {dp un : Nat} {gd : Option (List Code)} {cn : Str} {cs : Scope} {a : Addr} {ccd : Value} {cl : List (Str × Addr)} {outer : List Env} {A₀ : Around} {base h₀ : Heap} {L : Addr} {m : Str → Option Value} {s : Shared} {Q E : Value → Shared → Prop} (own : List (Addr × Obj)) (x dx rg l md pl fl : Addr) (o : Obj) (gs : List Value) (regs : List Int) (kk : Nat) (at' order steps : Int) (v : Value) (rs : List TR) (b : Bool) (n : Int)
    (B : Below A₀ base outer h₀) (F : Fr h₀ L s.heap m) (X : (hd.heap_1 w.params).In h₀) (T : Top viewP LZ mean mg mb h₀) (hk : cs.kind = .function)
    (N : News h₀ L s.heap ((dx, o) :: (rg, listOf gs.toArray kk) :: own)) (hC : MachC PySem.Challenge.rw_pf0284_01.row.prog w own x dx l md pl rs) (hM : MObj o l md rg fl pl at' order steps false) (hof : OwnOff own [dx, rg]) (hdr : @LT.lt Nat _ dx rg) (hg : IntsAre gs regs) (hl : regs.length = 16)
    (hp4 : ∀ i : Nat, i < 4 → 0 ≤ regs.getD i 0 ∧ regs.getD i 0 < 1152921504606846976)
    (hd : dp + 40 < recursionLimit) (hu : un + 400 < cLine)
    (hR : RowIn own v (.mark b n))
    (hret : ∀ (o' : Obj) (h' : Heap) (tks : Nat), Fr h₀ L h' m → News h₀ L h' ((dx, o') :: (rg, listOf gs.toArray kk) :: own) → MObj o' l md rg fl pl at' (if b then n else order) steps false → Q .none { s with heap := h', toks := tks }) : wpAny (model PySem.Challenge.rw_pf0284_01.row.prog w) (ktrTop dp un gd cn cs L a ccd cl outer) (call (.ref 433) [.ref x, v]) Q E s := by
  with_unfolding_all exact EK.E_dorow_mark.all ⟨w, mean, mg, mb, dp, un, gd, cn, cs, a, ccd, cl, outer, A₀, base, h₀, L, m, s, Q, E⟩ own x dx rg l md pl fl o gs regs kk at' order steps v rs b n B F X T hk N hC hM hof hdr hg hl hp4 hd hu hR hret
end
section
theorem kw33 : True := by
 w_top off
 k_with "pyIter ref" => (k_here; (with_reducible show wpAny _ _ (pyIter (Value.ref _)) (fun it s₂ => TurnsAt _ _ _ _ _ _ _ _ _ it s₂) _ _); k_dflt (refine' iter_tupTurns ?hh ?F ?N ?hm ?hc ?hd ?_; (case hh => exact rfl); (case F => k_asm); (case N => k_asm); (case hm => k_mem); (case hc => exact rfl); (case hd => exact rfl)); intro I'ᵩ l1ᵩ; have l2ᵩ := l1ᵩ; (try k_lt l1ᵩ); (try simp only [List.map_cons, List.map_nil]))
 k_with "UnrEndW" => (k_here; k_dflt (refine' ueW1 ?hI ?F ?N ?hs ?hk ?_; (case hI => assumption); (case F => k_asm); (case N => k_asm); (case hs => exact (fun p hp => by first | exact hp | exact List.mem_cons_of_mem _ hp | exact List.mem_cons_of_mem _ (List.mem_cons_of_mem _ hp) | exact List.mem_cons_of_mem _ (List.mem_cons_of_mem _ (List.mem_cons_of_mem _ hp)) | exact List.mem_cons_of_mem _ (List.mem_cons_of_mem _ (List.mem_cons_of_mem _ (List.mem_cons_of_mem _ hp))))); (case hk => exact And.intro (by k_mem) trivial)))
 k_with "call ref" => (k_here; (with_reducible show wpAny _ _ (call (Value.ref _) _) _ _ _); k_dflt (refine' call_meth (f := Value.ref 384) ?k1 ?k2 (StopG.out ?_); (case k1 => k_asm); (case k2 => k_mem)))
 trivial
namespace EK.E_dorow_mov
theorem core : @P w mean mg mb dp un gd cn cs a ccd cl outer A₀ base h₀ L m s Q E := by
  intro own x dx rg l md pl fl o gs regs kk at' order steps v rs a' b' B F X T hk N hC hM hof hdr hg hl hp4 hd hu hR ok hret
  obtain ⟨q1, q2, q3, q4, q5, q6, q7, q8, q9, t1, t2, t3, t4, t5, t6, t7, t8, t9, ta, to, ts, rfl⟩ := hM
  obtain ⟨y, dy, p, e1, e2, u1, u2, u3, ny, ps, k, rfl, hy, hdy, hp, hps⟩ := hR
  have hx := hC.inst
  dsimp only [nameOf, partsOf] at hdy hps
  obtain ⟨t10, t11, t12, rfl⟩ := da_iii hps
  k_steps
  refine StopG.mk ?_
  rename News _ _ _ _ => N9
  k_dflt (refine' move_c  own x dx rg l md pl fl _ gs regs kk at' order (steps + 1) Value.none rs a' b' p k u2 t10 t11 t12 ?B ?F ?X ?T ?k (news_tl (news_tl (news_tl (news_tl (news_tl (news_tl (news_tl (news_tl (news_tl (news_tl N9)))))))))) hC ⟨_, _, _, _, _, _, _, _, _, _, _, _, _, _, _, _, _, _, _, _, _, rfl⟩ hof hdr hg hl hp4 ?d ?u hp ok ?_; (case B => k_asm); (case F => k_asm); (case X => k_asm); (case T => k_asm); (case k => first | exact rfl | assumption); (case d => first | exact rmc0 (by assumption) (by decide) | exact rmc 1 (by assumption) (by decide) | exact rmc 2 (by assumption) (by decide) | exact rmc 3 (by assumption) (by decide)); (case u => first | exact rmu0 (by assumption) (by decide) | exact rmu 3 (by assumption) (by decide) | exact rmu 6 (by assumption) (by decide) | exact rmu 9 (by assumption) (by decide) | exact rmu 1 (by assumption) (by decide) | exact rmu 4 (by assumption) (by decide) | exact rmu 7 (by assumption) (by decide)))
  intro gs' h' tks F' N' hi'
  k_steps
  exact hret _ _ _ _ (by assumption) (by (first | assumption | exact news_tl (by assumption) | exact news_tl (news_tl (by assumption)) | exact news_tl (news_tl (news_tl (by assumption))) | exact news_tl (news_tl (news_tl (news_tl (by assumption)))) | exact news_tl (news_tl (news_tl (news_tl (news_tl (by assumption))))) | exact news_tl (news_tl (news_tl (news_tl (news_tl (news_tl (by assumption)))))) | exact news_tl (news_tl (news_tl (news_tl (news_tl (news_tl (news_tl (by assumption))))))))) ⟨_, _, _, _, _, _, _, _, _, _, _, _, _, _, _, _, _, _, _, _, _, rfl⟩ hi'
end EK.E_dorow_mov
theorem EK.E_dorow_mov.all : ∀ c, EK.E_dorow_mov.Pc c := by
  have h : EK.E_dorow_mov.Pc kc := by with_unfolding_all exact EK.E_dorow_mov.core
  rw [EK.eqk31] at h
  exact first_all (r := EK.lst32) h
theorem EK.eqk32 : kc = first EK.lst32 := EK.eqk31.trans (first_skip EK.E_dorow_mov.all)
theorem dorow_mov {w : World} {mean : ExcName → Option Value} {mg mb : Str → Option Value} {dp un : Nat} {gd : Option (List Code)} {cn : Str} {cs : Scope} {a : Addr} {ccd : Value} {cl : List (Str × Addr)} {outer : List Env} {A₀ : Around} {base h₀ : Heap} {L : Addr} {m : Str → Option Value} {s : Shared} {Q E : Value → Shared → Prop} (own : List (Addr × Obj)) (x dx rg l md pl fl : Addr) (o : Obj) (gs : List Value) (regs : List Int) (kk : Nat) (at' order steps : Int) (v : Value) (rs : List TR) (a' b' : Int)
    (B : Below A₀ base outer h₀) (F : Fr h₀ L s.heap m) (X : (hd.heap_1 w.params).In h₀) (T : Top viewP LZ mean mg mb h₀) (hk : cs.kind = .function)
    (N : News h₀ L s.heap ((dx, o) :: (rg, listOf gs.toArray kk) :: own)) (hC : MachC PySem.Challenge.rw_pf0284_01.row.prog w own x dx l md pl rs) (hM : MObj o l md rg fl pl at' order steps false) (hof : OwnOff own [dx, rg]) (hdr : @LT.lt Nat _ dx rg) (hg : IntsAre gs regs) (hl : regs.length = 16)
    (hp4 : ∀ i : Nat, i < 4 → 0 ≤ regs.getD i 0 ∧ regs.getD i 0 < 1152921504606846976)
    (hd : dp + 40 < recursionLimit) (hu : un + 400 < cLine)
    (hR : RowIn own v (.mov a' b')) (ok : (0 ≤ a' ∧ a' < 4) ∧ 0 ≤ b' ∧ b' < 64)
    (hret : ∀ (o' : Obj) (gs' : List Value) (h' : Heap) (tks : Nat), Fr h₀ L h' m → News h₀ L h' ((dx, o') :: (rg, listOf gs'.toArray kk) :: own) → MObj o' l md rg fl pl at' order (steps + 1) false → IntsAre gs' (regs.set a'.toNat b') → Q .none { s with heap := h', toks := tks }) : wpAny (model PySem.Challenge.rw_pf0284_01.row.prog w) (ktrTop dp un gd cn cs L a ccd cl outer) (call (.ref 433) [.ref x, v]) Q E s := by
  with_unfolding_all exact EK.E_dorow_mov.all ⟨w, mean, mg, mb, dp, un, gd, cn, cs, a, ccd, cl, outer, A₀, base, h₀, L, m, s, Q, E⟩ own x dx rg l md pl fl o gs regs kk at' order steps v rs a' b' B F X T hk N hC hM hof hdr hg hl hp4 hd hu hR ok hret
end
end
section
theorem run_idle : ∀ (rest : List TR) (o : Bool) (g x : Int) (t : PS), idleIn o g rest = true → run (some (o, g)) rest t = run none rest (orderTo o x t)
  | [], _, _, _, _, h => nomatch h
  | .mark o' n :: rest, o, g, x, t, h => by
    unfold idleIn at h
    by_cases e : o' = o ∧ n = g
    · obtain ⟨rfl, rfl⟩ := e
      simp only [run, if_true]
      cases o' <;> rfl
    · rw [if_neg e] at h
      have e' : ¬ ((o', n) = (o, g)) := fun q => e ⟨congrArg Prod.fst q, congrArg Prod.snd q⟩
      simp only [run, if_neg e']
      by_cases q : o' = true ∧ o = false
      · rw [if_pos q] at h; cases h
      · rw [if_neg q] at h
        cases o with
        | true =>
          cases o' with
          | true => exact run_idle rest _ g n t h
          | false => exact run_idle rest _ g x t h
        | false =>
          cases o' with
          | true => exact absurd ⟨rfl, rfl⟩ q
          | false => exact run_idle rest _ g x t h
  | .mov _ _ :: _, _, _, _, _, h => nomatch h
  | .add _ _ :: _, _, _, _, _, h => nomatch h
  | .cmp _ _ :: _, _, _, _, _, h => nomatch h
  | .jcc _ _ _ :: _, _, _, _, _, h => nomatch h
  | .jmp _ _ :: _, _, _, _, _, h => nomatch h
  | .ret :: _, _, _, _, _, h => nomatch h
theorem orderTo_sim {s s' : PS} {o : Bool} {n : Int} (h : Sim s s') : Sim (orderTo o n s) (orderTo o n s') := by
  obtain ⟨h1, h2, h3, h4⟩ := h
  exact ⟨by simp only [orderTo, h1], h2, h3, h4⟩
theorem orderTo_self {s : PS} {o : Bool} : orderTo o s.o s = s := by
  unfold orderTo
  rw [ite_self]
theorem kw34 : True := by
 w_top off
 k_with_none
 k_with "ml" => first | assumption | (refine memsub (by assumption) ?_; first | assumption | exact List.Mem.head _ | (refine List.Mem.tail _ ?_; first | exact List.Mem.head _ | (refine List.Mem.tail _ ?_; first | exact List.Mem.head _ | (refine List.Mem.tail _ ?_; first | exact List.Mem.head _ | (refine List.Mem.tail _ ?_; first | assumption) | assumption) | assumption) | assumption) | assumption)
 k_with "k_mem" => first | exact List.Mem.head _ | (refine List.Mem.tail _ ?_; k_extra "k_mem") | k_extra "ml"
 k_with "ks" => repeat' (first | (k_unfold; (try dsimp only)) | (k_end; kc_close) | (walk1; (try (first | (with_reducible show wpAny _ _ (exec _ _) _ _ _; (try dsimp only); (refine letq ?_; intro qk9ᵩ); (try with_reducible refine wpst ?_; intro tk9ᵩ); (try walk_at "fold9")) | (with_reducible show wpAny _ _ (execs _ _) _ _ _; k_fold)))) | (dsimp only; walk1) | (leave1; walk_say "STEP leave1"; try dsimp only) | (k_unmd; k_unfold; (try dsimp only)) | fail "no step")
 k_with "in9" => first | with_reducible assumption | (refine' Frag.In.keeps ?y9X (Fr.keep ?y9F); (case y9F => k_asm); (case y9X => k_asm))
 k_with "eval Constant str" => with_reducible refine kstr ?_
 k_with "eval Constant int" => with_reducible refine kint ?_
 k_with "oc" => first | (apply c1; assumption) | (apply c2; assumption) | (apply l2; assumption) | (apply c3; assumption) | (apply c4; assumption) | (apply c5; assumption) | (apply c6; assumption) | (apply c7; assumption) | (apply c8; assumption) | (apply c9; assumption) | (apply c10; assumption) | (apply c11; assumption) | (apply c12; assumption) | (apply c13; assumption) | (apply c14; assumption) | (apply c15; assumption) | (apply c16; assumption)
 k_with "od" => first | (apply c1; assumption) | (apply c2; assumption) | (apply l2; assumption) | (apply c3; assumption) | (apply c4; assumption) | (apply c5; assumption) | (apply c6; assumption) | (apply c7; assumption)
 k_with "on" => first | (apply zsy; assumption) | (apply zgt; first | assumption | k_extra "oc") | (apply zlt; first | assumption | k_extra "oc") | (apply gtt; assumption; first | assumption | k_extra "od") | (apply ltt; assumption; first | assumption | k_extra "od")
 k_with "oi" => first | exact nn0 | exact nn0' | exact z63 (by assumption) (by assumption) | exact z63b (by assumption) (by assumption) | exact n63 (by assumption) (by assumption) | exact n63b (by assumption) (by assumption) | exact z63c (by assumption) (by assumption) | exact z63d (by assumption) (by assumption) | exact nlt (by assumption) | exact n62 (by assumption) | exact n62b (by assumption) | exact tnl (by assumption) (by assumption) | exact sub1 (by assumption) | exact sub2 (by assumption) (by assumption) | decide | exact Int.lt_of_lt_of_le (by assumption) (by decide) | exact Nat.le_trans (by assumption) (by decide) | exact ul (by assumption) (by decide) | exact up0 (by assumption) (by assumption) | k_extra "oc"
 k_with "om" => first | (k_whole; with_reducible (first | assumption | (show @Ne Nat _ _; k_extra "on") | (show @Eq Nat _ _; first | exact tn1 (by assumption) | exact z0i) | ((first | show @LT.lt Int _ _ _ | show @LE.le Int _ _ _ | show @LT.lt Nat _ _ _ | show @LE.le Nat _ _ _); k_extra "oi")))
 k_with "execs cons If" => (k_here; (with_reducible show wpAny _ _ (execs (PySem.Stmt.If (PySem.Expr.Compare (PySem.Expr.Name _ _) [.Eq] [PySem.Expr.Constant (.str _) _ _] _) _ _ _ :: _) _) _ _ _); first | ((with_reducible show wpAny _ _ (execs (PySem.Stmt.If _ _ [] _ :: _) _) _ _ _); k_dflt (refine' cif_f ?F ?v ?x ?c ?k ?d ?_; (case F => k_asm); (case x => kernel_rfl!); (case k => kernel_rfl!); (case d => kernel_rfl!); (case v => rfl); (case c => first | with_reducible assumption | kernel_rfl!); k_whole)) | ((with_reducible show wpAny _ _ (execs [PySem.Stmt.If _ _ (_ :: _) _] _) _ _ _); k_dflt (refine' cif_g ?F ?v ?x ?c ?k ?d ?_; (case F => k_asm); (case x => kernel_rfl!); (case k => kernel_rfl!); (case d => kernel_rfl!); (case v => rfl); (case c => first | with_reducible assumption | kernel_rfl!); k_whole)) | ((with_reducible show wpAny _ _ (execs [PySem.Stmt.If _ _ _ _] _) _ _ _); k_dflt (refine' cif_t ?F ?v ?x ?c ?k ?d ?_; (case F => k_asm); (case x => kernel_rfl!); (case k => kernel_rfl!); (case d => kernel_rfl!); (case v => rfl); (case c => first | with_reducible assumption | kernel_rfl!); k_whole)) | k_dflt (refine' cif_r ?F ?v ?x ?c ?k ?d ?_; (case F => k_asm); (case x => kernel_rfl!); (case k => kernel_rfl!); (case d => kernel_rfl!); (case v => rfl); (case c => first | with_reducible assumption | kernel_rfl!); k_whole))
 k_with "callWith" => ((with_reducible show wpAny _ _ (callWith _ (Value.builtin _) (_ :: _) (backTo _ (starEach (_ :: _) _)) []) _ _ _); refine callWith_method1 ?_)
 k_with "callWith ref" => (k_here; k_dflt (first | (refine' callWith_K ?y9k ?y9l ?_; (case y9k => k_asm); (case y9l => k_is); k_whole) | (refine' callWith_K0 ?y9k ?y9l ?_; (case y9k => k_in); (case y9l => k_is); k_whole)))
 k_with "eval Name" => (k_here; (fail_if_success (with_reducible show wpAny _ _ (eval (PySem.Expr.Name _ _) (compEnvC _ _ _ _)) _ _ _)); k_dflt (first | (refine' nameX_L ?y9F ?y9v ?_ ?y9a ?y9b ?y9d; (case y9F => k_asm); (case y9a => kernel_rfl!); (case y9b => kernel_rfl!); (case y9d => kernel_rfl!); (case y9v => rfl); k_whole) | (refine' nameX_K ?y9F ?y9X ?y9T ?y9e ?_ ?y9a ?y9b; (case y9F => k_asm); (case y9X => k_asm); (case y9T => k_asm); (case y9a => kernel_rfl!); (case y9b => kernel_rfl!); (case y9e => k_is); k_whole) | (refine' nameX_C ?y9N ?y9c ?y9m ?y9d ?_ ?y9a ?y9b; (case y9a => kernel_rfl!); (case y9b => kernel_rfl!); (case y9N => k_asm); (case y9c => rfl); (case y9m => k_mem); (case y9d => k_asm); k_whole) | (refine' nameX_B ?y9F ?y9X ?y9T ?y9e ?y9v ?y9n ?_ ?y9a ?y9b; (case y9F => k_asm); (case y9X => k_asm); (case y9T => k_asm); (case y9a => kernel_rfl!); (case y9b => kernel_rfl!); (case y9e => k_is); (case y9v => boot_fast); (case y9n => decide); k_whole)))
 k_with "execs cons Return" => with_reducible refine cret ?_
 k_with "newTuple" => (k_here; k_dflt (refine' kup_newTuple (by k_asm) (by k_asm) ?_ (by kmk_size)); intro D'ᵩ h'ᵩ F'ᵩ N'ᵩ l1ᵩ; have l2ᵩ := l1ᵩ; (try k_lt l1ᵩ))
 k_with "k9" => (first | exact rfl | assumption)
 k_with "d9" => (first | exact rmc0 (by assumption) (by decide) | exact rmc 1 (by assumption) (by decide) | exact rmc 2 (by assumption) (by decide) | exact rmc 3 (by assumption) (by decide))
 k_with "u9" => (first | exact rmu0 (by assumption) (by decide) | exact rmu 3 (by assumption) (by decide) | exact rmu 6 (by assumption) (by decide) | exact rmu 9 (by assumption) (by decide) | exact rmu 1 (by assumption) (by decide) | exact rmu 4 (by assumption) (by decide) | exact rmu 7 (by assumption) (by decide))
 k_with "r9" => (first | exact rm0 (by assumption) | exact rm 1 (by assumption) (by decide) | exact rm 2 (by assumption) (by decide) | exact rm 3 (by assumption) (by decide) | exact rm 4 (by assumption) (by decide))
 k_with "b9" => (first | exact BindsTo.of_eq rfl | exact binds_K (by k_in) rfl (by k_is) rfl rfl rfl)
 k_with "c9" => (k_dflt (refine' code_def ?k1 ?k2 ?k3 ?k4 ?k5 ?kA ?kF ?kK ?k6 ?k7 ?k8 ?k9 ?kB ?_ ?c2 ?c3 ?c4 ?c5; (case kA => exact rfl); (case kF => exact rfl); (case kK => k_extra "k9"); (case k1 => k_asm); (case k2 => k_asm); (case k3 => k_asm); (case k4 => k_asm); (case k5 => k_asm); (case k6 => k_is); (case k7 => k_is); (case k8 => k_extra "r9"); (case k9 => k_extra "b9"); (case c5 => decide); (case kB => exact locs rfl); (case c2 => exact rfl); (case c3 => exact rfl); (case c4 => exact rfl); k_whole); intro g'ᵩ L'ᵩ h'ᵩ FG'ᵩ F'ᵩ N'ᵩ B'ᵩ X'ᵩ T'ᵩ; (try dsimp only))
 k_with "i9" => (k_dflt (refine' item_led (by k_asm) (by k_mem) (by omega) (by with_reducible assumption) (by omega) ?_ (by with_unfolding_all rfl); k_whole))
 k_with "j9" => (first | k_dflt (refine' item_tupleT (News.isTup (by k_asm) (by k_mem)) (by decide) (by decide) (by rfl) (by rfl) ?_ (by with_unfolding_all rfl); k_whole) | k_extra "i9")
 k_with "mo" => exact ⟨_, _, _, _, _, _, _, _, ⟨_, _, _, _, _, _, _, _, _, _, _, _, _, _, _, _, _, _, _, _, _, rfl⟩⟩
 k_with "nt" => (first | assumption | exact news_tl (by assumption) | exact news_tl (news_tl (by assumption)) | exact news_tl (news_tl (news_tl (by assumption))) | exact news_tl (news_tl (news_tl (news_tl (by assumption)))) | exact news_tl (news_tl (news_tl (news_tl (news_tl (by assumption))))) | exact news_tl (news_tl (news_tl (news_tl (news_tl (news_tl (by assumption)))))) | exact news_tl (news_tl (news_tl (news_tl (news_tl (news_tl (news_tl (by assumption))))))))
 k_with "subscriptTail Attribute Subscript Constant ref int" => (k_here; k_extra "j9")
 k_with "subscriptTail Name Constant ref int" => (k_here; k_extra "j9")
 k_with "subscriptTail Attribute Name Constant ref int" => (k_here; k_extra "j9")
 k_with "subscriptTail Name Name ref int" => (k_here; k_extra "i9")
 k_with "ite" => first | with_reducible refine ite_tt ?_ | with_reducible refine ite_ff ?_ | (k_closed; k_dflt (first | (with_reducible refine' ite_bp ?y9z ?_; (case y9z => kernel_rfl!)) | (with_reducible refine' ite_bn ?y9z ?_; (case y9z => kernel_rfl!)) | refine ite_pos (by decide) ?_ | refine ite_neg (by decide) ?_)) | (with_reducible refine ite_af (by decide +kernel) ?_) | (with_reducible refine ite_at (by decide +kernel) ?_) | (with_reducible refine ite_dp (by omega) ?_) | (with_reducible refine ite_dn (by omega) ?_) | (with_reducible refine ite_bp (by assumption) ?_) | (with_reducible refine ite_bn (by assumption) ?_)
 k_with "call builtin:len" => (k_here; (with_reducible show wpAny _ _ (call (Value.builtin "len") [Value.ref _]) _ _ _); k_dflt (refine' len_led (by k_asm) (by k_mem) (by with_reducible assumption) (by omega) ?_; k_whole))
 k_with "call ref" => (k_here; (with_reducible show wpAny _ _ (call (Value.ref _) _) _ _ _); refine wpAny_call ?_; k_extra "c9")
 trivial
theorem run_strip : ∀ (rs : List TR) (md : Option (Bool × Int)) (s s' : PS), Sim s s' → Sim (run md rs s) (run md (stripI rs) s')
  | [], md, s, s', h => by cases md <;> exact h
  | r :: rest, md, s, s', h => by
    have ih := run_strip rest
    by_cases hi : idleHead (r :: rest) = true
    · have e : stripI (r :: rest) = stripI rest := by rw [stripI, if_pos hi]
      rw [e]
      cases r with
      | jmp o g =>
        have hi' : idleIn o g rest = true := hi
        cases md with
        | some q => simp only [run]; exact ih _ _ _ h
        | none =>
          simp only [run, if_pos hi']
          rw [run_idle rest o g s.o _ hi']
          exact ih none _ s' ⟨by simp only [orderTo, ite_self]; exact h.o, h.r, h.f, by have := h.n; simp only [orderTo]; omega⟩
      | _ => exact absurd hi (by simp [idleHead])
    · have e : stripI (r :: rest) = r :: stripI rest := by rw [stripI, if_neg hi]
      rw [e]
      cases r with
      | mark o n =>
        cases md with
        | some q =>
          simp only [run]
          by_cases q' : (o, n) = q
          · rw [if_pos q', if_pos q']; exact ih _ _ _ (orderTo_sim h)
          · rw [if_neg q', if_neg q']; exact ih _ _ _ h
        | none => simp only [run]; exact ih _ _ _ (orderTo_sim h)
      | mov a k => cases md <;> simp only [run] <;> first | exact ih _ _ _ h | exact ih _ _ _ ⟨h.o, by rw [h.r], h.f, by have := h.n; simp only; omega⟩
      | add a k => cases md <;> simp only [run] <;> first | exact ih _ _ _ h | exact ih _ _ _ ⟨h.o, by rw [h.r], h.f, by have := h.n; simp only; omega⟩
      | cmp a k => cases md <;> simp only [run] <;> first | exact ih _ _ _ h | exact ih _ _ _ ⟨h.o, h.r, by rw [h.r], by have := h.n; simp only; omega⟩
      | jcc c o g =>
        cases md with
        | some q => simp only [run]; exact ih _ _ _ h
        | none =>
          simp only [run]
          have h' : Sim { s with n := s.n + 1 } { s' with n := s'.n + 1 } := ⟨h.o, h.r, h.f, by have := h.n; simp only; omega⟩
          by_cases q : run.condP c s.f.1 s.f.2 = true
          · rw [if_pos q, if_pos (h.f ▸ q)]; exact ih _ _ _ h'
          · rw [if_neg q, if_neg (h.f ▸ q)]; exact ih _ _ _ h'
      | jmp o g =>
        have hi' : ¬ idleIn o g rest = true := hi
        cases md with
        | some q => simp only [run]; exact ih _ _ _ h
        | none =>
          simp only [run, if_neg hi']
          exact ih _ _ _ ⟨h.o, h.r, h.f, by have := h.n; simp only; omega⟩
      | ret =>
        cases md with
        | some q => simp only [run]; exact ih _ _ _ h
        | none => simp only [run]; exact ⟨h.o, h.r, h.f, by have := h.n; simp only; omega⟩
theorem marksL_keys : ∀ (rs : List TR) (b : Nat), (marksL b rs).map (·.1) = keysL rs
  | [], _ => rfl
  | r :: rs, b => by
    have ih := marksL_keys rs (b + 1)
    cases r <;> simp only [marksL, keysL, List.map_cons, ih]
theorem keysL_append : ∀ (p q : List TR), keysL (p ++ q) = keysL p ++ keysL q
  | [], _ => rfl
  | r :: rs, q => by
    have ih := keysL_append rs q
    cases r <;> simp only [List.cons_append, keysL, ih]
theorem keysL_strip : ∀ (rs : List TR), keysL (stripI rs) = keysL rs
  | [] => rfl
  | r :: rest => by
    have ih := keysL_strip rest
    by_cases hi : idleHead (r :: rest) = true
    · rw [stripI, if_pos hi, ih]
      cases r with
      | jmp o g => rfl
      | _ => exact absurd hi (by simp [idleHead])
    · rw [stripI, if_neg hi]
      cases r <;> simp only [keysL, ih]
theorem run_seek : ∀ (l : List TR) (b : Nat) (k : Bool × Int), k ∈ keysL l → ∃ m, m < l.length ∧ lk (marksL b l) k = some (b + m) ∧ (∃ rest, l.drop m = .mark k.1 k.2 :: rest) ∧ ∀ s, run (some k) l s = run none (l.drop m) s
  | [], _, _, h => nomatch h
  | r :: l, b, k, h => by
    have other : k ∈ keysL l → (lk (marksL b (r :: l)) k = lk (marksL (b + 1) l) k) → (∀ s, run (some k) (r :: l) s = run (some k) l s) → ∃ m, m < (r :: l).length ∧ lk (marksL b (r :: l)) k = some (b + m) ∧ (∃ rest, (r :: l).drop m = .mark k.1 k.2 :: rest) ∧ ∀ s, run (some k) (r :: l) s = run none ((r :: l).drop m) s := by
      intro h1 h2 h3
      obtain ⟨m, a1, a2, ⟨rest, a3⟩, a4⟩ := run_seek l (b + 1) k h1
      refine ⟨m + 1, Nat.succ_lt_succ a1, ?_, ⟨rest, a3⟩, fun s => ?_⟩
      · rw [h2, a2]; congr 1; omega
      · rw [h3, a4]; rfl
    cases r with
    | mark o n =>
      by_cases e : (o, n) = k
      · subst e
        refine ⟨0, Nat.succ_pos _, ?_, ⟨l, rfl⟩, fun s => ?_⟩
        · simp [lk, marksL]
        · simp only [run, if_true, List.drop_zero]
      · refine other ?_ ?_ fun s => ?_
        · rcases List.mem_cons.mp h with h | h
          · exact absurd h.symm e
          · exact h
        · simp [lk, marksL, List.find?_cons, e]
        · simp only [run, if_neg e]
    | mov a k => exact other h rfl fun s => by simp only [run]
    | add a k => exact other h rfl fun s => by simp only [run]
    | cmp a k => exact other h rfl fun s => by simp only [run]
    | jcc c o g => exact other h rfl fun s => by simp only [run]
    | jmp o g => exact other h rfl fun s => by simp only [run]
    | ret => exact other h rfl fun s => by simp only [run]
theorem lk_skip {p q : List ((Bool × Int) × Nat)} {k : Bool × Int} (h : k ∉ p.map (·.1)) : lk (p ++ q) k = lk q k := by
  unfold lk
  rw [List.find?_append]
  have : p.find? (fun x => decide (x.1 = k)) = none := by
    rw [List.find?_eq_none]
    intro x hx hk
    exact h (List.mem_map.mpr ⟨x, hx, of_decide_eq_true hk⟩)
  rw [this]
  rfl
theorem run_jump {rs : List TR} {i : Nat} {k : Bool × Int} (hnd : (keysL rs).Nodup) (hk : k ∈ keysL (rs.drop i)) :
    ∃ j, i ≤ j ∧ j < rs.length ∧ lk (marksL 0 rs) k = some j ∧ (∃ rest, rs.drop j = .mark k.1 k.2 :: rest) ∧ ∀ s, run (some k) (rs.drop i) s = run none (rs.drop j) s := by
  have hi : i ≤ rs.length := by
    apply Nat.le_of_not_lt
    intro h
    rw [List.drop_eq_nil_of_le (Nat.le_of_lt h)] at hk
    cases hk
  obtain ⟨m, a1, a2, ⟨rest, a3⟩, a4⟩ := run_seek (rs.drop i) i k hk
  rw [List.length_drop] at a1
  rw [List.drop_drop] at a3
  refine ⟨i + m, Nat.le_add_right _ _, by omega, ?_, ⟨rest, a3⟩, fun s => ?_⟩
  · have e : rs = rs.take i ++ rs.drop i := (List.take_append_drop i rs).symm
    have hn : k ∉ keysL (rs.take i) := by
      intro hm
      rw [e, keysL_append, List.nodup_append] at hnd
      exact hnd.2.2 _ hm _ hk rfl
    have l1 : marksL 0 rs = marksL 0 (rs.take i) ++ marksL i (rs.drop i) := by
      conv => lhs; rw [e]
      rw [marksL_append, List.length_take, Nat.zero_add, Nat.min_eq_left hi]
    rw [l1, lk_skip (by rw [marksL_keys]; exact hn), a2]
  · rw [a4, List.drop_drop]
theorem GoalsOk.strip : ∀ {rs : List TR}, GoalsOk rs → GoalsOk (stripI rs)
  | [], _ => trivial
  | r :: rest, h => by
    by_cases hi : idleHead (r :: rest) = true
    · rw [stripI, if_pos hi]
      exact GoalsOk.strip h.2
    · rw [stripI, if_neg hi]
      exact ⟨fun g hg => by rw [keysL_strip]; exact h.1 g hg, GoalsOk.strip h.2⟩
theorem GoalsOk.drop : ∀ {rs : List TR} (i : Nat), GoalsOk rs → GoalsOk (rs.drop i)
  | _, 0, h => h
  | [], _ + 1, h => h
  | _ :: rest, i + 1, h => GoalsOk.drop (rs := rest) i h.2
theorem GoalsOk.all : ∀ {rs : List TR}, GoalsOk rs → ∀ r ∈ rs, ∀ g, goalT r = some g → g ∈ keysL rs := fun {rs} => by
  induction rs with
  | nil => exact fun _ r hr => nomatch hr
  | cons r rest ih =>
    intro h q hq g hg
    have sub : g ∈ keysL rest → g ∈ keysL (r :: rest) := fun h' => by
      cases r <;> simp only [keysL] <;> first | exact h' | exact List.mem_cons_of_mem _ h'
    rcases List.mem_cons.mp hq with rfl | hq
    · exact sub (h.1 g hg)
    · exact sub (ih h.2 q hq g hg)
theorem CmpOk.any {b : Bool} : ∀ {rs : List TR}, CmpOk false rs → CmpOk b rs
  | [], _ => trivial
  | r :: rest, h => by
    cases r with
    | jcc c o g => exact absurd h.1 (by decide)
    | _ => exact h
theorem CmpOk.tl {b : Bool} {r : TR} {rest : List TR} (h : CmpOk b (r :: rest)) : CmpOk (match r with | .cmp _ _ => true | _ => false) rest := by
  cases r with
  | jcc c o g => exact h.2
  | _ => exact h
theorem CmpOk.strip : ∀ {rs : List TR} {b : Bool}, CmpOk b rs → CmpOk b (stripI rs)
  | [], _, _ => trivial
  | r :: rest, b, h => by
    by_cases hi : idleHead (r :: rest) = true
    · rw [stripI, if_pos hi]
      cases r with
      | jmp o g => exact CmpOk.any (CmpOk.strip (rs := rest) h)
      | _ => exact absurd hi (by simp [idleHead])
    · rw [stripI, if_neg hi]
      cases r with
      | jcc c o g => exact ⟨h.1, CmpOk.strip (rs := rest) h.2⟩
      | _ => exact CmpOk.strip (rs := rest) h
theorem CmpOk.dropMark {rs : List TR} {j : Nat} {o : Bool} {n : Int} {rest : List TR} {b : Bool} (h : CmpOk false rs) (e : rs.drop j = .mark o n :: rest) : CmpOk b (rs.drop j) := by
  have key : ∀ (j : Nat) (rs : List TR) (c : Bool), CmpOk c rs → ∃ c, CmpOk c (rs.drop j) := by
    intro j
    induction j with
    | zero => intro rs c h; exact ⟨c, h⟩
    | succ j ih =>
      intro rs c h
      cases rs with
      | nil => exact ⟨true, trivial⟩
      | cons r rs => exact ih rs _ h.tl
  obtain ⟨c, hc⟩ := key j rs _ h
  rw [e] at hc ⊢
  exact hc
theorem EndsRet.strip : ∀ {rs : List TR}, EndsRet rs → EndsRet (stripI rs) ∧ stripI rs ≠ []
  | [.ret], _ => by simp [stripI, idleHead, EndsRet]
  | r :: q :: rest, h => by
    obtain ⟨h1, h2⟩ := EndsRet.strip (rs := q :: rest) h
    by_cases hi : idleHead (r :: q :: rest) = true
    · rw [stripI, if_pos hi]; exact ⟨h1, h2⟩
    · rw [stripI, if_neg hi]
      refine ⟨?_, by simp⟩
      revert h1 h2
      cases stripI (q :: rest) with
      | nil => intro _ h2; exact absurd rfl h2
      | cons a b => intro h1 _; exact h1
theorem EndsRet.dropNe : ∀ {rs : List TR} {i : Nat}, EndsRet rs → i < rs.length → EndsRet (rs.drop i)
  | _, 0, h, _ => h
  | [_], i + 1, _, hi => absurd hi (by simp)
  | _ :: q :: rest, i + 1, h, hi => EndsRet.dropNe (rs := q :: rest) (i := i) h (by simpa using hi)
theorem strip_mem : ∀ {rs : List TR} {r : TR}, r ∈ stripI rs → r ∈ rs := fun {rs} {r} => by
  induction rs with
  | nil => exact fun h => h
  | cons r' rest ih =>
    intro h
    by_cases hi : idleHead (r' :: rest) = true
    · rw [stripI, if_pos hi] at h; exact .tail _ (ih h)
    · rw [stripI, if_neg hi] at h
      rcases List.mem_cons.mp h with rfl | h
      · exact .head _
      · exact .tail _ (ih h)
theorem strip_len : ∀ (rs : List TR), (stripI rs).length ≤ rs.length
  | [] => Nat.le_refl _
  | r' :: rest => by
    have := strip_len rest
    by_cases hi : idleHead (r' :: rest) = true
    · rw [stripI, if_pos hi, List.length_cons]; omega
    · rw [stripI, if_neg hi, List.length_cons, List.length_cons]; omega
theorem WF.strip {rs : List TR} (h : WF rs) : WF (stripI rs) where
  ok := fun r hr => h.ok r (strip_mem hr)
  nd := by rw [keysL_strip]; exact h.nd
  go := h.go.strip
  cm := h.cm.strip
  er := h.er.strip.1
  le := Nat.le_trans (strip_len rs) h.le
end
section
theorem condB_eq (c : _root_.Fin 3) (x y : Int) : condB c x y = run.condP c x y := by
  obtain rfl | rfl | rfl := fin3 c <;> rfl
theorem Bnd.up {i j : Nat} {r : List Int} (h : Bnd i r) (hj : i ≤ j) : Bnd j r := by
  refine ⟨h.1, fun k hk => ⟨(h.2 k hk).1, Int.lt_of_lt_of_le (h.2 k hk).2 ?_⟩⟩
  have : (2 : Nat) ^ i ≤ 2 ^ j := Nat.pow_le_pow_right (by decide) hj
  have : ((2 ^ i : Nat) : Int) ≤ ((2 ^ j : Nat) : Int) := Int.ofNat_le.mpr this
  rw [Int.natCast_pow, Int.natCast_pow] at this
  have e : ((2 : Nat) : Int) = 2 := rfl
  rw [e] at this
  omega
theorem Bnd.set {i : Nat} {r : List Int} {a : Nat} {k : Int} (h : Bnd i r) (h0 : 0 ≤ k) (h1 : k < 64 * 2 ^ i) : Bnd i (r.set a k) := by
  refine ⟨by rw [List.length_set]; exact h.1, fun j hj => ?_⟩
  rw [List.getD_eq_getElem?_getD, List.getElem?_set]
  have hl := h.1
  have := h.2 j hj
  rw [List.getD_eq_getElem?_getD] at this
  by_cases e : a = j
  · rw [if_pos e, if_pos (by omega : a < r.length)]
    exact ⟨h0, h1⟩
  · rw [if_neg e]; exact this
theorem getD_app {r t : List Int} {k : Nat} (h : k < r.length) : (r ++ t).getD k 0 = r.getD k 0 := by
  rw [List.getD_eq_getElem?_getD, List.getD_eq_getElem?_getD, List.getElem?_append_left h]
theorem set_app {r t : List Int} {k : Nat} {v : Int} (h : k < r.length) : (r ++ t).set k v = r.set k v ++ t := List.set_append_left _ _ h
theorem pow_bnd {i : Nat} (h : i ≤ 29) : (64 : Int) * 2 ^ i < 1152921504606846976 := by
  have : (2 : Nat) ^ i ≤ 2 ^ 29 := Nat.pow_le_pow_right (by decide) h
  have : ((2 ^ i : Nat) : Int) ≤ ((2 ^ 29 : Nat) : Int) := Int.ofNat_le.mpr this
  rw [Int.natCast_pow] at this
  have e : ((2 : Nat) : Int) = 2 := rfl
  rw [e] at this
  have e2 : ((2 ^ 29 : Nat) : Int) = 536870912 := by decide
  omega
theorem pow_ge (i : Nat) : (64 : Int) ≤ 64 * 2 ^ i := by
  have : (1 : Nat) ≤ 2 ^ i := Nat.one_le_two_pow
  have : ((1 : Nat) : Int) ≤ ((2 ^ i : Nat) : Int) := Int.ofNat_le.mpr this
  rw [Int.natCast_pow] at this
  have e : ((2 : Nat) : Int) = 2 := rfl
  rw [e] at this
  omega
theorem er_next {rs : List TR} {i : Nat} (h : EndsRet rs) (hi : i < rs.length) (hr : rs[i] ≠ .ret) : i + 1 < rs.length := by
  apply Nat.lt_of_le_of_ne hi
  intro e
  have h1 := EndsRet.dropNe h hi
  rw [List.drop_eq_getElem_cons hi, List.drop_eq_nil_of_le (by omega)] at h1
  exact hr h1
theorem step_ok {rs : List TR} {fin : PS} {q : MS} (W : WF rs) {S : PS} (h : Going rs fin q S) : DoOk rs (rs[q.i]'h.lt) { q with i := q.i + 1 } := by
  obtain ⟨hi, hrel, hb, hrun, hcm, hle⟩ := h
  have hd := List.drop_eq_getElem_cons hi
  have hgo := W.go.drop q.i
  rw [hd] at hgo hcm
  have hln := W.le
  refine ⟨W.ok _ (List.getElem_mem hi), ?_, fun k hk => ?_, fun o g hg => ?_, ?_⟩
  · show q.regs.length = 16
    rw [hrel.r, List.length_append, hb.1]; rfl
  · show 0 ≤ q.regs.getD k 0 ∧ q.regs.getD k 0 < _
    rw [hrel.r, getD_app (by rw [hb.1]; exact hk)]
    have h1 := hb.2 k hk
    have h2 := pow_bnd (i := q.i) (by omega)
    exact ⟨h1.1, by omega⟩
  · obtain ⟨j, _, _, hj, _⟩ := run_jump (i := q.i + 1) W.nd (hgo.1 _ hg)
    rw [goalAt, hj]; rfl
  · intro c o g e
    rw [e] at hcm
    exact hcm.1
theorem step_inv {rs : List TR} {fin : PS} {q : MS} (W : WF rs) (ho : q.over = false) {S : PS} (h : Going rs fin q S) :
    INV rs fin (mdo rs (rs[q.i]'h.lt) { q with i := q.i + 1 }) ∧ meas rs (mdo rs (rs[q.i]'h.lt) { q with i := q.i + 1 }) < meas rs q := by
  obtain ⟨hi, hrel, hb, hrun, hcm, hle⟩ := h
  have hd := List.drop_eq_getElem_cons hi
  have hgo := W.go.drop q.i
  have hok := W.ok _ (List.getElem_mem hi)
  have her := er_next W.er hi
  have hm : meas rs q = rs.length - q.i := by rw [meas, ho]; rfl
  rw [hd] at hgo hcm hrun
  have jump : ∀ (o : Bool) (g : Int), (o, g) ∈ keysL (rs.drop (q.i + 1)) → ∃ j, q.i < j ∧ j < rs.length ∧ goalAt rs o g = j ∧ (∀ b, CmpOk b (rs.drop j)) ∧ ∀ s, run (some (o, g)) (rs.drop (q.i + 1)) s = run none (rs.drop j) s := by
    intro o g hk
    obtain ⟨j, h1, h2, h3, ⟨rest, h4⟩, h5⟩ := run_jump (i := q.i + 1) W.nd hk
    exact ⟨j, h1, h2, by rw [goalAt, h3]; rfl, fun b => CmpOk.dropMark W.cm h4, h5⟩
  have hl4 := hb.1
  have hcm' := hcm.tl
  rw [hm]
  generalize hr : rs[q.i] = r at *
  cases r with
  | mark o n =>
    have hn := her (by simp)
    refine ⟨.inl ⟨ho, orderTo o n S, hn, ⟨?_, hrel.r, hrel.n, hrel.f⟩, hb.up (Nat.le_succ _), hrun, CmpOk.any hcm', Nat.le_succ_of_le hle⟩, ?_⟩
    · simp only [mdo, orderTo, hrel.o]
    · simp only [meas, mdo, ho, Bool.false_eq_true, if_false]; omega
  | mov a k =>
    have hn := her (by simp)
    obtain ⟨⟨k1, k2⟩, k3, k4⟩ := hok
    refine ⟨.inl ⟨ho, { S with r := S.r.set a.toNat k, n := S.n + 1 }, hn, ⟨hrel.o, ?_, ?_, hrel.f⟩, ?_, hrun, CmpOk.any hcm', Nat.succ_le_succ hle⟩, ?_⟩
    · show q.regs.set a.toNat k = _
      rw [hrel.r, set_app (by omega)]
    · show q.steps + 1 = ((S.n + 1 : Nat) : Int)
      rw [hrel.n]; rfl
    · exact (hb.set k3 (by have := pow_ge q.i; omega)).up (Nat.le_succ _)
    · simp only [meas, mdo, ho, Bool.false_eq_true, if_false]; omega
  | add a b =>
    have hn := her (by simp)
    obtain ⟨⟨k1, k2⟩, k3, k4⟩ := hok
    have ha := hb.2 a.toNat (by omega)
    have hb' := hb.2 b.toNat (by omega)
    refine ⟨.inl ⟨ho, { S with r := S.r.set a.toNat (S.r.getD a.toNat 0 + S.r.getD b.toNat 0), n := S.n + 1 }, hn, ⟨hrel.o, ?_, ?_, .inl rfl⟩, ?_, hrun, hcm', Nat.succ_le_succ hle⟩, ?_⟩
    · show q.regs.set a.toNat (q.regs.getD a.toNat 0 + q.regs.getD b.toNat 0) = _
      rw [hrel.r, set_app (by omega), getD_app (by omega), getD_app (by omega)]
    · show q.steps + 1 = ((S.n + 1 : Nat) : Int)
      rw [hrel.n]; rfl
    · refine (hb.up (Nat.le_succ _)).set (by omega) ?_
      rw [Int.pow_succ]; omega
    · simp only [meas, mdo, ho, Bool.false_eq_true, if_false]; omega
  | cmp a k =>
    have hn := her (by simp)
    obtain ⟨⟨k1, k2⟩, k3, k4⟩ := hok
    refine ⟨.inl ⟨ho, { S with f := (S.r.getD a.toNat 0, k), n := S.n + 1 }, hn, ⟨hrel.o, hrel.r, ?_, .inr ?_⟩, hb.up (Nat.le_succ _), hrun, hcm', Nat.succ_le_succ hle⟩, ?_⟩
    · show q.steps + 1 = ((S.n + 1 : Nat) : Int)
      rw [hrel.n]; rfl
    · show some (q.regs.getD a.toNat 0, k) = _
      rw [hrel.r, getD_app (by omega)]
    · simp only [meas, mdo, ho, Bool.false_eq_true, if_false]; omega
  | jcc c o g =>
    have hn := her (by simp)
    have hf : q.fk = some S.f := by
      rcases hrel.f with h | h
      · rw [h] at hcm; exact absurd hcm.1 (by decide)
      · exact h
    have ef : q.fk.getD (0, 0) = S.f := by rw [hf]; rfl
    have hcond := condB_eq c S.f.1 S.f.2
    by_cases hc : run.condP c S.f.1 S.f.2 = true
    · simp only [run, if_pos hc] at hrun
      obtain ⟨j, h1, h2, h3, h4, h5⟩ := jump o g (hgo.1 _ rfl)
      rw [h5] at hrun
      have e : mdo rs (.jcc c o g) { q with i := q.i + 1 } = { q with steps := q.steps + 1, i := j } := by
        simp only [mdo, ef, hcond, if_pos hc, h3]
      rw [e]
      refine ⟨.inl ⟨ho, { S with n := S.n + 1 }, h2, ⟨hrel.o, hrel.r, ?_, hrel.f⟩, hb.up (Nat.le_of_lt h1), hrun, h4 _, ?_⟩, ?_⟩
      · show q.steps + 1 = ((S.n + 1 : Nat) : Int)
        rw [hrel.n]; rfl
      · show S.n + 1 ≤ j
        omega
      · simp only [meas, ho, Bool.false_eq_true, if_false]; omega
    · simp only [run, if_neg hc] at hrun
      have e : mdo rs (.jcc c o g) { q with i := q.i + 1 } = { q with steps := q.steps + 1, i := q.i + 1 } := by
        simp only [mdo, ef, hcond, if_neg hc]
      rw [e]
      refine ⟨.inl ⟨ho, { S with n := S.n + 1 }, hn, ⟨hrel.o, hrel.r, ?_, hrel.f⟩, hb.up (Nat.le_succ _), hrun, CmpOk.any hcm', Nat.succ_le_succ hle⟩, ?_⟩
      · show q.steps + 1 = ((S.n + 1 : Nat) : Int)
        rw [hrel.n]; rfl
      · simp only [meas, ho, Bool.false_eq_true, if_false]; omega
  | jmp o g =>
    simp only [run] at hrun
    obtain ⟨j, h1, h2, h3, h4, h5⟩ := jump o g (hgo.1 _ rfl)
    rw [h5] at hrun
    have e : mdo rs (.jmp o g) { q with i := q.i + 1 } = { q with steps := q.steps + 1, i := j } := by
      simp only [mdo, h3]
    rw [e]
    refine ⟨.inl ⟨ho, { S with n := S.n + 1, d := S.d + if idleIn o g (rs.drop (q.i + 1)) = true then 1 else 0 }, h2, ⟨hrel.o, hrel.r, ?_, hrel.f⟩, hb.up (Nat.le_of_lt h1), hrun, h4 _, ?_⟩, ?_⟩
    · show q.steps + 1 = ((S.n + 1 : Nat) : Int)
      rw [hrel.n]; rfl
    · show S.n + 1 ≤ j
      omega
    · simp only [meas, ho, Bool.false_eq_true, if_false]; omega
  | ret =>
    refine ⟨.inr ⟨rfl, ?_, by rw [← hrun]; exact hl4, by rw [← hrun]; show S.n + 1 ≤ rs.length; omega⟩, ?_⟩
    · rw [← hrun]
      refine ⟨hrel.o, hrel.r, ?_, hrel.f⟩
      show q.steps + 1 = ((S.n + 1 : Nat) : Int)
      rw [hrel.n]; rfl
    · simp only [meas, mdo, if_true]; omega
theorem bnd0 : Bnd 0 [9, 9, 9, 9] := ⟨rfl, by decide⟩
theorem inv0 {rs : List TR} (W : WF rs) : INV rs (run none rs S0) q0 := by
  refine .inl ⟨rfl, S0, ?_, ⟨rfl, rfl, rfl, .inl rfl⟩, bnd0, rfl, W.cm, Nat.le_refl _⟩
  have := W.er
  revert this
  cases rs with
  | nil => intro h; exact h.elim
  | cons r rs => intro _; exact Nat.succ_pos _
theorem strip_end {rs : List TR} : (run none (stripI rs) S0).r = (run none rs S0).r ∧ (run none (stripI rs) S0).o = (run none rs S0).o ∧ (run none rs S0).n = (run none (stripI rs) S0).n + (run none rs S0).d := by
  obtain ⟨h1, h2, _, h4⟩ := run_strip rs none S0 S0 ⟨rfl, rfl, rfl, rfl⟩
  exact ⟨h2.symm, h1.symm, h4⟩
end
section
open PyProof.V
section
theorem kw35 : True := by
 w_top off
 k_with "fold9" => ((try (refine letf (by assumption) ?_; intro m9ᵩ F9ᵩ)); (try (refine letn (by assumption) ?_; intro w9ᵩ N9ᵩ)))
 k_with "pyIter ref" => (k_here; (with_reducible show wpAny _ _ (pyIter (Value.ref _)) (fun it s₂ => TurnsAt _ _ _ _ _ _ _ _ _ it s₂) _ _); k_dflt (refine' iter_tupTurns ?hh ?F ?N ?hm ?hc ?hd ?_; (case hh => exact rfl); (case F => k_asm); (case N => k_asm); (case hm => k_mem); (case hc => exact rfl); (case hd => exact rfl)); intro I'ᵩ l1ᵩ; have l2ᵩ := l1ᵩ; (try k_lt l1ᵩ); (try simp only [List.map_cons, List.map_nil]))
 k_with "UnrEndW" => (k_here; k_dflt (refine' ueW1 ?hI ?F ?N ?hs ?hk ?_; (case hI => assumption); (case F => k_asm); (case N => k_asm); (case hs => exact (fun p hp => by first | exact hp | exact List.mem_cons_of_mem _ hp | exact List.mem_cons_of_mem _ (List.mem_cons_of_mem _ hp) | exact List.mem_cons_of_mem _ (List.mem_cons_of_mem _ (List.mem_cons_of_mem _ hp)) | exact List.mem_cons_of_mem _ (List.mem_cons_of_mem _ (List.mem_cons_of_mem _ (List.mem_cons_of_mem _ hp))))); (case hk => exact And.intro (by k_mem) trivial)))
 k_with "nm" => (first | assumption | exact .head _ | exact .tail _ (.head _) | exact .tail _ (.tail _ (.head _)) | exact .tail _ (.tail _ (.tail _ (.head _))) | exact .tail _ (.tail _ (.tail _ (.tail _ (.head _)))))
 k_with "call ref" => (k_here; (with_reducible show wpAny _ _ (call (Value.ref _) _) _ _ _); k_dflt (refine' call_meth ?k1 ?k2 ?_; (case k1 => k_asm); (case k2 => k_mem); k_whole); k_dflt (first | ((with_reducible show codeAny _ _ (Code.call (Value.ref 384) _) _ _); refine' moveno_c  _ _ _ _ _ ?B ?F ?X ?T ?k ?N ?n ?d ?u ?_; (case B => k_asm); (case F => k_asm); (case X => k_asm); (case T => k_asm); (case k => k_extra "k9"); (case N => k_asm); (case n => k_extra "nm"); (case d => k_extra "d9"); (case u => k_extra "u9"); intro h'ᵩ tks'ᵩ F'ᵩ N'ᵩ; (try k_sweep)) | ((with_reducible show codeAny _ _ (Code.call (Value.ref 391) _) _ _); refine' twono_c  _ _ _ _ _ ?B ?F ?X ?T ?k ?N ?n ?d ?u ?_; (case B => k_asm); (case F => k_asm); (case X => k_asm); (case T => k_asm); (case k => k_extra "k9"); (case N => k_asm); (case n => k_extra "nm"); (case d => k_extra "d9"); (case u => k_extra "u9"); intro h'ᵩ tks'ᵩ F'ᵩ N'ᵩ; (try k_sweep)) | ((with_reducible show codeAny _ _ (Code.call (Value.ref 398) _) _ _); refine' shiftno_c  _ _ _ _ _ ?B ?F ?X ?T ?k ?N ?n ?d ?u ?_; (case B => k_asm); (case F => k_asm); (case X => k_asm); (case T => k_asm); (case k => k_extra "k9"); (case N => k_asm); (case n => k_extra "nm"); (case d => k_extra "d9"); (case u => k_extra "u9"); intro h'ᵩ tks'ᵩ F'ᵩ N'ᵩ; (try k_sweep)) | ((with_reducible show codeAny _ _ (Code.call (Value.ref 405) _) _ _); refine' divno_c  _ _ _ _ _ ?B ?F ?X ?T ?k ?N ?n ?d ?u ?_; (case B => k_asm); (case F => k_asm); (case X => k_asm); (case T => k_asm); (case k => k_extra "k9"); (case N => k_asm); (case n => k_extra "nm"); (case d => k_extra "d9"); (case u => k_extra "u9"); intro h'ᵩ tks'ᵩ F'ᵩ N'ᵩ; (try k_sweep)) | refine StopG.out ?_))
 trivial
namespace EK.E_dorow_add
theorem core : @P w mean mg mb dp un gd cn cs a ccd cl outer A₀ base h₀ L m s Q E := by
  intro own x dx rg l md pl fl o gs regs kk at' order steps v rs a' b' B F X T hk N hC hM hof hdr hg hl hp4 hd hu hR ok hret
  obtain ⟨q1, q2, q3, q4, q5, q6, q7, q8, q9, t1, t2, t3, t4, t5, t6, t7, t8, t9, ta, to, ts, rfl⟩ := hM
  obtain ⟨y, dy, p, e1, e2, u1, u2, u3, ny, ps, k, rfl, hy, hdy, hp, hps⟩ := hR
  have hx := hC.inst
  dsimp only [nameOf, partsOf] at hdy hps
  obtain ⟨t10, t11, t12, rfl⟩ := da_iii hps
  k_steps
  refine StopG.mk ?_
  rename News _ _ _ _ => N9
  k_dflt (refine' twoadd_c  own x dx rg l md pl fl _ gs regs kk at' order (steps + 1) Value.none rs a' b' p k u2 t10 t11 t12 ?B ?F ?X ?T ?k (news_tl (news_tl (news_tl (news_tl (news_tl (news_tl (news_tl (news_tl (news_tl (news_tl N9)))))))))) hC ⟨_, _, _, _, _, _, _, _, _, _, _, _, _, _, _, _, _, _, _, _, _, rfl⟩ hof hdr hg hl hp4 ?d ?u hp ok ?_; (case B => k_asm); (case F => k_asm); (case X => k_asm); (case T => k_asm); (case k => first | exact rfl | assumption); (case d => first | exact rmc0 (by assumption) (by decide) | exact rmc 1 (by assumption) (by decide) | exact rmc 2 (by assumption) (by decide) | exact rmc 3 (by assumption) (by decide)); (case u => first | exact rmu0 (by assumption) (by decide) | exact rmu 3 (by assumption) (by decide) | exact rmu 6 (by assumption) (by decide) | exact rmu 9 (by assumption) (by decide) | exact rmu 1 (by assumption) (by decide) | exact rmu 4 (by assumption) (by decide) | exact rmu 7 (by assumption) (by decide)))
  intro fx fd fo o' gs' h' tks F' N' hof' hM' hi'
  k_steps
  exact hret _ _ _ _ _ _ _ (by assumption) (by (first | assumption | exact news_tl (by assumption) | exact news_tl (news_tl (by assumption)) | exact news_tl (news_tl (news_tl (by assumption))) | exact news_tl (news_tl (news_tl (news_tl (by assumption)))) | exact news_tl (news_tl (news_tl (news_tl (news_tl (by assumption))))) | exact news_tl (news_tl (news_tl (news_tl (news_tl (news_tl (by assumption)))))) | exact news_tl (news_tl (news_tl (news_tl (news_tl (news_tl (news_tl (by assumption))))))))) hof' hM' hi'
end EK.E_dorow_add
theorem EK.E_dorow_add.all : ∀ c, EK.E_dorow_add.Pc c := by
  have h : EK.E_dorow_add.Pc kc := by with_unfolding_all exact EK.E_dorow_add.core
  rw [EK.eqk32] at h
  exact first_all (r := EK.lst33) h
theorem EK.eqk33 : kc = first EK.lst33 := EK.eqk32.trans (first_skip EK.E_dorow_add.all)
theorem dorow_add {w : World} {mean : ExcName → Option Value} {mg mb : Str → Option Value} {dp un : Nat} {gd : Option (List Code)} {cn : Str} {cs : Scope} {a : Addr} {ccd : Value} {cl : List (Str × Addr)} {outer : List Env} {A₀ : Around} {base h₀ : Heap} {L : Addr} {m : Str → Option Value} {s : Shared} {Q E : Value → Shared → Prop} (own : List (Addr × Obj)) (x dx rg l md pl fl : Addr) (o : Obj) (gs : List Value) (regs : List Int) (kk : Nat) (at' order steps : Int) (v : Value) (rs : List TR) (a' b' : Int)
    (B : Below A₀ base outer h₀) (F : Fr h₀ L s.heap m) (X : (hd.heap_1 w.params).In h₀) (T : Top viewP LZ mean mg mb h₀) (hk : cs.kind = .function)
    (N : News h₀ L s.heap ((dx, o) :: (rg, listOf gs.toArray kk) :: own)) (hC : MachC PySem.Challenge.rw_pf0284_01.row.prog w own x dx l md pl rs) (hM : MObj o l md rg fl pl at' order steps false) (hof : OwnOff own [dx, rg]) (hdr : @LT.lt Nat _ dx rg) (hg : IntsAre gs regs) (hl : regs.length = 16)
    (hp4 : ∀ i : Nat, i < 4 → 0 ≤ regs.getD i 0 ∧ regs.getD i 0 < 1152921504606846976)
    (hd : dp + 40 < recursionLimit) (hu : un + 400 < cLine)
    (hR : RowIn own v (.add a' b')) (ok : (0 ≤ a' ∧ a' < 4) ∧ 0 ≤ b' ∧ b' < 4)
    (hret : ∀ (o' : Obj) (gs' : List Value) (fx fd : Addr) (fo : Obj) (h' : Heap) (tks : Nat), Fr h₀ L h' m → News h₀ L h' ((dx, o') :: (rg, listOf gs'.toArray kk) :: (fx, instObj 238 fd) :: (fd, fo) :: own) → OwnOff ((fx, instObj 238 fd) :: (fd, fo) :: own) [dx, rg] → MObj o' l md rg fx pl at' order (steps + 1) false → IntsAre gs' (regs.set a'.toNat (regs.getD a'.toNat 0 + regs.getD b'.toNat 0)) → Q .none { s with heap := h', toks := tks }) : wpAny (model PySem.Challenge.rw_pf0284_01.row.prog w) (ktrTop dp un gd cn cs L a ccd cl outer) (call (.ref 433) [.ref x, v]) Q E s := by
  with_unfolding_all exact EK.E_dorow_add.all ⟨w, mean, mg, mb, dp, un, gd, cn, cs, a, ccd, cl, outer, A₀, base, h₀, L, m, s, Q, E⟩ own x dx rg l md pl fl o gs regs kk at' order steps v rs a' b' B F X T hk N hC hM hof hdr hg hl hp4 hd hu hR ok hret
namespace EK.E_dorow_cmp
theorem core : @P w mean mg mb dp un gd cn cs a ccd cl outer A₀ base h₀ L m s Q E := by
  intro own x dx rg l md pl fl o gs regs kk at' order steps v rs a' b' B F X T hk N hC hM hof hdr hg hl hp4 hd hu hR ok hret
  obtain ⟨q1, q2, q3, q4, q5, q6, q7, q8, q9, t1, t2, t3, t4, t5, t6, t7, t8, t9, ta, to, ts, rfl⟩ := hM
  obtain ⟨y, dy, p, e1, e2, u1, u2, u3, ny, ps, k, rfl, hy, hdy, hp, hps⟩ := hR
  have hx := hC.inst
  dsimp only [nameOf, partsOf] at hdy hps
  obtain ⟨t10, t11, t12, rfl⟩ := da_iii hps
  k_steps
  refine StopG.mk ?_
  rename News _ _ _ _ => N9
  k_dflt (refine' twocmp_c  own x dx rg l md pl fl _ gs regs kk at' order (steps + 1) Value.none rs a' b' p k u2 t10 t11 t12 ?B ?F ?X ?T ?k (news_tl (news_tl (news_tl (news_tl (news_tl (news_tl (news_tl (news_tl (news_tl (news_tl N9)))))))))) hC ⟨_, _, _, _, _, _, _, _, _, _, _, _, _, _, _, _, _, _, _, _, _, rfl⟩ hof hdr hg hl hp4 ?d ?u hp ok ?_; (case B => k_asm); (case F => k_asm); (case X => k_asm); (case T => k_asm); (case k => first | exact rfl | assumption); (case d => first | exact rmc0 (by assumption) (by decide) | exact rmc 1 (by assumption) (by decide) | exact rmc 2 (by assumption) (by decide) | exact rmc 3 (by assumption) (by decide)); (case u => first | exact rmu0 (by assumption) (by decide) | exact rmu 3 (by assumption) (by decide) | exact rmu 6 (by assumption) (by decide) | exact rmu 9 (by assumption) (by decide) | exact rmu 1 (by assumption) (by decide) | exact rmu 4 (by assumption) (by decide) | exact rmu 7 (by assumption) (by decide)))
  intro fx fd fo o' h' tks F' N' hof' hM' hk'
  k_steps
  exact hret _ _ _ _ _ _ (by assumption) (by (first | assumption | exact news_tl (by assumption) | exact news_tl (news_tl (by assumption)) | exact news_tl (news_tl (news_tl (by assumption))) | exact news_tl (news_tl (news_tl (news_tl (by assumption)))) | exact news_tl (news_tl (news_tl (news_tl (news_tl (by assumption))))) | exact news_tl (news_tl (news_tl (news_tl (news_tl (news_tl (by assumption)))))) | exact news_tl (news_tl (news_tl (news_tl (news_tl (news_tl (news_tl (by assumption))))))))) hof' hM' hk'
end EK.E_dorow_cmp
theorem EK.E_dorow_cmp.all : ∀ c, EK.E_dorow_cmp.Pc c := by
  have h : EK.E_dorow_cmp.Pc kc := by with_unfolding_all exact EK.E_dorow_cmp.core
  rw [EK.eqk33] at h
  exact first_all (r := EK.lst34) h
theorem EK.eqk34 : kc = first EK.lst34 := EK.eqk33.trans (first_skip EK.E_dorow_cmp.all)
theorem dorow_cmp {w : World} {mean : ExcName → Option Value} {mg mb : Str → Option Value} {dp un : Nat} {gd : Option (List Code)} {cn : Str} {cs : Scope} {a : Addr} {ccd : Value} {cl : List (Str × Addr)} {outer : List Env} {A₀ : Around} {base h₀ : Heap} {L : Addr} {m : Str → Option Value} {s : Shared} {Q E : Value → Shared → Prop} (own : List (Addr × Obj)) (x dx rg l md pl fl : Addr) (o : Obj) (gs : List Value) (regs : List Int) (kk : Nat) (at' order steps : Int) (v : Value) (rs : List TR) (a' b' : Int)
    (B : Below A₀ base outer h₀) (F : Fr h₀ L s.heap m) (X : (hd.heap_1 w.params).In h₀) (T : Top viewP LZ mean mg mb h₀) (hk : cs.kind = .function)
    (N : News h₀ L s.heap ((dx, o) :: (rg, listOf gs.toArray kk) :: own)) (hC : MachC PySem.Challenge.rw_pf0284_01.row.prog w own x dx l md pl rs) (hM : MObj o l md rg fl pl at' order steps false) (hof : OwnOff own [dx, rg]) (hdr : @LT.lt Nat _ dx rg) (hg : IntsAre gs regs) (hl : regs.length = 16)
    (hp4 : ∀ i : Nat, i < 4 → 0 ≤ regs.getD i 0 ∧ regs.getD i 0 < 1152921504606846976)
    (hd : dp + 40 < recursionLimit) (hu : un + 400 < cLine)
    (hR : RowIn own v (.cmp a' b')) (ok : (0 ≤ a' ∧ a' < 4) ∧ 0 ≤ b' ∧ b' < 64)
    (hret : ∀ (o' : Obj) (fx fd : Addr) (fo : Obj) (h' : Heap) (tks : Nat), Fr h₀ L h' m → News h₀ L h' ((dx, o') :: (rg, listOf gs.toArray kk) :: (fx, instObj 238 fd) :: (fd, fo) :: own) → OwnOff ((fx, instObj 238 fd) :: (fd, fo) :: own) [dx, rg] → MObj o' l md rg fx pl at' order (steps + 1) false → FK ((fx, instObj 238 fd) :: (fd, fo) :: own) fx (some (regs.getD a'.toNat 0, b')) → Q .none { s with heap := h', toks := tks }) : wpAny (model PySem.Challenge.rw_pf0284_01.row.prog w) (ktrTop dp un gd cn cs L a ccd cl outer) (call (.ref 433) [.ref x, v]) Q E s := by
  with_unfolding_all exact EK.E_dorow_cmp.all ⟨w, mean, mg, mb, dp, un, gd, cn, cs, a, ccd, cl, outer, A₀, base, h₀, L, m, s, Q, E⟩ own x dx rg l md pl fl o gs regs kk at' order steps v rs a' b' B F X T hk N hC hM hof hdr hg hl hp4 hd hu hR ok hret
end
end
section
open PyProof.V
section
namespace EK.E_dorow_way
theorem core : @P w mean mg mb dp un gd cn cs a ccd cl outer A₀ base h₀ L m s Q E := by
  intro own x dx rg l md pl fl o gs regs kk at' order steps v rs nm p at2 ov B F X T hk N hC hM hof hdr hg hl hp4 hd hu hR hn1 hn2 b1 b2 hw hret
  obtain ⟨q1, q2, q3, q4, q5, q6, q7, q8, q9, t1, t2, t3, t4, t5, t6, t7, t8, t9, ta, to, ts, rfl⟩ := hM
  obtain ⟨y, dy, e1, e2, u1, u2, u3, ny, rfl, hy, hdy⟩ := hR
  have hx := hC.inst
  k_steps
  refine StopG.mk ?_
  rename News _ _ _ _ => N9
  k_dflt (refine' hw _ _ ?B ?F ?X ?T ?k (news_tl (news_tl (news_tl (news_tl (news_tl (news_tl (news_tl (news_tl (news_tl (news_tl N9)))))))))) hC ⟨_, _, _, _, _, _, _, _, _, _, _, _, _, _, _, _, _, _, _, _, _, rfl⟩ hof hdr hg hl hp4 ?d ?u ?_; (case B => k_asm); (case F => k_asm); (case X => k_asm); (case T => k_asm); (case k => first | exact rfl | assumption); (case d => first | exact rmc0 (by assumption) (by decide) | exact rmc 1 (by assumption) (by decide) | exact rmc 2 (by assumption) (by decide) | exact rmc 3 (by assumption) (by decide)); (case u => first | exact rmu0 (by assumption) (by decide) | exact rmu 3 (by assumption) (by decide) | exact rmu 6 (by assumption) (by decide) | exact rmu 9 (by assumption) (by decide) | exact rmu 1 (by assumption) (by decide) | exact rmu 4 (by assumption) (by decide) | exact rmu 7 (by assumption) (by decide)))
  intro o' h' tks F' N' hM'
  k_steps
  exact hret _ _ _ (by assumption) (by (first | assumption | exact news_tl (by assumption) | exact news_tl (news_tl (by assumption)) | exact news_tl (news_tl (news_tl (by assumption))) | exact news_tl (news_tl (news_tl (news_tl (by assumption)))) | exact news_tl (news_tl (news_tl (news_tl (news_tl (by assumption))))) | exact news_tl (news_tl (news_tl (news_tl (news_tl (news_tl (by assumption)))))) | exact news_tl (news_tl (news_tl (news_tl (news_tl (news_tl (news_tl (by assumption))))))))) hM'
end EK.E_dorow_way
theorem EK.E_dorow_way.all : ∀ c, EK.E_dorow_way.Pc c := by
  have h : EK.E_dorow_way.Pc kc := by with_unfolding_all exact EK.E_dorow_way.core
  rw [EK.eqk34] at h
  exact first_all (r := EK.lst35) h
theorem EK.eqk35 : kc = first EK.lst35 := EK.eqk34.trans (first_skip EK.E_dorow_way.all)
theorem dorow_way {w : World} {mean : ExcName → Option Value} {mg mb : Str → Option Value} {dp un : Nat} {gd : Option (List Code)} {cn : Str} {cs : Scope} {a : Addr} {ccd : Value} {cl : List (Str × Addr)} {outer : List Env} {A₀ : Around} {base h₀ : Heap} {L : Addr} {m : Str → Option Value} {s : Shared} {Q E : Value → Shared → Prop} (own : List (Addr × Obj)) (x dx rg l md pl fl : Addr) (o : Obj) (gs : List Value) (regs : List Int) (kk : Nat) (at' order steps : Int) (v : Value) (rs : List TR) (nm : Str) (p : Addr) (at2 : Int) (ov : Bool)
    (B : Below A₀ base outer h₀) (F : Fr h₀ L s.heap m) (X : (hd.heap_1 w.params).In h₀) (T : Top viewP LZ mean mg mb h₀) (hk : cs.kind = .function)
    (N : News h₀ L s.heap ((dx, o) :: (rg, listOf gs.toArray kk) :: own)) (hC : MachC PySem.Challenge.rw_pf0284_01.row.prog w own x dx l md pl rs) (hM : MObj o l md rg fl pl at' order steps false) (hof : OwnOff own [dx, rg]) (hdr : @LT.lt Nat _ dx rg) (hg : IntsAre gs regs) (hl : regs.length = 16)
    (hp4 : ∀ i : Nat, i < 4 → 0 ≤ regs.getD i 0 ∧ regs.getD i 0 < 1152921504606846976)
    (hd : dp + 40 < recursionLimit) (hu : un + 400 < cLine)
    (hR : NmIn own v nm p) (hn1 : nm ∈ [Str.ofString "add", Str.ofString "cmp_imm", Str.ofString "jcc", Str.ofString "jmp", Str.ofString "ret"]) (hn2 : nm ∈ [Str.ofString "jcc", Str.ofString "jmp", Str.ofString "ret"])
    (b1 : (nm == Str.ofString "order") = false) (b2 : [Str.ofString "order", Str.ofString "label", Str.ofString "entry"].any (fun y => y == nm) = false)
    (hw : WayP nm own x dx rg l md pl fl gs regs kk at' order (steps + 1) rs p at2 ov)
    (hret : ∀ (o' : Obj) (h' : Heap) (tks : Nat), Fr h₀ L h' m → News h₀ L h' ((dx, o') :: (rg, listOf gs.toArray kk) :: own) → MObj o' l md rg fl pl at2 order (steps + 1) ov → Q .none { s with heap := h', toks := tks }) : wpAny (model PySem.Challenge.rw_pf0284_01.row.prog w) (ktrTop dp un gd cn cs L a ccd cl outer) (call (.ref 433) [.ref x, v]) Q E s := by
  with_unfolding_all exact EK.E_dorow_way.all ⟨w, mean, mg, mb, dp, un, gd, cn, cs, a, ccd, cl, outer, A₀, base, h₀, L, m, s, Q, E⟩ own x dx rg l md pl fl o gs regs kk at' order steps v rs nm p at2 ov B F X T hk N hC hM hof hdr hg hl hp4 hd hu hR hn1 hn2 b1 b2 hw hret
theorem dorow_jmp {w : World} {mean : ExcName → Option Value} {mg mb : Str → Option Value} {dp un : Nat} {gd : Option (List Code)} {cn : Str} {cs : Scope} {a : Addr} {ccd : Value} {cl : List (Str × Addr)} {outer : List Env} {A₀ : Around} {base h₀ : Heap} {L : Addr} {m : Str → Option Value} {s : Shared} {Q E : Value → Shared → Prop} (own : List (Addr × Obj)) (x dx rg l md pl fl : Addr) (o : Obj) (gs : List Value) (regs : List Int) (kk : Nat) (at' order steps : Int) (v : Value) (rs : List TR) (b : Bool) (g : Int) (j : Nat)
    (B : Below A₀ base outer h₀) (F : Fr h₀ L s.heap m) (X : (hd.heap_1 w.params).In h₀) (T : Top viewP LZ mean mg mb h₀) (hk : cs.kind = .function)
    (N : News h₀ L s.heap ((dx, o) :: (rg, listOf gs.toArray kk) :: own)) (hC : MachC PySem.Challenge.rw_pf0284_01.row.prog w own x dx l md pl rs) (hM : MObj o l md rg fl pl at' order steps false) (hof : OwnOff own [dx, rg]) (hdr : @LT.lt Nat _ dx rg) (hg : IntsAre gs regs) (hl : regs.length = 16)
    (hp4 : ∀ i : Nat, i < 4 → 0 ≤ regs.getD i 0 ∧ regs.getD i 0 < 1152921504606846976)
    (hd : dp + 40 < recursionLimit) (hu : un + 400 < cLine)
    (hR : RowIn own v (.jmp b g)) (hj : lk (marksL 0 rs) (b, g) = some j)
    (hret : ∀ (o' : Obj) (h' : Heap) (tks : Nat), Fr h₀ L h' m → News h₀ L h' ((dx, o') :: (rg, listOf gs.toArray kk) :: own) → MObj o' l md rg fl pl j order (steps + 1) false → Q .none { s with heap := h', toks := tks }) :
    wpAny (model PySem.Challenge.rw_pf0284_01.row.prog w) (ktrTop dp un gd cn cs L a ccd cl outer) (call (.ref 433) [.ref x, v]) Q E s := by
  obtain ⟨y, dy, p, e1, e2, u1, u2, u3, ny, ps, k, rfl, hy, hdy, hp, hps⟩ := hR
  dsimp only [nameOf, partsOf] at hdy hps
  obtain ⟨t10, t11, rfl⟩ := da_si hps
  refine dorow_way own x dx rg l md pl fl o gs regs kk at' order steps _ rs _ p j false B F X T hk N hC hM hof hdr hg hl hp4 hd hu ⟨y, dy, e1, e2, u1, u2, u3, ny, rfl, hy, hdy⟩ ?_ ?_ (by decide +kernel) (by decide +kernel) (fun o' t' B' F' X' T' hk' N' hC' hM' hof' hdr' hg' hl' hp4' hd' hu' hr' => wayjmp_c own x dx rg l md pl fl o' gs regs kk at' order (steps + 1) .none rs b g j p k t' t10 t11 B' F' X' T' hk' N' hC' hM' hof' hdr' hg' hl' hp4' hd' hu' hp hj hr') hret
  all_goals simp only [List.mem_cons, true_or, or_true]
theorem dorow_jcc {w : World} {mean : ExcName → Option Value} {mg mb : Str → Option Value} {dp un : Nat} {gd : Option (List Code)} {cn : Str} {cs : Scope} {a : Addr} {ccd : Value} {cl : List (Str × Addr)} {outer : List Env} {A₀ : Around} {base h₀ : Heap} {L : Addr} {m : Str → Option Value} {s : Shared} {Q E : Value → Shared → Prop} (own : List (Addr × Obj)) (x dx rg l md pl fl : Addr) (o : Obj) (gs : List Value) (regs : List Int) (kk : Nat) (at' order steps : Int) (v : Value) (rs : List TR) (c : _root_.Fin 3) (b : Bool) (g x' y' : Int) (j : Nat)
    (B : Below A₀ base outer h₀) (F : Fr h₀ L s.heap m) (X : (hd.heap_1 w.params).In h₀) (T : Top viewP LZ mean mg mb h₀) (hk : cs.kind = .function)
    (N : News h₀ L s.heap ((dx, o) :: (rg, listOf gs.toArray kk) :: own)) (hC : MachC PySem.Challenge.rw_pf0284_01.row.prog w own x dx l md pl rs) (hM : MObj o l md rg fl pl at' order steps false) (hof : OwnOff own [dx, rg]) (hdr : @LT.lt Nat _ dx rg) (hg : IntsAre gs regs) (hl : regs.length = 16)
    (hp4 : ∀ i : Nat, i < 4 → 0 ≤ regs.getD i 0 ∧ regs.getD i 0 < 1152921504606846976)
    (hd : dp + 40 < recursionLimit) (hu : un + 400 < cLine)
    (hR : RowIn own v (.jcc c b g)) (hj : lk (marksL 0 rs) (b, g) = some j) (hf : FK own fl (some (x', y')))
    (hret : ∀ (o' : Obj) (h' : Heap) (tks : Nat), Fr h₀ L h' m → News h₀ L h' ((dx, o') :: (rg, listOf gs.toArray kk) :: own) → MObj o' l md rg fl pl (if condB c x' y' = true then (j : Int) else at') order (steps + 1) false → Q .none { s with heap := h', toks := tks }) :
    wpAny (model PySem.Challenge.rw_pf0284_01.row.prog w) (ktrTop dp un gd cn cs L a ccd cl outer) (call (.ref 433) [.ref x, v]) Q E s := by
  obtain ⟨y, dy, p, e1, e2, u1, u2, u3, ny, ps, k, rfl, hy, hdy, hp, hps⟩ := hR
  dsimp only [nameOf, partsOf] at hdy hps
  obtain ⟨t10, t11, t12, rfl⟩ := da_ssi hps
  refine dorow_way own x dx rg l md pl fl o gs regs kk at' order steps _ rs _ p (if condB c x' y' = true then (j : Int) else at') false B F X T hk N hC hM hof hdr hg hl hp4 hd hu ⟨y, dy, e1, e2, u1, u2, u3, ny, rfl, hy, hdy⟩ ?_ ?_ (by decide +kernel) (by decide +kernel) (fun o' t' B' F' X' T' hk' N' hC' hM' hof' hdr' hg' hl' hp4' hd' hu' hr' => wayjcc_c own x dx rg l md pl fl o' gs regs kk at' order (steps + 1) .none rs c b g x' y' j p k t' t11 t12 t10 B' F' X' T' hk' N' hC' hM' hof' hdr' hg' hl' hp4' hd' hu' hp hj hf hr') hret
  all_goals simp only [List.mem_cons, true_or, or_true]
theorem dorow_ret {w : World} {mean : ExcName → Option Value} {mg mb : Str → Option Value} {dp un : Nat} {gd : Option (List Code)} {cn : Str} {cs : Scope} {a : Addr} {ccd : Value} {cl : List (Str × Addr)} {outer : List Env} {A₀ : Around} {base h₀ : Heap} {L : Addr} {m : Str → Option Value} {s : Shared} {Q E : Value → Shared → Prop} (own : List (Addr × Obj)) (x dx rg l md pl fl : Addr) (o : Obj) (gs : List Value) (regs : List Int) (kk : Nat) (at' order steps : Int) (v : Value) (rs : List TR) 
    (B : Below A₀ base outer h₀) (F : Fr h₀ L s.heap m) (X : (hd.heap_1 w.params).In h₀) (T : Top viewP LZ mean mg mb h₀) (hk : cs.kind = .function)
    (N : News h₀ L s.heap ((dx, o) :: (rg, listOf gs.toArray kk) :: own)) (hC : MachC PySem.Challenge.rw_pf0284_01.row.prog w own x dx l md pl rs) (hM : MObj o l md rg fl pl at' order steps false) (hof : OwnOff own [dx, rg]) (hdr : @LT.lt Nat _ dx rg) (hg : IntsAre gs regs) (hl : regs.length = 16)
    (hp4 : ∀ i : Nat, i < 4 → 0 ≤ regs.getD i 0 ∧ regs.getD i 0 < 1152921504606846976)
    (hd : dp + 40 < recursionLimit) (hu : un + 400 < cLine)
    (hR : RowIn own v (.ret)) 
    (hret : ∀ (o' : Obj) (h' : Heap) (tks : Nat), Fr h₀ L h' m → News h₀ L h' ((dx, o') :: (rg, listOf gs.toArray kk) :: own) → MObj o' l md rg fl pl at' order (steps + 1) true → Q .none { s with heap := h', toks := tks }) :
    wpAny (model PySem.Challenge.rw_pf0284_01.row.prog w) (ktrTop dp un gd cn cs L a ccd cl outer) (call (.ref 433) [.ref x, v]) Q E s := by
  obtain ⟨y, dy, p, e1, e2, u1, u2, u3, ny, ps, k, rfl, hy, hdy, hp, hps⟩ := hR
  dsimp only [nameOf, partsOf] at hdy hps
  obtain rfl := da_nil hps
  refine dorow_way own x dx rg l md pl fl o gs regs kk at' order steps _ rs _ p at' true B F X T hk N hC hM hof hdr hg hl hp4 hd hu ⟨y, dy, e1, e2, u1, u2, u3, ny, rfl, hy, hdy⟩ ?_ ?_ (by decide +kernel) (by decide +kernel) (fun o' t' B' F' X' T' hk' N' hC' hM' hof' hdr' hg' hl' hp4' hd' hu' hr' => wayret_c own x dx rg l md pl fl o' gs regs kk at' order (steps + 1) .none rs p t' B' F' X' T' hk' N' hC' hM' hof' hdr' hg' hl' hp4' hd' hu' hr') hret
  all_goals simp only [List.mem_cons, true_or, or_true]
end
end
section
open PyProof.V
theorem memAdd {a b : Addr × Obj} {own0 own : List (Addr × Obj)} (h : ∀ p ∈ own0, p ∈ own) : ∀ p ∈ own0, p ∈ a :: b :: own := fun p hp => .tail _ (.tail _ (h p hp))
theorem MachC.add {prog : Program} {w : World} {a b : Addr × Obj} {own : List (Addr × Obj)} {x dx l md pl : Addr} {rs : List TR} (M : MachC prog w own x dx l md pl rs) : MachC prog w (a :: b :: own) x dx l md pl rs := M.mono fun _ hp => .tail _ (.tail _ hp)
theorem dorow_c {w : World} {mean : ExcName → Option Value} {mg mb : Str → Option Value} {dp un : Nat} {gd : Option (List Code)} {cn : Str} {cs : Scope} {a : Addr} {ccd : Value} {cl : List (Str × Addr)} {outer : List Env} {A₀ : Around} {base h₀ : Heap} {L : Addr} {m : Str → Option Value} {s : Shared} {Q E : Value → Shared → Prop} (own0 : List (Addr × Obj)) (x dx rg l md pl : Addr) (rs : List TR) (q : MS) (news : List (Addr × Obj)) (v : Value) (r : TR)
    (B : Below A₀ base outer h₀) (F : Fr h₀ L s.heap m) (X : (hd.heap_1 w.params).In h₀) (T : Top viewP LZ mean mg mb h₀) (hk : cs.kind = .function)
    (N : News h₀ L s.heap news) (hM : MAt w own0 x dx rg l md pl rs q news) (ho : q.over = false) (hR : RowIn own0 v r) (hD : DoOk rs r q)
    (hd : dp + 40 < recursionLimit) (hu : un + 400 < cLine)
    (hret : ∀ (news' : List (Addr × Obj)) (h' : Heap) (tks : Nat), Fr h₀ L h' m → News h₀ L h' news' → MAt w own0 x dx rg l md pl rs (mdo rs r q) news' → Q .none { s with heap := h', toks := tks }) :
    wpAny (model PySem.Challenge.rw_pf0284_01.row.prog w) (ktrTop dp un gd cn cs L a ccd cl outer) (call (.ref 433) [.ref x, v]) Q E s := by
  obtain ⟨o, gs, kk, fl, own, rfl, hO, hI, hF, hC, hof, hdr, hsub⟩ := hM
  obtain ⟨i, order, steps, over, regs, fk⟩ := q
  obtain ⟨ok, hlen, hp4, hgoal, hcmp⟩ := hD
  dsimp only at *
  subst ho
  have hR' := hR.mono hsub
  cases r with
  | mark b n =>
    refine dorow_mark  own x dx rg l md pl fl o gs regs kk i order steps v rs b n B F X T hk N hC hO hof hdr hI hlen hp4 hd hu hR' fun o' h' tks F' N' hO' => hret _ h' tks F' N' ⟨o', gs, kk, fl, own, rfl, hO', hI, hF, hC, hof, hdr, hsub⟩
  | mov a b =>
    refine dorow_mov  own x dx rg l md pl fl o gs regs kk i order steps v rs a b B F X T hk N hC hO hof hdr hI hlen hp4 hd hu hR' ok fun o' gs' h' tks F' N' hO' hI' => hret _ h' tks F' N' ⟨o', gs', kk, fl, own, rfl, hO', hI', hF, hC, hof, hdr, hsub⟩
  | add a b =>
    refine dorow_add  own x dx rg l md pl fl o gs regs kk i order steps v rs a b B F X T hk N hC hO hof hdr hI hlen hp4 hd hu hR' ok fun o' gs' fx fd fo h' tks F' N' hof' hO' hI' => hret _ h' tks F' N' ⟨o', gs', kk, fx, _, rfl, hO', hI', (fun _ e => nomatch e), hC.add, hof', hdr, memAdd hsub⟩
  | cmp a b =>
    refine dorow_cmp  own x dx rg l md pl fl o gs regs kk i order steps v rs a b B F X T hk N hC hO hof hdr hI hlen hp4 hd hu hR' ok fun o' fx fd fo h' tks F' N' hof' hO' hK' => hret _ h' tks F' N' ⟨o', gs, kk, fx, _, rfl, hO', hI, (fun y e => by cases e; exact hK'), hC.add, hof', hdr, memAdd hsub⟩
  | jmp o1 g =>
    refine dorow_jmp  own x dx rg l md pl fl o gs regs kk i order steps v rs o1 g (goalAt rs o1 g) B F X T hk N hC hO hof hdr hI hlen hp4 hd hu hR' (hgoal _ _ rfl) fun o' h' tks F' N' hO' => hret _ h' tks F' N' ⟨o', gs, kk, fl, own, rfl, hO', hI, hF, hC, hof, hdr, hsub⟩
  | jcc c o1 g =>
    have hs := hcmp c o1 g rfl
    cases fk with
    | none => exact absurd hs (by decide)
    | some y =>
      obtain ⟨y1, y2⟩ := y
      have hK := hF _ rfl
      refine dorow_jcc  own x dx rg l md pl fl o gs regs kk i order steps v rs c o1 g y1 y2 (goalAt rs o1 g) B F X T hk N hC hO hof hdr hI hlen hp4 hd hu hR' (hgoal _ _ rfl) hK fun o' h' tks F' N' hO' => hret _ h' tks F' N' ⟨o', gs, kk, fl, own, rfl, ?_, hI, hF, hC, hof, hdr, hsub⟩
      have e : ((mdo rs (.jcc c o1 g) { i := i, order := order, steps := steps, over := false, regs := regs, fk := some (y1, y2) }).i : Int) = if condB c y1 y2 = true then ((goalAt rs o1 g : Nat) : Int) else (i : Int) := by
        simp only [mdo, Option.getD_some]
        split <;> rfl
      rw [e]
      exact hO'
  | ret =>
    refine dorow_ret  own x dx rg l md pl fl o gs regs kk i order steps v rs B F X T hk N hC hO hof hdr hI hlen hp4 hd hu hR' fun o' h' tks F' N' hO' => hret _ h' tks F' N' ⟨o', gs, kk, fl, own, rfl, hO', hI, hF, hC, hof, hdr, hsub⟩
section
theorem kw36 : True := by
 w_top off
 k_with_none
 k_with "ml" => first | assumption | (refine memsub (by assumption) ?_; first | assumption | exact List.Mem.head _ | (refine List.Mem.tail _ ?_; first | exact List.Mem.head _ | (refine List.Mem.tail _ ?_; first | exact List.Mem.head _ | (refine List.Mem.tail _ ?_; first | exact List.Mem.head _ | (refine List.Mem.tail _ ?_; first | assumption) | assumption) | assumption) | assumption) | assumption)
 k_with "k_mem" => first | exact List.Mem.head _ | (refine List.Mem.tail _ ?_; k_extra "k_mem") | k_extra "ml"
 k_with "ks" => repeat' (first | (k_unfold; (try dsimp only)) | (k_end; kc_close) | (walk1; (try (first | (with_reducible show wpAny _ _ (exec _ _) _ _ _; (try dsimp only); (refine letq ?_; intro qk9ᵩ); (try with_reducible refine wpst ?_; intro tk9ᵩ); (try walk_at "fold9")) | (with_reducible show wpAny _ _ (execs _ _) _ _ _; k_fold)))) | (dsimp only; walk1) | (leave1; walk_say "STEP leave1"; try dsimp only) | (k_unmd; k_unfold; (try dsimp only)) | fail "no step")
 k_with "in9" => first | with_reducible assumption | (refine' Frag.In.keeps ?y9X (Fr.keep ?y9F); (case y9F => k_asm); (case y9X => k_asm))
 k_with "eval Constant str" => with_reducible refine kstr ?_
 k_with "eval Constant int" => with_reducible refine kint ?_
 k_with "oc" => first | (apply c1; assumption) | (apply c2; assumption) | (apply l2; assumption) | (apply c3; assumption) | (apply c4; assumption) | (apply c5; assumption) | (apply c6; assumption) | (apply c7; assumption) | (apply c8; assumption) | (apply c9; assumption) | (apply c10; assumption) | (apply c11; assumption) | (apply c12; assumption) | (apply c13; assumption) | (apply c14; assumption) | (apply c15; assumption) | (apply c16; assumption)
 k_with "od" => first | (apply c1; assumption) | (apply c2; assumption) | (apply l2; assumption) | (apply c3; assumption) | (apply c4; assumption) | (apply c5; assumption) | (apply c6; assumption) | (apply c7; assumption)
 k_with "on" => first | (apply zsy; assumption) | (apply zgt; first | assumption | k_extra "oc") | (apply zlt; first | assumption | k_extra "oc") | (apply gtt; assumption; first | assumption | k_extra "od") | (apply ltt; assumption; first | assumption | k_extra "od")
 k_with "oi" => first | exact nn0 | exact nn0' | exact z63 (by assumption) (by assumption) | exact z63b (by assumption) (by assumption) | exact n63 (by assumption) (by assumption) | exact n63b (by assumption) (by assumption) | exact z63c (by assumption) (by assumption) | exact z63d (by assumption) (by assumption) | exact nlt (by assumption) | exact n62 (by assumption) | exact n62b (by assumption) | exact tnl (by assumption) (by assumption) | exact sub1 (by assumption) | exact sub2 (by assumption) (by assumption) | decide | exact Int.lt_of_lt_of_le (by assumption) (by decide) | exact Nat.le_trans (by assumption) (by decide) | exact ul (by assumption) (by decide) | exact up0 (by assumption) (by assumption) | k_extra "oc"
 k_with "om" => first | (k_whole; with_reducible (first | assumption | (show @Ne Nat _ _; k_extra "on") | (show @Eq Nat _ _; first | exact tn1 (by assumption) | exact z0i) | ((first | show @LT.lt Int _ _ _ | show @LE.le Int _ _ _ | show @LT.lt Nat _ _ _ | show @LE.le Nat _ _ _); k_extra "oi")))
 k_with "execs cons If" => (k_here; (with_reducible show wpAny _ _ (execs (PySem.Stmt.If (PySem.Expr.Compare (PySem.Expr.Name _ _) [.Eq] [PySem.Expr.Constant (.str _) _ _] _) _ _ _ :: _) _) _ _ _); first | ((with_reducible show wpAny _ _ (execs (PySem.Stmt.If _ _ [] _ :: _) _) _ _ _); k_dflt (refine' cif_f ?F ?v ?x ?c ?k ?d ?_; (case F => k_asm); (case x => kernel_rfl!); (case k => kernel_rfl!); (case d => kernel_rfl!); (case v => rfl); (case c => first | with_reducible assumption | kernel_rfl!); k_whole)) | ((with_reducible show wpAny _ _ (execs [PySem.Stmt.If _ _ (_ :: _) _] _) _ _ _); k_dflt (refine' cif_g ?F ?v ?x ?c ?k ?d ?_; (case F => k_asm); (case x => kernel_rfl!); (case k => kernel_rfl!); (case d => kernel_rfl!); (case v => rfl); (case c => first | with_reducible assumption | kernel_rfl!); k_whole)) | ((with_reducible show wpAny _ _ (execs [PySem.Stmt.If _ _ _ _] _) _ _ _); k_dflt (refine' cif_t ?F ?v ?x ?c ?k ?d ?_; (case F => k_asm); (case x => kernel_rfl!); (case k => kernel_rfl!); (case d => kernel_rfl!); (case v => rfl); (case c => first | with_reducible assumption | kernel_rfl!); k_whole)) | k_dflt (refine' cif_r ?F ?v ?x ?c ?k ?d ?_; (case F => k_asm); (case x => kernel_rfl!); (case k => kernel_rfl!); (case d => kernel_rfl!); (case v => rfl); (case c => first | with_reducible assumption | kernel_rfl!); k_whole))
 k_with "callWith" => ((with_reducible show wpAny _ _ (callWith _ (Value.builtin _) (_ :: _) (backTo _ (starEach (_ :: _) _)) []) _ _ _); refine callWith_method1 ?_)
 k_with "callWith ref" => (k_here; k_dflt (first | (refine' callWith_K ?y9k ?y9l ?_; (case y9k => k_asm); (case y9l => k_is); k_whole) | (refine' callWith_K0 ?y9k ?y9l ?_; (case y9k => k_in); (case y9l => k_is); k_whole)))
 k_with "eval Name" => (k_here; (fail_if_success (with_reducible show wpAny _ _ (eval (PySem.Expr.Name _ _) (compEnvC _ _ _ _)) _ _ _)); k_dflt (first | (refine' nameX_L ?y9F ?y9v ?_ ?y9a ?y9b ?y9d; (case y9F => k_asm); (case y9a => kernel_rfl!); (case y9b => kernel_rfl!); (case y9d => kernel_rfl!); (case y9v => rfl); k_whole) | (refine' nameX_K ?y9F ?y9X ?y9T ?y9e ?_ ?y9a ?y9b; (case y9F => k_asm); (case y9X => k_asm); (case y9T => k_asm); (case y9a => kernel_rfl!); (case y9b => kernel_rfl!); (case y9e => k_is); k_whole) | (refine' nameX_C ?y9N ?y9c ?y9m ?y9d ?_ ?y9a ?y9b; (case y9a => kernel_rfl!); (case y9b => kernel_rfl!); (case y9N => k_asm); (case y9c => rfl); (case y9m => k_mem); (case y9d => k_asm); k_whole) | (refine' nameX_B ?y9F ?y9X ?y9T ?y9e ?y9v ?y9n ?_ ?y9a ?y9b; (case y9F => k_asm); (case y9X => k_asm); (case y9T => k_asm); (case y9a => kernel_rfl!); (case y9b => kernel_rfl!); (case y9e => k_is); (case y9v => boot_fast); (case y9n => decide); k_whole)))
 k_with "execs cons Return" => with_reducible refine cret ?_
 k_with "newTuple" => (k_here; k_dflt (refine' kup_newTuple (by k_asm) (by k_asm) ?_ (by kmk_size)); intro D'ᵩ h'ᵩ F'ᵩ N'ᵩ l1ᵩ; have l2ᵩ := l1ᵩ; (try k_lt l1ᵩ))
 k_with "k9" => (first | exact rfl | assumption)
 k_with "d9" => (first | exact rmc0 (by assumption) (by decide) | exact rmc 1 (by assumption) (by decide) | exact rmc 2 (by assumption) (by decide) | exact rmc 3 (by assumption) (by decide))
 k_with "u9" => (first | exact rmu0 (by assumption) (by decide) | exact rmu 3 (by assumption) (by decide) | exact rmu 6 (by assumption) (by decide) | exact rmu 9 (by assumption) (by decide) | exact rmu 1 (by assumption) (by decide) | exact rmu 4 (by assumption) (by decide) | exact rmu 7 (by assumption) (by decide))
 k_with "r9" => (first | exact rm0 (by assumption) | exact rm 1 (by assumption) (by decide) | exact rm 2 (by assumption) (by decide) | exact rm 3 (by assumption) (by decide) | exact rm 4 (by assumption) (by decide))
 k_with "b9" => (first | exact BindsTo.of_eq rfl | exact binds_K (by k_in) rfl (by k_is) rfl rfl rfl)
 k_with "c9" => (k_dflt (refine' code_def ?k1 ?k2 ?k3 ?k4 ?k5 ?kA ?kF ?kK ?k6 ?k7 ?k8 ?k9 ?kB ?_ ?c2 ?c3 ?c4 ?c5; (case kA => exact rfl); (case kF => exact rfl); (case kK => k_extra "k9"); (case k1 => k_asm); (case k2 => k_asm); (case k3 => k_asm); (case k4 => k_asm); (case k5 => k_asm); (case k6 => k_is); (case k7 => k_is); (case k8 => k_extra "r9"); (case k9 => k_extra "b9"); (case c5 => decide); (case kB => exact locs rfl); (case c2 => exact rfl); (case c3 => exact rfl); (case c4 => exact rfl); k_whole); intro g'ᵩ L'ᵩ h'ᵩ FG'ᵩ F'ᵩ N'ᵩ B'ᵩ X'ᵩ T'ᵩ; (try dsimp only))
 k_with "i9" => (k_dflt (refine' item_led (by k_asm) (by k_mem) (by omega) (by with_reducible assumption) (by omega) ?_ (by with_unfolding_all rfl); k_whole))
 k_with "j9" => (first | k_dflt (refine' item_tupleT (News.isTup (by k_asm) (by k_mem)) (by decide) (by decide) (by rfl) (by rfl) ?_ (by with_unfolding_all rfl); k_whole) | k_extra "i9")
 k_with "mo" => exact ⟨_, _, _, _, _, _, _, _, ⟨_, _, _, _, _, _, _, _, _, _, _, _, _, _, _, _, _, _, _, _, _, rfl⟩⟩
 k_with "nt" => (first | assumption | exact news_tl (by assumption) | exact news_tl (news_tl (by assumption)) | exact news_tl (news_tl (news_tl (by assumption))) | exact news_tl (news_tl (news_tl (news_tl (by assumption)))) | exact news_tl (news_tl (news_tl (news_tl (news_tl (by assumption))))) | exact news_tl (news_tl (news_tl (news_tl (news_tl (news_tl (by assumption)))))) | exact news_tl (news_tl (news_tl (news_tl (news_tl (news_tl (news_tl (by assumption))))))))
 k_with "subscriptTail Attribute Subscript Constant ref int" => (k_here; k_extra "j9")
 k_with "subscriptTail Name Constant ref int" => (k_here; k_extra "j9")
 k_with "subscriptTail Attribute Name Constant ref int" => (k_here; k_extra "j9")
 k_with "subscriptTail Name Name ref int" => (k_here; k_extra "i9")
 k_with "ite" => first | with_reducible refine ite_tt ?_ | with_reducible refine ite_ff ?_ | (k_closed; k_dflt (first | (with_reducible refine' ite_bp ?y9z ?_; (case y9z => kernel_rfl!)) | (with_reducible refine' ite_bn ?y9z ?_; (case y9z => kernel_rfl!)) | refine ite_pos (by decide) ?_ | refine ite_neg (by decide) ?_)) | (with_reducible refine ite_af (by decide +kernel) ?_) | (with_reducible refine ite_at (by decide +kernel) ?_) | (with_reducible refine ite_dp (by omega) ?_) | (with_reducible refine ite_dn (by omega) ?_) | (with_reducible refine ite_bp (by assumption) ?_) | (with_reducible refine ite_bn (by assumption) ?_)
 k_with "call builtin:len" => (k_here; (with_reducible show wpAny _ _ (call (Value.builtin "len") [Value.ref _]) _ _ _); k_dflt (refine' len_led (by k_asm) (by k_mem) (by with_reducible assumption) (by omega) ?_; k_whole))
 k_with "call ref" => (k_here; (with_reducible show wpAny _ _ (call (Value.ref _) _) _ _ _); refine wpAny_call ?_; k_extra "c9")
 k_with "fold9" => ((try (refine letf (by assumption) ?_; intro m9ᵩ F9ᵩ)); (try (refine letn (by assumption) ?_; intro w9ᵩ N9ᵩ)))
 k_with "subscriptTail" => (k_here; (with_reducible show wpAny _ _ (subscriptTail _ _ (Value.ref _) (Value.int _ _)) _ _ _); k_extra "i9")
 k_with "call ref" => (k_here; (with_reducible show wpAny _ _ (call (Value.ref 433) _) _ _ _); refine StopG.out ?_)
 trivial
namespace EK.E_step_c
theorem core : @P w mean mg mb dp un gd cn cs a ccd cl outer A₀ base h₀ L m s Q E := by
  intro own0 x dx rg l md pl rs q news vs n B F X T hk N hM ho hl hR hi hz hD hd hu hret
  obtain ⟨o, gs, kk, fl, own, rfl, hO, hI, hF, hC, hof, hdr, hsub⟩ := hM
  obtain ⟨i, order, steps, over, regs, fk⟩ := q
  dsimp only at *
  subst ho
  obtain ⟨q1, q2, q3, q4, q5, q6, q7, q8, q9, t1, t2, t3, t4, t5, t6, t7, t8, t9, ta, to, ts, rfl⟩ := hO
  have hx := hC.inst
  have hl' := hsub _ hl
  have hlen := hR.length
  have hi' : i < rs.length := hi
  obtain ⟨v, hv, hrow⟩ := hR.get hi'
  have hv' : vs[((i : Nat) : Int).toNat]? = some v := hv
  k_steps
  refine StopG.mk ?_
  rename News _ _ _ _ => N9
  k_dflt (refine' dorow_c  own0 x dx rg l md pl rs { i := i + 1, order := order, steps := steps, over := false, regs := regs, fk := fk } _ v rs[i] ?B ?F ?X ?T ?k N9 ⟨_, gs, kk, fl, own, rfl, ⟨_, _, _, _, _, _, _, _, _, _, _, _, _, _, _, _, _, _, _, _, _, rfl⟩, hI, hF, hC, hof, hdr, hsub⟩ rfl hrow hD ?d ?u ?_; (case B => k_asm); (case F => k_asm); (case X => k_asm); (case T => k_asm); (case k => first | exact rfl | assumption); (case d => first | exact rmc0 (by assumption) (by decide) | exact rmc 1 (by assumption) (by decide) | exact rmc 2 (by assumption) (by decide) | exact rmc 3 (by assumption) (by decide)); (case u => first | exact rmu0 (by assumption) (by decide) | exact rmu 3 (by assumption) (by decide) | exact rmu 6 (by assumption) (by decide) | exact rmu 9 (by assumption) (by decide) | exact rmu 1 (by assumption) (by decide) | exact rmu 4 (by assumption) (by decide) | exact rmu 7 (by assumption) (by decide)))
  intro news' h' tks F' N' hM'
  k_steps
  exact hret _ _ _ (by assumption) (by (first | assumption | exact news_tl (by assumption) | exact news_tl (news_tl (by assumption)) | exact news_tl (news_tl (news_tl (by assumption))) | exact news_tl (news_tl (news_tl (news_tl (by assumption)))) | exact news_tl (news_tl (news_tl (news_tl (news_tl (by assumption))))) | exact news_tl (news_tl (news_tl (news_tl (news_tl (news_tl (by assumption)))))) | exact news_tl (news_tl (news_tl (news_tl (news_tl (news_tl (news_tl (by assumption))))))))) hM'
end EK.E_step_c
theorem EK.E_step_c.all : ∀ c, EK.E_step_c.Pc c := by
  have h : EK.E_step_c.Pc kc := by with_unfolding_all exact EK.E_step_c.core
  rw [EK.eqk35] at h
  exact first_all (r := EK.lst36) h
theorem EK.eqk36 : kc = first EK.lst36 := EK.eqk35.trans (first_skip EK.E_step_c.all)
theorem step_c {w : World} {mean : ExcName → Option Value} {mg mb : Str → Option Value} {dp un : Nat} {gd : Option (List Code)} {cn : Str} {cs : Scope} {a : Addr} {ccd : Value} {cl : List (Str × Addr)} {outer : List Env} {A₀ : Around} {base h₀ : Heap} {L : Addr} {m : Str → Option Value} {s : Shared} {Q E : Value → Shared → Prop} (own0 : List (Addr × Obj)) (x dx rg l md pl : Addr) (rs : List TR) (q : MS) (news : List (Addr × Obj)) (vs : List Value) (n : Nat)
    (B : Below A₀ base outer h₀) (F : Fr h₀ L s.heap m) (X : (hd.heap_1 w.params).In h₀) (T : Top viewP LZ mean mg mb h₀) (hk : cs.kind = .function)
    (N : News h₀ L s.heap news) (hM : MAt w own0 x dx rg l md pl rs q news) (ho : q.over = false) (hl : (l, listOf vs.toArray n) ∈ own0) (hR : RowsIn own0 vs rs) (hi : q.i < rs.length) (hz : rs.length ≤ 64) (hD : DoOk rs rs[q.i] { q with i := q.i + 1 })
    (hd : dp + 50 < recursionLimit) (hu : un + 500 < cLine)
    (hret : ∀ (news' : List (Addr × Obj)) (h' : Heap) (tks : Nat), Fr h₀ L h' m → News h₀ L h' news' → MAt w own0 x dx rg l md pl rs (mdo rs rs[q.i] { q with i := q.i + 1 }) news' → Q .none { s with heap := h', toks := tks }) : wpAny (model PySem.Challenge.rw_pf0284_01.row.prog w) (ktrTop dp un gd cn cs L a ccd cl outer) (call (.ref 440) [.ref x]) Q E s := by
  with_unfolding_all exact EK.E_step_c.all ⟨w, mean, mg, mb, dp, un, gd, cn, cs, a, ccd, cl, outer, A₀, base, h₀, L, m, s, Q, E⟩ own0 x dx rg l md pl rs q news vs n B F X T hk N hM ho hl hR hi hz hD hd hu hret
end
section
theorem kw37 : True := by
 w_top off
 k_with_none
 k_with "ml" => first | assumption | (refine memsub (by assumption) ?_; first | assumption | exact List.Mem.head _ | (refine List.Mem.tail _ ?_; first | exact List.Mem.head _ | (refine List.Mem.tail _ ?_; first | exact List.Mem.head _ | (refine List.Mem.tail _ ?_; first | exact List.Mem.head _ | (refine List.Mem.tail _ ?_; first | assumption) | assumption) | assumption) | assumption) | assumption)
 k_with "k_mem" => first | exact List.Mem.head _ | (refine List.Mem.tail _ ?_; k_extra "k_mem") | k_extra "ml"
 k_with "ks" => repeat' (first | (k_unfold; (try dsimp only)) | (k_end; kc_close) | (walk1; (try (first | (with_reducible show wpAny _ _ (exec _ _) _ _ _; (try dsimp only); (refine letq ?_; intro qk9ᵩ); (try with_reducible refine wpst ?_; intro tk9ᵩ); (try walk_at "fold9")) | (with_reducible show wpAny _ _ (execs _ _) _ _ _; k_fold)))) | (dsimp only; walk1) | (leave1; walk_say "STEP leave1"; try dsimp only) | (k_unmd; k_unfold; (try dsimp only)) | fail "no step")
 k_with "in9" => first | with_reducible assumption | (refine' Frag.In.keeps ?y9X (Fr.keep ?y9F); (case y9F => k_asm); (case y9X => k_asm))
 k_with "eval Constant str" => with_reducible refine kstr ?_
 k_with "eval Constant int" => with_reducible refine kint ?_
 k_with "oc" => first | (apply c1; assumption) | (apply c2; assumption) | (apply l2; assumption) | (apply c3; assumption) | (apply c4; assumption) | (apply c5; assumption) | (apply c6; assumption) | (apply c7; assumption) | (apply c8; assumption) | (apply c9; assumption) | (apply c10; assumption) | (apply c11; assumption) | (apply c12; assumption) | (apply c13; assumption) | (apply c14; assumption) | (apply c15; assumption) | (apply c16; assumption)
 k_with "od" => first | (apply c1; assumption) | (apply c2; assumption) | (apply l2; assumption) | (apply c3; assumption) | (apply c4; assumption) | (apply c5; assumption) | (apply c6; assumption) | (apply c7; assumption)
 k_with "on" => first | (apply zsy; assumption) | (apply zgt; first | assumption | k_extra "oc") | (apply zlt; first | assumption | k_extra "oc") | (apply gtt; assumption; first | assumption | k_extra "od") | (apply ltt; assumption; first | assumption | k_extra "od")
 k_with "oi" => first | exact nn0 | exact nn0' | exact z63 (by assumption) (by assumption) | exact z63b (by assumption) (by assumption) | exact n63 (by assumption) (by assumption) | exact n63b (by assumption) (by assumption) | exact z63c (by assumption) (by assumption) | exact z63d (by assumption) (by assumption) | exact nlt (by assumption) | exact n62 (by assumption) | exact n62b (by assumption) | exact tnl (by assumption) (by assumption) | exact sub1 (by assumption) | exact sub2 (by assumption) (by assumption) | decide | exact Int.lt_of_lt_of_le (by assumption) (by decide) | exact Nat.le_trans (by assumption) (by decide) | exact ul (by assumption) (by decide) | exact up0 (by assumption) (by assumption) | k_extra "oc"
 k_with "om" => first | (k_whole; with_reducible (first | assumption | (show @Ne Nat _ _; k_extra "on") | (show @Eq Nat _ _; first | exact tn1 (by assumption) | exact z0i) | ((first | show @LT.lt Int _ _ _ | show @LE.le Int _ _ _ | show @LT.lt Nat _ _ _ | show @LE.le Nat _ _ _); k_extra "oi")))
 k_with "execs cons If" => (k_here; (with_reducible show wpAny _ _ (execs (PySem.Stmt.If (PySem.Expr.Compare (PySem.Expr.Name _ _) [.Eq] [PySem.Expr.Constant (.str _) _ _] _) _ _ _ :: _) _) _ _ _); first | ((with_reducible show wpAny _ _ (execs (PySem.Stmt.If _ _ [] _ :: _) _) _ _ _); k_dflt (refine' cif_f ?F ?v ?x ?c ?k ?d ?_; (case F => k_asm); (case x => kernel_rfl!); (case k => kernel_rfl!); (case d => kernel_rfl!); (case v => rfl); (case c => first | with_reducible assumption | kernel_rfl!); k_whole)) | ((with_reducible show wpAny _ _ (execs [PySem.Stmt.If _ _ (_ :: _) _] _) _ _ _); k_dflt (refine' cif_g ?F ?v ?x ?c ?k ?d ?_; (case F => k_asm); (case x => kernel_rfl!); (case k => kernel_rfl!); (case d => kernel_rfl!); (case v => rfl); (case c => first | with_reducible assumption | kernel_rfl!); k_whole)) | ((with_reducible show wpAny _ _ (execs [PySem.Stmt.If _ _ _ _] _) _ _ _); k_dflt (refine' cif_t ?F ?v ?x ?c ?k ?d ?_; (case F => k_asm); (case x => kernel_rfl!); (case k => kernel_rfl!); (case d => kernel_rfl!); (case v => rfl); (case c => first | with_reducible assumption | kernel_rfl!); k_whole)) | k_dflt (refine' cif_r ?F ?v ?x ?c ?k ?d ?_; (case F => k_asm); (case x => kernel_rfl!); (case k => kernel_rfl!); (case d => kernel_rfl!); (case v => rfl); (case c => first | with_reducible assumption | kernel_rfl!); k_whole))
 k_with "callWith" => ((with_reducible show wpAny _ _ (callWith _ (Value.builtin _) (_ :: _) (backTo _ (starEach (_ :: _) _)) []) _ _ _); refine callWith_method1 ?_)
 k_with "callWith ref" => (k_here; k_dflt (first | (refine' callWith_K ?y9k ?y9l ?_; (case y9k => k_asm); (case y9l => k_is); k_whole) | (refine' callWith_K0 ?y9k ?y9l ?_; (case y9k => k_in); (case y9l => k_is); k_whole)))
 k_with "eval Name" => (k_here; (fail_if_success (with_reducible show wpAny _ _ (eval (PySem.Expr.Name _ _) (compEnvC _ _ _ _)) _ _ _)); k_dflt (first | (refine' nameX_L ?y9F ?y9v ?_ ?y9a ?y9b ?y9d; (case y9F => k_asm); (case y9a => kernel_rfl!); (case y9b => kernel_rfl!); (case y9d => kernel_rfl!); (case y9v => rfl); k_whole) | (refine' nameX_K ?y9F ?y9X ?y9T ?y9e ?_ ?y9a ?y9b; (case y9F => k_asm); (case y9X => k_asm); (case y9T => k_asm); (case y9a => kernel_rfl!); (case y9b => kernel_rfl!); (case y9e => k_is); k_whole) | (refine' nameX_C ?y9N ?y9c ?y9m ?y9d ?_ ?y9a ?y9b; (case y9a => kernel_rfl!); (case y9b => kernel_rfl!); (case y9N => k_asm); (case y9c => rfl); (case y9m => k_mem); (case y9d => k_asm); k_whole) | (refine' nameX_B ?y9F ?y9X ?y9T ?y9e ?y9v ?y9n ?_ ?y9a ?y9b; (case y9F => k_asm); (case y9X => k_asm); (case y9T => k_asm); (case y9a => kernel_rfl!); (case y9b => kernel_rfl!); (case y9e => k_is); (case y9v => boot_fast); (case y9n => decide); k_whole)))
 k_with "execs cons Return" => with_reducible refine cret ?_
 k_with "newTuple" => (k_here; k_dflt (refine' kup_newTuple (by k_asm) (by k_asm) ?_ (by kmk_size)); intro D'ᵩ h'ᵩ F'ᵩ N'ᵩ l1ᵩ; have l2ᵩ := l1ᵩ; (try k_lt l1ᵩ))
 k_with "k9" => (first | exact rfl | assumption)
 k_with "d9" => (first | exact rmc0 (by assumption) (by decide) | exact rmc 1 (by assumption) (by decide) | exact rmc 2 (by assumption) (by decide) | exact rmc 3 (by assumption) (by decide))
 k_with "u9" => (first | exact rmu0 (by assumption) (by decide) | exact rmu 3 (by assumption) (by decide) | exact rmu 6 (by assumption) (by decide) | exact rmu 9 (by assumption) (by decide) | exact rmu 1 (by assumption) (by decide) | exact rmu 4 (by assumption) (by decide) | exact rmu 7 (by assumption) (by decide))
 k_with "r9" => (first | exact rm0 (by assumption) | exact rm 1 (by assumption) (by decide) | exact rm 2 (by assumption) (by decide) | exact rm 3 (by assumption) (by decide) | exact rm 4 (by assumption) (by decide))
 k_with "b9" => (first | exact BindsTo.of_eq rfl | exact binds_K (by k_in) rfl (by k_is) rfl rfl rfl)
 k_with "c9" => (k_dflt (refine' code_def ?k1 ?k2 ?k3 ?k4 ?k5 ?kA ?kF ?kK ?k6 ?k7 ?k8 ?k9 ?kB ?_ ?c2 ?c3 ?c4 ?c5; (case kA => exact rfl); (case kF => exact rfl); (case kK => k_extra "k9"); (case k1 => k_asm); (case k2 => k_asm); (case k3 => k_asm); (case k4 => k_asm); (case k5 => k_asm); (case k6 => k_is); (case k7 => k_is); (case k8 => k_extra "r9"); (case k9 => k_extra "b9"); (case c5 => decide); (case kB => exact locs rfl); (case c2 => exact rfl); (case c3 => exact rfl); (case c4 => exact rfl); k_whole); intro g'ᵩ L'ᵩ h'ᵩ FG'ᵩ F'ᵩ N'ᵩ B'ᵩ X'ᵩ T'ᵩ; (try dsimp only))
 k_with "i9" => (k_dflt (refine' item_led (by k_asm) (by k_mem) (by omega) (by with_reducible assumption) (by omega) ?_ (by with_unfolding_all rfl); k_whole))
 k_with "j9" => (first | k_dflt (refine' item_tupleT (News.isTup (by k_asm) (by k_mem)) (by decide) (by decide) (by rfl) (by rfl) ?_ (by with_unfolding_all rfl); k_whole) | k_extra "i9")
 k_with "mo" => exact ⟨_, _, _, _, _, _, _, _, ⟨_, _, _, _, _, _, _, _, _, _, _, _, _, _, _, _, _, _, _, _, _, rfl⟩⟩
 k_with "nt" => (first | assumption | exact news_tl (by assumption) | exact news_tl (news_tl (by assumption)) | exact news_tl (news_tl (news_tl (by assumption))) | exact news_tl (news_tl (news_tl (news_tl (by assumption)))) | exact news_tl (news_tl (news_tl (news_tl (news_tl (by assumption))))) | exact news_tl (news_tl (news_tl (news_tl (news_tl (news_tl (by assumption)))))) | exact news_tl (news_tl (news_tl (news_tl (news_tl (news_tl (news_tl (by assumption))))))))
 k_with "subscriptTail Attribute Subscript Constant ref int" => (k_here; k_extra "j9")
 k_with "subscriptTail Name Constant ref int" => (k_here; k_extra "j9")
 k_with "subscriptTail Attribute Name Constant ref int" => (k_here; k_extra "j9")
 k_with "subscriptTail Name Name ref int" => (k_here; k_extra "i9")
 k_with "ite" => first | with_reducible refine ite_tt ?_ | with_reducible refine ite_ff ?_ | (k_closed; k_dflt (first | (with_reducible refine' ite_bp ?y9z ?_; (case y9z => kernel_rfl!)) | (with_reducible refine' ite_bn ?y9z ?_; (case y9z => kernel_rfl!)) | refine ite_pos (by decide) ?_ | refine ite_neg (by decide) ?_)) | (with_reducible refine ite_af (by decide +kernel) ?_) | (with_reducible refine ite_at (by decide +kernel) ?_) | (with_reducible refine ite_dp (by omega) ?_) | (with_reducible refine ite_dn (by omega) ?_) | (with_reducible refine ite_bp (by assumption) ?_) | (with_reducible refine ite_bn (by assumption) ?_)
 k_with "call builtin:len" => (k_here; (with_reducible show wpAny _ _ (call (Value.builtin "len") [Value.ref _]) _ _ _); k_dflt (refine' len_led (by k_asm) (by k_mem) (by with_reducible assumption) (by omega) ?_; k_whole))
 k_with "call ref" => (k_here; (with_reducible show wpAny _ _ (call (Value.ref _) _) _ _ _); refine wpAny_call ?_; k_extra "c9")
 k_with "fold9" => ((try (refine letf (by assumption) ?_; intro m9ᵩ F9ᵩ)); (try (refine letn (by assumption) ?_; intro w9ᵩ N9ᵩ)))
 k_with "subscriptTail" => (k_here; (with_reducible show wpAny _ _ (subscriptTail _ _ (Value.ref _) (Value.int _ _)) _ _ _); k_extra "i9")
 k_with "call ref" => (k_here; (with_reducible show wpAny _ _ (call (Value.ref _) _) _ _ _); k_dflt (refine' call_cls (by k_asm) (by k_asm) (by k_asm) (by k_is) (by k_is) (by k_is) ?_; k_whole); intro x'ᵩ d'ᵩ h'ᵩ F'ᵩ N'ᵩ l1ᵩ l2ᵩ; (try k_lt l1ᵩ); (try k_lt2 l2ᵩ); k_extra "c9")
 k_with "call ref" => (k_here; (with_reducible show wpAny _ _ (call (Value.ref 440) _) _ _ _); refine StopG.out ?_)
 k_with "exec While" => (k_here; (with_reducible show wpAny _ _ (exec (PySem.Stmt.While _ _ _ _) _) _ _ _); refine StopG.out ?_)
 trivial
namespace EK.E_run_c
theorem core : @P w mean mg mb dp un gd cn cs a ccd cl outer A₀ base h₀ L m s Q E := by
  intro own0 x dx rg l md pl rs news vs n t B F X T hk N hM hl hR W hd hu hret
  have hinv := inv0 W
  k_steps
  refine StopG.mk ?_
  rename News _ _ _ _ => N9
  rename Fr _ _ _ _ => F9
  refine' While_inv2 (fun k m₁ nw => m₁ = _ ∧ ∃ q, MAt w own0 x dx rg l md pl rs q nw ∧ INV rs (Mine.run none rs S0) q ∧ meas rs q = k) F9 N9 ⟨rfl, q0, hM, hinv, rfl⟩ ?_
  rintro k m₁ nw h₁ tk₁ F1 N1 ⟨rfl, q, hM1, hI1, rfl⟩
  clear F9 N9
  have hM2 := hM1
  obtain ⟨o, gs, kk, fl, own, rfl, hO, hI, hF, hC, hof, hdr, hsub⟩ := hM1
  have hx := hC.inst
  rcases hI1 with ⟨ho, S, hg⟩ | ⟨ho, hrel, hfl, hfn⟩
  · have hs : q.steps < 90 := by
      have h1 := hg.rel.n
      have h2 := hg.le
      have h3 := hg.lt
      have h4 := W.le
      omega
    have hdo := step_ok W hg
    obtain ⟨hinv', hms⟩ := step_inv W ho hg
    rw [ho] at hO
    obtain ⟨q1, q2, q3, q4, q5, q6, q7, q8, q9, t1, t2, t3, t4, t5, t6, t7, t8, t9, ta, to, ts, rfl⟩ := hO
    k_steps
    refine StopG.mk ?_
    k_here
    k_dflt (refine' step_c  own0 x dx rg l md pl rs q _ vs n ?B ?F ?X ?T ?k ?N hM2 ho hl hR hg.lt ?z hdo ?d ?u ?_; (case B => k_asm); (case F => k_asm); (case X => k_asm); (case T => k_asm); (case k => first | exact rfl | assumption); (case N => k_asm); (case z => have := W.le; omega); (case d => first | exact rmc0 (by assumption) (by decide) | exact rmc 1 (by assumption) (by decide) | exact rmc 2 (by assumption) (by decide) | exact rmc 3 (by assumption) (by decide)); (case u => first | exact rmu0 (by assumption) (by decide) | exact rmu 3 (by assumption) (by decide) | exact rmu 6 (by assumption) (by decide) | exact rmu 9 (by assumption) (by decide) | exact rmu 1 (by assumption) (by decide) | exact rmu 4 (by assumption) (by decide) | exact rmu 7 (by assumption) (by decide)))
    intro news' h' tks' F' N' hM'
    k_steps
    exact ⟨_, _, _, news', _, rfl, by assumption, by (first | assumption | exact news_tl (by assumption) | exact news_tl (news_tl (by assumption)) | exact news_tl (news_tl (news_tl (by assumption))) | exact news_tl (news_tl (news_tl (news_tl (by assumption)))) | exact news_tl (news_tl (news_tl (news_tl (news_tl (by assumption))))) | exact news_tl (news_tl (news_tl (news_tl (news_tl (news_tl (by assumption)))))) | exact news_tl (news_tl (news_tl (news_tl (news_tl (news_tl (news_tl (by assumption)))))))), hms, rfl, _, hM', hinv', rfl⟩
  · have hlq : q.regs.length = 16 := by rw [hrel.r, List.length_append, hfl]; rfl
    rw [ho] at hO
    have hMO : MO o rg := ⟨_, _, _, _, _, _, _, _, hO⟩
    obtain ⟨q1, q2, q3, q4, q5, q6, q7, q8, q9, t1, t2, t3, t4, t5, t6, t7, t8, t9, ta, to, ts, rfl⟩ := hO
    have hs : q.steps < 90 := by
      have h1 := hrel.n
      have h4 := W.le
      omega
    k_steps
    rename News _ _ _ _ => N7
    rename Fr _ _ _ _ => F7
    rw [hrel.r] at hI
    rw [← hrel.o, ← hrel.n] at hret
    exact hret _ _ _ _ gs kk own _ _ F7 N7 ⟨_, _, _, _, _, _, _, _, _, _, _, _, _, _, _, _, rfl⟩ hMO hI hfl hx hsub
end EK.E_run_c
theorem EK.E_run_c.all : ∀ c, EK.E_run_c.Pc c := by
  have h : EK.E_run_c.Pc kc := by with_unfolding_all exact EK.E_run_c.core
  rw [EK.eqk36] at h
  exact first_all (r := EK.lst37) h
theorem EK.eqk37 : kc = first EK.lst37 := EK.eqk36.trans (first_skip EK.E_run_c.all)
theorem run_c {w : World} {mean : ExcName → Option Value} {mg mb : Str → Option Value} {dp un : Nat} {gd : Option (List Code)} {cn : Str} {cs : Scope} {a : Addr} {ccd : Value} {cl : List (Str × Addr)} {outer : List Env} {A₀ : Around} {base h₀ : Heap} {L : Addr} {m : Str → Option Value} {s : Shared} {Q E : Value → Shared → Prop} (own0 : List (Addr × Obj)) (x dx rg l md pl : Addr) (rs : List TR) (news : List (Addr × Obj)) (vs : List Value) (n : Nat) (t : Tok)
    (B : Below A₀ base outer h₀) (F : Fr h₀ L s.heap m) (X : (hd.heap_1 w.params).In h₀) (T : Top viewP LZ mean mg mb h₀) (hk : cs.kind = .function)
    (N : News h₀ L s.heap news) (hM : MAt w own0 x dx rg l md pl rs q0 news) (hl : (l, listOf vs.toArray n) ∈ own0) (hR : RowsIn own0 vs rs) (W : WF rs)
    (hd : dp + 70 < recursionLimit) (hu : un + 700 < cLine)
    (hret : ∀ (e ed : Addr) (od o : Obj) (gs : List Value) (kk : Nat) (own : List (Addr × Obj)) (h' : Heap) (tks : Nat), Fr h₀ L h' m → News h₀ L h' ((e, instObj 210 ed) :: (ed, od) :: (dx, o) :: (rg, listOf gs.toArray kk) :: own) →
      OutD od (Mine.run none rs S0).o (Mine.run none rs S0).n → MO o rg → IntsAre gs ((Mine.run none rs S0).r ++ tail12) → (Mine.run none rs S0).r.length = 4 → (x, instObj 450 dx) ∈ own → (∀ p ∈ own0, p ∈ own) → Q (.ref e) { s with heap := h', toks := tks }) : wpAny (model PySem.Challenge.rw_pf0284_01.row.prog w) (ktrTop dp un gd cn cs L a ccd cl outer) (call (.ref 447) [.ref x, .int 90 t]) Q E s := by
  with_unfolding_all exact EK.E_run_c.all ⟨w, mean, mg, mb, dp, un, gd, cn, cs, a, ccd, cl, outer, A₀, base, h₀, L, m, s, Q, E⟩ own0 x dx rg l md pl rs news vs n t B F X T hk N hM hl hR W hd hu hret
end
end
section
theorem pgo_drop {rs : List TR} {fin : PS} {i : Nat} {S : PS} (h : PGo rs fin i S) : run none ((rs[i]'h.lt) :: rs.drop (i + 1)) S = fin := by
  rw [← List.drop_eq_getElem_cons h.lt]
  exact h.run
section
variable {rs : List TR} {fin : PS} {i : Nat} {S : PS}
theorem pgo_mark {o : Bool} {n : Int} (W : WF rs) (h : PGo rs fin i S) (e : rs[i]'h.lt = .mark o n) : PGo rs fin (i + 1) (orderTo o n S) := by
  have hr := pgo_drop h
  rw [e] at hr
  exact ⟨er_next W.er h.lt (by rw [e]; simp), h.bnd.up (Nat.le_succ _), hr⟩
theorem kw38 : True := by
 w_top off
 k_with_none
 k_with "ml" => first | assumption | (refine memsub (by assumption) ?_; first | assumption | exact List.Mem.head _ | (refine List.Mem.tail _ ?_; first | exact List.Mem.head _ | (refine List.Mem.tail _ ?_; first | exact List.Mem.head _ | (refine List.Mem.tail _ ?_; first | exact List.Mem.head _ | (refine List.Mem.tail _ ?_; first | assumption) | assumption) | assumption) | assumption) | assumption)
 k_with "k_mem" => first | exact List.Mem.head _ | (refine List.Mem.tail _ ?_; k_extra "k_mem") | k_extra "ml"
 k_with "ks" => repeat' (first | (k_unfold; (try dsimp only)) | (k_end; kc_close) | (walk1; (try (first | (with_reducible show wpAny _ _ (exec _ _) _ _ _; (try dsimp only); (refine letq ?_; intro qk9ᵩ); (try with_reducible refine wpst ?_; intro tk9ᵩ); (try walk_at "fold9")) | (with_reducible show wpAny _ _ (execs _ _) _ _ _; k_fold)))) | (dsimp only; walk1) | (leave1; walk_say "STEP leave1"; try dsimp only) | (k_unmd; k_unfold; (try dsimp only)) | fail "no step")
 k_with "in9" => first | with_reducible assumption | (refine' Frag.In.keeps ?y9X (Fr.keep ?y9F); (case y9F => k_asm); (case y9X => k_asm))
 k_with "eval Constant str" => with_reducible refine kstr ?_
 k_with "eval Constant int" => with_reducible refine kint ?_
 k_with "oc" => first | (apply c1; assumption) | (apply c2; assumption) | (apply l2; assumption) | (apply c3; assumption) | (apply c4; assumption) | (apply c5; assumption) | (apply c6; assumption) | (apply c7; assumption) | (apply c8; assumption) | (apply c9; assumption) | (apply c10; assumption) | (apply c11; assumption) | (apply c12; assumption) | (apply c13; assumption) | (apply c14; assumption) | (apply c15; assumption) | (apply c16; assumption)
 k_with "od" => first | (apply c1; assumption) | (apply c2; assumption) | (apply l2; assumption) | (apply c3; assumption) | (apply c4; assumption) | (apply c5; assumption) | (apply c6; assumption) | (apply c7; assumption)
 k_with "on" => first | (apply zsy; assumption) | (apply zgt; first | assumption | k_extra "oc") | (apply zlt; first | assumption | k_extra "oc") | (apply gtt; assumption; first | assumption | k_extra "od") | (apply ltt; assumption; first | assumption | k_extra "od")
 k_with "oi" => first | exact nn0 | exact nn0' | exact z63 (by assumption) (by assumption) | exact z63b (by assumption) (by assumption) | exact n63 (by assumption) (by assumption) | exact n63b (by assumption) (by assumption) | exact z63c (by assumption) (by assumption) | exact z63d (by assumption) (by assumption) | exact nlt (by assumption) | exact n62 (by assumption) | exact n62b (by assumption) | exact tnl (by assumption) (by assumption) | exact sub1 (by assumption) | exact sub2 (by assumption) (by assumption) | decide | exact Int.lt_of_lt_of_le (by assumption) (by decide) | exact Nat.le_trans (by assumption) (by decide) | exact ul (by assumption) (by decide) | exact up0 (by assumption) (by assumption) | k_extra "oc"
 k_with "om" => first | (k_whole; with_reducible (first | assumption | (show @Ne Nat _ _; k_extra "on") | (show @Eq Nat _ _; first | exact tn1 (by assumption) | exact z0i) | ((first | show @LT.lt Int _ _ _ | show @LE.le Int _ _ _ | show @LT.lt Nat _ _ _ | show @LE.le Nat _ _ _); k_extra "oi")))
 k_with "execs cons If" => (k_here; (with_reducible show wpAny _ _ (execs (PySem.Stmt.If (PySem.Expr.Compare (PySem.Expr.Name _ _) [.Eq] [PySem.Expr.Constant (.str _) _ _] _) _ _ _ :: _) _) _ _ _); first | ((with_reducible show wpAny _ _ (execs (PySem.Stmt.If _ _ [] _ :: _) _) _ _ _); k_dflt (refine' cif_f ?F ?v ?x ?c ?k ?d ?_; (case F => k_asm); (case x => kernel_rfl!); (case k => kernel_rfl!); (case d => kernel_rfl!); (case v => rfl); (case c => first | with_reducible assumption | kernel_rfl!); k_whole)) | ((with_reducible show wpAny _ _ (execs [PySem.Stmt.If _ _ (_ :: _) _] _) _ _ _); k_dflt (refine' cif_g ?F ?v ?x ?c ?k ?d ?_; (case F => k_asm); (case x => kernel_rfl!); (case k => kernel_rfl!); (case d => kernel_rfl!); (case v => rfl); (case c => first | with_reducible assumption | kernel_rfl!); k_whole)) | ((with_reducible show wpAny _ _ (execs [PySem.Stmt.If _ _ _ _] _) _ _ _); k_dflt (refine' cif_t ?F ?v ?x ?c ?k ?d ?_; (case F => k_asm); (case x => kernel_rfl!); (case k => kernel_rfl!); (case d => kernel_rfl!); (case v => rfl); (case c => first | with_reducible assumption | kernel_rfl!); k_whole)) | k_dflt (refine' cif_r ?F ?v ?x ?c ?k ?d ?_; (case F => k_asm); (case x => kernel_rfl!); (case k => kernel_rfl!); (case d => kernel_rfl!); (case v => rfl); (case c => first | with_reducible assumption | kernel_rfl!); k_whole))
 k_with "callWith" => ((with_reducible show wpAny _ _ (callWith _ (Value.builtin _) (_ :: _) (backTo _ (starEach (_ :: _) _)) []) _ _ _); refine callWith_method1 ?_)
 k_with "callWith ref" => (k_here; k_dflt (first | (refine' callWith_K ?y9k ?y9l ?_; (case y9k => k_asm); (case y9l => k_is); k_whole) | (refine' callWith_K0 ?y9k ?y9l ?_; (case y9k => k_in); (case y9l => k_is); k_whole)))
 k_with "eval Name" => (k_here; (fail_if_success (with_reducible show wpAny _ _ (eval (PySem.Expr.Name _ _) (compEnvC _ _ _ _)) _ _ _)); k_dflt (first | (refine' nameX_L ?y9F ?y9v ?_ ?y9a ?y9b ?y9d; (case y9F => k_asm); (case y9a => kernel_rfl!); (case y9b => kernel_rfl!); (case y9d => kernel_rfl!); (case y9v => rfl); k_whole) | (refine' nameX_K ?y9F ?y9X ?y9T ?y9e ?_ ?y9a ?y9b; (case y9F => k_asm); (case y9X => k_asm); (case y9T => k_asm); (case y9a => kernel_rfl!); (case y9b => kernel_rfl!); (case y9e => k_is); k_whole) | (refine' nameX_C ?y9N ?y9c ?y9m ?y9d ?_ ?y9a ?y9b; (case y9a => kernel_rfl!); (case y9b => kernel_rfl!); (case y9N => k_asm); (case y9c => rfl); (case y9m => k_mem); (case y9d => k_asm); k_whole) | (refine' nameX_B ?y9F ?y9X ?y9T ?y9e ?y9v ?y9n ?_ ?y9a ?y9b; (case y9F => k_asm); (case y9X => k_asm); (case y9T => k_asm); (case y9a => kernel_rfl!); (case y9b => kernel_rfl!); (case y9e => k_is); (case y9v => boot_fast); (case y9n => decide); k_whole)))
 k_with "execs cons Return" => with_reducible refine cret ?_
 k_with "newTuple" => (k_here; k_dflt (refine' kup_newTuple (by k_asm) (by k_asm) ?_ (by kmk_size)); intro D'ᵩ h'ᵩ F'ᵩ N'ᵩ l1ᵩ; have l2ᵩ := l1ᵩ; (try k_lt l1ᵩ))
 k_with "k9" => (first | exact rfl | assumption)
 k_with "d9" => (first | exact rmc0 (by assumption) (by decide) | exact rmc 1 (by assumption) (by decide) | exact rmc 2 (by assumption) (by decide) | exact rmc 3 (by assumption) (by decide))
 k_with "u9" => (first | exact rmu0 (by assumption) (by decide) | exact rmu 3 (by assumption) (by decide) | exact rmu 6 (by assumption) (by decide) | exact rmu 9 (by assumption) (by decide) | exact rmu 1 (by assumption) (by decide) | exact rmu 4 (by assumption) (by decide) | exact rmu 7 (by assumption) (by decide))
 k_with "r9" => (first | exact rm0 (by assumption) | exact rm 1 (by assumption) (by decide) | exact rm 2 (by assumption) (by decide) | exact rm 3 (by assumption) (by decide) | exact rm 4 (by assumption) (by decide))
 k_with "b9" => (first | exact BindsTo.of_eq rfl | exact binds_K (by k_in) rfl (by k_is) rfl rfl rfl)
 k_with "c9" => (k_dflt (refine' code_def ?k1 ?k2 ?k3 ?k4 ?k5 ?kA ?kF ?kK ?k6 ?k7 ?k8 ?k9 ?kB ?_ ?c2 ?c3 ?c4 ?c5; (case kA => exact rfl); (case kF => exact rfl); (case kK => k_extra "k9"); (case k1 => k_asm); (case k2 => k_asm); (case k3 => k_asm); (case k4 => k_asm); (case k5 => k_asm); (case k6 => k_is); (case k7 => k_is); (case k8 => k_extra "r9"); (case k9 => k_extra "b9"); (case c5 => decide); (case kB => exact locs rfl); (case c2 => exact rfl); (case c3 => exact rfl); (case c4 => exact rfl); k_whole); intro g'ᵩ L'ᵩ h'ᵩ FG'ᵩ F'ᵩ N'ᵩ B'ᵩ X'ᵩ T'ᵩ; (try dsimp only))
 k_with "i9" => (k_dflt (refine' item_led (by k_asm) (by k_mem) (by omega) (by with_reducible assumption) (by omega) ?_ (by with_unfolding_all rfl); k_whole))
 k_with "j9" => (first | k_dflt (refine' item_tupleT (News.isTup (by k_asm) (by k_mem)) (by decide) (by decide) (by rfl) (by rfl) ?_ (by with_unfolding_all rfl); k_whole) | k_extra "i9")
 k_with "mo" => exact ⟨_, _, _, _, _, _, _, _, ⟨_, _, _, _, _, _, _, _, _, _, _, _, _, _, _, _, _, _, _, _, _, rfl⟩⟩
 k_with "nt" => (first | assumption | exact news_tl (by assumption) | exact news_tl (news_tl (by assumption)) | exact news_tl (news_tl (news_tl (by assumption))) | exact news_tl (news_tl (news_tl (news_tl (by assumption)))) | exact news_tl (news_tl (news_tl (news_tl (news_tl (by assumption))))) | exact news_tl (news_tl (news_tl (news_tl (news_tl (news_tl (by assumption)))))) | exact news_tl (news_tl (news_tl (news_tl (news_tl (news_tl (news_tl (by assumption))))))))
 k_with "subscriptTail Attribute Subscript Constant ref int" => (k_here; k_extra "j9")
 k_with "subscriptTail Name Constant ref int" => (k_here; k_extra "j9")
 k_with "subscriptTail Attribute Name Constant ref int" => (k_here; k_extra "j9")
 k_with "subscriptTail Name Name ref int" => (k_here; k_extra "i9")
 k_with "ite" => first | with_reducible refine ite_tt ?_ | with_reducible refine ite_ff ?_ | (k_closed; k_dflt (first | (with_reducible refine' ite_bp ?y9z ?_; (case y9z => kernel_rfl!)) | (with_reducible refine' ite_bn ?y9z ?_; (case y9z => kernel_rfl!)) | refine ite_pos (by decide) ?_ | refine ite_neg (by decide) ?_)) | (with_reducible refine ite_af (by decide +kernel) ?_) | (with_reducible refine ite_at (by decide +kernel) ?_) | (with_reducible refine ite_dp (by omega) ?_) | (with_reducible refine ite_dn (by omega) ?_) | (with_reducible refine ite_bp (by assumption) ?_) | (with_reducible refine ite_bn (by assumption) ?_)
 k_with "call builtin:len" => (k_here; (with_reducible show wpAny _ _ (call (Value.builtin "len") [Value.ref _]) _ _ _); k_dflt (refine' len_led (by k_asm) (by k_mem) (by with_reducible assumption) (by omega) ?_; k_whole))
 k_with "call ref" => (k_here; (with_reducible show wpAny _ _ (call (Value.ref _) _) _ _ _); refine wpAny_call ?_; k_extra "c9")
 trivial
theorem pgo_mov {a k : Int} (W : WF rs) (h : PGo rs fin i S) (e : rs[i]'h.lt = .mov a k) : PGo rs fin (i + 1) { S with r := S.r.set a.toNat k, n := S.n + 1 } := by
  have hr := pgo_drop h
  have hok := W.ok _ (List.getElem_mem h.lt)
  rw [e] at hr hok
  obtain ⟨⟨k1, k2⟩, k3, k4⟩ := hok
  exact ⟨er_next W.er h.lt (by rw [e]; simp), (h.bnd.set k3 (by have := pow_ge i; omega)).up (Nat.le_succ _), hr⟩
theorem pgo_add {a b : Int} (W : WF rs) (h : PGo rs fin i S) (e : rs[i]'h.lt = .add a b) : PGo rs fin (i + 1) { S with r := S.r.set a.toNat (S.r.getD a.toNat 0 + S.r.getD b.toNat 0), n := S.n + 1 } := by
  have hr := pgo_drop h
  have hok := W.ok _ (List.getElem_mem h.lt)
  rw [e] at hr hok
  obtain ⟨⟨k1, k2⟩, k3, k4⟩ := hok
  have ha := h.bnd.2 a.toNat (by omega)
  have hb := h.bnd.2 b.toNat (by omega)
  refine ⟨er_next W.er h.lt (by rw [e]; simp), (h.bnd.up (Nat.le_succ _)).set (by omega) ?_, hr⟩
  rw [Int.pow_succ]; omega
theorem pgo_cmp {a k : Int} (W : WF rs) (h : PGo rs fin i S) (e : rs[i]'h.lt = .cmp a k) : PGo rs fin (i + 1) { S with f := (S.r.getD a.toNat 0, k), n := S.n + 1 } := by
  have hr := pgo_drop h
  rw [e] at hr
  exact ⟨er_next W.er h.lt (by rw [e]; simp), h.bnd.up (Nat.le_succ _), hr⟩
theorem lk_first {k : Bool × Int} : ∀ {rs : List TR} {b j : Nat}, lk (marksL b rs) k = some (b + j) → rs[j]? = some (.mark k.1 k.2) ∧ ∀ q, q < j → rs[q]? ≠ some (.mark k.1 k.2)
  | [], _, _, h => nomatch h
  | r :: rs, b, j, h => by
    have other : lk (marksL (b + 1) rs) k = some (b + j) → r ≠ .mark k.1 k.2 → (r :: rs)[j]? = some (.mark k.1 k.2) ∧ ∀ q, q < j → (r :: rs)[q]? ≠ some (.mark k.1 k.2) := by
      intro h1 h2
      have hge : ∀ (l : List TR) (b : Nat) (x : Nat), lk (marksL b l) k = some x → b ≤ x := by
        intro l
        induction l with
        | nil => intro b x h; exact nomatch h
        | cons r l ih =>
          intro b x h
          cases r with
          | mark o n =>
            by_cases e : (o, n) = k
            · have : lk (marksL b (.mark o n :: l)) k = some b := by simp [lk, marksL, e]
              rw [this] at h
              cases h
              exact Nat.le_refl _
            · have : lk (marksL b (.mark o n :: l)) k = lk (marksL (b + 1) l) k := by simp [lk, marksL, e]
              rw [this] at h
              exact Nat.le_of_succ_le (ih _ _ h)
          | _ => exact Nat.le_of_succ_le (ih _ _ h)
      have := hge _ _ _ h1
      obtain ⟨j', rfl⟩ : ∃ j', j = j' + 1 := ⟨j - 1, by omega⟩
      have e : b + (j' + 1) = (b + 1) + j' := by omega
      rw [e] at h1
      obtain ⟨h3, h4⟩ := lk_first h1
      refine ⟨by simpa using h3, fun q hq => ?_⟩
      cases q with
      | zero => intro x; exact h2 (by simpa using x)
      | succ q => intro x; exact h4 q (by omega) (by simpa using x)
    cases r with
    | mark o n =>
      by_cases e : (o, n) = k
      · have : lk (marksL b (.mark o n :: rs)) k = some b := by simp [lk, marksL, e]
        rw [this] at h
        have hj : b = b + j := Option.some.inj h
        obtain rfl : j = 0 := by omega
        subst e
        exact ⟨rfl, fun q hq => absurd hq (Nat.not_lt_zero _)⟩
      · have : lk (marksL b (.mark o n :: rs)) k = lk (marksL (b + 1) rs) k := by simp [lk, marksL, e]
        rw [this] at h
        refine other h fun x => e ?_
        injection x with x1 x2
        exact Prod.ext x1 x2
    | _ => exact other h (by simp)
theorem pgo_goal {o : Bool} {g : Int} (W : WF rs) (hi : i < rs.length) (e : goalT rs[i] = some (o, g)) : ∃ j, i < j ∧ Jump rs o g j ∧ ∀ s, run (some (o, g)) (rs.drop (i + 1)) s = run none (rs.drop j) s := by
  have hgo := W.go.drop i
  rw [List.drop_eq_getElem_cons hi] at hgo
  obtain ⟨j, h1, h2, h3, _, h5⟩ := run_jump (i := i + 1) W.nd (hgo.1 _ e)
  have h6 := lk_first (b := 0) (j := j) (by rw [Nat.zero_add]; exact h3)
  exact ⟨j, h1, ⟨h2, h6.1, h6.2⟩, h5⟩
theorem pgo_jmp {o : Bool} {g : Int} (W : WF rs) (h : PGo rs fin i S) (e : rs[i]'h.lt = .jmp o g) : ∃ j, i < j ∧ Jump rs o g j ∧ PGo rs fin j { S with n := S.n + 1, d := S.d + if idleAt rs i = true then 1 else 0 } := by
  obtain ⟨j, h1, h2, h3⟩ := pgo_goal W h.lt (o := o) (g := g) (by rw [e]; rfl)
  have hr := pgo_drop h
  rw [e] at hr
  simp only [run] at hr
  rw [h3] at hr
  have e2 : idleAt rs i = idleIn o g (rs.drop (i + 1)) := by
    rw [idleAt, List.drop_eq_getElem_cons h.lt, e]; rfl
  rw [e2]
  exact ⟨j, h1, h2, h2.lt, h.bnd.up (Nat.le_of_lt h1), hr⟩
theorem pgo_jcc1 {c : _root_.Fin 3} {o : Bool} {g : Int} (W : WF rs) (h : PGo rs fin i S) (e : rs[i]'h.lt = .jcc c o g) (hc : run.condP c S.f.1 S.f.2 = true) : ∃ j, i < j ∧ Jump rs o g j ∧ PGo rs fin j { S with n := S.n + 1 } := by
  obtain ⟨j, h1, h2, h3⟩ := pgo_goal W h.lt (o := o) (g := g) (by rw [e]; rfl)
  have hr := pgo_drop h
  rw [e] at hr
  simp only [run, if_pos hc] at hr
  rw [h3] at hr
  exact ⟨j, h1, h2, h2.lt, h.bnd.up (Nat.le_of_lt h1), hr⟩
theorem pgo_jcc0 {c : _root_.Fin 3} {o : Bool} {g : Int} (W : WF rs) (h : PGo rs fin i S) (e : rs[i]'h.lt = .jcc c o g) (hc : run.condP c S.f.1 S.f.2 = false) : PGo rs fin (i + 1) { S with n := S.n + 1 } := by
  have hr := pgo_drop h
  rw [e] at hr
  simp only [run, hc, Bool.false_eq_true, if_false] at hr
  exact ⟨er_next W.er h.lt (by rw [e]; simp), h.bnd.up (Nat.le_succ _), hr⟩
theorem pgo_ret (h : PGo rs fin i S) (e : rs[i]'h.lt = .ret) : { S with n := S.n + 1 } = fin := by
  have hr := pgo_drop h
  rw [e] at hr
  exact hr
theorem idle_not (hi : i < rs.length) (e : ∀ o g, rs[i] ≠ .jmp o g) : idleAt rs i = false := by
  rw [idleAt, List.drop_eq_getElem_cons hi]
  revert e
  cases rs[i] with
  | jmp o g => intro e; exact absurd rfl (e o g)
  | _ => intro _; rfl
theorem pgo0 (W : WF rs) : PGo rs (run none rs S0) 0 S0 := by
  refine ⟨?_, bnd0, rfl⟩
  have := W.er
  revert this
  cases rs with
  | nil => intro h; exact h.elim
  | cons r rs => intro _; exact Nat.succ_pos _
end
end
section
open PyProof.V PySem.Spec PySem.Calls
theorem kqdP_inj {n k : Nat} {d e : Dat} (hd : kqdOk n d = true) (he : kqdOk k e = true) : kqdP d = kqdP e → d = e := fun h => by
  have q := (kqd_eqv n d d n hd hd).mpr rfl
  rw [h] at q
  rw [← h] at q
  have q2 := kqd_eqv n d e k hd he
  rw [← h] at q2
  exact q2.mp ((kqd_eqv n d d n hd hd).mpr rfl)
section
variable {prog : Program} {w : World} {A : Around} {E : Value → Shared → Prop} {s : Shared} {h₀ : Heap} {L l : Addr} {news n₁ n₂ : List (Addr × Obj)} {vs : List Value} {n : Nat} {ds : List Dat} {x : Value} {d : Dat} {Q : Value → Shared → Prop} {j : Nat}
open Classical in
theorem told_index (N : News h₀ L s.heap news) (hm : (l, listOf vs.toArray n) ∈ news) (hR : DatAll n₁ vs ds) (sr : ∀ p ∈ n₁, p ∈ news) (Dx : DatIn n₂ x d) (sx : ∀ p ∈ n₂, p ∈ news)
    (ha : ∀ e ∈ ds, kqdOk 8 e = true) (hd : kqdOk 8 d = true) (hu : A.units + 64 < cLine) (hz : ds.length ≤ 64) (hj : ds[j]? = some d) (hf : ∀ q, q < j → ds[q]? ≠ some d)
    (h : ∀ t tk, Q (.int (j : Int) t) { s with toks := tk }) : wpAny (model prog w) A (call (.builtin "list.index") [.ref l, x]) Q E s := by
  have hlen := hR.length
  have hj' : j < ds.length := by
    apply Nat.lt_of_not_le
    intro hle
    rw [List.getElem?_eq_none hle] at hj
    cases hj
  obtain ⟨bs, rb⟩ := kqd_in N 8 (Dx.mono sx) hd
  have lb := kqd_lay 8 d hd
  have rd : ∀ q (hq : q < vs.length), ∃ as, Reads s.heap vs[q] (kqdP (ds[q]'(by omega))) as := fun q hq => by
    obtain ⟨v, hv, hdq⟩ := hR.get (k := q) (by omega)
    have e1 : vs[q] = v := by
      rw [List.getElem?_eq_getElem hq] at hv
      exact Option.some.inj hv
    rw [e1]
    have e2 : kqdOk 8 (ds[q]'(by omega)) = true := ha _ (List.getElem_mem _)
    exact kqd_in N 8 (hdq.mono sr) e2
  have key : ∀ q (hq : q < vs.length), decide (∃ as, Reads s.heap vs[q] (kqdP d) as) = PyData.eqv (kqdP (ds[q]'(by omega))) (kqdP d) := fun q hq => by
    obtain ⟨as, r⟩ := rd q hq
    have hok : kqdOk 8 (ds[q]'(by omega)) = true := ha _ (List.getElem_mem _)
    have q1 := kqd_eqv 8 (ds[q]'(by omega)) d 8 hok hd
    by_cases hq' : ds[q]'(by omega) = d
    · rw [q1.mpr hq']
      exact decide_eq_true ⟨as, hq' ▸ r⟩
    · rw [Bool.eq_false_iff.mpr fun x => hq' (q1.mp x)]
      refine decide_eq_false fun ⟨as', r'⟩ => hq' ?_
      exact kqdP_inj hok hd (PySem.SeqAt.Reads.unique _ _ _ _ _ (kqd_lay 8 _ hok).1 r r')
  refine call_meets PySem.F.slot_list_index ⟨_, (N _ hm).1, rfl⟩ PySem.F.entry_list_index (PySem.F.args_list_index_2 _ _)
    (PySem.SeqAt.list_indexAt l vs.toArray n none #[] x (fun y => decide (∃ as, Reads s.heap y (kqdP d) as)) j (by rw [List.size_toArray]; omega) (by omega) ?_ ?_) ⟨(N _ hm).1, fun y hy => ?_, h _ _⟩
  · show decide (∃ as, Reads s.heap vs[j] (kqdP d) as) = true
    rw [key j (by omega)]
    have : ds[j] = d := by
      rw [List.getElem?_eq_getElem hj'] at hj
      exact Option.some.inj hj
    exact (kqd_eqv 8 _ d 8 (ha _ (List.getElem_mem _)) hd).mpr this
  · intro q hq hlt
    have hq' : q < vs.length := by rw [List.size_toArray] at hq; exact hq
    show decide (∃ as, Reads s.heap vs[q] (kqdP d) as) = false
    rw [key q hq']
    refine Bool.eq_false_iff.mpr fun x => hf q hlt ?_
    have := (kqd_eqv 8 _ d 8 (ha _ (List.getElem_mem (by omega))) hd).mp x
    rw [List.getElem?_eq_getElem (by omega : q < ds.length), this]
  · obtain ⟨q, hq, rfl⟩ := List.getElem_of_mem (List.mem_toArray.mp hy)
    show SeqAt.EqAt A.in1 s vs[q] x (decide (∃ as, Reads s.heap vs[q] (kqdP d) as))
    rw [key q hq]
    obtain ⟨as, r⟩ := rd q hq
    have la := kqd_lay 8 (ds[q]'(by omega)) (ha _ (List.getElem_mem _))
    exact SeqAt.eqAt_reads _ _ A.in1 s _ _ _ _ r rb la.1 lb.1 (by
      have h1 : min (kqdP (ds[q]'(by omega))).depth (kqdP d).depth ≤ 8 := Nat.le_trans (Nat.min_le_left _ _) la.2
      have h2 : A.in1.units ≤ A.units + 1 := by first | exact Nat.le_refl _ | exact Nat.le_succ _
      omega)
end
end
section
open PyProof.V
theorem kw39 : True := by
 w_top off
 k_with "fold9" => ((try (refine letf (by assumption) ?_; intro m9ᵩ F9ᵩ)); (try (refine letn (by assumption) ?_; intro w9ᵩ N9ᵩ)))
 trivial
theorem news_law0 {h₀ h : Heap} {L : Addr} {a b c : Addr × Obj} {l : List (Addr × Obj)} (N : News h₀ L h (a :: b :: c :: l)) : News h₀ L h (c :: b :: l) := news_sub N (by repeat' (first | exact fun _ h => h | refine subl_cons (by k_mem) ?_ | (intro p hp; k_mem)))
theorem news_law1 {h₀ h : Heap} {L : Addr} {a b c : Addr × Obj} {l : List (Addr × Obj)} (N : News h₀ L h (a :: b :: c :: l)) : News h₀ L h (c :: a :: l) := news_sub N (by repeat' (first | exact fun _ h => h | refine subl_cons (by k_mem) ?_ | (intro p hp; k_mem)))
theorem off_one {D rg : Addr} {o : Obj} {own : List (Addr × Obj)} (h : OwnOff own [rg]) (h1 : @LT.lt Nat _ rg D) : OwnOff ((D, o) :: own) [rg] := by
  intro p hp b hb
  obtain rfl := List.mem_singleton.mp hb
  rcases List.mem_cons.mp hp with rfl | hp
  · exact Nat.ne_of_gt h1
  · exact h p hp _ (.head _)
theorem fmod_64 {z : Int} (h1 : 0 ≤ z) (h2 : z < 18446744073709551616) : z.fmod (2 ^ Int.toNat 64) = z := by
  have e : ((2 : Int) ^ Int.toNat 64) = 18446744073709551616 := by decide +kernel
  rw [e, Int.fmod_eq_emod_of_nonneg _ (by decide), Int.emod_eq_of_lt h1 h2]
theorem ok_kd (o : Bool) : PyData.strOk (kdS o) = true := by cases o <;> decide +kernel
theorem ok_cc (c : _root_.Fin 3) : PyData.strOk (ccS c) = true := by obtain rfl | rfl | rfl := fin3 c <;> decide +kernel
theorem ok_name (r : TR) : PyData.strOk (nameOf r) = true := by
  cases r with
  | mark o n => exact ok_kd o
  | _ => dsimp only [nameOf]; decide +kernel
theorem kqd_row (r : TR) : kqdOk 8 (datOf r) = true := by
  have h := ok_name r
  cases r <;> simp_all [datOf, kqdOk, partsOf, ok_kd, ok_cc]
theorem kqd_rows (rs : List TR) : ∀ e ∈ rs.map datOf, kqdOk 8 e = true := fun e he => by
  obtain ⟨r, _, rfl⟩ := List.mem_map.mp he
  exact kqd_row r
theorem datOf_mark {r : TR} {o : Bool} {g : Int} (h : datOf r = datOf (.mark o g)) : r = .mark o g := by
  cases r with
  | mark o' n =>
    simp only [datOf, nameOf, partsOf, Dat.tuple.injEq, List.cons.injEq, Dat.str.injEq, Dat.int.injEq, and_true] at h
    rw [kdS_inj h.1, h.2]
  | _ => simp [datOf, nameOf, partsOf] at h
theorem map_hit {rs : List TR} {j : Nat} {r : TR} (h : rs[j]? = some r) : (rs.map datOf)[j]? = some (datOf r) := by rw [List.getElem?_map, h]; rfl
theorem map_fst {rs : List TR} {j : Nat} {o : Bool} {g : Int} (h : ∀ q, q < j → rs[q]? ≠ some (.mark o g)) : ∀ q, q < j → (rs.map datOf)[q]? ≠ some (datOf (.mark o g)) := fun q hq e => by
  rw [List.getElem?_map] at e
  cases hr : rs[q]? with
  | none => rw [hr] at e; cases e
  | some r =>
    rw [hr] at e
    exact h q hq (by rw [hr, datOf_mark (Option.some.inj e)])
theorem news_drop2 {h₀ h : Heap} {L : Addr} {a b c : Addr × Obj} {l : List (Addr × Obj)} (N : News h₀ L h (a :: b :: c :: l)) : News h₀ L h (a :: c :: l) := news_sub N (by repeat' (first | exact fun _ h => h | refine subl_cons (by k_mem) ?_ | (intro p hp; k_mem)))
theorem lkq_c (c : _root_.Fin 3) (ta tb tc : Tok) (x y : Int) : PySem.Spec.lookup (.str (ccS c)) (strData [(.str (Str.ofString "e") ta, .bool (x == y)), (.str (Str.ofString "a") tb, .bool (decide (y < x))), (.str (Str.ofString "le") tc, .bool (decide (x ≤ y)))]) = some (.bool (run.condP c x y)) := by obtain rfl | rfl | rfl := fin3 c <;> rfl
theorem item_cc {prog : Program} {w : World} {A : Around} {E : Value → Shared → Prop} {s : Shared} {h₀ : Heap} {L d : Addr} {value slice : PySem.Expr} {x : Str} {t : Tok} {Q : Value → Shared → Prop} {news : List (Addr × Obj)} {o : Obj} {kvs : List (Str × Value)} {D : List (PyData × PyData)} {b : Bool}
    (N : News h₀ L s.heap news) (hm : (d, o) ∈ news) (lo : (d == sysModules) = false) (hd : o.IsDictOf (PySem.strKind prog w) kvs) (hf : FlatPairs PyData.str kvs D) (hh : A.handled = none) (hl : PySem.Spec.lookup (.str x) D = some (.bool b)) (h : ∀ tk, Q (.bool b) { s with toks := tk })
    (hs : subscripted slice false (.ref d) (.str x t) = operate [.ref d, .str x t] (getItem (.ref d) (.str x t)) := by with_unfolding_all rfl) :
    wpAny (model prog w) A (subscriptTail value slice (.ref d) (.str x t)) Q E s :=
  item_strTab_split_any ⟨lo, _, kda_dict N hm hd, hf⟩ hh (fun dv h1 v hv => by
    have e : dv = .bool b := Option.some.inj (h1.symm.trans hl)
    subst e
    have hv2 := hv s.heap
    cases hv2
    exact h _) (fun h1 => absurd (h1.symm.trans hl) (by simp)) hs
theorem PLoc.of {l rg fx : Addr} {i : Nat} {S : PS} {ta to ts td : Tok} {m : Str → Option Value} (h1 : m (Str.ofString "at") = some (.int (i : Int) ta)) (h2 : m (Str.ofString "order") = some (.int S.o to)) (h3 : m (Str.ofString "steps") = some (.int (S.n : Int) ts))
    (h4 : m (Str.ofString "idle") = some (.int (S.d : Int) td)) (h5 : m (Str.ofString "flags") = some (.ref fx)) (h6 : m (Str.ofString "told") = some (.ref l)) (h7 : m (Str.ofString "regs") = some (.ref rg)) : m = PLoc l rg fx i S ta to ts td m := by
  funext y
  unfold PLoc
  split
  · next e => rw [e, h1]
  · split
    · next e => rw [e, h2]
    · split
      · next e => rw [e, h3]
      · split
        · next e => rw [e, h4]
        · split
          · next e => rw [e, h5]
          · split
            · next e => rw [e, h6]
            · split
              · next e => rw [e, h7]
              · rfl
section
theorem kw40 : True := by
 w_top off
 k_with "exec While" => (k_here; (with_reducible show wpAny _ _ (exec (PySem.Stmt.While _ _ _ _) _) _ _ _); refine StopG.out ?_)
 k_with "subscriptTail" => (k_here; (with_reducible show wpAny _ _ (subscriptTail _ _ (Value.ref _) (Value.int _ _)) _ _ _); k_extra "i9")
 k_with "call ref" => (k_here; (with_reducible show wpAny _ _ (call (Value.ref 485) _) _ _ _); k_dflt (refine' lidle_c  _ _ _ _ _ _ _ ?B ?F ?X ?T ?k ?N ?l ?R ?a ?b ?z ?d ?u ?_; (case B => k_asm); (case F => k_asm); (case X => k_asm); (case T => k_asm); (case k => k_extra "k9"); (case N => k_asm); (case l => k_mem); (case R => refine' PySem.W.DatAll.mono ?ss ?rr; (case rr => with_reducible assumption); (case ss => intro pᵩ hpᵩ; k_mem)); (case a => omega); (case b => omega); (case z => omega); (case d => k_extra "d9"); (case u => k_extra "u9")); intro h'ᵩ tks'ᵩ F'ᵩ N'ᵩ)
 k_with "subscriptTail" => (k_here; (with_reducible show wpAny _ _ (subscriptTail _ _ (Value.ref _) (Value.str _ _)) _ _ _); refine StopG.out ?_)
 k_with "call builtin:list.index" => (k_here; (with_reducible show wpAny _ _ (call (Value.builtin "list.index") _) _ _ _); refine StopG.out ?_)
 trivial
namespace EK.E_passed_c
theorem core : @P w mean mg mb dp un gd cn cs a ccd cl outer A₀ base h₀ L m s Q E := by
  intro own0 l rg vs n gs kk rs B F X T hk N hl hR hI hof W hd hu hret
  k_steps
  refine StopG.mk ?_
  rename News _ _ _ _ => N9
  rename Fr _ _ _ _ => F9
  refine While_inv2 (PInv own0 l rg kk rs (Mine.run none rs S0)) F9 (news_law0 N9) ⟨0, S0, _, _, _, _, _, _, _, _, _, gs, _, PLoc.of rfl rfl rfl rfl rfl rfl rfl, rfl, hI, .head _, fun p hp => .tail _ hp, ?_, pgo0 W, rfl⟩ ?_
  · intro p hp b hb
    simp only [List.mem_cons, List.not_mem_nil, or_false] at hp hb
    subst hb
    rcases hp with rfl | hp
    · refine neN ?_; dsimp only; omega
    · exact hof p hp _ (.head _)
  · rintro k m₁ nw h₁ tk₁ F1 N1 ⟨i, S, fx, ta, to, ts, td, t1, t2, u, fn, gs, own, rfl, rfl, hI, hfx, hsub, hof, hg, rfl⟩
    clear N9 F9
    obtain ⟨v, hv, a1, p, t3, k1, k, ps, rfl, ha1, hp, hps⟩ := told_get hR hg.lt
    have hv' : vs[((i : Nat) : Int).toNat]? = some (.ref a1) := hv
    have hi := hg.lt
    have hle := W.le
    have hlen := told_len hR
    have hok := W.ok _ (List.getElem_mem hi)
    have hl' := hsub _ hl
    have ha1' := hsub _ ha1
    have hp' := hsub _ hp
    have hps' := hps.mono hsub
    obtain ⟨r, hr⟩ : ∃ r, rs[i]'hg.lt = r := ⟨_, rfl⟩
    have hnid : (∀ o g, r ≠ .jmp o g) → idleAt rs ((i : Nat) : Int).toNat = false := fun h => (idle_not (i := i) hi (by rw [hr]; exact h) : idleAt rs i = false)
    rw [hr] at ha1' hps' hok
    clear ha1 hps hp
    cases r with
    | mark o g =>
      have hid := hnid (by simp)
      have hg' := pgo_mark W hg hr
      dsimp only [nameOf, partsOf] at ha1' hps'
      obtain ⟨t4, rfl⟩ := da_i hps'
      cases o <;> dsimp only [kdS] at * <;> k_steps
      all_goals
        rename Fr _ _ _ _ => F9
        exact ⟨_, _, _, _, _, rfl, F9, (by (first | assumption | exact news_tl (by assumption) | exact news_tl (news_tl (by assumption)) | exact news_tl (news_tl (news_tl (by assumption))) | exact news_tl (news_tl (news_tl (news_tl (by assumption)))) | exact news_tl (news_tl (news_tl (news_tl (news_tl (by assumption))))) | exact news_tl (news_tl (news_tl (news_tl (news_tl (news_tl (by assumption)))))) | exact news_tl (news_tl (news_tl (news_tl (news_tl (news_tl (news_tl (by assumption))))))))), (by omega), i + 1, orderTo _ g S, fx, _, _, _, _, t1, t2, _, fn, gs, own, PLoc.of rfl rfl rfl rfl rfl rfl rfl, rfl, hI, hfx, hsub, hof, hg', rfl⟩
    | mov a b =>
      have hid := hnid (by simp)
      have hg' := pgo_mov W hg hr
      dsimp only [nameOf, partsOf] at ha1' hps'
      obtain ⟨t4, t5, t6, rfl⟩ := da_iii hps'
      obtain ⟨⟨k3, k4⟩, k5, k6⟩ := hok
      have hl4 := hg.bnd.1
      k_steps
      rename Fr _ _ _ _ => F9
      rename IntsAre _ _ => hi9
      exact ⟨_, _, _, _, _, rfl, F9, (by (first | assumption | exact news_tl (by assumption) | exact news_tl (news_tl (by assumption)) | exact news_tl (news_tl (news_tl (by assumption))) | exact news_tl (news_tl (news_tl (news_tl (by assumption)))) | exact news_tl (news_tl (news_tl (news_tl (news_tl (by assumption))))) | exact news_tl (news_tl (news_tl (news_tl (news_tl (news_tl (by assumption)))))) | exact news_tl (news_tl (news_tl (news_tl (news_tl (news_tl (news_tl (by assumption))))))))), (by omega), i + 1, { S with r := S.r.set a.toNat b, n := S.n + 1 }, fx, _, _, _, _, t1, t2, _, fn, _, own, PLoc.of rfl rfl rfl rfl rfl rfl rfl, rfl, hi9, hfx, hsub, hof, hg', rfl⟩
    | add a b =>
      have hid := hnid (by simp)
      have hg' := pgo_add W hg hr
      dsimp only [nameOf, partsOf] at ha1' hps'
      obtain ⟨t4, t5, t6, rfl⟩ := da_iii hps'
      obtain ⟨⟨k3, k4⟩, k5, k6⟩ := hok
      have hl4 := hg.bnd.1
      k_steps
      rename Fr _ _ _ _ => F9
      rename IntsAre _ _ => hi9
      have hba := hg.bnd.2 a.toNat (by omega)
      have hbb := hg.bnd.2 b.toNat (by omega)
      have hpw := pow_bnd (i := i) (by omega)
      have e9 : S.r.set a.toNat ((S.r.getD a.toNat 0 + S.r.getD b.toNat 0).fmod (2 ^ Int.toNat 64)) = S.r.set a.toNat (S.r.getD a.toNat 0 + S.r.getD b.toNat 0) := by rw [fmod_64 (by omega) (by omega)]
      rw [e9] at hi9
      exact ⟨_, _, _, _, _, rfl, F9, (by (first | assumption | exact news_tl (by assumption) | exact news_tl (news_tl (by assumption)) | exact news_tl (news_tl (news_tl (by assumption))) | exact news_tl (news_tl (news_tl (news_tl (by assumption)))) | exact news_tl (news_tl (news_tl (news_tl (news_tl (by assumption))))) | exact news_tl (news_tl (news_tl (news_tl (news_tl (news_tl (by assumption)))))) | exact news_tl (news_tl (news_tl (news_tl (news_tl (news_tl (news_tl (by assumption))))))))), (by omega), i + 1, { S with r := S.r.set a.toNat (S.r.getD a.toNat 0 + S.r.getD b.toNat 0), n := S.n + 1 }, fx, _, _, _, _, t1, t2, _, fn, _, own, PLoc.of rfl rfl rfl rfl rfl rfl rfl, rfl, hi9, hfx, hsub, hof, hg', rfl⟩
    | cmp a b =>
      have hid := hnid (by simp)
      have hg' := pgo_cmp W hg hr
      dsimp only [nameOf, partsOf] at ha1' hps'
      obtain ⟨t4, t5, t6, rfl⟩ := da_iii hps'
      obtain ⟨⟨k3, k4⟩, k5, k6⟩ := hok
      have hl4 := hg.bnd.1
      k_steps
      rename Fr _ _ _ _ => F9
      rename News _ _ _ _ => N9
      exact ⟨_, _, _, _, _, rfl, F9, (news_law1 N9), (by omega), i + 1, { S with f := (S.r.getD a.toNat 0, b), n := S.n + 1 }, _, _, _, _, _, _, _, _, _, gs, _, PLoc.of rfl rfl rfl rfl rfl rfl rfl, rfl, hI, (.head _), (fun p hp => .tail _ (hsub p hp)), (off_one hof (by omega)), hg', rfl⟩
    | jmp o g =>
      dsimp only [nameOf, partsOf] at ha1' hps'
      obtain ⟨t4, t5, rfl⟩ := da_si hps'
      obtain ⟨j, hij, hJ, hg'⟩ := pgo_jmp W hg hr
      cases hid : idleAt rs i
      · have hid' : idleAt rs ((i : Nat) : Int).toNat = false := hid
        rw [hid] at hg'
        k_steps
        refine StopG.mk ?_
        rename News _ _ _ _ => N9
        refine told_index (d := datOf (.mark o g)) N9 (by k_mem) hR (fun p hp => by k_mem) (DatIn.tuple (List.Mem.head _) (.cons (.str _ _) (.cons (.tuple (List.Mem.tail _ (.head _)) (.cons (.int _ _) .nil)) .nil))) (fun p hp => hp) (kqd_rows rs) (kqd_row _) (by (first | exact rmu0 (by assumption) (by decide) | exact rmu 3 (by assumption) (by decide) | exact rmu 6 (by assumption) (by decide) | exact rmu 9 (by assumption) (by decide) | exact rmu 1 (by assumption) (by decide) | exact rmu 4 (by assumption) (by decide) | exact rmu 7 (by assumption) (by decide))) (by rw [List.length_map]; omega) (map_hit hJ.hit) (map_fst hJ.fst) fun t9 tk9 => ?_
        k_steps
        rename Fr _ _ _ _ => F9
        exact ⟨_, _, _, _, _, rfl, F9, (by (first | assumption | exact news_tl (by assumption) | exact news_tl (news_tl (by assumption)) | exact news_tl (news_tl (news_tl (by assumption))) | exact news_tl (news_tl (news_tl (news_tl (by assumption)))) | exact news_tl (news_tl (news_tl (news_tl (news_tl (by assumption))))) | exact news_tl (news_tl (news_tl (news_tl (news_tl (news_tl (by assumption)))))) | exact news_tl (news_tl (news_tl (news_tl (news_tl (news_tl (news_tl (by assumption))))))))), (by omega), j, { S with n := S.n + 1, d := S.d + 0 }, fx, _, _, _, _, t1, t2, _, fn, gs, own, PLoc.of rfl rfl rfl rfl rfl rfl rfl, rfl, hI, hfx, hsub, hof, hg', rfl⟩
      · have hid' : idleAt rs ((i : Nat) : Int).toNat = true := hid
        rw [hid] at hg'
        k_steps
        refine StopG.mk ?_
        rename News _ _ _ _ => N9
        refine told_index (d := datOf (.mark o g)) N9 (by k_mem) hR (fun p hp => by k_mem) (DatIn.tuple (List.Mem.head _) (.cons (.str _ _) (.cons (.tuple (List.Mem.tail _ (.head _)) (.cons (.int _ _) .nil)) .nil))) (fun p hp => hp) (kqd_rows rs) (kqd_row _) (by (first | exact rmu0 (by assumption) (by decide) | exact rmu 3 (by assumption) (by decide) | exact rmu 6 (by assumption) (by decide) | exact rmu 9 (by assumption) (by decide) | exact rmu 1 (by assumption) (by decide) | exact rmu 4 (by assumption) (by decide) | exact rmu 7 (by assumption) (by decide))) (by rw [List.length_map]; omega) (map_hit hJ.hit) (map_fst hJ.fst) fun t9 tk9 => ?_
        k_steps
        rename Fr _ _ _ _ => F9
        exact ⟨_, _, _, _, _, rfl, F9, (by (first | assumption | exact news_tl (by assumption) | exact news_tl (news_tl (by assumption)) | exact news_tl (news_tl (news_tl (by assumption))) | exact news_tl (news_tl (news_tl (news_tl (by assumption)))) | exact news_tl (news_tl (news_tl (news_tl (news_tl (by assumption))))) | exact news_tl (news_tl (news_tl (news_tl (news_tl (news_tl (by assumption)))))) | exact news_tl (news_tl (news_tl (news_tl (news_tl (news_tl (news_tl (by assumption))))))))), (by omega), j, { S with n := S.n + 1, d := S.d + 1 }, fx, _, _, _, _, t1, t2, _, fn, gs, own, PLoc.of rfl rfl rfl rfl rfl rfl rfl, rfl, hI, hfx, hsub, hof, hg', rfl⟩
    | jcc c o g =>
      have hid := hnid (by simp)
      dsimp only [nameOf, partsOf] at ha1' hps'
      obtain ⟨t4, t5, t6, rfl⟩ := da_ssi hps'
      k_steps
      refine StopG.mk ?_
      k_sweep
      rename News _ _ _ _ => N9
      rename FlatPairs _ _ _ => hf9
      rename PySem.Obj.IsDictOf _ _ _ => hd9
      rename (_ == sysModules) = false => lo9
      rename Fr _ _ _ _ => F9
      try dsimp only at hf9 hd9
      try dsimp only at F9
      try dsimp only at N9
      dsimp only
      refine item_cc (b := run.condP c S.f.1 S.f.2) N9 (by k_mem) lo9 hd9 hf9 rfl (lkq_c c _ _ _ _ _) fun tk9 => ?_
      clear hf9 hd9 lo9
      cases hc : run.condP c S.f.1 S.f.2
      · have hg' := pgo_jcc0 W hg hr hc
        k_steps
        rename Fr _ _ _ _ => F8
        exact ⟨_, _, _, _, _, rfl, F8, (by (first | assumption | exact news_tl (by assumption) | exact news_tl (news_tl (by assumption)) | exact news_tl (news_tl (news_tl (by assumption))) | exact news_tl (news_tl (news_tl (news_tl (by assumption)))) | exact news_tl (news_tl (news_tl (news_tl (news_tl (by assumption))))) | exact news_tl (news_tl (news_tl (news_tl (news_tl (news_tl (by assumption)))))) | exact news_tl (news_tl (news_tl (news_tl (news_tl (news_tl (news_tl (by assumption))))))))), (by omega), i + 1, { S with n := S.n + 1 }, fx, _, _, _, _, t1, t2, _, fn, gs, own, PLoc.of rfl rfl rfl rfl rfl rfl rfl, rfl, hI, hfx, hsub, hof, hg', rfl⟩
      · obtain ⟨j, hij, hJ, hg'⟩ := pgo_jcc1 W hg hr hc
        k_steps
        refine StopG.mk ?_
        clear N9
        rename News _ _ _ _ => N9
        refine told_index (d := datOf (.mark o g)) N9 (by k_mem) hR (fun p hp => by k_mem) (DatIn.tuple (List.Mem.head _) (.cons (.str _ _) (.cons (.tuple (List.Mem.tail _ (.head _)) (.cons (.int _ _) .nil)) .nil))) (fun p hp => hp) (kqd_rows rs) (kqd_row _) (by (first | exact rmu0 (by assumption) (by decide) | exact rmu 3 (by assumption) (by decide) | exact rmu 6 (by assumption) (by decide) | exact rmu 9 (by assumption) (by decide) | exact rmu 1 (by assumption) (by decide) | exact rmu 4 (by assumption) (by decide) | exact rmu 7 (by assumption) (by decide))) (by rw [List.length_map]; omega) (map_hit hJ.hit) (map_fst hJ.fst) fun t9 tk9 => ?_
        k_steps
        rename Fr _ _ _ _ => F8
        exact ⟨_, _, _, _, _, rfl, F8, (by (first | assumption | exact news_tl (by assumption) | exact news_tl (news_tl (by assumption)) | exact news_tl (news_tl (news_tl (by assumption))) | exact news_tl (news_tl (news_tl (news_tl (by assumption)))) | exact news_tl (news_tl (news_tl (news_tl (news_tl (by assumption))))) | exact news_tl (news_tl (news_tl (news_tl (news_tl (news_tl (by assumption)))))) | exact news_tl (news_tl (news_tl (news_tl (news_tl (news_tl (news_tl (by assumption))))))))), (by omega), j, { S with n := S.n + 1 }, fx, _, _, _, _, t1, t2, _, fn, gs, own, PLoc.of rfl rfl rfl rfl rfl rfl rfl, rfl, hI, hfx, hsub, hof, hg', rfl⟩
    | ret =>
      have hid := hnid (by simp)
      have hg' := pgo_ret hg hr
      dsimp only [nameOf, partsOf] at ha1' hps'
      obtain rfl := da_nil hps'
      k_steps
      dsimp only [WhileStep2]
      k_steps
      rename News _ _ _ _ => N9
      have hb4 := hg.bnd.1
      rw [← hg'] at hret
      exact hret _ _ _ _ _ _ _ _ (by assumption) (news_drop2 N9) hI hb4 hsub
end EK.E_passed_c
theorem EK.E_passed_c.all : ∀ c, EK.E_passed_c.Pc c := by
  have h : EK.E_passed_c.Pc kc := by with_unfolding_all exact EK.E_passed_c.core
  rw [EK.eqk37] at h
  exact first_all (r := EK.lst38) h
theorem EK.eqk38 : kc = first EK.lst38 := EK.eqk37.trans (first_skip EK.E_passed_c.all)
theorem passed_c {w : World} {mean : ExcName → Option Value} {mg mb : Str → Option Value} {dp un : Nat} {gd : Option (List Code)} {cn : Str} {cs : Scope} {a : Addr} {ccd : Value} {cl : List (Str × Addr)} {outer : List Env} {A₀ : Around} {base h₀ : Heap} {L : Addr} {m : Str → Option Value} {s : Shared} {Q E : Value → Shared → Prop} (own0 : List (Addr × Obj)) (l rg : Addr) (vs : List Value) (n : Nat) (gs : List Value) (kk : Nat) (rs : List TR)
    (B : Below A₀ base outer h₀) (F : Fr h₀ L s.heap m) (X : (hd.heap_1 w.params).In h₀) (T : Top viewP LZ mean mg mb h₀) (hk : cs.kind = .function)
    (N : News h₀ L s.heap ((rg, listOf gs.toArray kk) :: own0)) (hl : (l, listOf vs.toArray n) ∈ own0) (hR : DatAll own0 vs (rs.map datOf)) (hI : IntsAre gs [9, 9, 9, 9]) (hof : OwnOff own0 [rg]) (W : WF rs)
    (hd : dp + 20 < recursionLimit) (hu : un + 300 < cLine)
    (hret : ∀ (D : Addr) (gs' : List Value) (t1 t2 t3 : Tok) (own : List (Addr × Obj)) (h' : Heap) (tks : Nat), Fr h₀ L h' m → News h₀ L h' ((D, tupO [.ref rg, .int (Mine.run none rs S0).o t1, .int (Mine.run none rs S0).n t2, .int (Mine.run none rs S0).d t3] 0) :: (rg, listOf gs'.toArray kk) :: own) → IntsAre gs' (Mine.run none rs S0).r → (Mine.run none rs S0).r.length = 4 → (∀ p ∈ own0, p ∈ own) → Q (.ref D) { s with heap := h', toks := tks }) : wpAny (model PySem.Challenge.rw_pf0284_01.row.prog w) (ktrTop dp un gd cn cs L a ccd cl outer) (call (.ref 492) [.ref l, .ref rg]) Q E s := by
  with_unfolding_all exact EK.E_passed_c.all ⟨w, mean, mg, mb, dp, un, gd, cn, cs, a, ccd, cl, outer, A₀, base, h₀, L, m, s, Q, E⟩ own0 l rg vs n gs kk rs B F X T hk N hl hR hI hof W hd hu hret
end
end
section
set_option maxHeartbeats 400000
theorem kw41 : True := by
 w_top off
 k_with_none
 k_with "ml" => first | assumption | (refine memsub (by assumption) ?_; first | assumption | exact List.Mem.head _ | (refine List.Mem.tail _ ?_; first | exact List.Mem.head _ | (refine List.Mem.tail _ ?_; first | exact List.Mem.head _ | (refine List.Mem.tail _ ?_; first | exact List.Mem.head _ | (refine List.Mem.tail _ ?_; first | assumption) | assumption) | assumption) | assumption) | assumption)
 k_with "k_mem" => first | exact List.Mem.head _ | (refine List.Mem.tail _ ?_; k_extra "k_mem") | k_extra "ml"
 k_with "ks" => repeat' (first | (k_unfold; (try dsimp only)) | (k_end; kc_close) | (walk1; (try (first | (with_reducible show wpAny _ _ (exec _ _) _ _ _; (try dsimp only); (refine letq ?_; intro qk9ᵩ); (try with_reducible refine wpst ?_; intro tk9ᵩ); (try walk_at "fold9")) | (with_reducible show wpAny _ _ (execs _ _) _ _ _; k_fold)))) | (dsimp only; walk1) | (leave1; walk_say "STEP leave1"; try dsimp only) | (k_unmd; k_unfold; (try dsimp only)) | fail "no step")
 k_with "in9" => first | with_reducible assumption | (refine' Frag.In.keeps ?y9X (Fr.keep ?y9F); (case y9F => k_asm); (case y9X => k_asm))
 k_with "eval Constant str" => with_reducible refine kstr ?_
 k_with "eval Constant int" => with_reducible refine kint ?_
 k_with "oc" => first | (apply c1; assumption) | (apply c2; assumption) | (apply l2; assumption) | (apply c3; assumption) | (apply c4; assumption) | (apply c5; assumption) | (apply c6; assumption) | (apply c7; assumption) | (apply c8; assumption) | (apply c9; assumption) | (apply c10; assumption) | (apply c11; assumption) | (apply c12; assumption) | (apply c13; assumption) | (apply c14; assumption) | (apply c15; assumption) | (apply c16; assumption)
 k_with "od" => first | (apply c1; assumption) | (apply c2; assumption) | (apply l2; assumption) | (apply c3; assumption) | (apply c4; assumption) | (apply c5; assumption) | (apply c6; assumption) | (apply c7; assumption)
 k_with "on" => first | (apply zsy; assumption) | (apply zgt; first | assumption | k_extra "oc") | (apply zlt; first | assumption | k_extra "oc") | (apply gtt; assumption; first | assumption | k_extra "od") | (apply ltt; assumption; first | assumption | k_extra "od")
 k_with "oi" => first | exact nn0 | exact nn0' | exact z63 (by assumption) (by assumption) | exact z63b (by assumption) (by assumption) | exact n63 (by assumption) (by assumption) | exact n63b (by assumption) (by assumption) | exact z63c (by assumption) (by assumption) | exact z63d (by assumption) (by assumption) | exact nlt (by assumption) | exact n62 (by assumption) | exact n62b (by assumption) | exact tnl (by assumption) (by assumption) | exact sub1 (by assumption) | exact sub2 (by assumption) (by assumption) | decide | exact Int.lt_of_lt_of_le (by assumption) (by decide) | exact Nat.le_trans (by assumption) (by decide) | exact ul (by assumption) (by decide) | exact up0 (by assumption) (by assumption) | k_extra "oc"
 k_with "om" => first | (k_whole; with_reducible (first | assumption | (show @Ne Nat _ _; k_extra "on") | (show @Eq Nat _ _; first | exact tn1 (by assumption) | exact z0i) | ((first | show @LT.lt Int _ _ _ | show @LE.le Int _ _ _ | show @LT.lt Nat _ _ _ | show @LE.le Nat _ _ _); k_extra "oi")))
 k_with "execs cons If" => (k_here; (with_reducible show wpAny _ _ (execs (PySem.Stmt.If (PySem.Expr.Compare (PySem.Expr.Name _ _) [.Eq] [PySem.Expr.Constant (.str _) _ _] _) _ _ _ :: _) _) _ _ _); first | ((with_reducible show wpAny _ _ (execs (PySem.Stmt.If _ _ [] _ :: _) _) _ _ _); k_dflt (refine' cif_f ?F ?v ?x ?c ?k ?d ?_; (case F => k_asm); (case x => kernel_rfl!); (case k => kernel_rfl!); (case d => kernel_rfl!); (case v => rfl); (case c => first | with_reducible assumption | kernel_rfl!); k_whole)) | ((with_reducible show wpAny _ _ (execs [PySem.Stmt.If _ _ (_ :: _) _] _) _ _ _); k_dflt (refine' cif_g ?F ?v ?x ?c ?k ?d ?_; (case F => k_asm); (case x => kernel_rfl!); (case k => kernel_rfl!); (case d => kernel_rfl!); (case v => rfl); (case c => first | with_reducible assumption | kernel_rfl!); k_whole)) | ((with_reducible show wpAny _ _ (execs [PySem.Stmt.If _ _ _ _] _) _ _ _); k_dflt (refine' cif_t ?F ?v ?x ?c ?k ?d ?_; (case F => k_asm); (case x => kernel_rfl!); (case k => kernel_rfl!); (case d => kernel_rfl!); (case v => rfl); (case c => first | with_reducible assumption | kernel_rfl!); k_whole)) | k_dflt (refine' cif_r ?F ?v ?x ?c ?k ?d ?_; (case F => k_asm); (case x => kernel_rfl!); (case k => kernel_rfl!); (case d => kernel_rfl!); (case v => rfl); (case c => first | with_reducible assumption | kernel_rfl!); k_whole))
 k_with "callWith" => ((with_reducible show wpAny _ _ (callWith _ (Value.builtin _) (_ :: _) (backTo _ (starEach (_ :: _) _)) []) _ _ _); refine callWith_method1 ?_)
 k_with "callWith ref" => (k_here; k_dflt (first | (refine' callWith_K ?y9k ?y9l ?_; (case y9k => k_asm); (case y9l => k_is); k_whole) | (refine' callWith_K0 ?y9k ?y9l ?_; (case y9k => k_in); (case y9l => k_is); k_whole)))
 k_with "eval Name" => (k_here; (fail_if_success (with_reducible show wpAny _ _ (eval (PySem.Expr.Name _ _) (compEnvC _ _ _ _)) _ _ _)); k_dflt (first | (refine' nameX_L ?y9F ?y9v ?_ ?y9a ?y9b ?y9d; (case y9F => k_asm); (case y9a => kernel_rfl!); (case y9b => kernel_rfl!); (case y9d => kernel_rfl!); (case y9v => rfl); k_whole) | (refine' nameX_K ?y9F ?y9X ?y9T ?y9e ?_ ?y9a ?y9b; (case y9F => k_asm); (case y9X => k_asm); (case y9T => k_asm); (case y9a => kernel_rfl!); (case y9b => kernel_rfl!); (case y9e => k_is); k_whole) | (refine' nameX_C ?y9N ?y9c ?y9m ?y9d ?_ ?y9a ?y9b; (case y9a => kernel_rfl!); (case y9b => kernel_rfl!); (case y9N => k_asm); (case y9c => rfl); (case y9m => k_mem); (case y9d => k_asm); k_whole) | (refine' nameX_B ?y9F ?y9X ?y9T ?y9e ?y9v ?y9n ?_ ?y9a ?y9b; (case y9F => k_asm); (case y9X => k_asm); (case y9T => k_asm); (case y9a => kernel_rfl!); (case y9b => kernel_rfl!); (case y9e => k_is); (case y9v => boot_fast); (case y9n => decide); k_whole)))
 k_with "execs cons Return" => with_reducible refine cret ?_
 k_with "newTuple" => (k_here; k_dflt (refine' kup_newTuple (by k_asm) (by k_asm) ?_ (by kmk_size)); intro D'ᵩ h'ᵩ F'ᵩ N'ᵩ l1ᵩ; have l2ᵩ := l1ᵩ; (try k_lt l1ᵩ))
 k_with "k9" => (first | exact rfl | assumption)
 k_with "d9" => (first | exact rmc0 (by assumption) (by decide) | exact rmc 1 (by assumption) (by decide) | exact rmc 2 (by assumption) (by decide) | exact rmc 3 (by assumption) (by decide))
 k_with "u9" => (first | exact rmu0 (by assumption) (by decide) | exact rmu 3 (by assumption) (by decide) | exact rmu 6 (by assumption) (by decide) | exact rmu 9 (by assumption) (by decide) | exact rmu 1 (by assumption) (by decide) | exact rmu 4 (by assumption) (by decide) | exact rmu 7 (by assumption) (by decide))
 k_with "r9" => (first | exact rm0 (by assumption) | exact rm 1 (by assumption) (by decide) | exact rm 2 (by assumption) (by decide) | exact rm 3 (by assumption) (by decide) | exact rm 4 (by assumption) (by decide))
 k_with "b9" => (first | exact BindsTo.of_eq rfl | exact binds_K (by k_in) rfl (by k_is) rfl rfl rfl)
 k_with "c9" => (k_dflt (refine' code_def ?k1 ?k2 ?k3 ?k4 ?k5 ?kA ?kF ?kK ?k6 ?k7 ?k8 ?k9 ?kB ?_ ?c2 ?c3 ?c4 ?c5; (case kA => exact rfl); (case kF => exact rfl); (case kK => k_extra "k9"); (case k1 => k_asm); (case k2 => k_asm); (case k3 => k_asm); (case k4 => k_asm); (case k5 => k_asm); (case k6 => k_is); (case k7 => k_is); (case k8 => k_extra "r9"); (case k9 => k_extra "b9"); (case c5 => decide); (case kB => exact locs rfl); (case c2 => exact rfl); (case c3 => exact rfl); (case c4 => exact rfl); k_whole); intro g'ᵩ L'ᵩ h'ᵩ FG'ᵩ F'ᵩ N'ᵩ B'ᵩ X'ᵩ T'ᵩ; (try dsimp only))
 k_with "i9" => (k_dflt (refine' item_led (by k_asm) (by k_mem) (by omega) (by with_reducible assumption) (by omega) ?_ (by with_unfolding_all rfl); k_whole))
 k_with "j9" => (first | k_dflt (refine' item_tupleT (News.isTup (by k_asm) (by k_mem)) (by decide) (by decide) (by rfl) (by rfl) ?_ (by with_unfolding_all rfl); k_whole) | k_extra "i9")
 k_with "mo" => exact ⟨_, _, _, _, _, _, _, _, ⟨_, _, _, _, _, _, _, _, _, _, _, _, _, _, _, _, _, _, _, _, _, rfl⟩⟩
 k_with "nt" => (first | assumption | exact news_tl (by assumption) | exact news_tl (news_tl (by assumption)) | exact news_tl (news_tl (news_tl (by assumption))) | exact news_tl (news_tl (news_tl (news_tl (by assumption)))) | exact news_tl (news_tl (news_tl (news_tl (news_tl (by assumption))))) | exact news_tl (news_tl (news_tl (news_tl (news_tl (news_tl (by assumption)))))) | exact news_tl (news_tl (news_tl (news_tl (news_tl (news_tl (news_tl (by assumption))))))))
 k_with "subscriptTail Attribute Subscript Constant ref int" => (k_here; k_extra "j9")
 k_with "subscriptTail Name Constant ref int" => (k_here; k_extra "j9")
 k_with "subscriptTail Attribute Name Constant ref int" => (k_here; k_extra "j9")
 k_with "subscriptTail Name Name ref int" => (k_here; k_extra "i9")
 k_with "ite" => first | with_reducible refine ite_tt ?_ | with_reducible refine ite_ff ?_ | (k_closed; k_dflt (first | (with_reducible refine' ite_bp ?y9z ?_; (case y9z => kernel_rfl!)) | (with_reducible refine' ite_bn ?y9z ?_; (case y9z => kernel_rfl!)) | refine ite_pos (by decide) ?_ | refine ite_neg (by decide) ?_)) | (with_reducible refine ite_af (by decide +kernel) ?_) | (with_reducible refine ite_at (by decide +kernel) ?_) | (with_reducible refine ite_dp (by omega) ?_) | (with_reducible refine ite_dn (by omega) ?_) | (with_reducible refine ite_bp (by assumption) ?_) | (with_reducible refine ite_bn (by assumption) ?_)
 k_with "call builtin:len" => (k_here; (with_reducible show wpAny _ _ (call (Value.builtin "len") [Value.ref _]) _ _ _); k_dflt (refine' len_led (by k_asm) (by k_mem) (by with_reducible assumption) (by omega) ?_; k_whole))
 k_with "call ref" => (k_here; (with_reducible show wpAny _ _ (call (Value.ref _) _) _ _ _); refine wpAny_call ?_; k_extra "c9")
 trivial
theorem places_append : ∀ (a b : List KD) (j : Nat), placesF j (a ++ b) = placesF j a ++ placesF (j + a.length) b
  | [], _, _ => rfl
  | k :: r, b, j => by
    rw [List.cons_append, placesF, placesF, places_append r b (j + 1), List.append_assoc, List.length_cons, show j + 1 + r.length = j + (r.length + 1) by omega]
theorem places_bnd : ∀ (a : List KD) (j : Nat), ∀ p ∈ placesF j a, (j : Int) ≤ p.2 ∧ p.2 < ((j + a.length : Nat) : Int)
  | [], _, _, h => nomatch h
  | k :: r, j, p, h => by
    rw [placesF] at h
    rcases List.mem_append.mp h with h | h
    · have e : p.2 = (j : Int) := by
        cases k <;> simp only [KD.pl, List.mem_singleton, List.not_mem_nil] at h
        · rw [h]
        · rw [h]
      rw [e, List.length_cons]
      omega
    · have := places_bnd r (j + 1) p h
      rw [List.length_cons]
      omega
theorem places_len : ∀ (a : List KD) (j : Nat), (placesF j a).length ≤ a.length
  | [], _ => Nat.le_refl _
  | k :: r, j => by
    have := places_len r (j + 1)
    rw [placesF, List.length_append, List.length_cons]
    have : (k.pl j).length ≤ 1 := by cases k <;> simp [KD.pl]
    omega
theorem places_take {ks : List KD} {i : Nat} (h : i < ks.length) : placesF 0 (ks.take (i + 1)) = placesF 0 (ks.take i) ++ (ks[i]).pl i := by
  rw [List.take_succ_eq_append_getElem h, places_append, List.length_take, Nat.min_eq_left (Nat.le_of_lt h), Nat.zero_add]
  show _ ++ ((ks[i]).pl i ++ []) = _
  rw [List.append_nil]
theorem places_nodup : ∀ (a : List KD) (j : Nat), (placesF j a).Nodup
  | [], _ => List.nodup_nil
  | k :: r, j => by
    rw [placesF, List.nodup_append]
    refine ⟨by cases k <;> simp [KD.pl], places_nodup r (j + 1), fun x hx y hy e => ?_⟩
    have := places_bnd r (j + 1) y hy
    have e2 : x.2 = (j : Int) := by
      cases k <;> simp only [KD.pl, List.mem_singleton, List.not_mem_nil] at hx
      · rw [hx]
      · rw [hx]
    rw [← e, e2] at this
    omega
theorem later_mem {ks : List KD} {i : Nat} {p : Bool × Int} (h : p ∈ laterF ks i) (hi : i < ks.length) : p ∈ placesF (i + 1) (ks.drop (i + 1)) := by
  obtain ⟨h1, h2⟩ := List.mem_filter.mp h
  have h2 := of_decide_eq_true h2
  have e : ks = ks.take (i + 1) ++ ks.drop (i + 1) := (List.take_append_drop (i + 1) ks).symm
  rw [e, places_append, List.length_take, Nat.min_eq_left hi, Nat.zero_add] at h1
  rcases List.mem_append.mp h1 with h1 | h1
  · have := places_bnd _ _ p h1
    rw [List.length_take] at this
    omega
  · exact h1
theorem GoalsP.ok : ∀ {rs : List TR}, GoalsP [] rs → GoalsOk rs
  | [], _ => trivial
  | _ :: _, h => ⟨fun g hg => (h.1 g hg).resolve_right (by simp), GoalsP.ok h.2⟩
theorem GoalsP.app {p q : List (Bool × Int)} {qs : List TR} (hq : GoalsP q qs) (hs : ∀ g ∈ p, g ∈ keysL qs ∨ g ∈ q) : ∀ {rs : List TR}, GoalsP p rs → GoalsP q (rs ++ qs)
  | [], _ => hq
  | r :: rs, h => ⟨fun g hg => by
      show g ∈ keysL (rs ++ qs) ∨ g ∈ q
      rw [keysL_append]
      rcases h.1 g hg with h1 | h1
      · exact .inl (List.mem_append_left _ h1)
      · rcases hs g h1 with h2 | h2
        · exact .inl (List.mem_append_right _ h2)
        · exact .inr h2, GoalsP.app hq hs h.2⟩
theorem CmpOk.app {qs : List TR} (hq : CmpOk false qs) : ∀ {rs : List TR} {b : Bool}, CmpOk b rs → CmpOk b (rs ++ qs)
  | [], _, _ => CmpOk.any hq
  | r :: rs, b, h => by
    cases r with
    | jcc c o g => exact ⟨h.1, CmpOk.app hq (rs := rs) h.2⟩
    | _ => exact CmpOk.app hq (rs := rs) h
theorem ends_app : ∀ (rs : List TR), EndsRet (rs ++ [.ret])
  | [] => rfl
  | [r] => by cases r <;> rfl
  | r :: q :: rs => ends_app (q :: rs)
theorem ts0 (ks : List KD) : TS ks 0 [] where
  ok := fun _ h => nomatch h
  ky := rfl
  go := trivial
  cm := trivial
  le := Nat.le_refl _
theorem TS.add {ks : List KD} {i : Nat} {rs qs : List TR} (h : TS ks i rs) (hi : i < ks.length) (ok : ∀ r ∈ qs, okTR r) (ky : keysL qs = (ks[i]).pl i) (go : GoalsP (placesF (i + 1) (ks.drop (i + 1))) qs) (cm : CmpOk false qs) (le : qs.length ≤ 2) : TS ks (i + 1) (rs ++ qs) where
  ok := fun r hr => (List.mem_append.mp hr).elim (h.ok r) (ok r)
  ky := by rw [keysL_append, h.ky, places_take hi, ky]
  go := by
    refine go.app (fun g hg => ?_) h.go
    rw [List.drop_eq_getElem_cons hi, placesF] at hg
    rw [ky]
    exact List.mem_append.mp hg
  cm := cm.app h.cm
  le := by
    have := h.le
    rw [List.length_append]
    omega
theorem ts_end {ks : List KD} {rs : List TR} (h : TS ks ks.length rs) (hk : ks.length ≤ 14) : WF (rs ++ [.ret]) where
  ok := fun r hr => (List.mem_append.mp hr).elim (h.ok r) fun hr => by rw [List.mem_singleton.mp hr]; trivial
  nd := by
    rw [keysL_append, h.ky]
    show (_ ++ []).Nodup
    rw [List.append_nil]
    exact places_nodup _ _
  go := by
    have g := h.go
    rw [List.drop_length] at g
    refine GoalsP.ok (GoalsP.app (p := []) (q := []) (qs := [.ret]) ⟨fun _ h => (nomatch h), trivial⟩ (fun _ h => nomatch h) g)
  cm := CmpOk.app (qs := [.ret]) trivial h.cm
  er := ends_app rs
  le := by
    have := h.le
    rw [List.length_append, List.length_singleton]
    omega
section
variable {ks : List KD} {i : Nat} {rs : List TR}
theorem ts_mark {o : Bool} (h : TS ks i rs) (hi : i < ks.length) (hl : ks.length ≤ 14) (e : ks[i] = if o = true then .order else .mark) : TS ks (i + 1) (rs ++ [.mark o (i : Int)]) := by
  refine h.add hi (fun r hr => ?_) ?_ ⟨fun _ h => (nomatch h), trivial⟩ trivial (Nat.le_succ _)
  · rw [List.mem_singleton.mp hr]
    show 0 ≤ (i : Int) ∧ (i : Int) < 64
    omega
  · rw [e]
    cases o <;> rfl
theorem ts_move {a k : Int} (h : TS ks i rs) (hi : i < ks.length) (e : (ks[i]).pl i = []) (ha : 0 ≤ a ∧ a < 4) (hk : 0 ≤ k ∧ k < 64) : TS ks (i + 1) (rs ++ [.mov a k]) :=
  h.add hi (fun r hr => by rw [List.mem_singleton.mp hr]; exact ⟨ha, hk⟩) (by rw [e]; rfl) ⟨fun _ h => (nomatch h), trivial⟩ trivial (Nat.le_succ _)
theorem ts_add {a k : Int} (h : TS ks i rs) (hi : i < ks.length) (e : (ks[i]).pl i = []) (ha : 0 ≤ a ∧ a < 4) (hk : 0 ≤ k ∧ k < 4) : TS ks (i + 1) (rs ++ [.add a k]) :=
  h.add hi (fun r hr => by rw [List.mem_singleton.mp hr]; exact ⟨ha, hk⟩) (by rw [e]; rfl) ⟨fun _ h => (nomatch h), trivial⟩ trivial (Nat.le_succ _)
theorem later_bnd {p : Bool × Int} (hi : i < ks.length) (hl : ks.length ≤ 14) (hp : p ∈ laterF ks i) : 0 ≤ p.2 ∧ p.2 < 64 := by
  have := places_bnd _ _ p (later_mem hp hi)
  rw [List.length_drop] at this
  omega
theorem ts_jump {o : Bool} {g : Int} (h : TS ks i rs) (hi : i < ks.length) (hl : ks.length ≤ 14) (e : (ks[i]).pl i = []) (hp : (o, g) ∈ laterF ks i) : TS ks (i + 1) (rs ++ [.jmp o g]) :=
  h.add hi (fun r hr => by rw [List.mem_singleton.mp hr]; exact later_bnd hi hl hp) (by rw [e]; rfl) ⟨fun q hq => by cases hq; exact .inr (later_mem hp hi), trivial⟩ trivial (Nat.le_succ _)
theorem ts_branch {c : _root_.Fin 3} {o : Bool} {a k g : Int} (h : TS ks i rs) (hi : i < ks.length) (hl : ks.length ≤ 14) (e : (ks[i]).pl i = []) (ha : 0 ≤ a ∧ a < 4) (hk : 0 ≤ k ∧ k < 64) (hp : (o, g) ∈ laterF ks i) : TS ks (i + 1) (rs ++ [.cmp a k, .jcc c o g]) := by
  refine h.add hi (fun r hr => ?_) (by rw [e]; rfl) ⟨fun _ h => (nomatch h), fun q hq => by cases hq; exact .inr (later_mem hp hi), trivial⟩ ⟨rfl, trivial⟩ (Nat.le_refl _)
  simp only [List.mem_cons, List.not_mem_nil, or_false] at hr
  rcases hr with rfl | rfl
  · exact ⟨ha, hk⟩
  · exact later_bnd hi hl hp
end
end
section
set_option maxHeartbeats 400000
open PySem.Calls PyProof.V PySem.Spec PyProof.Rows.LCg
section
variable {prog : Program} {w : World} {A : Around} {E : Value → Shared → Prop} {s : Shared} {h₀ : Heap} {L : Addr} {m : Str → Option Value} {env : Env}
theorem eend {its all : List (Addr × Obj)} {J : List (Addr × Obj) → Prop} {h' : Heap} {tk : Nat} (news' : List (Addr × Obj)) (F : Fr h₀ L h' m) (N : News h₀ L h' all) (hs : ∀ p ∈ its ++ news', p ∈ all) (ho : ∀ p ∈ news', ∀ q ∈ its, p.1 ≠ q.1) (hj : J news') :
    EEnd h₀ L m s its J { s with heap := h', toks := tk } := ⟨h', tk, news', rfl, F, fun p hp => N p (hs p hp), ho, hj⟩
theorem enumLoop {ct elt iter : PySem.Expr} {a b : Str} {pa pb tp : Pos} {kk : Nat} {scope : Scope} {cl : List (Str × Addr)} {pos : Pos} {R : Result → Shared → Prop} {e it C D l : Addr} {vs : List Value} {n : Nat} {m' : Str → Option Value} {news : List (Addr × Obj)} (Inv : Nat → List Value → List (Addr × Obj) → Prop)
    (hh : A.handled = none) (hz : vs.length ≤ sizeLine) (hkind : scope.kind = .function) (hxa : scope.names.lookup a = some .local) (hxb : scope.names.lookup b = some .local) (hab : ¬ a = b) (four : Four h₀ L e it C D)
    (he : ∃ old, IsEnum s.heap e it ((0 : Nat) : Int) old) (hit : s.heap.IsListIter it l 0) (F : Fr h₀ L s.heap m) (N : News h₀ L s.heap ((D, lst []) :: news)) (hC : s.heap.Ns C m') (off : ∀ p ∈ news, p.1 ≠ e ∧ p.1 ≠ it ∧ p.1 ≠ C ∧ p.1 ≠ D)
    (hkeep : ∀ i ys nw, Inv i ys nw → (l, listOf vs.toArray n) ∈ nw) (h0 : Inv 0 [] news) (turn : ETurn prog w A h₀ L m s (fun C => compEnvC scope cl C env) ct elt a b vs Inv)
    (fin : ∀ ys nw h tk m', Inv vs.length ys nw → Fr h₀ L h m → News h₀ L h ((D, lst ys) :: nw) → h.Ns C m' → (∀ p ∈ nw, p.1 ≠ e ∧ p.1 ≠ it ∧ p.1 ≠ C ∧ p.1 ≠ D) → R (.ok .next) { s with heap := h, toks := tk }) :
    codeAny (model prog w) A (.compLoop (.ListComp elt [⟨.Tuple [.Name a pa, .Name b pb] kk tp, iter, [ct], 0⟩] scope pos) 0 (.ref e) (.ref D) (compEnvC scope cl C env)) R s := by
  have ol := off _ (hkeep _ _ _ h0)
  have W := KTurns.ofWalksU (elts := [.Name a pa, .Name b pb]) (k := kk) (pos := tp) (WalksT.enumerate (prog := prog) (w := w) hh e it l four.ei ol.1 ol.2.1 vs.toArray).toU
  have hsz : vs.toArray.size = vs.length := List.size_toArray ..
  refine kct_loop (EInv h₀ L m s e it C D l vs Inv) ?_ (vs.length + 1)
    ⟨s.heap, s.toks, 0, [], m', news, rfl, Nat.zero_le _, rfl, Nat.le_refl _, he, hit, F, hC, N, off, h0⟩
  rintro k s' ⟨h', tk, i, ys, m₁, nw, rfl, hi, rfl, hy, he', hit', F', hn', N', off', hJ⟩
  have hl' : h'.IsList l vs.toArray := ⟨_, (N' _ (.tail _ (hkeep _ _ _ hJ))).1, rfl, n, rfl⟩
  by_cases hlt : i < vs.length
  · refine W.item i _ _ _ (by rw [hsz]; exact hlt) ⟨he', hit', hl'⟩ fun v h₂ tk₂ hMd hk₂ => ?_
    refine W.go i v _ _ _ hMd fun h₃ hP hst₃ hk₃ => ?_
    obtain ⟨T, vals, rfl, ⟨t, x, hx, rfl⟩, hT⟩ := hP
    obtain ⟨⟨old₃, he₃⟩, hit₃, hl₃⟩ := hst₃
    have up₃ : ∀ c o, c ≠ e → c ≠ it → h'.get? c = some o → h₃.get? c = some o := fun c o h1 h2 q => hk₃ c o (by simp [h1, h2]) (hk₂ c o (by simp [h1, h2]) q)
    refine kcp_assign (env := compEnvC scope cl C env) hh hT (lookup_relabel_local hxa) (lookup_relabel_local hxb) (by simp [compEnvC, relabel, hkind]) (hn'.at' fun o q => up₃ _ o four.ec.symm four.ic.symm q) fun h₄ tk₄ hn₄ hs₄ => ?_
    have up : ∀ c o, c ≠ e → c ≠ it → c ≠ C → h'.get? c = some o → h₄.get? c = some o := fun c o h1 h2 h3 q => hs₄ c o h3 (up₃ c o h1 h2 q)
    have he₄ : IsEnum h₄ e it ((i + 1 : Nat) : Int) old₃ := hs₄ e _ four.ec he₃
    obtain ⟨oe, ge, hoe⟩ : ∃ oe, h₄.get? e = some oe ∧ ∀ h : Heap, h.get? e = some oe → ∃ old, IsEnum h e it ((i + 1 : Nat) : Int) old := ⟨_, he₄, fun _ q => ⟨_, q⟩⟩
    obtain ⟨oi, gi, hoi⟩ : ∃ oi, h₄.get? it = some oi ∧ ∀ h : Heap, h.get? it = some oi → h.IsListIter it l (i + 1) := by
      obtain ⟨oi, gi, ci⟩ := hit₃
      exact ⟨oi, hs₄ it _ four.ic gi, fun _ q => ⟨oi, q, ci⟩⟩
    obtain ⟨oC, gC, hoC⟩ := ns_obj hn₄
    have F₄ : Fr h₀ L h₄ m := ⟨F'.ns.at' fun o q => up _ o four.eL four.iL four.cL q, fun c o q => up c o (fun z => by rw [z, four.e0] at q; cases q) (fun z => by rw [z, four.i0] at q; cases q) (fun z => by rw [z, four.c0] at q; cases q) (F'.keep c o q), F'.above⟩
    have N₄ : News h₀ L h₄ ((e, oe) :: (it, oi) :: (C, oC) :: (D, lst ys) :: nw) := fun q hq => by
      rcases List.mem_cons.mp hq with rfl | hq
      · exact ⟨ge, Ne.symm four.eL, four.e0⟩
      rcases List.mem_cons.mp hq with rfl | hq
      · exact ⟨gi, Ne.symm four.iL, four.i0⟩
      rcases List.mem_cons.mp hq with rfl | hq
      · exact ⟨gC, Ne.symm four.cL, four.c0⟩
      have z := N' q hq
      rcases List.mem_cons.mp hq with rfl | hq
      · exact ⟨up _ _ four.ed.symm four.id.symm four.cd.symm z.1, z.2⟩
      · have o := off' q hq
        exact ⟨up _ _ o.1 o.2.1 o.2.2.1 z.1, z.2⟩
    have fin' : ∀ ys' : List Value, ys'.length ≤ i + 1 → ∀ h₅ tk₅ nw₅, Fr h₀ L h₅ m → News h₀ L h₅ ((e, oe) :: (it, oi) :: (C, oC) :: (D, lst ys') :: nw₅) → (∀ p ∈ nw₅, p.1 ≠ e ∧ p.1 ≠ it ∧ p.1 ≠ C ∧ p.1 ≠ D) → Inv (i + 1) ys' nw₅ →
        ∃ q', q' < vs.length + 1 - i ∧ EInv h₀ L m s e it C D l vs Inv q' { s with heap := h₅, toks := tk₅ } := fun ys' hy' h₅ tk₅ nw₅ F₅ N₅ off₅ hJ₅ =>
      ⟨vs.length + 1 - (i + 1), by omega, h₅, tk₅, i + 1, ys', _, nw₅, rfl, hlt, rfl, hy', hoe h₅ (N₅ _ (.head _)).1, hoi h₅ (N₅ _ (.tail _ (.head _))).1, F₅, hoC.ns (N₅ _ (.tail _ (.tail _ (.head _)))).1, fun q hq => N₅ q (.tail _ (.tail _ (.tail _ hq))), off₅, hJ₅⟩
    have offs : ∀ (o1 o2 o3 o4 : Obj) (nw₅ : List (Addr × Obj)), (∀ p ∈ nw₅, ∀ q ∈ [(e, o1), (it, o2), (C, o3), (D, o4)], p.1 ≠ q.1) → ∀ p ∈ nw₅, p.1 ≠ e ∧ p.1 ≠ it ∧ p.1 ≠ C ∧ p.1 ≠ D := fun o1 o2 o3 o4 nw₅ h p hp =>
      ⟨h p hp _ (.head _), h p hp _ (.tail _ (.head _)), h p hp _ (.tail _ (.tail _ (.head _))), h p hp _ (.tail _ (.tail _ (.tail _ (.head _))))⟩
    refine wpAny_mono (turn i ys nw x t e oe it oi C oC D _ h₄ tk₄ _ (by simpa using hx) hJ hoC (by simp [hab]) (by simp) four F₄ N₄ (fun p hp q hq => ?_)) (fun ok s₅ h₅ => ?_) fun _ _ z => z
    · have o := off' p hp
      simp only [List.mem_cons, List.not_mem_nil, or_false] at hq
      rcases hq with rfl | rfl | rfl | rfl
      · exact o.1
      · exact o.2.1
      · exact o.2.2.1
      · exact o.2.2.2
    cases ok with
    | false =>
      simp only [Bool.false_eq_true, if_false] at h₅ ⊢
      obtain ⟨h₅, tk₅, nw₅, rfl, F₅, N₅, off₅, hJ₅⟩ := h₅
      exact fin' ys (Nat.le_succ_of_le hy) h₅ tk₅ nw₅ F₅ N₅ (offs _ _ _ _ _ off₅) hJ₅
    | true =>
      simp only [if_true] at h₅ ⊢
      refine wpAny_mono h₅ (fun y s₆ h₆ => ?_) fun _ _ z => z
      obtain ⟨h₅, tk₅, nw₅, rfl, F₅, N₅, off₅, hJ₅⟩ := h₆
      have off6 := offs _ _ _ _ _ off₅
      have zD := N₅ (D, lst ys) (.tail _ (.tail _ (.tail _ (.head _))))
      refine append_at (hsz := by show ys.toArray.size ≤ sizeLine; rw [List.size_toArray]; exact Nat.le_trans hy (Nat.le_trans hi hz)) zD.1 fun h₆ hs₆ hD₆ => ?_
      refine fin' (ys ++ [y]) (by rw [List.length_append, List.length_singleton]; exact Nat.succ_le_succ hy) h₆ _ nw₅ (F₅.change hs₆ zD.2.1 zD.2.2) (fun q hq => ?_) off6 hJ₅
      have z : q ∈ (e, oe) :: (it, oi) :: (C, oC) :: nw₅ → h₅.get? q.1 = some q.2 ∧ q.1 ≠ L ∧ h₀.get? q.1 = none := fun hq => N₅ q (by
        rcases List.mem_cons.mp hq with rfl | hq
        · exact .head _
        rcases List.mem_cons.mp hq with rfl | hq
        · exact .tail _ (.head _)
        rcases List.mem_cons.mp hq with rfl | hq
        · exact .tail _ (.tail _ (.head _))
        · exact .tail _ (.tail _ (.tail _ (.tail _ hq))))
      rcases List.mem_cons.mp hq with rfl | hq
      · have y := z (.head _)
        exact ⟨hs₆.extBut _ _ four.ed y.1, y.2⟩
      rcases List.mem_cons.mp hq with rfl | hq
      · have y := z (.tail _ (.head _))
        exact ⟨hs₆.extBut _ _ four.id y.1, y.2⟩
      rcases List.mem_cons.mp hq with rfl | hq
      · have y := z (.tail _ (.tail _ (.head _)))
        exact ⟨hs₆.extBut _ _ four.cd y.1, y.2⟩
      rcases List.mem_cons.mp hq with rfl | hq
      · exact ⟨hD₆.trans (congrArg some (lst_snoc ys y)), zD.2⟩
      · have y := z (.tail _ (.tail _ (.tail _ hq)))
        exact ⟨hs₆.extBut _ _ (off6 q hq).2.2.2 y.1, y.2⟩
  · obtain rfl : i = vs.length := Nat.le_antisymm hi (Nat.not_lt.mp hlt)
    have hst' : (∃ old, IsEnum h' e it ((vs.toArray.size : Nat) : Int) old) ∧ h'.IsListIter it l vs.toArray.size ∧ h'.IsList l vs.toArray := by rw [hsz]; exact ⟨he', hit', hl'⟩
    refine W.done _ _ _ hst' fun h₂ tk₂ hk₂ => ?_
    have hk : ∀ c o, c ≠ e → c ≠ it → h'.get? c = some o → h₂.get? c = some o := fun c o h1 h2 q => hk₂ c o (by simp [h1, h2]) q
    refine fin ys nw h₂ tk₂ m₁ hJ ⟨F'.ns.at' fun o q => hk _ o four.eL four.iL q, fun c o q => hk c o (fun z => by rw [z, four.e0] at q; cases q) (fun z => by rw [z, four.i0] at q; cases q) (F'.keep c o q), F'.above⟩ (fun p hp => ?_) (hn'.at' fun o q => hk _ o four.ec.symm four.ic.symm q) off'
    have z := N' p hp
    rcases List.mem_cons.mp hp with rfl | hp
    · exact ⟨hk _ _ four.ed.symm four.id.symm z.1, z.2⟩
    · exact ⟨hk _ _ (off' p hp).1 (off' p hp).2.1 z.1, z.2⟩
end
end
section
set_option maxHeartbeats 400000
open PySem.Calls PyProof.V PySem.Spec PyProof.Rows.LCg
section
variable {prog : Program} {w : World} {A : Around} {E : Value → Shared → Prop} {s : Shared} {h₀ : Heap} {L : Addr} {m : Str → Option Value} {env : Env}
theorem enumSrc {ct elt : PySem.Expr} {a b : Str} {scope : Scope} {cl : List (Str × Addr)} {Fin : Shared → List Value → List (Addr × Obj) → Prop} {l : Addr} {vs : List Value} {n : Nat} {news : List (Addr × Obj)} (Inv : Nat → List Value → List (Addr × Obj) → Prop)
    (hh : A.handled = none) (F : Fr h₀ L s.heap m) (N : News h₀ L s.heap news) (hm : (l, listOf vs.toArray n) ∈ news) (hz : vs.length ≤ sizeLine) (hkeep : ∀ i ys nw, Inv i ys nw → (l, listOf vs.toArray n) ∈ nw) (h0 : Inv 0 [] news)
    (turn : ∀ g tk, ETurn prog w A h₀ L m { s with heap := g, toks := tk } (fun C => compEnvC scope cl C env) ct elt a b vs Inv)
    (fin : ∀ g tk ys nw, Inv vs.length ys nw → Fin { s with heap := g, toks := tk } ys nw) :
    wpAny (model prog w) A (call (.type "enumerate") [.ref l]) (fun xv s₁ => ESrc prog w A h₀ L m env ct elt a b scope cl Fin xv s₁) E s := by
  have hx := N _ hm
  have hl : s.heap.IsList l vs.toArray := ⟨_, hx.1, rfl, n, rfl⟩
  refine call_enumerate_list hl fun h' hE hI hsz hk => ?_
  have hL : L < s.heap.objs.size := F.ns.lt
  refine ⟨_, _, l, vs, n, news, Inv, rfl, hh, F.keeps hk, N.grown hk, hE, hI, ⟨Nat.succ_ne_self _, Nat.ne_of_lt (Nat.lt_succ_of_lt hL), Nat.ne_of_lt hL, ktu_new F (Nat.le_succ _), ktu_new F (Nat.le_refl _)⟩, fun p hp => ?_, hz, hkeep, h0, ?_⟩
  · have := Heap.lt_size (N p hp).1
    exact ⟨Nat.ne_of_lt (Nat.lt_succ_of_lt this), Nat.ne_of_lt this⟩
  · rintro s₂ ⟨g, tk, rfl⟩
    exact ⟨turn g tk, fin g tk⟩
theorem enumAssign {ct elt iter : PySem.Expr} {a b y : Str} {pa pb tp py : Pos} {kk : Nat} {scope : Scope} {cl : List (Str × Addr)} {pos spos : Pos} {Q : Flow → Shared → Prop} (F₀ : Fr h₀ L s.heap m) (hLe : env.locals = L)
    (hsw : swapsWith (.ListComp elt [⟨.Tuple [.Name a pa, .Name b pb] kk tp, iter, [ct], 0⟩] scope pos) (some (.Name y py)) spos.line env = pure true)
    (hclos : closureFor scope env = pure cl) (hcell : ∀ z ∈ scope.names, z.2 ≠ .cell) (hkind : scope.kind = .function)
    (hnames : ∀ z ∈ scope.names, z.2 = .local → scope.names.lookup z.1 = some .local) (hxa : scope.names.lookup a = some .local) (hxb : scope.names.lookup b = some .local) (hab : ¬ a = b)
    (hy : env.kindOf y = some .local) (hp : (env.scope.kind == .class || (env.scope.kind == .module && env.locals != env.globals)) = false)
    (h : wpAny (model prog w) A (eval iter env) (fun xv s₁ => ESrc prog w A h₀ L m env ct elt a b scope cl (fun s₂ => FinA h₀ L m s₂ y Q) xv s₁) E s)
    (hs : ∀ x, foldedSetIterable iter env x = pure x := by intro _; rfl) :
    wpAny (model prog w) A (exec (.Assign [.Name y py] (.ListComp elt [⟨.Tuple [.Name a pa, .Name b pb] kk tp, iter, [ct], 0⟩] scope pos) spos) env) Q E s := by
  subst hLe
  rw [exec_Assign_Name_used _ _ _ _ hsw]
  refine wpAny_bind (wpAny_standAt (wpAny_bind ?_))
  show wpAny _ A (do let _ ← comprehension (.ListComp elt [⟨.Tuple [.Name a pa, .Name b pb] kk tp, iter, [ct], 0⟩] scope pos) scope env _ (newList []) false (eval iter env) (some (assign (.Name y py) env))) _ _ s
  refine wpAny_bind (wpAny_mono (wpAny_comprehension_free (use := some (assign (.Name y py) env)) (Q := fun _ s' => Q .next s') rfl hs hclos hkind hnames
    (wpAny_mono h (fun xv s₁ h₁ => ?_) fun _ _ e => e)) (fun _ s' hq => wpAny_pure (wpAny_pure hq)) fun _ _ e => e)
  obtain ⟨e, it, l, vs, n, news, Inv, rfl, hh, F, N, hE, hI, ⟨nei, nLe, nLi, e0, i0⟩, off, hz, hkeep, h0, step⟩ := h₁
  refine wpAny_pyIter_enum hE ?_
  refine wpAny_newObj_type (wpAny_newFunctionEnv hcell (by intro y hy; simp at hy) (fun h₁ hns hsb => ?_) hkind)
  dsimp only at hns hsb ⊢
  generalize hg : s₁.heap.push { cls := .type "list", dict := none, data := .seq ([] : List Value).toArray } = g at hns hsb ⊢
  have hC : g.objs.size = s₁.heap.objs.size + 1 := by rw [← hg, Heap.size_push]
  have lo : ∀ b, b < s₁.heap.objs.size → b ≠ g.objs.size ∧ b ≠ s₁.heap.objs.size := fun b hb => ⟨by rw [hC]; exact Nat.ne_of_lt (Nat.lt_succ_of_lt hb), Nat.ne_of_lt hb⟩
  have nDC : s₁.heap.objs.size ≠ g.objs.size := by rw [hC]; exact Nat.ne_of_lt (Nat.lt_succ_self _)
  have old : ∀ b o, s₁.heap.get? b = some o → h₁.get? b = some o := fun b o q => hsb.extBut b o (lo b (Heap.lt_size q)).1 (Heap.get?_push_of_some _ (hg ▸ Heap.get?_push_of_some _ q))
  have hD : h₁.get? s₁.heap.objs.size = some (lst []) := hsb.extBut _ _ nDC (Heap.get?_push_of_some _ (hg ▸ Heap.get?_push_size _ rfl))
  have le : e < s₁.heap.objs.size := Heap.lt_size hE
  have li : it < s₁.heap.objs.size := by obtain ⟨_, q, _⟩ := hI; exact Heap.lt_size q
  have lL : env.locals < s₁.heap.objs.size := F.ns.lt
  have four : Four h₀ env.locals e it g.objs.size s₁.heap.objs.size := ⟨e0, i0, ktu_new F (by rw [hC]; exact Nat.le_succ _), ktu_new F (Nat.le_refl _), nLe, nLi, (lo _ lL).1, (lo _ lL).2, nei, (lo _ le).1, (lo _ le).2, (lo _ li).1, (lo _ li).2, Ne.symm nDC⟩
  obtain ⟨turn, fin⟩ := step { s₁ with heap := h₁, toks := s₁.toks + ([] : List (Str × Value)).length } ⟨_, _, rfl⟩
  have loop : ∀ s₃ : Shared, s₃ = { s₁ with heap := h₁, toks := s₁.toks + ([] : List (Str × Value)).length } →
      codeAny (model prog w) A (.compLoop (.ListComp elt [⟨.Tuple [.Name a pa, .Name b pb] kk tp, iter, [ct], 0⟩] scope pos) 0 (.ref e) (.ref s₁.heap.objs.size) (compEnvC scope cl g.objs.size env))
        (compPost (model prog w) A E (some (assign (.Name y py) env)) (fun _ s' => Q .next s') (.ref s₁.heap.objs.size) g.objs.size) s₃ := by
    rintro s₃ rfl
    refine enumLoop (it := it) (l := l) (vs := vs) (n := n) (news := news) Inv hh hz hkind hxa hxb hab four ⟨_, old _ _ hE⟩ (hI.at fun o q => old _ o q) (F.keeps old) (fun p hp => ?_) hns (fun p hp => ?_) hkeep h0 turn ?_
    · rcases List.mem_cons.mp hp with rfl | hp
      · exact ⟨hD, Ne.symm (lo _ lL).2, ktu_new F (Nat.le_refl _)⟩
      · exact ⟨old _ _ (N p hp).1, (N p hp).2⟩
    · have q := lo _ (Heap.lt_size (N p hp).1)
      exact ⟨(off p hp).1, (off p hp).2, q.1, q.2⟩
    · intro ys nw h' tk m' hJ F' N' hn off'
      show wpAny _ A (assign (.Name y py) env (.ref s₁.heap.objs.size)) _ _ _
      refine wpAny_assign_Name (wpAny_storeName_local hy F'.ns (fun h₂ hn₂ hs₂ => ?_) hp)
      have hL₀ : h₀.get? env.locals = none := Heap.get?_none_of_le F'.above
      have F₂ : Fr h₀ env.locals h₂ (fun z => if z = y then some (.ref s₁.heap.objs.size) else m z) := ⟨hn₂, fun b o q => hs₂.extBut b o (fun z => by rw [z, hL₀] at q; cases q) (F'.keep b o q), F'.above⟩
      refine ⟨m', hn.sameBut hs₂ (Ne.symm four.cL), fun h'' hs'' => fin ys nw hJ _ h'' _ (F₂.change hs'' (Ne.symm four.cL) four.c0) (fun p hp => ?_) ?_⟩
      · have z : h₂.get? p.1 = some p.2 := hs₂.extBut _ _ (N' p hp).2.1 (N' p hp).1
        refine ⟨hs''.extBut _ _ ?_ z, (N' p hp).2⟩
        rcases List.mem_cons.mp hp with rfl | hp
        · exact nDC
        · exact (off' p hp).2.2.1
      · clear hJ N'
        induction nw with
        | nil => trivial
        | cons p r ih => exact ⟨(off' p (.head _)).2.2.2, ih fun q hq => off' q (.tail _ hq)⟩
  exact codeAny_compStart_list (loop _ rfl) (wpAny_pyIter_enum (old _ _ hE) (loop _ rfl))
end
end
section
theorem KsAre.length : ∀ {vs : List Value} {ks : List KD}, KsAre vs ks → vs.length = ks.length := fun H => by
  induction H with
  | nil => rfl
  | cons _ _ _ ih => exact congrArg (· + 1) ih
theorem KsAre.snoc (k : KD) (t : Tok) : ∀ {vs : List Value} {ks : List KD}, KsAre vs ks → KsAre (vs ++ [.str k.s t]) (ks ++ [k]) := fun H => by
  induction H with
  | nil => exact .cons k t .nil
  | cons k' t' _ ih => exact .cons k' t' ih
theorem KsAre.get : ∀ {vs : List Value} {ks : List KD}, KsAre vs ks → ∀ {i : Nat}, (h : i < ks.length) → ∃ t, vs[i]? = some (.str (ks[i]).s t) := fun H => by
  induction H with
  | nil => exact fun h => absurd h (Nat.not_lt_zero _)
  | cons _ t _ ih =>
    intro i hi
    cases i with
    | zero => exact ⟨t, rfl⟩
    | succ i => exact ih (i := i) (Nat.lt_of_succ_lt_succ hi)
theorem penLed_mk {pen p0 : Addr} {own : List (Addr × Obj)} {k c : Int} {tk tc : Tok} {n0 n1 : Nat} {vs : List Value} {ns : List Int} (hi : IntsAre vs ns) (hl : ns.length ≤ 64) : PenLed pen p0 own ((pen, listOf #[.ref p0, .int k tk, .int c tc] n0) :: (p0, listOf vs.toArray n1) :: own) :=
  ⟨k, c, tk, tc, n0, n1, vs, ns, hi, hl, fun p => by rw [List.mem_cons, List.mem_cons]⟩
theorem PenLed.open {pen p0 : Addr} {own news : List (Addr × Obj)} {h₀ h : Heap} {L : Addr} (P : PenLed pen p0 own news) (N : News h₀ L h news) :
    POpen pen p0 own h₀ h L := by
  obtain ⟨k, c, tk, tc, n0, n1, vs, ns, hi, hl, hm⟩ := P
  exact ⟨k, c, tk, tc, n0, n1, vs, ns, hi, hl, fun p hp => N p ((hm p).mpr (by simpa only [List.mem_cons] using hp))⟩
theorem off_add {a : Addr} {o : Obj} {own : List (Addr × Obj)} {l : List Addr} (h : OwnOff own l) (h1 : ∀ b ∈ l, @Ne Nat a b) : OwnOff ((a, o) :: own) l := fun p hp b hb => by
  rcases List.mem_cons.mp hp with rfl | hp
  · exact h1 b hb
  · exact h p hp b hb
theorem two_ne {a b c : Addr} (h : @Ne Nat a b) (h' : @Ne Nat a c) : ∀ x ∈ [b, c], @Ne Nat a x := fun x hx => by
  simp only [List.mem_cons, List.not_mem_nil, or_false] at hx
  rcases hx with rfl | rfl
  · exact h
  · exact h'
theorem pick8 {a b c d e f g h : Tok} {i : Nat} {v : Value} (hv : ([.str (Str.ofString "mark") a, .str (Str.ofString "jump") b, .str (Str.ofString "mark") c, .str (Str.ofString "move") d, .str (Str.ofString "order") e, .str (Str.ofString "jump") f, .str (Str.ofString "branch") g, .str (Str.ofString "sum") h] : List Value)[i]? = some v) : ∃ (k : KD) (t : Tok), v = .str k.s t := by
  match i, hv with
  | 0, h => exact ⟨.mark, _, (Option.some.inj h).symm⟩
  | 1, h => exact ⟨.jump, _, (Option.some.inj h).symm⟩
  | 2, h => exact ⟨.mark, _, (Option.some.inj h).symm⟩
  | 3, h => exact ⟨.move, _, (Option.some.inj h).symm⟩
  | 4, h => exact ⟨.order, _, (Option.some.inj h).symm⟩
  | 5, h => exact ⟨.jump, _, (Option.some.inj h).symm⟩
  | 6, h => exact ⟨.branch, _, (Option.some.inj h).symm⟩
  | 7, h => exact ⟨.sum, _, (Option.some.inj h).symm⟩
  | _ + 8, h => exact absurd h (by simp)
theorem ltAll' {d : Addr} : ∀ {l : List (Addr × Obj)}, AllLt d l → ∀ p ∈ l, p.1 < d
  | [], _, _, h => nomatch h
  | _ :: _, x, p, h => by
    rcases List.mem_cons.mp h with rfl | h
    · exact x.1
    · exact ltAll' x.2 p h
theorem three_ne {a b c d : Addr} (h : @Ne Nat a b) (h' : @Ne Nat a c) (h'' : @Ne Nat a d) : ∀ x ∈ [b, c, d], @Ne Nat a x := fun x hx => by
  simp only [List.mem_cons, List.not_mem_nil, or_false] at hx
  rcases hx with rfl | rfl | rfl
  · exact h
  · exact h'
  · exact h''
theorem offTwo {a b I C D : Addr} {o1 o2 o3 o4 : Obj} {l : List (Addr × Obj)} (h : ∀ p ∈ (a, o1) :: (b, o2) :: l, p.1 ≠ I ∧ p.1 ≠ C ∧ p.1 ≠ D) : ∀ p ∈ (a, o3) :: (b, o4) :: l, p.1 ≠ I ∧ p.1 ≠ C ∧ p.1 ≠ D := fun p hp => by
  rcases List.mem_cons.mp hp with rfl | hp
  · exact h (a, o1) (.head _)
  rcases List.mem_cons.mp hp with rfl | hp
  · exact h (b, o2) (.tail _ (.head _))
  · exact h p (.tail _ (.tail _ hp))
theorem okd_p (p : Bool × Int) : kqdOk 8 (datP p) = true := by
  have : PyData.strOk (kdS p.1) = true := by cases p.1 <;> decide +kernel
  simp [datP, kqdOk, this]
section
variable {prog : Program} {w : World} {A : Around} {E : Value → Shared → Prop} {s : Shared} {h₀ : Heap} {L a b : Addr} {news n₁ : List (Addr × Obj)} {xs : List Value} {ka kb : Nat} {ps : List (Bool × Int)} {Q : Value → Shared → Prop}
theorem ne_led (b' : Bool) (hb' : (!ps.isEmpty) = b') (N : News h₀ L s.heap news) (ma : (a, listOf xs.toArray ka) ∈ news) (Da : DatAll n₁ xs (ps.map datP)) (sa : ∀ p ∈ n₁, p ∈ news) (mb : (b, listOf #[] kb) ∈ news) (hu : A.units + 64 < cLine) (h : Q (.bool b') s) :
    wpAny (model prog w) A (compareOp .NotEq (.ref a) (.ref b)) Q E s := by
  subst hb'
  refine kqd_ne (ys := []) (es := []) (n₂ := []) N ma rfl rfl Da sa mb rfl rfl .nil (fun _ h => nomatch h) (fun d hd => ?_) (fun _ h => nomatch h) hu ?_
  · obtain ⟨p, _, rfl⟩ := List.mem_map.mp hd
    exact okd_p p
  · have e : (!decide (ps.map datP = [])) = !ps.isEmpty := by cases ps <;> simp
    rw [e]
    exact h
end
section
variable {prog : Program} {w : World} {A : Around} {E : Value → Shared → Prop} {s : Shared} {h₀ : Heap} {L D : Addr} {m : Str → Option Value} {news news' : List (Addr × Obj)} {n : Nat} {vs : List Value} {x : Value}
theorem kw42 : True := by
 w_top off
 k_with "fold9" => ((try (refine letf (by assumption) ?_; intro m9ᵩ F9ᵩ)); (try (refine letn (by assumption) ?_; intro w9ᵩ N9ᵩ)))
 trivial
theorem app_led {Q : Value → Shared → Prop} (F : Fr h₀ L s.heap m) (N : News h₀ L s.heap news) (hz : vs.length ≤ 64) (U : Upd D (listOf vs.toArray n) (listOf (vs ++ [x]).toArray (n + 1)) news news') (h : ∀ h', Fr h₀ L h' m → News h₀ L h' news' → Q .none { s with heap := h' }) :
    wpAny (model prog w) A (call (.builtin "list.append") [.ref D, x]) Q E s := by
  obtain ⟨pre, post, rfl, rfl, a, b⟩ := U.split
  have z := N (D, listOf vs.toArray n) (List.mem_append.mpr (.inr (.head _)))
  refine append_at (hsz := by rw [List.size_toArray, PySem.sizeLine_eq]; omega) z.1 fun h' hs ho => h h' (F.change hs z.2.1 z.2.2) (N.setAt a b hs ?_)
  rw [ho, List.push_toArray]
end
theorem app64 {vs : List Value} (h : vs.length ≤ 28) : vs.length ≤ 64 := Nat.le_trans h (by decide)
theorem app65 {vs : List Value} {x : Value} (h : vs.length ≤ 28) : (vs ++ [x]).length ≤ 64 := by
  rw [List.length_append, List.length_singleton]
  omega
theorem pick4 {a b c d : Tok} {i : Nat} {v : Value} (hv : ([.int 0 a, .int 0 b, .int 1 c, .int 2 d] : List Value)[i]? = some v) : ∃ (z : Int) (t : Tok), v = .int z t ∧ 0 ≤ z ∧ z < 3 := by
  match i, hv with
  | 0, h => exact ⟨0, _, (Option.some.inj h).symm, by decide, by decide⟩
  | 1, h => exact ⟨0, _, (Option.some.inj h).symm, by decide, by decide⟩
  | 2, h => exact ⟨1, _, (Option.some.inj h).symm, by decide, by decide⟩
  | 3, h => exact ⟨2, _, (Option.some.inj h).symm, by decide, by decide⟩
  | _ + 4, h => exact absurd h (by simp)
theorem pick3 {a b c : Tok} {i : Nat} {v : Value} (hv : ([.str (Str.ofString "e") a, .str (Str.ofString "a") b, .str (Str.ofString "le") c] : List Value)[i]? = some v) : ∃ (z : _root_.Fin 3) (t : Tok), v = .str (ccS z) t := by
  match i, hv with
  | 0, h => exact ⟨0, _, (Option.some.inj h).symm⟩
  | 1, h => exact ⟨1, _, (Option.some.inj h).symm⟩
  | 2, h => exact ⟨2, _, (Option.some.inj h).symm⟩
  | _ + 3, h => exact absurd h (by simp)
theorem ho_add {x y a : Addr × Obj} {l : List (Addr × Obj)} (h : ∀ p ∈ l, ∀ q ∈ [x, y], p.1 ≠ q.1) (h1 : @Ne Nat a.1 x.1) (h2 : @Ne Nat a.1 y.1) : ∀ p ∈ a :: l, ∀ q ∈ [x, y], p.1 ≠ q.1 := fun p hp q hq => by
  rcases List.mem_cons.mp hp with rfl | hp
  · simp only [List.mem_cons, List.not_mem_nil, or_false] at hq
    rcases hq with rfl | rfl
    · exact h1
    · exact h2
  · exact h p hp q hq
theorem four_ne {a b c d e : Addr} (h : @Ne Nat a b) (h' : @Ne Nat a c) (h'' : @Ne Nat a d) (h3 : @Ne Nat a e) : ∀ x ∈ [b, c, d, e], @Ne Nat a x := fun x hx => by
  simp only [List.mem_cons, List.not_mem_nil, or_false] at hx
  rcases hx with rfl | rfl | rfl | rfl
  · exact h
  · exact h'
  · exact h''
  · exact h3
section
variable {h₀ : Heap} {L : Addr} {m' : Str → Option Value} {s : Shared} {h' : Heap} {tk : Nat} {Q : Flow → Shared → Prop} {J : (Str → Option Value) → List (Addr × Obj) → Prop} {t5 t4 t3 t2 t1 x0 x1 x2 x3 x4 pe pz ii jj rl dp dk ou ov : Addr × Obj} {tl : List (Addr × Obj)}
theorem fendB (F : Fr h₀ L h' m') (N : News h₀ L h' (t2 :: t1 :: pe :: pz :: x3 :: ii :: jj :: rl :: dp :: dk :: ou :: ov :: tl)) (ho : ∀ p ∈ rl :: dp :: dk :: pe :: pz :: ou :: ov :: t2 :: t1 :: tl, ∀ q ∈ [ii, jj], p.1 ≠ q.1)
    (hj : J m' (rl :: dp :: dk :: pe :: pz :: ou :: ov :: t2 :: t1 :: tl)) : FIPost h₀ L [ii, jj] J s Q .next { s with heap := h', toks := tk } := fiend _ F N (by repeat' (first | exact fun _ h => h | refine subl_cons (by k_mem) ?_ | (intro p hp; k_mem))) ho hj
theorem fendC (F : Fr h₀ L h' m') (N : News h₀ L h' (t2 :: pe :: pz :: x3 :: ii :: jj :: rl :: dp :: dk :: ou :: ov :: tl)) (ho : ∀ p ∈ rl :: dp :: dk :: pe :: pz :: ou :: ov :: t2 :: tl, ∀ q ∈ [ii, jj], p.1 ≠ q.1)
    (hj : J m' (rl :: dp :: dk :: pe :: pz :: ou :: ov :: t2 :: tl)) : FIPost h₀ L [ii, jj] J s Q .next { s with heap := h', toks := tk } := fiend _ F N (by repeat' (first | exact fun _ h => h | refine subl_cons (by k_mem) ?_ | (intro p hp; k_mem))) ho hj
theorem fendD (F : Fr h₀ L h' m') (N : News h₀ L h' (t5 :: t4 :: t3 :: pe :: pz :: x4 :: t2 :: t1 :: x3 :: ii :: jj :: rl :: dp :: dk :: ou :: ov :: tl)) (ho : ∀ p ∈ rl :: dp :: dk :: pe :: pz :: ou :: ov :: t5 :: t4 :: t2 :: t1 :: tl, ∀ q ∈ [ii, jj], p.1 ≠ q.1)
    (hj : J m' (rl :: dp :: dk :: pe :: pz :: ou :: ov :: t5 :: t4 :: t2 :: t1 :: tl)) : FIPost h₀ L [ii, jj] J s Q .next { s with heap := h', toks := tk } := fiend _ F N (by repeat' (first | exact fun _ h => h | refine subl_cons (by k_mem) ?_ | (intro p hp; k_mem))) ho hj
end
theorem off_sub {own : List (Addr × Obj)} {l l' : List Addr} (h : OwnOff own l) (hs : ∀ b ∈ l', b ∈ l) : OwnOff own l' := fun p hp b hb => h p hp b (hs b hb)
theorem place_of {I : List (Addr × Obj)} {v : Value} {p : Bool × Int} (h : DatIn I v (datP p)) : ∃ (a : Addr) (t u : Tok) (k : Nat), v = .ref a ∧ (a, tupO [.str (kdS p.1) t, .int p.2 u] k) ∈ I := by
  cases h with
  | tuple hm hv =>
    obtain ⟨t, u, rfl⟩ := da_si hv
    exact ⟨_, t, u, _, rfl, hm⟩
theorem filt_yes {α : Type} {f : α → Bool} {l : List α} {j : Nat} (h : j < l.length) (e : f l[j] = true) : (l.take (j + 1)).filter f = (l.take j).filter f ++ [l[j]] := by
  rw [List.take_succ_eq_append_getElem h, List.filter_append]
  simp [e]
theorem filt_no {α : Type} {f : α → Bool} {l : List α} {j : Nat} (h : j < l.length) (e : f l[j] = false) : (l.take (j + 1)).filter f = (l.take j).filter f := by
  rw [List.take_succ_eq_append_getElem h, List.filter_append]
  simp [e]
theorem da_snoc {I : List (Addr × Obj)} {v : Value} {d : Dat} : ∀ {vs : List Value} {ds : List Dat}, DatAll I vs ds → DatIn I v d → DatAll I (vs ++ [v]) (ds ++ [d])
  | _, _, .nil, h => .cons h .nil
  | _, _, .cons a r, h => .cons a (da_snoc r h)
section
variable {h₀ : Heap} {L : Addr} {m : Str → Option Value} {s : Shared} {h' : Heap} {tk : Nat} {J : List (Addr × Obj) → Prop} {q g1 e1 i1 c1 d1 b1 b2 b3 b4 b5 : Addr × Obj} {tl : List (Addr × Obj)}
theorem eend_two (F : Fr h₀ L h' m) (N : News h₀ L h' (q :: g1 :: e1 :: i1 :: c1 :: d1 :: b1 :: b2 :: b3 :: b4 :: b5 :: tl)) (ho : ∀ p ∈ b1 :: b2 :: b3 :: b4 :: b5 :: tl, ∀ r ∈ [e1, i1, c1, d1], p.1 ≠ r.1) (hq : ∀ r ∈ [e1, i1, c1, d1], q.1 ≠ r.1)
    (hj : J (b1 :: b2 :: b3 :: b4 :: b5 :: q :: tl)) : EEnd h₀ L m s [e1, i1, c1, d1] J { s with heap := h', toks := tk } := by
  refine eend _ F N (by repeat' (first | exact fun _ h => h | refine subl_cons (by k_mem) ?_ | (intro p hp; k_mem))) (fun p hp => ?_) hj
  have : p ∈ q :: b1 :: b2 :: b3 :: b4 :: b5 :: tl := ((by repeat' (first | exact fun _ h => h | refine subl_cons (by k_mem) ?_ | (intro p hp; k_mem))) : ∀ p ∈ b1 :: b2 :: b3 :: b4 :: b5 :: q :: tl, p ∈ q :: b1 :: b2 :: b3 :: b4 :: b5 :: tl) p hp
  rcases List.mem_cons.mp this with rfl | hp
  · exact hq
  · exact ho p hp
theorem eend_none (F : Fr h₀ L h' m) (N : News h₀ L h' (g1 :: e1 :: i1 :: c1 :: d1 :: tl)) (ho : ∀ p ∈ tl, ∀ r ∈ [e1, i1, c1, d1], p.1 ≠ r.1)
    (hj : J tl) : EEnd h₀ L m s [e1, i1, c1, d1] J { s with heap := h', toks := tk } := eend _ F (news_tl N) (fun _ h => h) ho hj
end
section
variable {prog : Program} {w : World} {A : Around} {E : Value → Shared → Prop} {env : Env} {gn : Array GenState} {dr : Drawn} {oz : OsState} {hp : Heap} {tk : Nat} {Q : Flow → Shared → Prop} {x y b b' v : Str} {t : Tok} {gv : Value} {k k' : Nat} {p1 p2 p3 p4 p5 q1 q2 q3 : Pos} {body orelse : List Stmt}
theorem teq {Q : Bool → Shared → Prop} {e : Sem Value} (hn : ∀ (Q : Value → Shared → Prop) (tk : Nat) (p : Pos), Q (.str v t) ⟨hp, gn, dr, tk, oz⟩ → wpAny (model prog w) A (eval (.Name x p) env) Q E ⟨hp, gn, dr, tk, oz⟩)
    (h : Q (v == b) ⟨hp, gn, dr, tk + 1, oz⟩) : wpAny (model prog w) A (isTrue (.Compare (.Name x p1) [.Eq] [.Constant (.str b) k p2] p3) env e) Q E ⟨hp, gn, dr, tk, oz⟩ :=
  wpAny_isTrue_Compare1 (hn _ _ _ (Calls.Constant_str (eq_str (wpAny_truthy_bool h))))
theorem tis {Q : Bool → Shared → Prop} {e : Sem Value} (hn : ∀ (Q : Value → Shared → Prop) (tk : Nat) (p : Pos), Q gv ⟨hp, gn, dr, tk, oz⟩ → wpAny (model prog w) A (eval (.Name x p) env) Q E ⟨hp, gn, dr, tk, oz⟩)
    (h : Q (gv == .none) ⟨hp, gn, dr, tk, oz⟩) : wpAny (model prog w) A (isTrue (.Compare (.Name x p1) [.Is] [.Constant .none k p2] p3) env e) Q E ⟨hp, gn, dr, tk, oz⟩ :=
  wpAny_isTrue_Compare1 (hn _ _ _ (wpAny_Constant_none (is_none (wpAny_truthy_bool h))))
theorem tor {Q : Bool → Shared → Prop} {e : Sem Value} {a c : PySem.Expr} {va vc b : Bool} (ha : ∀ Q : Bool → Shared → Prop, (∀ tk, Q va ⟨hp, gn, dr, tk, oz⟩) → ∀ tk e, wpAny (model prog w) A (isTrue a env e) Q E ⟨hp, gn, dr, tk, oz⟩)
    (hc : ∀ Q : Bool → Shared → Prop, (∀ tk, Q vc ⟨hp, gn, dr, tk, oz⟩) → ∀ tk e, wpAny (model prog w) A (isTrue c env e) Q E ⟨hp, gn, dr, tk, oz⟩)
    (hb : (va || vc) = b) (h : ∀ tk, Q b ⟨hp, gn, dr, tk, oz⟩) : wpAny (model prog w) A (isTrue (.BoolOp .Or [a, c] p5) env e) Q E ⟨hp, gn, dr, tk, oz⟩ := by
  subst hb
  refine isTrue_or (ha _ (fun tk => ?_) _ _)
  cases va
  · refine isTrue_or (hc _ (fun tk => ?_) _ _)
    cases vc
    · exact isTrue_or_nil (h tk)
    · exact h tk
  · exact h tk
theorem eif1 {c : Bool} (hn : ∀ (Q : Value → Shared → Prop) (tk : Nat) (p : Pos), Q (.str v t) ⟨hp, gn, dr, tk, oz⟩ → wpAny (model prog w) A (eval (.Name x p) env) Q E ⟨hp, gn, dr, tk, oz⟩)
    (hb : ((v == b) || (v == b')) = c) (h : ∀ tk, wpAny (model prog w) A (execs (if c = true then body else orelse) env) Q E ⟨hp, gn, dr, tk, oz⟩) :
    wpAny (model prog w) A (exec (.If (.BoolOp .Or [.Compare (.Name x p1) [.Eq] [.Constant (.str b) k p2] p3, .Compare (.Name x q1) [.Eq] [.Constant (.str b') k' q2] q3] p4) body orelse p5) env) Q E ⟨hp, gn, dr, tk, oz⟩ :=
  wpAny_If (tor (fun _ h _ _ => teq hn (h _)) (fun _ h _ _ => teq hn (h _)) hb fun tk => by cases c <;> exact h tk)
theorem eif2 {c : Bool} (hn : ∀ (Q : Value → Shared → Prop) (tk : Nat) (p : Pos), Q (.str v t) ⟨hp, gn, dr, tk, oz⟩ → wpAny (model prog w) A (eval (.Name x p) env) Q E ⟨hp, gn, dr, tk, oz⟩)
    (hm : ∀ (Q : Value → Shared → Prop) (tk : Nat) (p : Pos), Q gv ⟨hp, gn, dr, tk, oz⟩ → wpAny (model prog w) A (eval (.Name y p) env) Q E ⟨hp, gn, dr, tk, oz⟩)
    (hb : ((v == b) || (gv == .none)) = c) (h : ∀ tk, wpAny (model prog w) A (execs (if c = true then body else orelse) env) Q E ⟨hp, gn, dr, tk, oz⟩) :
    wpAny (model prog w) A (exec (.If (.BoolOp .Or [.Compare (.Name x p1) [.Eq] [.Constant (.str b) k p2] p3, .Compare (.Name y q1) [.Is] [.Constant .none k' q2] q3] p4) body orelse p5) env) Q E ⟨hp, gn, dr, tk, oz⟩ :=
  wpAny_If (tor (fun _ h _ _ => teq hn (h _)) (fun _ h _ _ => tis hm (h _)) hb fun tk => by cases c <;> exact h tk)
end
theorem kcase {tl0 : List (Addr × Obj)} {lf : List (Bool × Int)} {i : Nat} {gv : Value} (kd : KD) (h : GoalV tl0 lf gv) : KCase tl0 lf i kd gv := by
  cases h with
  | no => cases kd <;> first | exact .mark _ | exact .order _ | exact .mov _ _ rfl rfl rfl
  | yes ap ta tb kp go gg _ hm hl => cases kd <;> first | exact .mark _ | exact .order _ | exact .jump ap ta tb kp go gg hm hl | exact .branch ap ta tb kp go gg hm hl | exact .sum ap | exact .mov _ _ rfl rfl rfl
theorem goal_mono {M : Model} {A : Around} {t : Sem Value} {g hp : Heap} {L' : Addr} {m : Str → Option Value} (pen p0 : Addr) (tl0 : List (Addr × Obj)) (lf : List (Bool × Int)) {rest : List (Addr × Obj)} {x y z : Addr × Obj} {gn : Array GenState} {dr : Drawn} {tk : Nat} {oz : OsState} {Q : Value → Shared → Prop} {E : Value → Shared → Prop} (F : Fr g L' hp m) (_ : News g L' hp (x :: y :: z :: rest))
    (one : wpAny M A t (GoalP g L' m pen p0 rest tl0 lf gn dr oz) E ⟨hp, gn, dr, tk, oz⟩) (two : ∀ v s', GoalP g L' m pen p0 rest tl0 lf gn dr oz v s' → Q v s') : wpAny M A t Q E ⟨hp, gn, dr, tk, oz⟩ := wpAny_mono one two fun _ _ h => h
theorem news_d3 {h₀ h : Heap} {L : Addr} {pe pz a b c : Addr × Obj} {l : List (Addr × Obj)} (N : News h₀ L h (pe :: pz :: a :: b :: c :: l)) : News h₀ L h (pe :: pz :: l) := fun p hp => N p (by
  rcases List.mem_cons.mp hp with rfl | hp
  · exact .head _
  rcases List.mem_cons.mp hp with rfl | hp
  · exact .tail _ (.head _)
  · exact .tail _ (.tail _ (.tail _ (.tail _ (.tail _ hp)))))
section
theorem kw43 : True := by
 w_top off
 k_with "eval Name" => (k_here; (with_reducible show wpAny _ _ (eval (PySem.Expr.Name _ _) (compEnvC _ _ _ _)) _ _ _); k_dflt (first | (refine' LCgL.ld_own ?y9a ?y9b ?y9c ?y9d ?_; (case y9a => k_asm); (case y9b => k_mem); (case y9c => assumption); (case y9d => assumption)) | (refine' LCgL.ld_global ?y9a ?y9b ?y9c ?y9d ?_; (case y9a => k_asm); (case y9b => k_asm); (case y9c => k_asm); (case y9d => k_is))))
 k_with "exec For" => (k_here; (with_reducible show wpAny _ _ (exec (PySem.Stmt.For _ _ _ _ _) _) _ _ _); refine StopG.out ?_)
 k_with "call ref" => (k_here; (with_reducible show wpAny _ _ (call (Value.ref 466) _) _ _ _); refine StopG.out ?_)
 k_with "call ref" => (k_here; (with_reducible show wpAny _ _ (call (Value.ref 473) _) _ _ _); refine StopG.out ?_)
 k_with "CompSrc" => (k_here; refine StopG.out ?_)
 k_with "exec Assign cons ListComp" => (k_here; (with_reducible show wpAny _ _ (exec (PySem.Stmt.Assign _ (PySem.Expr.ListComp _ (PySem.Comprehension.mk (PySem.Expr.Tuple _ _ _) _ _ _ :: _) _ _) _) _) _ _ _); refine StopG.out ?_)
 k_with "eval IfExp" => (k_here; (with_reducible show wpAny _ _ (eval (PySem.Expr.IfExp (PySem.Expr.Compare _ (CmpOp.NotEq :: _) _ _) _ _ _) _) _ _ _); refine StopG.out ?_)
 k_with "exec If" => (k_here; (with_reducible show wpAny _ _ (exec (PySem.Stmt.If (PySem.Expr.BoolOp _ _ _) _ _ _) _) _ _ _); refine StopG.out ?_)
 k_with "binaryOp Add ref ref" => (k_here; (with_reducible show wpAny _ _ (binaryOp _ (Value.ref lr) (Value.ref _)) _ _ _); refine StopG.out ?_)
 k_with "call type:enumerate" => (k_here; (with_reducible show wpAny _ _ (call (Value.type _) [Value.ref _]) _ _ _); refine StopG.out ?_)
 k_with "compareOp NotEq ref ref" => (k_here; (with_reducible show wpAny _ _ (compareOp _ (Value.ref _) (Value.ref _)) _ _ _); refine StopG.out ?_)
 k_with "subscriptTail Name BinOp ref int" => (k_here; (with_reducible show wpAny _ _ (subscriptTail (PySem.Expr.Name _ _) (PySem.Expr.BinOp _ _ _ _) (Value.ref _) (Value.int _ _)) _ _ _); refine StopG.out ?_)
 k_with "call builtin:list.append" => (k_here; k_dflt (refine' app_led ?F ?N ?z ?U ?_; (case F => k_asm); (case N => k_asm); (case U => first | (refine Upd.tail ?_ (Upd.tail ?_ (hU9 _ _ _ _)) <;> k_ne) | (refine Upd.tail ?_ (hU9 _ _ _ _); k_ne)); (case z => (apply app64; assumption))); intro h'ᵩ F'ᵩ N'ᵩ; (try k_sweep))
 k_with "CompSrcT" => (k_here; refine StopG.out ?_)
 trivial
namespace EK.E_told_c
theorem core : @P w mean mg mb dp un gd cn cs a ccd cl outer A₀ base h₀ L m s Q E := by
  intro own pen p0 k c tk tc n0 n1 vs ns B F X T hk N hi hnl hoff hne hd hu hret
  refine wpAny_call ?_
  k_dflt (refine' code_defC ?k1 ?k2 ?k3 ?k4 ?k5 ?kA ?kF ?kK ?k6 ?k7 ?k8 ?k9 ?kB ?kD ?_ ?c2 ?c3 ?c4; (case kA => exact rfl); (case kF => exact rfl); (case kK => assumption); (case k1 => k_asm); (case k2 => k_asm); (case k3 => k_asm); (case k4 => k_asm); (case k5 => k_asm); (case k6 => k_is); (case k7 => k_is); (case k8 => exact rm0 (by assumption)); (case k9 => first | exact BindsTo.of_eq rfl | exact binds_K (by k_in) rfl (by k_is) rfl rfl rfl); (case kB => exact rfl); (case kD => decide +kernel); (case c2 => exact rfl); (case c3 => exact rfl); (case c4 => exact rfl); k_whole)
  intro g L' h1 tk1 cells FG F1 N1 Y B1 X1 T1 l1
  have F2 : Fr g L' h1 (fun _ => none) := F1
  obtain ⟨os, oc, rfl, d2, d1⟩ := CellsAre.two Y
  have e1 : oc.data = .cell (some (.ref pen)) := d1
  have e2 : os.data = .cell none := d2
  clear F1 Y d1 d2
  k_lt l1
  simp only [List.cons_append, List.nil_append] at N1
  obtain ⟨l1a, l1b, l1c⟩ := l1
  have hof1 : OwnOff ((L' + 1 + 1, os) :: (L' + 1, oc) :: own) [pen, p0] := off_add (off_add hoff (two_ne (by k_ne) (by k_ne))) (two_ne (by k_ne) (by k_ne))
  k_steps
  refine StopG.mk ?_
  k_dflt (refine' draw_c  ((L' + 1 + 1, os) :: (L' + 1, oc) :: own) _ pen p0 13 _ ?B ?F ?X ?T ?k N1 (penLed_mk hi hnl).cons.cons hof1 hne (by decide) (by decide) ?d ?u ?_; (case B => k_asm); (case F => k_asm); (case X => k_asm); (case T => k_asm); (case k => first | exact rfl | assumption); (case d => first | exact rmc0 (by assumption) (by decide) | exact rmc 1 (by assumption) (by decide) | exact rmc 2 (by assumption) (by decide) | exact rmc 3 (by assumption) (by decide)); (case u => first | exact rmu0 (by assumption) (by decide) | exact rmu 3 (by assumption) (by decide) | exact rmu 6 (by assumption) (by decide) | exact rmu 9 (by assumption) (by decide) | exact rmu 1 (by assumption) (by decide) | exact rmu 4 (by assumption) (by decide) | exact rmu 7 (by assumption) (by decide)))
  intro r t1 news1 h2 tk2 hr0 hr1 hP F3 N3
  clear F2 N1 hi hnl
  obtain ⟨k, c, tk, tc, n0, n1, vs, ns, hi, hnl, N4⟩ := hP.open N3
  clear N3 hP
  obtain ⟨cn, rfl⟩ : ∃ cn : Nat, r = (cn : Int) := ⟨r.toNat, by omega⟩
  k_steps
  refine StopG.mk ?_
  rename News _ _ _ _ => N5
  rename Fr _ _ _ _ => F5
  try dsimp only at F5
  refine LCg.CompSrc.range (n := 2 + cn) rfl F5 N5 (by assumption) (small_one (by decide) (by decide) (by omega) (by omega)) (by rw [show (2 + (cn : Int)) = ((2 + cn : Nat) : Int) by omega]; exact rsize _) (by rw [PySem.sizeLine_eq]; omega)
    (fun g1 => compU (TI1 pen p0 ((L' + 1 + 1, os) :: (L' + 1, oc) :: own))
      (fun _ _ _ _ => trivial) ⟨_, _, _, _, _, _, _, _, [], hi, hnl, rfl, .nil, rfl⟩ ?turn ?fin)
  case turn =>
    clear hi hnl F5 N5
    rintro i ys nw v I oI C oC D m₂ h6 tk6 E' hin ⟨k, c, tk, tc, n0, n1, vs, ns, ks, hi, hnl, rfl, hks, hkl⟩ ⟨tv, rfl⟩ hoC hx F6 N6 off neI
    k_steps
    refine StopG.mk ?_
    rename News _ _ _ _ => N7
    rename _ < _ ∧ _ => l7
    have o1 := off _ (.head _)
    have o2 := off _ (.tail _ (.head _))
    have hof7 := off_add (o := oI) (off_add (o := oC) (off_add (o := LCg.lst ys) hof1 (two_ne (a := D) o1.2.2.symm o2.2.2.symm)) (two_ne (a := C) o1.2.1.symm o2.2.1.symm)) (two_ne (a := I) o1.1.symm o2.1.symm)
    k_here
    k_dflt (refine' pick_c  _ _ pen p0 _ [_, _, _, _, _, _, _, _] 0 ?B ?F ?X ?T ?k N7 (penLed_mk hi hnl).cons.cons.cons.cons (off_add hof7 (two_ne (by omega) (by omega))) hne (.head _) (Nat.le_of_ble_eq_true rfl) (Nat.le_of_ble_eq_true rfl) ?d ?u ?_; (case B => k_asm); (case F => k_asm); (case X => k_asm); (case T => k_asm); (case k => first | exact rfl | assumption); (case d => first | exact rmc0 (by assumption) (by decide) | exact rmc 1 (by assumption) (by decide) | exact rmc 2 (by assumption) (by decide) | exact rmc 3 (by assumption) (by decide)); (case u => first | exact rmu0 (by assumption) (by decide) | exact rmu 3 (by assumption) (by decide) | exact rmu 6 (by assumption) (by decide) | exact rmu 9 (by assumption) (by decide) | exact rmu 1 (by assumption) (by decide) | exact rmu 4 (by assumption) (by decide) | exact rmu 7 (by assumption) (by decide)))
    intro j v news7 h8 tk8 hv hP F8 N8
    clear hi hnl N7
    obtain ⟨k, c, tk, tc, n0, n1, vs, ns, hi, hnl, N9⟩ := hP.open N8
    obtain ⟨kd, tq, rfl⟩ := pick8 hv
    exact cend ((pen, listOf #[.ref p0, .int k tk, .int c tc] n0) :: (p0, listOf vs.toArray n1) :: (L' + 1 + 1, os) :: (L' + 1, oc) :: own) F8 N9 (by repeat' (first | exact fun _ h => h | refine subl_cons (by k_mem) ?_ | (intro p hp; k_mem))) (offTwo off) ⟨_, _, _, _, _, _, vs, ns, ks ++ [kd], hi, hnl, rfl, hks.snoc kd tq, by rw [List.length_append, hkl]; rfl⟩
  case fin =>
    rintro kvs nw ⟨k, c, tk, tc, n0, n1, vs, ns, ks, hi, hnl, rfl, hks, hkl⟩
    intro Dk h7 tk7 F7 N7 o1
    simp +zetaDelta only [LCg.Off1, and_true] at o1
    obtain ⟨o1a, o1b, o1c, o1d, o1e⟩ := o1
    k_steps
    refine StopG.mk ?_
    k_dflt (refine enumAssign F7 (by rfl) (by with_unfolding_all rfl) (by with_unfolding_all rfl) (by decide) (by rfl) (by decide) (by rfl) (by rfl) (by decide) (by rfl) (by rfl) ?_)
    k_steps
    refine StopG.mk ?_
    rename News _ _ _ _ => N8
    rename Fr _ _ _ _ => F8
    try dsimp only at F8
    have hkv := hks.length
    refine enumSrc (n := kvs.length) (vs := kvs) (fun i ys nw => ∃ tl, nw = (Dk, LCg.lst kvs) :: (pen, listOf #[.ref p0, .int k tk, .int c tc] n0) :: (p0, listOf vs.toArray n1) :: (L' + 1 + 1, os) :: (L' + 1, oc) :: tl ∧ OwnOff tl [pen, p0, L' + 1 + 1] ∧ (∀ p ∈ own, p ∈ tl) ∧ DatAll tl ys ((placesF 0 (ks.take i)).map datP))
      rfl F8 N8 (.head _) (by rw [PySem.sizeLine_eq]; omega) (fun i ys nw h => by obtain ⟨tl, rfl, _⟩ := h; exact .head _) ⟨own, rfl, ?hof, fun _ h => h, .nil⟩ (fun g2 tk9 => ?turn2) (fun g2 tk9 => ?fin2)
    case hof =>
      intro p hp b hb
      simp only [List.mem_cons, List.not_mem_nil, or_false] at hb
      rcases hb with rfl | rfl | rfl
      · exact hoff p hp _ (.head _)
      · exact hoff p hp _ (.tail _ (.head _))
      · have := ltAll' l1c p hp
        exact Nat.ne_of_lt (Nat.lt_succ_of_lt (Nat.lt_succ_of_lt this))
    case turn2 =>
      clear F8 N8
      intro i ys nw v t e oe it oi C oC D m₂ h9 tk9 E' hv hJ hoC ha hb four F9 N9 off
      obtain ⟨tl, rfl, hofl, hso, hd⟩ := hJ
      have hin : i < ks.length := by
        rw [← hkv]
        exact (List.getElem?_eq_some_iff.mp hv).1
      obtain ⟨tq, hq⟩ := hks.get hin
      obtain rfl : v = .str (ks[i]).s tq := Option.some.inj (hv.symm.trans hq)
      have hpt := places_take hin
      generalize ks[i] = kd at *
      cases kd <;> dsimp only [KD.s] at *
      all_goals k_steps
      all_goals rename News _ _ _ _ => N7
      all_goals rename Fr _ _ _ _ => F7
      all_goals first
        | (refine eend_two F7 N7 off ?_ ⟨_, rfl, off_add hofl (three_ne (by omega) (by omega) (by omega)), fun p hp => .tail _ (hso p hp), ?_⟩
           · intro r hr
             simp only [List.mem_cons, List.not_mem_nil, or_false] at hr
             rcases hr with rfl | rfl | rfl | rfl <;> (refine neN ?_; dsimp only; omega)
           · rw [hpt, List.map_append]
             exact da_snoc (hd.mono fun _ h => .tail _ h) (DatIn.tuple (.head _) (.cons (.str _ _) (.cons (.int _ _) .nil))))
        | (refine eend_none F7 N7 off ⟨tl, rfl, hofl, hso, ?_⟩
           rw [hpt, List.map_append]
           show DatAll _ _ (_ ++ [])
           rw [List.append_nil]
           exact hd)
    case fin2 =>
      clear F8 N8
      rintro pvs nw ⟨tl0, rfl, hofl, hso, hpd⟩
      rw [hkv, List.take_length] at hpd
      intro Dp h10 tk10 F10 N10 o2
      simp +zetaDelta only [LCg.Off1, and_true] at o2
      obtain ⟨o2a, o2b, o2c, o2d, o2e, o2f⟩ := o2
      k_steps
      refine StopG.mk ?_
      rename Fr _ _ _ _ => F9
      refine For_turns F9 ?_
      k_steps
      refine StopG.mk ?_
      rename News _ _ _ _ => N9
      try dsimp only at F9
      rename_i lr hA l9 hB hF hN
      obtain ⟨l9a, l9b, l9c, l9d, l9e, l9f, l9g⟩ := l9
      refine forEs (l := Dk) (vs := kvs) (n := kvs.length) [Str.ofString "kind", Str.ofString "later", Str.ofString "one", Str.ofString "number", Str.ofString "goal"]
        (TI3 pen p0 lr Dp Dk L' pvs kvs oc tl0 ks)
        rfl F9 N9 (.tail _ (.tail _ (.head _))) ⟨k, c, _, tc, n0, n1, vs, ns, os, none, [], 0, [], tl0, rfl, hi, hnl, e2, ?hof9, fun _ h => h, .nil, ts0 ks⟩
        (fun i nw h => by obtain ⟨_, _, _, _, _, _, _, _, _, _, _, _, _, _, rfl, _⟩ := h; exact .tail _ (.tail _ (.head _))) ?turn3 ?done3
      case hof9 =>
        intro p hp b hb
        simp only [List.mem_cons, List.not_mem_nil, or_false] at hb
        rcases hb with rfl | rfl | rfl | rfl
        · exact Nat.ne_of_lt (ltAll' l9g p hp)
        · exact hofl p hp _ (.head _)
        · exact hofl p hp _ (.tail _ (.head _))
        · exact hofl p hp _ (.tail _ (.tail _ (.head _)))
      case turn3 =>
        clear F9 N9 hi hnl e2
        intro I J oI oJ i v T t u nw h9 tk9 hv hIJ hlt9 hJ off hT F9 N9
        obtain ⟨k, c, tk, tc, n0, n1, vs, ns, os, cv, vsr, kr, rs, tl, rfl, hi, hnl, e2, hof9, hsub, hdr, hts⟩ := hJ
        have hin : i < ks.length := by
          rw [← hkv]
          exact (List.getElem?_eq_some_iff.mp hv).1
        obtain ⟨tq, hq⟩ := hks.get hin
        obtain rfl : v = .str (ks[i]).s tq := Option.some.inj (hv.symm.trans hq)
        obtain ⟨kd, hkd⟩ : ∃ kd, ks[i] = kd := ⟨_, rfl⟩
        rw [hkd] at hT
        obtain ⟨hlI, hlJ⟩ : @LT.lt Nat _ lr I ∧ @LT.lt Nat _ lr J := hlt9 _ (.head _)
        clear hv hq hlt9
        have hpl : pvs.length = (placesF 0 ks).length := by rw [hpd.length, List.length_map]
        have hplk : (placesF 0 ks).length ≤ ks.length := places_len ks 0
        k_steps
        refine StopG.mk ?_
        rename News _ _ _ _ => N5
        rename Fr _ _ _ _ => F5
        rename _ = Data.cell _ => d5
        try dsimp only at F5
        refine LCt.CompSrcT.ledger (its := pvs.toArray) rfl F5 N5 (.tail _ (.tail _ (.tail _ (.head _)))) (by rw [List.size_toArray, PySem.sizeLine_eq]; omega) (fun g3 => compT (fun j ys nw => nw = _ ∧ DatAll tl0 ys ((((placesF 0 ks).take j).filter fun p => decide ((i : Int) < p.2)).map datP))
          (fun j ys nw h => by obtain ⟨rfl, _⟩ := h; exact .inr ⟨_, .tail _ (.tail _ (.tail _ (.head _))), rfl, _, rfl⟩) ⟨rfl, .nil⟩ ?turn4 ?fin4)
        case turn4 =>
          clear F5 N5
          rintro j ys nw v I3 oI3 C3 oC3 D3 m₂ h11 tk11 E' hj ⟨rfl, hys⟩ hv hoC hx F6 N6 off6 ne6
          rw [List.size_toArray] at hj
          have hj' : j < (placesF 0 ks).length := by omega
          obtain ⟨v', hv', hdat⟩ := hpd.get (k := j) (by rw [List.length_map]; exact hj')
          have hvv : pvs[j]? = some v := by simpa using hv
          obtain rfl : v = v' := Option.some.inj (hvv.symm.trans hv')
          rw [List.getElem_map] at hdat
          obtain ⟨ap, ta, tb, kp, rfl, hap⟩ := place_of hdat
          have hap' := hsub _ hap
          clear hv hv' hvv
          by_cases hlt : (i : Int) < ((placesF 0 ks)[j]).2
          · k_steps
            refine cend _ (by assumption) N6 (fun p hp => hp) off6 ⟨rfl, ?_⟩
            rw [filt_yes hj' (decide_eq_true hlt), List.map_append]
            exact da_snoc hys hdat
          · k_steps
            refine cno _ (by assumption) N6 (fun p hp => hp) off6 ⟨rfl, ?_⟩
            rw [filt_no hj' (decide_eq_false hlt)]
            exact hys
        case fin4 =>
          clear F5 N5
          rintro lvs nw ⟨rfl, hlv⟩
          rw [List.size_toArray, hpl, List.take_length] at hlv
          intro Dl h12 tk12 F12 N12 o4
          simp +zetaDelta only [LCg.Off1, and_true] at o4
          obtain ⟨o4a, o4b, o4c, o4d, o4e, o4f, o4g, o4h, o4i, o4j⟩ := o4
          have hofB : OwnOff tl [pen, p0] := off_sub hof9 fun b hb => by
            simp only [List.mem_cons, List.not_mem_nil, or_false] at hb ⊢
            rcases hb with rfl | rfl <;> simp only [true_or, or_true]
          k_steps
          refine StopG.mk ?_
          k_dflt (refine' draw_c  _ _ pen p0 4 _ ?B ?F ?X ?T ?k N12 (penLed_mk hi hnl).cons.cons.cons.cons.cons.cons (by (repeat' (first | exact hofB | refine off_add ?_ (two_ne ?_ ?_))); all_goals (refine neN ?_; (try dsimp only); (first | assumption | exact Ne.symm (by assumption) | exact gt_of (by assumption) (by k_mem) | exact Ne.symm (gt_of (by assumption) (by k_mem)) | omega))) hne (by decide) (by decide) ?d ?u ?_; (case B => k_asm); (case F => k_asm); (case X => k_asm); (case T => k_asm); (case k => first | exact rfl | assumption); (case d => first | exact rmc0 (by assumption) (by decide) | exact rmc 1 (by assumption) (by decide) | exact rmc 2 (by assumption) (by decide) | exact rmc 3 (by assumption) (by decide)); (case u => first | exact rmu0 (by assumption) (by decide) | exact rmu 3 (by assumption) (by decide) | exact rmu 6 (by assumption) (by decide) | exact rmu 9 (by assumption) (by decide) | exact rmu 1 (by assumption) (by decide) | exact rmu 4 (by assumption) (by decide) | exact rmu 7 (by assumption) (by decide)))
          intro r1 t13 news13 h13 tk13 hr10 hr11 hP F13 N13
          clear F12 N12 hi hnl
          obtain ⟨k, c, tk, tc, n0, n1, vs, ns, hi, hnl, N14⟩ := hP.open N13
          clear N13 hP
          k_steps
          refine StopG.mk ?_
          k_dflt (refine' draw_c  _ _ pen p0 50 _ ?B ?F ?X ?T ?k N14 (penLed_mk hi hnl) (by (repeat' (first | exact hofB | refine off_add ?_ (two_ne ?_ ?_))); all_goals (refine neN ?_; (try dsimp only); (first | assumption | exact Ne.symm (by assumption) | exact gt_of (by assumption) (by k_mem) | exact Ne.symm (gt_of (by assumption) (by k_mem)) | omega))) hne (by decide) (by decide) ?d ?u ?_; (case B => k_asm); (case F => k_asm); (case X => k_asm); (case T => k_asm); (case k => first | exact rfl | assumption); (case d => first | exact rmc0 (by assumption) (by decide) | exact rmc 1 (by assumption) (by decide) | exact rmc 2 (by assumption) (by decide) | exact rmc 3 (by assumption) (by decide)); (case u => first | exact rmu0 (by assumption) (by decide) | exact rmu 3 (by assumption) (by decide) | exact rmu 6 (by assumption) (by decide) | exact rmu 9 (by assumption) (by decide) | exact rmu 1 (by assumption) (by decide) | exact rmu 4 (by assumption) (by decide) | exact rmu 7 (by assumption) (by decide)))
          intro r2 t15 news15 h15 tk15 hr20 hr21 hP F15 N15
          clear F13 N14 hi hnl
          obtain ⟨k, c, tk, tc, n0, n1, vs, ns, hi, hnl, N16⟩ := hP.open N15
          clear N15 hP
          k_steps
          refine StopG.mk ?_
          rename News _ _ _ _ => N17
          rename Fr _ _ _ _ => F17
          try dsimp only at F17
          obtain ⟨lf, hlf⟩ : ∃ lf, laterF ks i = lf := ⟨_, rfl⟩
          have hlv2 : DatAll tl0 lvs (lf.map datP) := hlf ▸ hlv
          clear hlv
          have hlen := hlv2.length
          rw [List.length_map] at hlen
          have hvl : vsr.length ≤ 28 := by
            have := hts.le
            have := hdr.length
            rw [List.length_map] at this
            omega
          have hoT : ∀ p ∈ tl, ∀ q ∈ [(I, oI), (J, oJ)], p.1 ≠ q.1 := fun p hp => off p (.tail _ (.tail _ (.tail _ (.tail _ (.tail _ (.tail _ (.tail _ hp)))))))
          clear hofB
          have q0a : lr ≠ I := off _ (.head _) _ (.head _)
          have q0b : lr ≠ J := off _ (.head _) _ (.tail _ (.head _))
          have q1a : Dp ≠ I := off _ (.tail _ (.head _)) _ (.head _)
          have q1b : Dp ≠ J := off _ (.tail _ (.head _)) _ (.tail _ (.head _))
          have q2a : Dk ≠ I := off _ (.tail _ (.tail _ (.head _))) _ (.head _)
          have q2b : Dk ≠ J := off _ (.tail _ (.tail _ (.head _))) _ (.tail _ (.head _))
          have q3a : pen ≠ I := off _ (.tail _ (.tail _ (.tail _ (.head _)))) _ (.head _)
          have q3b : pen ≠ J := off _ (.tail _ (.tail _ (.tail _ (.head _)))) _ (.tail _ (.head _))
          have q4a : p0 ≠ I := off _ (.tail _ (.tail _ (.tail _ (.tail _ (.head _))))) _ (.head _)
          have q4b : p0 ≠ J := off _ (.tail _ (.tail _ (.tail _ (.tail _ (.head _))))) _ (.tail _ (.head _))
          have q5a : (L' + 1 + 1) ≠ I := off _ (.tail _ (.tail _ (.tail _ (.tail _ (.tail _ (.head _)))))) _ (.head _)
          have q5b : (L' + 1 + 1) ≠ J := off _ (.tail _ (.tail _ (.tail _ (.tail _ (.tail _ (.head _)))))) _ (.tail _ (.head _))
          have q6a : (L' + 1) ≠ I := off _ (.tail _ (.tail _ (.tail _ (.tail _ (.tail _ (.tail _ (.head _))))))) _ (.head _)
          have q6b : (L' + 1) ≠ J := off _ (.tail _ (.tail _ (.tail _ (.tail _ (.tail _ (.tail _ (.head _))))))) _ (.tail _ (.head _))
          refine goal_mono pen p0 tl0 lf F17 N17 ?one9 ?two9
          case one9 =>
            with_reducible refine IfExp_ ?_
            k_steps
            refine StopG.mk ?_
            rename News _ _ _ _ => N18
            cases lf with
            | nil =>
              refine ne_led (ps := []) false rfl N18 (by k_mem) hlv2 (fun p hp => by k_mem) (by k_mem) (by (first | exact rmu0 (by assumption) (by decide) | exact rmu 3 (by assumption) (by decide) | exact rmu 6 (by assumption) (by decide) | exact rmu 9 (by assumption) (by decide) | exact rmu 1 (by assumption) (by decide) | exact rmu 4 (by assumption) (by decide) | exact rmu 7 (by assumption) (by decide))) ?_
              k_steps
              rename News _ _ _ _ => N6
              rename Fr _ _ _ _ => F6
              exact .mk _ _ _ _ _ _ _ _ _ vs ns hi hnl F6 (news_tl (news_tl N6)) .no
            | cons pl rest =>
              refine ne_led (ps := pl :: rest) true rfl N18 (by k_mem) hlv2 (fun p hp => by k_mem) (by k_mem) (by (first | exact rmu0 (by assumption) (by decide) | exact rmu 3 (by assumption) (by decide) | exact rmu 6 (by assumption) (by decide) | exact rmu 9 (by assumption) (by decide) | exact rmu 1 (by assumption) (by decide) | exact rmu 4 (by assumption) (by decide) | exact rmu 7 (by assumption) (by decide))) ?_
              rw [List.length_cons] at hlen
              have hlb : rest.length + 1 ≤ 14 := by
                have h1 : (laterF ks i).length ≤ (placesF 0 ks).length := List.length_filter_le _ _
                rw [hlf, List.length_cons] at h1
                omega
              have hofB : OwnOff tl [pen, p0] := off_sub hof9 fun b hb => by
                simp only [List.mem_cons, List.not_mem_nil, or_false] at hb ⊢
                rcases hb with rfl | rfl <;> simp only [true_or, or_true]
              k_steps
              refine StopG.mk ?_
              rename News _ _ _ _ => N19
              k_here
              k_dflt (refine' pick_c  _ _ pen p0 _ [_, _, _, _] 0 ?B ?F ?X ?T ?k N19 (penLed_mk hi hnl).cons.cons.cons (by (repeat' (first | exact hofB | refine off_add ?_ (two_ne ?_ ?_))); all_goals (refine neN ?_; (try dsimp only); (first | assumption | exact Ne.symm (by assumption) | exact gt_of (by assumption) (by k_mem) | exact Ne.symm (gt_of (by assumption) (by k_mem)) | omega))) hne (.head _) (Nat.le_of_ble_eq_true rfl) (Nat.le_of_ble_eq_true rfl) ?d ?u ?_; (case B => k_asm); (case F => k_asm); (case X => k_asm); (case T => k_asm); (case k => first | exact rfl | assumption); (case d => first | exact rmc0 (by assumption) (by decide) | exact rmc 1 (by assumption) (by decide) | exact rmc 2 (by assumption) (by decide) | exact rmc 3 (by assumption) (by decide)); (case u => first | exact rmu0 (by assumption) (by decide) | exact rmu 3 (by assumption) (by decide) | exact rmu 6 (by assumption) (by decide) | exact rmu 9 (by assumption) (by decide) | exact rmu 1 (by assumption) (by decide) | exact rmu 4 (by assumption) (by decide) | exact rmu 7 (by assumption) (by decide)))
              intro j4 v4 news19 h19 tk19 hv19 hP F19 N20
              clear hi hnl N19
              obtain ⟨k, c, tk, tc, n0, n1, vs, ns, hi, hnl, N21⟩ := hP.open N20
              clear N20 hP
              obtain ⟨z, tz, rfl, hz0, hz1⟩ := pick4 hv19
              clear hv19
              k_steps
              refine StopG.mk ?_
              rename News _ _ _ _ => N22
              have hKp : (0 : Int) < ((rest.length + 1 : Nat) : Int) := by omega
              have hf0 := Int.fmod_nonneg_of_pos z hKp
              have hf1 := Int.fmod_lt_of_pos z hKp
              have hix : (z.fmod ((rest.length + 1 : Nat) : Int)).toNat < (pl :: rest).length := by rw [List.length_cons]; omega
              obtain ⟨v', hv', hdat⟩ := hlv2.get (k := (z.fmod ((rest.length + 1 : Nat) : Int)).toNat) (by rw [List.length_map]; exact hix)
              rw [List.getElem_map] at hdat
              obtain ⟨⟨go, gg⟩, hgp⟩ : ∃ p : Bool × Int, (pl :: rest)[(z.fmod ((rest.length + 1 : Nat) : Int)).toNat]'hix = p := ⟨_, rfl⟩
              rw [hgp] at hdat
              have hgm : (go, gg) ∈ pl :: rest := by rw [← hgp]; exact List.getElem_mem _
              obtain ⟨ap, ta, tb, kp, rfl, hap⟩ := place_of hdat
              dsimp only at hap
              refine item_led N22 (by k_mem) hf0 hv' (by omega) ?_
              k_steps
              rename News _ _ _ _ => N6
              rename Fr _ _ _ _ => F6
              exact .mk _ _ _ _ _ _ _ _ _ vs ns hi hnl F6 (news_d3 N6) (.yes ap ta tb kp go gg _ hap hgm)
          case two9 =>
            clear hi hnl N17
            have hlr9 : ∀ o : Obj, ∀ p ∈ (Dp, LCg.lst pvs) :: (Dk, LCg.lst kvs) :: (L' + 1 + 1, o) :: (L' + 1, oc) :: tl, p.1 ≠ lr := fun o => List.forall_mem_cons.mpr ⟨by k_ne, List.forall_mem_cons.mpr ⟨by k_ne, List.forall_mem_cons.mpr ⟨by k_ne, List.forall_mem_cons.mpr ⟨by k_ne, fun p hp => hof9 p hp _ (.head _)⟩⟩⟩⟩
            have hU9 : ∀ o9 oe oz o' : Obj, Upd lr (listOf vsr.toArray kr) o' ((pen, oe) :: (p0, oz) :: (Dl, LCg.lst lvs) :: (I, oI) :: (J, oJ) :: (lr, listOf vsr.toArray kr) :: (Dp, LCg.lst pvs) :: (Dk, LCg.lst kvs) :: (L' + 1 + 1, o9) :: (L' + 1, oc) :: tl) ((pen, oe) :: (p0, oz) :: (Dl, LCg.lst lvs) :: (I, oI) :: (J, oJ) :: (lr, o') :: (Dp, LCg.lst pvs) :: (Dk, LCg.lst kvs) :: (L' + 1 + 1, o9) :: (L' + 1, oc) :: tl) := fun o9 oe oz o' => .tail (by k_ne) (.tail (by k_ne) (.tail (by k_ne) (.tail (by k_ne) (.tail (by k_ne) (.head (hlr9 o9))))))
            rintro v9 s9 ⟨h9, tk9, gv, k, c, tk, tc, n0, n1, vs, ns, hi, hnl, F18, N18, hg⟩
            clear F17
            k_steps
            refine StopG.mk ?_
            rename Fr _ _ _ _ => F18
            try dsimp only at F18
            have hK := kcase (i := i) kd hg
            clear hg
            cases hK with
            | mark =>
              k_dflt (refine eif1 (fun _ _ _ h => nameX_L F18 rfl h) (c := true) rfl fun tk9 => ?_)
              k_steps
              rename News _ _ _ _ => N6
              rename Fr _ _ _ _ => F6
              refine fendB F6 N6 (by (repeat' (first | exact hoT | refine ho_add ?_ ?_ ?_)); all_goals (refine neN ?_; (try dsimp only); (first | assumption | exact Ne.symm (by assumption) | exact gt_of (by assumption) (by k_mem) | exact Ne.symm (gt_of (by assumption) (by k_mem)) | omega))) ⟨(fun z hz => by
               have hz' := hz
               simp only [List.contains_cons, List.contains_nil, Bool.or_false, Bool.or_eq_false_iff, beq_eq_false_iff_ne, ne_eq] at hz
               simp +zetaDelta [hz, hz']), _, _, _, _, _, _, vs, ns, _, _, _, _, rs ++ [.mark false (i : Int)], _, rfl, hi, hnl, d5, (by (repeat' (first | exact hof9 | refine off_add ?_ (four_ne ?_ ?_ ?_ ?_))); all_goals (refine neN ?_; (try dsimp only); (first | assumption | exact Ne.symm (by assumption) | exact gt_of (by assumption) (by k_mem) | exact Ne.symm (gt_of (by assumption) (by k_mem)) | omega))), fun p hp => .tail _ (.tail _ (hsub p hp)), ?_, ts_mark hts hin (by omega) (by rw [hkd]; rfl)⟩
              rw [List.map_append]
              exact da_snoc (hdr.mono fun _ h => .tail _ (.tail _ h)) (DatIn.tuple (.head _) (.cons (.str _ _) (.cons (.tuple (.tail _ (.head _)) (.cons (.int _ _) .nil)) .nil)))
            | order =>
              k_dflt (refine eif1 (fun _ _ _ h => nameX_L F18 rfl h) (c := true) rfl fun tk9 => ?_)
              k_steps
              rename News _ _ _ _ => N6
              rename Fr _ _ _ _ => F6
              refine fendB F6 N6 (by (repeat' (first | exact hoT | refine ho_add ?_ ?_ ?_)); all_goals (refine neN ?_; (try dsimp only); (first | assumption | exact Ne.symm (by assumption) | exact gt_of (by assumption) (by k_mem) | exact Ne.symm (gt_of (by assumption) (by k_mem)) | omega))) ⟨(fun z hz => by
               have hz' := hz
               simp only [List.contains_cons, List.contains_nil, Bool.or_false, Bool.or_eq_false_iff, beq_eq_false_iff_ne, ne_eq] at hz
               simp +zetaDelta [hz, hz']), _, _, _, _, _, _, vs, ns, _, _, _, _, rs ++ [.mark true (i : Int)], _, rfl, hi, hnl, d5, (by (repeat' (first | exact hof9 | refine off_add ?_ (four_ne ?_ ?_ ?_ ?_))); all_goals (refine neN ?_; (try dsimp only); (first | assumption | exact Ne.symm (by assumption) | exact gt_of (by assumption) (by k_mem) | exact Ne.symm (gt_of (by assumption) (by k_mem)) | omega))), fun p hp => .tail _ (.tail _ (hsub p hp)), ?_, ts_mark hts hin (by omega) (by rw [hkd]; rfl)⟩
              rw [List.map_append]
              exact da_snoc (hdr.mono fun _ h => .tail _ (.tail _ h)) (DatIn.tuple (.head _) (.cons (.str _ _) (.cons (.tuple (.tail _ (.head _)) (.cons (.int _ _) .nil)) .nil)))
            | mov _ _ e1 e2 e3 =>
              k_dflt (refine eif1 (fun _ _ _ h => nameX_L F18 rfl h) (c := false) e1 fun tk9 => ?_)
              k_steps
              refine StopG.mk ?_
              k_dflt (refine eif2 (gv := _) (c := true) (fun _ _ _ h => nameX_L F18 rfl h) (fun _ _ _ h => nameX_L F18 rfl h) e2 fun tk9 => ?_)
              k_steps
              rename News _ _ _ _ => N6
              rename Fr _ _ _ _ => F6
              refine fendB F6 N6 (by (repeat' (first | exact hoT | refine ho_add ?_ ?_ ?_)); all_goals (refine neN ?_; (try dsimp only); (first | assumption | exact Ne.symm (by assumption) | exact gt_of (by assumption) (by k_mem) | exact Ne.symm (gt_of (by assumption) (by k_mem)) | omega))) ⟨(fun z hz => by
               have hz' := hz
               simp only [List.contains_cons, List.contains_nil, Bool.or_false, Bool.or_eq_false_iff, beq_eq_false_iff_ne, ne_eq] at hz
               simp +zetaDelta [hz, hz']), _, _, _, _, _, _, vs, ns, _, _, _, _, rs ++ [.mov r1 r2], _, rfl, hi, hnl, d5, (by (repeat' (first | exact hof9 | refine off_add ?_ (four_ne ?_ ?_ ?_ ?_))); all_goals (refine neN ?_; (try dsimp only); (first | assumption | exact Ne.symm (by assumption) | exact gt_of (by assumption) (by k_mem) | exact Ne.symm (gt_of (by assumption) (by k_mem)) | omega))), fun p hp => .tail _ (.tail _ (hsub p hp)), ?_, ts_move hts hin (by rw [hkd]; exact e3) ⟨hr10, hr11⟩ ⟨hr20, by omega⟩⟩
              rw [List.map_append]
              exact da_snoc (hdr.mono fun _ h => .tail _ (.tail _ h)) (DatIn.tuple (.head _) (.cons (.str _ _) (.cons (.tuple (.tail _ (.head _)) (.cons (.int _ _) (.cons (.int _ _) (.cons (.int _ _) .nil)))) .nil)))
            | jump ap ta tb kp go gg hap hgm =>
              have hap' := hsub _ hap
              rw [← hlf] at hgm
              k_dflt (refine eif1 (fun _ _ _ h => nameX_L F18 rfl h) (c := false) rfl fun tk9 => ?_)
              k_steps
              refine StopG.mk ?_
              k_dflt (refine eif2 (gv := .ref ap) (c := false) (fun _ _ _ h => nameX_L F18 rfl h) (fun _ _ _ h => nameX_L F18 rfl h) rfl fun tk9 => ?_)
              k_steps
              rename News _ _ _ _ => N6
              rename Fr _ _ _ _ => F6
              refine fendC F6 N6 (by (repeat' (first | exact hoT | refine ho_add ?_ ?_ ?_)); all_goals (refine neN ?_; (try dsimp only); (first | assumption | exact Ne.symm (by assumption) | exact gt_of (by assumption) (by k_mem) | exact Ne.symm (gt_of (by assumption) (by k_mem)) | omega))) ⟨(fun z hz => by
               have hz' := hz
               simp only [List.contains_cons, List.contains_nil, Bool.or_false, Bool.or_eq_false_iff, beq_eq_false_iff_ne, ne_eq] at hz
               simp +zetaDelta [hz, hz']), _, _, _, _, _, _, vs, ns, _, _, _, _, rs ++ [.jmp go gg], _, rfl, hi, hnl, d5, (by (repeat' (first | exact hof9 | refine off_add ?_ (four_ne ?_ ?_ ?_ ?_))); all_goals (refine neN ?_; (try dsimp only); (first | assumption | exact Ne.symm (by assumption) | exact gt_of (by assumption) (by k_mem) | exact Ne.symm (gt_of (by assumption) (by k_mem)) | omega))), fun p hp => .tail _ (hsub p hp), ?_, ts_jump hts hin (by omega) (by rw [hkd]; rfl) hgm⟩
              rw [List.map_append]
              exact da_snoc (hdr.mono fun _ h => .tail _ h) (DatIn.tuple (.head _) (.cons (.str _ _) (.cons (.tuple (.tail _ hap') (.cons (.str _ _) (.cons (.int _ _) .nil))) .nil)))
            | branch ap ta tb kp go gg hap hgm =>
              have hap' := hsub _ hap
              rw [← hlf] at hgm
              k_dflt (refine eif1 (fun _ _ _ h => nameX_L F18 rfl h) (c := false) rfl fun tk9 => ?_)
              k_steps
              refine StopG.mk ?_
              k_dflt (refine eif2 (gv := .ref ap) (c := false) (fun _ _ _ h => nameX_L F18 rfl h) (fun _ _ _ h => nameX_L F18 rfl h) rfl fun tk9 => ?_)
              k_steps
              refine StopG.mk ?_
              rename News _ _ _ _ => N22
              have hofB : OwnOff tl [pen, p0] := off_sub hof9 fun b hb => by
                simp only [List.mem_cons, List.not_mem_nil, or_false] at hb ⊢
                rcases hb with rfl | rfl <;> simp only [true_or, or_true]
              k_here
              k_dflt (refine' pick_c  _ _ pen p0 _ [_, _, _] 0 ?B ?F ?X ?T ?k N22 (penLed_mk hi hnl).cons.cons.cons (by (repeat' (first | exact hofB | refine off_add ?_ (two_ne ?_ ?_))); all_goals (refine neN ?_; (try dsimp only); (first | assumption | exact Ne.symm (by assumption) | exact gt_of (by assumption) (by k_mem) | exact Ne.symm (gt_of (by assumption) (by k_mem)) | omega))) hne (.head _) (Nat.le_of_ble_eq_true rfl) (Nat.le_of_ble_eq_true rfl) ?d ?u ?_; (case B => k_asm); (case F => k_asm); (case X => k_asm); (case T => k_asm); (case k => first | exact rfl | assumption); (case d => first | exact rmc0 (by assumption) (by decide) | exact rmc 1 (by assumption) (by decide) | exact rmc 2 (by assumption) (by decide) | exact rmc 3 (by assumption) (by decide)); (case u => first | exact rmu0 (by assumption) (by decide) | exact rmu 3 (by assumption) (by decide) | exact rmu 6 (by assumption) (by decide) | exact rmu 9 (by assumption) (by decide) | exact rmu 1 (by assumption) (by decide) | exact rmu 4 (by assumption) (by decide) | exact rmu 7 (by assumption) (by decide)))
              intro j5 v5 news23 h23 tk23 hv23 hP F23 N23
              clear hi hnl N22 hofB
              obtain ⟨k, c, tk, tc, n0, n1, vs, ns, hi, hnl, N24⟩ := hP.open N23
              clear N23 hP
              obtain ⟨cc, tcc, rfl⟩ := pick3 hv23
              clear hv23
              k_steps
              rename News _ _ _ _ => N6
              rename Fr _ _ _ _ => F6
              refine fendD F6 N6 (by (repeat' (first | exact hoT | refine ho_add ?_ ?_ ?_)); all_goals (refine neN ?_; (try dsimp only); (first | assumption | exact Ne.symm (by assumption) | exact gt_of (by assumption) (by k_mem) | exact Ne.symm (gt_of (by assumption) (by k_mem)) | omega))) ⟨(fun z hz => by
               have hz' := hz
               simp only [List.contains_cons, List.contains_nil, Bool.or_false, Bool.or_eq_false_iff, beq_eq_false_iff_ne, ne_eq] at hz
               simp +zetaDelta [hz, hz']), _, _, _, _, _, _, vs, ns, _, _, _, _, rs ++ [.cmp r1 r2, .jcc cc go gg], _, rfl, hi, hnl, d5, (by (repeat' (first | exact hof9 | refine off_add ?_ (four_ne ?_ ?_ ?_ ?_))); all_goals (refine neN ?_; (try dsimp only); (first | assumption | exact Ne.symm (by assumption) | exact gt_of (by assumption) (by k_mem) | exact Ne.symm (gt_of (by assumption) (by k_mem)) | omega))), fun p hp => .tail _ (.tail _ (.tail _ (.tail _ (hsub p hp)))), ?_, ts_branch hts hin (by omega) (by rw [hkd]; rfl) ⟨hr10, hr11⟩ ⟨hr20, by omega⟩ hgm⟩
              rw [show rs ++ [.cmp r1 r2, .jcc cc go gg] = (rs ++ [.cmp r1 r2]) ++ [.jcc cc go gg] by rw [List.append_assoc]; rfl, List.map_append, List.map_append]
              show DatAll _ (List.concat (vsr ++ [_]) _) _
              rw [List.concat_eq_append]
              exact da_snoc (da_snoc (hdr.mono fun _ h => .tail _ (.tail _ (.tail _ (.tail _ h)))) (DatIn.tuple (.tail _ (.tail _ (.head _))) (.cons (.str _ _) (.cons (.tuple (.tail _ (.tail _ (.tail _ (.head _)))) (.cons (.int _ _) (.cons (.int _ _) (.cons (.int _ _) .nil)))) .nil)))) (DatIn.tuple (.head _) (.cons (.str _ _) (.cons (.tuple (.tail _ (.head _)) (.cons (.str _ _) (.cons (.str _ _) (.cons (.int _ _) .nil)))) .nil)))
            | sum ap =>
              k_dflt (refine eif1 (fun _ _ _ h => nameX_L F18 rfl h) (c := false) rfl fun tk9 => ?_)
              k_steps
              refine StopG.mk ?_
              k_dflt (refine eif2 (gv := .ref ap) (c := false) (fun _ _ _ h => nameX_L F18 rfl h) (fun _ _ _ h => nameX_L F18 rfl h) rfl fun tk9 => ?_)
              k_steps
              rename News _ _ _ _ => N6
              rename Fr _ _ _ _ => F6
              refine fendB F6 N6 (by (repeat' (first | exact hoT | refine ho_add ?_ ?_ ?_)); all_goals (refine neN ?_; (try dsimp only); (first | assumption | exact Ne.symm (by assumption) | exact gt_of (by assumption) (by k_mem) | exact Ne.symm (gt_of (by assumption) (by k_mem)) | omega))) ⟨(fun z hz => by
               have hz' := hz
               simp only [List.contains_cons, List.contains_nil, Bool.or_false, Bool.or_eq_false_iff, beq_eq_false_iff_ne, ne_eq] at hz
               simp +zetaDelta [hz, hz']), _, _, _, _, _, _, vs, ns, _, _, _, _, rs ++ [.add r1 ((r1 + r2).fmod 4)], _, rfl, hi, hnl, d5, (by (repeat' (first | exact hof9 | refine off_add ?_ (four_ne ?_ ?_ ?_ ?_))); all_goals (refine neN ?_; (try dsimp only); (first | assumption | exact Ne.symm (by assumption) | exact gt_of (by assumption) (by k_mem) | exact Ne.symm (gt_of (by assumption) (by k_mem)) | omega))), fun p hp => .tail _ (.tail _ (hsub p hp)), ?_, ts_add hts hin (by rw [hkd]; rfl) ⟨hr10, hr11⟩ ⟨Int.fmod_nonneg_of_pos _ (by decide), Int.fmod_lt_of_pos _ (by decide)⟩⟩
              rw [List.map_append]
              exact da_snoc (hdr.mono fun _ h => .tail _ (.tail _ h)) (DatIn.tuple (.head _) (.cons (.str _ _) (.cons (.tuple (.tail _ (.head _)) (.cons (.int _ _) (.cons (.int _ _) (.cons (.int _ _) .nil)))) .nil)))
      case done3 =>
        clear F9 N9 hi hnl e2
        rintro u nw h9 tk9 ⟨k, c, tk, tc, n0, n1, vs, ns, os, cv, vsr, kr, rs, tl, rfl, hi, hnl, e2, hof9, hsub, hdr, hts⟩ F9 N9
        rw [hkv] at hts
        k_steps
        refine StopG.mk ?_
        rename News _ _ _ _ => N13
        rename Fr _ _ _ _ => F13
        have hvl : vsr.length ≤ 28 := by
          have := hts.le
          have := hdr.length
          rw [List.length_map] at this
          omega
        refine kmk_add_lit (zs := vsr ++ [_]) F13 N13 (News.isList N13 (by k_mem)) (News.isList N13 (.head _)) rfl (fun D h14 F14 N14 l14 => ?_) (by rw [PySem.sizeLine_eq]; show vsr.length + 1 ≤ _; omega)
        clear N13 F13
        k_steps
        refine hret _ _ _ (rs ++ [.ret]) _ _ _ (by assumption) (by assumption) (fun p hp => ?_) (fun p hp => ?_) ?_ (ts_end hts (by omega))
        · have := hsub p (hso p hp)
          k_mem
        · have := hsub p (hso p hp)
          exact l14 p (by k_mem)
        · rw [List.map_append]
          exact da_snoc (hdr.mono fun p hp => by k_mem) (DatIn.tuple (by k_mem) (.cons (.str _ _) (.cons (.tuple (by k_mem) .nil) .nil)))
end EK.E_told_c
theorem EK.E_told_c.all : ∀ c, EK.E_told_c.Pc c := by
  have h : EK.E_told_c.Pc kc := by with_unfolding_all exact EK.E_told_c.core
  rw [EK.eqk38] at h
  exact first_all (r := EK.lst39) h
theorem EK.eqk39 : kc = first EK.lst39 := EK.eqk38.trans (first_skip EK.E_told_c.all)
theorem told_c {w : World} {mean : ExcName → Option Value} {mg mb : Str → Option Value} {dp un : Nat} {gd : Option (List Code)} {cn : Str} {cs : Scope} {a : Addr} {ccd : Value} {cl : List (Str × Addr)} {outer : List Env} {A₀ : Around} {base h₀ : Heap} {L : Addr} {m : Str → Option Value} {s : Shared} {Q E : Value → Shared → Prop} (own : List (Addr × Obj)) (pen p0 : Addr) (k c : Int) (tk tc : Tok) (n0 n1 : Nat) (vs : List Value) (ns : List Int)
    (B : Below A₀ base outer h₀) (F : Fr h₀ L s.heap m) (X : (hd.heap_1 w.params).In h₀) (T : Top viewP LZ mean mg mb h₀) (hk : cs.kind = .function)
    (N : News h₀ L s.heap ((pen, listOf #[.ref p0, .int k tk, .int c tc] n0) :: (p0, listOf vs.toArray n1) :: own)) (hi : IntsAre vs ns) (hnl : ns.length ≤ 64) (hoff : OwnOff own [pen, p0]) (hne : @Ne Nat pen p0)
    (hd : dp + 30 < recursionLimit) (hu : un + 300 < cLine)
    (hret : ∀ (d : Addr) (ws : List Value) (kw : Nat) (rs : List TR) (own' : List (Addr × Obj)) (h' : Heap) (tks : Nat), Fr h₀ L h' m → News h₀ L h' ((d, listOf ws.toArray kw) :: own') → (∀ p ∈ own, p ∈ own') → (∀ p ∈ own, p.1 < d) → DatAll own' ws (rs.map datOf) → WF rs → Q (.ref d) { s with heap := h', toks := tks }) : wpAny (model PySem.Challenge.rw_pf0284_01.row.prog w) (ktrTop dp un gd cn cs L a ccd cl outer) (call (.ref 478) [.ref pen]) Q E s := by
  with_unfolding_all exact EK.E_told_c.all ⟨w, mean, mg, mb, dp, un, gd, cn, cs, a, ccd, cl, outer, A₀, base, h₀, L, m, s, Q, E⟩ own pen p0 k c tk tc n0 n1 vs ns B F X T hk N hi hnl hoff hne hd hu hret
end
end
section
set_option maxHeartbeats 400000
open PyProof.V PySem.Spec PySem.Calls
theorem parts_any {I I' : List (Addr × Obj)} {ps : List Value} {r : TR} (h : DatAll I ps (partsOf r)) : DatAll I' ps (partsOf r) := by
  cases r <;> dsimp only [partsOf] at h ⊢
  case ret => rw [da_nil h]; exact .nil
  case mark => obtain ⟨t1, q1, rfl, h1⟩ := da_int h; rw [da_nil h1]; exact .cons (.int _ _) .nil
  case jmp => obtain ⟨t1, q1, rfl, h1⟩ := da_str h; obtain ⟨t2, q2, rfl, h2⟩ := da_int h1; rw [da_nil h2]; exact .cons (.str _ _) (.cons (.int _ _) .nil)
  case jcc => obtain ⟨t1, q1, rfl, h1⟩ := da_str h; obtain ⟨t2, q2, rfl, h2⟩ := da_str h1; obtain ⟨t3, q3, rfl, h3⟩ := da_int h2; rw [da_nil h3]; exact .cons (.str _ _) (.cons (.str _ _) (.cons (.int _ _) .nil))
  all_goals (obtain ⟨t1, q1, rfl, h1⟩ := da_int h; obtain ⟨t2, q2, rfl, h2⟩ := da_int h1; obtain ⟨t3, q3, rfl, h3⟩ := da_int h2; rw [da_nil h3]; exact .cons (.int _ _) (.cons (.int _ _) (.cons (.int _ _) .nil)))
theorem told_dat {I : List (Addr × Obj)} {v : Value} {r : TR} (h : ToldIn I v r) : DatIn I v (datOf r) := by
  obtain ⟨a, p, t, k, j, ps, rfl, h1, h2, h3⟩ := h
  exact DatIn.tuple h1 (.cons (.str _ _) (.cons (DatIn.tuple h2 h3) .nil))
theorem told_sub {I I' : List (Addr × Obj)} (hs : ∀ p ∈ I, (∃ its n, p.2.data = .seq its n) → p ∈ I') : ∀ {rs : List TR} {vs : List Value}, DatAll I vs (rs.map datOf) → DatAll I' vs (rs.map datOf)
  | [], _, h => by rw [da_nil h]; exact .nil
  | r :: rs, _, h => by
    rw [List.map_cons] at h
    cases h with
    | cons a b =>
      obtain ⟨x, p, t, k, j, ps, rfl, h1, h2, h3⟩ := told_of a
      exact .cons (told_dat ⟨x, p, t, k, j, ps, rfl, hs _ h1 ⟨_, _, rfl⟩, hs _ h2 ⟨_, _, rfl⟩, parts_any h3⟩) (told_sub hs b)
theorem told_offA {h₀ h : Heap} {L c : Addr} {oc : Obj} {own : List (Addr × Obj)} {rs : List TR} {vs : List Value} {x : Option Value} (N : News h₀ L h own) (hc : (c, oc) ∈ own) (hd : oc.data = .cell x) (H : DatAll own vs (rs.map datOf)) : DatAll (offA c own) vs (rs.map datOf) := by
  refine told_sub (fun p hp hq => mem_offA.mpr ⟨hp, fun e => ?_⟩) H
  obtain ⟨its, n, hq⟩ := hq
  have h1 := (N p hp).1
  have h2 := (N _ hc).1
  rw [e] at h1
  have e2 : p.2 = oc := Option.some.inj (h1.symm.trans h2)
  rw [e2, hd] at hq
  cases hq
theorem ledger_cell {h₀ h : Heap} {L c : Addr} {oc : Obj} {q : Addr × Obj} {own : List (Addr × Obj)} (N : News h₀ L h (q :: own)) (hc : (c, oc) ∈ own) : News h₀ L h ((c, oc) :: q :: offA c own) := fun p hp => by
  rcases List.mem_cons.mp hp with rfl | hp
  · exact N _ (.tail _ hc)
  rcases List.mem_cons.mp hp with rfl | hp
  · exact N _ (.head _)
  · exact N _ (.tail _ (mem_offA.mp hp).1)
theorem cell_out {h₀ h : Heap} {L c : Addr} {oc : Obj} {q : Addr × Obj} {own : List (Addr × Obj)} {rs : List TR} {vs : List Value} {x : Option Value} (N : News h₀ L h (q :: own)) (hc : (c, oc) ∈ own) (hd : oc.data = .cell x) (H : DatAll own vs (rs.map datOf)) :
    ∃ own2, News h₀ L h ((c, oc) :: q :: own2) ∧ OwnOff own2 [c] ∧ DatAll own2 vs (rs.map datOf) := ⟨_, ledger_cell N hc, offA_off, told_offA (news_tl N) hc hd H⟩
theorem off_of_lt {own : List (Addr × Obj)} {a : Addr} (h : ∀ p ∈ own, p.1 < a) : OwnOff own [a] := fun p hp b hb => by
  rw [List.mem_singleton.mp hb]
  exact Nat.ne_of_lt (h p hp)
theorem kw44 : True := by
 w_top off
 k_with_none
 k_with "ml" => first | assumption | (refine memsub (by assumption) ?_; first | assumption | exact List.Mem.head _ | (refine List.Mem.tail _ ?_; first | exact List.Mem.head _ | (refine List.Mem.tail _ ?_; first | exact List.Mem.head _ | (refine List.Mem.tail _ ?_; first | exact List.Mem.head _ | (refine List.Mem.tail _ ?_; first | assumption) | assumption) | assumption) | assumption) | assumption)
 k_with "k_mem" => first | exact List.Mem.head _ | (refine List.Mem.tail _ ?_; k_extra "k_mem") | k_extra "ml"
 k_with "ks" => repeat' (first | (k_unfold; (try dsimp only)) | (k_end; kc_close) | (walk1; (try (first | (with_reducible show wpAny _ _ (exec _ _) _ _ _; (try dsimp only); (refine letq ?_; intro qk9ᵩ); (try with_reducible refine wpst ?_; intro tk9ᵩ); (try walk_at "fold9")) | (with_reducible show wpAny _ _ (execs _ _) _ _ _; k_fold)))) | (dsimp only; walk1) | (leave1; walk_say "STEP leave1"; try dsimp only) | (k_unmd; k_unfold; (try dsimp only)) | fail "no step")
 k_with "in9" => first | with_reducible assumption | (refine' Frag.In.keeps ?y9X (Fr.keep ?y9F); (case y9F => k_asm); (case y9X => k_asm))
 k_with "eval Constant str" => with_reducible refine kstr ?_
 k_with "eval Constant int" => with_reducible refine kint ?_
 k_with "oc" => first | (apply c1; assumption) | (apply c2; assumption) | (apply l2; assumption) | (apply c3; assumption) | (apply c4; assumption) | (apply c5; assumption) | (apply c6; assumption) | (apply c7; assumption) | (apply c8; assumption) | (apply c9; assumption) | (apply c10; assumption) | (apply c11; assumption) | (apply c12; assumption) | (apply c13; assumption) | (apply c14; assumption) | (apply c15; assumption) | (apply c16; assumption)
 k_with "od" => first | (apply c1; assumption) | (apply c2; assumption) | (apply l2; assumption) | (apply c3; assumption) | (apply c4; assumption) | (apply c5; assumption) | (apply c6; assumption) | (apply c7; assumption)
 k_with "on" => first | (apply zsy; assumption) | (apply zgt; first | assumption | k_extra "oc") | (apply zlt; first | assumption | k_extra "oc") | (apply gtt; assumption; first | assumption | k_extra "od") | (apply ltt; assumption; first | assumption | k_extra "od")
 k_with "oi" => first | exact nn0 | exact nn0' | exact z63 (by assumption) (by assumption) | exact z63b (by assumption) (by assumption) | exact n63 (by assumption) (by assumption) | exact n63b (by assumption) (by assumption) | exact z63c (by assumption) (by assumption) | exact z63d (by assumption) (by assumption) | exact nlt (by assumption) | exact n62 (by assumption) | exact n62b (by assumption) | exact tnl (by assumption) (by assumption) | exact sub1 (by assumption) | exact sub2 (by assumption) (by assumption) | decide | exact Int.lt_of_lt_of_le (by assumption) (by decide) | exact Nat.le_trans (by assumption) (by decide) | exact ul (by assumption) (by decide) | exact up0 (by assumption) (by assumption) | k_extra "oc"
 k_with "om" => first | (k_whole; with_reducible (first | assumption | (show @Ne Nat _ _; k_extra "on") | (show @Eq Nat _ _; first | exact tn1 (by assumption) | exact z0i) | ((first | show @LT.lt Int _ _ _ | show @LE.le Int _ _ _ | show @LT.lt Nat _ _ _ | show @LE.le Nat _ _ _); k_extra "oi")))
 k_with "execs cons If" => (k_here; (with_reducible show wpAny _ _ (execs (PySem.Stmt.If (PySem.Expr.Compare (PySem.Expr.Name _ _) [.Eq] [PySem.Expr.Constant (.str _) _ _] _) _ _ _ :: _) _) _ _ _); first | ((with_reducible show wpAny _ _ (execs (PySem.Stmt.If _ _ [] _ :: _) _) _ _ _); k_dflt (refine' cif_f ?F ?v ?x ?c ?k ?d ?_; (case F => k_asm); (case x => kernel_rfl!); (case k => kernel_rfl!); (case d => kernel_rfl!); (case v => rfl); (case c => first | with_reducible assumption | kernel_rfl!); k_whole)) | ((with_reducible show wpAny _ _ (execs [PySem.Stmt.If _ _ (_ :: _) _] _) _ _ _); k_dflt (refine' cif_g ?F ?v ?x ?c ?k ?d ?_; (case F => k_asm); (case x => kernel_rfl!); (case k => kernel_rfl!); (case d => kernel_rfl!); (case v => rfl); (case c => first | with_reducible assumption | kernel_rfl!); k_whole)) | ((with_reducible show wpAny _ _ (execs [PySem.Stmt.If _ _ _ _] _) _ _ _); k_dflt (refine' cif_t ?F ?v ?x ?c ?k ?d ?_; (case F => k_asm); (case x => kernel_rfl!); (case k => kernel_rfl!); (case d => kernel_rfl!); (case v => rfl); (case c => first | with_reducible assumption | kernel_rfl!); k_whole)) | k_dflt (refine' cif_r ?F ?v ?x ?c ?k ?d ?_; (case F => k_asm); (case x => kernel_rfl!); (case k => kernel_rfl!); (case d => kernel_rfl!); (case v => rfl); (case c => first | with_reducible assumption | kernel_rfl!); k_whole))
 k_with "callWith" => ((with_reducible show wpAny _ _ (callWith _ (Value.builtin _) (_ :: _) (backTo _ (starEach (_ :: _) _)) []) _ _ _); refine callWith_method1 ?_)
 k_with "callWith ref" => (k_here; k_dflt (first | (refine' callWith_K ?y9k ?y9l ?_; (case y9k => k_asm); (case y9l => k_is); k_whole) | (refine' callWith_K0 ?y9k ?y9l ?_; (case y9k => k_in); (case y9l => k_is); k_whole)))
 k_with "eval Name" => (k_here; (fail_if_success (with_reducible show wpAny _ _ (eval (PySem.Expr.Name _ _) (compEnvC _ _ _ _)) _ _ _)); k_dflt (first | (refine' nameX_L ?y9F ?y9v ?_ ?y9a ?y9b ?y9d; (case y9F => k_asm); (case y9a => kernel_rfl!); (case y9b => kernel_rfl!); (case y9d => kernel_rfl!); (case y9v => rfl); k_whole) | (refine' nameX_K ?y9F ?y9X ?y9T ?y9e ?_ ?y9a ?y9b; (case y9F => k_asm); (case y9X => k_asm); (case y9T => k_asm); (case y9a => kernel_rfl!); (case y9b => kernel_rfl!); (case y9e => k_is); k_whole) | (refine' nameX_C ?y9N ?y9c ?y9m ?y9d ?_ ?y9a ?y9b; (case y9a => kernel_rfl!); (case y9b => kernel_rfl!); (case y9N => k_asm); (case y9c => rfl); (case y9m => k_mem); (case y9d => k_asm); k_whole) | (refine' nameX_B ?y9F ?y9X ?y9T ?y9e ?y9v ?y9n ?_ ?y9a ?y9b; (case y9F => k_asm); (case y9X => k_asm); (case y9T => k_asm); (case y9a => kernel_rfl!); (case y9b => kernel_rfl!); (case y9e => k_is); (case y9v => boot_fast); (case y9n => decide); k_whole)))
 k_with "execs cons Return" => with_reducible refine cret ?_
 k_with "newTuple" => (k_here; k_dflt (refine' kup_newTuple (by k_asm) (by k_asm) ?_ (by kmk_size)); intro D'ᵩ h'ᵩ F'ᵩ N'ᵩ l1ᵩ; have l2ᵩ := l1ᵩ; (try k_lt l1ᵩ))
 k_with "k9" => (first | exact rfl | assumption)
 k_with "d9" => (first | exact rmc0 (by assumption) (by decide) | exact rmc 1 (by assumption) (by decide) | exact rmc 2 (by assumption) (by decide) | exact rmc 3 (by assumption) (by decide))
 k_with "u9" => (first | exact rmu0 (by assumption) (by decide) | exact rmu 3 (by assumption) (by decide) | exact rmu 6 (by assumption) (by decide) | exact rmu 9 (by assumption) (by decide) | exact rmu 1 (by assumption) (by decide) | exact rmu 4 (by assumption) (by decide) | exact rmu 7 (by assumption) (by decide))
 k_with "r9" => (first | exact rm0 (by assumption) | exact rm 1 (by assumption) (by decide) | exact rm 2 (by assumption) (by decide) | exact rm 3 (by assumption) (by decide) | exact rm 4 (by assumption) (by decide))
 k_with "b9" => (first | exact BindsTo.of_eq rfl | exact binds_K (by k_in) rfl (by k_is) rfl rfl rfl)
 k_with "c9" => (k_dflt (refine' code_def ?k1 ?k2 ?k3 ?k4 ?k5 ?kA ?kF ?kK ?k6 ?k7 ?k8 ?k9 ?kB ?_ ?c2 ?c3 ?c4 ?c5; (case kA => exact rfl); (case kF => exact rfl); (case kK => k_extra "k9"); (case k1 => k_asm); (case k2 => k_asm); (case k3 => k_asm); (case k4 => k_asm); (case k5 => k_asm); (case k6 => k_is); (case k7 => k_is); (case k8 => k_extra "r9"); (case k9 => k_extra "b9"); (case c5 => decide); (case kB => exact locs rfl); (case c2 => exact rfl); (case c3 => exact rfl); (case c4 => exact rfl); k_whole); intro g'ᵩ L'ᵩ h'ᵩ FG'ᵩ F'ᵩ N'ᵩ B'ᵩ X'ᵩ T'ᵩ; (try dsimp only))
 k_with "i9" => (k_dflt (refine' item_led (by k_asm) (by k_mem) (by omega) (by with_reducible assumption) (by omega) ?_ (by with_unfolding_all rfl); k_whole))
 k_with "j9" => (first | k_dflt (refine' item_tupleT (News.isTup (by k_asm) (by k_mem)) (by decide) (by decide) (by rfl) (by rfl) ?_ (by with_unfolding_all rfl); k_whole) | k_extra "i9")
 k_with "mo" => exact ⟨_, _, _, _, _, _, _, _, ⟨_, _, _, _, _, _, _, _, _, _, _, _, _, _, _, _, _, _, _, _, _, rfl⟩⟩
 k_with "nt" => (first | assumption | exact news_tl (by assumption) | exact news_tl (news_tl (by assumption)) | exact news_tl (news_tl (news_tl (by assumption))) | exact news_tl (news_tl (news_tl (news_tl (by assumption)))) | exact news_tl (news_tl (news_tl (news_tl (news_tl (by assumption))))) | exact news_tl (news_tl (news_tl (news_tl (news_tl (news_tl (by assumption)))))) | exact news_tl (news_tl (news_tl (news_tl (news_tl (news_tl (news_tl (by assumption))))))))
 k_with "subscriptTail Attribute Subscript Constant ref int" => (k_here; k_extra "j9")
 k_with "subscriptTail Name Constant ref int" => (k_here; k_extra "j9")
 k_with "subscriptTail Attribute Name Constant ref int" => (k_here; k_extra "j9")
 k_with "subscriptTail Name Name ref int" => (k_here; k_extra "i9")
 k_with "ite" => first | with_reducible refine ite_tt ?_ | with_reducible refine ite_ff ?_ | (k_closed; k_dflt (first | (with_reducible refine' ite_bp ?y9z ?_; (case y9z => kernel_rfl!)) | (with_reducible refine' ite_bn ?y9z ?_; (case y9z => kernel_rfl!)) | refine ite_pos (by decide) ?_ | refine ite_neg (by decide) ?_)) | (with_reducible refine ite_af (by decide +kernel) ?_) | (with_reducible refine ite_at (by decide +kernel) ?_) | (with_reducible refine ite_dp (by omega) ?_) | (with_reducible refine ite_dn (by omega) ?_) | (with_reducible refine ite_bp (by assumption) ?_) | (with_reducible refine ite_bn (by assumption) ?_)
 k_with "call builtin:len" => (k_here; (with_reducible show wpAny _ _ (call (Value.builtin "len") [Value.ref _]) _ _ _); k_dflt (refine' len_led (by k_asm) (by k_mem) (by with_reducible assumption) (by omega) ?_; k_whole))
 k_with "call ref" => (k_here; (with_reducible show wpAny _ _ (call (Value.ref _) _) _ _ _); refine wpAny_call ?_; k_extra "c9")
 trivial
theorem cend_two {h₀ h' : Heap} {L I C D : Addr} {m : Str → Option Value} {s₁ : Shared} {oI oC oD : Obj} {J : Value → List (Addr × Obj) → Prop} {y : Value} {tk : Nat} {nw : List (Addr × Obj)} {q1 q2 : Addr × Obj}
    (F : Fr h₀ L h' m) (N : News h₀ L h' (q1 :: q2 :: (I, oI) :: (C, oC) :: (D, oD) :: nw)) (off : ∀ p ∈ nw, p.1 ≠ I ∧ p.1 ≠ C ∧ p.1 ≠ D) (o1 : q1.1 ≠ I ∧ q1.1 ≠ C ∧ q1.1 ≠ D) (o2 : q2.1 ≠ I ∧ q2.1 ≠ C ∧ q2.1 ≠ D)
    (r : J y (q1 :: q2 :: nw)) : CEnd h₀ L m s₁ I oI C oC D oD J y { s₁ with heap := h', toks := tk } :=
  cend (q1 :: q2 :: nw) F N (by repeat' (first | exact fun _ h => h | refine subl_cons (by k_mem) ?_ | (intro p hp; k_mem))) (fun p hp => by
    rcases List.mem_cons.mp hp with rfl | hp
    · exact o1
    rcases List.mem_cons.mp hp with rfl | hp
    · exact o2
    · exact off p hp) r
theorem cend_one {h₀ h' : Heap} {L I C D : Addr} {m : Str → Option Value} {s₁ : Shared} {oI oC oD : Obj} {J : Value → List (Addr × Obj) → Prop} {y : Value} {tk : Nat} {nw : List (Addr × Obj)} {q1 : Addr × Obj}
    (F : Fr h₀ L h' m) (N : News h₀ L h' (q1 :: (I, oI) :: (C, oC) :: (D, oD) :: nw)) (off : ∀ p ∈ nw, p.1 ≠ I ∧ p.1 ≠ C ∧ p.1 ≠ D) (o1 : q1.1 ≠ I ∧ q1.1 ≠ C ∧ q1.1 ≠ D)
    (r : J y (q1 :: nw)) : CEnd h₀ L m s₁ I oI C oC D oD J y { s₁ with heap := h', toks := tk } :=
  cend (q1 :: nw) F N (by repeat' (first | exact fun _ h => h | refine subl_cons (by k_mem) ?_ | (intro p hp; k_mem))) (fun p hp => by
    rcases List.mem_cons.mp hp with rfl | hp
    · exact o1
    · exact off p hp) r
theorem off_nil {l : List Addr} : OwnOff [] l := fun _ h => nomatch h
section
variable {prog : Program} {w : World} {A : Around} {E : Value → Shared → Prop} {s : Shared} {h₀ : Heap} {L : Addr} {news n₁ n₂ : List (Addr × Obj)} {x y : Value} {d : Dat} {Q : Value → Shared → Prop}
theorem dat_ne_same (N : News h₀ L s.heap news) (Da : DatIn n₁ x d) (sa : ∀ p ∈ n₁, p ∈ news) (Db : DatIn n₂ y d) (sb : ∀ p ∈ n₂, p ∈ news) (ok : kqdOk 9 d = true) (hu : A.units + 64 < cLine) (h : Q (.bool false) s) :
    wpAny (model prog w) A (compareOp .NotEq x y) Q E s := by
  obtain ⟨as, ra⟩ := kqd_in N 9 (Da.mono sa) ok
  obtain ⟨bs, rb⟩ := kqd_in N 9 (Db.mono sb) ok
  have la := kqd_lay 9 d ok
  have sh : SeqAt.shaped (kqdP d) = true := by
    unfold SeqAt.shaped
    rw [la.1, Bool.true_and]
    exact decide_eq_true (Nat.le_trans la.2 (by decide))
  refine ne_dataH ra rb sh sh hu ?_
  have e : PyData.eqv (kqdP d) (kqdP d) = true := (kqd_eqv 9 d d 9 ok ok).mpr rfl
  rw [e]
  exact h
end
theorem kqd_row8 (r : TR) : kqdOk 8 (datOf r) = true := kqd_row r
theorem kqd_told (rs : List TR) : kqdOk 9 (.list (rs.map datOf)) = true := by
  have h := kqd_rows rs
  simpa [kqdOk] using h
theorem ints_dat {I : List (Addr × Obj)} : ∀ {vs : List Value} {ns : List Int}, IntsAre vs ns → DatAll I vs (ns.map Dat.int)
  | _, _, .nil => .nil
  | _, _, .cons _ _ h => .cons (.int _ _) (ints_dat h)
theorem kqd_end (o n : Int) (r : List Int) : kqdOk 9 (endD o n r) = true := by
  have h : PyData.strOk (Str.ofString "exit") = true := by decide +kernel
  simp [endD, kqdOk, h]
theorem told_dats {I : List (Addr × Obj)} {rs : List TR} {ws : List Value} : DatAll I ws (rs.map datOf) → ∀ {i : Nat}, (h : i < rs.length) → ∃ v, ws[i]? = some v ∧ ToldIn I v rs[i] := fun h _ hi => told_get h hi
theorem strip_idle : ∀ (rs : List TR), strN rs.length rs = stripI rs := strN_all
end
section
open PyProof.V
section
theorem kw45 : True := by
 w_top off
 k_with "fold9" => (try (refine letf (by assumption) ?_; intro m9ᵩ F9ᵩ))
 k_with "eval Name" => (k_here; (with_reducible show wpAny _ _ (eval (PySem.Expr.Name _ _) (compEnvC _ _ _ _)) _ _ _); k_dflt (first | (refine' LCgL.ld_own ?y9a ?y9b ?y9c ?y9d ?_; (case y9a => k_asm); (case y9b => k_mem); (case y9c => assumption); (case y9d => assumption)) | (refine' LCgL.ld_global ?y9a ?y9b ?y9c ?y9d ?_; (case y9a => k_asm); (case y9b => k_asm); (case y9c => k_asm); (case y9d => k_is))))
 k_with "call ref" => (k_here; (with_reducible show wpAny _ _ (call (Value.ref _) _) _ _ _); k_dflt (refine' call_cls (by k_asm) (by k_asm) (by k_asm) (by k_is) (by k_is) (by k_is) ?_; k_whole); intro x'ᵩ d'ᵩ h'ᵩ F'ᵩ N'ᵩ l1ᵩ l2ᵩ; (try k_lt l1ᵩ); (try k_lt2 l2ᵩ); k_extra "c9")
 k_with "call ref" => (k_here; (with_reducible show wpAny _ _ (call (Value.ref 478) _) _ _ _); refine StopG.out ?_)
 k_with "call ref" => (k_here; (with_reducible show wpAny _ _ (call (Value.ref 186) _) _ _ _); refine StopG.out ?_)
 k_with "call ref" => (k_here; (with_reducible show wpAny _ _ (call (Value.ref 485) _) _ _ _); refine StopG.out ?_)
 k_with "call ref" => (k_here; (with_reducible show wpAny _ _ (call (Value.ref 492) _) _ _ _); refine StopG.out ?_)
 k_with "call ref" => (k_here; (with_reducible show wpAny _ _ (call (Value.ref 450) _) _ _ _); refine StopG.out ?_)
 k_with "call ref" => (k_here; (with_reducible show wpAny _ _ (call (Value.ref 447) _) _ _ _); refine StopG.out ?_)
 k_with "compareOp NotEq ref ref" => (k_here; (with_reducible show wpAny _ _ (compareOp _ (Value.ref _) (Value.ref _)) _ _ _); refine StopG.out ?_)
 k_with "subscriptTail Name Name ref int" => (k_here; (with_reducible show wpAny _ _ (subscriptTail (PySem.Expr.Name _ _) (PySem.Expr.Name _ _) (Value.ref _) (Value.int _ _)) _ _ _); refine StopG.out ?_)
 k_with "call type:tuple" => (k_here; (with_reducible show wpAny _ _ (call (Value.type _) [Value.ref _]) _ _ _); k_dflt (refine' call_tuple_tup (News.isTup ?qN ?qm) ?_; (case qN => k_asm); (case qm => k_mem)))
 k_with "subscriptTail" => (k_here; (with_reducible show wpAny _ _ (subscriptTail (PySem.Expr.Attribute _ _ _) (PySem.Expr.Slice _ _ _ _) _ _) _ _ _); refine StopG.out ?_)
 k_with "pyIter ref" => (k_here; (with_reducible show wpAny _ _ (pyIter (Value.ref _)) (fun it s₂ => TurnsAt _ _ _ _ _ _ _ _ _ it s₂) _ _); refine StopG.out ?_)
 k_with "SrcLP" => (k_here; refine StopG.out ?_)
 k_with "CompSrc" => (k_here; (with_reducible show LCg.CompSrc _ _ _ _ _ _ _ _ (Str.ofString "row") _ _ _ _ _); refine StopG.out ?_)
 k_with "CompSrcT" => (k_here; refine StopG.out ?_)
 trivial
theorem law_z : PySem.Challenge.rw_pf0284_01.Holds := law_w fun d k hdf => by
  cases Option.some.inj (hdf.symm.trans (rfl : defOf viewP (Str.ofString "law") = some (_, _)))
  k_go0
  (all_goals try k_fold)
  k_steps
  refine StopG.mk ?_
  obtain ⟨ns9, hI9, hn9⟩ : ∃ ns, IntsAre ys ns ∧ ns.length ≤ 64 := by
    refine ⟨_, by assumption, ?_⟩
    rw [List.length_map, List.length_take]
    omega
  rename News _ _ _ _ => N1
  rename _ = Data.cell _ => hc0
  k_dflt (refine' told_c  _ _ _ _ _ _ _ _ _ _ _ ?B ?F ?X ?T ?kk N1 hI9 hn9 ?ho ?ne ?d ?u ?_; (case B => k_asm); (case F => k_asm); (case X => k_asm); (case T => k_asm); (case kk => first | exact rfl | assumption); (case ho => exact (by (repeat' (first | exact off_nil | refine off_add ?_ (two_ne ?_ ?_))); all_goals (refine neN ?_; (try dsimp only); omega))); (case ne => refine neN ?_; omega); (case d => ktr_room); (case u => ktr_units))
  intro d ws kw rs own' h2 tk2 F2 N2 hsub hlt hdat W
  have hc1 : _ = Data.cell none := hc0
  clear hc0
  obtain ⟨own2, N3, hof3, hd3⟩ := cell_out N2 (hsub _ (.tail _ (.head _))) hc1 hdat
  have hcd := hlt _ (.tail _ (.head _))
  dsimp only at hcd
  obtain ⟨m0, F3⟩ : ∃ m0, Fr _ _ h2 m0 := ⟨_, F2⟩
  clear F2 N2 hdat hlt hsub N1
  k_dflt (refine' storeX_C (v₀ := none) ?qF ?qN ?qc ?qU ?qd ?_ ?qa ?qb)
  case qa => rfl
  case qb => rfl
  case qF => k_asm
  case qN => exact N3
  case qc => rfl
  case qd => exact hc1
  case qU => exact UpdF.head (by intro p hp; rcases List.mem_cons.mp hp with rfl | hp; exact Nat.ne_of_gt hcd; exact hof3 p hp _ (.head _))
  intro h4 oc4 F4 N4 hc4
  k_steps
  refine StopG.mk ?_
  have hlen := told_len hd3
  have hW := W.le
  obtain ⟨BS, N5, hbc, hbd, hdB⟩ : ∃ BS, News _ _ h4 BS ∧ (_, oc4) ∈ BS ∧ (d, listOf ws.toArray kw) ∈ BS ∧ DatAll BS ws (rs.map datOf) := ⟨_, N4, .head _, .tail _ (.head _), hd3.mono fun p hp => .tail _ (.tail _ hp)⟩
  clear N4 N3 hd3 hof3 hcd hc1
  refine LCp.SrcLP.ledger (its := ws.toArray) rfl F4 N5 hbd (by rw [List.size_toArray, PySem.sizeLine_eq]; omega) (fun g5 => compP (fun i ys nw => (∀ p ∈ BS, p ∈ nw) ∧ RowsIn nw ys (rs.take i)) (fun i ys nw h => .inr ⟨_, h.1 _ hbd, rfl, _, rfl⟩) ⟨fun _ h => h, .nil⟩ ?item5 ?fin5)
  case item5 =>
    rintro i ys nw v hi5 ⟨hb, hys⟩ hv
    rw [List.size_toArray] at hi5
    have hi6 : i < rs.length := by omega
    obtain ⟨v', hv', a, p, t, k, j, ps, rfl, ha, hp, hps⟩ := told_get hdB hi6
    have hvv : ws[i]? = some v := by simpa using hv
    obtain rfl : v = .ref a := Option.some.inj (hvv.symm.trans hv')
    refine ⟨a, .str (nameOf rs[i]) t, .ref p, k, rfl, hb _ ha, ?_⟩
    intro I oI C oC D m₂ h6 tk6 E' hoC hx hx2 F6 N6 off6 ne6
    have hp' := hb _ hp
    k_steps
    rename News _ _ _ _ => N9
    rename Fr _ _ _ _ => F9
    refine cend_two F9 N9 off6 ⟨by (refine neN ?_; (try dsimp only); omega), by (refine neN ?_; (try dsimp only); omega), by (refine neN ?_; (try dsimp only); omega)⟩ ⟨by (refine neN ?_; (try dsimp only); omega), by (refine neN ?_; (try dsimp only); omega), by (refine neN ?_; (try dsimp only); omega)⟩ ⟨fun p hp => .tail _ (.tail _ (hb p hp)), ?_⟩
    rw [List.take_succ_eq_append_getElem hi6]
    exact (hys.mono fun p hp => .tail _ (.tail _ hp)).append (.cons ⟨_, _, p, _, _, _, _, _, _, ps, j, rfl, .head _, .tail _ (.head _), .tail _ (.tail _ hp'), hps.mono fun p hp => .tail _ (.tail _ (hb p hp))⟩ .nil)
  case fin5 =>
    rintro rvs nw ⟨hb, hys⟩
    rw [List.size_toArray, hlen, List.take_length] at hys
    clear F4 N5
    intro Dr h7 tk7 F7 N7 o7
    clear o7
    obtain ⟨B2, N8, hbc2, hbd2, hdB2, hbr2, hrB2⟩ : ∃ BS, News _ _ h7 BS ∧ (_, oc4) ∈ BS ∧ (d, listOf ws.toArray kw) ∈ BS ∧ DatAll BS ws (rs.map datOf) ∧ (Dr, listOf rvs.toArray rvs.length) ∈ BS ∧ RowsIn BS rvs rs := ⟨_, N7, .tail _ (hb _ hbc), .tail _ (hb _ hbd), hdB.mono fun p hp => .tail _ (hb p hp), .head _, hys.mono fun p hp => .tail _ hp⟩
    clear N7 hbc hbd hdB hb hys
    k_steps
    refine StopG.mk ?_
    k_dflt (refine' without_c  B2 Dr rvs _ rs ?qB ?qF ?qX ?qT ?qk N8 hbr2 hrB2 (by omega) ?qd ?qu ?_; (case qB => k_asm); (case qF => k_asm); (case qX => k_asm); (case qT => k_asm); (case qk => first | exact rfl | assumption); (case qd => ktr_room); (case qu => ktr_units))
    intro Dl lws h9 tk9 F9 N9 hlR
    k_steps
    refine StopG.mk ?_
    rename News _ _ _ _ => N10
    rename Fr _ _ _ _ => F10
    try dsimp only at F10
    refine LCt.CompSrcT.range rfl F10 N10 (by assumption) (small_one (by decide) (by decide) (by omega) (by omega)) (rsize _) (by rw [PySem.sizeLine_eq]; omega) (fun g11 => compT (fun i ys nw => nw = _ ∧ DatAll B2 ys ((strN i rs).map datOf)) (fun _ _ _ _ => trivial) ⟨rfl, .nil⟩ ?turn11 ?fin11)
    case turn11 =>
      clear N10 F10
      rintro i ys nw v I oI C oC D m₂ h12 tk12 E' hi ⟨rfl, hys⟩ ⟨tv, rfl⟩ hoC hx F12 N12 off ne
      obtain ⟨v, hv, hdv⟩ := told_get hdB2 hi
      k_steps
      refine StopG.mk ?_
      k_dflt (refine' lidle_c  _ d ws kw rs _ _ ?qB ?qF ?qX ?qT ?qk ?qN ?ql ?qR ?qa ?qb ?qz ?qd ?qu ?_; (case qB => k_asm); (case qF => k_asm); (case qX => k_asm); (case qT => k_asm); (case qk => first | exact rfl | assumption); (case qd => ktr_room); (case qu => ktr_units); (case qN => k_asm); (case ql => k_mem); (case qR => refine' PySem.W.DatAll.mono ?qss ?qrr; (case qrr => exact hdB2); (case qss => intro p hp; k_mem)); (case qa => omega); (case qb => omega); (case qz => omega))
      intro h13 tk13 F13 N13
      have e : ((0 : Int) + (i : Int)).toNat = i := by omega
      rw [e]
      cases hb : idleAt rs i
      · k_steps
        refine StopG.mk ?_
        refine item_led N13 (by k_mem) (by omega) (by rw [e]; exact hv) (by omega) ?_
        refine cend _ (by assumption) N13 (fun p hp => hp) off ⟨rfl, ?_⟩
        rw [strN_succ i rs hi, hb, List.map_append]
        exact da_snoc hys (told_dat hdv)
      · k_steps
        refine cno _ (by assumption) N13 (fun p hp => hp) off ⟨rfl, ?_⟩
        rw [strN_succ i rs hi, hb]
        simpa using hys
    case fin11 =>
      clear N10 F10
      rintro dvs nw ⟨rfl, hdue⟩
      rw [strN_all] at hdue
      intro Dd h14 tk14 F14 N14 o14
      clear o14
      obtain ⟨B3, N15, hbc3, hbd3, hdB3, hbr3, hrB3, hbl3, hlB3, hbu3, huB3⟩ : ∃ BS, News _ _ h14 BS ∧ (_, oc4) ∈ BS ∧ (d, listOf ws.toArray kw) ∈ BS ∧ DatAll BS ws (rs.map datOf) ∧ (Dr, listOf rvs.toArray rvs.length) ∈ BS ∧ RowsIn BS rvs rs ∧ (Dl, listOf lws.toArray lws.length) ∈ BS ∧ RowsIn BS lws (stripI rs) ∧ (Dd, listOf dvs.toArray dvs.length) ∈ BS ∧ DatAll BS dvs ((stripI rs).map datOf) :=
        ⟨_, N14, .tail _ (.tail _ hbc2), .tail _ (.tail _ hbd2), hdB2.mono fun p hp => .tail _ (.tail _ hp), .tail _ (.tail _ hbr2), hrB2.mono fun p hp => .tail _ (.tail _ hp), .tail _ (.head _), hlR.mono fun p hp => .tail _ (.tail _ hp), .head _, hdue.mono fun p hp => .tail _ (.tail _ hp)⟩
      clear N14 hbc2 hbd2 hdB2 hbr2 hrB2 hlR hdue
      have hsl := strip_len rs
      have hlenl := hlB3.length
      have hlenr := hrB3.length
      k_steps
      refine StopG.mk ?_
      rename Fr _ _ _ _ => F16
      rename News _ _ _ _ => N16
      try dsimp only at F16
      refine LCg.CompSrc.ledger (its := lws.toArray) rfl F16 N16 hbl3 (by rw [List.size_toArray, PySem.sizeLine_eq]; omega) (fun g16 => compU (fun i ys nw => (∀ p ∈ B3, p ∈ nw) ∧ DatAll nw ys (((stripI rs).take i).map datOf)) (fun i ys nw h => .inr ⟨_, h.1 _ hbl3, rfl, _, rfl⟩) ⟨fun _ h => h, .nil⟩ ?turn16 ?fin16)
      case turn16 =>
        rintro i ys nw v I oI C oC D m₂ h6 tk6 E' hi5 ⟨hb, hys⟩ hv hoC hx F6 N6 off6 ne6
        rw [List.size_toArray] at hi5
        have hi6 : i < (stripI rs).length := by omega
        obtain ⟨v', hv', x, dx, p, e1, e2, t1, t2, t3, nn, ps, k, rfl, hxi, hdx, hp, hps⟩ := hlB3.get hi6
        have hvv : lws[i]? = some v := by simpa using hv
        obtain rfl : v = .ref x := (Option.some.inj (hvv.symm.trans hv'))
        have hxi' := hb _ hxi
        have hdx' := hb _ hdx
        have hp' := hb _ hp
        k_steps
        rename News _ _ _ _ => N9
        rename Fr _ _ _ _ => F9
        refine cend_one F9 N9 off6 ⟨by (refine neN ?_; (try dsimp only); omega), by (refine neN ?_; (try dsimp only); omega), by (refine neN ?_; (try dsimp only); omega)⟩ ⟨fun p hp => .tail _ (hb p hp), ?_⟩
        rw [List.take_succ_eq_append_getElem hi6, List.map_append]
        exact da_snoc (hys.mono fun p hp => .tail _ hp) (DatIn.tuple (.head _) (.cons (.str _ _) (.cons (DatIn.tuple (.tail _ hp') (hps.mono fun p hp => .tail _ (hb p hp))) .nil)))
      case fin16 =>
        rintro uvs nw ⟨hb, hys⟩
        rw [List.size_toArray, hlenl, List.take_length] at hys
        intro Du h17 tk17 F17 N17 o17
        clear o17
        k_steps
        refine StopG.mk ?_
        refine dat_ne_same (d := .list ((stripI rs).map datOf)) N17 (DatIn.list (.head _) (hys.mono fun p hp => .tail _ hp)) (fun p hp => hp) (DatIn.list hbu3 huB3) (fun p hp => .tail _ (hb p hp)) (kqd_told _) (by ktr_units) ?_
        obtain ⟨B4, N18, hB4⟩ : ∃ BS, News _ _ h17 BS ∧ ∀ p ∈ B3, p ∈ BS := ⟨_, N17, fun p hp => .tail _ (hb p hp)⟩
        clear N17 hb hys N16 F16
        k_steps
        refine StopG.mk ?_
        try dsimp only at F17
        refine LCg.CompSrc.ledger (its := rvs.toArray) rfl F17 N18 (hB4 _ hbr3) (by rw [List.size_toArray, PySem.sizeLine_eq]; omega) (fun g18 => compU (fun i ys nw => (∀ p ∈ B4, p ∈ nw) ∧ DatAll nw ys ((rs.take i).map datOf)) (fun i ys nw h => .inr ⟨_, h.1 _ (hB4 _ hbr3), rfl, _, rfl⟩) ⟨fun _ h => h, .nil⟩ ?turn18 ?fin18)
        case turn18 =>
          rintro i ys nw v I oI C oC D m₂ h6 tk6 E' hi5 ⟨hb, hys⟩ hv hoC hx F6 N6 off6 ne6
          rw [List.size_toArray] at hi5
          have hi6 : i < rs.length := by omega
          obtain ⟨v', hv', x, dx, p, e1, e2, t1, t2, t3, nn, ps, k, rfl, hxi, hdx, hp, hps⟩ := hrB3.get hi6
          have hvv : rvs[i]? = some v := by simpa using hv
          obtain rfl : v = .ref x := (Option.some.inj (hvv.symm.trans hv'))
          have hxi' := hb _ (hB4 _ hxi)
          have hdx' := hb _ (hB4 _ hdx)
          have hp' := hb _ (hB4 _ hp)
          k_steps
          rename News _ _ _ _ => N9
          rename Fr _ _ _ _ => F9
          refine cend_one F9 N9 off6 ⟨by (refine neN ?_; (try dsimp only); omega), by (refine neN ?_; (try dsimp only); omega), by (refine neN ?_; (try dsimp only); omega)⟩ ⟨fun p hp => .tail _ (hb p hp), ?_⟩
          rw [List.take_succ_eq_append_getElem hi6, List.map_append]
          exact da_snoc (hys.mono fun p hp => .tail _ hp) (DatIn.tuple (.head _) (.cons (.str _ _) (.cons (DatIn.tuple (.tail _ hp') (hps.mono fun p hp => .tail _ (hb p (hB4 p hp)))) .nil)))
        case fin18 =>
          rintro uvs nw ⟨hb, hys⟩
          rw [List.size_toArray, hlenr, List.take_length] at hys
          intro Du2 h19 tk19 F19 N19 o19
          clear o19
          have hbc4 := hb _ (hB4 _ hbc3)
          k_steps
          refine StopG.mk ?_
          refine dat_ne_same (d := .list (rs.map datOf)) N19 (DatIn.list (.head _) (hys.mono fun p hp => .tail _ hp)) (fun p hp => hp) (DatIn.list hbd3 hdB3) (fun p hp => .tail _ (hb p (hB4 p hp))) (kqd_told _) (by ktr_units) ?_
          k_steps
          refine StopG.mk ?_
          rename News _ _ _ _ => N20
          rename IntsAre _ _ => hi20
          rename _ ∧ _ ∧ AllLt _ _ => l20
          k_dflt (refine' passed_c  _ d _ ws kw _ 0 rs ?qB ?qF ?qX ?qT ?qk N20 ?ql ?qR ?qI ?qo W ?qd ?qu ?_; (case qB => k_asm); (case qF => k_asm); (case qX => k_asm); (case qT => k_asm); (case qk => first | exact rfl | assumption); (case qd => ktr_room); (case qu => ktr_units); (case ql => exact .tail _ (.tail _ (hb _ (hB4 _ hbd3)))); (case qR => exact hdB3.mono fun p hp => .tail _ (.tail _ (hb p (hB4 p hp)))); (case qI => exact hi20); (case qo => (intro p hp b hb9; rw [List.mem_singleton.mp hb9]; rcases List.mem_cons.mp hp with rfl | hp; (refine neN ?_; (try dsimp only); omega); rcases List.mem_cons.mp hp with rfl | hp; (refine neN ?_; (try dsimp only); omega); exact Nat.ne_of_lt (ltAll' l20.2.2 p hp))))
          intro Dq gs5 t51 t52 t53 own5 h21 tk21 F21 N21 hI21 hl21 hsub21
          obtain ⟨B5, rg, N22, hT5, hr5, hB5⟩ : ∃ BS rg, News _ _ h21 BS ∧ (Dq, tupO [.ref rg, .int (Mine.run none rs S0).o t51, .int (Mine.run none rs S0).n t52, .int (Mine.run none rs S0).d t53] 0) ∈ BS ∧ (rg, listOf gs5.toArray 0) ∈ BS ∧ ∀ p ∈ B3, p ∈ BS :=
            ⟨_, _, N21, .head _, .tail _ (.head _), fun p hp => .tail _ (.tail _ (hsub21 p (.tail _ (.tail _ (hb p (hB4 p hp))))))⟩
          clear N21 N20 hi20 l20 hsub21 hb hys hbc4 hB4
          k_steps
          refine StopG.mk ?_
          rename News _ _ _ _ => N23
          rename Fr _ _ _ _ => F23
          try dsimp only at F23
          obtain ⟨B6, N24, hm6, ht6a, ht6b, hB6⟩ : ∃ BS, News _ _ _ BS ∧ (_, tupO [.ref _, .ref _] 0) ∈ BS ∧ (_, tupO [.ref Dr, .int 0 _] 0) ∈ BS ∧ (_, tupO [.ref Dl, .int _ t53] 0) ∈ BS ∧ ∀ p ∈ B5, p ∈ BS := ⟨_, N23, .head _, .tail _ (.tail _ (.head _)), .tail _ (.head _), fun p hp => .tail _ (.tail _ (.tail _ hp))⟩
          have sim := run_strip rs none S0 S0 ⟨rfl, rfl, rfl, rfl⟩
          refine forT (vs := [.ref _, .ref _]) [Str.ofString "some", Str.ofString "fewer", Str.ofString "machine", Str.ofString "end"] (fun _ nw => ∀ p ∈ B6, p ∈ nw) rfl F23 N24 hm6 (fun _ h => h) (fun i nw h => h _ hm6) ?turn24 ?done24
          case turn24 =>
            intro I o i v u nw h25 tk25 ho hv hI hJ off F25 N25
            obtain ⟨tt, Dx, xvs, xrs, few, tf, rfl, htt, hDx, hRx, Wx, eo, er, en⟩ : ∃ (tt Dx : Addr) (xvs : List Value) (xrs : List TR) (few : Int) (tf : Tok), v = .ref tt ∧ (tt, tupO [.ref Dx, .int few tf] 0) ∈ B6 ∧ (Dx, listOf xvs.toArray xvs.length) ∈ B6 ∧ RowsIn B6 xvs xrs ∧ WF xrs ∧
                (Mine.run none xrs S0).o = (Mine.run none rs S0).o ∧ (Mine.run none xrs S0).r = (Mine.run none rs S0).r ∧ ((Mine.run none xrs S0).n : Int) = ((Mine.run none rs S0).n : Int) - few := by
              match i, hv with
              | 0, hv => exact ⟨_, Dr, rvs, rs, 0, _, (Option.some.inj hv).symm, ht6a, hB6 _ (hB5 _ hbr3), hrB3.mono (fun p hp => hB6 _ (hB5 _ hp)), W, rfl, rfl, by omega⟩
              | 1, hv => exact ⟨_, Dl, lws, stripI rs, _, _, (Option.some.inj hv).symm, ht6b, hB6 _ (hB5 _ hbl3), hlB3.mono (fun p hp => hB6 _ (hB5 _ hp)), W.strip, sim.o.symm, sim.r.symm, by have := sim.n; omega⟩
              | i + 2, hv => exact absurd hv (by simp)
            clear hv
            have htt' := hJ _ htt
            have hDx' := hJ _ hDx
            have hRx' := hRx.mono hJ
            k_steps
            refine StopG.mk ?_
            rename News _ _ _ _ => N26
            have hnd : ((marksL 0 xrs).map (·.1)).Nodup := by rw [marksL_keys]; exact Wx.nd
            have hgo : ∀ r ∈ xrs, ∀ g, goalT r = some g → g ∈ (marksL 0 xrs).map (·.1) := by rw [marksL_keys]; exact Wx.go.all
            have hWx := Wx.le
            k_dflt (refine' init_c  _ Dx xvs _ xrs _ ?qB ?qF ?qX ?qT ?qk N26 (.tail _ hDx') (hRx'.mono fun p hp => .tail _ hp) (by omega) hnd Wx.ok hgo ?qd ?qu ?_; (case qB => k_asm); (case qF => k_asm); (case qX => k_asm); (case qT => k_asm); (case qk => first | exact rfl | assumption); (case qd => ktr_room); (case qu => ktr_units))
            intro x dx rg6 pl fl md om gs6 k6 own6 h27 tk27 F27 N27 hMO hI6 hMC hof6 hdr6 hsub6 hlt6
            have hx6 := hMC.inst
            obtain ⟨q1, q2, q3, q4, q5, q6, q7, q8, q9, u1, u2, u3, u4, u5, u6, u7, u8, u9, ua, uo, us, rfl⟩ := hMO
            k_steps
            refine StopG.mk ?_
            rename News _ _ _ _ => N28
            k_dflt (refine' run_c  ((I, o) :: nw) x dx rg6 Dx md pl xrs _ xvs _ _ ?qB ?qF ?qX ?qT ?qk N28 ⟨_, gs6, k6, fl, own6, rfl, ⟨_, _, _, _, _, _, _, _, _, _, _, _, _, _, _, _, _, _, _, _, _, rfl⟩, hI6, (fun _ e => nomatch e), hMC, hof6, hdr6, hsub6⟩ (.tail _ hDx') (hRx'.mono fun p hp => .tail _ hp) Wx ?qd ?qu ?_; (case qB => k_asm); (case qF => k_asm); (case qX => k_asm); (case qT => k_asm); (case qk => first | exact rfl | assumption); (case qd => ktr_room); (case qu => ktr_units))
            intro eo' ed od om2 gs7 k7 own7 h29 tk29 F29 N29 hOD hMO2 hI7 hl7 hx7 hsub7
            clear N28 hI6 hMC hof6 hdr6
            obtain ⟨z1, z2, z3, z4, z5, s1, s2, s3, s4, s5, s6, s7, s8, s9, wo, zn, rfl⟩ := hOD
            obtain ⟨l9, md9, fl9, pl9, at9, order9, steps9, over9, hMO2⟩ := hMO2
            obtain ⟨q1, q2, q3, q4, q5, q6, q7, q8, q9, u1, u2, u3, u4, u5, u6, u7, u8, u9, ua, uo, us, rfl⟩ := hMO2
            have hgl : gs7.length = 16 := by rw [hI7.length, List.length_append, hl7]; rfl
            have hrr : (rg, listOf gs5.toArray 0) ∈ own7 := hsub7 _ (.tail _ (hJ _ (hB6 _ hr5)))
            k_steps
            refine StopG.mk ?_
            rename News _ _ _ _ => N30
            rename Fr _ _ _ _ => F30
            refine kba_turn (value' := PySem.Expr.Name (Str.ofString "regs") ⟨0, 0, 0, 0⟩) (fun _ => rfl) ?_
            k_dflt (refine' kmk_slice_lit ?qF ?qN ?ql ?qp ?qq ?qe ?_ ?qs ?qt ?qz)
            case qF => exact F30
            case qN => exact N30
            case ql => exact News.isList N30 (by k_mem)
            case qp => kmk_part
            case qq => kmk_part
            case qe => exact pick_upto (by omega)
            case qs => with_unfolding_all rfl
            case qt => exact fun _ => rfl
            case qz => exact sz64 hgl (by omega)
            intro Ds h31 F31 N31 l31
            k_lt l31
            clear N30 F30
            k_steps
            refine StopG.mk ?_
            rename News _ _ _ _ => N32
            have hIs : IntsAre (gs7.take (Int.toNat 4)) (Mine.run none rs S0).r := by
              have h1 := hI7.take (Int.toNat 4)
              have h2 : (Int.toNat 4) = (Mine.run none xrs S0).r.length := by rw [hl7]; rfl
              have h3 : ((Mine.run none xrs S0).r ++ tail12).take (Int.toNat 4) = (Mine.run none xrs S0).r := by rw [h2]; exact List.take_left
              rw [h3, er] at h1
              exact h1
            refine dat_ne_same (d := endD (Mine.run none rs S0).o (((Mine.run none rs S0).n : Int) - few) (Mine.run none rs S0).r) N32 ?dA (fun p hp => hp) ?dB (fun p hp => hp) (kqd_end _ _ _) (by ktr_units) ?_
            case dA =>
              unfold endD
              rw [← en, ← eo]
              exact DatIn.tuple (.tail _ (.head _)) (.cons (.str _ _) (.cons (.int _ _) (.cons (.int _ _) (.cons (DatIn.list (.tail _ (.tail _ (.head _))) (ints_dat hIs)) .nil))))
            case dB =>
              exact DatIn.tuple (.head _) (.cons (.str _ _) (.cons (.int _ _) (.cons (.int _ _) (.cons (DatIn.list (.tail _ (.tail _ (.tail _ (.tail _ (.tail _ (.tail _ (.tail _ hrr))))))) (ints_dat hI21)) .nil))))
            k_steps
            rename Fr _ _ _ _ => F33
            refine fiend B6 F33 N32 (fun p hp => ?_) (fun p hp q hq => ?_) ⟨(fun z hz => by
               have hz' := hz
               simp only [List.contains_cons, List.contains_nil, Bool.or_false, Bool.or_eq_false_iff, beq_eq_false_iff_ne, ne_eq] at hz
               simp +zetaDelta [hz, hz']), fun _ h => h⟩
            · refine .tail _ (.tail _ (.tail _ (.tail _ (.tail _ (.tail _ (.tail _ (hsub7 p ?_)))))))
              rcases List.mem_cons.mp hp with rfl | hp
              · exact .head _
              · exact .tail _ (hJ p hp)
            · rw [List.mem_singleton.mp hq]
              exact Nat.ne_of_lt (hI p hp)
          case done24 =>
            intro u nw h25 tk25 hJ F25 N25
            k_steps
end
end
end Mine
set_option maxRecDepth 100000 in
set_option maxHeartbeats 8000000 in
theorem PySem.Challenge.cw_pf0284_01_holds : PySem.Challenge.rw_pf0284_01.Holds := by
  exact Mine.law_z
