import PyProof.Rows.All
import Wide.All
import OpenK.AllK
import Wide.FinOn
import Lean
import PySem.Challenge.RW_pc0175_01
open PySem PySem.W PyProof.Rows PySem.Calls
set_option Elab.async false
set_option maxRecDepth 100000
set_option maxHeartbeats 8000000
set_option linter.all false
set_option genSizeOf false
set_option genInjectivity false
namespace Mine
theorem hd.tw13098803558581952507:True:=⟨⟩
theorem fin.tw10070804522480449196:True:=⟨⟩
theorem fin.tw1012361349325877821:True:=⟨⟩
theorem fin.tw1014637456484912126:True:=⟨⟩
theorem fin.tw10147658903529517814:True:=⟨⟩
theorem fin.tw10194128795564708546:True:=⟨⟩
theorem fin.tw10234915967203826555:True:=⟨⟩
theorem fin.tw10242451874928486539:True:=⟨⟩
theorem fin.tw10279692637995926009:True:=⟨⟩
theorem fin.tw10313180648002132564:True:=⟨⟩
theorem fin.tw10329872625359487480:True:=⟨⟩
theorem fin.tw1035503724928835527:True:=⟨⟩
theorem fin.tw10372454290965829033:True:=⟨⟩
theorem fin.tw10383673109516279431:True:=⟨⟩
theorem fin.tw10391319463526535247:True:=⟨⟩
theorem fin.tw10393886385942881009:True:=⟨⟩
theorem fin.tw10411508006071892022:True:=⟨⟩
theorem fin.tw10469515968555745039:True:=⟨⟩
theorem fin.tw10511823565363050587:True:=⟨⟩
theorem fin.tw10567028658651823492:True:=⟨⟩
theorem fin.tw10580198807604790814:True:=⟨⟩
theorem fin.tw10599938827571368224:True:=⟨⟩
theorem fin.tw1065152208204246454:True:=⟨⟩
theorem fin.tw10671828304227620169:True:=⟨⟩
theorem fin.tw10699407837109476802:True:=⟨⟩
theorem fin.tw10708223146118651492:True:=⟨⟩
theorem fin.tw10782327089294195420:True:=⟨⟩
theorem fin.tw1080700006314346644:True:=⟨⟩
theorem fin.tw10807920368746810246:True:=⟨⟩
theorem fin.tw10829458402184033698:True:=⟨⟩
theorem fin.tw10852849658779182186:True:=⟨⟩
theorem fin.tw10874316729293906858:True:=⟨⟩
theorem fin.tw10875463905939285979:True:=⟨⟩
theorem fin.tw1088692219920020602:True:=⟨⟩
theorem fin.tw10907391636593693970:True:=⟨⟩
theorem fin.tw10925335251469727208:True:=⟨⟩
theorem fin.tw10936777179133785780:True:=⟨⟩
theorem fin.tw10939691994893167182:True:=⟨⟩
theorem fin.tw10998343915150870288:True:=⟨⟩
theorem fin.tw11024638832163780183:True:=⟨⟩
theorem fin.tw11039862389202566683:True:=⟨⟩
theorem fin.tw11040825799340251285:True:=⟨⟩
theorem fin.tw1105837973531982728:True:=⟨⟩
theorem fin.tw11079828417688620724:True:=⟨⟩
theorem fin.tw111200028466390044:True:=⟨⟩
theorem fin.tw11151619158091525091:True:=⟨⟩
theorem fin.tw11154830654865731599:True:=⟨⟩
theorem fin.tw11192643925408225281:True:=⟨⟩
theorem fin.tw11209750170652599755:True:=⟨⟩
theorem fin.tw11227884535216515135:True:=⟨⟩
theorem fin.tw11277574374343807151:True:=⟨⟩
theorem fin.tw11293339424137598113:True:=⟨⟩
theorem fin.tw11298980531735778240:True:=⟨⟩
theorem fin.tw11325060847842403200:True:=⟨⟩
theorem fin.tw11336253725339858928:True:=⟨⟩
theorem fin.tw11414119711712004833:True:=⟨⟩
theorem fin.tw11454252539852477091:True:=⟨⟩
theorem fin.tw11462241541112437924:True:=⟨⟩
theorem fin.tw11466478281803324712:True:=⟨⟩
theorem fin.tw11471956102464614933:True:=⟨⟩
theorem fin.tw11575174756993882273:True:=⟨⟩
theorem fin.tw11587955951900863698:True:=⟨⟩
theorem fin.tw11607805686811502034:True:=⟨⟩
theorem fin.tw11834258748809927678:True:=⟨⟩
theorem fin.tw11869342324683393730:True:=⟨⟩
theorem fin.tw11897717083992391400:True:=⟨⟩
theorem fin.tw1195334901915552329:True:=⟨⟩
theorem fin.tw11989984593139433840:True:=⟨⟩
theorem fin.tw12045513705589894635:True:=⟨⟩
theorem fin.tw12072802829135307789:True:=⟨⟩
theorem fin.tw1209720653154232198:True:=⟨⟩
theorem fin.tw12135189313929291683:True:=⟨⟩
theorem fin.tw12149302876761508202:True:=⟨⟩
theorem fin.tw12171577908484138354:True:=⟨⟩
theorem fin.tw12180539936304867106:True:=⟨⟩
theorem fin.tw12221555665107904926:True:=⟨⟩
theorem fin.tw12237877928780879103:True:=⟨⟩
theorem fin.tw12239064139714945176:True:=⟨⟩
theorem fin.tw12291753297600562012:True:=⟨⟩
theorem fin.tw12292906935544458286:True:=⟨⟩
theorem fin.tw12343934877155477432:True:=⟨⟩
theorem fin.tw12347537446847802165:True:=⟨⟩
theorem fin.tw12355744275394475900:True:=⟨⟩
theorem fin.tw12356021495744459628:True:=⟨⟩
theorem fin.tw12409915417874342407:True:=⟨⟩
theorem fin.tw12448240930570709186:True:=⟨⟩
theorem fin.tw12464766053444552404:True:=⟨⟩
theorem fin.tw12494888245299231016:True:=⟨⟩
theorem fin.tw12521281409816086865:True:=⟨⟩
theorem fin.tw1252854909445205041:True:=⟨⟩
theorem fin.tw12557769604369416430:True:=⟨⟩
theorem fin.tw12567809125941998234:True:=⟨⟩
theorem fin.tw12586190556516072552:True:=⟨⟩
theorem fin.tw12612204703400128841:True:=⟨⟩
theorem fin.tw12629903358213643309:True:=⟨⟩
theorem fin.tw12631824708648523144:True:=⟨⟩
theorem fin.tw12649782002744950493:True:=⟨⟩
theorem fin.tw12669758225909598566:True:=⟨⟩
theorem fin.tw12705944875615423002:True:=⟨⟩
theorem fin.tw12711679700452659978:True:=⟨⟩
theorem fin.tw12740692763255036000:True:=⟨⟩
theorem fin.tw12751662967071866640:True:=⟨⟩
theorem fin.tw12754828620847295776:True:=⟨⟩
theorem fin.tw12757126508119417436:True:=⟨⟩
theorem fin.tw12780881840741157306:True:=⟨⟩
theorem fin.tw12809788781938459499:True:=⟨⟩
theorem fin.tw1281744992317467088:True:=⟨⟩
theorem fin.tw12829507556594621215:True:=⟨⟩
theorem fin.tw12833947400113492166:True:=⟨⟩
theorem fin.tw12847644182280273618:True:=⟨⟩
theorem fin.tw12851234836949525663:True:=⟨⟩
theorem fin.tw12869217540446652890:True:=⟨⟩
theorem fin.tw12876064707754696378:True:=⟨⟩
theorem fin.tw12876116671307685997:True:=⟨⟩
theorem fin.tw12932903420030652473:True:=⟨⟩
theorem fin.tw12946824338688289833:True:=⟨⟩
theorem fin.tw12962497063298326498:True:=⟨⟩
theorem fin.tw12977279227502587607:True:=⟨⟩
theorem fin.tw12996517811204074000:True:=⟨⟩
theorem fin.tw13021059552284102479:True:=⟨⟩
theorem fin.tw13098803558581952507:True:=⟨⟩
theorem fin.tw13158425560686309300:True:=⟨⟩
theorem fin.tw13162651487661262736:True:=⟨⟩
theorem fin.tw13175226182763708026:True:=⟨⟩
theorem fin.tw13177410634674063896:True:=⟨⟩
theorem fin.tw13199158710529813207:True:=⟨⟩
theorem fin.tw13272504610945704091:True:=⟨⟩
theorem fin.tw13278809456085556237:True:=⟨⟩
theorem fin.tw13294311002278339166:True:=⟨⟩
theorem fin.tw13295704053362595847:True:=⟨⟩
theorem fin.tw13326868189938593150:True:=⟨⟩
theorem fin.tw13337293482115323266:True:=⟨⟩
theorem fin.tw13360279666012451719:True:=⟨⟩
theorem fin.tw13383306551100868464:True:=⟨⟩
theorem fin.tw13412572060209156058:True:=⟨⟩
theorem fin.tw13423622936843584764:True:=⟨⟩
theorem fin.tw1346022578215293949:True:=⟨⟩
theorem fin.tw13467322939085005891:True:=⟨⟩
theorem fin.tw13469397999491448738:True:=⟨⟩
theorem fin.tw13516622038369049944:True:=⟨⟩
theorem fin.tw13574545013463194659:True:=⟨⟩
theorem fin.tw13582292425324344769:True:=⟨⟩
theorem fin.tw13700621096757390547:True:=⟨⟩
theorem fin.tw13724452099449386491:True:=⟨⟩
theorem fin.tw13790858721211988464:True:=⟨⟩
theorem fin.tw13814004702073501669:True:=⟨⟩
theorem fin.tw13862168760111960861:True:=⟨⟩
theorem fin.tw13870153662132920491:True:=⟨⟩
theorem fin.tw13898374239775968522:True:=⟨⟩
theorem fin.tw13925877587632400325:True:=⟨⟩
theorem fin.tw13929302177132474383:True:=⟨⟩
theorem fin.tw1397303283331804279:True:=⟨⟩
theorem fin.tw14018533915963200917:True:=⟨⟩
theorem fin.tw14075178694198228753:True:=⟨⟩
theorem fin.tw14111491100615862519:True:=⟨⟩
theorem fin.tw14134379338385194387:True:=⟨⟩
theorem fin.tw14139026862911339306:True:=⟨⟩
theorem fin.tw14166196953294261902:True:=⟨⟩
theorem fin.tw1422313219903470601:True:=⟨⟩
theorem fin.tw14245171486683049214:True:=⟨⟩
theorem fin.tw14254621764821748828:True:=⟨⟩
theorem fin.tw14279960228734115912:True:=⟨⟩
theorem fin.tw14297971457927632359:True:=⟨⟩
theorem fin.tw14333544728242365436:True:=⟨⟩
theorem fin.tw14336544582882092262:True:=⟨⟩
theorem fin.tw14345562132136545540:True:=⟨⟩
theorem fin.tw14347400895652799225:True:=⟨⟩
theorem fin.tw14431720936831517352:True:=⟨⟩
theorem fin.tw14449560505687523246:True:=⟨⟩
theorem fin.tw14468091648759818802:True:=⟨⟩
theorem fin.tw14497727239971306367:True:=⟨⟩
theorem fin.tw1450881378762983150:True:=⟨⟩
theorem fin.tw14517287926952318261:True:=⟨⟩
theorem fin.tw14541005305830221311:True:=⟨⟩
theorem fin.tw14560573928864763818:True:=⟨⟩
theorem fin.tw14574801432027512755:True:=⟨⟩
theorem fin.tw14637358334870819178:True:=⟨⟩
theorem fin.tw14667941539000003185:True:=⟨⟩
theorem fin.tw14728723275428758510:True:=⟨⟩
theorem fin.tw14786503066443513839:True:=⟨⟩
theorem fin.tw14793013804824869981:True:=⟨⟩
theorem fin.tw14814673180317915700:True:=⟨⟩
theorem fin.tw14855157385224911753:True:=⟨⟩
theorem fin.tw14856888987745899463:True:=⟨⟩
theorem fin.tw14899709244077398024:True:=⟨⟩
theorem fin.tw15019234207855213703:True:=⟨⟩
theorem fin.tw15069271281064182630:True:=⟨⟩
theorem fin.tw15144710454662140524:True:=⟨⟩
theorem fin.tw15149952090015108872:True:=⟨⟩
theorem fin.tw15201286185872193147:True:=⟨⟩
theorem fin.tw15205425988870721313:True:=⟨⟩
theorem fin.tw15216479089859931547:True:=⟨⟩
theorem fin.tw15225332579556243176:True:=⟨⟩
theorem fin.tw15234240111613058569:True:=⟨⟩
theorem fin.tw15240623583426463711:True:=⟨⟩
theorem fin.tw15279137341521000952:True:=⟨⟩
theorem fin.tw15309079848183770524:True:=⟨⟩
theorem fin.tw15344004072050561172:True:=⟨⟩
theorem fin.tw1535588207084551279:True:=⟨⟩
theorem fin.tw15373703851562958014:True:=⟨⟩
theorem fin.tw15434440284735832900:True:=⟨⟩
theorem fin.tw1544503264643628384:True:=⟨⟩
theorem fin.tw1545086475593560577:True:=⟨⟩
theorem fin.tw15459455144867644326:True:=⟨⟩
theorem fin.tw15476544859757588837:True:=⟨⟩
theorem fin.tw15523922138108190246:True:=⟨⟩
theorem fin.tw15530151957754944063:True:=⟨⟩
theorem fin.tw15533503492667675913:True:=⟨⟩
theorem fin.tw15564276425815640635:True:=⟨⟩
theorem fin.tw15566928917628492161:True:=⟨⟩
theorem fin.tw15583698165555649274:True:=⟨⟩
theorem fin.tw15590172107835277464:True:=⟨⟩
theorem fin.tw15621619335703214680:True:=⟨⟩
theorem fin.tw15675102808854859970:True:=⟨⟩
theorem fin.tw15688172546075569117:True:=⟨⟩
theorem fin.tw15741700470354863883:True:=⟨⟩
theorem fin.tw15804400680513998618:True:=⟨⟩
theorem fin.tw1580780407708033493:True:=⟨⟩
theorem fin.tw15815952407149668801:True:=⟨⟩
theorem fin.tw15832999045522443761:True:=⟨⟩
theorem fin.tw15989303212955285315:True:=⟨⟩
theorem fin.tw16103849850496634939:True:=⟨⟩
theorem fin.tw16115155874713506467:True:=⟨⟩
theorem fin.tw1613116972386908190:True:=⟨⟩
theorem fin.tw16137067943136122067:True:=⟨⟩
theorem fin.tw16175276709679454751:True:=⟨⟩
theorem fin.tw16192418988078311159:True:=⟨⟩
theorem fin.tw16196181902256332553:True:=⟨⟩
theorem fin.tw16237762584071213788:True:=⟨⟩
theorem fin.tw1625080806587739848:True:=⟨⟩
theorem fin.tw16252508478716706905:True:=⟨⟩
theorem fin.tw16275787546110486726:True:=⟨⟩
theorem fin.tw16285329926789087883:True:=⟨⟩
theorem fin.tw16307707646766795581:True:=⟨⟩
theorem fin.tw1635022588487117616:True:=⟨⟩
theorem fin.tw16375469754199864689:True:=⟨⟩
theorem fin.tw16401934584784274106:True:=⟨⟩
theorem fin.tw16429022384663243119:True:=⟨⟩
theorem fin.tw16448676403291746579:True:=⟨⟩
theorem fin.tw16496857829328116044:True:=⟨⟩
theorem fin.tw16497079637816224013:True:=⟨⟩
theorem fin.tw16502652511500755:True:=⟨⟩
theorem fin.tw16503470079419688546:True:=⟨⟩
theorem fin.tw16510490156224867327:True:=⟨⟩
theorem fin.tw16530489862217454893:True:=⟨⟩
theorem fin.tw16570786720924097770:True:=⟨⟩
theorem fin.tw16584127079891442865:True:=⟨⟩
theorem fin.tw16656299143469825513:True:=⟨⟩
theorem fin.tw16708981103961760564:True:=⟨⟩
theorem fin.tw16729419359221583628:True:=⟨⟩
theorem fin.tw16771295499568265973:True:=⟨⟩
theorem fin.tw16798467561266328274:True:=⟨⟩
theorem fin.tw16903924287465469464:True:=⟨⟩
theorem fin.tw16906536467411238026:True:=⟨⟩
theorem fin.tw16908780153626456763:True:=⟨⟩
theorem fin.tw16912196016219973028:True:=⟨⟩
theorem fin.tw16934629359412608497:True:=⟨⟩
theorem fin.tw16958243865122950064:True:=⟨⟩
theorem fin.tw16972231081977784176:True:=⟨⟩
theorem fin.tw17041991840579044601:True:=⟨⟩
theorem fin.tw17067295170570645592:True:=⟨⟩
theorem fin.tw17108682257543074861:True:=⟨⟩
theorem fin.tw17109930996152030393:True:=⟨⟩
theorem fin.tw17123178472405020103:True:=⟨⟩
theorem fin.tw17130245016438642246:True:=⟨⟩
theorem fin.tw1713156846745171867:True:=⟨⟩
theorem fin.tw17132207802985990308:True:=⟨⟩
theorem fin.tw17149882997012438147:True:=⟨⟩
theorem fin.tw17164383140453370395:True:=⟨⟩
theorem fin.tw17186005699333237546:True:=⟨⟩
theorem fin.tw17197158672614542318:True:=⟨⟩
theorem fin.tw17204297501091165112:True:=⟨⟩
theorem fin.tw17217429795192226366:True:=⟨⟩
theorem fin.tw17220895691602665673:True:=⟨⟩
theorem fin.tw17260493314774615805:True:=⟨⟩
theorem fin.tw17267618260052754613:True:=⟨⟩
theorem fin.tw17311274769643918242:True:=⟨⟩
theorem fin.tw17362494058136835672:True:=⟨⟩
theorem fin.tw17406136962360114138:True:=⟨⟩
theorem fin.tw17416127249078093707:True:=⟨⟩
theorem fin.tw17430205856086898164:True:=⟨⟩
theorem fin.tw17449020081951674710:True:=⟨⟩
theorem fin.tw17457534353331574367:True:=⟨⟩
theorem fin.tw17465016565071970851:True:=⟨⟩
theorem fin.tw17495881415371897999:True:=⟨⟩
theorem fin.tw17502855826952124057:True:=⟨⟩
theorem fin.tw17512474026176034454:True:=⟨⟩
theorem fin.tw17570509445847580414:True:=⟨⟩
theorem fin.tw17570709534508481193:True:=⟨⟩
theorem fin.tw17637551073024348614:True:=⟨⟩
theorem fin.tw17662344363894024548:True:=⟨⟩
theorem fin.tw17698704350827878285:True:=⟨⟩
theorem fin.tw17701328389417463424:True:=⟨⟩
theorem fin.tw17717364068325071970:True:=⟨⟩
theorem fin.tw17719728818120068181:True:=⟨⟩
theorem fin.tw17743408960866722510:True:=⟨⟩
theorem fin.tw17784850919643140607:True:=⟨⟩
theorem fin.tw17809232949079649038:True:=⟨⟩
theorem fin.tw17821466097196317003:True:=⟨⟩
theorem fin.tw17861066769153400444:True:=⟨⟩
theorem fin.tw17896612028031085017:True:=⟨⟩
theorem fin.tw17911201065640838737:True:=⟨⟩
theorem fin.tw17933470926392208243:True:=⟨⟩
theorem fin.tw17963964198891936676:True:=⟨⟩
theorem fin.tw17971676594858020690:True:=⟨⟩
theorem fin.tw17974384156558142227:True:=⟨⟩
theorem fin.tw18004827428879835118:True:=⟨⟩
theorem fin.tw18082680734076937219:True:=⟨⟩
theorem fin.tw18085205558954209793:True:=⟨⟩
theorem fin.tw18087328562809068087:True:=⟨⟩
theorem fin.tw18105285910621931680:True:=⟨⟩
theorem fin.tw18105942590061964161:True:=⟨⟩
theorem fin.tw18114745165547003644:True:=⟨⟩
theorem fin.tw18164189302063226315:True:=⟨⟩
theorem fin.tw18176387895596863783:True:=⟨⟩
theorem fin.tw18230178534529381785:True:=⟨⟩
theorem fin.tw18255404467826089762:True:=⟨⟩
theorem fin.tw18295790063311454060:True:=⟨⟩
theorem fin.tw18373065035072037172:True:=⟨⟩
theorem fin.tw18387650150990424433:True:=⟨⟩
theorem fin.tw18404063521330658252:True:=⟨⟩
theorem fin.tw1887099378405440850:True:=⟨⟩
theorem fin.tw1903126291601959907:True:=⟨⟩
theorem fin.tw1909631409943697231:True:=⟨⟩
theorem fin.tw1921165311934587177:True:=⟨⟩
theorem fin.tw1951045429614898598:True:=⟨⟩
theorem fin.tw1963134401048803436:True:=⟨⟩
theorem fin.tw1976505206021243879:True:=⟨⟩
theorem fin.tw1982079694162106894:True:=⟨⟩
theorem fin.tw1992996095170833049:True:=⟨⟩
theorem fin.tw2021336271155450331:True:=⟨⟩
theorem fin.tw2051409578822353534:True:=⟨⟩
theorem fin.tw2067723777617599883:True:=⟨⟩
theorem fin.tw2086631506510373192:True:=⟨⟩
theorem fin.tw2090205506522743130:True:=⟨⟩
theorem fin.tw2103456241558337223:True:=⟨⟩
theorem fin.tw2145012663239829070:True:=⟨⟩
theorem fin.tw216489041496292469:True:=⟨⟩
theorem fin.tw220677088936066577:True:=⟨⟩
theorem fin.tw2236755162388048479:True:=⟨⟩
theorem fin.tw2275749259730422485:True:=⟨⟩
theorem fin.tw2277568627679802767:True:=⟨⟩
theorem fin.tw2304379251839397102:True:=⟨⟩
theorem fin.tw2305881189932309285:True:=⟨⟩
theorem fin.tw2320886540369039338:True:=⟨⟩
theorem fin.tw2321816554428607280:True:=⟨⟩
theorem fin.tw2377308710366028375:True:=⟨⟩
theorem fin.tw2415902012162501839:True:=⟨⟩
theorem fin.tw2441168790927817222:True:=⟨⟩
theorem fin.tw2462912638960843985:True:=⟨⟩
theorem fin.tw2503846163805864124:True:=⟨⟩
theorem fin.tw2512408688544751470:True:=⟨⟩
theorem fin.tw2516017022742817472:True:=⟨⟩
theorem fin.tw251868834278440796:True:=⟨⟩
theorem fin.tw2565351972500760935:True:=⟨⟩
theorem fin.tw2603282792292808943:True:=⟨⟩
theorem fin.tw2620492485814837118:True:=⟨⟩
theorem fin.tw2656788454239962097:True:=⟨⟩
theorem fin.tw2671655128345628175:True:=⟨⟩
theorem fin.tw2711489104339610207:True:=⟨⟩
theorem fin.tw2775396313129547428:True:=⟨⟩
theorem fin.tw2789213428527533208:True:=⟨⟩
theorem fin.tw2824846461999071874:True:=⟨⟩
theorem fin.tw2866121171748074186:True:=⟨⟩
theorem fin.tw2877282753285418142:True:=⟨⟩
theorem fin.tw2885147992704089249:True:=⟨⟩
theorem fin.tw2896703901015224195:True:=⟨⟩
theorem fin.tw2910385600587045654:True:=⟨⟩
theorem fin.tw2976117146107443816:True:=⟨⟩
theorem fin.tw3004984022683251337:True:=⟨⟩
theorem fin.tw3008263204520378139:True:=⟨⟩
theorem fin.tw3028926083550364057:True:=⟨⟩
theorem fin.tw3029852977388229646:True:=⟨⟩
theorem fin.tw3105451386036433885:True:=⟨⟩
theorem fin.tw3112429581023547943:True:=⟨⟩
theorem fin.tw3125960719983571848:True:=⟨⟩
theorem fin.tw3173534031939492945:True:=⟨⟩
theorem fin.tw3199103547748192838:True:=⟨⟩
theorem fin.tw3222278782482380304:True:=⟨⟩
theorem fin.tw3236217559460173300:True:=⟨⟩
theorem fin.tw3263211703599914710:True:=⟨⟩
theorem fin.tw3268265519342814607:True:=⟨⟩
theorem fin.tw3293696948919318046:True:=⟨⟩
theorem fin.tw3302319216010004292:True:=⟨⟩
theorem fin.tw3314143786362844604:True:=⟨⟩
theorem fin.tw333583748066197110:True:=⟨⟩
theorem fin.tw3343445320678177929:True:=⟨⟩
theorem fin.tw3373110491918621954:True:=⟨⟩
theorem fin.tw3404873503106905745:True:=⟨⟩
theorem fin.tw3432132637015033673:True:=⟨⟩
theorem fin.tw3456623496861543869:True:=⟨⟩
theorem fin.tw3459265974087741279:True:=⟨⟩
theorem fin.tw3506512066687448480:True:=⟨⟩
theorem fin.tw3550807849831375056:True:=⟨⟩
theorem fin.tw3558005061807245919:True:=⟨⟩
theorem fin.tw3598329298470268980:True:=⟨⟩
theorem fin.tw373065315874586923:True:=⟨⟩
theorem fin.tw3738894495883498167:True:=⟨⟩
theorem fin.tw3752056022367304142:True:=⟨⟩
theorem fin.tw3762306804915933987:True:=⟨⟩
theorem fin.tw3767311804947220896:True:=⟨⟩
theorem fin.tw3788772014149755174:True:=⟨⟩
theorem fin.tw3794220679723124481:True:=⟨⟩
theorem fin.tw3810338749695602999:True:=⟨⟩
theorem fin.tw3810570522144960214:True:=⟨⟩
theorem fin.tw3812028171767442716:True:=⟨⟩
theorem fin.tw3827041629858089107:True:=⟨⟩
theorem fin.tw3837020019201816242:True:=⟨⟩
theorem fin.tw3857263333814641470:True:=⟨⟩
theorem fin.tw3863403702602939814:True:=⟨⟩
theorem fin.tw3885313090954376144:True:=⟨⟩
theorem fin.tw3906754673857718949:True:=⟨⟩
theorem fin.tw3939050589584296047:True:=⟨⟩
theorem fin.tw3955986520655104412:True:=⟨⟩
theorem fin.tw3975253019698251321:True:=⟨⟩
theorem fin.tw3998398428148030388:True:=⟨⟩
theorem fin.tw4013537778516871869:True:=⟨⟩
theorem fin.tw4026100201820347962:True:=⟨⟩
theorem fin.tw4040260094072895976:True:=⟨⟩
theorem fin.tw4043148821406017626:True:=⟨⟩
theorem fin.tw4100293265295638779:True:=⟨⟩
theorem fin.tw4124276233288881987:True:=⟨⟩
theorem fin.tw4144819383078699286:True:=⟨⟩
theorem fin.tw4145619633490157487:True:=⟨⟩
theorem fin.tw4162185377826839926:True:=⟨⟩
theorem fin.tw4180101509539245183:True:=⟨⟩
theorem fin.tw4209717502836232480:True:=⟨⟩
theorem fin.tw423345284130997744:True:=⟨⟩
theorem fin.tw4241039299004041665:True:=⟨⟩
theorem fin.tw4265850918314828415:True:=⟨⟩
theorem fin.tw428092273266315144:True:=⟨⟩
theorem fin.tw4306616734650971735:True:=⟨⟩
theorem fin.tw4312942655851389009:True:=⟨⟩
theorem fin.tw4395496475954998127:True:=⟨⟩
theorem fin.tw4424551920762525699:True:=⟨⟩
theorem fin.tw4443050520305737185:True:=⟨⟩
theorem fin.tw4499257904209204147:True:=⟨⟩
theorem fin.tw452842511749404161:True:=⟨⟩
theorem fin.tw4570111826955561243:True:=⟨⟩
theorem fin.tw4588413851689716618:True:=⟨⟩
theorem fin.tw4598667867955821814:True:=⟨⟩
theorem fin.tw4613182775407389354:True:=⟨⟩
theorem fin.tw4640724917100965312:True:=⟨⟩
theorem fin.tw4719063310657182621:True:=⟨⟩
theorem fin.tw4723787954990577340:True:=⟨⟩
theorem fin.tw4754365596532378047:True:=⟨⟩
theorem fin.tw4768634762848416435:True:=⟨⟩
theorem fin.tw4769821431679368130:True:=⟨⟩
theorem fin.tw4788878847521262168:True:=⟨⟩
theorem fin.tw4806268862455609328:True:=⟨⟩
theorem fin.tw480829909506669009:True:=⟨⟩
theorem fin.tw4878226113927451544:True:=⟨⟩
theorem fin.tw4879674094562380441:True:=⟨⟩
theorem fin.tw4898026214463823928:True:=⟨⟩
theorem fin.tw4928979718650693569:True:=⟨⟩
theorem fin.tw4992356995671143779:True:=⟨⟩
theorem fin.tw500868675978126160:True:=⟨⟩
theorem fin.tw5011121235533021005:True:=⟨⟩
theorem fin.tw5071919506433949198:True:=⟨⟩
theorem fin.tw5073790198343104882:True:=⟨⟩
theorem fin.tw5098551885099359569:True:=⟨⟩
theorem fin.tw5106123347721008290:True:=⟨⟩
theorem fin.tw5115476493328737885:True:=⟨⟩
theorem fin.tw5196160543931855155:True:=⟨⟩
theorem fin.tw520194297998822909:True:=⟨⟩
theorem fin.tw5227809002895711924:True:=⟨⟩
theorem fin.tw5230622158679508976:True:=⟨⟩
theorem fin.tw5246096745964282443:True:=⟨⟩
theorem fin.tw5250828734511838712:True:=⟨⟩
theorem fin.tw5266742908149448401:True:=⟨⟩
theorem fin.tw5285785234609935064:True:=⟨⟩
theorem fin.tw5293390819737331289:True:=⟨⟩
theorem fin.tw5320702786494000081:True:=⟨⟩
theorem fin.tw5372875611105449904:True:=⟨⟩
theorem fin.tw5402249366112354979:True:=⟨⟩
theorem fin.tw544173102793226557:True:=⟨⟩
theorem fin.tw5486226609284752418:True:=⟨⟩
theorem fin.tw5514125408013525434:True:=⟨⟩
theorem fin.tw5555312102172926907:True:=⟨⟩
theorem fin.tw5585719645790517573:True:=⟨⟩
theorem fin.tw5593514722818144331:True:=⟨⟩
theorem fin.tw5634151482396758240:True:=⟨⟩
theorem fin.tw5647864574477489665:True:=⟨⟩
theorem fin.tw5663504974038819100:True:=⟨⟩
theorem fin.tw5679570950571409650:True:=⟨⟩
theorem fin.tw5741801548637672665:True:=⟨⟩
theorem fin.tw5792265106169080782:True:=⟨⟩
theorem fin.tw5796354222422608987:True:=⟨⟩
theorem fin.tw5920281757701029450:True:=⟨⟩
theorem fin.tw5962627729488381771:True:=⟨⟩
theorem fin.tw6058378993454661626:True:=⟨⟩
theorem fin.tw6068950659093879613:True:=⟨⟩
theorem fin.tw6113989636485653130:True:=⟨⟩
theorem fin.tw6127190174262240918:True:=⟨⟩
theorem fin.tw612862322836996645:True:=⟨⟩
theorem fin.tw6144012678527597917:True:=⟨⟩
theorem fin.tw6207176494656529804:True:=⟨⟩
theorem fin.tw6214469639950668122:True:=⟨⟩
theorem fin.tw6232080684201472732:True:=⟨⟩
theorem fin.tw6289197191216398940:True:=⟨⟩
theorem fin.tw6341822008880759003:True:=⟨⟩
theorem fin.tw6381419901266130222:True:=⟨⟩
theorem fin.tw6388184931127306564:True:=⟨⟩
theorem fin.tw6435670951450185984:True:=⟨⟩
theorem fin.tw6449190631224713292:True:=⟨⟩
theorem fin.tw6455845175183424153:True:=⟨⟩
theorem fin.tw6461409362072667662:True:=⟨⟩
theorem fin.tw6474043946942992101:True:=⟨⟩
theorem fin.tw6485783843944922600:True:=⟨⟩
theorem fin.tw6498334528663615478:True:=⟨⟩
theorem fin.tw6515953530934532768:True:=⟨⟩
theorem fin.tw6525817661751114472:True:=⟨⟩
theorem fin.tw6567050819087999508:True:=⟨⟩
theorem fin.tw6577878126316647860:True:=⟨⟩
theorem fin.tw6620434350048004:True:=⟨⟩
theorem fin.tw6634307039904815820:True:=⟨⟩
theorem fin.tw6650461044873433052:True:=⟨⟩
theorem fin.tw6667815254911646788:True:=⟨⟩
theorem fin.tw670465573061467203:True:=⟨⟩
theorem fin.tw6707113841082798463:True:=⟨⟩
theorem fin.tw6712194924023145494:True:=⟨⟩
theorem fin.tw6718411051458867188:True:=⟨⟩
theorem fin.tw6766378078585498003:True:=⟨⟩
theorem fin.tw6766580051018981234:True:=⟨⟩
theorem fin.tw6815667921103612162:True:=⟨⟩
theorem fin.tw6848912972918003917:True:=⟨⟩
theorem fin.tw6878024787957991413:True:=⟨⟩
theorem fin.tw6951216239237536575:True:=⟨⟩
theorem fin.tw6968583824967984638:True:=⟨⟩
theorem fin.tw7008622114716911220:True:=⟨⟩
theorem fin.tw7021976415091001641:True:=⟨⟩
theorem fin.tw7033882931294258662:True:=⟨⟩
theorem fin.tw7055459427971326715:True:=⟨⟩
theorem fin.tw7070210977369740762:True:=⟨⟩
theorem fin.tw7130589087949165531:True:=⟨⟩
theorem fin.tw7177338460636591580:True:=⟨⟩
theorem fin.tw7193555501269276637:True:=⟨⟩
theorem fin.tw7249652514872940865:True:=⟨⟩
theorem fin.tw7267163888087337239:True:=⟨⟩
theorem fin.tw7278507554335971580:True:=⟨⟩
theorem fin.tw7282745182861764756:True:=⟨⟩
theorem fin.tw7321584467024264148:True:=⟨⟩
theorem fin.tw7334248845499685764:True:=⟨⟩
theorem fin.tw7348594602126897846:True:=⟨⟩
theorem fin.tw7380833856163905736:True:=⟨⟩
theorem fin.tw7439575562449295702:True:=⟨⟩
theorem fin.tw744865244796547220:True:=⟨⟩
theorem fin.tw7468727024169554154:True:=⟨⟩
theorem fin.tw7470013935711676318:True:=⟨⟩
theorem fin.tw7547296005191728479:True:=⟨⟩
theorem fin.tw757079261281740938:True:=⟨⟩
theorem fin.tw7613857476909055813:True:=⟨⟩
theorem fin.tw7613945582906998725:True:=⟨⟩
theorem fin.tw7636574776371312073:True:=⟨⟩
theorem fin.tw7661832156752021035:True:=⟨⟩
theorem fin.tw7675655780812522254:True:=⟨⟩
theorem fin.tw7684487725183542926:True:=⟨⟩
theorem fin.tw7716820226725407877:True:=⟨⟩
theorem fin.tw7773504467932542270:True:=⟨⟩
theorem fin.tw7779959011674639804:True:=⟨⟩
theorem fin.tw7786677914034681988:True:=⟨⟩
theorem fin.tw7803649310394182010:True:=⟨⟩
theorem fin.tw7822013112032934038:True:=⟨⟩
theorem fin.tw7830602891274557492:True:=⟨⟩
theorem fin.tw7830629276484211593:True:=⟨⟩
theorem fin.tw783483362715066742:True:=⟨⟩
theorem fin.tw7844069586390513008:True:=⟨⟩
theorem fin.tw7845872953664198349:True:=⟨⟩
theorem fin.tw7890596953891613788:True:=⟨⟩
theorem fin.tw7929640520542984453:True:=⟨⟩
theorem fin.tw7930893340574950883:True:=⟨⟩
theorem fin.tw7976502392129159676:True:=⟨⟩
theorem fin.tw799341379326975648:True:=⟨⟩
theorem fin.tw7995362448368537469:True:=⟨⟩
theorem fin.tw8004206274103572539:True:=⟨⟩
theorem fin.tw8018989035897545986:True:=⟨⟩
theorem fin.tw8025084765662995669:True:=⟨⟩
theorem fin.tw803859442106103436:True:=⟨⟩
theorem fin.tw8088732932480780420:True:=⟨⟩
theorem fin.tw8126443298418566877:True:=⟨⟩
theorem fin.tw8166985623705000286:True:=⟨⟩
theorem fin.tw8185091604740117843:True:=⟨⟩
theorem fin.tw824797018042769846:True:=⟨⟩
theorem fin.tw8261031787919469916:True:=⟨⟩
theorem fin.tw8269367382603917829:True:=⟨⟩
theorem fin.tw828056024939588000:True:=⟨⟩
theorem fin.tw8281523328739849912:True:=⟨⟩
theorem fin.tw8284088276144492400:True:=⟨⟩
theorem fin.tw8288733244629462318:True:=⟨⟩
theorem fin.tw8289400949097046189:True:=⟨⟩
theorem fin.tw8330952907988395303:True:=⟨⟩
theorem fin.tw8331973007464152698:True:=⟨⟩
theorem fin.tw8352470293576582857:True:=⟨⟩
theorem fin.tw8383268338085895543:True:=⟨⟩
theorem fin.tw8399098705505230059:True:=⟨⟩
theorem fin.tw8416529770105884409:True:=⟨⟩
theorem fin.tw846297522682114974:True:=⟨⟩
theorem fin.tw8472697214298850164:True:=⟨⟩
theorem fin.tw8559517257967667466:True:=⟨⟩
theorem fin.tw8569027658895312972:True:=⟨⟩
theorem fin.tw8577089030196625639:True:=⟨⟩
theorem fin.tw8590288500278120515:True:=⟨⟩
theorem fin.tw8614737586434602478:True:=⟨⟩
theorem fin.tw8622160174418277736:True:=⟨⟩
theorem fin.tw8643116662766533202:True:=⟨⟩
theorem fin.tw8656503046869711584:True:=⟨⟩
theorem fin.tw8668149382578428375:True:=⟨⟩
theorem fin.tw8761137362585489571:True:=⟨⟩
theorem fin.tw876206183137641144:True:=⟨⟩
theorem fin.tw8776770756819070316:True:=⟨⟩
theorem fin.tw888132650186811988:True:=⟨⟩
theorem fin.tw8896352889252549814:True:=⟨⟩
theorem fin.tw891787732878383699:True:=⟨⟩
theorem fin.tw8919302590299486024:True:=⟨⟩
theorem fin.tw8947099994592609211:True:=⟨⟩
theorem fin.tw895571856199123645:True:=⟨⟩
theorem fin.tw8999559765510592377:True:=⟨⟩
theorem fin.tw9001875181463519149:True:=⟨⟩
theorem fin.tw9038226972742754082:True:=⟨⟩
theorem fin.tw9059937348426287209:True:=⟨⟩
theorem fin.tw9113340658982188547:True:=⟨⟩
theorem fin.tw9218923581257491847:True:=⟨⟩
theorem fin.tw9221430085559818832:True:=⟨⟩
theorem fin.tw9247658263007524724:True:=⟨⟩
theorem fin.tw9260378047223084069:True:=⟨⟩
theorem fin.tw9297318355482256503:True:=⟨⟩
theorem fin.tw9387745189664136937:True:=⟨⟩
theorem fin.tw9437242357050131058:True:=⟨⟩
theorem fin.tw9445451236469955387:True:=⟨⟩
theorem fin.tw945457799607111265:True:=⟨⟩
theorem fin.tw9508293364712189505:True:=⟨⟩
theorem fin.tw9509447333196811905:True:=⟨⟩
theorem fin.tw9524518906428321964:True:=⟨⟩
theorem fin.tw9544026089342320630:True:=⟨⟩
theorem fin.tw9578429878718019509:True:=⟨⟩
theorem fin.tw9597861255099599992:True:=⟨⟩
theorem fin.tw9610726530385051774:True:=⟨⟩
theorem fin.tw9711862698833617823:True:=⟨⟩
theorem fin.tw9712136527352899355:True:=⟨⟩
theorem fin.tw9722632081671974098:True:=⟨⟩
theorem fin.tw9725021084223525626:True:=⟨⟩
theorem fin.tw9735714214384596553:True:=⟨⟩
theorem fin.tw9746214513668125432:True:=⟨⟩
theorem fin.tw9746901515087519452:True:=⟨⟩
theorem fin.tw9747544060827109212:True:=⟨⟩
theorem fin.tw9757074474933493440:True:=⟨⟩
theorem fin.tw9806666330580929782:True:=⟨⟩
theorem fin.tw9825859731914700964:True:=⟨⟩
theorem fin.tw9839346839192117915:True:=⟨⟩
theorem fin.tw9896168994730228555:True:=⟨⟩
theorem fin.tw9907692401942284016:True:=⟨⟩
theorem fin.tw9917203430921899224:True:=⟨⟩
theorem fin.tw9962418760945406050:True:=⟨⟩
theorem fin.tw9997704412844104603:True:=⟨⟩
theorem fin.tw999798209818781672:True:=⟨⟩
theorem fin.tw10007411396671696613:True:=⟨⟩
theorem fin.tw10098057777631523497:True:=⟨⟩
theorem fin.tw10102063374858605092:True:=⟨⟩
theorem fin.tw10373429240691001420:True:=⟨⟩
theorem fin.tw10696652717036330658:True:=⟨⟩
theorem fin.tw10727248033764811480:True:=⟨⟩
theorem fin.tw10751089155417173751:True:=⟨⟩
theorem fin.tw10818889477481085253:True:=⟨⟩
theorem fin.tw10891054232620793217:True:=⟨⟩
theorem fin.tw10895054467252067526:True:=⟨⟩
theorem fin.tw11061592194353771069:True:=⟨⟩
theorem fin.tw11112386831996348380:True:=⟨⟩
theorem fin.tw11147117730913898307:True:=⟨⟩
theorem fin.tw11273041486466551846:True:=⟨⟩
theorem fin.tw11277597615667878183:True:=⟨⟩
theorem fin.tw1128348596072947701:True:=⟨⟩
theorem fin.tw11414674201277728305:True:=⟨⟩
theorem fin.tw11432402860279490204:True:=⟨⟩
theorem fin.tw11615019562542576733:True:=⟨⟩
theorem fin.tw11792580021688688460:True:=⟨⟩
theorem fin.tw11906472874536768445:True:=⟨⟩
theorem fin.tw11936995450923721628:True:=⟨⟩
theorem fin.tw11953781441336167498:True:=⟨⟩
theorem fin.tw1202912048536075021:True:=⟨⟩
theorem fin.tw12105171945263650130:True:=⟨⟩
theorem fin.tw12118000046449163591:True:=⟨⟩
theorem fin.tw12141802397888321627:True:=⟨⟩
theorem fin.tw1249118550022496774:True:=⟨⟩
theorem fin.tw12494633076269960713:True:=⟨⟩
theorem fin.tw12507174853811176531:True:=⟨⟩
theorem fin.tw12550770813317053977:True:=⟨⟩
theorem fin.tw12696600883282566439:True:=⟨⟩
theorem fin.tw12718612220689870738:True:=⟨⟩
theorem fin.tw12741526300851653767:True:=⟨⟩
theorem fin.tw12868640280835112553:True:=⟨⟩
theorem fin.tw13093503161671486093:True:=⟨⟩
theorem fin.tw13119895379190043232:True:=⟨⟩
theorem fin.tw13523910257889291827:True:=⟨⟩
theorem fin.tw13815853411582834384:True:=⟨⟩
theorem fin.tw1390109508276135513:True:=⟨⟩
theorem fin.tw13978881771629798769:True:=⟨⟩
theorem fin.tw14210890002308233579:True:=⟨⟩
theorem fin.tw14239432107786713131:True:=⟨⟩
theorem fin.tw14370480293751589867:True:=⟨⟩
theorem fin.tw14568449535678555946:True:=⟨⟩
theorem fin.tw14578271805448956485:True:=⟨⟩
theorem fin.tw14838103818555229697:True:=⟨⟩
theorem fin.tw14974073406255295554:True:=⟨⟩
theorem fin.tw15094949803261831281:True:=⟨⟩
theorem fin.tw15219631101029703214:True:=⟨⟩
theorem fin.tw15243534294739168615:True:=⟨⟩
theorem fin.tw15399907426655090358:True:=⟨⟩
theorem fin.tw1547390860169783007:True:=⟨⟩
theorem fin.tw15513600669972384820:True:=⟨⟩
theorem fin.tw1560641971993327685:True:=⟨⟩
theorem fin.tw15782589827461423494:True:=⟨⟩
theorem fin.tw15852077949545257360:True:=⟨⟩
theorem fin.tw15913912297419572864:True:=⟨⟩
theorem fin.tw15942684835789789487:True:=⟨⟩
theorem fin.tw16109372258727991565:True:=⟨⟩
theorem fin.tw16145351769185666540:True:=⟨⟩
theorem fin.tw16179699660827537140:True:=⟨⟩
theorem fin.tw16205109500356779066:True:=⟨⟩
theorem fin.tw16229209127682248589:True:=⟨⟩
theorem fin.tw16256441300576474876:True:=⟨⟩
theorem fin.tw16269368082590959529:True:=⟨⟩
theorem fin.tw16407147864228438881:True:=⟨⟩
theorem fin.tw16488607150827929282:True:=⟨⟩
theorem fin.tw16540275574145912595:True:=⟨⟩
theorem fin.tw1666694428299288667:True:=⟨⟩
theorem fin.tw16867096813858660809:True:=⟨⟩
theorem fin.tw16889484823980962733:True:=⟨⟩
theorem fin.tw17425937995043322649:True:=⟨⟩
theorem fin.tw17628183408451194143:True:=⟨⟩
theorem fin.tw17656766251404061198:True:=⟨⟩
theorem fin.tw1766193274316824492:True:=⟨⟩
theorem fin.tw17744370242668122805:True:=⟨⟩
theorem fin.tw1819255440876223710:True:=⟨⟩
theorem fin.tw18195182924450695511:True:=⟨⟩
theorem fin.tw18330652542560668889:True:=⟨⟩
theorem fin.tw1845520602892408824:True:=⟨⟩
theorem fin.tw1921391257341544841:True:=⟨⟩
theorem fin.tw2030070087189672399:True:=⟨⟩
theorem fin.tw2242104933262866289:True:=⟨⟩
theorem fin.tw2316539691658765527:True:=⟨⟩
theorem fin.tw2367325634123391141:True:=⟨⟩
theorem fin.tw2370865312241312149:True:=⟨⟩
theorem fin.tw2537931557510868981:True:=⟨⟩
theorem fin.tw2608567993692976607:True:=⟨⟩
theorem fin.tw2617349483901765261:True:=⟨⟩
theorem fin.tw3211687289105081006:True:=⟨⟩
theorem fin.tw331587747771337591:True:=⟨⟩
theorem fin.tw3405849902219781004:True:=⟨⟩
theorem fin.tw380778119907437045:True:=⟨⟩
theorem fin.tw3974152918291533672:True:=⟨⟩
theorem fin.tw4170516301191304579:True:=⟨⟩
theorem fin.tw4171678462856256454:True:=⟨⟩
theorem fin.tw4218790737952374519:True:=⟨⟩
theorem fin.tw4302917861877037783:True:=⟨⟩
theorem fin.tw4329306826757983850:True:=⟨⟩
theorem fin.tw4684940682943077961:True:=⟨⟩
theorem fin.tw4704930585520482657:True:=⟨⟩
theorem fin.tw4759752924163587094:True:=⟨⟩
theorem fin.tw4868334931027891882:True:=⟨⟩
theorem fin.tw4950403968356008110:True:=⟨⟩
theorem fin.tw5102460946473063141:True:=⟨⟩
theorem fin.tw5678346346211369953:True:=⟨⟩
theorem fin.tw5734618986648460908:True:=⟨⟩
theorem fin.tw5805905742469029177:True:=⟨⟩
theorem fin.tw5897612983314593646:True:=⟨⟩
theorem fin.tw5901363791540438844:True:=⟨⟩
theorem fin.tw5978438607452443526:True:=⟨⟩
theorem fin.tw60464790676949430:True:=⟨⟩
theorem fin.tw6081921254191324426:True:=⟨⟩
theorem fin.tw6323506392446703087:True:=⟨⟩
theorem fin.tw6380807493870290408:True:=⟨⟩
theorem fin.tw6385529401280152062:True:=⟨⟩
theorem fin.tw6454446336052903152:True:=⟨⟩
theorem fin.tw6531376189190222733:True:=⟨⟩
theorem fin.tw6566618420281934:True:=⟨⟩
theorem fin.tw662289804386252013:True:=⟨⟩
theorem fin.tw6846200578177281708:True:=⟨⟩
theorem fin.tw6956187926921108005:True:=⟨⟩
theorem fin.tw7000300075881102575:True:=⟨⟩
theorem fin.tw7028063314416541132:True:=⟨⟩
theorem fin.tw7336344344812659824:True:=⟨⟩
theorem fin.tw7451905468542833597:True:=⟨⟩
theorem fin.tw7522001649326652513:True:=⟨⟩
theorem fin.tw7692301277026442203:True:=⟨⟩
theorem fin.tw8053913732961167717:True:=⟨⟩
theorem fin.tw8075192146702601997:True:=⟨⟩
theorem fin.tw807531904560671035:True:=⟨⟩
theorem fin.tw8272817396058243321:True:=⟨⟩
theorem fin.tw8408514402456403777:True:=⟨⟩
theorem fin.tw8465276812761224699:True:=⟨⟩
theorem fin.tw848606289541702500:True:=⟨⟩
theorem fin.tw8511326990415419460:True:=⟨⟩
theorem fin.tw857469055436470443:True:=⟨⟩
theorem fin.tw862447977868951606:True:=⟨⟩
theorem fin.tw8775384921122389154:True:=⟨⟩
theorem fin.tw884059145510264010:True:=⟨⟩
theorem fin.tw9357874355931990178:True:=⟨⟩
theorem fin.tw9363291351745731410:True:=⟨⟩
theorem fin.tw9659392335347125073:True:=⟨⟩
theorem fin.tw982560976839675504:True:=⟨⟩
theorem fin.tw9869977641006610649:True:=⟨⟩
theorem fin.tw9883050511414546368:True:=⟨⟩
theorem cutA {p q : Prop} (h : p) (k : p → q) : q := k h
set_option Elab.async true in
theorem hd : ∃ A B T : Prop, A → B → T → PySem.Challenge.rw_pc0175_01.Holds := by
  refine' ⟨_, _, _, fun a b t => ?g⟩
  case g =>
    refine' cutA ?hl (fun _ => cutA ?hw (fun _ => cutA ?hc (fun _ => ?rest)))
    case rest =>
      w_on
      o_law
      k_head
    case hl => exact a
    case hw => exact b
    case hc => exact t
theorem prime_j : PySem.Challenge.rw_pc0175_01 = PySem.Challenge.rw_pc0175_01 ∧ hd.heap_1_39 = hd.heap_1_39 := by
 k_fill
 exact ⟨rfl, rfl⟩
noncomputable def nth {α:Type} (d:α) (l:List α):Nat→α:=List.rec (motive:=fun _=>Nat→α) (fun _=>d) (fun x _ h i=>Nat.rec (motive:=fun _=>α) x (fun j _=>h j) i) l
noncomputable def dl (i j:Nat):Int:=bif Nat.beq i j then 1 else 0
noncomputable def sm (f:Nat→Int) (l:List Int):Nat→Int:=List.rec (motive:=fun _=>Nat→Int) (fun _=>0) (fun x _ h i=>f i * x+h (i+1)) l
theorem sm_null {f:Nat→Int} (l:List Int):∀ i:Nat,(∀ j,j < i+l.length→i≤j→f j=0)→sm f l i=0:=by
 induction l with
 | nil=>exact fun _ _=>rfl
 | cons x r ih =>
  refine fun i h=>?_
  show f i * x+sm f r (i+1)=0
  rw [h i (Nat.lt_add_of_pos_right (Nat.succ_pos _)) (Nat.le_refl _),Int.zero_mul,ih (i+1) fun j h1 h2=>h j (Nat.succ_add_eq_add_succ i r.length▸h1) (Nat.le_of_succ_le h2)]; rfl
theorem sm_pos {f:Nat→Int} (l:List Int):∀ i:Nat,(∀ x∈l,0≤x)→(∀ j,j < i+l.length→i≤j→0≤f j)→0≤sm f l i:=by
 induction l with
 | nil=>exact fun _ _ _=>Int.le_refl _
 | cons x r ih=>exact fun i p h=>Int.add_nonneg (Int.mul_nonneg (h i (Nat.lt_add_of_pos_right (Nat.succ_pos _)) (Nat.le_refl _)) (p x (.head _))) (ih (i+1) (fun y hy=>p y (.tail _ hy)) fun j h1 h2=>h j (Nat.succ_add_eq_add_succ i r.length▸h1) (Nat.le_of_succ_le h2))
theorem sm_add (f g:Nat→Int) (l:List Int):∀ i:Nat,sm (fun j=>f j+g j) l i=sm f l i+sm g l i:=by
 induction l with
 | nil=>exact fun _=>rfl
 | cons x r ih =>
  refine fun i=>?_
  show (f i+g i) * x+sm (fun j=>f j+g j) r (i+1)=(f i * x+sm f r (i+1))+(g i * x+sm g r (i+1))
  rw [ih,Int.add_mul,Int.add_assoc,Int.add_left_comm (g i * x),← Int.add_assoc]
theorem sm_mul (c:Int) (f:Nat→Int) (l:List Int):∀ i:Nat,sm (fun j=>c * f j) l i=c * sm f l i:=by
 induction l with
 | nil=>exact fun _=>(Int.mul_zero c).symm
 | cons x r ih =>
  refine fun i=>?_
  show c * f i * x+sm (fun j=>c * f j) r (i+1)=c * (f i * x+sm f r (i+1))
  rw [ih,Int.mul_add,Int.mul_assoc]
theorem sm_neg (f:Nat→Int) (l:List Int) (i:Nat):sm (fun j=>- f j) l i=- sm f l i:=by
 rw [Int.neg_eq_neg_one_mul,← sm_mul]
 exact congrArg (fun h=>sm h l i) (funext fun j=>Int.neg_eq_neg_one_mul _)
theorem sm_sub (f g:Nat→Int) (l:List Int) (i:Nat):sm (fun j=>f j - g j) l i=sm f l i - sm g l i:=by
 rw [Int.sub_eq_add_neg,← sm_neg,← sm_add]; rfl
theorem dl_ne {i j:Nat} (h:i≠j):dl i j=0:=by
 unfold dl
 cases e:Nat.beq i j with
 | false=>rfl
 | true=>exact absurd (Nat.eq_of_beq_eq_true e) h
theorem sm_dl (l:List Int):∀ i p:Nat,sm (dl (p+i)) l i=nth 0 l p:=by
 induction l with
 | nil=>exact fun _ _=>rfl
 | cons x r ih =>
  intro i p
  show dl (p+i) i * x+sm (dl (p+i)) r (i+1)=_
  cases p with
  | zero =>
   have e:dl i i=1:=by unfold dl; rw [Nat.beq_refl]; rfl
   rw [Nat.zero_add,e,Int.one_mul,sm_null r (i+1) fun j _ h=>dl_ne (Nat.ne_of_lt h)]; exact Int.add_zero x
  | succ p =>
   rw [dl_ne (Nat.ne_of_gt (Nat.lt_add_of_pos_left (Nat.succ_pos p))),Int.zero_mul,Int.zero_add,Nat.succ_add_eq_add_succ]
   exact ih (i+1) p
noncomputable abbrev up (N:List Nat):List Int:=N.map fun (x:Nat)=>(x:Int)
theorem nth_up (N:List Nat):∀ i:Nat,((nth 0 N i:Nat):Int)=nth 0 (up N) i:=by
 induction N with
 | nil=>exact fun _=>rfl
 | cons x r ih=>exact fun i=>match i with | 0=>rfl | i+1=>ih i
noncomputable def tv (f:Nat→Int) (h:Nat→Int) (N:List Nat) (Z:List Int):Int:=f 0+sm (fun j=>f (j+1)) (up N) 0+sm h Z 0
theorem ad4 (a b c d:Int):a+b+(c+d)=a+c+(b+d):=by rw [Int.add_assoc,Int.add_left_comm b,← Int.add_assoc]
section
variable (N:List Nat) (Z:List Int)
theorem tv_add (f g h k:Nat→Int):tv (fun j=>f j+g j) (fun j=>h j+k j) N Z=tv f h N Z+tv g k N Z:=by
 show f 0+g 0+sm (fun j=>f (j+1)+g (j+1)) (up N) 0+sm (fun j=>h j+k j) Z 0=f 0+sm (fun j=>f (j+1)) (up N) 0+sm h Z 0+(g 0+sm (fun j=>g (j+1)) (up N) 0+sm k Z 0)
 rw [sm_add,sm_add,ad4 (f 0),ad4 (f 0+_)]
theorem tv_mul (c:Int) (f h:Nat→Int):tv (fun j=>c * f j) (fun j=>c * h j) N Z=c * tv f h N Z:=by
 unfold tv; rw [sm_mul,sm_mul,← Int.mul_add,← Int.mul_add]
theorem tv_neg (f h:Nat→Int):tv (fun j=>- f j) (fun j=>- h j) N Z=- tv f h N Z:=by
 unfold tv; rw [sm_neg,sm_neg,Int.neg_add,Int.neg_add]
theorem tv_sub (f g h k:Nat→Int):tv (fun j=>f j - g j) (fun j=>h j - k j) N Z=tv f h N Z - tv g k N Z:=by
 rw [Int.sub_eq_add_neg,← tv_neg,← tv_add]; rfl
theorem tv_zero (h:Nat→Int):tv (fun _=>0) h N Z=sm h Z 0:=by
 unfold tv; rw [sm_null _ _ fun _ _ _=>rfl,Int.zero_add,Int.zero_add]
theorem tv_n (i:Nat):tv (dl (i+1)) (fun _=>0) N Z=(nth 0 N i:Nat):=by
 unfold tv; rw [sm_null Z _ fun _ _ _=>rfl,show dl (i+1) 0=0 from rfl,Int.zero_add,Int.add_zero,nth_up]; exact sm_dl (up N) 0 i
theorem tv_k (q:Nat):tv (fun j=>q * dl 0 j) (fun _=>0) N Z=(q:Nat):=by
 unfold tv; rw [sm_null Z _ fun _ _ _=>rfl,sm_null _ _ fun j _ _=>show (q:Int) * dl 0 (j+1)=0 from Int.mul_zero _,Int.add_zero,Int.add_zero]; exact Int.mul_one _
theorem tv_o:tv (fun _=>0) (fun _=>0) N Z=0:=(tv_zero N Z _).trans (sm_null _ _ fun _ _ _=>rfl)
end
noncomputable def allB (p:Nat→Bool) (n:Nat):Bool:=Nat.rec (motive:=fun _=>Bool) true (fun n b=>p n && b) n
theorem and_of {a b:Bool} (h:(a && b)=true):a=true∧b=true:=Bool.and_eq_true_iff.mp h
theorem allB_of {p:Nat→Bool} {n:Nat}:allB p n=true→∀ j,j < n→p j=true:=by
 induction n with
 | zero=>exact fun _ _ h=>absurd h (Nat.not_lt_zero _)
 | succ n ih=>exact fun h j hj=>(Nat.lt_succ_iff_lt_or_eq.mp hj).elim (ih (and_of h).2 j) fun e=>e▸(and_of h).1
noncomputable def isP (x:Int):Bool:=Int.rec (motive:=fun _=>Bool) (fun _=>true) (fun _=>false) x
noncomputable def isO (x:Int):Bool:=Int.rec (motive:=fun _=>Bool) (fun n=>Nat.beq n 0) (fun _=>false) x
theorem isP_of {x:Int} (h:isP x=true):0≤x:=by
 cases x with
 | ofNat n=>exact Int.natCast_nonneg n
 | negSucc n=>cases h
theorem isO_of {x:Int} (h:isO x=true):x=0:=by
 cases x with
 | ofNat n=>exact congrArg Int.ofNat (Nat.eq_of_beq_eq_true h)
 | negSucc n=>cases h
noncomputable def LX:Type:={p:(List Nat→Nat)×(List Nat→List Int→Int)×(Nat→Int)×(Nat→Int)×(Nat→Int) // (∀ N Z,(p.1 N:Int)=tv p.2.2.1 (fun _=>0) N Z)∧∀ N Z,p.2.1 N Z=tv p.2.2.2.1 p.2.2.2.2 N Z}
noncomputable def LX.vn (N:List Nat) (e:LX):Nat:=e.1.1 N
noncomputable def LX.vz (N:List Nat) (Z:List Int) (e:LX):Int:=e.1.2.1 N Z
noncomputable def LX.cv (e:LX):Nat→Int:=e.1.2.2.1
noncomputable def LX.cn (e:LX):Nat→Int:=e.1.2.2.2.1
noncomputable def LX.cz (e:LX):Nat→Int:=e.1.2.2.2.2
noncomputable def o0 (_:Nat):Int:=0
noncomputable def LX.n (i:Nat):LX:=⟨(fun N=>nth 0 N i,fun N _=>(nth 0 N i:Nat),dl (i+1),dl (i+1),o0),fun N Z=>(tv_n N Z i).symm,fun N Z=>(tv_n N Z i).symm⟩
noncomputable def LX.z (i:Nat):LX:=⟨(fun _=>0,fun _ Z=>nth 0 Z i,o0,o0,dl i),fun N Z=>(tv_o N Z).symm,fun N Z=>((tv_zero N Z (dl i)).trans (sm_dl Z 0 i)).symm⟩
noncomputable def LX.k (q:Nat):LX:=⟨(fun _=>q,fun _ _=>(q:Nat),fun j=>q * dl 0 j,fun j=>q * dl 0 j,o0),fun N Z=>(tv_k N Z q).symm,fun N Z=>(tv_k N Z q).symm⟩
noncomputable def LX.c (x:LX):LX:=⟨(fun _=>0,fun N _=>(x.vn N:Nat),o0,x.cv,o0),fun N Z=>(tv_o N Z).symm,x.2.1⟩
noncomputable def LX.a (x y:LX):LX:=⟨(fun N=>x.vn N+y.vn N,fun N Z=>x.vz N Z+y.vz N Z,fun j=>x.cv j+y.cv j,fun j=>x.cn j+y.cn j,fun j=>x.cz j+y.cz j),
 fun N Z=>(congr (congrArg HAdd.hAdd (x.2.1 N Z)) (y.2.1 N Z)).trans (tv_add N Z _ _ (fun _=>0) (fun _=>0)).symm,fun N Z=>(congr (congrArg HAdd.hAdd (x.2.2 N Z)) (y.2.2 N Z)).trans (tv_add N Z _ _ _ _).symm⟩
noncomputable def LX.s (x y:LX):LX:=⟨(fun _=>0,fun N Z=>x.vz N Z - y.vz N Z,o0,fun j=>x.cn j - y.cn j,fun j=>x.cz j - y.cz j),
 fun N Z=>(tv_o N Z).symm,fun N Z=>(congr (congrArg HSub.hSub (x.2.2 N Z)) (y.2.2 N Z)).trans (tv_sub N Z _ _ _ _).symm⟩
noncomputable def LX.g (x:LX):LX:=⟨(fun _=>0,fun N Z=>- x.vz N Z,o0,fun j=>- x.cn j,fun j=>- x.cz j),fun N Z=>(tv_o N Z).symm,fun N Z=>(congrArg Neg.neg (x.2.2 N Z)).trans (tv_neg N Z _ _).symm⟩
noncomputable def LX.m (q:Nat) (x:LX):LX:=⟨(fun N=>q * x.vn N,fun N Z=>(q:Nat) * x.vz N Z,fun j=>q * x.cv j,fun j=>q * x.cn j,fun j=>q * x.cz j),
 fun N Z=>(congrArg ((q:Int) * ·) (x.2.1 N Z)).trans (tv_mul N Z q _ (fun _=>0)).symm,fun N Z=>(congrArg ((q:Int) * ·) (x.2.2 N Z)).trans (tv_mul N Z q _ _).symm⟩
section
variable (N:List Nat) (Z:List Int)
noncomputable def ps (e:LX):Bool:=isP (e.cn 0) && (allB (fun j=>isP (e.cn (j+1))) N.length && allB (fun j=>isO (e.cz j)) Z.length)
theorem ps_of {e:LX} (h:ps N Z e=true):0≤e.vz N Z:=by
 obtain ⟨h1,h2⟩:=and_of h
 rw [show e.vz N Z=tv e.cn e.cz N Z from e.2.2 N Z]
 unfold tv
 rw [sm_null Z 0 fun j h _=>isO_of (allB_of (and_of h2).2 j (Nat.zero_add Z.length▸h)),Int.add_zero]
 refine Int.add_nonneg (isP_of h1) (sm_pos _ _ (fun x hx=>?_) fun j h _=>isP_of (allB_of (and_of h2).1 j ?_))
 ·obtain ⟨n,_,rfl⟩:=List.mem_map.mp hx
  exact Int.natCast_nonneg n
 ·rwa [Nat.zero_add,List.length_map] at h
end
section
variable (N:List Nat) (Z:List Int)
noncomputable def ok (l:List LX):Prop:=∀ e∈l,0≤e.vz N Z
noncomputable def ex (l:List (List LX)):Prop:=∃ b∈l,ok N Z b
end
section
variable {N:List Nat} {Z:List Int}
theorem ok_nil:ok N Z []:=fun _ h=>nomatch h
theorem ok_cons {x y:LX} {l:List LX} (h:x.vz N Z≤y.vz N Z) (i:ok N Z l):ok N Z (.s y x::l):=fun _ m=>(List.mem_cons.mp m).elim (fun z=>z▸Int.sub_nonneg.mpr h) (i _)
theorem ok_two {a b:List LX} (h:ok N Z a) (i:ok N Z b):ok N Z (a++b):=fun e m=>(List.mem_append.mp m).elim (h e) (i e)
theorem ok_hd {x y:LX} {l:List LX} (h:ok N Z (.s y x::l)):x.vz N Z≤y.vz N Z:=Int.sub_nonneg.mp (h _ (.head _))
theorem ok_hd2 {x y e:LX} {l:List LX} (h:ok N Z (e::.s y x::l)):x.vz N Z≤y.vz N Z:=Int.sub_nonneg.mp (h _ (.tail _ (.head _)))
noncomputable abbrev nope:List LX:=[.g (.k 1)]
theorem no {P:Prop} (h:ok N Z nope):P:=absurd (h _ (.head _)) (show ¬ (0:Int)≤-1 by decide)
theorem ex1 {b:List LX} {r:List (List LX)} (h:ok N Z b):ex N Z (b::r):=⟨b,.head _,h⟩
theorem exS {x y:LX} (h:x.vz N Z≤y.vz N Z):ex N Z [[.s y x]]:=ex1 (ok_cons h ok_nil)
theorem exT {b c:List LX} (h:ok N Z c):ex N Z [b,c]:=⟨c,.tail _ (.head _),h⟩
end
noncomputable def LF:Type:={p:(List Nat→List Int→Prop)×List LX×List (List LX) // (∀ N Z,ok N Z p.2.1→p.1 N Z)∧∀ N Z,p.1 N Z→ex N Z p.2.2}
noncomputable def LF.den (N:List Nat) (Z:List Int) (p:LF):Prop:=p.1.1 N Z
noncomputable def LF.fs (p:LF):List LX:=p.1.2.1
noncomputable def LF.ds (p:LF):List (List LX):=p.1.2.2
noncomputable def LF.le (x y:LX):LF:=⟨(fun N Z=>x.vz N Z≤y.vz N Z,[.s y x],[[.s y x]]),fun _ _ h=>ok_hd h,fun _ _ d=>exS d⟩
noncomputable def LF.lt (x y:LX):LF:=⟨(fun N Z=>x.vz N Z < y.vz N Z,[.s y (.a x (.k 1))],[[.s y (.a x (.k 1))]]),fun _ _ h=>ok_hd h,fun _ _ d=>exS (y:=y) (x:=.a x (.k 1)) d⟩
noncomputable def LF.eq (x y:LX):LF:=⟨(fun N Z=>x.vz N Z=y.vz N Z,[.s y x,.s x y],[[.s y x,.s x y]]),fun _ _ h=>Int.le_antisymm (ok_hd h) (ok_hd2 h),fun _ _ d=>ex1 (ok_cons (Int.le_of_eq d) (ok_cons (Int.le_of_eq d.symm) ok_nil))⟩
noncomputable def LF.l (x y:LX):LF:=⟨(fun N _=>x.vn N≤y.vn N,[.s (.c y) (.c x)],[[.s (.c y) (.c x)]]),fun _ _ h=>Int.ofNat_le.mp (ok_hd h),fun _ _ d=>exS (x:=.c x) (y:=.c y) (Int.ofNat_le.mpr d)⟩
noncomputable def LF.t (x y:LX):LF:=⟨(fun N _=>x.vn N < y.vn N,[.s (.c y) (.a (.c x) (.k 1))],[[.s (.c y) (.a (.c x) (.k 1))]]),fun _ _ h=>Int.ofNat_lt.mp (ok_hd h),fun _ _ d=>exS (x:=.a (.c x) (.k 1)) (y:=.c y) (Int.ofNat_lt.mpr d)⟩
noncomputable def LF.e (x y:LX):LF:=⟨(fun N _=>x.vn N=y.vn N,[.s (.c y) (.c x),.s (.c x) (.c y)],[[.s (.c y) (.c x),.s (.c x) (.c y)]]),fun _ _ h=>Nat.le_antisymm (Int.ofNat_le.mp (ok_hd h)) (Int.ofNat_le.mp (ok_hd2 h)),
 fun _ _ d=>ex1 (ok_cons (x:=.c x) (y:=.c y) (Int.ofNat_le.mpr (Nat.le_of_eq d)) (ok_cons (x:=.c y) (y:=.c x) (Int.ofNat_le.mpr (Nat.le_of_eq d.symm)) ok_nil))⟩
noncomputable def LF.nl (x y:LX):LF:=⟨(fun N Z=>¬ x.vz N Z≤y.vz N Z,[.s x (.a y (.k 1))],[[.s x (.a y (.k 1))]]),fun _ _ h=>Int.not_le.mpr (ok_hd h),fun _ _ d=>exS (x:=.a y (.k 1)) (y:=x) (Int.not_le.mp d)⟩
noncomputable def LF.nt (x y:LX):LF:=⟨(fun N Z=>¬ x.vz N Z < y.vz N Z,[.s x y],[[.s x y]]),fun _ _ h=>Int.not_lt.mpr (ok_hd h),fun _ _ d=>exS (Int.not_lt.mp d)⟩
noncomputable def LF.gl (x y:LX):LF:=⟨(fun N _=>¬ x.vn N≤y.vn N,[.s (.c x) (.a (.c y) (.k 1))],[[.s (.c x) (.a (.c y) (.k 1))]]),fun _ _ h=>Nat.not_le.mpr (Int.ofNat_lt.mp (ok_hd h)),fun _ _ d=>exS (x:=.a (.c y) (.k 1)) (y:=.c x) (Int.ofNat_lt.mpr (Nat.not_le.mp d))⟩
noncomputable def LF.gt (x y:LX):LF:=⟨(fun N _=>¬ x.vn N < y.vn N,[.s (.c x) (.c y)],[[.s (.c x) (.c y)]]),fun _ _ h=>Nat.not_lt.mpr (Int.ofNat_le.mp (ok_hd h)),fun _ _ d=>exS (x:=.c y) (y:=.c x) (Int.ofNat_le.mpr (Nat.not_lt.mp d))⟩
noncomputable def LF.nz (x:LX):LF:=⟨(fun N _=>¬ x.vn N=0,[.s (.c x) (.k 1)],[[.s (.c x) (.k 1)]]),fun _ _ h=>Nat.ne_of_gt (Int.ofNat_le.mp (ok_hd h)),fun _ _ d=>exS (x:=.k 1) (y:=.c x) (Int.ofNat_le.mpr (Nat.pos_of_ne_zero d))⟩
noncomputable def LF.an (p q:LF):LF:=⟨(fun N Z=>p.den N Z∧q.den N Z,p.fs++q.fs,p.ds.flatMap fun u=>q.ds.map fun v=>u++v),fun N Z h=>⟨p.2.1 N Z fun e m=>h e (List.mem_append_left _ m),q.2.1 N Z fun e m=>h e (List.mem_append_right _ m)⟩,
 fun N Z d=>(p.2.2 N Z d.1).elim fun b i=>(q.2.2 N Z d.2).elim fun c j=>⟨b++c,List.mem_flatMap.mpr ⟨b,i.1,List.mem_map.mpr ⟨c,j.1,rfl⟩⟩,ok_two i.2 j.2⟩⟩
noncomputable def LF.f:LF:=⟨(fun _ _=>False,nope,[nope]),fun _ _=>no,fun _ _ d=>d.elim⟩
noncomputable def LF.or (p q:LF):LF:=⟨(fun N Z=>p.den N Z∨q.den N Z,nope,p.ds++q.ds),fun _ _=>no,
 fun N Z d=>d.elim (fun x=>(p.2.2 N Z x).elim fun c i=>⟨c,List.mem_append_left _ i.1,i.2⟩) fun x=>(q.2.2 N Z x).elim fun c i=>⟨c,List.mem_append_right _ i.1,i.2⟩⟩
noncomputable def LF.ne (x y:LX):LF:=⟨(fun N Z=>¬ x.vz N Z=y.vz N Z,nope,[[.s y (.a x (.k 1))],[.s x (.a y (.k 1))]]),fun _ _=>no,
 fun _ _ d=>(Int.lt_or_gt_of_ne d).elim (fun z=>ex1 (ok_cons (x:=.a x (.k 1)) (y:=y) z ok_nil)) fun z=>exT (ok_cons (x:=.a y (.k 1)) (y:=x) z ok_nil)⟩
noncomputable def LF.nn (x y:LX):LF:=⟨(fun N _=>¬ x.vn N=y.vn N,nope,[[.s (.c y) (.a (.c x) (.k 1))],[.s (.c x) (.a (.c y) (.k 1))]]),fun _ _=>no,
 fun _ _ d=>(Nat.lt_or_gt_of_ne d).elim (fun z=>ex1 (ok_cons (x:=.a (.c x) (.k 1)) (y:=.c y) (Int.ofNat_lt.mpr z) ok_nil)) fun z=>exT (ok_cons (x:=.a (.c y) (.k 1)) (y:=.c x) (Int.ofNat_lt.mpr z) ok_nil)⟩
noncomputable def LF.tn (i:Nat) (x:LX):LF:=⟨(fun N Z=>(x.vz N Z).toNat=nth 0 N i,nope,[[.s x (.k 0),.s x (.n i),.s (.n i) x],[.s (.k 0) x,.s (.k 0) (.n i)]]),fun _ _=>no,
 fun N Z d=>(Int.le_total 0 (x.vz N Z)).elim (fun h =>
   have e:((nth 0 N i:Nat):Int)=x.vz N Z:=(congrArg Int.ofNat d).symm.trans (Int.toNat_of_nonneg h)
   ex1 (ok_cons (x:=.k 0) h (ok_cons (x:=.n i) (Int.le_of_eq e) (ok_cons (y:=.n i) (Int.le_of_eq e.symm) ok_nil))))
  fun h=>exT (ok_cons (y:=.k 0) h (ok_cons (x:=.n i) (y:=.k 0) (Int.le_of_eq (congrArg Int.ofNat (d.symm.trans (Int.toNat_of_nonpos h)))) ok_nil))⟩
noncomputable def LF.sb (i:Nat) (x y:LX):LF:=⟨(fun N _=>x.vn N - y.vn N=nth 0 N i,nope,[[.s (.c x) (.a (.c y) (.n i)),.s (.a (.c y) (.n i)) (.c x)],[.s (.c y) (.c x),.s (.k 0) (.n i)]]),fun _ _=>no,
 fun N Z d=>(Nat.le_total (y.vn N) (x.vn N)).elim (fun h =>
   have e:y.vn N+nth 0 N i=x.vn N:=(congrArg (y.vn N+·) d).symm.trans (Nat.add_sub_of_le h)
   ex1 (ok_cons (x:=.a (.c y) (.n i)) (y:=.c x) (Int.ofNat_le.mpr (Nat.le_of_eq e)) (ok_cons (y:=.a (.c y) (.n i)) (x:=.c x) (Int.ofNat_le.mpr (Nat.le_of_eq e.symm)) ok_nil)))
  fun h=>exT (ok_cons (x:=.c x) (y:=.c y) (Int.ofNat_le.mpr h) (ok_cons (x:=.n i) (y:=.k 0) (Int.le_of_eq (congrArg Int.ofNat (d.symm.trans (Nat.sub_eq_zero_of_le h)))) ok_nil))⟩
noncomputable def LF.mi (i:Nat) (x y:LX):LF:=⟨(fun N _=>min (x.vn N) (y.vn N)=nth 0 N i,nope,[[.s (.c x) (.n i),.s (.n i) (.c x),.s (.c y) (.c x)],[.s (.c y) (.n i),.s (.n i) (.c y),.s (.c x) (.c y)]]),fun _ _=>no,
 fun N Z d=>(Nat.le_total (x.vn N) (y.vn N)).elim (fun h =>
   have e:=(Nat.min_eq_left h).symm.trans d
   ex1 (ok_cons (x:=.n i) (y:=.c x) (Int.ofNat_le.mpr (Nat.le_of_eq e.symm)) (ok_cons (y:=.n i) (x:=.c x) (Int.ofNat_le.mpr (Nat.le_of_eq e)) (ok_cons (x:=.c x) (y:=.c y) (Int.ofNat_le.mpr h) ok_nil))))
  fun h =>
   have e:=(Nat.min_eq_right h).symm.trans d
   exT (ok_cons (x:=.n i) (y:=.c y) (Int.ofNat_le.mpr (Nat.le_of_eq e.symm)) (ok_cons (y:=.n i) (x:=.c y) (Int.ofNat_le.mpr (Nat.le_of_eq e)) (ok_cons (x:=.c y) (y:=.c x) (Int.ofNat_le.mpr h) ok_nil)))⟩
theorem dv1 {x z:Int} {q:Nat} (d:x / ((q+1:Nat):Int)=z):((q+1:Nat):Int) * z≤x∧x+1≤((q+1:Nat):Int) * z+((q+1:Nat):Int) :=
 have hq:0 < ((q+1:Nat):Int):=Int.ofNat_lt.mpr (Nat.succ_pos q)
 d▸⟨Int.mul_ediv_self_le (Int.ne_of_gt hq),Int.lt_mul_ediv_self_add hq⟩
noncomputable def LF.dv (j q:Nat) (x:LX):LF:=⟨(fun N Z=>x.vz N Z / ((q+1:Nat):Int)=nth 0 Z j,nope,[[.s x (.m (q+1) (.z j)),.s (.a (.m (q+1) (.z j)) (.k (q+1))) (.a x (.k 1))]]),fun _ _=>no,
 fun N Z d=>ex1 (ok_cons (x:=.m (q+1) (.z j)) (dv1 d).1 (ok_cons (x:=.a x (.k 1)) (y:=.a (.m (q+1) (.z j)) (.k (q+1))) (dv1 d).2 ok_nil))⟩
noncomputable def comb (l:List LX):List Nat→LX:=List.rec (motive:=fun _=>List Nat→LX) (fun _=>.k 0) (fun h _ ih r=>List.rec (motive:=fun _=>LX) (.a h (ih [])) (fun q r _=>.a (.m q h) (ih r)) r) l
section
variable {N:List Nat} {Z:List Int}
theorem comb_pos {l:List LX}:∀ {r:List Nat},ok N Z l→0≤(comb l r).vz N Z:=by
 induction l with
 | nil=>exact fun _=>Int.le_refl _
 | cons h t ih =>
  intro r o
  have o2:ok N Z t:=fun e m=>o e (.tail _ m)
  cases r with
  | nil=>exact Int.add_nonneg (o h (.head _)) (ih o2)
  | cons q r=>exact Int.add_nonneg (Int.mul_nonneg (Int.natCast_nonneg q) (o h (.head _))) (ih o2)
noncomputable def one (N:List Nat) (Z:List Int) (H:List LX) (e:LX) (c:List Nat):Bool:=List.rec (motive:=fun _=>Bool) (ps N Z (.s e (comb H []))) (fun d r _=>ps N Z (.s (.a (.m (d+1) e) (.k d)) (comb H r))) c
theorem one_of {H:List LX} {e:LX} (o:ok N Z H) {c:List Nat} (h:one N Z H e c=true):0≤e.vz N Z:=by
 cases c with
 | nil=>exact Int.le_trans (comb_pos o) (Int.sub_nonneg.mp (ps_of N Z h))
 | cons d r =>
  have h1:0≤((d+1:Nat):Int) * e.vz N Z+(d:Nat):=Int.le_trans (comb_pos (r:=r) o) (Int.sub_nonneg.mp (ps_of N Z h))
  refine Int.not_lt.mp fun h2=>?_
  have h3:((d+1:Nat):Int) * e.vz N Z≤((d+1:Nat):Int) * (-1):=Int.mul_le_mul_of_nonneg_left (Int.le_sub_one_of_lt h2) (Int.natCast_nonneg _)
  have h4:(0:Int)≤((d+1:Nat):Int) * (-1)+(d:Nat):=Int.le_trans h1 (Int.add_le_add_right h3 _)
  rw [Int.mul_neg,Int.mul_one,Int.natCast_add,Int.neg_add,Int.add_right_comm,Int.add_left_neg] at h4
  exact absurd h4 (by decide)
noncomputable def chk (N:List Nat) (Z:List Int) (H:List LX) (l:List LX):List (List Nat)→Bool:=List.rec (motive:=fun _=>List (List Nat)→Bool) (fun _=>true) (fun e _ ih c=>List.rec (motive:=fun _=>Bool) (one N Z H e [] && ih []) (fun c cs _=>one N Z H e c && ih cs) c) l
theorem chk_of {H:List LX} (o:ok N Z H) {l:List LX}:∀ {c:List (List Nat)},chk N Z H l c=true→ok N Z l:=by
 induction l with
 | nil=>exact fun _=>ok_nil
 | cons e r ih =>
  intro c h
  have:(∃ d,one N Z H e d=true)∧∃ d,chk N Z H r d=true:=by
   cases c with
   | nil=>exact ⟨⟨_,(and_of h).1⟩,_,(and_of h).2⟩
   | cons d ds=>exact ⟨⟨_,(and_of h).1⟩,_,(and_of h).2⟩
  obtain ⟨⟨d,hd⟩,d2,hd2⟩:=this
  exact fun x m=>(List.mem_cons.mp m).elim (fun z=>z▸one_of o hd) (ih hd2 x)
end
noncomputable def imp (N:List Nat) (Z:List Int) (g:LF) (l:List LF):Prop:=List.rec (motive:=fun _=>Prop) (g.den N Z) (fun h _ p=>h.den N Z→p) l
noncomputable abbrev Ct:=List (List (List Nat))
noncomputable def wy (k:List LX→Ct→Bool×Ct) (l:List (List LX)):Ct→Bool×Ct:=List.rec (motive:=fun _=>Ct→Bool×Ct) (fun cs=>(true,cs)) (fun b _ ih cs=>((k b cs).1 && (ih (k b cs).2).1,(ih (k b cs).2).2)) l
noncomputable def run (N:List Nat) (Z:List Int) (g:List LX) (l:List LF):List LX→Ct→Bool×Ct:=List.rec (motive:=fun _=>List LX→Ct→Bool×Ct) (fun H c=>List.rec (motive:=fun _=>Bool×Ct) (chk N Z H g [],[]) (fun c cs _=>(chk N Z H g c,cs)) c) (fun f _ ih H cs=>wy (fun b=>ih (H++b)) f.ds cs) l
theorem wy_of {N:List Nat} {Z:List Int} {k:List LX→Ct→Bool×Ct} {P:Prop} (hk:∀ b cs,ok N Z b→(k b cs).1=true→P) {l:List (List LX)}:∀ {cs:Ct},(wy k l cs).1=true→ex N Z l→P:=by
 induction l with
 | nil=>exact fun _ h=>h.elim fun _ i=>nomatch i.1
 | cons b r ih=>exact fun h i=>i.elim fun x i=>(List.mem_cons.mp i.1).elim (fun z=>hk b _ (z▸i.2) (and_of h).1) fun m=>ih (and_of h).2 ⟨x,m,i.2⟩
theorem run_of {N:List Nat} {Z:List Int} {g:LF} {l:List LF}:∀ {H:List LX} {cs:Ct},ok N Z H→(run N Z g.fs l H cs).1=true→imp N Z g l:=by
 induction l with
 | nil =>
  intro H cs o h
  cases cs with
  | nil=>exact g.2.1 N Z (chk_of o h)
  | cons _ _=>exact g.2.1 N Z (chk_of o h)
 | cons f r ih=>exact fun o h d=>wy_of (fun b cs ob hb=>ih (ok_two o ob) hb) h (f.2.2 N Z d)
noncomputable def dg (f n:Nat):List Nat:=Nat.rec (motive:=fun _=>Nat→List Nat) (fun _=>[]) (fun _ h n=>bif Nat.ble n 1 then [] else (n % 10)::h (n / 10)) f n
theorem lq (N:List Nat) (Z:List Int) (hs:List LF) (g:LF) (c:List (List Nat)) (h:(run N Z g.fs hs [] (c.map fun l=>l.map (dg 40))).1=true):imp N Z g hs:=run_of ok_nil h
theorem nb {a b:Nat} (h:Nat.ble a b=true):a≤b:=Nat.le_of_ble_eq_true h
theorem nab {p q:Prop} (h:¬ (p∧q)):¬ p∨¬ q:=Classical.not_and_iff_not_or_not.mp h
noncomputable abbrev Nq:LX:=.n 0
noncomputable abbrev Nr:LX:=.n 1
noncomputable abbrev Ns:LX:=.n 2
noncomputable abbrev Zq:LX:=.z 0
noncomputable abbrev Zr:LX:=.z 1
noncomputable abbrev Kq:LX:=.k 0
noncomputable abbrev Kr:LX:=.k 1
noncomputable def PT.f {α:Type} (d:α) (E:List α) (S:List (List α)) (p:Bool×Nat):List α:=bif p.1 then [nth d E p.2] else nth [] S p.2
noncomputable def PT:Type 1:={p:((α:Type)→α→List α→List (List α)→List α)×List (Bool×Nat) // ∀ (α:Type) (d:α) (E:List α) (S:List (List α)),p.1 α d E S=p.2.flatMap (PT.f d E S)}
noncomputable def PT.n:PT:=⟨(fun _ _ _ _=>[],[]),fun _ _ _ _=>rfl⟩
noncomputable def PT.c (i:Nat) (t:PT):PT:=⟨(fun _ d E S=>nth d E i::t.1.1 _ d E S,(true,i)::t.1.2),fun _ d E S=>congrArg (nth d E i::·) (t.2 _ d E S)⟩
noncomputable def PT.s (i:Nat):PT:=⟨(fun _ _ _ S=>nth [] S i,[(false,i)]),fun _ _ _ _=>(List.append_nil _).symm⟩
noncomputable def PT.a (t u:PT):PT:=⟨(fun _ d E S=>t.1.1 _ d E S++u.1.1 _ d E S,t.1.2++u.1.2),fun _ d E S=>(congr (congrArg HAppend.hAppend (t.2 _ d E S)) (u.2 _ d E S)).trans List.flatMap_append.symm⟩
theorem pq {α:Type} (d:α) (E:List α) (S:List (List α)) (t u:PT) (h:t.1.2.isPerm u.1.2=true):(t.1.1 α d E S).Perm (u.1.1 α d E S):=by
 rw [t.2,u.2]
 exact (List.isPerm_iff.mp h).flatMap_right _
noncomputable abbrev Led:=List (Addr×Obj)
noncomputable abbrev Names:=Str→Option Value
noncomputable abbrev MProg:Program:=PySem.Challenge.rw_pc0175_01.row.prog
noncomputable def Apart (l:Led):Prop:=(l.map (·.1)).Nodup
structure Cx (w:World) (mean:ExcName→Option Value) (mg mb:Names) (Ar:Around) (env:Env) (g:Heap) (L:Addr) (dep:Nat):Prop where
 X:(hd.heap_1_39 w.params).In g
 T:∃ pv lo,Top pv lo mean mg mb g
 B:∃ outer A₀ base,Ar.frames=some (env::outer)∧Below A₀ base outer g
 n:Ar.handled=none
 f:env.frame=some L
 k:env.scope.kind=.function
 d:Ar.depth+dep < recursionLimit
 u:Ar.units+30 * dep < cLine
noncomputable def Spec (w:World) (mean:ExcName→Option Value) (mg mb:Names) (f:Value) (args:List Value) (dep:Nat) (led:Led) (post:Value→Led→Prop):Prop :=
 ∀ (Ar:Around) (env:Env) (g:Heap) (L:Addr) (m:Names) (s:Shared) (Q E:Value→Shared→Prop),
  Cx w mean mg mb Ar env g L dep→Fr g L s.heap m→News g L s.heap led→Apart led →
  (∀ r led' h' tk',Fr g L h' m→News g L h' led'→Apart led'→post r led'→Q r { s with heap:=h',toks:=tk' }) →
  codeAny (model PySem.Challenge.rw_pc0175_01.row.prog w) Ar (.call f ⟨args,[]⟩) (fun r s'=>match r with | .ok (.ret v)=>Q v s' | .ok _=>False | .error e=>E e s') s
noncomputable def retOf (fl:Flow):Value:=match fl with | .ret v=>v | _=>.none
section
variable {w:World} {mean:ExcName→Option Value} {mg mb:Names} {f:Value} {args:List Value} {dep dep':Nat} {led:Led} {post post':Value→Led→Prop}
theorem Cx.mono {Ar:Around} {env:Env} {g:Heap} {L:Addr} (C:Cx w mean mg mb Ar env g L dep') (h:dep≤dep'):Cx w mean mg mb Ar env g L dep :=
 ⟨C.X,C.T,C.B,C.n,C.f,C.k,Nat.lt_of_le_of_lt (Nat.add_le_add_left h _) C.d,Nat.lt_of_le_of_lt (Nat.add_le_add_left (Nat.mul_le_mul_left _ h) _) C.u⟩
theorem Spec.mono (H:Spec w mean mg mb f args dep led post) (hd:dep≤dep') (hp:∀ r l,post r l→post' r l):Spec w mean mg mb f args dep' led post':=by
 intro Ar env g L m s Q E C F N D hret
 exact H Ar env g L m s Q E (C.mono hd) F N D fun r l h tk F' N' D' p=>hret r l h tk F' N' D' (hp r l p)
theorem Spec.use (H:Spec w mean mg mb f args dep led post)
  {Ar:Around} {env:Env} {g h:Heap} {gs:Array GenState} {d:Drawn} {tk:Nat} {o:OsState} {L:Addr} {m:Names} {Q E:Value→Shared→Prop}
  (C:Cx w mean mg mb Ar env g L dep') (F:Fr g L h m) (N:News g L h led) (D:Apart led) (hd:dep≤dep')
  (ret:∀ r led' h' tk',Fr g L h' m→News g L h' led'→Apart led'→post r led'→Q r ⟨h',gs,d,tk',o⟩) :
  wpAny (model PySem.Challenge.rw_pc0175_01.row.prog w) Ar (call f args) Q E ⟨h,gs,d,tk,o⟩ :=
 wpAny_call (H Ar env g L m ⟨h,gs,d,tk,o⟩ Q E (C.mono hd) F N D ret)
theorem Spec.enter {a:Addr} {name qual:Str} {params:Arguments} {body:List Stmt} {scope:Scope} {dV kV doc pm cdv ct oc:Value} {an od:Option Addr} {osl:Array (Option Value)} {binds:List (Str×Value)} {mm:Names}
  (ho:(hd.heap_1_39 w.params).lookup a=some ⟨oc,od,.func (fnOf name qual params body scope dV kV doc pm an cdv ct),osl⟩) (hcd:codeIn (hd.heap_1_39 w.params) cdv qual=true)
  (hbind:∀ s:Shared,(hd.heap_1_39 w.params).In s.heap→BindsTo s (fnOf name qual params body scope dV kV doc pm an cdv ct) ⟨args,[]⟩ binds) (hloc:∀ y∈binds,scope.names.lookup y.1=some .local) (hm:∀ y,binds.reverse.lookup y=mm y)
  (hco:scope.isCoroutine=false) (hgen:scope.isGenerator=false) (hk:scope.kind=.function) (hcell:∀ x∈scope.names,x.2≠.cell)
  (h:∀ (pv:Program) (lo:List Str) (dp₀:Nat) (fr₀:Option (List Env)) (gd₀:Option (List Code)) (u₀:Nat) (g₁:Heap) (L₁:Addr) (h₁:Heap) (gs:Array GenState) (d:Drawn) (tk:Nat) (o:OsState) (Q:Flow→Shared→Prop),
   Cx w mean mg mb { handled:=none,depth:=dp₀,frames:=fr₀,guards:=gd₀,units:=u₀ } (envOf qual scope L₁ a cdv) g₁ L₁ dep→(hd.heap_1_39 w.params).In g₁→Top pv lo mean mg mb g₁→Fr g₁ L₁ h₁ mm→News g₁ L₁ h₁ led→Apart led →
   (∀ fl led' h' tk' {m'},Fr g₁ L₁ h' m'→News g₁ L₁ h' led'→Apart led'→post (retOf fl) led'→Q fl ⟨h',gs,d,tk',o⟩) →
   wpAny (model PySem.Challenge.rw_pc0175_01.row.prog w) { handled:=none,depth:=dp₀,frames:=fr₀,guards:=gd₀,units:=u₀ } (execs body (envOf qual scope L₁ a cdv)) Q (fun z9 z9=>False) ⟨h₁,gs,d,tk,o⟩) :
  Spec w mean mg mb (.ref a) args (dep+1) led post:=by
 intro Ar env g L m s Q E C F N D hret
 obtain ⟨X,⟨pv,lo,T⟩,⟨outer,A₀,base,hA,B⟩,hn,hf,hk',hd,hu⟩:=C
 obtain ⟨hnd,dp,fr,gd,u⟩:=Ar
 dsimp only at hA hn hd hu
 subst hA hn
 refine code_def B F X N T rfl hf hk' ho hcd (by dsimp only; exact Nat.lt_of_add_right_lt hd) (hbind s (X.keeps F.keep)) hloc (fun g₁ L₁ h₁ FG F₁ N₁ B₁ X₁ T₁=>?_) hco hgen hk hcell
 rw [show (fun y=>binds.reverse.lookup y)=mm from funext hm] at F₁
 refine wpAny_mono (h pv lo (dp+1) (some (envOf qual scope L₁ a cdv::env::outer)) _ (u+3) g₁ L₁ h₁ s.gens s.drawn _ s.os _ ⟨X₁,⟨_,_,T₁⟩,⟨env::outer,_,base,rfl,B₁⟩,rfl,rfl,hk,by dsimp only; exact lq [_,_,_] [] [.t (.a Nq (.a Nr Kr)) Ns] (.t (.a (.a Nq Kr) Nr) Ns) [] rfl hd,by dsimp only; exact lq [_,_,_] [] [.t (.a Nq (.m 30 (.a Nr Kr))) Ns] (.t (.a (.a Nq (.k 3)) (.m 30 Nr)) Ns) [] rfl hu⟩ X₁ T₁ F₁ N₁ D ?_) (fun z9 z9 x=>x) (fun z9 z9 x=>x.elim)
 intro fl led' h' tk' m' F' N' D' p
 exact ⟨L₁,m',led',F',N',fun F2 N2=>hret _ led' h' tk' F2 N2 D' p⟩
end
theorem Apart.perm {l l':Led} (h:Apart l) (p:l.Perm l'):Apart l':=(p.map _).nodup_iff.mp h
theorem News.sub {h₀ h:Heap} {L:Addr} {l l':Led} (N:News h₀ L h l) (s:∀ p∈l',p∈l):News h₀ L h l':=fun p hp=>N p (s p hp)
theorem News.perm {h₀ h:Heap} {L:Addr} {l l':Led} (N:News h₀ L h l) (p:l.Perm l'):News h₀ L h l':=fun q hq=>N q (p.mem_iff.mpr hq)
theorem Apart.split {pre post:Led} {d:Addr} {o:Obj} (h:Apart (pre++(d,o)::post)):(∀ p∈pre,p.1≠d)∧∀ p∈post,p.1≠d:=by
 unfold Apart at h
 rw [List.map_append,List.map_cons,List.nodup_append] at h
 obtain ⟨_,h2,h3⟩:=h
 refine ⟨fun p hp e=>h3 p.1 (List.mem_map_of_mem hp) d (List.mem_cons_self ..) e,fun p hp e=>?_⟩
 exact (List.nodup_cons.mp h2).1 (e▸List.mem_map.mpr ⟨p,hp,rfl⟩)
theorem Upd.mk {d:Addr} {o o':Obj}:∀ {pre post:Led},(∀ p∈pre,p.1≠d)→(∀ p∈post,p.1≠d)→Upd d o o' (pre++(d,o)::post) (pre++(d,o')::post)
 | [],_,_,h=>.head h
 | _::_,_,a,h=>.tail (a _ (.head _)) (Upd.mk (fun p hp=>a p (.tail _ hp)) h)
theorem Apart.upd {pre post:Led} {d:Addr} {o o':Obj} (h:Apart (pre++(d,o)::post)):Upd d o o' (pre++(d,o)::post) (pre++(d,o')::post)∧Apart (pre++(d,o')::post):=by
 obtain ⟨a,b⟩:=h.split
 refine ⟨Upd.mk a b,?_⟩
 unfold Apart at h ⊢
 rw [List.map_append,List.map_cons] at h ⊢
 exact h
theorem Apart.cons {l:Led} {p:Addr×Obj} (h:Apart l) (lt:∀ q∈l,q.1 < p.1):Apart (p::l):=by
 unfold Apart
 rw [List.map_cons]
 refine List.nodup_cons.mpr ⟨fun hm=>?_,h⟩
 obtain ⟨q,hq,e⟩:=List.mem_map.mp hm
 exact absurd (lt q hq) (by rw [e]; exact Nat.lt_irrefl _)
structure NodeR where
 key:Value
 val:Value
 next:Int
 nt:Tok
structure NA where
 nx:Nat→Addr
 ndx:Nat→Addr
 k1:Nat→Tok
 k2:Nat→Tok
 k3:Nat→Tok
structure TA where
 t:Addr
 dt:Addr
 q0:Tok
 q1:Tok
 q2:Tok
 q3:Tok
 q4:Tok
 q5:Tok
 q6:Tok
 q7:Tok
 q8:Tok
 q9:Tok
structure TC where
 la:Addr
 ln:Addr
 ea:Nat
 en:Nat
 number:Value
 mark:Value
 size:Value
 meta':Value
 flags:Value
 weak:Value
 logn:Value
 fr:Int
 ft:Tok
 arr:List Value
 na:NA
 nodes:List NodeR
noncomputable def nodeEnts (P:Params) (a:NA) (i:Nat) (n:NodeR):List DictEntry :=
 [⟨PyData.keyHash P (Str.ofString "key"),.str (Str.ofString "key") (a.k1 i),n.key⟩,
  ⟨PyData.keyHash P (Str.ofString "value"),.str (Str.ofString "value") (a.k2 i),n.val⟩,
  ⟨PyData.keyHash P (Str.ofString "next"),.str (Str.ofString "next") (a.k3 i),.int n.next n.nt⟩]
noncomputable def nodeLed (P:Params) (a:NA) (i:Nat) (n:NodeR):Led:=[(a.nx i,instObj 295 (a.ndx i)),(a.ndx i,dictOf (nodeEnts P a i n) 3)]
noncomputable def nodesFrom (P:Params) (a:NA):Nat→List NodeR→Led
 | _,[]=>[]
 | k,n::r=>nodeLed P a k n++nodesFrom P a (k+1) r
noncomputable def tabEnts (P:Params) (A:TA) (C:TC):List DictEntry :=
 [⟨PyData.keyHash P (Str.ofString "number"),.str (Str.ofString "number") A.q0,C.number⟩,
  ⟨PyData.keyHash P (Str.ofString "mark"),.str (Str.ofString "mark") A.q1,C.mark⟩,
  ⟨PyData.keyHash P (Str.ofString "size"),.str (Str.ofString "size") A.q2,C.size⟩,
  ⟨PyData.keyHash P (Str.ofString "meta"),.str (Str.ofString "meta") A.q3,C.meta'⟩,
  ⟨PyData.keyHash P (Str.ofString "flags"),.str (Str.ofString "flags") A.q4,C.flags⟩,
  ⟨PyData.keyHash P (Str.ofString "weak"),.str (Str.ofString "weak") A.q5,C.weak⟩,
  ⟨PyData.keyHash P (Str.ofString "array"),.str (Str.ofString "array") A.q6,.ref C.la⟩,
  ⟨PyData.keyHash P (Str.ofString "nodes"),.str (Str.ofString "nodes") A.q7,.ref C.ln⟩,
  ⟨PyData.keyHash P (Str.ofString "log_nodes"),.str (Str.ofString "log_nodes") A.q8,C.logn⟩,
  ⟨PyData.keyHash P (Str.ofString "free"),.str (Str.ofString "free") A.q9,.int C.fr C.ft⟩]
noncomputable def refsOf (a:NA) (n:Nat):List Value:=(List.range n).map fun i=>.ref (a.nx i)
noncomputable def TL (P:Params) (A:TA) (C:TC) (R:Led):Led :=
 (A.t,instObj 526 A.dt)::(A.dt,dictOf (tabEnts P A C) 10)::(C.la,listOf C.arr.toArray C.ea)::(C.ln,listOf (refsOf C.na C.nodes.length).toArray C.en)::(nodesFrom P C.na 0 C.nodes++R)
section
variable {P:Params} {A:TA} {C:TC} {R:Led}
theorem mem_t:(A.t,instObj 526 A.dt)∈TL P A C R:=.head _
theorem mem_dt:(A.dt,dictOf (tabEnts P A C) 10)∈TL P A C R:=.tail _ (.head _)
theorem mem_la:(C.la,listOf C.arr.toArray C.ea)∈TL P A C R:=.tail _ (.tail _ (.head _))
theorem mem_ln:(C.ln,listOf (refsOf C.na C.nodes.length).toArray C.en)∈TL P A C R:=.tail _ (.tail _ (.tail _ (.head _)))
theorem mem_R {p:Addr×Obj} (h:p∈R):p∈TL P A C R:=.tail _ (.tail _ (.tail _ (.tail _ (List.mem_append_right _ h))))
theorem nodesFrom_split {a:NA} {ns:List NodeR} {i k:Nat} {n:NodeR} (h:ns[i]?=some n):nodesFrom P a k ns=nodesFrom P a k (ns.take i)++(nodeLed P a (k+i) n++nodesFrom P a (k+i+1) (ns.drop (i+1))):=by
 induction ns generalizing i k with
 | nil=>simp at h
 | cons x r ih =>
  cases i with
  | zero=>simp at h; subst h; simp [nodesFrom]
  | succ i =>
   have:=ih (i:=i) (k:=k+1) (by simpa using h)
   simp only [List.take_succ_cons,List.drop_succ_cons,nodesFrom,List.append_assoc]
   rw [this,show k+1+i=k+(i+1) by exact Nat.add_right_comm _ _ _]
theorem nodesFrom_take {a:NA}:∀ {ns:List NodeR} {i k:Nat} {n':NodeR},nodesFrom P a k ((ns.set i n').take i)=nodesFrom P a k (ns.take i):=by
 intro ns i k n'
 rw [List.take_set_of_le (Nat.le_refl _)]
theorem nodesFrom_set {a:NA} {ns:List NodeR} {i:Nat} {n n':NodeR} (h:ns[i]?=some n):nodesFrom P a 0 (ns.set i n')=nodesFrom P a 0 (ns.take i)++(nodeLed P a (0+i) n'++nodesFrom P a (0+i+1) (ns.drop (i+1))):=by
 have hl:=(List.getElem?_eq_some_iff.mp h).1
 rw [nodesFrom_split (i:=i) (n:=n') (by simp [hl]),nodesFrom_take,List.drop_set_of_lt (by exact Nat.le_refl _)]
theorem mem_node {i:Nat} {n:NodeR} (h:C.nodes[i]?=some n) {p:Addr×Obj} (hp:p∈nodeLed P C.na i n):p∈TL P A C R:=by
 refine .tail _ (.tail _ (.tail _ (.tail _ (List.mem_append_left _ ?_))))
 rw [nodesFrom_split h,Nat.zero_add]
 exact List.mem_append_right _ (List.mem_append_left _ hp)
theorem mem_nx {i:Nat} {n:NodeR} (h:C.nodes[i]?=some n):(C.na.nx i,instObj 295 (C.na.ndx i))∈TL P A C R:=mem_node h (.head _)
theorem mem_ndx {i:Nat} {n:NodeR} (h:C.nodes[i]?=some n):(C.na.ndx i,dictOf (nodeEnts P C.na i n) 3)∈TL P A C R:=mem_node h (.tail _ (.head _))
end
theorem free_ne {ns:List NodeR} {f j:Nat} {sp n:NodeR} (h1:ns[f]?=some sp) (h2:sp.key=.none) (h3:ns[j]?=some n) (h4:n.key≠.none):f≠j:=by
 rintro rfl
 rw [h1] at h3
 cases h3
 exact h4 h2
theorem set_self {ns:List NodeR} {i:Nat} {n n':NodeR} (h:ns[i]?=some n):(ns.set i n')[i]?=some n':=by
 have hl:=(List.getElem?_eq_some_iff.mp h).1
 simp [hl]
theorem set_ne {ns:List NodeR} {i j:Nat} {n n':NodeR} (hne:i≠j) (h:ns[j]?=some n):(ns.set i n')[j]?=some n:=by
 rw [List.getElem?_set_ne hne]; exact h
section
variable {prog:Program} {w:World} {Ar:Around} {E:Value→Shared→Prop} {s:Shared} {h₀:Heap} {L:Addr} {m:Names} {A:TA} {C:TC} {R:Led} {v:Value} {Q:Unit→Shared→Prop}
theorem set_field {name:Str} {C':TC} {h:Heap} {g:Array GenState} {d:Drawn} {tk:Nat} {o:OsState} (F:Fr h₀ L h m) (X₀:(hd.heap_1_39 w.params).In h₀) (N:News h₀ L h (TL w.params A C R)) (D:Apart (TL w.params A C R))
  (ht:takerIn (hd.heap_1_39 w.params) 526 name=some none)
  (hs:findIn (hd.heap_1_39 w.params) (.ref 526) "__setattr__"=some (some (.builtin "object.__setattr__"))) (hp:plainOver (hd.heap_1_39 w.params) 526=true) (hh:hasDictIn (hd.heap_1_39 w.params) 526=true)
  (hl:(getL name (tabEnts w.params A C)).isSome=true) (e:∀ hsh k,(putL name hsh k v (tabEnts w.params A C),putN name (tabEnts w.params A C) 10)=(tabEnts w.params A C',10))
  (e1:C'.la=C.la) (e2:C'.ln=C.ln) (e3:C'.ea=C.ea) (e4:C'.en=C.en) (e5:C'.arr=C.arr) (e6:C'.nodes=C.nodes) (e7:C'.na=C.na)
  (k:∀ h' k',Fr h₀ L h' m→News h₀ L h' (TL w.params A C' R)→Apart (TL w.params A C' R)→Q () ⟨h',g,d,k',o⟩) :
  wpAny (model prog w) Ar (setAttr (.ref A.t) name v) Q E ⟨h,g,d,tk,o⟩:=by
 have U:=Apart.upd (pre:=[(A.t,instObj 526 A.dt)]) (d:=A.dt) (o:=dictOf (tabEnts w.params A C) 10) (o':=dictOf (tabEnts w.params A C') 10) (post:=(C.la,listOf C.arr.toArray C.ea)::(C.ln,listOf (refsOf C.na C.nodes.length).toArray C.en)::(nodesFrom w.params C.na 0 C.nodes++R)) D
 refine set_dict (s:=⟨h,g,d,tk,o⟩) F X₀ N (InstAt.of_news N mem_t mem_dt) rfl hs hp ht hh hl (e _ _) U.1 (by show 10≤1000; exact Nat.le_add_left _ _) fun h' F' N'=>?_
 refine k h' _ F' ?_ ?_
 ·simp only [TL,e1,e2,e3,e4,e5,e6,e7]; exact N'
 ·simp only [TL,e1,e2,e3,e4,e5,e6,e7]; exact U.2
theorem set_nodeField {name:Str} {x:Addr} {i:Nat} {n n':NodeR} {h:Heap} {g:Array GenState} {d:Drawn} {tk:Nat} {o:OsState} (F:Fr h₀ L h m) (X₀:(hd.heap_1_39 w.params).In h₀) (N:News h₀ L h (TL w.params A C R)) (D:Apart (TL w.params A C R)) (ex:C.na.nx i=x) (hn:C.nodes[i]?=some n)
  (ht:takerIn (hd.heap_1_39 w.params) 295 name=some none)
  (hs:findIn (hd.heap_1_39 w.params) (.ref 295) "__setattr__"=some (some (.builtin "object.__setattr__"))) (hp:plainOver (hd.heap_1_39 w.params) 295=true) (hh:hasDictIn (hd.heap_1_39 w.params) 295=true)
  (hl:(getL name (nodeEnts w.params C.na i n)).isSome=true) (e:∀ hsh k,(putL name hsh k v (nodeEnts w.params C.na i n),putN name (nodeEnts w.params C.na i n) 3)=(nodeEnts w.params C.na i n',3))
  (k:∀ h' k',Fr h₀ L h' m→News h₀ L h' (TL w.params A { C with nodes:=C.nodes.set i n' } R)→Apart (TL w.params A { C with nodes:=C.nodes.set i n' } R)→Q () ⟨h',g,d,k',o⟩) :
  wpAny (model prog w) Ar (setAttr (.ref x) name v) Q E ⟨h,g,d,tk,o⟩:=by
 subst ex
 have sp:TL w.params A C R=([(A.t,instObj 526 A.dt),(A.dt,dictOf (tabEnts w.params A C) 10),(C.la,listOf C.arr.toArray C.ea),(C.ln,listOf (refsOf C.na C.nodes.length).toArray C.en)]++nodesFrom w.params C.na 0 (C.nodes.take i)++[(C.na.nx i,instObj 295 (C.na.ndx i))])++(C.na.ndx i,dictOf (nodeEnts w.params C.na i n) 3)::(nodesFrom w.params C.na (i+1) (C.nodes.drop (i+1))++R):=by
  simp only [TL,nodesFrom_split (k:=0) hn,nodeLed,List.cons_append,List.append_assoc,List.nil_append,Nat.zero_add]
 have sp':TL w.params A { C with nodes:=C.nodes.set i n' } R=([(A.t,instObj 526 A.dt),(A.dt,dictOf (tabEnts w.params A C) 10),(C.la,listOf C.arr.toArray C.ea),(C.ln,listOf (refsOf C.na C.nodes.length).toArray C.en)]++nodesFrom w.params C.na 0 (C.nodes.take i)++[(C.na.nx i,instObj 295 (C.na.ndx i))])++(C.na.ndx i,dictOf (nodeEnts w.params C.na i n') 3)::(nodesFrom w.params C.na (i+1) (C.nodes.drop (i+1))++R):=by
  simp only [TL,nodesFrom_set (n':=n') hn,nodeLed,List.cons_append,List.append_assoc,List.nil_append,Nat.zero_add,List.length_set]
  rfl
 have D':=D
 rw [sp] at D'
 have U:=Apart.upd (o':=dictOf (nodeEnts w.params C.na i n') 3) D'
 rw [← sp,← sp'] at U
 exact set_dict (s:=⟨h,g,d,tk,o⟩) F X₀ N (InstAt.of_news N (mem_nx hn) (mem_ndx hn)) rfl hs hp ht hh hl (e _ _) U.1 (by show 3≤1000; exact Nat.le_add_left _ _) fun h' F' N'=>k h' _ F' N' U.2
theorem set_arr {l:Addr} {k:Int} {tk:Tok} (F:Fr h₀ L s.heap m) (N:News h₀ L s.heap (TL w.params A C R)) (D:Apart (TL w.params A C R)) (el:C.la=l) (h0:0≤k) (h1:k < C.arr.length) (hfit:k < 2 ^ 63)
  (h:∀ h',Fr h₀ L h' m→News h₀ L h' (TL w.params A { C with arr:=C.arr.set k.toNat v } R)→Apart (TL w.params A { C with arr:=C.arr.set k.toNat v } R)→Q () { s with heap:=h' }) :
  wpAny (model prog w) Ar (setItem (.ref l) (.int k tk) v) Q E s:=by
 subst el
 have U:=Apart.upd (pre:=[(A.t,instObj 526 A.dt),(A.dt,dictOf (tabEnts w.params A C) 10)]) (d:=C.la) (o:=listOf C.arr.toArray C.ea) (o':=listOf (C.arr.set k.toNat v).toArray C.ea) (post:=(C.ln,listOf (refsOf C.na C.nodes.length).toArray C.en)::(nodesFrom w.params C.na 0 C.nodes++R)) D
 obtain ⟨a,b⟩:=Apart.split (pre:=[(A.t,instObj 526 A.dt),(A.dt,dictOf (tabEnts w.params A C) 10)]) (d:=C.la) (o:=listOf C.arr.toArray C.ea) (post:=(C.ln,listOf (refsOf C.na C.nodes.length).toArray C.en)::(nodesFrom w.params C.na 0 C.nodes++R)) D
 have z:=N _ mem_la
 refine ki_setAt z.1 h0 hfit (by rw [List.size_toArray]; exact h1) (h _ (F.change (Heap.SameBut.update ..) z.2.1 z.2.2) (ki_turn (pre:=[(A.t,instObj 526 A.dt),(A.dt,dictOf (tabEnts w.params A C) 10)]) _ N a b ?_ ?_) U.2)
 ·show C.arr.toArray.setIfInBounds k.toNat v=(C.arr.set k.toNat v).toArray
  apply Array.toList_inj.mp
  simp
 ·simp
theorem get_list {value slice:PySem.Expr} {l:Addr} {vs:List Value} {n:Nat} {k:Int} {u:Tok} {x:Value} {news:Led} {Q:Value→Shared→Prop} (N:News h₀ L s.heap news) (hm:(l,listOf vs.toArray n)∈news)
  (h0:0≤k) (hfit:k < 2 ^ 63) (hx:vs[k.toNat]?=some x) (h:Q x s)
  (hs:subscripted slice false (.ref l) (.int k u)=operate [.ref l,.int k u] (getItem (.ref l) (.int k u))) :
  wpAny (model prog w) Ar (subscriptTail value slice (.ref l) (.int k u)) Q E s:=by
 have hl:s.heap.IsList l vs.toArray:=PySem.IsL.isList (n:=n) (N _ hm).1
 exact tail_any hl.typeIs slot_list_getitem.lookup (wpAny_getItem_list hl h0 hfit (by simpa using hx) h) hs
end
section
variable {prog:Program} {w:World} {Ar:Around} {E:Value→Shared→Prop} {s:Shared} {h₀:Heap} {L:Addr} {m:Names} {A:TA} {C:TC} {R:Led} {P:Params} {Q:Value→Shared→Prop}
theorem len_led {l:Addr} {vs:List Value} {n:Nat} {news:Led} (N:News h₀ L s.heap news) (hm:(l,listOf vs.toArray n)∈news) (hfit:vs.length < 2 ^ 62)
  (h:Q (.int vs.length (s.toks+1)) { s with toks:=s.toks+1+1 }):wpAny (model prog w) Ar (call (.builtin "len") [.ref l]) Q E s:=by
 have hl:s.heap.IsList l vs.toArray:=PySem.IsL.isList (n:=n) (N _ hm).1
 exact call_len_list hl (by rw [List.size_toArray]; lia) (by rw [List.size_toArray]; exact h)
end
section
variable {prog:Program} {w:World} {Ar:Around} {E:Value→Shared→Prop} {s:Shared} {h₀:Heap} {L:Addr} {m:Names} {A:TA} {C:TC} {R:Led} {P:Params} {Q:Value→Shared→Prop}
theorem refsOf_get {a:NA} {i n:Nat} (h:i < n):(refsOf a n)[i]?=some (.ref (a.nx i)):=by simp [refsOf,h]
end
section
variable {M:Model} {Ar:Around} {E:Value→Shared→Prop} {s:Shared} {K:Frag} {h₀:Heap} {L a:Addr} {m mg mb:Names} {cn:Str} {cs:Scope} {ccd:Value} {cl:List (Str×Addr)} {p:Program} {loose:List Str} {mean:ExcName→Option Value}
 {x:Str} {pos:Pos} {v:Value} {Q:Value→Shared→Prop} {news:Led}
noncomputable def upd (m:Names) (x:Str) (v:Value):Names:=fun y=>if y=x then some v else m y
theorem upd_hit {m:Names} {x:Str} {v:Value}:upd m x v x=some v:=if_pos rfl
theorem lk_upd {y n:Str} {v:Value} {l:List (Str×Value)}:((n,v)::l).lookup y=upd (fun z=>l.lookup z) n v y:=by
 rw [List.lookup_cons]
 unfold upd
 by_cases h:y=n
 ·subst h; simp
 ·have h':(y == n)=false:=by simpa using h
  rw [if_neg h,h']
theorem nm_L (F:Fr h₀ L s.heap m) (hl:cs.names.lookup x=some .local) (hv:m x=some v) (hd:(x == Str.ofString "__debug__")=false) (hk:cs.kind=.function) (h:Q v s) :
  wpAny M Ar (eval (.Name x pos) (envX cn cs L a ccd cl)) Q E s:=nameX_L F hv h hk hl hd
theorem nm_K (F:Fr h₀ L s.heap m) (X:K.In h₀) (T:Top p loose mean mg mb h₀) (hl:cs.names.lookup x=some .globalImplicit) (e:nsIn K mainGlobals x=some (some v)) (hd:(x == Str.ofString "__debug__")=false) (hk:cs.kind=.function) (h:Q v s) :
  wpAny M Ar (eval (.Name x pos) (envX cn cs L a ccd cl)) Q E s:=nameX_K F X (topRead_of T) e h hk hl hd
theorem nm_B (F:Fr h₀ L s.heap m) (X:K.In h₀) (T:Top p loose mean mg mb h₀) (hl:cs.names.lookup x=some .globalImplicit) (e:nsIn K mainGlobals x=some none) (hv:bootBuiltins x=some v) (hn:(x == Str.ofString "__name__")=false) (hd:(x == Str.ofString "__debug__")=false) (hk:cs.kind=.function) (h:Q v s) :
  wpAny M Ar (eval (.Name x pos) (envX cn cs L a ccd cl)) Q E s:=nameX_B F X (topRead_of T) e hv (fun e=>by rw [e] at hn; exact absurd hn (by decide)) h hk hl hd
end
structure Cut (K:Flow→Shared→Prop) (P:Shared→Prop) (Q:Flow→Shared→Prop):Prop where
 n:∀ s,P s→K .next s
 r:∀ fl s,fl≠.next→Q fl s→K fl s
section
variable {M:Model} {A:Around} {E:Value→Shared→Prop} {s:Shared} {env:Env} {Q K:Flow→Shared→Prop} {P:Shared→Prop}
end
inductive Vl where
 | v (x:Value)
 | i (n:Int)
 | b (p:Prop)
noncomputable def Vl.is:Vl→Value→Prop
 | .v x,y=>y=x
 | .i n,y=>∃ t,y=.int n t
 | .b p,y=>∃ b:Bool,y=.bool b∧(b=true↔p)
inductive NM where
 | nil
 | set (m:NM) (i:Nat) (V:Vl)
noncomputable def NM.get:NM→Nat→Option Vl
 | .nil,_=>none
 | .set m j V,i=>bif Nat.beq i j then some V else m.get i
noncomputable def NM.put:NM→Nat→Vl→NM
 | .nil,i,V=>.set .nil i V
 | .set m j W,i,V=>bif Nat.beq i j then .set m i V else .set (m.put i V) j W
structure Sh where
 q:Str
 sc:Scope
 a:Addr
 cd:Value
 cl:List (Str×Addr)
noncomputable def Sh.env (h:Sh) (L:Addr):Env:=envX h.q h.sc L h.a h.cd h.cl
noncomputable def slot:List (Str×NameKind)→Nat→Option (Str×NameKind)
 | [],_=>none
 | x::_,0=>some x
 | _::l,i+1=>slot l i
structure Cn where
 w:World
 mean:ExcName→Option Value
 mg:Names
 mb:Names
 sh:Sh
 dep:Nat
structure St where
 c:Cn
 m:NM
 led:Led
noncomputable def scOk (sc:Scope):Bool:=decide (sc.names.map (·.1)).Nodup && sc.names.all fun p=>!(p.1 == Str.ofString "__debug__")
noncomputable def NMok (sc:Scope) (m:NM) (nm:Names):Prop:=∀ i V,m.get i=some V→∃ x v,slot sc.names i=some (x,.local)∧nm x=some v∧V.is v
structure Rt (c:Cn) (Ar:Around) (g:Heap) (L:Addr):Prop where
 ok:scOk c.sh.sc=true
 C:Cx c.w c.mean c.mg c.mb Ar (c.sh.env L) g L c.dep
structure RS (σ:St) (g:Heap) (L:Addr) (h:Heap):Prop where
 F:∃ nm,Fr g L h nm∧NMok σ.c.sh.sc σ.m nm
 N:News g L h σ.led
 D:Apart σ.led
noncomputable abbrev Md (c:Cn):Model:=model MProg c.w
noncomputable def WX {α:Type} (σ:St) (code:Env→Sem α) (Q:α→NM→Led→Prop):Prop :=
 ∀ (Ar:Around) (g:Heap) (L:Addr) (s:Shared),Rt σ.c Ar g L→RS σ g L s.heap →
  wpAny (Md σ.c) Ar (code (σ.c.sh.env L)) (fun a s'=>∃ h' tk' m' led',s'={ s with heap:=h',toks:=tk' }∧RS ⟨σ.c,m',led'⟩ g L h'∧Q a m' led') (fun z9 z9=>False) s
noncomputable def Ev (σ:St) (e:PySem.Expr) (V:Vl):Prop:=WX σ (eval e) fun v m l=>m=σ.m∧l=σ.led∧V.is v
noncomputable def EvT (σ:St) (e:PySem.Expr) (p:Prop):Prop:=WX σ (fun env=>isTrue e env (eval e env)) fun b m l=>m=σ.m∧l=σ.led∧(b=true↔p)
noncomputable def HE (σ:St) (e:PySem.Expr) (Q:Value→Led→Prop):Prop:=WX σ (eval e) fun v m l=>m=σ.m∧Q v l
noncomputable def HS (c:Cn):List (List Stmt)→NM→Led→(Flow→NM→Led→Prop)→Prop
 | [],m,l,Q=>Q .next m l
 | ss::K,m,l,Q=>WX ⟨c,m,l⟩ (execs ss) fun fl m' l'=>match fl with | .next=>HS c K m' l' Q | fl=>Q fl m' l'
noncomputable def isStar:PySem.Expr→Bool
 | .Starred ..=>true
 | _=>false
inductive Evs (σ:St):List PySem.Expr→List Vl→Prop where
 | nil:Evs σ [] []
 | cons {e:PySem.Expr} {es:List PySem.Expr} {V:Vl} {Vs:List Vl} (hs:isStar e=false) (h:Ev σ e V) (t:Evs σ es Vs):Evs σ (e::es) (V::Vs)
@[reducible] noncomputable def AllV:List Vl→(List Value→Prop)→Prop
 | [],k=>k []
 | .v x::r,k=>AllV r fun vs=>k (x::vs)
 | .i n::r,k=>∀ t,AllV r fun vs=>k (.int n t::vs)
 | .b p::r,k=>∀ b:Bool,(b=true↔p)→AllV r fun vs=>k (.bool b::vs)
inductive IsAll:List Vl→List Value→Prop where
 | nil:IsAll [] []
 | cons {V:Vl} {v:Value} {Vs:List Vl} {vs:List Value}:V.is v→IsAll Vs vs→IsAll (V::Vs) (v::vs)
theorem AllV.get {Vs:List Vl} {k:List Value→Prop} {vs:List Value} (h:AllV Vs k) (a:IsAll Vs vs):k vs:=by
 induction a generalizing k with
 | nil=>exact h
 | @cons V v Vs vs hV _ ih =>
  cases V with
  | v x=>cases hV; exact ih h
  | i n=>obtain ⟨t,rfl⟩:=hV; exact ih (h t)
  | b p=>obtain ⟨b,rfl,hb⟩:=hV; exact ih (h b hb)
section
variable {α:Type} {σ:St} {Ar:Around} {g:Heap} {L:Addr} {s:Shared} {E:Value→Shared→Prop}
theorem WX.use {code:Env→Sem α} {P:α→NM→Led→Prop} {Q:α→Shared→Prop} (h:WX σ code P) (T:Rt σ.c Ar g L) (R:RS σ g L s.heap)
  (k:∀ a h' tk' m' l',RS ⟨σ.c,m',l'⟩ g L h'→P a m' l'→Q a { s with heap:=h',toks:=tk' }):wpAny (Md σ.c) Ar (code (σ.c.sh.env L)) Q E s :=
 wpAny_mono (h Ar g L s T R) (fun a _ ⟨h',tk',m',l',e,R',p⟩=>e▸k a h' tk' m' l' R' p) fun z9 z9 x=>x.elim
theorem Ev.use {e:PySem.Expr} {V:Vl} {Q:Value→Shared→Prop} (h:Ev σ e V) (T:Rt σ.c Ar g L) (R:RS σ g L s.heap)
  (k:∀ v h' tk',V.is v→RS σ g L h'→Q v { s with heap:=h',toks:=tk' }):wpAny (Md σ.c) Ar (eval e (σ.c.sh.env L)) Q E s :=
 WX.use h T R fun a h' tk' _ _ R' ⟨em,el,p⟩=>k a h' tk' p (by subst em el; exact R')
theorem EvT.use {e:PySem.Expr} {p:Prop} {Q:Bool→Shared→Prop} (h:EvT σ e p) (T:Rt σ.c Ar g L) (R:RS σ g L s.heap)
  (k:∀ (b:Bool) h' tk',(b=true↔p)→RS σ g L h'→Q b { s with heap:=h',toks:=tk' }):wpAny (Md σ.c) Ar (isTrue e (σ.c.sh.env L) (eval e (σ.c.sh.env L))) Q E s :=
 WX.use h T R fun a h' tk' _ _ R' ⟨em,el,p⟩=>k a h' tk' p (by subst em el; exact R')
theorem HE.use {e:PySem.Expr} {P:Value→Led→Prop} {Q:Value→Shared→Prop} (h:HE σ e P) (T:Rt σ.c Ar g L) (R:RS σ g L s.heap)
  (k:∀ v h' tk' l',P v l'→RS ⟨σ.c,σ.m,l'⟩ g L h'→Q v { s with heap:=h',toks:=tk' }):wpAny (Md σ.c) Ar (eval e (σ.c.sh.env L)) Q E s :=
 WX.use h T R fun a h' tk' _ l' R' ⟨em,p⟩=>k a h' tk' l' p (by subst em; exact R')
noncomputable abbrev Out (σ:St) (g:Heap) (L:Addr) (s:Shared) (P:α→NM→Led→Prop) (a:α) (s':Shared):Prop:=∃ h' tk' m' led',s'={ s with heap:=h',toks:=tk' }∧RS ⟨σ.c,m',led'⟩ g L h'∧P a m' led'
theorem Ev.out {V:Vl} {v:Value} {h':Heap} {tk':Nat} (R:RS σ g L h') (p:V.is v):Out σ g L s (fun v m l=>m=σ.m∧l=σ.led∧V.is v) v { s with heap:=h',toks:=tk' } :=
 ⟨h',tk',σ.m,σ.led,rfl,R,rfl,rfl,p⟩
theorem EvT.out {p:Prop} {b:Bool} {h':Heap} {tk':Nat} (R:RS σ g L h') (e:b=true↔p):Out σ g L s (fun b m l=>m=σ.m∧l=σ.led∧(b=true↔p)) b { s with heap:=h',toks:=tk' } :=
 ⟨h',tk',σ.m,σ.led,rfl,R,rfl,rfl,e⟩
theorem HE.out {P:Value→Led→Prop} {v:Value} {h':Heap} {tk':Nat} {l':Led} (R:RS ⟨σ.c,σ.m,l'⟩ g L h') (p:P v l'):Out σ g L s (fun v m l=>m=σ.m∧P v l) v { s with heap:=h',toks:=tk' } :=
 ⟨h',tk',σ.m,l',rfl,R,rfl,p⟩
theorem slot_mem {l:List (Str×NameKind)}:∀ {i:Nat} {p:Str×NameKind},slot l i=some p→p∈l:=by
 induction l with
 | nil=>intro i p h; cases h
 | cons q r ih =>
  intro i p h
  cases i with
  | zero=>cases h; exact .head _
  | succ i=>exact .tail _ (ih h)
theorem slot_lookup {l:List (Str×NameKind)} {i:Nat} {x:Str} {k:NameKind} (h:slot l i=some (x,k)) (hn:(l.map (·.1)).Nodup):l.lookup x=some k:=by
 induction l generalizing i with
 | nil=>cases h
 | cons p r ih =>
  obtain ⟨y,ky⟩:=p
  rw [List.map_cons,List.nodup_cons] at hn
  cases i with
  | zero=>cases h; simp [List.lookup]
  | succ i =>
   have:(x == y)=false:=by
    rw [beq_eq_false_iff_ne]; rintro rfl; exact hn.1 (List.mem_map.mpr ⟨_,slot_mem (l:=r) h,rfl⟩)
   rw [List.lookup_cons,this]; exact ih h hn.2
theorem slot_inj {l:List (Str×NameKind)} {i j:Nat} {x:Str} {k k':NameKind} (h:slot l i=some (x,k)) (h':slot l j=some (x,k')) (hn:(l.map (·.1)).Nodup):i=j:=by
 induction l generalizing i j with
 | nil=>cases h
 | cons p r ih =>
  rw [List.map_cons,List.nodup_cons] at hn
  cases i with
  | zero=>cases j with
   | zero=>rfl
   | succ j=>cases h; exact absurd (List.mem_map.mpr ⟨_,slot_mem (l:=r) h',rfl⟩) hn.1
  | succ i=>cases j with
   | zero=>cases h'; exact absurd (List.mem_map.mpr ⟨_,slot_mem (l:=r) h,rfl⟩) hn.1
   | succ j=>rw [ih h h' hn.2]
theorem Rt.nd {c:Cn} (T:Rt c Ar g L):(c.sh.sc.names.map (·.1)).Nodup:=by
 have:=T.ok; unfold scOk at this; rw [Bool.and_eq_true] at this; exact of_decide_eq_true this.1
theorem Rt.dbg {c:Cn} (T:Rt c Ar g L) {i:Nat} {x:Str} {k:NameKind} (h:slot c.sh.sc.names i=some (x,k)):(x == Str.ofString "__debug__")=false:=by
 have:=T.ok; unfold scOk at this; rw [Bool.and_eq_true] at this
 simpa using List.all_eq_true.mp this.2 _ (slot_mem h)
theorem Rt.kind {c:Cn} (T:Rt c Ar g L):c.sh.sc.kind=.function:=T.C.k
theorem Ev.name {x:Str} {pos:Pos} {V:Vl} (i:Nat) (hx:slot σ.c.sh.sc.names i=some (x,.local)) (hv:σ.m.get i=some V):Ev σ (.Name x pos) V:=by
 intro Ar g L s T R
 obtain ⟨nm,F,H⟩:=R.F
 obtain ⟨y,v,hy,hm,hV⟩:=H i V hv
 rw [hx] at hy; cases hy
 exact nm_L F (slot_lookup hx T.nd) hm (T.dbg hx) T.kind (Ev.out (s:=s) R hV)
theorem Ev.glob {x:Str} {pos:Pos} {v:Value} (i:Nat) (hx:slot σ.c.sh.sc.names i=some (x,.globalImplicit)) (e:nsIn (hd.heap_1_39 σ.c.w.params) mainGlobals x=some (some v)):Ev σ (.Name x pos) (.v v):=by
 intro Ar g L s T R
 obtain ⟨nm,F,H⟩:=R.F
 obtain ⟨pv,lo,Tp⟩:=T.C.T
 exact nm_K F T.C.X Tp (slot_lookup hx T.nd) e (T.dbg hx) T.kind (Ev.out (s:=s) R rfl)
theorem Ev.blt {x:Str} {pos:Pos} {v:Value} (i:Nat) (hx:slot σ.c.sh.sc.names i=some (x,.globalImplicit)) (e:nsIn (hd.heap_1_39 σ.c.w.params) mainGlobals x=some none) (hv:bootBuiltins x=some v) (hn:(x == Str.ofString "__name__")=false):Ev σ (.Name x pos) (.v v):=by
 intro Ar g L s T R
 obtain ⟨nm,F,H⟩:=R.F
 obtain ⟨pv,lo,Tp⟩:=T.C.T
 exact nm_B F T.C.X Tp (slot_lookup hx T.nd) e hv hn (T.dbg hx) T.kind (Ev.out (s:=s) R rfl)
theorem Ev.int {n:Int} {k:Nat} {pos:Pos}:Ev σ (.Constant (.int n) k pos) (.i n):=fun z9 z9 z9 s z9 R=>wpAny_Constant_int (Ev.out (s:=s) R ⟨_,rfl⟩)
theorem Ev.none {k:Nat} {pos:Pos}:Ev σ (.Constant .none k pos) (.v .none):=fun z9 z9 z9 s z9 R=>wpAny_Constant_none (Ev.out (s:=s) R rfl)
theorem Ev.bool {c:Bool} {k:Nat} {pos:Pos}:Ev σ (.Constant (.bool c) k pos) (.v (.bool c)):=fun z9 z9 z9 s z9 R=>Constant_bool (Ev.out (s:=s) R rfl)
theorem Ev.toI {e:PySem.Expr} {n:Int} {t:Tok} (h:Ev σ e (.v (.int n t))):Ev σ e (.i n):=fun z9 z9 z9 s T R=>h.use T R fun z9 z9 z9 hv R'=>Ev.out (s:=s) R' ⟨t,hv⟩
theorem Ev.toHE {e:PySem.Expr} {V:Vl} {Q:Value→Led→Prop} (h:Ev σ e V) (k:∀ v,V.is v→Q v σ.led):HE σ e Q:=fun z9 z9 z9 s T R=>h.use T R fun v z9 z9 hv R'=>HE.out (s:=s) R' (k v hv)
end
noncomputable def IOp (op:Operator) (a b r:Int):Prop:=∀ {w:World} {Ar:Around} {E:Value→Shared→Prop} {s:Shared} {t u:Tok} {Q:Value→Shared→Prop},(∀ t' k,Q (.int r t') { s with toks:=k })→wpAny (model MProg w) Ar (binaryOp op (.int a t) (.int b u)) Q E s
noncomputable def IIOp (op:Operator) (a b r:Int):Prop:=∀ {w:World} {Ar:Around} {E:Value→Shared→Prop} {s:Shared} {t u:Tok} {Q:Value→Shared→Prop},(∀ t' k,Q (.int r t') { s with toks:=k })→wpAny (model MProg w) Ar (inplaceOp op (.int a t) (.int b u)) Q E s
noncomputable def ICmp (op:CmpOp) (a b:Int) (p:Prop):Prop:=∀ {w:World} {Ar:Around} {E:Value→Shared→Prop} {s:Shared} {t u:Tok} {Q:Value→Shared→Prop},(∀ c:Bool,(c=true↔p)→Q (.bool c) s)→wpAny (model MProg w) Ar (compareOp op (.int a t) (.int b u)) Q E s
theorem IOp.add {a b:Int}:IOp .Add a b (a+b):=fun k=>add_int (k _ _)
theorem IOp.sub {a b:Int}:IOp .Sub a b (a - b):=fun k=>sub_int (k _ _)
theorem IOp.and {a b:Int}:IOp .BitAnd a b (Builtin.bitAnd a b):=fun k=>and_int (k _ _)
theorem IOp.or {a b:Int}:IOp .BitOr a b (Builtin.bitOr a b):=fun k=>or_int (k _ _)
theorem IOp.xor {a b:Int}:IOp .BitXor a b (Builtin.bitXor a b):=fun k=>xor_int (k _ _)
theorem IOp.rsh {a n:Int} (h:0≤n):IOp .RShift a n (a.fdiv (2 ^ n.toNat)):=fun k=>rshift_int h (k _ _)
theorem IOp.mod {a b:Int} (h:b≠0):IOp .Mod a b (a.fmod b):=fun k=>mod_int' h (k _ _)
theorem IOp.lsh {a n:Int} (hn:0≤n) (hn2:n≤1000000) (ha:a.natAbs < 2 ^ 64):IOp .LShift a n (a * 2 ^ n.toNat):=fun k=>lshift_int_small hn hn2 ha (k _ _)
theorem IOp.fdiv {a b:Int} (h:b≠0) (h2:b.natAbs < 1073741824):IOp .FloorDiv a b (a.fdiv b):=fun k=>floordiv_int h (k _ _) (Or.inl (PyProof.noPylong_small h2))
theorem IOp.mulL {a b:Int} (h:Builtin.Int.intBits a≤64):IOp .Mult a b (a * b):=fun k=>mul_int (k _ _) (IntMulOk.of_left h)
theorem IIOp.mul {a b:Int} (h:Builtin.Int.intBits b≤64):IIOp .Mult a b (a * b):=fun k=>imul_int (k _ _) (IntMulOk.of_right h)
theorem IIOp.add {a b:Int}:IIOp .Add a b (a+b):=fun k=>iadd_int (k _ _)
theorem IIOp.sub {a b:Int}:IIOp .Sub a b (a - b):=fun k=>isub_int (k _ _)
theorem ICmp.lt {a b:Int}:ICmp .Lt a b (a < b):=fun k=>lt_int (k _ (by simp))
theorem ICmp.le {a b:Int}:ICmp .LtE a b (a≤b):=fun k=>le_int (k _ (by simp))
theorem ICmp.gt {a b:Int}:ICmp .Gt a b (b < a):=fun k=>gt_int (k _ (by simp))
theorem ICmp.ge {a b:Int}:ICmp .GtE a b (b≤a):=fun k=>ge_int (k _ (by simp))
theorem ICmp.eq {a b:Int}:ICmp .Eq a b (a=b):=fun k=>eq_int (k _ (by simp))
theorem ICmp.ne {a b:Int}:ICmp .NotEq a b (a≠b):=fun k=>ne_int (k _ (by simp))
noncomputable def plainTest:PySem.Expr→Bool
 | .UnaryOp .Not ..=>false
 | .BoolOp ..=>false
 | .IfExp ..=>false
 | .Compare ..=>false
 | .NamedExpr ..=>false
 | .Starred ..=>false
 | .Name ..=>true
 | .Call ..=>true
 | .Attribute ..=>true
 | .Subscript ..=>true
 | _=>false
noncomputable def noComp:PySem.Expr→Bool
 | .ListComp ..=>false
 | .SetComp ..=>false
 | .DictComp ..=>false
 | _=>true
noncomputable def noSlice:PySem.Expr→Bool
 | .Slice ..=>false
 | _=>true
noncomputable def noCall:PySem.Expr→Bool
 | .Call ..=>false
 | _=>true
noncomputable def noAtt:PySem.Expr→Bool
 | .Attribute ..=>false
 | _=>true
theorem callee_of {f:PySem.Expr} {args:List PySem.Expr} {pos:Pos} {env:Env} (h:noAtt f=true):eval (.Call f args [] pos) env=(do callWith pos (← eval f env) [] (backTo pos (starEach args env)) (backToKw pos (keywordEach [] env))):=by
 cases f <;> first | rfl | cases h
theorem star_of {e:PySem.Expr} {rest:List PySem.Expr} {env:Env} (h:isStar e=false):starEach (e::rest) env=(false,eval e env)::starEach rest env:=by
 cases e <;> first | rfl | cases h
theorem swaps_of {e:PySem.Expr} {t:Option PySem.Expr} {n:Nat} {env:Env} (h:noComp e=true):swapsWith e t n env=pure false:=by
 cases e <;> first | rfl | cases h
theorem subs_of {e:PySem.Expr} {o i:Value} (h:noSlice e=true):subscripted e false o i=operate [o,i] (getItem o i):=by
 cases e <;> first | rfl | cases h
theorem test_of {e:PySem.Expr} {env:Env} {whole:Sem Value} (h:plainTest e=true):isTrue e env whole=(do let v ← whole; standAt e.pos; holding [v] (truthy v)):=by
 cases e <;> first | rfl | cases h | (rename_i o _ _; cases o <;> first | rfl | cases h)
theorem att_of {e:PySem.Expr} {attr:Str} {pos:Pos} {env:Env} (h:noCall e=true):eval (.Attribute e attr pos) env=(do
  let o ← eval e env
  standAt pos.atName
  let r ← holding [o] (getAttr o attr true)
  letTemporaryGo e o r
  pure r):=by
 cases e <;> first | rfl | cases h
section
variable {α:Type} {σ:St} {Ar:Around} {g:Heap} {L:Addr} {s:Shared} {E:Value→Shared→Prop}
theorem Evs.plain {es:List PySem.Expr} {Vs:List Vl} {pos:Pos} {env:Env} (h:Evs σ es Vs):((backTo pos (starEach es env)).any (·.1))=false:=by
 induction h with
 | nil=>rfl
 | cons hs _ _ ih=>rw [star_of hs]; exact ih
theorem Evs.use {es:List PySem.Expr} {Vs:List Vl} (h:Evs σ es Vs) {s:Shared} {pos:Pos} {Q:List Value→Shared→Prop} (T:Rt σ.c Ar g L) (R:RS σ g L s.heap)
  (k:∀ vs h' tk',IsAll Vs vs→RS σ g L h'→Q vs { s with heap:=h',toks:=tk' }):wpAny (Md σ.c) Ar (spliced (backTo pos (starEach es (σ.c.sh.env L)))) Q E s:=by
 induction h generalizing s Q with
 | nil=>exact args_nil (k [] s.heap s.toks .nil R)
 | cons hs h _ ih =>
  exact args_cons (h.use T R fun v h' tk' hv R'=>ih R' fun vs h'' tk'' hvs R''=>k _ _ _ (.cons hv hvs) R'') (star_of hs)
theorem Ev.bin {l r:PySem.Expr} {op:Operator} {pos:Pos} {a b n:Int} (h1:Ev σ l (.i a)) (h2:Ev σ r (.i b)) (o:IOp op a b n):Ev σ (.BinOp l op r pos) (.i n) :=
 fun z9 z9 z9 s T R=>wpAny_BinOp (h1.use T R fun _ _ _ ⟨_,ea⟩ R1=>h2.use T R1 fun _ _ _ ⟨_,eb⟩ R2=>ea▸eb▸o fun t' k=>Ev.out (s:=s) (tk':=k) R2 ⟨t',rfl⟩)
theorem Ev.neg {e:PySem.Expr} {pos:Pos} {a:Int} (h:Ev σ e (.i a)):Ev σ (.UnaryOp .USub e pos) (.i (-a)) :=
 fun z9 z9 z9 s T R=>UnaryOp_ (h.use T R fun _ _ _ ⟨_,ea⟩ R1=>ea▸neg_int (Ev.out (s:=s) R1 ⟨_,rfl⟩))
theorem Ev.cmp {l r:PySem.Expr} {op:CmpOp} {pos:Pos} {a b:Int} {p:Prop} (h1:Ev σ l (.i a)) (h2:Ev σ r (.i b)) (o:ICmp op a b p) (hm:behindInMarks op r=false):Ev σ (.Compare l [op] [r] pos) (.b p) :=
 fun z9 z9 z9 s T R=>wpAny_Compare1 (h1.use T R fun _ _ _ ⟨_,ea⟩ R1=>h2.use T R1 fun _ _ _ ⟨_,eb⟩ R2=>ea▸eb▸o fun c hc=>Ev.out (s:=s) R2 ⟨c,rfl,hc⟩) hm
theorem EvT.cmp {l r:PySem.Expr} {op:CmpOp} {pos:Pos} {a b:Int} {p:Prop} (h1:Ev σ l (.i a)) (h2:Ev σ r (.i b)) (o:ICmp op a b p) (hm:behindInMarks op r=false):EvT σ (.Compare l [op] [r] pos) p :=
 fun z9 z9 z9 s T R=>wpAny_isTrue_Compare1 (h1.use T R fun _ _ _ ⟨_,ea⟩ R1=>h2.use T R1 fun _ _ _ ⟨_,eb⟩ R2=>ea▸eb▸o fun z9 hc=>wpAny_truthy_bool (EvT.out (s:=s) R2 hc)) hm
theorem EvT.chain {l r r':PySem.Expr} {op op':CmpOp} {pos:Pos} {a b c:Int} {p q:Prop} (h1:Ev σ l (.i a)) (h2:Ev σ r (.i b)) (h3:Ev σ r' (.i c)) (o:ICmp op a b p) (o':ICmp op' b c q) (hm:lastMarks [op,op'] [r,r']=false):EvT σ (.Compare l [op,op'] [r,r'] pos) (p∧q) :=
 fun z9 z9 z9 s T R=>isTrue_chain (h1.use T R fun _ _ _ ⟨_,ea⟩ R1=>test_link (h2.use T R1 fun _ _ _ ⟨_,eb⟩ R2=>ea▸eb▸o fun x hx=>wpAny_truthy_bool (by
  cases x with
  | false=>exact EvT.out (s:=s) R2 ⟨nofun,fun h=>absurd (hx.mpr h.1) nofun⟩
  | true=>exact test_last (h3.use T R2 fun _ _ _ ⟨_,ec⟩ R3=>ec▸o' fun y hy=>wpAny_truthy_bool (EvT.out (s:=s) R3 ⟨fun h=>⟨hx.mp rfl,hy.mp h⟩,fun h=>hy.mpr h.2⟩)))) ) hm
theorem EvT.not {e:PySem.Expr} {pos:Pos} {p:Prop} (h:EvT σ e p):EvT σ (.UnaryOp .Not e pos) (¬ p) :=
 fun z9 z9 z9 s T R=>isTrue_not (h.use T R fun b z9 z9 hb R1=>EvT.out (s:=s) R1 (by cases b <;> simp at hb ⊢ <;> exact hb))
theorem EvT.and {x y:PySem.Expr} {pos:Pos} {p q:Prop} (h1:EvT σ x p) (h2:p→EvT σ y q):EvT σ (.BoolOp .And [x,y] pos) (p∧q) :=
 fun z9 z9 z9 s T R=>isTrue_and (h1.use T R fun b z9 z9 hb R1=>by
  cases b with
  | false=>exact EvT.out (s:=s) R1 ⟨nofun,fun h=>absurd (hb.mpr h.1) nofun⟩
  | true=>exact isTrue_and ((h2 (hb.mp rfl)).use T R1 fun c z9 z9 hc R2=>by
    cases c with
    | false=>exact EvT.out (s:=s) R2 ⟨nofun,fun h=>absurd (hc.mpr h.2) nofun⟩
    | true=>exact isTrue_and_nil (EvT.out (s:=s) R2 ⟨fun z9=>⟨hb.mp rfl,hc.mp rfl⟩,fun z9=>rfl⟩)))
theorem EvT.or {x y:PySem.Expr} {pos:Pos} {p q:Prop} (h1:EvT σ x p) (h2:¬ p→EvT σ y q):EvT σ (.BoolOp .Or [x,y] pos) (p∨q) :=
 fun z9 z9 z9 s T R=>isTrue_or (h1.use T R fun b z9 z9 hb R1=>by
  cases b with
  | true=>exact EvT.out (s:=s) R1 ⟨fun z9=>.inl (hb.mp rfl),fun z9=>rfl⟩
  | false=>exact isTrue_or ((h2 fun h=>absurd (hb.mpr h) nofun).use T R1 fun c z9 z9 hc R2=>by
    cases c with
    | true=>exact EvT.out (s:=s) R2 ⟨fun z9=>.inr (hc.mp rfl),fun z9=>rfl⟩
    | false=>exact isTrue_or_nil (EvT.out (s:=s) R2 ⟨nofun,fun h=>h.elim (fun h=>absurd (hb.mpr h) nofun) (fun h=>absurd (hc.mpr h) nofun)⟩)))
theorem EvT.ofB {e:PySem.Expr} {p:Prop} (h:Ev σ e (.b p)) (hp:plainTest e=true):EvT σ e p :=
 fun z9 z9 z9 s T R=>isTrue_plain (h.use T R fun _ _ _ ⟨_,ev,hb⟩ R1=>ev▸wpAny_truthy_bool (EvT.out (s:=s) R1 hb)) (test_of hp)
theorem EvT.ofV {e:PySem.Expr} {b:Bool} (h:Ev σ e (.v (.bool b))) (hp:plainTest e=true):EvT σ e (b=true) :=
 fun z9 z9 z9 s T R=>isTrue_plain (h.use T R fun z9 z9 z9 ev R1=>(show _=_ from ev)▸wpAny_truthy_bool (EvT.out (s:=s) R1 Iff.rfl)) (test_of hp)
theorem EvT.congr {e:PySem.Expr} {p q:Prop} (h:EvT σ e p) (i:p↔q):EvT σ e q:=by rw [← propext i]; exact h
theorem Ev.isNone {e:PySem.Expr} {k:Nat} {ps pos:Pos} {v:Value} (h:Ev σ e (.v v)):EvT σ (.Compare e [.Is] [.Constant .none k ps] pos) (v=.none) :=
 fun z9 z9 z9 s T R=>wpAny_isTrue_Compare1 (h.use T R fun z9 z9 z9 ev R1=>wpAny_Constant_none ((show _=_ from ev)▸is_none_gen (wpAny_truthy_bool (EvT.out (s:=s) R1 (by simp))))) rfl
theorem Ev.isNot {e:PySem.Expr} {k:Nat} {ps pos:Pos} {v:Value} (h:Ev σ e (.v v)):EvT σ (.Compare e [.IsNot] [.Constant .none k ps] pos) (v≠.none) :=
 fun z9 z9 z9 s T R=>wpAny_isTrue_Compare1 (h.use T R fun z9 z9 z9 ev R1=>wpAny_Constant_none ((show _=_ from ev)▸isnot_none_gen (wpAny_truthy_bool (EvT.out (s:=s) R1 (by simp))))) rfl
theorem Ev.ite {t a b:PySem.Expr} {pos:Pos} {p:Prop} {V:Vl} (ht:EvT σ t p) (ha:p→Ev σ a V) (hb:¬ p→Ev σ b V):Ev σ (.IfExp t a b pos) V :=
 fun z9 z9 z9 s T R=>IfExp_ (ht.use T R fun c z9 z9 hc R1=>by
  cases c with
  | true=>exact (ha (hc.mp rfl)).use T R1 fun z9 z9 z9 hv R2=>Ev.out (s:=s) R2 hv
  | false=>exact (hb fun h=>absurd (hc.mpr h) nofun).use T R1 fun z9 z9 z9 hv R2=>Ev.out (s:=s) R2 hv)
noncomputable def CT (σ:St) (f:Value) (vs:List Value) (V:Vl):Prop:=WX σ (fun z9=>call f vs) fun v m l=>m=σ.m∧l=σ.led∧V.is v
theorem CT.use {f:Value} {vs:List Value} {V:Vl} {Q:Value→Shared→Prop} (h:CT σ f vs V) (T:Rt σ.c Ar g L) (R:RS σ g L s.heap)
  (k:∀ v h' tk',V.is v→RS σ g L h'→Q v { s with heap:=h',toks:=tk' }):wpAny (Md σ.c) Ar (call f vs) Q E s :=
 WX.use h T R fun a h' tk' _ _ R' ⟨em,el,p⟩=>k a h' tk' p (by subst em el; exact R')
theorem Ev.callB {f e:PySem.Expr} {rest:List PySem.Expr} {pos:Pos} {id:String} {Vs:List Vl} {V:Vl} (hn:noAtt f=true) (hf:Ev σ f (.v (.builtin id))) (ha:Evs σ (e::rest) Vs) (S:AllV Vs fun vs=>CT σ (.builtin id) vs V):Ev σ (.Call f (e::rest) [] pos) V:=by
 intro Ar g L s T R
 have hs:isStar e=false:=by cases ha; assumption
 have ht:∃ Vs',Evs σ rest Vs':=by cases ha; exact ⟨_,by assumption⟩
 refine Call_ (hf.use T R fun z9 z9 z9 ev R1=>?_) (callee_of hn)
 cases ev
 exact callWith_builtin1 (ha.use T R1 fun vs z9 z9 hvs R2=>(S.get hvs).use T R2 fun z9 z9 z9 hv R3=>Ev.out (s:=s) R3 hv) (star_of hs) ht.choose_spec.plain
end
structure MethOk (P:Params) (C:Addr) (name:Str) (f:Addr):Prop where
 pg:plainGet (hd.heap_1_39 P) C name=true
 fi:findIn (hd.heap_1_39 P) (.ref C) name=some (some (.ref f))
 fn:isFn (hd.heap_1_39 P) (.ref f)=true
 kp:keepIn (hd.heap_1_39 P) (.ref f)=true
structure AttOk (P:Params) (C:Addr) (name:Str) (attr:Option Value):Prop where
 pg:plainGet (hd.heap_1_39 P) C name=true
 di:hasDictIn (hd.heap_1_39 P) C=true
 fi:findIn (hd.heap_1_39 P) (.ref C) name=some attr
 ng:noGet (hd.heap_1_39 P) attr=true
noncomputable def InsAt (led:Led) (x C:Addr) (es:List DictEntry):Prop:=∃ dx n,(x,instObj C dx)∈led∧(dx,dictOf es n)∈led
theorem InsAt.tab {P:Params} {A:TA} {C:TC} {R:Led}:InsAt (TL P A C R) A.t 526 (tabEnts P A C):=⟨_,_,mem_t,mem_dt⟩
theorem InsAt.nodeX {P:Params} {A:TA} {C:TC} {R:Led} {i:Nat} {n:NodeR} {x:Addr} (hx:C.na.nx i=x) (h:C.nodes[i]?=some n):InsAt (TL P A C R) x 295 (nodeEnts P C.na i n):=hx▸⟨_,_,mem_nx h,mem_ndx h⟩
theorem InsAt.node {P:Params} {A:TA} {C:TC} {R:Led} {i:Nat} {n:NodeR} (h:C.nodes[i]?=some n):InsAt (TL P A C R) (C.na.nx i) 295 (nodeEnts P C.na i n):=⟨_,_,mem_nx h,mem_ndx h⟩
section
variable {σ:St} {Ar:Around} {g:Heap} {L:Addr} {s:Shared} {E:Value→Shared→Prop}
theorem RS.In {h:Heap} (R:RS σ g L h) (T:Rt σ.c Ar g L):(hd.heap_1_39 σ.c.w.params).In h:=by
 obtain ⟨nm,F,_⟩:=R.F
 exact T.C.X.keeps F.keep
theorem spec_use {f:Value} {vs:List Value} {d:Nat} {P:Value→Led→Prop} {Q:Value→Shared→Prop} (hd:d≤σ.c.dep) (S:Spec σ.c.w σ.c.mean σ.c.mg σ.c.mb f vs d σ.led P) (T:Rt σ.c Ar g L) (R:RS σ g L s.heap)
  (k:∀ v h' tk' l',P v l'→RS ⟨σ.c,σ.m,l'⟩ g L h'→Q v { s with heap:=h',toks:=tk' }):wpAny (Md σ.c) Ar (call f vs) Q E s:=by
 obtain ⟨nm,F,H⟩:=R.F
 exact Spec.use S T.C F R.N R.D hd fun r led' h' tk' F' N' D' p=>k r h' tk' led' p ⟨⟨nm,F',H⟩,N',D'⟩
theorem HE.callKs {f e:PySem.Expr} {rest:List PySem.Expr} {pos:Pos} {fa:Addr} {Vs:List Vl} {d:Nat} {P:Value→Led→Prop} (hn:noAtt f=true) (hf:Ev σ f (.v (.ref fa))) (ha:Evs σ (e::rest) Vs) (hk:keepIn (hd.heap_1_39 σ.c.w.params) (.ref fa)=true)
  (hd:d≤σ.c.dep) (S:AllV Vs fun vs=>Spec σ.c.w σ.c.mean σ.c.mg σ.c.mb (.ref fa) vs d σ.led P):HE σ (.Call f (e::rest) [] pos) P:=by
 intro Ar g L s T R
 have hs:isStar e=false:=by cases ha; assumption
 have ht:∃ Vs',Evs σ rest Vs':=by cases ha; exact ⟨_,by assumption⟩
 refine Call_ (hf.use T R fun z9 z9 z9 ev R1=>?_) (callee_of hn)
 cases ev
 exact callWith_K (RS.In R1 T) hk (ha.use T R1 fun vs z9 z9 hvs R2=>⟨RS.In R2 T,spec_use hd (S.get hvs) T R2 fun z9 z9 z9 z9 p R3=>HE.out (s:=s) R3 p⟩) (star_of hs) ht.choose_spec.plain
theorem Ev.of {e:PySem.Expr} {V:Vl} (h:HE σ e fun v l=>V.is v∧l=σ.led):Ev σ e V :=
 fun z9 z9 z9 s T R=>h.use T R fun v _ _ l' ⟨hv,hl⟩ R'=>Ev.out (s:=s) (by subst hl; exact R') hv
theorem HE.mono {e:PySem.Expr} {P Q:Value→Led→Prop} (h:HE σ e P) (k:∀ v l,P v l→Q v l):HE σ e Q :=
 fun z9 z9 z9 s T R=>h.use T R fun v z9 z9 z9 p R'=>HE.out (s:=s) R' (k _ _ p)
noncomputable def fewOk (args:List PySem.Expr) (ap pos:Pos):Bool:=decide (args.length < 30) && ap.endLine == pos.line
theorem HE.of {c:Cn} {m:NM} {l:Led} {e:PySem.Expr} {P:Value→Led→Prop} (H:∀ (Ar:Around) (g:Heap) (L:Addr) (h:Heap) (gs:Array GenState) (d:Drawn) (tk:Nat) (o:OsState) (Q:Value→Shared→Prop),Rt c Ar g L→RS ⟨c,m,l⟩ g L h→(∀ v h' tk' l',RS ⟨c,m,l'⟩ g L h'→P v l'→Q v ⟨h',gs,d,tk',o⟩)→wpAny (Md c) Ar (eval e (c.sh.env L)) Q (fun _ _=>False) ⟨h,gs,d,tk,o⟩):HE ⟨c,m,l⟩ e P :=
 fun Ar g L s T R=>H Ar g L s.heap s.gens s.drawn s.toks s.os _ T R fun _ h' tk' l' R' p=>⟨h',tk',m,l',rfl,R',rfl,p⟩
theorem few_of {args:List PySem.Expr} {pos:Pos} {env:Env} (hp:(backTo pos (starEach args env)).any (·.1)=false) (h1:args.length < 30):methodCallForm (args.length+([]:List Keyword).length) (backTo pos (starEach args env)) (backToKw pos (keywordEach [] env))=true:=by
 have:((backTo pos (starEach args env)).all (!·.1))=true:=by rw [List.all_eq_not_any_not]; simp only [Bool.not_not]; rw [hp]; rfl
 show (_ && true && decide (args.length < 30))=true
 rw [this]
 exact decide_eq_true h1
theorem meth_of {x:Str} {xp ap pos:Pos} {name:Str} {args:List PySem.Expr} {env:Env} (hp:((backTo pos (starEach args env)).any (·.1))=false) (hf:fewOk args ap pos=true) :
  eval (.Call (.Attribute (.Name x xp) name ap) args [] pos) env=(do
   let ov ← eval (.Name x xp) env
   standAt ap.atName
   let (f,first) ← holding [ov] (getMethod ov name (do return (← importBound (.Name x xp) env).getD true))
   callWith pos f first (backTo pos (starEach args env)) []):=by
 unfold fewOk at hf
 rw [Bool.and_eq_true] at hf
 have h1:=of_decide_eq_true hf.1
 have few:=few_of hp h1
 show (do
  let ov ← eval (.Name x xp) env
  standAt ap.atName
  methodCall (.Name x xp) name ap pos env ov (args.length+([]:List Keyword).length) (backTo pos (starEach args env)) (backToKw pos (keywordEach [] env)))=_
 unfold methodCall
 rw [few]
 unfold calleeOf methodCallPos
 rw [hf.2]
 rfl
theorem HE.meths {x:Str} {xp ap pos:Pos} {name:Str} {r C f:Addr} {es:List DictEntry} {args:List PySem.Expr} {Vs:List Vl} {d:Nat} {P:Value→Led→Prop} (ho:Ev σ (.Name x xp) (.v (.ref r))) (hi:InsAt σ.led r C es) (hm:MethOk σ.c.w.params C name f) (hg:getL name es=some none)
  (hfew:fewOk args ap pos=true) (ha:Evs σ args Vs) (hd:d≤σ.c.dep) (S:AllV Vs fun vs=>Spec σ.c.w σ.c.mean σ.c.mg σ.c.mb (.ref f) (.ref r::vs) d σ.led P):HE σ (.Call (.Attribute (.Name x xp) name ap) args [] pos) P:=by
 intro Ar g L s T R
 refine MethodCall_ (ho.use T R fun z9 z9 z9 ev R1=>?_) (meth_of ha.plain hfew)
 cases ev
 obtain ⟨nm,F,H⟩:=R1.F
 obtain ⟨dx,n,h1,h2⟩:=hi
 refine method_inst F T.C.X (InstAt.of_news R1.N h1 h2) hm.pg hm.fi hm.fn hg ?_
 cases ha with
 | nil=>exact callWith_K0 (RS.In R1 T) hm.kp (spec_use hd S T R1 fun z9 z9 z9 z9 p R3=>HE.out (s:=s) R3 p)
 | @cons e es V Vs hs h t=>exact callWith_K (RS.In R1 T) hm.kp ((Evs.cons hs h t).use T R1 fun vs z9 z9 hvs R2=>⟨RS.In R2 T,spec_use hd (S.get hvs) T R2 fun z9 z9 z9 z9 p R3=>HE.out (s:=s) R3 p⟩) (star_of hs) t.plain
theorem Ev.attr {o:PySem.Expr} {pos:Pos} {name:Str} {r C:Addr} {es:List DictEntry} {at':Option Value} {v:Value} (hc:noCall o=true) (ho:Ev σ o (.v (.ref r))) (hi:InsAt σ.led r C es) (hm:AttOk σ.c.w.params C name at') (hg:getL name es=some (some v)) (hh:handedIn v=true):Ev σ (.Attribute o name pos) (.v v):=by
 intro Ar g L s T R
 refine Attribute_any_ (ho.use T R fun z9 z9 z9 ev R1=>?_) (att_of hc)
 cases ev
 obtain ⟨nm,F,H⟩:=R1.F
 obtain ⟨dx,n,h1,h2⟩:=hi
 exact get_own F T.C.X (InstAt.of_news R1.N h1 h2) hm.pg hm.di hm.fi hm.ng hg hh (Ev.out (s:=s) R1 rfl)
theorem Ev.item {o i:PySem.Expr} {pos:Pos} {l:Addr} {vs:List Value} {n:Nat} {k:Int} {x:Value} (ho:Ev σ o (.v (.ref l))) (hi:Ev σ i (.i k)) (hs:noSlice i=true) (hm:(l,listOf vs.toArray n)∈σ.led) (h0:0≤k) (hf:k < 2 ^ 63) (hx:vs[k.toNat]?=some x):Ev σ (.Subscript o i pos) (.v x):=by
 intro Ar g L s T R
 refine Subscript_ (ho.use T R fun z9 z9 z9 ev R1=>hi.use T R1 fun z9 z9 z9 ei R2=>?_)
 cases ev
 obtain ⟨t,rfl⟩:=ei
 exact get_list R2.N hm h0 hf hx (Ev.out (s:=s) R2 rfl) (subs_of hs)
theorem CT.len {l:Addr} {vs:List Value} {n:Nat} (hm:(l,listOf vs.toArray n)∈σ.led) (hf:vs.length < 2 ^ 62):CT σ (.builtin "len") [.ref l] (.i vs.length) :=
 fun z9 z9 z9 s z9 R=>len_led R.N hm hf (Ev.out (s:=s) R ⟨_,rfl⟩)
end
section
variable {w:World} {mean:ExcName→Option Value} {mg mb:Names} {sh:Sh} {dep:Nat} {m:NM} {l:Led}
theorem HE.callK {f e:PySem.Expr} {rest:List PySem.Expr} {pos:Pos} {fa:Addr} {Vs:List Vl} {d:Nat} {P:Value→Led→Prop} (hn:noAtt f=true) (hf:Ev ⟨⟨w,mean,mg,mb,sh,dep⟩,m,l⟩ f (.v (.ref fa))) (ha:Evs ⟨⟨w,mean,mg,mb,sh,dep⟩,m,l⟩ (e::rest) Vs) (hk:keepIn (hd.heap_1_39 w.params) (.ref fa)=true)
  (hd:d≤dep) (S:AllV Vs fun vs=>Spec w mean mg mb (.ref fa) vs d l P):HE ⟨⟨w,mean,mg,mb,sh,dep⟩,m,l⟩ (.Call f (e::rest) [] pos) P:=HE.callKs hn hf ha hk hd S
theorem HE.meth {x:Str} {xp ap pos:Pos} {name:Str} {r C f:Addr} {es:List DictEntry} {args:List PySem.Expr} {Vs:List Vl} {d:Nat} {P:Value→Led→Prop} (ho:Ev ⟨⟨w,mean,mg,mb,sh,dep⟩,m,l⟩ (.Name x xp) (.v (.ref r))) (hi:InsAt l r C es) (hm:MethOk w.params C name f) (hg:getL name es=some none)
  (hfew:fewOk args ap pos=true) (ha:Evs ⟨⟨w,mean,mg,mb,sh,dep⟩,m,l⟩ args Vs) (hd:d≤dep) (S:AllV Vs fun vs=>Spec w mean mg mb (.ref f) (.ref r::vs) d l P):HE ⟨⟨w,mean,mg,mb,sh,dep⟩,m,l⟩ (.Call (.Attribute (.Name x xp) name ap) args [] pos) P:=HE.meths ho hi hm hg hfew ha hd S
end
theorem NMok.set {sc:Scope} {m:NM} {nm:Names} {i:Nat} {x:Str} {V:Vl} {v:Value} (H:NMok sc m nm) (hx:slot sc.names i=some (x,.local)) (nd:(sc.names.map (·.1)).Nodup) (hV:V.is v):NMok sc (m.set i V) (upd nm x v):=by
 intro j W hj
 unfold NM.get at hj
 cases e:Nat.beq j i with
 | true =>
  rw [e] at hj
  cases hj
  have:=Nat.eq_of_beq_eq_true e
  subst this
  exact ⟨x,v,hx,upd_hit,hV⟩
 | false =>
  rw [e] at hj
  obtain ⟨y,u,hy,hu,hW⟩:=H j W hj
  refine ⟨y,u,hy,?_,hW⟩
  unfold upd
  rw [if_neg]
  ·exact hu
  ·rintro rfl
   have:=slot_inj hy hx nd
   subst this
   rw [Nat.beq_refl] at e; cases e
theorem IsAll.two {V1 V2:Vl} {vs:List Value} (h:IsAll [V1,V2] vs):∃ v1 v2,vs=[v1,v2]∧V1.is v1∧V2.is v2:=by
 cases h with
 | cons a b=>cases b with
  | cons c d=>cases d; exact ⟨_,_,rfl,a,c⟩
theorem IsAll.three {V1 V2 V3:Vl} {vs:List Value} (h:IsAll [V1,V2,V3] vs):∃ v1 v2 v3,vs=[v1,v2,v3]∧V1.is v1∧V2.is v2∧V3.is v3:=by
 cases h with
 | cons a b=>obtain ⟨v2,v3,rfl,h2,h3⟩:=b.two; exact ⟨_,v2,v3,rfl,a,h2,h3⟩
section
variable {c:Cn} {m:NM} {l:Led} {Ar:Around} {g:Heap} {L:Addr} {s:Shared} {E:Value→Shared→Prop} {ss:List Stmt} {K:List (List Stmt)} {Q:Flow→NM→Led→Prop}
theorem store_slot {x:Str} {v:Value} {V:Vl} {Q:Unit→Shared→Prop} {i:Nat} (hx:slot c.sh.sc.names i=some (x,.local)) (hV:V.is v) (T:Rt c Ar g L) (R:RS ⟨c,m,l⟩ g L s.heap)
  (k:∀ h' tk',RS ⟨c,m.set i V,l⟩ g L h'→Q () { s with heap:=h',toks:=tk' }):wpAny (Md c) Ar (storeName (c.sh.env L) x v) Q E s:=by
 obtain ⟨nm,F,H⟩:=R.F
 exact storeX_L F R.N (fun h' F' N'=>k h' _ ⟨⟨_,F',H.set hx T.nd hV⟩,N',R.D⟩) T.kind (slot_lookup hx T.nd)
noncomputable def HSt (c:Cn) (ss:List Stmt) (K:List (List Stmt)) (Q:Flow→NM→Led→Prop):Flow→NM→Led→Prop:=fun fl m' l'=>match fl with | .next=>HS c (ss::K) m' l' Q | fl=>Q fl m' l'
theorem HS.run {a:List Stmt} {Q':Flow→Shared→Prop} (h:HS c (a::K) m l Q) (T:Rt c Ar g L) (R:RS ⟨c,m,l⟩ g L s.heap)
  (k:∀ fl h' tk' m' l',RS ⟨c,m',l'⟩ g L h'→(match fl with | .next=>HS c K m' l' Q | fl=>Q fl m' l')→Q' fl { s with heap:=h',toks:=tk' }):wpAny (Md c) Ar (execs a (c.sh.env L)) Q' E s :=
 WX.use (σ:=⟨c,m,l⟩) (code:=execs a) (P:=fun fl m' l'=>match fl with | .next=>HS c K m' l' Q | fl=>Q fl m' l') h T R k
theorem HS.step {st:Stmt} (h:WX ⟨c,m,l⟩ (exec st) (HSt c ss K Q)):HS c ((st::ss)::K) m l Q:=by
 intro Ar g L s T R
 refine wpAny_execs_cons (wpAny_mono (h Ar g L s T R) ?_ fun z9 z9 x=>x)
 rintro fl s' ⟨h',tk',m',l',rfl,R',p⟩
 cases fl with
 | next=>exact HS.run (s:={ s with heap:=h',toks:=tk' }) (show HS c (ss::K) m' l' Q from p) T R' fun a h'' tk'' m'' l'' R'' q=>⟨h'',tk'',m'',l'',rfl,R'',q⟩
 | _=>exact ⟨h',tk',m',l',rfl,R',p⟩
theorem HS.nil (h:HS c K m l Q):HS c ([]::K) m l Q:=fun z9 z9 z9 s z9 R=>wpAny_execs_nil ⟨s.heap,s.toks,m,l,rfl,R,h⟩
theorem HS.assign {x:Str} {xp pos:Pos} {e:PySem.Expr} {V:Vl} (i:Nat) (hx:slot c.sh.sc.names i=some (x,.local)) (hc:noComp e=true) (h:Ev ⟨c,m,l⟩ e V) (k:HS c (ss::K) (m.set i V) l Q):HS c ((.Assign [.Name x xp] e pos::ss)::K) m l Q :=
 HS.step fun z9 z9 z9 s T R=>wpAny_Assign_Name (h.use T R fun z9 z9 z9 hv R1=>store_slot (m:=m) (l:=l) hx hv T R1 fun h'' tk'' R2=>⟨h'',tk'',_,_,rfl,R2,k⟩) (swaps_of hc)
theorem HS.assignH {x:Str} {xp pos:Pos} {e:PySem.Expr} {P:Value→Led→Prop} (i:Nat) (hx:slot c.sh.sc.names i=some (x,.local)) (hc:noComp e=true) (h:HE ⟨c,m,l⟩ e P) (k:∀ v l',P v l'→HS c (ss::K) (m.set i (.v v)) l' Q):HS c ((.Assign [.Name x xp] e pos::ss)::K) m l Q :=
 HS.step fun z9 z9 z9 s T R=>wpAny_Assign_Name (h.use T R fun v z9 z9 l' hv R1=>store_slot (m:=m) (l:=l') (V:=.v v) hx rfl T R1 fun h'' tk'' R2=>⟨h'',tk'',_,_,rfl,R2,k v l' hv⟩) (swaps_of hc)
theorem Sh.calm {h:Sh} {L:Addr} (hk:h.sc.kind=.function):interactive (h.env L)=false:=by
 show (h.sc.kind == .module && _)=false
 rw [hk]; rfl
theorem HS.expr {pos:Pos} {e:PySem.Expr} {P:Value→Led→Prop} (hc:noComp e=true) (h:HE ⟨c,m,l⟩ e P) (k:∀ v l',P v l'→HS c (ss::K) m l' Q):HS c ((.Expr e pos::ss)::K) m l Q :=
 HS.step fun z9 z9 z9 s T R=>wpAny_Expr_any (h.use T R fun v h' tk' l' hv R1=>⟨h',tk',_,_,rfl,R1,k v l' hv⟩) (Sh.calm T.kind) (swaps_of hc)
theorem HS.ret {pos:Pos} {e:PySem.Expr} {V:Vl} (h:Ev ⟨c,m,l⟩ e V) (k:∀ v,V.is v→Q (.ret v) m l):HS c ((.Return (some e) pos::ss)::K) m l Q :=
 HS.step fun z9 z9 z9 s T R=>wpAny_Return_some (h.use T R fun v h' tk' hv R1=>⟨h',tk',_,_,rfl,R1,k v hv⟩)
theorem HS.retH {pos:Pos} {e:PySem.Expr} {P:Value→Led→Prop} (h:HE ⟨c,m,l⟩ e P) (k:∀ v l',P v l'→Q (.ret v) m l'):HS c ((.Return (some e) pos::ss)::K) m l Q :=
 HS.step fun z9 z9 z9 s T R=>wpAny_Return_some (h.use T R fun v h' tk' l' hv R1=>⟨h',tk',_,_,rfl,R1,k v l' hv⟩)
theorem HS.ret0 {pos:Pos} (k:Q (.ret .none) m l):HS c ((.Return none pos::ss)::K) m l Q :=
 HS.step fun z9 z9 z9 s z9 R=>wpAny_Return_none ⟨s.heap,s.toks,_,_,rfl,R,k⟩
theorem HS.brk {pos:Pos} (k:Q .brk m l):HS c ((.Break pos::ss)::K) m l Q :=
 HS.step fun z9 z9 z9 s z9 R=>wpAny_Break ⟨s.heap,s.toks,_,_,rfl,R,k⟩
theorem HS.into {a ss:List Stmt} {T:Rt c Ar g L} {h':Heap} {tk:Nat} (R:RS ⟨c,m,l⟩ g L h') (h:HS c (a::ss::K) m l Q):wpAny (Md c) Ar (execs a (c.sh.env L)) (fun fl s'=>∃ h' tk' m' led',s'={ s with heap:=h',toks:=tk' }∧RS ⟨c,m',led'⟩ g L h'∧HSt c ss K Q fl m' led') E { s with heap:=h',toks:=tk } :=
 HS.run (s:={ s with heap:=h',toks:=tk }) h T R fun fl h'' tk'' m' l' R' p=>⟨h'',tk'',m',l',rfl,R',by cases fl <;> exact p⟩
theorem HS.ite {t:PySem.Expr} {a b:List Stmt} {pos:Pos} {p:Prop} (h:EvT ⟨c,m,l⟩ t p) (ht:p→HS c (a::ss::K) m l Q) (hf:¬ p→HS c (b::ss::K) m l Q):HS c ((.If t a b pos::ss)::K) m l Q :=
 HS.step fun z9 z9 z9 s T R=>wpAny_If (h.use T R fun x z9 z9 hx R1=>by
  cases x with
  | true=>exact HS.into (T:=T) R1 (ht (hx.mp rfl))
  | false=>exact HS.into (T:=T) R1 (hf fun h=>absurd (hx.mpr h) nofun))
theorem HS.tt {t:PySem.Expr} {a b:List Stmt} {pos:Pos} {p:Prop} (h:EvT ⟨c,m,l⟩ t p) (hp:p) (ht:HS c (a::ss::K) m l Q):HS c ((.If t a b pos::ss)::K) m l Q:=HS.ite h (fun z9=>ht) fun x=>absurd hp x
theorem HS.ff {t:PySem.Expr} {a b:List Stmt} {pos:Pos} {p:Prop} (h:EvT ⟨c,m,l⟩ t p) (hp:¬ p) (hf:HS c (b::ss::K) m l Q):HS c ((.If t a b pos::ss)::K) m l Q:=HS.ite h (fun x=>absurd x hp) fun z9=>hf
theorem HS.aug {x:Str} {xp pos:Pos} {op:Operator} {e:PySem.Expr} {a b n:Int} {V:Vl} (i:Nat) (hx:slot c.sh.sc.names i=some (x,.local)) (hv:m.get i=some V) (hi:∀ v,V.is v→(Vl.i a).is v) (h:Ev ⟨c,m,l⟩ e (.i b)) (o:IIOp op a b n) (k:HS c (ss::K) (m.set i (.i n)) l Q):HS c ((.AugAssign (.Name x xp) op e pos::ss)::K) m l Q :=
 HS.step fun z9 z9 z9 s T R=>by
  obtain ⟨nm,F,H⟩:=R.F
  obtain ⟨y,v,hy,hm,hV⟩:=H i V hv
  rw [hx] at hy; cases hy
  obtain ⟨t,rfl⟩:=hi v hV
  exact wpAny_AugAssign_Name (wpAny_loadName_local T.kind (slot_lookup hx T.nd) F.ns hm (h.use T R fun _ _ _ ⟨u,eb⟩ R1=>eb▸o fun t' z9=>store_slot (m:=m) (l:=l) (V:=.i n) hx ⟨t',rfl⟩ T R1 fun h'' tk'' R2=>⟨h'',tk'',_,_,rfl,R2,k⟩))
theorem HS.assign2 {x y:Str} {k k':Nat} {xp yp tp vp pos:Pos} {e1 e2:PySem.Expr} {V1 V2:Vl} (i j:Nat) (hx:slot c.sh.sc.names i=some (x,.local)) (hy:slot c.sh.sc.names j=some (y,.local)) (hw:∀ L,swappedStores [.Tuple [.Name x xp,.Name y yp] k tp] (.Tuple [e1,e2] k' vp) (c.sh.env L)=pure (some [x,y]))
  (hs1:isStar e1=false) (hs2:isStar e2=false) (h1:Ev ⟨c,m,l⟩ e1 V1) (h2:Ev ⟨c,m,l⟩ e2 V2) (kk:HS c (ss::K) ((m.set j V2).set i V1) l Q):HS c ((.Assign [.Tuple [.Name x xp,.Name y yp] k tp] (.Tuple [e1,e2] k' vp) pos::ss)::K) m l Q :=
 HS.step fun z9 z9 z9 s T R=>Assign_Tuple_swapped (names:=[x,y]) (Tuple_ ((Evs.cons hs1 h1 (.cons hs2 h2 .nil)).use T R fun vs h' tk' hvs R1=>by
  obtain ⟨nm,F,H⟩:=R1.F
  obtain ⟨v1,v2,rfl,hv1,hv2⟩:=hvs.two
  refine kup_newTuple F R1.N (fun D' h2 F2 N2 lt=>?_) (nb rfl)
  refine unpackItemsN_ F2 N2 (News.isTup N2 (.head _)) T.C.n rfl (fun h3 F3 N3=>?_)
  refine assignInOrder_cons (bindName_ (store_slot (m:=m) (l:=l) (V:=V2) hy hv2 T ⟨⟨_,F3,H⟩,News.sub N3 fun z9 h=>.tail _ h,R1.D⟩ fun h4 tk4 R4=>?_))
  exact assignInOrder_cons (bindName_ (store_slot (m:=m.set j V2) (l:=l) (V:=V1) hx hv1 T R4 fun h5 tk5 R5=>assignInOrder_nil ⟨h5,tk5,_,_,rfl,R5,kk⟩)))) rfl (hw _)
noncomputable def SA (σ:St) (x:Addr) (name:Str) (v:Value) (l':Led):Prop:=WX σ (fun z9=>setAttr (.ref x) name v) fun z9 m l=>m=σ.m∧l=l'
theorem HS.setA {o e:PySem.Expr} {op pos:Pos} {name:Str} {x:Addr} {V:Vl} (hc:noComp e=true) (h:Ev ⟨c,m,l⟩ e V) (ho:Ev ⟨c,m,l⟩ o (.v (.ref x))) (k:∀ v,V.is v→∃ l',SA ⟨c,m,l⟩ x name v l'∧HS c (ss::K) m l' Q):HS c ((.Assign [.Attribute o name op] e pos::ss)::K) m l Q :=
 HS.step fun z9 z9 z9 s T R=>plainObj_wpAny_Assign_Attribute (h.use T R fun v z9 z9 hv R1=>ho.use T R1 fun z9 z9 z9 eo R2=>by
  cases eo
  obtain ⟨l',hs,kk⟩:=k v hv
  exact WX.use hs T R2 fun _ h' tk' m' l'' R3 ⟨em,el⟩=>⟨h',tk',m',l'',rfl,R3,by subst em el; exact kk⟩) (swaps_of hc)
noncomputable def NM.Sub (m' m:NM):Prop:=∀ i V',m'.get i=some V'→∃ V,m.get i=some V∧∀ v,V.is v→V'.is v
theorem NM.Sub.nil {m:NM}:NM.Sub .nil m:=fun z9 z9 h=>nomatch h
theorem NM.Sub.set {m m':NM} {i:Nat} {V V':Vl} (h:m.get i=some V) (hV:∀ v,V.is v→V'.is v) (t:NM.Sub m' m):NM.Sub (m'.set i V') m:=by
 intro j W hj
 unfold NM.get at hj
 cases e:Nat.beq j i with
 | true =>
  rw [e] at hj
  cases hj
  have:=Nat.eq_of_beq_eq_true e
  subst this
  exact ⟨V,h,hV⟩
 | false=>rw [e] at hj; exact t j W hj
theorem NM.Sub.same {m m':NM} {i:Nat} {V:Vl} (h:m.get i=some V) (t:NM.Sub m' m):NM.Sub (m'.set i V) m:=.set h (fun z9 x=>x) t
theorem NM.Sub.int {m m':NM} {i:Nat} {n:Int} {tk:Tok} (h:m.get i=some (.v (.int n tk))) (t:NM.Sub m' m):NM.Sub (m'.set i (.i n)) m:=.set h (fun z9 x=>⟨tk,x⟩) t
theorem NM.Sub.eqI {m m':NM} {i:Nat} {a b:Int} (h:m.get i=some (.i a)) (e:a=b) (t:NM.Sub m' m):NM.Sub (m'.set i (.i b)) m:=.set h (fun z9 x=>e▸x) t
theorem NM.Sub.eqV {m m':NM} {i:Nat} {a b:Int} {tk:Tok} (h:m.get i=some (.v (.int a tk))) (e:a=b) (t:NM.Sub m' m):NM.Sub (m'.set i (.i b)) m:=.set h (fun z9 x=>⟨tk,e▸x⟩) t
theorem NM.Sub.rfl {m:NM}:NM.Sub m m:=fun z9 V h=>⟨V,h,fun z9 x=>x⟩
theorem NMok.sub {sc:Scope} {m m':NM} {nm:Names} (H:NMok sc m nm) (h:NM.Sub m' m):NMok sc m' nm:=by
 intro i V' hi
 obtain ⟨V,hV,hs⟩:=h i V' hi
 obtain ⟨x,v,hx,hv,hw⟩:=H i V hV
 exact ⟨x,v,hx,hv,hs v hw⟩
structure Tst (σ:St) (t:PySem.Expr) (A B:Prop):Prop where
 h:WX σ (fun env=>isTrue t env (eval t env)) fun b m l=>m=σ.m∧l=σ.led∧(b=true→A)∧(b=false→B)
theorem Tst.mk' {σ:St} {t:PySem.Expr} {p A B:Prop} (h:EvT σ t p) (a:p→A) (b:¬ p→B):Tst σ t A B :=
 ⟨fun z9 z9 z9 s T R=>h.use T R fun z9 h' tk' hx R1=>⟨h',tk',_,_,rfl,R1,rfl,rfl,fun e=>a (hx.mp e),fun e=>b fun x=>by rw [hx.mpr x] at e; cases e⟩⟩
theorem HS.while {X:Type} {t:PySem.Expr} {body:List Stmt} {pos:Pos} (J:X→Prop) (ms:X→NM) (ls:X→Led) (mu:X→Nat) (x₀:X) (h0:J x₀) (hm:NM.Sub (ms x₀) m) (hl:ls x₀=l)
  (step:∀ x,J x→∀ Q':Flow→NM→Led→Prop,(∀ y m',J y→mu y < mu x→NM.Sub (ms y) m'→Q' .next m' (ls y))→(∀ m' l',HS c (ss::K) m' l' Q→Q' .brk m' l')→(∀ v m' l',Q (.ret v) m' l'→Q' (.ret v) m' l') →
   Tst ⟨c,ms x,ls x⟩ t (HS c [body] (ms x) (ls x) Q') (HS c (ss::K) (ms x) (ls x) Q)):HS c ((.While t body [] pos::ss)::K) m l Q:=by
 refine HS.step fun Ar g L s T R=>?_
 subst hl
 obtain ⟨nm,F,H⟩:=R.F
 refine While_inv2 (n₀:=mu x₀) (fun n nm led=>∃ x,J x∧mu x=n∧NMok c.sh.sc (ms x) nm∧ls x=led∧Apart led) F R.N ⟨x₀,h0,rfl,H.sub hm,rfl,R.D⟩ ?_ PassesOwn.never
 rintro n nm₁ led₁ h₁ tk₁ F₁ N₁ ⟨x,hx,rfl,H₁,rfl,D₁⟩
 let Q':Flow→NM→Led→Prop:=fun fl m' l'=>match fl with
  | .next=>∃ y,J y∧mu y < mu x∧NM.Sub (ms y) m'∧l'=ls y
  | .cont=>False
  | .brk=>HS c (ss::K) m' l' Q
  | .ret v=>Q (.ret v) m' l'
 have st:=(step x hx Q' (fun y m' hy hlt hs=>⟨y,hy,hlt,hs,rfl⟩) (fun z9 z9 h=>h) (fun z9 z9 z9 h=>h)).h
 refine WX.use (s:={ s with heap:=h₁,toks:=tk₁ }) st T ⟨⟨nm₁,F₁,H₁⟩,N₁,D₁⟩ ?_
 rintro b h' tk' m' l' R' ⟨rfl,rfl,ha,hb⟩
 cases b with
 | false=>exact ⟨h',tk',_,_,rfl,R',hb rfl⟩
 | true =>
  refine HS.run (s:={ s with heap:=h',toks:=tk' }) (ha rfl) T R' ?_
  intro fl h'' tk'' m'' l'' R'' q
  cases fl with
  | next =>
   obtain ⟨y,hy,hlt,hs,rfl⟩:=q
   obtain ⟨nm₂,F₂,H₂⟩:=R''.F
   exact ⟨h'',tk'',nm₂,_,mu y,rfl,F₂,R''.N,hlt,y,hy,rfl,H₂.sub hs,rfl,R''.D⟩
  | brk=>exact ⟨h'',tk'',m'',l'',rfl,R'',q⟩
  | cont=>exact q.elim
  | ret v=>exact ⟨h'',tk'',m'',l'',rfl,R'',q⟩
end
section
variable {c:Cn} {m:NM} {l:Led} {ss:List Stmt} {K:List (List Stmt)} {Q:Flow→NM→Led→Prop}
theorem HS.whileU {X:Type} {t:PySem.Expr} {body:List Stmt} {pos:Pos} (J:X→Prop) (U:X→NM→NM) (ls:X→Led) (mu:X→Nat) (x₀:X) (h0:J x₀) (hm:NM.Sub (U x₀ m) m) (hl:ls x₀=l)
  (step:∀ x,J x→∀ Q':Flow→NM→Led→Prop,(∀ y m',J y→mu y < mu x→NM.Sub (U y m) m'→Q' .next m' (ls y))→(∀ m' l',HS c (ss::K) m' l' Q→Q' .brk m' l')→(∀ v m' l',Q (.ret v) m' l'→Q' (.ret v) m' l') →
   Tst ⟨c,U x m,ls x⟩ t (HS c [body] (U x m) (ls x) Q') (HS c (ss::K) (U x m) (ls x) Q)):HS c ((.While t body [] pos::ss)::K) m l Q :=
 HS.while J (fun x=>U x m) ls mu x₀ h0 hm hl step
theorem HS.exprV {pos:Pos} {e:PySem.Expr} {V:Vl} {L:Led} (hc:noComp e=true) (h:HE ⟨c,m,l⟩ e (fun r l=>V.is r∧l=L)) (k:HS c (ss::K) m L Q):HS c ((.Expr e pos::ss)::K) m l Q :=
 HS.expr hc h fun z9 z9 p=>p.2▸k
end
noncomputable def nmOf:Nat→List (Str×Value)→NM
 | _,[]=>.nil
 | k,(_,v)::r=>(nmOf (k+1) r).set k (.v v)
noncomputable def fits (ns:List (Str×NameKind)):Nat→List (Str×Value)→Bool
 | _,[]=>true
 | k,(x,_)::r=>decide (slot ns k=some (x,.local)) && fits ns (k+1) r
theorem nmOf_get {l:List (Str×Value)}:∀ {k i:Nat} {V:Vl} {ns:List (Str×NameKind)},fits ns k l=true→(ns.map (·.1)).Nodup→(nmOf k l).get i=some V→∃ x v,k≤i∧slot ns i=some (x,.local)∧l.reverse.lookup x=some v∧V.is v:=by
 induction l with
 | nil=>intro k i V ns z9 z9 h; cases h
 | cons p r ih =>
  obtain ⟨y,u⟩:=p
  intro k i V ns hf nd h
  unfold fits at hf
  rw [Bool.and_eq_true] at hf
  have hy:=of_decide_eq_true hf.1
  unfold nmOf NM.get at h
  cases e:Nat.beq i k with
  | true =>
   rw [e] at h
   cases h
   have:=Nat.eq_of_beq_eq_true e
   subst this
   refine ⟨y,u,Nat.le_refl _,hy,?_,rfl⟩
   have hn:r.reverse.lookup y=none:=by
    cases hl:r.reverse.lookup y with
    | none=>rfl
    | some z =>
     have:∃ j,i+1≤j∧∃ k,slot ns j=some (y,k):=by
      have hm:∃ z,(y,z)∈r:=by
       have:(y,z)∈r.reverse:=by
        clear ih hf
        generalize r.reverse=q at hl
        induction q with
        | nil=>cases hl
        | cons p q ih =>
         obtain ⟨a,b⟩:=p
         rw [List.lookup_cons] at hl
         by_cases e:y=a
         ·subst e; simp at hl; subst hl; exact .head _
         ·have:(y == a)=false:=by simpa using e
          rw [this] at hl; exact .tail _ (ih hl)
       exact ⟨z,List.mem_reverse.mp this⟩
      obtain ⟨z,hm⟩:=hm
      have h2:=hf.2
      clear ih hl hf hy
      generalize i+1=j at h2
      induction r generalizing j with
      | nil=>cases hm
      | cons p r ih =>
       obtain ⟨a,b⟩:=p
       unfold fits at h2
       rw [Bool.and_eq_true] at h2
       cases hm with
       | head=>exact ⟨j,Nat.le_refl _,_,of_decide_eq_true h2.1⟩
       | tail _ hm=>obtain ⟨j',h1,h3⟩:=ih hm _ h2.2; exact ⟨j',by exact Nat.le_of_lt h1,h3⟩
     obtain ⟨j,h1,k,h2⟩:=this
     have:=slot_inj h2 hy nd
     exact (lq [_,_] [] [.l (.a Nq Kr) Nr,.e Nr Nq] .f [[10110]] rfl h1 this).elim
   rw [List.reverse_cons,List.lookup_append,hn]
   simp
  | false =>
   rw [e] at h
   obtain ⟨x,v,hk,hx,hl,hV⟩:=ih hf.2 nd h
   refine ⟨x,v,by exact Nat.le_of_lt hk,hx,?_,hV⟩
   rw [List.reverse_cons,List.lookup_append,hl]
   rfl
noncomputable def nmV:Nat→List Value→NM
 | _,[]=>.nil
 | k,v::r=>(nmV (k+1) r).set k (.v v)
theorem nmV_eq {l:List (Str×Value)}:∀ {k:Nat},nmV k (l.map (·.2))=nmOf k l:=by
 induction l with
 | nil=>intro k; rfl
 | cons p r ih=>intro k; obtain ⟨x,v⟩:=p; show (nmV (k+1) (r.map (·.2))).set k (.v v)=_; rw [ih]; rfl
noncomputable def Fin (P:Value→Led→Prop):Flow→NM→Led→Prop:=fun fl z9 l=>P (retOf fl) l
theorem Spec.enterH {w:World} {mean:ExcName→Option Value} {mg mb:Names} {args:List Value} {dep:Nat} {led:Led} {post:Value→Led→Prop} {a:Addr} {name qual:Str} {params:Arguments} {body:List Stmt} {scope:Scope} {dV kV doc pm cdv ct oc:Value} {an od:Option Addr} {osl:Array (Option Value)} {binds:List (Str×Value)} {vs:List Value}
  (ho:(hd.heap_1_39 w.params).lookup a=some ⟨oc,od,.func (fnOf name qual params body scope dV kV doc pm an cdv ct),osl⟩) (hcd:codeIn (hd.heap_1_39 w.params) cdv qual=true)
  (hbind:∀ s:Shared,(hd.heap_1_39 w.params).In s.heap→BindsTo s (fnOf name qual params body scope dV kV doc pm an cdv ct) ⟨args,[]⟩ binds) (el:binds.map (·.2)=vs) (hfit:fits scope.names 0 binds=true) (hok:scOk scope=true)
  (hco:scope.isCoroutine=false) (hgen:scope.isGenerator=false) (hk:scope.kind=.function) (hcell:∀ x∈scope.names,x.2≠.cell)
  (h:HS ⟨w,mean,mg,mb,⟨qual,scope,a,cdv,[]⟩,dep⟩ [body] (nmV 0 vs) led (Fin post)):Spec w mean mg mb (.ref a) args (dep+1) led post:=by
 subst el
 rw [nmV_eq] at h
 have nd:(scope.names.map (·.1)).Nodup:=by
  have:=hok; unfold scOk at this; rw [Bool.and_eq_true] at this; exact of_decide_eq_true this.1
 have hloc:∀ y∈binds,scope.names.lookup y.1=some .local:=by
  intro y hy
  have:∃ j,slot scope.names j=some (y.1,.local):=by
   clear hbind h
   generalize (0:Nat)=k at hfit
   induction binds generalizing k with
   | nil=>cases hy
   | cons p r ih =>
    obtain ⟨a,b⟩:=p
    unfold fits at hfit
    rw [Bool.and_eq_true] at hfit
    cases hy with
    | head=>exact ⟨k,of_decide_eq_true hfit.1⟩
    | tail _ hy=>exact ih hy _ hfit.2
  obtain ⟨j,hj⟩:=this
  exact slot_lookup hj nd
 refine Spec.enter ho hcd hbind hloc (fun z9=>rfl) hco hgen hk hcell ?_
 intro pv lo dp₀ fr₀ gd₀ u₀ g₁ L₁ h₁ gs d tk o Q C X T F N D hret
 have H:NMok scope (nmOf 0 binds) (fun y=>binds.reverse.lookup y):=fun i V hi=>by
  obtain ⟨x,v,_,hx,hl,hV⟩:=nmOf_get hfit nd hi
  exact ⟨x,v,hx,hl,hV⟩
 refine HS.run (s:=⟨h₁,gs,d,tk,o⟩) h ⟨hok,C⟩ ⟨⟨_,F,H⟩,N,D⟩ ?_
 intro fl h' tk' m' l' R' q
 obtain ⟨nm',F',H'⟩:=R'.F
 refine hret fl l' h' tk' F' R'.N R'.D ?_
 cases fl <;> exact q
theorem Spec.enterA {w:World} {mean:ExcName→Option Value} {mg mb:Names} {args:List Value} {dep:Nat} {led:Led} {post:Value→Led→Prop} {a:Addr} {name qual:Str} {params:Arguments} {body:List Stmt} {scope:Scope} {dV kV doc pm cdv ct oc:Value} {an od:Option Addr} {osl:Array (Option Value)} {binds:List (Str×Value)}
  (ho:(hd.heap_1_39 w.params).lookup a=some ⟨oc,od,.func (fnOf name qual params body scope dV kV doc pm an cdv ct),osl⟩) (hcd:codeIn (hd.heap_1_39 w.params) cdv qual=true)
  (hbind:∀ s:Shared,(hd.heap_1_39 w.params).In s.heap→BindsTo s (fnOf name qual params body scope dV kV doc pm an cdv ct) ⟨args,[]⟩ binds) (el:binds.map (·.2)=args) (hfit:fits scope.names 0 binds=true) (hok:scOk scope=true)
  (hco:scope.isCoroutine=false) (hgen:scope.isGenerator=false) (hk:scope.kind=.function) (hcell:∀ x∈scope.names,x.2≠.cell)
  (h:HS ⟨w,mean,mg,mb,⟨qual,scope,a,cdv,[]⟩,dep⟩ [body] (nmV 0 args) led (Fin post)):Spec w mean mg mb (.ref a) args (dep+1) led post:=Spec.enterH ho hcd hbind el hfit hok hco hgen hk hcell h
theorem sl0 {a:Str×NameKind} {l:List (Str×NameKind)}:slot (a::l) 0=some a:=rfl
theorem sl1 {a b:Str×NameKind} {l:List (Str×NameKind)}:slot (a::b::l) 1=some b:=rfl
theorem sl2 {a b c:Str×NameKind} {l:List (Str×NameKind)}:slot (a::b::c::l) 2=some c:=rfl
theorem sl3 {a b c d:Str×NameKind} {l:List (Str×NameKind)}:slot (a::b::c::d::l) 3=some d:=rfl
theorem sl4 {x0 x1 x2 x3 x4:Str×NameKind} {l:List (Str×NameKind)}:slot (x0::x1::x2::x3::x4::l) 4=some x4:=rfl
theorem sl5 {x0 x1 x2 x3 x4 x5:Str×NameKind} {l:List (Str×NameKind)}:slot (x0::x1::x2::x3::x4::x5::l) 5=some x5:=rfl
theorem sl6 {x0 x1 x2 x3 x4 x5 x6:Str×NameKind} {l:List (Str×NameKind)}:slot (x0::x1::x2::x3::x4::x5::x6::l) 6=some x6:=rfl
theorem sl7 {x0 x1 x2 x3 x4 x5 x6 x7:Str×NameKind} {l:List (Str×NameKind)}:slot (x0::x1::x2::x3::x4::x5::x6::x7::l) 7=some x7:=rfl
theorem sl8 {x0 x1 x2 x3 x4 x5 x6 x7 x8:Str×NameKind} {l:List (Str×NameKind)}:slot (x0::x1::x2::x3::x4::x5::x6::x7::x8::l) 8=some x8:=rfl
theorem sl9 {x0 x1 x2 x3 x4 x5 x6 x7 x8 x9:Str×NameKind} {l:List (Str×NameKind)}:slot (x0::x1::x2::x3::x4::x5::x6::x7::x8::x9::l) 9=some x9:=rfl
theorem sl10 {x0 x1 x2 x3 x4 x5 x6 x7 x8 x9 x10:Str×NameKind} {l:List (Str×NameKind)}:slot (x0::x1::x2::x3::x4::x5::x6::x7::x8::x9::x10::l) 10=some x10:=rfl
theorem sl11 {x0 x1 x2 x3 x4 x5 x6 x7 x8 x9 x10 x11:Str×NameKind} {l:List (Str×NameKind)}:slot (x0::x1::x2::x3::x4::x5::x6::x7::x8::x9::x10::x11::l) 11=some x11:=rfl
theorem sl12 {x0 x1 x2 x3 x4 x5 x6 x7 x8 x9 x10 x11 x12:Str×NameKind} {l:List (Str×NameKind)}:slot (x0::x1::x2::x3::x4::x5::x6::x7::x8::x9::x10::x11::x12::l) 12=some x12:=rfl
theorem sl13 {x0 x1 x2 x3 x4 x5 x6 x7 x8 x9 x10 x11 x12 x13:Str×NameKind} {l:List (Str×NameKind)}:slot (x0::x1::x2::x3::x4::x5::x6::x7::x8::x9::x10::x11::x12::x13::l) 13=some x13:=rfl
theorem HS.done {c:Cn} {m:NM} {l:Led} {Q:Flow→NM→Led→Prop} (h:Q .next m l):HS c [] m l Q:=h
@[reducible] noncomputable def TC.setFr (C:TC) (n:Int) (t:Tok):TC:={ C with fr:=n,ft:=t }
@[reducible] noncomputable def TC.setFlags (C:TC) (v:Value):TC:={ C with flags:=v }
@[reducible] noncomputable def TC.setLog (C:TC) (v:Value):TC:={ C with logn:=v }
@[reducible] noncomputable def TC.setSize (C:TC) (v:Value):TC:={ C with size:=v }
@[reducible] noncomputable def TC.setNode (C:TC) (i:Nat) (n:NodeR):TC:={ C with nodes:=C.nodes.set i n }
@[reducible] noncomputable def TC.setArr (C:TC) (k:Nat) (v:Value):TC:={ C with arr:=C.arr.set k v }
@[reducible] noncomputable def NodeR.setKey (n:NodeR) (v:Value):NodeR:={ n with key:=v }
@[reducible] noncomputable def NodeR.setVal (n:NodeR) (v:Value):NodeR:={ n with val:=v }
@[reducible] noncomputable def NodeR.setNext (n:NodeR) (j:Int) (t:Tok):NodeR:={ n with next:=j,nt:=t }
noncomputable abbrev Pst (V:Vl) (led:Led):Value→Led→Prop:=fun r l=>V.is r∧l=led
section
variable {σ:St} {A:TA} {C:TC} {R:Led} {o:PySem.Expr} {pos:Pos}
theorem Ev.nameI {x:Str} {pos:Pos} {n:Int} {t:Tok} (i:Nat) (hx:slot σ.c.sh.sc.names i=some (x,.local)) (hv:σ.m.get i=some (.v (.int n t))):Ev σ (.Name x pos) (.i n):=(Ev.name i hx hv).toI
theorem ao {P:Params} {C:Addr} {name:Str} (h1:plainGet (hd.heap_1_39 P) C name=true) (h2:hasDictIn (hd.heap_1_39 P) C=true) (h3:findIn (hd.heap_1_39 P) (.ref C) name=some none) (h4:noGet (hd.heap_1_39 P) none=true):AttOk P C name none:=⟨h1,h2,h3,h4⟩
theorem Ev.t_nodes (hl:σ.led=TL σ.c.w.params A C R) (hc:noCall o=true) (ho:Ev σ o (.v (.ref A.t))):Ev σ (.Attribute o (Str.ofString "nodes") pos) (.v (.ref C.ln)) :=
 .attr hc ho (hl▸InsAt.tab) (ao (by k_is) (by k_is) (by k_is) (by k_is)) (by kernel_rfl) rfl
theorem Ev.t_array (hl:σ.led=TL σ.c.w.params A C R) (hc:noCall o=true) (ho:Ev σ o (.v (.ref A.t))):Ev σ (.Attribute o (Str.ofString "array") pos) (.v (.ref C.la)) :=
 .attr hc ho (hl▸InsAt.tab) (ao (by k_is) (by k_is) (by k_is) (by k_is)) (by kernel_rfl) rfl
theorem Ev.t_free (hl:σ.led=TL σ.c.w.params A C R) (hc:noCall o=true) (ho:Ev σ o (.v (.ref A.t))):Ev σ (.Attribute o (Str.ofString "free") pos) (.v (.int C.fr C.ft)) :=
 .attr hc ho (hl▸InsAt.tab) (ao (by k_is) (by k_is) (by k_is) (by k_is)) (by kernel_rfl) rfl
theorem Ev.t_log (hl:σ.led=TL σ.c.w.params A C R) (hc:noCall o=true) (hh:handedIn C.logn=true) (ho:Ev σ o (.v (.ref A.t))):Ev σ (.Attribute o (Str.ofString "log_nodes") pos) (.v C.logn) :=
 .attr hc ho (hl▸InsAt.tab) (ao (by k_is) (by k_is) (by k_is) (by k_is)) (by kernel_rfl) hh
theorem Ev.n_key {x:Addr} {i:Nat} {n:NodeR} (hl:σ.led=TL σ.c.w.params A C R) (hc:noCall o=true) (hx:C.na.nx i=x) (hn:C.nodes[i]?=some n) (hh:handedIn n.key=true) (ho:Ev σ o (.v (.ref x))):Ev σ (.Attribute o (Str.ofString "key") pos) (.v n.key) :=
 .attr hc ho (hl▸hx▸InsAt.node hn) (ao (by k_is) (by k_is) (by k_is) (by k_is)) (by kernel_rfl) hh
theorem Ev.n_val {x:Addr} {i:Nat} {n:NodeR} (hl:σ.led=TL σ.c.w.params A C R) (hc:noCall o=true) (hx:C.na.nx i=x) (hn:C.nodes[i]?=some n) (hh:handedIn n.val=true) (ho:Ev σ o (.v (.ref x))):Ev σ (.Attribute o (Str.ofString "value") pos) (.v n.val) :=
 .attr hc ho (hl▸hx▸InsAt.node hn) (ao (by k_is) (by k_is) (by k_is) (by k_is)) (by kernel_rfl) hh
theorem Ev.n_next {x:Addr} {i:Nat} {n:NodeR} (hl:σ.led=TL σ.c.w.params A C R) (hc:noCall o=true) (hx:C.na.nx i=x) (hn:C.nodes[i]?=some n) (ho:Ev σ o (.v (.ref x))):Ev σ (.Attribute o (Str.ofString "next") pos) (.v (.int n.next n.nt)) :=
 .attr hc ho (hl▸hx▸InsAt.node hn) (ao (by k_is) (by k_is) (by k_is) (by k_is)) (by kernel_rfl) rfl
theorem idx_lt {ns:List NodeR} {i:Nat} {n:NodeR} (h:ns[i]?=some n) (hb:ns.length < 1000):i < 1000:=Nat.lt_trans (List.getElem?_eq_some_iff.mp h).1 hb
theorem Ev.node {e:PySem.Expr} {k:Int} {i:Nat} {n:NodeR} (hl:σ.led=TL σ.c.w.params A C R) (hs:noSlice e=true) (ho:Ev σ o (.v (.ref C.ln))) (he:Ev σ e (.i k)) (hk:k=i) (hn:C.nodes[i]?=some n) (hb:i < 1000):Ev σ (.Subscript o e pos) (.v (.ref (C.na.nx i))):=by
 subst hk
 have:=(List.getElem?_eq_some_iff.mp hn).1
 exact .item ho he hs (hl▸mem_ln) (by exact Int.natCast_nonneg _) (by lia) (by simpa using refsOf_get this)
theorem Ev.arr {e:PySem.Expr} {k:Int} {x:Value} (hl:σ.led=TL σ.c.w.params A C R) (hs:noSlice e=true) (ho:Ev σ o (.v (.ref C.la))) (he:Ev σ e (.i k)) (h0:0≤k) (hx:C.arr[k.toNat]?=some x) (hb:C.arr.length < 1000):Ev σ (.Subscript o e pos) (.v x):=by
 have:=(List.getElem?_eq_some_iff.mp hx).1
 exact .item ho he hs (hl▸mem_la) h0 (by lia) hx
theorem Ev.len {f:PySem.Expr} (hn:noAtt f=true) (hf:Ev σ f (.v (.builtin "len"))) {l:Addr} {vs:List Value} {n:Nat} (hs:isStar o=false) (ho:Ev σ o (.v (.ref l))) (hm:(l,listOf vs.toArray n)∈σ.led) (hb:vs.length < 2 ^ 62):Ev σ (.Call f [o] [] pos) (.i vs.length) :=
 .callB hn hf (.cons hs ho .nil) (CT.len hm hb)
theorem Ev.lenN {f:PySem.Expr} (hl:σ.led=TL σ.c.w.params A C R) (hn:noAtt f=true) (hf:Ev σ f (.v (.builtin "len"))) (hs:isStar o=false) (ho:Ev σ o (.v (.ref C.ln))) (hb:C.nodes.length < 1000):Ev σ (.Call f [o] [] pos) (.i C.nodes.length):=by
 have:=Ev.len (pos:=pos) hn hf hs ho (hl▸mem_ln) (by simp [refsOf]; exact Nat.lt_of_lt_of_le hb (nb rfl))
 simpa [refsOf] using this
theorem Ev.lenA {f:PySem.Expr} (hl:σ.led=TL σ.c.w.params A C R) (hn:noAtt f=true) (hf:Ev σ f (.v (.builtin "len"))) (hs:isStar o=false) (ho:Ev σ o (.v (.ref C.la))) (hb:C.arr.length < 1000):Ev σ (.Call f [o] [] pos) (.i C.arr.length) :=
 Ev.len hn hf hs ho (hl▸mem_la) (by exact Nat.lt_of_lt_of_le hb (nb rfl))
theorem CT.isi_ii {n:Int} {t:Tok}:CT σ (.builtin "isinstance") [.int n t,.type "int"] (.v (.bool true)):=fun z9 z9 z9 s z9 R=>IsiPair.int_int (Ev.out (s:=s) R rfl)
theorem CT.isi_ib {n:Int} {t:Tok}:CT σ (.builtin "isinstance") [.int n t,.type "bool"] (.v (.bool false)):=fun z9 z9 z9 s z9 R=>IsiPair.int_bool (Ev.out (s:=s) R rfl)
theorem CT.isi_b {b:Array UInt8} {t:Tok} {T:Value} {r:Bool} (ee:∀ P,kitOne (hd.heap_1_39 P) (.type "bytes") T=some r):CT σ (.builtin "isinstance") [.bytes b t,T] (.v (.bool r)):=by
 intro Ar g L s Tt R
 exact kia_one kitx_bytes (RS.In R Tt) trivial (ee _) nofun fun tk=>Ev.out (s:=s) R rfl
theorem CT.lenB {b:Array UInt8} {t:Tok} (hf:b.size < 1000):CT σ (.builtin "len") [.bytes b t] (.i b.size):=fun z9 z9 z9 s z9 R=>len_bytes (by exact lq [_] [] [.t Nq (.k 1000)] (.l Nq (.k 1099511627776)) [] rfl hf) (Ev.out (s:=s) R ⟨_,rfl⟩)
theorem Ev.itemB {e:PySem.Expr} {b:Array UInt8} {t:Tok} {k:Int} (ho:Ev σ o (.v (.bytes b t))) (he:Ev σ e (.i k)) (hs:noSlice e=true) (h0:0≤k) (h1:k < (KBw.bInts b).length) (hb:b.size < 1000):Ev σ (.Subscript o e pos) (.i ((KBw.bInts b).getD k.toNat 0)):=by
 intro Ar g L s T R
 refine Subscript_ (ho.use T R fun z9 z9 z9 ev R1=>he.use T R1 fun z9 z9 z9 ei R2=>?_)
 cases ev
 obtain ⟨u,rfl⟩:=ei
 have hl:=KBw.ints_length b
 exact KBw.item_K (ks:=KBw.bInts b) rfl (by exact lq [_,_] [] [.t Nq (.k 1000),.e Nr Nq] (.l Nr (.k 1099511627776)) [[10110]] rfl hb hl) h0 h1 (fun t' k' z9 z9=>Ev.out (s:=s) R2 ⟨t',rfl⟩) (subs_of hs) (fun r=>by cases o <;> rfl)
theorem Ev.and_tt {x y:PySem.Expr} {V:Vl} (h1:Ev σ x (.v (.bool true))) (h2:Ev σ y V):Ev σ (.BoolOp .And [x,y] pos) V :=
 fun z9 z9 z9 s T R=>BoolOp_and (h1.use T R fun z9 z9 z9 ev R1=>(show _=_ from ev)▸wpAny_truthy_bool (BoolOp_one (h2.use T R1 fun z9 z9 z9 hv R2=>Ev.out (s:=s) R2 hv)))
theorem Ev.and_ff {x y:PySem.Expr} (h1:Ev σ x (.v (.bool false))):Ev σ (.BoolOp .And [x,y] pos) (.v (.bool false)) :=
 fun z9 z9 z9 s T R=>BoolOp_and (h1.use T R fun z9 z9 z9 ev R1=>by cases ev; exact wpAny_truthy_bool (Ev.out (s:=s) R1 rfl))
theorem Ev.not {x:PySem.Expr} {b:Bool} (h1:Ev σ x (.v (.bool b))):Ev σ (.UnaryOp .Not x pos) (.v (.bool (!b))) :=
 fun z9 z9 z9 s T R=>UnaryOp_ (h1.use T R fun z9 z9 z9 ev R1=>(show _=_ from ev)▸not_of (wpAny_truthy_bool (Ev.out (s:=s) R1 rfl)))
noncomputable def VCmp (op:CmpOp) (a b:Value) (p:Prop):Prop:=∀ {w:World} {Ar:Around} {E:Value→Shared→Prop} {s:Shared} {Q:Value→Shared→Prop},(∀ c:Bool,(c=true↔p)→Q (.bool c) s)→wpAny (model MProg w) Ar (compareOp op a b) Q E s
theorem Ev.cmpV {l r:PySem.Expr} {op:CmpOp} {a b:Value} {p:Prop} (h1:Ev σ l (.v a)) (h2:Ev σ r (.v b)) (q:VCmp op a b p) (hm:behindInMarks op r=false):Ev σ (.Compare l [op] [r] pos) (.b p) :=
 fun z9 z9 z9 s T R=>wpAny_Compare1 (h1.use T R fun z9 z9 z9 ea R1=>h2.use T R1 fun z9 z9 z9 eb R2=>(show _=_ from ea)▸(show _=_ from eb)▸q fun c hc=>Ev.out (s:=s) R2 ⟨c,rfl,hc⟩) hm
theorem EvT.in3 {l e1 e2 e3:PySem.Expr} {k:Nat} {tp:Pos} {x n1 n2 n3:Int} (h:Ev σ l (.i x)) (h1:Ev σ e1 (.i n1)) (h2:Ev σ e2 (.i n2)) (h3:Ev σ e3 (.i n3)) (hs1:isStar e1=false) (hs2:isStar e2=false) (hs3:isStar e3=false) (hm:behindInMarks .In (.Tuple [e1,e2,e3] k tp)=false) :
  EvT σ (.Compare l [.In] [.Tuple [e1,e2,e3] k tp] pos) (x=n1∨x=n2∨x=n3) :=
 fun z9 z9 z9 s T R=>wpAny_isTrue_Compare1 (h.use T R fun _ _ _ ⟨_,ex⟩ R1=>Tuple_ ((Evs.cons hs1 h1 (.cons hs2 h2 (.cons hs3 h3 .nil))).use T R1 fun vs h' tk' hvs R2=>by
  obtain ⟨nm,F,H⟩:=R2.F
  obtain ⟨v1,v2,v3,rfl,⟨t1,rfl⟩,⟨t2,rfl⟩,⟨t3,rfl⟩⟩:=hvs.three
  subst ex
  refine kup_newTuple F R2.N (fun D' h2 F2 N2 lt=>?_) (nb rfl)
  refine in_tuple_ints (News.isTup N2 (.head _)) (.cons _ _ (.cons _ _ (.cons _ _ .nil))) (wpAny_truthy_bool (EvT.out (s:=s) ⟨⟨_,F2,H⟩,News.sub N2 fun z9 h=>.tail _ h,R2.D⟩ ?_))
  simp only [List.any_cons,List.any_nil,Bool.or_false,Bool.or_eq_true,beq_iff_eq]
  constructor <;> (rintro (h | h | h) <;> simp [h]))) hm
end
abbrev Cfg:=World×(ExcName→Option Value)×Names×Names
noncomputable def IsLaw (P:Params) (sc:Scope) (b:List Stmt):Prop :=
 ∃ (oc:Value) (od:Option Addr) (osl:Array (Option Value)) (name qual:Str) (params:Arguments) (dV kV doc pm:Value) (an:Option Addr) (cdv ct:Value),(hd.heap_1_39 P).lookup 555=some ⟨oc,od,.func (fnOf name qual params b sc dV kV doc pm an cdv ct),osl⟩
noncomputable def Psi (c:Cfg):Prop:=∀ (sc:Scope) (b:List Stmt),IsLaw c.1.params sc b→∀ (fa:Addr) (cd:Value) (Ar:Around) (g h₁:Heap) (L₁:Addr) (gs:Array GenState) (d:Drawn) (tk:Nat) (o:OsState) (scr:Addr) (vs:List Value) (ns:List Int),g.IsList scr vs.toArray→IntsAre vs ns→¬ ((63:Nat):Int) < ns.length →
 Rt ⟨c.1,c.2.1,c.2.2.1,c.2.2.2,⟨"law",sc,fa,cd,[]⟩,250⟩ Ar g L₁→RS ⟨⟨c.1,c.2.1,c.2.2.1,c.2.2.2,⟨"law",sc,fa,cd,[]⟩,250⟩,NM.nil.set 0 (.v (.ref scr)),[(540,tabObj #[]),(535,tabObj #[]),(545,tabObj #[])]⟩ g L₁ h₁ →
 ∀ Q':Flow→Shared→Prop,(∀ fl h' tk' m' l',RS ⟨⟨c.1,c.2.1,c.2.2.1,c.2.2.2,⟨"law",sc,fa,cd,[]⟩,250⟩,m',l'⟩ g L₁ h'→(fl=.ret (.bool true)∧∃ p1 p2 p3,∀ p∈[(540,tabObj p2),(535,tabObj p1),(545,tabObj p3)],p∈l')→Q' fl ⟨h',gs,d,tk',o⟩) →
 wpAny (model MProg c.1) Ar (execs b ((⟨"law",sc,fa,cd,[]⟩:Sh).env L₁)) Q' (fun _ _=>False) ⟨h₁,gs,d,tk,o⟩
noncomputable def cfg:Cfg:=@Classical.epsilon _ ⟨⟨⟨fun _ _=>0,{ strHash:=fun _=>0,shareClass:=fun _=>0,mergeTok:=id,idOf:=fun _=>0,idOfShared:=fun _ _=>0,followText:=fun _=>true,idOfImm:=fun _=>0 }⟩,fun _=>none,fun _=>none,fun _=>none⟩⟩ fun c=>¬ Psi c
noncomputable def w:World:=cfg.1
noncomputable def mean:ExcName→Option Value:=cfg.2.1
noncomputable def mg:Names:=cfg.2.2.1
noncomputable def mb:Names:=cfg.2.2.2
section
theorem spec_is_number_int (i:Int) (tk:Tok) (led:Led):Spec w mean mg mb (.ref 208) [.int i tk] 1 led (Pst (.v (.bool true)) led):=by
 refine Spec.enterA (by k_is) (by k_is) (fun s X=>(BindsTo.of_eq rfl)) rfl (by kernel_rfl) (by kernel_rfl) rfl rfl rfl (by decide) ?_
 (exact (HS.ret (Ev.and_tt (Ev.callB rfl (Ev.blt 1 sl1 (by k_is) (by boot_by_name) (by kernel_rfl)) (Evs.cons rfl (Ev.name 0 sl0 rfl) (Evs.cons rfl (Ev.blt 2 sl2 (by k_is) (by boot_by_name) (by kernel_rfl)) Evs.nil)) CT.isi_ii) (Ev.not (Ev.callB rfl (Ev.blt 1 sl1 (by k_is) (by boot_by_name) (by kernel_rfl)) (Evs.cons rfl (Ev.name 0 sl0 rfl) (Evs.cons rfl (Ev.blt 3 sl3 (by k_is) (by boot_by_name) (by kernel_rfl)) Evs.nil)) CT.isi_ib))) (fun z9 z9=>(And.intro (by assumption) rfl))))
theorem spec_is_number_bytes (b:Array UInt8) (tk:Tok) (led:Led):Spec w mean mg mb (.ref 208) [.bytes b tk] 1 led (Pst (.v (.bool false)) led):=by
 refine Spec.enterA (by k_is) (by k_is) (fun s X=>(BindsTo.of_eq rfl)) rfl (by kernel_rfl) (by kernel_rfl) rfl rfl rfl (by decide) ?_
 (exact (HS.ret (Ev.and_ff (Ev.callB rfl (Ev.blt 1 sl1 (by k_is) (by boot_by_name) (by kernel_rfl)) (Evs.cons rfl (Ev.name 0 sl0 rfl) (Evs.cons rfl (Ev.blt 2 sl2 (by k_is) (by boot_by_name) (by kernel_rfl)) Evs.nil)) (CT.isi_b (fun z9=>(by kit_is))))) (fun z9 z9=>(And.intro (by assumption) rfl))))
inductive okV:Value→Prop where
 | n:okV .none
 | i {n:Int} {t:Tok}:okV (.int n t)
 | b {b:Array UInt8} {t:Tok}:okV (.bytes b t)
noncomputable def tagOf:Value→Int
 | .none=>0
 | .int _ _=>3
 | _=>4
theorem spec_type_of (v:Value) (led:Led) (h:okV v):Spec w mean mg mb (.ref 215) [v] 1 led (Pst (.i (tagOf v)) led):=by
 cases h
 all_goals
  refine Spec.enterA (by k_is) (by k_is) (fun s X=>(BindsTo.of_eq rfl)) rfl (by kernel_rfl) (by kernel_rfl) rfl rfl rfl (by decide) ?_
  (first | exact (HS.ite (Ev.isNone (Ev.name 0 sl0 rfl)) (fun z9=>(HS.ret (Ev.glob 1 sl1 (by k_is)) (fun z9 z9=>(And.intro (Exists.intro 395 (by assumption)) rfl)))) (fun z9=>(False.elim (by contradiction)))) | exact (HS.ite (Ev.isNone (Ev.name 0 sl0 rfl)) (fun z9=>(False.elim (by contradiction))) (fun z9=>(HS.nil (HS.ite (EvT.ofV (Ev.callB rfl (Ev.blt 2 sl2 (by k_is) (by boot_by_name) (by kernel_rfl)) (Evs.cons rfl (Ev.name 0 sl0 rfl) (Evs.cons rfl (Ev.blt 3 sl3 (by k_is) (by boot_by_name) (by kernel_rfl)) Evs.nil)) CT.isi_ib) rfl) (fun z9=>(False.elim (by contradiction))) (fun z9=>(HS.nil (HS.ite (EvT.ofV (Ev.callB rfl (Ev.blt 2 sl2 (by k_is) (by boot_by_name) (by kernel_rfl)) (Evs.cons rfl (Ev.name 0 sl0 rfl) (Evs.cons rfl (Ev.blt 5 sl5 (by k_is) (by boot_by_name) (by kernel_rfl)) Evs.nil)) CT.isi_ii) rfl) (fun z9=>(HS.ret (Ev.glob 6 sl6 (by k_is)) (fun z9 z9=>(And.intro (Exists.intro 401 (by assumption)) rfl)))) (fun z9=>(False.elim (by contradiction)))))))))) | exact (HS.ite (Ev.isNone (Ev.name 0 sl0 rfl)) (fun z9=>(False.elim (by contradiction))) (fun z9=>(HS.nil (HS.ite (EvT.ofV (Ev.callB rfl (Ev.blt 2 sl2 (by k_is) (by boot_by_name) (by kernel_rfl)) (Evs.cons rfl (Ev.name 0 sl0 rfl) (Evs.cons rfl (Ev.blt 3 sl3 (by k_is) (by boot_by_name) (by kernel_rfl)) Evs.nil)) (CT.isi_b (fun z9=>(by kit_is)))) rfl) (fun z9=>(False.elim (by contradiction))) (fun z9=>(HS.nil (HS.ite (EvT.ofV (Ev.callB rfl (Ev.blt 2 sl2 (by k_is) (by boot_by_name) (by kernel_rfl)) (Evs.cons rfl (Ev.name 0 sl0 rfl) (Evs.cons rfl (Ev.blt 5 sl5 (by k_is) (by boot_by_name) (by kernel_rfl)) Evs.nil)) (CT.isi_b (fun z9=>(by kit_is)))) rfl) (fun z9=>(False.elim (by contradiction))) (fun z9=>(HS.nil (HS.ite (EvT.ofV (Ev.callB rfl (Ev.blt 2 sl2 (by k_is) (by boot_by_name) (by kernel_rfl)) (Evs.cons rfl (Ev.name 0 sl0 rfl) (Evs.cons rfl (Ev.blt 7 sl7 (by k_is) (by boot_by_name) (by kernel_rfl)) Evs.nil)) (CT.isi_b (fun z9=>(by kit_is)))) rfl) (fun z9=>(HS.ret (Ev.glob 8 sl8 (by k_is)) (fun z9 z9=>(And.intro (Exists.intro 403 (by assumption)) rfl)))) (fun z9=>(False.elim (by contradiction))))))))))))))
end
set_option genInjectivity true in
inductive Ky where
 | i (n:Int)
 | b (l:List UInt8)
 deriving DecidableEq
noncomputable def ky:Value→Option Ky
 | .int n _=>some (.i n)
 | .bytes b _=>some (.b b.toList)
 | _=>none
section
theorem spec_array_index_int (i:Int) (tk:Tok) (led:Led):Spec w mean mg mb (.ref 306) [.int i tk] 2 led (Pst (.v (.int i tk)) led):=by
 refine Spec.enterA (by k_is) (by k_is) (fun s X=>(BindsTo.of_eq rfl)) rfl (by kernel_rfl) (by kernel_rfl) rfl rfl rfl (by decide) ?_
 (exact (HS.ret (Ev.ite (EvT.ofV (Ev.of (HE.callK rfl (Ev.glob 1 sl1 (by k_is)) (Evs.cons rfl (Ev.name 0 sl0 rfl) Evs.nil) (by k_is) (nb rfl) (spec_is_number_int i tk led))) rfl) (fun z9=>(Ev.name 0 sl0 rfl)) (fun z9=>(False.elim (by contradiction)))) (fun z9 z9=>(And.intro (by assumption) rfl))))
theorem spec_array_index_bytes (b:Array UInt8) (tk:Tok) (led:Led):Spec w mean mg mb (.ref 306) [.bytes b tk] 2 led (Pst (.i (-1)) led):=by
 refine Spec.enterA (by k_is) (by k_is) (fun s X=>(BindsTo.of_eq rfl)) rfl (by kernel_rfl) (by kernel_rfl) rfl rfl rfl (by decide) ?_
 (exact (HS.ret (Ev.ite (EvT.ofV (Ev.of (HE.callK rfl (Ev.glob 1 sl1 (by k_is)) (Evs.cons rfl (Ev.name 0 sl0 rfl) Evs.nil) (by k_is) (nb rfl) (spec_is_number_bytes b tk led))) rfl) (fun z9=>(False.elim (by contradiction))) (fun z9=>(Ev.neg Ev.int))) (fun z9 z9=>(And.intro (by assumption) rfl))))
theorem ky_cmp {a b:Value} (ha:okV a) (h:tagOf a=tagOf b) (hn:tagOf a≠0) (hb:okV b):VCmp .Eq a b (ky a=ky b):=by
 intro w Ar E s Q k
 cases ha with
 | n=>exact (hn rfl).elim
 | i=>cases hb with
  | n=>cases h
  | i=>exact eq_int (k _ (by rw [beq_iff_eq]; exact ⟨fun e=>e▸rfl,fun e=>by cases e; rfl⟩))
  | b=>cases h
 | b=>cases hb with
  | n=>cases h
  | i=>cases h
  | b=>exact eq_bytes (k _ (by rw [beq_iff_eq]; exact ⟨fun e=>congrArg (fun l=>some (Ky.b l)) e,fun e=>by injection e with e; injection e⟩))
theorem tag_of {a:Value} (ha:okV a):(tagOf a=0∧a=.none)∨tagOf a=3∨tagOf a=4:=by
 cases ha with
 | n=>exact .inl ⟨rfl,rfl⟩
 | i=>exact .inr (.inl rfl)
 | b=>exact .inr (.inr rfl)
theorem ky_tag {a b:Value} (ha:okV a) (hb:okV b) (h:ky a=ky b):tagOf a=tagOf b:=by
 cases ha <;> cases hb <;> first | rfl | cases h
theorem ps_raw_equal {a b:Value} {led:Led} (ha:okV a) (hb:okV b) (hn:b≠.none):Spec w mean mg mb (.ref 229) [a,b] 2 led (Pst (.b (ky a=ky b)) led):=by
 refine Spec.enterA (by k_is) (by k_is) (fun s X=>(BindsTo.of_eq rfl)) rfl (by kernel_rfl) (by kernel_rfl) rfl rfl rfl (by decide) ?_
 refine HS.assign 2 sl2 rfl (Ev.of (HE.callK rfl (Ev.glob 3 sl3 (by k_is)) (Evs.cons rfl (Ev.name 0 sl0 rfl) Evs.nil) (by k_is) (nb rfl) (spec_type_of a led ha))) (HS.ite (EvT.cmp (Ev.name 2 sl2 rfl) (Ev.of (HE.callK rfl (Ev.glob 3 sl3 (by k_is)) (Evs.cons rfl (Ev.name 1 sl1 rfl) Evs.nil) (by k_is) (nb rfl) (spec_type_of b led hb))) ICmp.ne rfl) (fun _=>(HS.ret Ev.bool ?_)) (fun _=>(HS.nil (HS.ite (EvT.cmp (Ev.name 2 sl2 rfl) (Ev.toI (Ev.glob 4 sl4 (by k_is))) ICmp.eq rfl) (fun _=>(HS.ret Ev.bool ?_)) (fun _=>(HS.nil (HS.ite (EvT.in3 (Ev.name 2 sl2 rfl) (Ev.toI (Ev.glob 5 sl5 (by k_is))) (Ev.toI (Ev.glob 6 sl6 (by k_is))) (Ev.toI (Ev.glob 7 sl7 (by k_is))) rfl rfl rfl rfl) (fun _=>?_) (fun _=>(HS.nil ?_)))))))))
 ·rename_i h
  exact fun v hv=>⟨⟨false,hv,nofun,fun e=>absurd (ky_tag ha hb e) h⟩,rfl⟩
 ·rename_i h h0
  have h':=Decidable.not_not.mp h
  rcases tag_of hb with e | e | e
  ·exact absurd e.2 hn
  ·rw [h0,e] at h'; cases h'
  ·rw [h0,e] at h'; cases h'
 ·rename_i h h0 _
  exact HS.ret (Ev.cmpV (by exact Ev.name 0 sl0 rfl) (by exact Ev.name 1 sl1 rfl) (ky_cmp ha (Decidable.not_not.mp h) h0 hb) rfl) fun v hv=>⟨hv,rfl⟩
 ·rename_i h0 h1
  exact (h1 ((tag_of ha).imp_left fun e=>absurd e.1 h0)).elim
end
noncomputable def ilog (n:Nat):Int:=if n=0 then -1 else (Nat.log2 n:Int)
theorem ilog_half {n:Nat} (h:0 < n):ilog n=ilog (n / 2)+1:=by
 unfold ilog
 rw [if_neg (by exact Nat.ne_of_gt h)]
 by_cases h2:n / 2=0
 ·rw [if_pos h2]
  have:n=1:=by lia
  subst this; decide
 ·rw [if_neg h2,Nat.log2_def,if_pos (by lia)]; simp
section
theorem spec_log2 (i:Int) (tk:Tok) (led:Led) (hi:0≤i):Spec w mean mg mb (.ref 243) [.int i tk] 1 led (Pst (.i (ilog i.toNat)) led):=by
 obtain ⟨n,rfl⟩:=Int.eq_ofNat_of_zero_le hi
 rw [Int.toNat_natCast]
 refine Spec.enterA (by k_is) (by k_is) (fun s X=>(BindsTo.of_eq rfl)) rfl (by kernel_rfl) (by kernel_rfl) rfl rfl rfl (by decide) ?_
 refine HS.assign 1 sl1 rfl (Ev.neg Ev.int) ?_
 refine HS.while (X:=Nat×Int) (fun x=>x.2+ilog x.1+1=ilog n) (fun x=>(NM.nil.set 0 (.i x.1)).set 1 (.i x.2)) (fun z9=>led) (·.1) (n,-1) (by dsimp only; exact lq [] [_] [] (.eq (.a (.a (.g Kr) Zq) Kr) Zq) [] rfl) (by exact NM.Sub.same rfl (NM.Sub.int rfl NM.Sub.nil)) rfl ?_
 intro x hx Q' next z9 z9
 refine Tst.mk' (EvT.cmp (Ev.name 0 sl0 rfl) Ev.int ICmp.gt rfl) (fun z9=>(HS.assign 0 sl0 rfl (Ev.bin (Ev.name 0 sl0 rfl) Ev.int (IOp.rsh (by decide))) (HS.assign 1 sl1 rfl (Ev.bin (Ev.name 1 sl1 rfl) Ev.int IOp.add) (HS.nil (HS.done ?_))))) (fun z9=>(HS.ret (Ev.name 1 sl1 rfl) ?_))
 ·have hb:0 < x.1:=by exact Int.ofNat_lt.1 z9
  have e:(x.1:Int).fdiv (2 ^ Int.toNat 1)=((x.1 / 2:Nat):Int):=by
   show Int.fdiv (x.1:Int) 2=_
   rw [Int.fdiv_eq_ediv_of_nonneg _ (by decide)]; rfl
  have:=ilog_half hb
  exact next (x.1 / 2,x.2+1) _ (by dsimp only; exact lq [] [_,_,_,_] [.eq (.a (.a Zq Zr) Kr) (.z 2),.eq Zr (.a (.z 3) Kr)] (.eq (.a (.a (.a Zq Kr) (.z 3)) Kr) (.z 2)) [[110010,101100]] rfl hx this) (Nat.div_lt_self hb (by decide)) (by exact NM.Sub.same rfl (NM.Sub.eqI rfl e NM.Sub.nil))
 ·have e:x.2=ilog n:=by
   have h0:x.1=0:=by exact lq [_] [] [.nt Kq Nq] (.e Nq Kq) [] rfl z9
   have h1:ilog 0=-1:=rfl
   rw [h0,h1] at hx
   exact lq [] [_,_] [.eq (.a (.a Zq (.g Kr)) Kr) Zr] (.eq Zq Zr) [[1010,1100]] rfl hx
  exact fun v hv=>⟨e▸hv,rfl⟩
theorem spec_ceil_log2 (i:Int) (tk:Tok) (led:Led) (hi:0 < i):Spec w mean mg mb (.ref 250) [.int i tk] 2 led (Pst (.i (ilog (i - 1).toNat+1)) led):=by
 refine Spec.enterA (by k_is) (by k_is) (fun s X=>(BindsTo.of_eq rfl)) rfl (by kernel_rfl) (by kernel_rfl) rfl rfl rfl (by decide) ?_
 (exact (HS.ret (Ev.bin (Ev.of (HE.callK rfl (Ev.glob 1 sl1 (by k_is)) (Evs.cons rfl (Ev.bin (Ev.nameI 0 sl0 rfl) Ev.int IOp.sub) Evs.nil) (by k_is) (nb rfl) (fun z9=>(spec_log2 (i - 1) _ led (by exact Int.sub_nonneg_of_le hi))))) Ev.int IOp.add) (fun z9 z9=>(And.intro (by assumption) rfl))))
end
noncomputable def hstep (f c:Int):Int:=Builtin.bitAnd (Builtin.bitXor f (f * 2 ^ Int.toNat 5+f.fdiv (2 ^ Int.toNat 2)+c)) 4294967295
noncomputable def hgo (b:List Int) (step:Int):Nat→Int→Int→Int
 | 0,f,_=>f
 | n+1,f,k=>if k ≥ step then hgo b step n (hstep f (b.getD (k - 1).toNat 0)) (k - step) else f
noncomputable def hstep0 (b:Array UInt8):Int:=(b.size:Int).fdiv (2 ^ Int.toNat 5)+1
noncomputable def shash (b:Array UInt8):Int:=hgo (KBw.bInts b) (hstep0 b) (b.size+1) (Builtin.bitAnd b.size 4294967295) b.size
noncomputable def okKey:Value→Prop
 | .int _ _=>True
 | .bytes b _=>b.size < 100
 | _=>False
noncomputable def mp (k:Value) (N:Nat):Int:=match k with
 | .int i _=>i.fmod (Builtin.bitOr ((N:Int) - 1) 1)
 | .bytes b _=>Builtin.bitAnd (shash b) ((N:Int) - 1)
 | _=>0
theorem bitOr_one (x:Int):Builtin.bitOr x 1=x+1 - x % 2:=by rw [bitOr_and,bitAnd_m1]
theorem mp_range (k:Value) (N:Nat) (h:0 < N):0≤mp k N∧mp k N < N:=by
 unfold mp
 split
 ·rename_i i _
  rw [bitOr_one]
  have h1:(0:Int) < (N:Int) - 1+1 - ((N:Int) - 1) % 2:=by omega
  have a:=Int.fmod_nonneg_of_pos i h1
  have b:=Int.fmod_lt_of_pos i h1
  omega
 ·rename_i b _
  have:=bitAnd_range (shash b) (y:=(N:Int) - 1) (by exact lq [_] [] [.t Kq Nq] (.le Kq (.s Nq Kr)) [] rfl h)
  constructor
  ·exact this.1
  ·exact Int.lt_of_le_of_lt this.2 (by exact lq [_] [] [] (.lt (.s Nq Kr) Nq) [] rfl)
 ·exact lq [_] [] [.t Kq Nq] (.an (.le Kq Kq) (.lt Kq Nq)) [[100,0]] rfl h
theorem mp_ky {a b:Value} {k:Ky} (ha:ky a=some k) (hb:ky b=some k) (N:Nat):mp a N=mp b N:=by
 cases a with
 | int i t=>cases ha; cases b with
  | int j u=>injection hb with e; injection e with e; subst e; rfl
  | bytes=>injection hb with e; cases e
  | _=>cases hb
 | bytes i t=>cases ha; cases b with
  | bytes j u=>injection hb with e; injection e with e; cases i; cases j; cases e; rfl
  | int=>injection hb with e; cases e
  | _=>cases hb
 | _=>cases ha
section
theorem hstep_range (f c:Int):0≤hstep f c∧hstep f c < 2 ^ 32:=by
 unfold hstep
 rw [bitAnd_m32]
 lia
theorem spec_string_hash (b:Array UInt8) (t:Tok) (led:Led) (h:b.size < 100):Spec w mean mg mb (.ref 236) [.bytes b t] 2 led (Pst (.i (shash b)) led):=by
 have hs0:0 < hstep0 b:=by
  have:0≤(b.size:Int).fdiv (2 ^ Int.toNat 5):=Int.fdiv_nonneg (Int.natCast_nonneg _) (by decide)
  show 0 < (b.size:Int).fdiv (2 ^ Int.toNat 5)+1
  exact lq [] [_] [.le Kq Zq] (.lt Kq (.a Zq Kr)) [] rfl this
 have hb:b.size < 1000:=Nat.lt_trans h (by decide)
 have hl:=KBw.ints_length b
 refine Spec.enterA (by k_is) (by k_is) (fun s X=>(BindsTo.of_eq rfl)) rfl (by kernel_rfl) (by kernel_rfl) rfl rfl rfl (by decide) ?_
 refine HS.assign2 1 2 sl1 sl2 (fun z9=>rfl) rfl rfl (Ev.bin (Ev.callB rfl (Ev.blt 4 sl4 (by k_is) (by boot_by_name) (by kernel_rfl)) (Evs.cons rfl (Ev.name 0 sl0 rfl) Evs.nil) (CT.lenB hb)) (Ev.toI (Ev.glob 5 sl5 (by k_is))) IOp.and) (Ev.callB rfl (Ev.blt 4 sl4 (by k_is) (by boot_by_name) (by kernel_rfl)) (Evs.cons rfl (Ev.name 0 sl0 rfl) Evs.nil) (CT.lenB hb)) (HS.assign 3 sl3 rfl (Ev.bin (Ev.bin (Ev.callB rfl (Ev.blt 4 sl4 (by k_is) (by boot_by_name) (by kernel_rfl)) (Evs.cons rfl (Ev.name 0 sl0 rfl) Evs.nil) (CT.lenB hb)) Ev.int (IOp.rsh (by decide))) Ev.int IOp.add) ?_)
 refine HS.while (X:=Nat×Int×Int) (fun x=>0≤x.2.2∧x.2.2 < x.1∧x.2.2≤b.size∧0≤x.2.1∧x.2.1 < 2 ^ 32∧hgo (KBw.bInts b) (hstep0 b) x.1 x.2.1 x.2.2=shash b) (fun x=>(((NM.nil.set 0 (.v (.bytes b t))).set 1 (.i x.2.1)).set 2 (.i x.2.2)).set 3 (.i (hstep0 b))) (fun z9=>led) (·.1)
  (b.size+1,Builtin.bitAnd b.size 4294967295,b.size) ⟨Int.natCast_nonneg _,by dsimp only; exact Int.lt_succ _,Int.le_refl _,by dsimp only; rw [bitAnd_m32]; exact Int.natCast_nonneg _,by dsimp only; rw [bitAnd_m32]; lia,rfl⟩ (by exact NM.Sub.same rfl (NM.Sub.same rfl (NM.Sub.same rfl (NM.Sub.same rfl NM.Sub.nil)))) rfl ?_
 intro x ⟨hk0,hkn,hkb,hf0,hf1,hg⟩ Q' next _ _
 refine Tst.mk' (EvT.cmp (Ev.name 2 sl2 rfl) (Ev.name 3 sl3 rfl) ICmp.ge rfl) (fun z9=>(HS.assign 1 sl1 rfl (Ev.bin (Ev.bin (Ev.name 1 sl1 rfl) (Ev.bin (Ev.bin (Ev.bin (Ev.name 1 sl1 rfl) Ev.int (IOp.lsh (by decide) (by decide) (by lia))) (Ev.bin (Ev.name 1 sl1 rfl) Ev.int (IOp.rsh (by decide))) IOp.add) (Ev.itemB (Ev.name 0 sl0 rfl) (Ev.bin (Ev.name 2 sl2 rfl) Ev.int IOp.sub) rfl (by exact lq [] [_,_] [.lt Kq Zq,.le Zq Zr] (.le Kq (.s Zr Kr)) [] rfl hs0 z9) (by exact lq [_,_] [_] [.e Nq Nr,.le Zq Nr] (.lt (.s Zq Kr) Nq) [[11100]] rfl hl hkb) hb) IOp.add) IOp.xor) (Ev.toI (Ev.glob 5 sl5 (by k_is))) IOp.and) (HS.assign 2 sl2 rfl (Ev.bin (Ev.name 2 sl2 rfl) (Ev.name 3 sl3 rfl) IOp.sub) (HS.nil (HS.done ?_))))) (fun z9=>(HS.ret (Ev.name 1 sl1 rfl) ?_))
 ·have hr:=hstep_range x.2.1 ((KBw.bInts b).getD (x.2.2 - 1).toNat 0)
  obtain ⟨n',hn⟩:∃ n',x.1=n'+1:=⟨x.1 - 1,by exact lq [_,_] [_] [.le Kq Zq,.lt Zq Nq,.sb 1 Nq Kr] (.e Nq (.a Nr Kr)) [[110000,101000],[101000,110110]] rfl hk0 hkn rfl⟩
  rw [hn,hgo,if_pos (by assumption)] at hg
  exact next (n',hstep x.2.1 ((KBw.bInts b).getD (x.2.2 - 1).toNat 0),x.2.2 - hstep0 b) _ ⟨by dsimp only; exact Int.sub_nonneg_of_le z9,by dsimp only; exact lq [_,_] [_,_] [.lt Kq Zq,.lt Zr Nq,.e Nq (.a Nr Kr)] (.lt (.s Zr Zq) Nr) [[101110]] rfl hs0 hkn hn,by dsimp only; exact lq [_] [_,_] [.lt Kq Zq,.le Zr Nq] (.le (.s Zr Zq) Nq) [] rfl hs0 hkb,hr.1,hr.2,hg⟩ (by rw [hn]; exact Nat.lt_succ_self _) (by exact NM.Sub.same rfl (NM.Sub.same rfl (NM.Sub.same rfl (NM.Sub.same rfl NM.Sub.nil))))
 ·have e:x.2.1=shash b:=by
   rw [← hg]
   cases x.1 with
   | zero=>rfl
   | succ n=>rw [hgo,if_neg (by assumption)]
  exact fun v hv=>⟨e▸hv,rfl⟩
theorem spec_main_position (A:TA) (C:TC) (R:Led) (k:Value) (hk:okKey k) (hn:0 < C.nodes.length) (hb:C.nodes.length < 1000):Spec w mean mg mb (.ref 342) [.ref A.t,k] 4 (TL w.params A C R) (Pst (.i (mp k C.nodes.length)) (TL w.params A C R)):=by
 match k,hk with
 | .int i tk,hk =>
  have hz:Builtin.bitOr ((C.nodes.length:Int) - 1) 1≠0:=by rw [bitOr_one]; omega
  refine Spec.enterA (by k_is) (by k_is) (fun s X=>(BindsTo.of_eq rfl)) rfl (by kernel_rfl) (by kernel_rfl) rfl rfl rfl (by decide) ?_
  (exact (HS.assign 2 sl2 rfl (Ev.lenN rfl rfl (Ev.blt 3 sl3 (by k_is) (by boot_by_name) (by kernel_rfl)) rfl (Ev.t_nodes rfl rfl (Ev.name 0 sl0 rfl)) hb) (HS.ite (EvT.ofV (Ev.callB rfl (Ev.blt 4 sl4 (by k_is) (by boot_by_name) (by kernel_rfl)) (Evs.cons rfl (Ev.name 1 sl1 rfl) (Evs.cons rfl (Ev.blt 5 sl5 (by k_is) (by boot_by_name) (by kernel_rfl)) Evs.nil)) CT.isi_ib) rfl) (fun z9=>(False.elim (by contradiction))) (fun z9=>(HS.nil (HS.ite (EvT.ofV (Ev.callB rfl (Ev.blt 4 sl4 (by k_is) (by boot_by_name) (by kernel_rfl)) (Evs.cons rfl (Ev.name 1 sl1 rfl) (Evs.cons rfl (Ev.blt 6 sl6 (by k_is) (by boot_by_name) (by kernel_rfl)) Evs.nil)) CT.isi_ii) rfl) (fun z9=>(HS.ret (Ev.bin (Ev.nameI 1 sl1 rfl) (Ev.bin (Ev.bin (Ev.name 2 sl2 rfl) Ev.int IOp.sub) Ev.int IOp.or) (IOp.mod hz)) (fun z9 z9=>(And.intro (by assumption) rfl)))) (fun z9=>(False.elim (by contradiction)))))))))
 | .bytes b tk,hk =>
  have hb':b.size < 100:=hk
  refine Spec.enterA (by k_is) (by k_is) (fun s X=>(BindsTo.of_eq rfl)) rfl (by kernel_rfl) (by kernel_rfl) rfl rfl rfl (by decide) ?_
  (exact (HS.assign 2 sl2 rfl (Ev.lenN rfl rfl (Ev.blt 3 sl3 (by k_is) (by boot_by_name) (by kernel_rfl)) rfl (Ev.t_nodes rfl rfl (Ev.name 0 sl0 rfl)) hb) (HS.ite (EvT.ofV (Ev.callB rfl (Ev.blt 4 sl4 (by k_is) (by boot_by_name) (by kernel_rfl)) (Evs.cons rfl (Ev.name 1 sl1 rfl) (Evs.cons rfl (Ev.blt 5 sl5 (by k_is) (by boot_by_name) (by kernel_rfl)) Evs.nil)) (CT.isi_b (fun z9=>(by kit_is)))) rfl) (fun z9=>(False.elim (by contradiction))) (fun z9=>(HS.nil (HS.ite (EvT.ofV (Ev.callB rfl (Ev.blt 4 sl4 (by k_is) (by boot_by_name) (by kernel_rfl)) (Evs.cons rfl (Ev.name 1 sl1 rfl) (Evs.cons rfl (Ev.blt 6 sl6 (by k_is) (by boot_by_name) (by kernel_rfl)) Evs.nil)) (CT.isi_b (fun z9=>(by kit_is)))) rfl) (fun z9=>(False.elim (by contradiction))) (fun z9=>(HS.nil (HS.ite (EvT.ofV (Ev.callB rfl (Ev.blt 4 sl4 (by k_is) (by boot_by_name) (by kernel_rfl)) (Evs.cons rfl (Ev.name 1 sl1 rfl) (Evs.cons rfl (Ev.blt 7 sl7 (by k_is) (by boot_by_name) (by kernel_rfl)) Evs.nil)) (CT.isi_b (fun z9=>(by kit_is)))) rfl) (fun z9=>(HS.ret (Ev.bin (Ev.of (HE.callK rfl (Ev.glob 8 sl8 (by k_is)) (Evs.cons rfl (Ev.name 1 sl1 rfl) Evs.nil) (by k_is) (nb rfl) (spec_string_hash b tk (Mine.TL w.params A C R) hb'))) (Ev.bin (Ev.name 2 sl2 rfl) Ev.int IOp.sub) IOp.and) (fun z9 z9=>(And.intro (by assumption) rfl)))) (fun z9=>(False.elim (by contradiction))))))))))))
end
theorem ky_ok {v:Value} (h:okKey v):∃ k,ky v=some k:=by
 cases v <;> first | exact h.elim | exact ⟨_,rfl⟩
theorem ky_none {v:Value} {k:Ky} (h:ky v=some k):v≠.none:=by intro e; rw [e] at h; cases h
noncomputable def isV:Value→Prop
 | .none=>True
 | .int _ _=>True
 | _=>False
theorem handed_key {v:Value} (h:v=.none∨okKey v):handedIn v=true:=by
 rcases h with rfl | h
 ·rfl
 ·cases v <;> first | exact h.elim | rfl
theorem handed_val {v:Value} (h:isV v):handedIn v=true:=by
 cases v <;> first | exact h.elim | rfl
inductive Chain (ns:List NodeR):Int→List Nat→Prop where
 | nil {p:Int}:p < 0→Chain ns p []
 | cons {i:Nat} {n:NodeR} {l:List Nat}:ns[i]?=some n→Chain ns n.next l→Chain ns i (i::l)
structure WFn (ns:List NodeR):Prop where
 keys:∀ (i:Nat) (n:NodeR),ns[i]?=some n→n.key=.none∨okKey n.key
 vals:∀ (i:Nat) (n:NodeR),ns[i]?=some n→isV n.val
 nonk:∀ (i:Nat) (n:NodeR),ns[i]?=some n→n.key=.none→n.next < 0∧n.val=.none
 chain:∀ i,i < ns.length→∃ l,Chain ns (i:Nat) l
 nopred:∀ (i j:Nat) (n m:NodeR),ns[i]?=some n→ns[j]?=some m→m.key=.none→n.next≠(j:Int)
 inj:∀ (i j:Nat) (n m:NodeR),ns[i]?=some n→ns[j]?=some m→n.next=m.next→0≤n.next→i=j
 reach:∀ (i:Nat) (n:NodeR) (l:List Nat),ns[i]?=some n→n.key≠.none→Chain ns (mp n.key ns.length) l→i∈l
 main:∀ (i:Nat) (n:NodeR),ns[i]?=some n→n.key≠.none→∃ (p:Nat) (m:NodeR),ns[p]?=some m∧(p:Int)=mp n.key ns.length∧m.key≠.none∧mp m.key ns.length=p
 dist:∀ (i j:Nat) (n m:NodeR) (k:Ky),ns[i]?=some n→ns[j]?=some m→ky n.key=some k→ky m.key=some k→i=j
structure WF (C:TC):Prop where
 n:WFn C.nodes
 arr:∀ v∈C.arr,isV v
 out:∀ (i:Nat) (n:NodeR) (k:Int) (t:Tok),C.nodes[i]?=some n→n.key=.int k t→¬ (1≤k∧k≤C.arr.length)
 fr0:0≤C.fr
 fr1:C.fr≤C.nodes.length
 free:∀ (i:Nat) (n:NodeR),C.nodes[i]?=some n→C.fr≤(i:Int)→n.key≠.none
 la:C.arr.length < 1000
 ln:C.nodes.length < 1000
noncomputable def fidx (ns:List NodeR) (k:Ky):Option Nat:=ns.findIdx? fun n=>decide (ky n.key=some k)
noncomputable def fint (o:Option Nat):Int:=match o with | some j=>j | none=>-1
theorem fidx_some {ns:List NodeR} {k:Ky} {j:Nat} (h:fidx ns k=some j):∃ n,ns[j]?=some n∧ky n.key=some k:=by
 unfold fidx at h
 obtain ⟨hj,h1,_⟩:=List.findIdx?_eq_some_iff_getElem.mp h
 exact ⟨ns[j],by simp [hj],by simpa using h1⟩
theorem fidx_none {ns:List NodeR} {k:Ky} (h:fidx ns k=none):∀ (i:Nat) (n:NodeR),ns[i]?=some n→ky n.key≠some k:=by
 intro i n hn
 have:=List.findIdx?_eq_none_iff.mp h n (List.mem_of_getElem? hn)
 simpa using this
theorem fidx_of {ns:List NodeR} {k:Ky} (W:WFn ns) {i:Nat} {n:NodeR} (hn:ns[i]?=some n) (hk:ky n.key=some k):fidx ns k=some i:=by
 cases h:fidx ns k with
 | none=>exact absurd hk (fidx_none h i n hn)
 | some j =>
  obtain ⟨m,hm,hmk⟩:=fidx_some h
  rw [W.dist i j n m k hn hm hk hmk]
theorem Chain.tail_of {ns:List NodeR} {p:Int} {l:List Nat} (h:Chain ns p l) (hp:0≤p):∃ i n l',p=(i:Nat)∧l=i::l'∧ns[i]?=some n∧Chain ns n.next l':=by
 cases h with
 | nil hn=>exact absurd hn (Int.not_lt.2 hp)
 | cons hn hc=>exact ⟨_,_,_,rfl,rfl,hn,hc⟩
section
theorem okV_of {v:Value} (h:v=.none∨okKey v):okV v:=by
 rcases h with rfl | h
 ·exact .n
 ·cases v <;> first | exact h.elim | exact .i | exact .b
theorem okV_ky {v:Value} {k:Ky} (h:ky v=some k):okV v:=by
 cases v <;> first | cases h; done | exact .i | exact .b
theorem spec_raw_equal' {a b:Value} {k:Ky} {led:Led} (ha:a=.none∨okKey a) (hb:ky b=some k):Spec w mean mg mb (.ref 229) [a,b] 2 led (Pst (.b (ky a=some k)) led) :=
 hb▸ps_raw_equal (okV_of ha) (okV_ky hb) (ky_none hb)
theorem Chain.out {ns:List NodeR} {p:Int} {l:List Nat} (h:Chain ns p l) (hp:¬ 0≤p):l=[]:=by
 cases h with
 | nil=>rfl
 | cons=>exact (lq [_] [] [.nl Kq Nq] .f [] rfl hp).elim
theorem spec_find_node (A:TA) (C:TC) (R:Led) (v:Value) (k:Ky) (W:WFn C.nodes) (hl:C.nodes.length < 1000) (hv:okKey v) (hk:ky v=some k):Spec w mean mg mb (.ref 349) [.ref A.t,v] 6 (TL w.params A C R) (Pst (.i (fint (fidx C.nodes k))) (TL w.params A C R)):=by
 have hvn:v≠.none:=ky_none hk
 refine Spec.enterA (by k_is) (by k_is) (fun s X=>(BindsTo.of_eq rfl)) rfl (by kernel_rfl) (by kernel_rfl) rfl rfl rfl (by decide) ?_
 refine HS.ite (EvT.or (EvT.cmp (Ev.lenN rfl rfl (Ev.blt 3 sl3 (by k_is) (by boot_by_name) (by kernel_rfl)) rfl (Ev.t_nodes rfl rfl (Ev.name 0 sl0 rfl)) hl) Ev.int ICmp.eq rfl) (fun _=>(Ev.isNone (Ev.name 1 sl1 rfl)))) (fun _=>(HS.ret (Ev.neg Ev.int) ?_)) (fun _=>(HS.nil (HS.assign 2 sl2 rfl (Ev.of (HE.meth (Ev.name 0 sl0 rfl) InsAt.tab ⟨by k_is,by k_is,by k_is,by k_is⟩ rfl rfl (Evs.cons rfl (Ev.name 1 sl1 rfl) Evs.nil) (nb rfl) (spec_main_position A C R v hv (by lia) hl))) ?_)))
 ·rename_i hbr
  have hbr:C.nodes.length=0:=by rcases hbr with h | h; exact Int.ofNat.inj h; exact absurd h hvn
  have e:fidx C.nodes k=none:=by
   rw [List.eq_nil_of_length_eq_zero hbr]; rfl
  rw [e]
  exact fun v hv=>⟨hv,rfl⟩
 ·have hr:=mp_range v C.nodes.length (by lia)
  obtain ⟨l,hc⟩:=W.chain (mp v C.nodes.length).toNat (by exact lq [_,_] [_] [.an (.le Kq Zq) (.lt Zq Nq),.tn 1 Zq] (.t Nr Nq) [[1010100],[110110]] rfl hr rfl)
  rw [show (((mp v C.nodes.length).toNat:Nat):Int)=mp v C.nodes.length by exact lq [_,_] [_] [.an (.le Kq Zq) (.lt Zq Nq),.tn 1 Zq] (.eq Nr Zq) [[1010000,1100000],[110010,101000]] rfl hr rfl] at hc
  refine HS.while (X:=Int×List Nat) (fun x=>Chain C.nodes x.1 x.2∧∀ j,fidx C.nodes k=some j→j∈x.2) (fun x=>((NM.nil.set 0 (.v (.ref A.t))).set 1 (.v v)).set 2 (.i x.1)) (fun _=>TL w.params A C R) (fun x=>x.2.length) (mp v C.nodes.length,l)
   ⟨hc,fun j hj=>?_⟩ (by exact NM.Sub.same rfl (NM.Sub.same rfl (NM.Sub.same rfl NM.Sub.nil))) rfl ?_
  ·obtain ⟨n,hn,hnk⟩:=fidx_some hj
   exact W.reach j n l hn (ky_none hnk) (by rw [mp_ky hnk hk]; exact hc)
  intro x ⟨hc,hin⟩ Q' next brk ret
  refine Tst.mk' (EvT.cmp (Ev.name 2 sl2 rfl) Ev.int ICmp.ge rfl) (fun _=>?_) (fun _=>(HS.ret (Ev.neg Ev.int) ?_))
  ·rename_i ha
   obtain ⟨i,n,l',hxi,hl',hn,hc'⟩:=hc.tail_of ha
   have hkn:=W.keys i n hn
   have hh1:=handed_key hkn
   refine HS.ite (EvT.ofB (Ev.of (HE.callK rfl (Ev.glob 4 sl4 (by k_is)) (Evs.cons rfl (Ev.n_key rfl rfl rfl hn hh1 (Ev.node rfl rfl (Ev.t_nodes rfl rfl (Ev.name 0 sl0 rfl)) (Ev.name 2 sl2 rfl) hxi hn (idx_lt hn hl))) (Evs.cons rfl (Ev.name 1 sl1 rfl) Evs.nil)) (by k_is) (nb rfl) (spec_raw_equal' hkn hk))) rfl) (fun _=>(HS.ret (Ev.name 2 sl2 rfl) ?_)) (fun _=>(HS.nil (HS.assign 2 sl2 rfl (Ev.n_next rfl rfl rfl hn (Ev.node rfl rfl (Ev.t_nodes rfl rfl (Ev.name 0 sl0 rfl)) (Ev.name 2 sl2 rfl) hxi hn (idx_lt hn hl))) (HS.nil (HS.done ?_)))))
   ·rename_i hb
    have e:fidx C.nodes k=some i:=fidx_of W hn hb
    exact fun v hv=>ret v _ _ ⟨by rw [e]; rw [hxi] at hv; exact hv,rfl⟩
   ·rename_i hb
    refine next (n.next,l') _ ⟨hc',fun j hj=>?_⟩ (by simp [hl']) (by exact NM.Sub.int rfl (NM.Sub.same rfl (NM.Sub.same rfl NM.Sub.nil)))
    have hm:=hin j hj
    rw [hl'] at hm
    rcases List.mem_cons.mp hm with rfl | h
    ·obtain ⟨m,hm,hmk⟩:=fidx_some hj
     rw [hn] at hm
     cases hm
     exact absurd hmk hb
    ·exact h
  ·rename_i hb
   have e:fidx C.nodes k=none:=by
    cases h:fidx C.nodes k with
    | none=>rfl
    | some j =>
     have:=hin j h
     rw [hc.out hb] at this
     cases this
   rw [e]
   exact fun v hv=>⟨hv,rfl⟩
theorem spec_find_node' (A:TA) (C:TC) (R:Led) (v:Value) (k:Ky) (o:Option Nat) (W:WFn C.nodes) (hl:C.nodes.length < 1000) (hv:okKey v) (hk:ky v=some k) (ho:fidx C.nodes k=o):Spec w mean mg mb (.ref 349) [.ref A.t,v] 6 (TL w.params A C R) (Pst (.i (fint o)) (TL w.params A C R)):=by
 subst ho
 exact spec_find_node A C R v k W hl hv hk
theorem spec_find_none {A:TA} {C:TC} {R:Led} {v:Value} {k:Ky} (W:WFn C.nodes) (hl:C.nodes.length < 1000) (hv:okKey v) (hk:ky v=some k) (ho:fidx C.nodes k=none):Spec w mean mg mb (.ref 349) [.ref A.t,v] 6 (TL w.params A C R) (Pst (.i (-1)) (TL w.params A C R)) :=
 spec_find_node' A C R v k none W hl hv hk ho
theorem spec_find_some {A:TA} {C:TC} {R:Led} {v:Value} {k:Ky} {j:Nat} (W:WFn C.nodes) (hl:C.nodes.length < 1000) (hv:okKey v) (hk:ky v=some k) (ho:fidx C.nodes k=some j):Spec w mean mg mb (.ref 349) [.ref A.t,v] 6 (TL w.params A C R) (Pst (.i j) (TL w.params A C R)) :=
 spec_find_node' A C R v k (some j) W hl hv hk ho
end
noncomputable def nodeGet (ns:List NodeR) (k:Ky):Value:=match fidx ns k with
 | some j=>(ns[j]?).elim .none (·.val)
 | none=>.none
noncomputable def look (C:TC) (k:Ky):Value:=match k with
 | .i n=>if 1≤n∧n≤C.arr.length then (C.arr[(n - 1).toNat]?).getD .none else nodeGet C.nodes k
 | .b _=>nodeGet C.nodes k
theorem nodeGet_some {ns:List NodeR} {k:Ky} {j:Nat} {n:NodeR} (h:fidx ns k=some j) (hn:ns[j]?=some n):nodeGet ns k=n.val:=by
 unfold nodeGet; rw [h]; simp [hn]
theorem nodeGet_none {ns:List NodeR} {k:Ky} (h:fidx ns k=none):nodeGet ns k=.none:=by
 unfold nodeGet; rw [h]
theorem look_arr {C:TC} {n:Int} {x:Value} (h:1≤n∧n≤C.arr.length) (hx:C.arr[(n - 1).toNat]?=some x):look C (.i n)=x:=by
 simp only [look,if_pos h,hx,Option.getD_some]
theorem look_out {C:TC} {n:Int} (h:¬ (1≤n∧n≤C.arr.length)):look C (.i n)=nodeGet C.nodes (.i n):=if_neg h
theorem arr_at {C:TC} {n:Int} (h:1≤n∧n≤C.arr.length):∃ x,C.arr[(n - 1).toNat]?=some x:=⟨C.arr[(n - 1).toNat]'(by exact lq [_,_] [_] [.an (.le Kr Zq) (.le Zq Nq),.tn 1 (.s Zq Kr)] (.t Nr Nq) [[1010100],[110110]] rfl h rfl),by simp⟩
theorem handed_arr {C:TC} (W:WF C) {i:Nat} {x:Value} (h:C.arr[i]?=some x):handedIn x=true:=handed_val (W.arr x (List.mem_of_getElem? h))
section
theorem spec_get_int (A:TA) (C:TC) (R:Led) (n:Int) (tk:Tok) (W:WF C):Spec w mean mg mb (.ref 363) [.ref A.t,.int n tk] 7 (TL w.params A C R) (Pst (.v (look C (.i n))) (TL w.params A C R)):=by
 have hla:=W.la
 have hln:=W.ln
 by_cases h:1≤n∧n≤C.arr.length
 ·obtain ⟨x,hx⟩:=arr_at h
  rw [look_arr h hx]
  refine Spec.enterA (by k_is) (by k_is) (fun s X=>(BindsTo.of_eq rfl)) rfl (by kernel_rfl) (by kernel_rfl) rfl rfl rfl (by decide) ?_
  (exact (HS.ite (EvT.chain Ev.int (Ev.nameI 1 sl1 rfl) (Ev.lenA rfl rfl (Ev.blt 3 sl3 (by k_is) (by boot_by_name) (by kernel_rfl)) rfl (Ev.t_array rfl rfl (Ev.name 0 sl0 rfl)) hla) ICmp.le ICmp.le rfl) (fun z9=>(HS.ret (Ev.arr rfl rfl (Ev.t_array rfl rfl (Ev.name 0 sl0 rfl)) (Ev.bin (Ev.nameI 1 sl1 rfl) Ev.int IOp.sub) (by exact lq [_] [_] [.an (.le Kr Zq) (.le Zq Nq)] (.le Kq (.s Zq Kr)) [[1010]] rfl z9) hx hla) (fun z9 z9=>(And.intro (by assumption) rfl)))) (fun z9=>(False.elim (by contradiction)))))
 ·rw [look_out h]
  cases hf:fidx C.nodes (.i n) with
  | none =>
   rw [nodeGet_none hf]
   refine Spec.enterA (by k_is) (by k_is) (fun s X=>(BindsTo.of_eq rfl)) rfl (by kernel_rfl) (by kernel_rfl) rfl rfl rfl (by decide) ?_
   (exact (HS.ite (EvT.chain Ev.int (Ev.nameI 1 sl1 rfl) (Ev.lenA rfl rfl (Ev.blt 3 sl3 (by k_is) (by boot_by_name) (by kernel_rfl)) rfl (Ev.t_array rfl rfl (Ev.name 0 sl0 rfl)) hla) ICmp.le ICmp.le rfl) (fun z9=>(False.elim (by contradiction))) (fun z9=>(HS.nil (HS.assign 2 sl2 rfl (Ev.of (HE.meth (Ev.name 0 sl0 rfl) InsAt.tab ⟨by k_is,by k_is,by k_is,by k_is⟩ rfl rfl (Evs.cons rfl (Ev.name 1 sl1 rfl) Evs.nil) (nb rfl) (spec_find_none (WF.n W) hln True.intro rfl hf))) (HS.ret (Ev.ite (EvT.cmp (Ev.name 2 sl2 rfl) Ev.int ICmp.lt rfl) (fun z9=>Ev.none) (fun z9=>(False.elim (by contradiction)))) (fun z9 z9=>(And.intro (by assumption) rfl))))))))
  | some j =>
   obtain ⟨nd,hn,hnk⟩:=fidx_some hf
   rw [nodeGet_some hf hn]
   have hh:=handed_val (W.n.vals j nd hn)
   refine Spec.enterA (by k_is) (by k_is) (fun s X=>(BindsTo.of_eq rfl)) rfl (by kernel_rfl) (by kernel_rfl) rfl rfl rfl (by decide) ?_
   (exact (HS.ite (EvT.chain Ev.int (Ev.nameI 1 sl1 rfl) (Ev.lenA rfl rfl (Ev.blt 3 sl3 (by k_is) (by boot_by_name) (by kernel_rfl)) rfl (Ev.t_array rfl rfl (Ev.name 0 sl0 rfl)) hla) ICmp.le ICmp.le rfl) (fun z9=>(False.elim (by contradiction))) (fun z9=>(HS.nil (HS.assign 2 sl2 rfl (Ev.of (HE.meth (Ev.name 0 sl0 rfl) InsAt.tab ⟨by k_is,by k_is,by k_is,by k_is⟩ rfl rfl (Evs.cons rfl (Ev.name 1 sl1 rfl) Evs.nil) (nb rfl) (spec_find_some (WF.n W) hln True.intro rfl hf))) (HS.ret (Ev.ite (EvT.cmp (Ev.name 2 sl2 rfl) Ev.int ICmp.lt rfl) (fun z9=>(False.elim (by contradiction))) (fun z9=>(Ev.n_val rfl rfl rfl hn hh (Ev.node rfl rfl (Ev.t_nodes rfl rfl (Ev.name 0 sl0 rfl)) (Ev.name 2 sl2 rfl) rfl hn (idx_lt hn hln))))) (fun z9 z9=>(And.intro (by assumption) rfl))))))))
end
theorem get_set {ns:List NodeR} {p:Nat} {m m':NodeR} (h:ns[p]?=some m) {i:Nat} {n:NodeR}:(ns.set p m')[i]?=some n↔(i=p∧n=m')∨(i≠p∧ns[i]?=some n):=by
 have hl:=(List.getElem?_eq_some_iff.mp h).1
 rw [List.getElem?_set]
 by_cases e:p=i
 ·subst e
  simp only [if_true,hl,Option.some.injEq,true_and,ne_eq,not_true_eq_false,false_and,or_false]
  exact eq_comm
 ·rw [if_neg e]
  constructor
  ·intro q; exact .inr ⟨fun z=>e z.symm,q⟩
  ·rintro (⟨rfl,_⟩ | ⟨_,q⟩)
   ·exact absurd rfl e
   ·exact q
theorem Chain.unique {ns:List NodeR} {p:Int} {l l':List Nat} (h:Chain ns p l) (h':Chain ns p l'):l=l':=by
 induction h generalizing l' with
 | nil hp =>
  cases h' with
  | nil _=>rfl
  | cons _ _=>exact (lq [_] [] [.lt Nq Kq] .f [] rfl hp).elim
 | @cons i n l hn hc ih =>
  obtain ⟨i',n',l2,e,rfl,hn',hc'⟩:=h'.tail_of (by exact Int.natCast_nonneg _)
  obtain rfl:i=i':=by exact Int.ofNat.inj e
  rw [hn] at hn'
  cases hn'
  rw [ih hc']
theorem Chain.head {ns:List NodeR} {i:Nat} {l:List Nat} (h:Chain ns (i:Int) l):∃ n l',l=i::l'∧ns[i]?=some n∧Chain ns n.next l':=by
 obtain ⟨i',n,l',e,rfl,hn,hc⟩:=h.tail_of (by exact Int.natCast_nonneg _)
 obtain rfl:i=i':=by exact Int.ofNat.inj e
 exact ⟨n,l',rfl,hn,hc⟩
theorem Chain.congr {ns ns':List NodeR} (e:∀ (i:Nat) (n:NodeR),ns[i]?=some n→∃ n':NodeR,ns'[i]?=some n'∧n'.next=n.next) {p:Int} {l:List Nat} (h:Chain ns p l):Chain ns' p l:=by
 induction h with
 | nil hp=>exact .nil hp
 | cons hn _ ih =>
  obtain ⟨n',hn',e'⟩:=e _ _ hn
  exact .cons hn' (e'▸ih)
theorem Chain.mem {ns:List NodeR} {i:Nat} {l:List Nat} (h:Chain ns (i:Int) l):i∈l:=by
 obtain ⟨_,_,rfl,_,_⟩:=h.head
 exact .head _
theorem Chain.mem2 {ns:List NodeR} {i j:Nat} {n:NodeR} {l:List Nat} (h:Chain ns (i:Int) l) (hn:ns[i]?=some n) (hx:n.next=(j:Int)):j∈l:=by
 obtain ⟨n',l',rfl,hn',hc⟩:=h.head
 cases Option.some.inj (hn.symm.trans hn')
 exact .tail _ (Chain.mem (hx▸hc))
theorem set_el {ns:List NodeR} {p:Nat} {m m':NodeR} (h:ns[p]?=some m) {P:Nat→NodeR→Prop} (hp:P p m') (ho:∀ (i:Nat) (n:NodeR),i≠p→ns[i]?=some n→P i n) (i:Nat) (n:NodeR) (hn:(ns.set p m')[i]?=some n):P i n:=by
 rcases (get_set h).mp hn with ⟨rfl,rfl⟩ | ⟨a,b⟩
 ·exact hp
 ·exact ho i n a b
theorem WFn.self {ns:List NodeR} (W:WFn ns) {i:Nat} {n:NodeR} (hn:ns[i]?=some n):n.next≠(i:Int):=by
 intro e
 obtain ⟨l,hc⟩:=W.chain i (List.getElem?_eq_some_iff.mp hn).1
 obtain ⟨n',l',rfl,hn',hc'⟩:=hc.head
 rw [hn] at hn'
 cases hn'
 rw [e] at hc'
 have:=hc.unique hc'
 have:=congrArg List.length this
 simp at this
theorem WFn.nodeGet_of {ns:List NodeR} (W:WFn ns) {i:Nat} {n:NodeR} {k:Ky} (hn:ns[i]?=some n) (hk:ky n.key=some k):nodeGet ns k=n.val:=nodeGet_some (fidx_of W hn hk) hn
theorem fidx_absent {ns:List NodeR} {k:Ky} (h:∀ (i:Nat) (n:NodeR),ns[i]?=some n→ky n.key≠some k):fidx ns k=none:=by
 cases e:fidx ns k with
 | none=>rfl
 | some j =>
  obtain ⟨n,hn,hk⟩:=fidx_some e
  exact absurd hk (h j n hn)
theorem nodeGet_absent {ns:List NodeR} {k:Ky} (h:∀ (i:Nat) (n:NodeR),ns[i]?=some n→ky n.key≠some k):nodeGet ns k=.none:=nodeGet_none (fidx_absent h)
theorem node_same {ns ns':List NodeR} {k:Ky} (W:WFn ns) (h1:∀ (i:Nat) (n:NodeR),ns[i]?=some n→ky n.key=some k→nodeGet ns' k=n.val) (h2:(∀ (i:Nat) (n:NodeR),ns[i]?=some n→ky n.key≠some k)→∀ (i:Nat) (n:NodeR),ns'[i]?=some n→ky n.key≠some k):nodeGet ns' k=nodeGet ns k:=by
 cases e:fidx ns k with
 | some j =>
  obtain ⟨n,hn,hk⟩:=fidx_some e
  exact (h1 j n hn hk).trans (W.nodeGet_of hn hk).symm
 | none=>exact (nodeGet_absent (h2 (fidx_none e))).trans (nodeGet_absent (fidx_none e)).symm
theorem key_ky {ns:List NodeR} (W:WFn ns) {i:Nat} {n:NodeR} (hn:ns[i]?=some n) (h:n.key≠.none):okKey n.key:=(W.keys i n hn).resolve_left h
section
variable {ns:List NodeR} (W:WFn ns) {p:Nat} {m:NodeR} (hm:ns[p]?=some m) {kv v:Value} {k:Ky} (hok:okKey kv) (hk:ky kv=some k) (hv:isV v) (hp:mp kv ns.length=p) (hab:∀ (i:Nat) (n:NodeR),ns[i]?=some n→ky n.key≠some k)
include W hm hok hk hv hp hab
theorem wf_A:WFn (ns.set p { m with key:=kv,val:=v }):=by
 have hkn:=ky_none hk
 have G:=@set_el ns p m { m with key:=kv,val:=v } hm
 have hm':=@set_self ns p m { m with key:=kv,val:=v } hm
 have fwd:∀ (i:Nat) (n:NodeR),ns[i]?=some n→∃ n':NodeR,(ns.set p { m with key:=kv,val:=v })[i]?=some n'∧n'.next=n.next:=fun i n hn =>
  (Decidable.em (i=p)).elim (fun e=>by subst e; exact ⟨_,hm',show m.next=n.next from congrArg NodeR.next (Option.some.inj (hm.symm.trans hn))⟩) fun e=>⟨n,(set_ne (Ne.symm e) hn),rfl⟩
 have bwd:∀ (i:Nat) (n:NodeR),(ns.set p { m with key:=kv,val:=v })[i]?=some n→∃ n':NodeR,ns[i]?=some n'∧n'.next=n.next:=G ⟨m,hm,rfl⟩ fun i n _ hn=>⟨n,hn,rfl⟩
 refine ⟨G (.inr hok) fun i n _=>W.keys i n,G hv fun i n _=>W.vals i n,G (fun h=>absurd h hkn) fun i n _=>W.nonk i n,?_,fun i j n q hn=>G (P:=fun j q=>q.key=.none→n.next≠(j:Int)) (fun h=>absurd h hkn) (fun j q _ hq h=>?_) j q,?_,?_,?_,?_⟩
 ·intro i hi
  rw [List.length_set] at hi
  obtain ⟨l,hl⟩:=W.chain i hi
  exact ⟨l,hl.congr fwd⟩
 ·obtain ⟨n',hn',e⟩:=bwd i n hn
  exact e▸W.nopred i j n' q hn' hq h
 ·intro i j n q hn hq e h
  obtain ⟨n',hn',e1⟩:=bwd i n hn
  obtain ⟨q',hq',e2⟩:=bwd j q hq
  exact W.inj i j n' q' hn' hq' (e1.trans (e.trans e2.symm)) (e1.symm▸h)
 ·rw [List.length_set]
  exact fun i n l=>G (P:=fun i n=>n.key≠.none→Chain (ns.set p { m with key:=kv,val:=v }) (mp n.key ns.length) l→i∈l) (fun _ hc=>Chain.mem (hp▸hc)) (fun i n _ hn h hc=>W.reach i n l hn h (hc.congr bwd)) i n
 ·rw [List.length_set]
  refine G (fun _=>⟨p,_,hm',hp.symm,hkn,hp⟩) fun i n _ hn h=>?_
  obtain ⟨q,mq,hq,e,h1,h2⟩:=W.main i n hn h
  by_cases hqp:q=p
  ·exact ⟨p,_,hm',hqp▸e,hkn,hp⟩
  ·exact ⟨q,mq,set_ne (Ne.symm hqp) hq,e,h1,h2⟩
 ·exact fun i j n q k' hn hq h1 h2=>G (P:=fun i n=>ky n.key=some k'→i=j)
   (fun e1=>G (P:=fun j q=>ky q.key=some k'→p=j) (fun _=>rfl) (fun j q _ hq e2=>(hab j q hq (e2.trans (e1.symm.trans hk))).elim) j q hq h2)
   (fun i n _ hn e1=>G (P:=fun j q=>ky q.key=some k'→i=j) (fun e2=>(hab i n hn (e1.trans (e2.symm.trans hk))).elim) (fun j q _ hq=>W.dist i j n q k' hn hq e1) j q hq h2) i n hn h1
theorem get_A (hd:m.val=.none) (k':Ky):nodeGet (ns.set p { m with key:=kv,val:=v }) k'=if k'=k then v else nodeGet ns k':=by
 have W':=wf_A W hm hok hk hv hp hab
 have hm':=@set_self ns p m { m with key:=kv,val:=v } hm
 by_cases e:k'=k
 ·rw [if_pos e,e]
  exact W'.nodeGet_of hm' hk
 ·rw [if_neg e]
  have no:ky kv≠some k':=fun z=>e (Option.some.inj (z.symm.trans hk))
  exact node_same W (fun i n hn hkn=>(Decidable.em (i=p)).elim (fun hi=>by
    subst hi
    cases Option.some.inj (hm.symm.trans hn)
    exact hd▸nodeGet_absent (set_el hm no fun j q hj hq z=>hj (W.dist j i q m k' hq hm z hkn)))
   fun hi=>W'.nodeGet_of (set_ne (Ne.symm hi) hn) hkn) fun h=>set_el hm no fun j q _=>h j q
end
structure StepB (ns ns':List NodeR) (p s:Nat) (m sp:NodeR) (kv v:Value):Prop where
 len:ns'.length=ns.length
 hm:ns[p]?=some m
 hs:ns[s]?=some sp
 mkey:m.key≠.none
 skey:sp.key=.none
 ne:s≠p
 hp':∃ t,ns'[p]?=some ⟨m.key,m.val,s,t⟩
 hs':∃ t,ns'[s]?=some ⟨kv,v,m.next,t⟩
 rest:∀ i,i≠p→i≠s→ns'[i]?=ns[i]?
theorem NodeR.is {n:NodeR} {k v:Value} {x:Int} (a1:n.key=k) (a2:n.val=v) (a3:n.next=x):some n=some ⟨k,v,x,n.nt⟩:=by subst a1 a2 a3; rfl
theorem StepB.el {ns ns':List NodeR} {p s:Nat} {m sp:NodeR} {kv v:Value} (S:StepB ns ns' p s m sp kv v) {t1 t2:Tok} (hp:ns'[p]?=some ⟨m.key,m.val,s,t1⟩) (hs:ns'[s]?=some ⟨kv,v,m.next,t2⟩)
  {P:Nat→NodeR→Prop} (h1:P p ⟨m.key,m.val,s,t1⟩) (h2:P s ⟨kv,v,m.next,t2⟩) (h3:∀ (i:Nat) (n:NodeR),i≠p→i≠s→ns[i]?=some n→P i n) (i:Nat) (n:NodeR) (hn:ns'[i]?=some n):P i n:=by
 by_cases e1:i=p
 ·subst e1; cases Option.some.inj (hp.symm.trans hn); exact h1
 ·by_cases e2:i=s
  ·subst e2; cases Option.some.inj (hs.symm.trans hn); exact h2
  ·exact h3 i n e1 e2 ((S.rest i e1 e2).symm.trans hn)
section
variable {ns ns':List NodeR} (W:WFn ns) {p s:Nat} {m sp:NodeR} {kv v:Value} {k:Ky} (S:StepB ns ns' p s m sp kv v) (hok:okKey kv) (hk:ky kv=some k) (hv:isV v) (hp:mp kv ns.length=p) (hmm:mp m.key ns.length=p) (hab:∀ (i:Nat) (n:NodeR),ns[i]?=some n→ky n.key≠some k)
include W S hok hk hv hp hmm hab
theorem wf_B:WFn ns':=by
 have hkn:=ky_none hk
 obtain ⟨t1,hm'⟩:=S.hp'
 obtain ⟨t2,hs'⟩:=S.hs'
 have G:=@StepB.el ns ns' p s m sp kv v S t1 t2 hm' hs'
 obtain ⟨len,hm,hs,mk,sk,hne,_,_,rest⟩:=S
 have nos:∀ (i:Nat) (n:NodeR),ns[i]?=some n→n.next≠(s:Int):=fun i n hn=>W.nopred i s n sp hn hs sk
 have ins:∀ {q:Int} {l:List Nat},Chain ns q l→q≠(s:Int)→Chain ns' q (l.flatMap fun i=>if i=p then [p,s] else [i]):=by
  intro q l hc
  induction hc with
  | nil h=>intro _; exact .nil h
  | @cons i n l hn hc ih =>
   intro hq
   rw [List.flatMap_cons]
   by_cases h1:i=p
   ·subst h1
    cases Option.some.inj (hm.symm.trans hn)
    rw [if_pos rfl]
    exact .cons hm' (.cons hs' (ih (nos i m hm)))
   ·rw [if_neg h1]
    exact .cons ((rest i h1 fun e=>hq (congrArg Int.ofNat e)).trans hn) (ih (nos i n hn))
 have sne:∀ (q:Nat) (mq:NodeR),ns[q]?=some mq→mq.key≠.none→(q:Int)≠s:=fun q mq hq h e=>h (by
  cases Int.ofNat.inj e
  cases Option.some.inj (hs.symm.trans hq)
  exact sk)
 refine ⟨G (W.keys p m hm) (.inr hok) fun i n _ _=>W.keys i n,G (W.vals p m hm) hv fun i n _ _=>W.vals i n,G (fun h=>absurd h mk) (fun h=>absurd h hkn) fun i n _ _=>W.nonk i n,?_,?_,?_,?_,?_,?_⟩
 ·intro i hi
  rw [len] at hi
  by_cases h:i=s
  ·subst h
   obtain ⟨l,hl⟩:=W.chain p (List.getElem?_eq_some_iff.mp hm).1
   obtain ⟨n,l',rfl,hn,hc⟩:=hl.head
   cases Option.some.inj (hm.symm.trans hn)
   exact ⟨_,.cons hs' (ins hc (nos p m hm))⟩
  ·obtain ⟨l,hl⟩:=W.chain i hi
   exact ⟨_,ins hl fun e=>h (Int.ofNat.inj e)⟩
 ·exact fun i j n q hn=>G (P:=fun j q=>q.key=.none→n.next≠(j:Int)) (fun h=>absurd h mk) (fun h=>absurd h hkn) (fun j q _ hj hq h =>
   G (P:=fun _ n=>n.next≠(j:Int)) (fun e=>hj (Int.ofNat.inj e).symm) (W.nopred p j m q hm hq h) (fun i n _ _ hn=>W.nopred i j n q hn hq h) i n hn) j q
 ·exact fun i j n q hn hq=>G (P:=fun i n=>n.next=q.next→0≤n.next→i=j)
   (G (P:=fun j q=>(s:Int)=q.next→0≤(s:Int)→p=j) (fun _ _=>rfl) (fun e=>absurd e.symm (nos p m hm)) (fun j q _ _ hq e=>absurd e.symm (nos j q hq)) j q hq)
   (G (P:=fun j q=>m.next=q.next→0≤m.next→s=j) (fun e=>absurd e (nos p m hm)) (fun _ _=>rfl) (fun j q h1 _ hq e h=>absurd (W.inj p j m q hm hq e h).symm h1) j q hq)
   (fun i n h1 _ hn=>G (P:=fun j q=>n.next=q.next→0≤n.next→i=j) (fun e=>absurd e (nos i n hn)) (fun e h=>absurd (W.inj i p n m hn hm e h) h1) (fun j q _ _ hq=>W.inj i j n q hn hq) j q hq) i n hn
 ·rw [len]
  refine fun i n l=>G (P:=fun i n=>n.key≠.none→Chain ns' (mp n.key ns.length) l→i∈l) (fun _ hc=>Chain.mem (hmm▸hc)) (fun _ hc=>Chain.mem2 (hp▸hc) hm' rfl) (fun i n a1 _ hn h hc=>?_) i n
  obtain ⟨q,mq,hq,e,h1,_⟩:=W.main i n hn h
  obtain ⟨l0,hl0⟩:=W.chain q (List.getElem?_eq_some_iff.mp hq).1
  rw [← e] at hc
  rw [hc.unique (ins hl0 (sne q mq hq h1))]
  exact List.mem_flatMap.mpr ⟨i,W.reach i n l0 hn h (e▸hl0),by rw [if_neg a1]; exact .head _⟩
 ·rw [len]
  refine G (fun h=>⟨p,_,hm',hmm.symm,h,hmm⟩) (fun _=>⟨p,_,hm',hp.symm,mk,hmm⟩) fun i n _ _ hn h=>?_
  obtain ⟨q,mq,hq,e,h1,h2⟩:=W.main i n hn h
  by_cases hqp:q=p
  ·exact ⟨p,_,hm',hqp▸e,mk,hmm⟩
  ·exact ⟨q,mq,(rest q hqp fun z=>sne q mq hq h1 (congrArg Int.ofNat z)).trans hq,e,h1,h2⟩
 ·exact fun i j n q k' hn hq h1 h2=>G (P:=fun i n=>ky n.key=some k'→i=j)
   (fun e1=>G (P:=fun j q=>ky q.key=some k'→p=j) (fun _=>rfl) (fun e2=>(hab p m hm (e1.trans (e2.symm.trans hk))).elim) (fun j q _ _ hq=>W.dist p j m q k' hm hq e1) j q hq h2)
   (fun e1=>G (P:=fun j q=>ky q.key=some k'→s=j) (fun e2=>(hab p m hm (e2.trans (e1.symm.trans hk))).elim) (fun _=>rfl) (fun j q _ _ hq e2=>(hab j q hq (e2.trans (e1.symm.trans hk))).elim) j q hq h2)
   (fun i n _ _ hn e1=>G (P:=fun j q=>ky q.key=some k'→i=j) (fun e2=>W.dist i p n m k' hn hm e1 e2) (fun e2=>(hab i n hn (e1.trans (e2.symm.trans hk))).elim) (fun j q _ _ hq=>W.dist i j n q k' hn hq e1) j q hq h2) i n hn h1
theorem get_B (k':Ky):nodeGet ns' k'=if k'=k then v else nodeGet ns k':=by
 have W':=wf_B W S hok hk hv hp hmm hab
 obtain ⟨t1,hm'⟩:=S.hp'
 obtain ⟨t2,hs'⟩:=S.hs'
 by_cases e:k'=k
 ·rw [if_pos e,e]
  exact W'.nodeGet_of hs' hk
 ·rw [if_neg e]
  refine node_same W (fun i n hn hkn=>?_) fun h=>S.el hm' hs' (h p m S.hm) (fun z=>e (Option.some.inj (z.symm.trans hk))) fun j q _ _=>h j q
  by_cases hi:i=p
  ·subst hi
   cases Option.some.inj (S.hm.symm.trans hn)
   exact (W'.nodeGet_of hm' hkn :)
  ·refine W'.nodeGet_of ((S.rest i hi fun z=>?_).trans hn) hkn
   subst z
   cases Option.some.inj (S.hs.symm.trans hn)
   exact ky_none hkn S.skey
end
theorem m1e {x:Int} {P:Prop} (e:x=-1) (h:0≤x):P:=absurd (e▸h) (by decide)
theorem m1f {j:Nat} (e:(-1:Int)=j):False:=absurd (e▸Int.natCast_nonneg j) (by decide)
theorem m1n:(-1:Int) < 0:=by decide
theorem m1p:¬ (0:Int)≤-1:=by decide
structure StepC (ns ns':List NodeR) (p s pr:Nat) (m sp q:NodeR) (kv v:Value):Prop where
 len:ns'.length=ns.length
 hm:ns[p]?=some m
 hs:ns[s]?=some sp
 hq:ns[pr]?=some q
 mkey:m.key≠.none
 skey:sp.key=.none
 qn:q.next=(p:Int)
 ne:s≠p
 nq:pr≠p
 nf:pr≠s
 hq':∃ t,ns'[pr]?=some ⟨q.key,q.val,s,t⟩
 hs':∃ t,ns'[s]?=some ⟨m.key,m.val,m.next,t⟩
 hp':∃ t,ns'[p]?=some ⟨kv,v,-1,t⟩
 rest:∀ i,i≠p→i≠s→i≠pr→ns'[i]?=ns[i]?
theorem StepC.el {ns ns':List NodeR} {p s pr:Nat} {m sp q:NodeR} {kv v:Value} (S:StepC ns ns' p s pr m sp q kv v) {t1 t2 t3:Tok} (hp:ns'[p]?=some ⟨kv,v,-1,t1⟩) (hs:ns'[s]?=some ⟨m.key,m.val,m.next,t2⟩) (hq:ns'[pr]?=some ⟨q.key,q.val,s,t3⟩)
  {P:Nat→NodeR→Prop} (h1:P p ⟨kv,v,-1,t1⟩) (h2:P s ⟨m.key,m.val,m.next,t2⟩) (h3:P pr ⟨q.key,q.val,s,t3⟩) (h4:∀ (i:Nat) (n:NodeR),i≠p→i≠s→i≠pr→ns[i]?=some n→P i n) (i:Nat) (n:NodeR) (hn:ns'[i]?=some n):P i n:=by
 by_cases e1:i=p
 ·subst e1; cases Option.some.inj (hp.symm.trans hn); exact h1
 ·by_cases e2:i=s
  ·subst e2; cases Option.some.inj (hs.symm.trans hn); exact h2
  ·by_cases e3:i=pr
   ·subst e3; cases Option.some.inj (hq.symm.trans hn); exact h3
   ·exact h4 i n e1 e2 e3 ((S.rest i e1 e2 e3).symm.trans hn)
section
variable {ns ns':List NodeR} (W:WFn ns) {p s pr:Nat} {m sp q:NodeR} {kv v:Value} {k:Ky} (S:StepC ns ns' p s pr m sp q kv v) (hok:okKey kv) (hk:ky kv=some k) (hv:isV v) (hp:mp kv ns.length=p) (hmm:mp m.key ns.length≠p) (hab:∀ (i:Nat) (n:NodeR),ns[i]?=some n→ky n.key≠some k)
include W S hok hk hv hp hmm hab
theorem wf_C:WFn ns':=by
 have hkn:=ky_none hk
 obtain ⟨t1,hm'⟩:=S.hp'
 obtain ⟨t2,hs'⟩:=S.hs'
 obtain ⟨t3,hq'⟩:=S.hq'
 have G:=@StepC.el ns ns' p s pr m sp q kv v S t1 t2 t3 hm' hs' hq'
 obtain ⟨len,hm,hs,hq,mk,sk,qn,hsp,hprp,_,_,_,_,rest⟩:=S
 have qk:q.key≠.none:=fun e=>absurd ((W.nonk pr q hq e).1) (by rw [qn]; exact Int.not_lt.2 (Int.natCast_nonneg p))
 have nos:∀ (i:Nat) (n:NodeR),ns[i]?=some n→n.next≠(s:Int):=fun i n hn=>W.nopred i s n sp hn hs sk
 have ren:∀ {x:Int} {l:List Nat},Chain ns x l→x≠(s:Int)→(x=(p:Int)→Chain ns' (s:Int) (l.map fun i=>if i=p then s else i))∧(x≠(p:Int)→Chain ns' x (l.map fun i=>if i=p then s else i)):=by
  intro x l hc
  induction hc with
  | nil h=>exact fun _=>⟨fun e=>absurd h (by rw [e]; exact Int.not_lt.2 (Int.natCast_nonneg p)),fun _=>.nil h⟩
  | @cons i n l hn hc ih =>
   intro hx
   rw [List.map_cons]
   by_cases h1:i=p
   ·subst h1
    cases Option.some.inj (hm.symm.trans hn)
    rw [if_pos rfl]
    exact ⟨fun _=>.cons hs' ((ih (nos i m hm)).2 (W.self hm)),fun e=>absurd rfl e⟩
   ·rw [if_neg h1]
    refine ⟨fun e=>absurd (Int.ofNat.inj e) h1,fun _=>?_⟩
    by_cases h3:i=pr
    ·subst h3
     cases Option.some.inj (hq.symm.trans hn)
     exact .cons hq' ((ih (nos i q hq)).1 qn)
    ·exact .cons ((rest i h1 (fun e=>hx (congrArg Int.ofNat e)) h3).trans hn) ((ih (nos i n hn)).2 fun e=>h3 (W.inj i pr n q hn hq (e.trans qn.symm) (e▸Int.natCast_nonneg p)))
 have sne:∀ (x:Nat) (mq:NodeR),ns[x]?=some mq→mq.key≠.none→(x:Int)≠s:=fun x mq hx h e=>h (by
  cases Int.ofNat.inj e
  cases Option.some.inj (hs.symm.trans hx)
  exact sk)
 have pne:∀ (x:Nat) (mq:NodeR),ns[x]?=some mq→mp mq.key ns.length=x→(x:Int)≠p:=fun x mq hx h e=>hmm (by
  cases Int.ofNat.inj e
  cases Option.some.inj (hm.symm.trans hx)
  exact h)
 have mainOf:∀ (i:Nat) (n:NodeR),ns[i]?=some n→n.key≠.none→∃ (x:Nat) (mq:NodeR),ns'[x]?=some mq∧(x:Int)=mp n.key ns.length∧mq.key≠.none∧mp mq.key ns.length=x:=by
  intro i n hn h
  obtain ⟨x,mq,hx,e,h1,h2⟩:=W.main i n hn h
  by_cases hqp:x=pr
  ·subst hqp
   cases Option.some.inj (hq.symm.trans hx)
   exact ⟨x,_,hq',e,h1,h2⟩
  ·exact ⟨x,mq,(rest x (fun z=>pne x mq hx h2 (congrArg Int.ofNat z)) (fun z=>sne x mq hx h1 (congrArg Int.ofNat z)) hqp).trans hx,e,h1,h2⟩
 have reachOld:∀ (i:Nat) (n:NodeR) (l:List Nat),ns[i]?=some n→n.key≠.none→Chain ns' (mp n.key ns.length) l→(i=p→s∈l)∧(i≠p→i∈l):=by
  intro i n l hn h hc
  obtain ⟨x,mq,hx,e,h1,h2⟩:=W.main i n hn h
  obtain ⟨l0,hl0⟩:=W.chain x (List.getElem?_eq_some_iff.mp hx).1
  rw [← e] at hc
  rw [hc.unique ((ren hl0 (sne x mq hx h1)).2 (pne x mq hx h2))]
  have hi:=W.reach i n l0 hn h (e▸hl0)
  exact ⟨fun z=>List.mem_map.mpr ⟨i,hi,if_pos z⟩,fun z=>List.mem_map.mpr ⟨i,hi,if_neg z⟩⟩
 refine ⟨G (.inr hok) (W.keys p m hm) (W.keys pr q hq) fun i n _ _ _=>W.keys i n,G hv (W.vals p m hm) (W.vals pr q hq) fun i n _ _ _=>W.vals i n,G (fun h=>absurd h hkn) (fun h=>absurd h mk) (fun h=>absurd h qk) fun i n _ _ _=>W.nonk i n,?_,?_,?_,?_,?_,?_⟩
 ·intro i hi
  rw [len] at hi
  by_cases h:i=p
  ·exact h▸⟨[p],.cons hm' (.nil m1n)⟩
  ·by_cases h2:i=s
   ·obtain ⟨l,hl⟩:=W.chain p (List.getElem?_eq_some_iff.mp hm).1
    exact h2▸⟨_,(ren hl fun e=>hsp (Int.ofNat.inj e).symm).1 rfl⟩
   ·obtain ⟨l,hl⟩:=W.chain i hi
    exact ⟨_,(ren hl fun e=>h2 (Int.ofNat.inj e)).2 fun e=>h (Int.ofNat.inj e)⟩
 ·exact fun i j n x hn=>G (P:=fun j x=>x.key=.none→n.next≠(j:Int)) (fun h=>absurd h hkn) (fun h=>absurd h mk) (fun h=>absurd h qk) (fun j x _ j2 _ hx h =>
   G (P:=fun _ n=>n.next≠(j:Int)) (fun e=>m1f e) (W.nopred p j m x hm hx h) (fun e=>j2 (Int.ofNat.inj e).symm) (fun i n _ _ _ hn=>W.nopred i j n x hn hx h) i n hn) j x
 ·exact fun i j n x hn hx=>G (P:=fun i n=>n.next=x.next→0≤n.next→i=j) (fun _ h=>absurd h m1p)
   (G (P:=fun j x=>m.next=x.next→0≤m.next→s=j) (fun e h=>m1e e h) (fun _ _=>rfl) (fun e=>absurd e (nos p m hm)) (fun j x b1 _ _ hx e h=>absurd (W.inj p j m x hm hx e h).symm b1) j x hx)
   (G (P:=fun j x=>(s:Int)=x.next→0≤(s:Int)→pr=j) (fun e h=>m1e e h) (fun e=>absurd e.symm (nos p m hm)) (fun _ _=>rfl) (fun j x _ _ _ hx e=>absurd e.symm (nos j x hx)) j x hx)
   (fun i n a1 _ _ hn=>G (P:=fun j x=>n.next=x.next→0≤n.next→i=j) (fun e h=>m1e e h) (fun e h=>absurd (W.inj i p n m hn hm e h) a1) (fun e=>absurd e (nos i n hn)) (fun j x _ _ _ hx=>W.inj i j n x hn hx) j x hx) i n hn
 ·rw [len]
  exact fun i n l=>G (P:=fun i n=>n.key≠.none→Chain ns' (mp n.key ns.length) l→i∈l) (fun _ hc=>Chain.mem (hp▸hc)) (fun _ hc=>(reachOld p m l hm mk hc).1 rfl) (fun _ hc=>(reachOld pr q l hq qk hc).2 hprp) (fun i n a1 _ _ hn h hc=>(reachOld i n l hn h hc).2 a1) i n
 ·rw [len]
  exact G (fun _=>⟨p,_,hm',hp.symm,hkn,hp⟩) (fun _=>mainOf p m hm mk) (fun _=>mainOf pr q hq qk) fun i n _ _ _=>mainOf i n
 ·exact fun i j n x k' hn hx h1 h2=>G (P:=fun i n=>ky n.key=some k'→i=j)
   (fun e1=>G (P:=fun j x=>ky x.key=some k'→p=j) (fun _=>rfl) (fun e2=>(hab p m hm (e2.trans (e1.symm.trans hk))).elim) (fun e2=>(hab pr q hq (e2.trans (e1.symm.trans hk))).elim) (fun j x _ _ _ hx e2=>(hab j x hx (e2.trans (e1.symm.trans hk))).elim) j x hx h2)
   (fun e1=>G (P:=fun j x=>ky x.key=some k'→s=j) (fun e2=>(hab p m hm (e1.trans (e2.symm.trans hk))).elim) (fun _=>rfl) (fun e2=>absurd (W.dist p pr m q k' hm hq e1 e2).symm hprp) (fun j x b1 _ _ hx e2=>absurd (W.dist p j m x k' hm hx e1 e2).symm b1) j x hx h2)
   (fun e1=>G (P:=fun j x=>ky x.key=some k'→pr=j) (fun e2=>(hab pr q hq (e1.trans (e2.symm.trans hk))).elim) (fun e2=>absurd (W.dist pr p q m k' hq hm e1 e2) hprp) (fun _=>rfl) (fun j x _ _ _ hx=>W.dist pr j q x k' hq hx e1) j x hx h2)
   (fun i n a1 _ _ hn e1=>G (P:=fun j x=>ky x.key=some k'→i=j) (fun e2=>(hab i n hn (e1.trans (e2.symm.trans hk))).elim) (fun e2=>absurd (W.dist i p n m k' hn hm e1 e2) a1) (fun e2=>W.dist i pr n q k' hn hq e1 e2) (fun j x _ _ _ hx=>W.dist i j n x k' hn hx e1) j x hx h2) i n hn h1
theorem get_C (k':Ky):nodeGet ns' k'=if k'=k then v else nodeGet ns k':=by
 have W':=wf_C W S hok hk hv hp hmm hab
 obtain ⟨t1,hm'⟩:=S.hp'
 obtain ⟨t2,hs'⟩:=S.hs'
 obtain ⟨t3,hq'⟩:=S.hq'
 by_cases e:k'=k
 ·rw [if_pos e,e]
  exact W'.nodeGet_of hm' hk
 ·rw [if_neg e]
  refine node_same W (fun i n hn hkn=>?_) fun h=>S.el hm' hs' hq' (fun z=>e (Option.some.inj (z.symm.trans hk))) (h p m S.hm) (h pr q S.hq) fun j x _ _ _=>h j x
  by_cases hi:i=p
  ·subst hi
   cases Option.some.inj (S.hm.symm.trans hn)
   exact (W'.nodeGet_of hs' hkn :)
  ·by_cases hi3:i=pr
   ·subst hi3
    cases Option.some.inj (S.hq.symm.trans hn)
    exact (W'.nodeGet_of hq' hkn :)
   ·refine W'.nodeGet_of ((S.rest i hi (fun z=>?_) hi3).trans hn) hkn
    subst z
    cases Option.some.inj (S.hs.symm.trans hn)
    exact ky_none hkn S.skey
end
section
variable {prog:Program} {w:World} {Ar:Around} {E:Value→Shared→Prop} {h₀:Heap} {L:Addr} {m:Names} {A:TA} {C:TC} {R:Led} {v:Value} {Q:Unit→Shared→Prop} {h:Heap} {g:Array GenState} {d:Drawn} {tk:Nat} {o:OsState}
theorem set_fr {i:Int} {t:Tok} (F:Fr h₀ L h m) (X₀:(hd.heap_1_39 w.params).In h₀) (N:News h₀ L h (TL w.params A C R)) (D:Apart (TL w.params A C R))
  (k:∀ h' k',Fr h₀ L h' m→News h₀ L h' (TL w.params A { C with fr:=i,ft:=t } R)→Apart (TL w.params A { C with fr:=i,ft:=t } R)→Q () ⟨h',g,d,k',o⟩) :
  wpAny (model prog w) Ar (setAttr (.ref A.t) (Str.ofString "free") (.int i t)) Q E ⟨h,g,d,tk,o⟩ :=
 set_field (C':={ C with fr:=i,ft:=t }) F X₀ N D (by k_is) (by k_is) (by k_is) (by k_is) (by kernel_rfl) (fun z9 z9=>by kernel_rfl) rfl rfl rfl rfl rfl rfl rfl k
theorem set_flags (F:Fr h₀ L h m) (X₀:(hd.heap_1_39 w.params).In h₀) (N:News h₀ L h (TL w.params A C R)) (D:Apart (TL w.params A C R))
  (k:∀ h' k',Fr h₀ L h' m→News h₀ L h' (TL w.params A { C with flags:=v } R)→Apart (TL w.params A { C with flags:=v } R)→Q () ⟨h',g,d,k',o⟩) :
  wpAny (model prog w) Ar (setAttr (.ref A.t) (Str.ofString "flags") v) Q E ⟨h,g,d,tk,o⟩ :=
 set_field (C':={ C with flags:=v }) F X₀ N D (by k_is) (by k_is) (by k_is) (by k_is) (by kernel_rfl) (fun z9 z9=>by kernel_rfl) rfl rfl rfl rfl rfl rfl rfl k
theorem set_logn (F:Fr h₀ L h m) (X₀:(hd.heap_1_39 w.params).In h₀) (N:News h₀ L h (TL w.params A C R)) (D:Apart (TL w.params A C R))
  (k:∀ h' k',Fr h₀ L h' m→News h₀ L h' (TL w.params A { C with logn:=v } R)→Apart (TL w.params A { C with logn:=v } R)→Q () ⟨h',g,d,k',o⟩) :
  wpAny (model prog w) Ar (setAttr (.ref A.t) (Str.ofString "log_nodes") v) Q E ⟨h,g,d,tk,o⟩ :=
 set_field (C':={ C with logn:=v }) F X₀ N D (by k_is) (by k_is) (by k_is) (by k_is) (by kernel_rfl) (fun z9 z9=>by kernel_rfl) rfl rfl rfl rfl rfl rfl rfl k
theorem set_size (F:Fr h₀ L h m) (X₀:(hd.heap_1_39 w.params).In h₀) (N:News h₀ L h (TL w.params A C R)) (D:Apart (TL w.params A C R))
  (k:∀ h' k',Fr h₀ L h' m→News h₀ L h' (TL w.params A { C with size:=v } R)→Apart (TL w.params A { C with size:=v } R)→Q () ⟨h',g,d,k',o⟩) :
  wpAny (model prog w) Ar (setAttr (.ref A.t) (Str.ofString "size") v) Q E ⟨h,g,d,tk,o⟩ :=
 set_field (C':={ C with size:=v }) F X₀ N D (by k_is) (by k_is) (by k_is) (by k_is) (by kernel_rfl) (fun z9 z9=>by kernel_rfl) rfl rfl rfl rfl rfl rfl rfl k
theorem set_nkey {x:Addr} {i:Nat} {n:NodeR} (F:Fr h₀ L h m) (X₀:(hd.heap_1_39 w.params).In h₀) (N:News h₀ L h (TL w.params A C R)) (D:Apart (TL w.params A C R)) (ex:C.na.nx i=x) (hn:C.nodes[i]?=some n)
  (k:∀ h' k',Fr h₀ L h' m→News h₀ L h' (TL w.params A { C with nodes:=C.nodes.set i { n with key:=v } } R)→Apart (TL w.params A { C with nodes:=C.nodes.set i { n with key:=v } } R)→Q () ⟨h',g,d,k',o⟩) :
  wpAny (model prog w) Ar (setAttr (.ref x) (Str.ofString "key") v) Q E ⟨h,g,d,tk,o⟩ :=
 set_nodeField (n':={ n with key:=v }) F X₀ N D ex hn (by k_is) (by k_is) (by k_is) (by k_is) (by kernel_rfl) (fun z9 z9=>by kernel_rfl) k
theorem set_nval {x:Addr} {i:Nat} {n:NodeR} (F:Fr h₀ L h m) (X₀:(hd.heap_1_39 w.params).In h₀) (N:News h₀ L h (TL w.params A C R)) (D:Apart (TL w.params A C R)) (ex:C.na.nx i=x) (hn:C.nodes[i]?=some n)
  (k:∀ h' k',Fr h₀ L h' m→News h₀ L h' (TL w.params A { C with nodes:=C.nodes.set i { n with val:=v } } R)→Apart (TL w.params A { C with nodes:=C.nodes.set i { n with val:=v } } R)→Q () ⟨h',g,d,k',o⟩) :
  wpAny (model prog w) Ar (setAttr (.ref x) (Str.ofString "value") v) Q E ⟨h,g,d,tk,o⟩ :=
 set_nodeField (n':={ n with val:=v }) F X₀ N D ex hn (by k_is) (by k_is) (by k_is) (by k_is) (by kernel_rfl) (fun z9 z9=>by kernel_rfl) k
theorem set_nnext {x:Addr} {i:Nat} {n:NodeR} {j:Int} {t:Tok} (F:Fr h₀ L h m) (X₀:(hd.heap_1_39 w.params).In h₀) (N:News h₀ L h (TL w.params A C R)) (D:Apart (TL w.params A C R)) (ex:C.na.nx i=x) (hn:C.nodes[i]?=some n)
  (k:∀ h' k',Fr h₀ L h' m→News h₀ L h' (TL w.params A { C with nodes:=C.nodes.set i { n with next:=j,nt:=t } } R)→Apart (TL w.params A { C with nodes:=C.nodes.set i { n with next:=j,nt:=t } } R)→Q () ⟨h',g,d,k',o⟩) :
  wpAny (model prog w) Ar (setAttr (.ref x) (Str.ofString "next") (.int j t)) Q E ⟨h,g,d,tk,o⟩ :=
 set_nodeField (n':={ n with next:=j,nt:=t }) F X₀ N D ex hn (by k_is) (by k_is) (by k_is) (by k_is) (by kernel_rfl) (fun z9 z9=>by kernel_rfl) k
end
section
variable {c:Cn} {m:NM} {A:TA} {C:TC} {R:Led} {ss:List Stmt} {K:List (List Stmt)} {Q:Flow→NM→Led→Prop} {e o:PySem.Expr} {op pos:Pos}
theorem SA.mk {σ:St} {x:Addr} {name:Str} {v:Value} {l':Led} (h:∀ (Ar:Around) (g:Heap) (L:Addr) (s:Shared) (nm:Names) (E:Value→Shared→Prop) (Q:Unit→Shared→Prop),(hd.heap_1_39 σ.c.w.params).In g→Fr g L s.heap nm→News g L s.heap σ.led→Apart σ.led →
  (∀ h' k',Fr g L h' nm→News g L h' l'→Apart l'→Q () ⟨h',s.gens,s.drawn,k',s.os⟩)→wpAny (Md σ.c) Ar (setAttr (.ref x) name v) Q E s):SA σ x name v l':=by
 intro Ar g L s T R
 obtain ⟨nm,F,H⟩:=R.F
 exact h Ar g L s nm _ _ T.C.X F R.N R.D fun h' k' F' N' D'=>⟨h',k',σ.m,l',rfl,⟨⟨nm,F',H⟩,N',D'⟩,rfl,rfl⟩
theorem HS.setV {name:Str} {x:Addr} {v:Value} {l l':Led} (hc:noComp e=true) (h:Ev ⟨c,m,l⟩ e (.v v)) (ho:Ev ⟨c,m,l⟩ o (.v (.ref x))) (hs:SA ⟨c,m,l⟩ x name v l') (k:HS c (ss::K) m l' Q):HS c ((.Assign [.Attribute o name op] e pos::ss)::K) m l Q :=
 HS.setA hc h ho fun u hu=>⟨l',(show u=v from hu)▸hs,k⟩
theorem HS.setI {name:Str} {x:Addr} {n:Int} {l:Led} {l':Tok→Led} (hc:noComp e=true) (h:Ev ⟨c,m,l⟩ e (.i n)) (ho:Ev ⟨c,m,l⟩ o (.v (.ref x))) (hs:∀ t,SA ⟨c,m,l⟩ x name (.int n t) (l' t)) (k:∀ t,HS c (ss::K) m (l' t) Q):HS c ((.Assign [.Attribute o name op] e pos::ss)::K) m l Q :=
 HS.setA hc h ho fun u ⟨t,hu⟩=>⟨l' t,hu▸hs t,k t⟩
theorem SA.free {n:Int} {t:Tok}:SA ⟨c,m,TL c.w.params A C R⟩ A.t (Str.ofString "free") (.int n t) (TL c.w.params A (C.setFr n t) R):=.mk fun z9 z9 z9 z9 z9 z9 z9 X F N D k=>set_fr F X N D k
theorem SA.flags {v:Value}:SA ⟨c,m,TL c.w.params A C R⟩ A.t (Str.ofString "flags") v (TL c.w.params A (C.setFlags v) R):=.mk fun z9 z9 z9 z9 z9 z9 z9 X F N D k=>set_flags F X N D k
theorem SA.log {v:Value}:SA ⟨c,m,TL c.w.params A C R⟩ A.t (Str.ofString "log_nodes") v (TL c.w.params A (C.setLog v) R):=.mk fun z9 z9 z9 z9 z9 z9 z9 X F N D k=>set_logn F X N D k
theorem SA.size {v:Value}:SA ⟨c,m,TL c.w.params A C R⟩ A.t (Str.ofString "size") v (TL c.w.params A (C.setSize v) R):=.mk fun z9 z9 z9 z9 z9 z9 z9 X F N D k=>set_size F X N D k
theorem SA.key {v:Value} {x:Addr} {i:Nat} {n:NodeR} (ex:C.na.nx i=x) (hn:C.nodes[i]?=some n):SA ⟨c,m,TL c.w.params A C R⟩ x (Str.ofString "key") v (TL c.w.params A (C.setNode i (n.setKey v)) R):=.mk fun z9 z9 z9 z9 z9 z9 z9 X F N D k=>set_nkey F X N D ex hn k
theorem SA.val {v:Value} {x:Addr} {i:Nat} {n:NodeR} (ex:C.na.nx i=x) (hn:C.nodes[i]?=some n):SA ⟨c,m,TL c.w.params A C R⟩ x (Str.ofString "value") v (TL c.w.params A (C.setNode i (n.setVal v)) R):=.mk fun z9 z9 z9 z9 z9 z9 z9 X F N D k=>set_nval F X N D ex hn k
theorem SA.next {j:Int} {t:Tok} {x:Addr} {i:Nat} {n:NodeR} (ex:C.na.nx i=x) (hn:C.nodes[i]?=some n):SA ⟨c,m,TL c.w.params A C R⟩ x (Str.ofString "next") (.int j t) (TL c.w.params A (C.setNode i (n.setNext j t)) R):=.mk fun z9 z9 z9 z9 z9 z9 z9 X F N D k=>set_nnext F X N D ex hn k
theorem HS.augA {name:Str} {x:Addr} {a b n:Int} {ta:Tok} {l:Led} {l':Tok→Led} {opr:Operator} (hr:∀ E (Ar:Around) g L s (Q:Value→Shared→Prop),Rt c Ar g L→RS ⟨c,m,l⟩ g L s.heap→(∀ k,Q (.int a ta) ⟨s.heap,s.gens,s.drawn,k,s.os⟩)→wpAny (Md c) Ar (getAttr (.ref x) name true) Q E s) (ho:Ev ⟨c,m,l⟩ o (.v (.ref x))) (he:Ev ⟨c,m,l⟩ e (.i b)) (q:IIOp opr a b n)
  (hs:∀ t,SA ⟨c,m,l⟩ x name (.int n t) (l' t)) (k:∀ t,HS c (ss::K) m (l' t) Q):HS c ((.AugAssign (.Attribute o name op) opr e pos::ss)::K) m l Q :=
 HS.step fun Ar g L s T R=>wpAny_AugAssign_AttributeAny (ho.use T R fun z9 z9 z9 eo R1=>by
  cases eo
  exact hr _ _ _ _ _ _ T R1 fun k1=>he.use T R1 fun _ _ _ ⟨u,eb⟩ R2=>eb▸q fun t' z9=>WX.use (hs t') T R2 fun _ h' tk' m' l'' R3 ⟨em,el⟩=>⟨h',tk',m',l'',rfl,R3,by subst em el; exact k t'⟩)
theorem HS.augFree {b n:Int} {opr:Operator} (ho:Ev ⟨c,m,TL c.w.params A C R⟩ o (.v (.ref A.t))) (he:Ev ⟨c,m,TL c.w.params A C R⟩ e (.i b)) (q:IIOp opr C.fr b n) (k:∀ t,HS c (ss::K) m (TL c.w.params A (C.setFr n t) R) Q) :
  HS c ((.AugAssign (.Attribute o (Str.ofString "free") op) opr e pos::ss)::K) m (TL c.w.params A C R) Q :=
 HS.augA (ta:=C.ft) (fun E Ar g L s Q T R1 k=>by
  obtain ⟨nm,F,H⟩:=R1.F
  exact get_own F T.C.X (InstAt.of_news R1.N mem_t mem_dt) (by k_is) (by k_is) (by k_is) (by k_is) (by kernel_rfl) rfl (k _)) ho he q (fun z9=>SA.free) k
end
section
noncomputable def FreeAt (C:TC) (o:Option Nat) (C':TC):Prop:=match o with
 | some f=>(∃ n,C.nodes[f]?=some n∧n.key=.none)∧(∀ (i:Nat) (n:NodeR),C.nodes[i]?=some n→f < i→n.key≠.none)∧∃ f' t,f'=(f:Int)∧C'={ C with fr:=f',ft:=t }
 | none=>(∀ (i:Nat) (n:NodeR),C.nodes[i]?=some n→n.key≠.none)∧∃ f' t,f'=(0:Int)∧C'={ C with fr:=f',ft:=t }
theorem freeAt_some {C:TC} {f:Nat} {n:NodeR} {fr':Int} {t':Tok} (hn:C.nodes[f]?=some n) (hk:n.key=.none) (hall:∀ (i:Nat) (n:NodeR),C.nodes[i]?=some n→f < i→n.key≠.none) (e:fr'=(f:Int)) :
  FreeAt C (some f) { C with fr:=fr',ft:=t' }:=⟨⟨n,hn,hk⟩,hall,fr',t',e,rfl⟩
theorem freeAt_none {C:TC} {fr':Int} {t':Tok} (hall:∀ (i:Nat) (n:NodeR),C.nodes[i]?=some n→n.key≠.none) (e:fr'=0) :
  FreeAt C none { C with fr:=fr',ft:=t' }:=⟨hall,fr',t',e,rfl⟩
theorem spec_free_position (A:TA) (C:TC) (R:Led) (W:WF C):Spec w mean mg mb (.ref 356) [.ref A.t] 2 (TL w.params A C R) (fun r l=>∃ o C' t a,r=.int a t∧a=fint o∧l=TL w.params A C' R∧FreeAt C o C'):=by
 have hln:=W.ln
 have hfr0:=W.fr0
 have hfr1:=W.fr1
 refine Spec.enterA (by k_is) (by k_is) (fun s X=>(BindsTo.of_eq rfl)) rfl (by kernel_rfl) (by kernel_rfl) rfl rfl rfl (by decide) ?_
 refine HS.while (X:=Int×Tok) (fun x=>0≤x.1∧x.1≤C.fr∧∀ (i:Nat) (nd:NodeR),C.nodes[i]?=some nd→x.1≤(i:Int)→nd.key≠.none) (fun _=>NM.nil.set 0 (.v (.ref A.t))) (fun x=>TL w.params A (C.setFr x.1 x.2) R) (·.1.toNat) (C.fr,C.ft) ⟨hfr0,Int.le_refl _,W.free⟩ (by exact NM.Sub.same rfl NM.Sub.nil) rfl ?_
 intro x ⟨hf0,hf1,hall⟩ Q' next _ ret
 by_cases hf:0 < x.1
 ·obtain ⟨i,hi'⟩:∃ i:Nat,x.1 - 1=(i:Int):=⟨(x.1 - 1).toNat,by exact lq [_] [_] [.lt Kq Zq,.tn 0 (.s Zq Kr)] (.eq (.s Zq Kr) Nq) [[110000,101000],[10100,11010]] rfl hf rfl⟩
  have hi:i < C.nodes.length:=by exact lq [_,_] [_,_] [.le Zq Nq,.le Zr Zq,.eq (.s Zr Kr) Nr] (.t Nr Nq) [[110110]] rfl hfr1 hf1 hi'
  obtain ⟨nd,hn⟩:∃ nd,C.nodes[i]?=some nd:=⟨C.nodes[i],by simp [hi]⟩
  have hh:=handed_key (W.n.keys i nd hn)
  refine Tst.mk' (EvT.cmp (Ev.toI (Ev.t_free rfl rfl (Ev.name 0 sl0 rfl))) Ev.int ICmp.gt rfl) (fun _=>(HS.augFree (Ev.name 0 sl0 rfl) Ev.int IIOp.sub (fun _=>(HS.ite (Ev.isNone (Ev.n_key rfl rfl rfl hn hh (Ev.node rfl rfl (Ev.t_nodes rfl rfl (Ev.name 0 sl0 rfl)) (Ev.toI (Ev.t_free rfl rfl (Ev.name 0 sl0 rfl))) hi' hn (idx_lt hn hln)))) (fun _=>(HS.ret (Ev.t_free rfl rfl (Ev.name 0 sl0 rfl)) ?_)) (fun _=>(HS.nil (HS.nil (HS.done ?_)))))))) (fun _=>(False.elim (by contradiction)))
  ·rename_i tk hk0
   exact fun v hv=>ret v _ _ ⟨some i,_,_,_,hv,hi',rfl,freeAt_some hn hk0 (fun j nd' hj hlt=>hall j nd' hj (by exact lq [_,_] [_] [.eq (.s Zq Kr) Nq,.t Nq Nr] (.le Zq Nr) [[11010]] rfl hi' hlt)) hi'⟩
  ·rename_i tk hk0
   refine next (x.1 - 1,tk) _ ⟨by dsimp only; exact hi'▸Int.natCast_nonneg _,by dsimp only; exact lq [] [_,_] [.le Zq Zr] (.le (.s Zq Kr) Zr) [] rfl hf1,fun j nd' hj hle=>?_⟩ (by dsimp only; exact lq [_,_,_] [_] [.eq (.s Zq Kr) Nq,.tn 1 (.s Zq Kr),.tn 2 Zq] (.t Nr Ns) [[1100010000],[101010000],[110010100],[10110100]] rfl hi' rfl rfl) (by exact NM.Sub.same rfl NM.Sub.nil)
   by_cases e:j=i
   ·subst e; rw [hn] at hj; cases hj; exact hk0
   ·exact hall j nd' hj (by dsimp only at hle; exact lq [_,_] [_] [.eq (.s Zq Kr) Nq,.le (.s Zq Kr) Nr,.nn Nr Nq] (.le Zq Nr) [[112100],[110010]] rfl hi' hle e)
 ·(refine (Tst.mk' (EvT.cmp (Ev.toI (Ev.t_free rfl rfl (Ev.name 0 sl0 rfl))) Ev.int ICmp.gt rfl) (fun _=>(False.elim (by contradiction))) (fun _=>(HS.ret (Ev.neg Ev.int) ?_))))
  exact fun v ⟨t,hv⟩=>⟨none,_,t,_,hv,rfl,rfl,freeAt_none (fun j nd' hj=>hall j nd' hj (by exact lq [_] [_] [.nt Kq Zq] (.le Zq Nq) [] rfl hf)) (by exact lq [] [_] [.le Kq Zq,.nt Kq Zq] (.eq Zq Kq) [[1100,1010]] rfl hf0 hf)⟩
end
noncomputable def isUsed (n:NodeR):Bool:=decide (n.key≠.none)
noncomputable def used (ns:List NodeR):Nat:=ns.countP isUsed
theorem used_set_le {ns:List NodeR} {i:Nat} {n':NodeR}:used (ns.set i n')≤used ns+1:=by
 unfold used
 by_cases h:i < ns.length
 ·rw [List.countP_set h]
  split <;> split <;> (first | exact lq [_,_] [] [.sb 0 Nr Kr] (.l (.a Nq Kr) (.a Nr Kr)) [[1010],[1100]] rfl rfl | exact lq [_,_] [] [.sb 0 Nr Kr] (.l (.a Nq Kq) (.a Nr Kr)) [[1010],[]] rfl rfl | exact Nat.le_refl _ | exact Nat.le_succ _)
 ·rw [List.set_eq_of_length_le (by exact Nat.le_of_not_lt h)]; exact Nat.le_succ _
theorem used_set_same {ns:List NodeR} {i:Nat} {n n':NodeR} (h:ns[i]?=some n) (hk:n'.key=n.key):used (ns.set i n')=used ns:=by
 unfold used
 obtain ⟨hl,he⟩:=List.getElem?_eq_some_iff.mp h
 have e:isUsed n'=isUsed n:=by unfold isUsed; rw [hk]
 have hin:n∈ns:=List.mem_of_getElem? h
 rw [List.countP_set hl,he,e]
 split
 ·have:0 < ns.countP isUsed:=List.countP_pos_iff.mpr ⟨n,hin,by assumption⟩
  exact lq [_,_] [] [.t Kq Nq,.sb 1 Nq Kr] (.e (.a Nr Kr) Nq) [[10100,11000],[11010,10100]] rfl this rfl
 ·exact Int.toNat_natCast _
theorem used_set_used {ns:List NodeR} {i:Nat} {n n':NodeR} (h:ns[i]?=some n) (hk:n.key≠.none):used (ns.set i n')≤used ns:=by
 unfold used
 obtain ⟨hl,he⟩:=List.getElem?_eq_some_iff.mp h
 have hin:n∈ns:=List.mem_of_getElem? h
 have hu:isUsed n=true:=by unfold isUsed; simpa using hk
 have:0 < ns.countP isUsed:=List.countP_pos_iff.mpr ⟨n,hin,hu⟩
 rw [List.countP_set hl,he,if_pos hu]
 split <;> (first | exact lq [_,_] [] [.t Kq Nq,.sb 1 Nq Kr] (.l (.a Nr Kr) Nq) [[10100],[11010]] rfl this rfl | exact Nat.sub_le _ _)
theorem used_full {ns:List NodeR} (h:∀ (i:Nat) (n:NodeR),ns[i]?=some n→n.key≠.none):used ns=ns.length:=by
 unfold used
 rw [List.countP_eq_length]
 intro a ha
 obtain ⟨i,hi⟩:=List.getElem?_of_mem ha
 unfold isUsed
 simpa using h i a hi
section
variable {M:Model} {Ar:Around} {E:Value→Shared→Prop} {s:Shared} {v:Value} {Q:Value→Shared→Prop}
end
section
theorem spec_main_position' (A:TA) (C:TC) (R:Led) (k:Value) (a:Int) (hk:okKey k) (hn:0 < C.nodes.length) (hb:C.nodes.length < 1000) (ha:mp k C.nodes.length=a):Spec w mean mg mb (.ref 342) [.ref A.t,k] 4 (TL w.params A C R) (Pst (.i a) (TL w.params A C R)):=by
 subst ha
 exact spec_main_position A C R k hk hn hb
theorem spec_free_position' (A:TA) (C:TC) (R:Led) (W:WF C) (room:used C.nodes < C.nodes.length):Spec w mean mg mb (.ref 356) [.ref A.t] 2 (TL w.params A C R) (fun r l=>∃ (f:Nat) (sp:NodeR) (t':Tok),(Vl.i (f:Int)).is r∧l=TL w.params A (C.setFr f t') R∧C.nodes[f]?=some sp∧sp.key=.none∧∀ (i:Nat) (n:NodeR),C.nodes[i]?=some n→f < i→n.key≠.none):=by
 refine (spec_free_position A C R W).mono (Nat.le_refl _) ?_
 rintro r l ⟨o,C',t,a,rfl,ha,rfl,hF⟩
 cases o with
 | none=>exact absurd (used_full hF.1) (Nat.ne_of_lt room)
 | some f =>
  obtain ⟨⟨n,hn,hk⟩,hall,f',t',rfl,rfl⟩:=hF
  exact ⟨f,n,t',⟨t,by rw [ha]; rfl⟩,rfl,hn,hk,hall⟩
theorem spec_moved_to {A:TA} {C:TC} {R:Led} {i j:Nat} {n m:NodeR} {x y:Addr} (hx:C.na.nx i=x) (hy:C.na.nx j=y) (hij:i≠j) (hn:C.nodes[i]?=some n) (hm:C.nodes[j]?=some m) (h1:handedIn n.key=true) (h2:handedIn n.val=true) :
  Spec w mean mg mb (.ref 292) [.ref x,.ref y] 1 (TL w.params A C R) (Pst (.v .none) (TL w.params A (C.setNode j n) R)):=by
 refine Spec.enterA (by k_is) (by k_is) (fun s X=>(BindsTo.of_eq rfl)) rfl (by kernel_rfl) (by kernel_rfl) rfl rfl rfl (by decide) ?_
 refine HS.setV rfl (Ev.n_key rfl rfl hx hn h1 (Ev.name 0 sl0 rfl)) (Ev.name 1 sl1 rfl) (SA.key hy hm) (HS.setV rfl (Ev.n_val rfl rfl hx (set_ne (Ne.symm hij) hn) h2 (Ev.name 0 sl0 rfl)) (Ev.name 1 sl1 rfl) (SA.val hy (set_self hm)) (HS.setV rfl (Ev.n_next rfl rfl hx (set_ne (Ne.symm hij) (set_ne (Ne.symm hij) hn)) (Ev.name 0 sl0 rfl)) (Ev.name 1 sl1 rfl) (SA.next hy (set_self (set_self hm))) (HS.nil (HS.done ?_))))
 exact ⟨rfl,by simp only [TC.setNode,List.set_set]⟩
structure Ins (C C':TC) (k:Ky) (v:Value):Prop where
 arr:C'.arr=C.arr
 la:C'.la=C.la
 ea:C'.ea=C.ea
 len:C'.nodes.length=C.nodes.length
 wf:WF C'
 get:∀ k',nodeGet C'.nodes k'=if k'=k then v else nodeGet C.nodes k'
 used:used C'.nodes≤used C.nodes+1
 keys:∀ k',fidx C'.nodes k'≠none→k'=k∨fidx C.nodes k'≠none
theorem fidx_mem {ns:List NodeR} {k:Ky}:fidx ns k≠none↔∃ (i:Nat) (n:NodeR),ns[i]?=some n∧ky n.key=some k:=by
 constructor
 ·intro h
  cases e:fidx ns k with
  | none=>exact absurd e h
  | some j=>obtain ⟨n,h1,h2⟩:=fidx_some e; exact ⟨j,n,h1,h2⟩
 ·rintro ⟨i,n,h1,h2⟩ e
  exact fidx_none e i n h1 h2
theorem hout_int {C:TC} {kv:Value} {k:Ky} (hk:ky kv=some k) (hout:∀ n,k=.i n→¬ (1≤n∧n≤C.arr.length)) {x:Int} {t:Tok} (e:kv=.int x t):¬ (1≤x∧x≤C.arr.length):=by
 subst e
 exact hout x (by cases hk; rfl)
theorem ins_A {C:TC} {kv v:Value} {k:Ky} {p:Nat} {md:NodeR} (W:WF C) (hok:okKey kv) (hk:ky kv=some k) (hv:isV v) (hab:fidx C.nodes k=none) (hout:∀ n,k=.i n→¬ (1≤n∧n≤C.arr.length))
  (hp:mp kv C.nodes.length=(p:Int)) (hm:C.nodes[p]?=some md) (hd:md.val=.none):Ins C { C with nodes:=C.nodes.set p { md with key:=kv,val:=v } } k v:=by
 have ha:=fidx_none hab
 have G:=@set_el C.nodes p md { md with key:=kv,val:=v } hm
 refine ⟨rfl,rfl,rfl,List.length_set,⟨wf_A W.n hm hok hk hv hp ha,W.arr,fun i n x t hn=>G (P:=fun _ n=>n.key=.int x t→¬ (1≤x∧x≤C.arr.length)) (hout_int hk hout) (fun i n _ hn=>W.out i n x t hn) i n hn,W.fr0,by rw [List.length_set]; exact W.fr1,
  G (P:=fun i n=>C.fr≤(i:Int)→n.key≠.none) (fun _=>ky_none hk) fun i n _=>W.free i n,W.la,by rw [List.length_set]; exact W.ln⟩,get_A W.n hm hok hk hv hp ha hd,used_set_le,fun k' hk'=>?_⟩
 obtain ⟨i,n,hn,e⟩:=fidx_mem.mp hk'
 exact G (P:=fun _ n=>ky n.key=some k'→k'=k∨fidx C.nodes k'≠none) (fun e=>.inl (Option.some.inj (e.symm.trans hk))) (fun i n _ hn e=>.inr (fidx_mem.mpr ⟨i,n,hn,e⟩)) i n hn e
theorem ins_B {C C':TC} {kv v:Value} {k:Ky} {p f:Nat} {md sp:NodeR} {f':Int} {t:Tok} {ns':List NodeR} (W:WF C) (hok:okKey kv) (hk:ky kv=some k) (hv:isV v) (hab:fidx C.nodes k=none) (hout:∀ n,k=.i n→¬ (1≤n∧n≤C.arr.length))
  (hp:mp kv C.nodes.length=(p:Int)) (hmm:mp md.key C.nodes.length=p) (S:StepB C.nodes ns' p f md sp kv v) (hf:f'=(f:Int)) (hall:∀ (i:Nat) (n:NodeR),C.nodes[i]?=some n→f < i→n.key≠.none) (hu:used ns'≤used C.nodes+1)
  (e:C'={ C with fr:=f',ft:=t,nodes:=ns' }):Ins C C' k v:=by
 subst e hf
 have ha:=fidx_none hab
 have hfl:=(List.getElem?_eq_some_iff.mp S.hs).1
 obtain ⟨t1,hm'⟩:=S.hp'
 obtain ⟨t2,hs'⟩:=S.hs'
 have G:=@StepB.el C.nodes ns' p f md sp kv v S t1 t2 hm' hs'
 refine ⟨rfl,rfl,rfl,S.len,⟨wf_B W.n S hok hk hv hp hmm ha,W.arr,fun i n x t hn=>G (P:=fun _ n=>n.key=.int x t→¬ (1≤x∧x≤C.arr.length)) (W.out p md x t S.hm) (hout_int hk hout) (fun i n _ _ hn=>W.out i n x t hn) i n hn,Int.natCast_nonneg f,by show (f:Int)≤(ns'.length:Int); rw [S.len]; exact Int.ofNat_le.2 (Nat.le_of_lt hfl),
  G (P:=fun i n=>(f:Int)≤(i:Int)→n.key≠.none) (fun _=>S.mkey) (fun _=>ky_none hk) fun i n _ h2 hn hle=>hall i n hn (Nat.lt_of_le_of_ne (Int.ofNat_le.1 hle) (Ne.symm h2)),W.la,by show ns'.length < 1000; rw [S.len]; exact W.ln⟩,get_B W.n S hok hk hv hp hmm ha,hu,fun k' hk'=>?_⟩
 obtain ⟨i,n,hn,e⟩:=fidx_mem.mp hk'
 exact G (P:=fun _ n=>ky n.key=some k'→k'=k∨fidx C.nodes k'≠none) (fun e=>.inr (fidx_mem.mpr ⟨p,md,S.hm,e⟩)) (fun e=>.inl (Option.some.inj (e.symm.trans hk))) (fun i n _ _ hn e=>.inr (fidx_mem.mpr ⟨i,n,hn,e⟩)) i n hn e
theorem ins_C {C C':TC} {kv v:Value} {k:Ky} {p f pr:Nat} {md sp q:NodeR} {f':Int} {t:Tok} {ns':List NodeR} (W:WF C) (hok:okKey kv) (hk:ky kv=some k) (hv:isV v) (hab:fidx C.nodes k=none) (hout:∀ n,k=.i n→¬ (1≤n∧n≤C.arr.length))
  (hp:mp kv C.nodes.length=(p:Int)) (hmm:mp md.key C.nodes.length≠p) (S:StepC C.nodes ns' p f pr md sp q kv v) (hf:f'=(f:Int)) (hall:∀ (i:Nat) (n:NodeR),C.nodes[i]?=some n→f < i→n.key≠.none) (hu:used ns'≤used C.nodes+1)
  (e:C'={ C with fr:=f',ft:=t,nodes:=ns' }):Ins C C' k v:=by
 subst e hf
 have ha:=fidx_none hab
 have hfl:=(List.getElem?_eq_some_iff.mp S.hs).1
 obtain ⟨t1,hm'⟩:=S.hp'
 obtain ⟨t2,hs'⟩:=S.hs'
 obtain ⟨t3,hq'⟩:=S.hq'
 have G:=@StepC.el C.nodes ns' p f pr md sp q kv v S t1 t2 t3 hm' hs' hq'
 refine ⟨rfl,rfl,rfl,S.len,⟨wf_C W.n S hok hk hv hp hmm ha,W.arr,fun i n x t hn=>G (P:=fun _ n=>n.key=.int x t→¬ (1≤x∧x≤C.arr.length)) (hout_int hk hout) (W.out p md x t S.hm) (W.out pr q x t S.hq) (fun i n _ _ _ hn=>W.out i n x t hn) i n hn,Int.natCast_nonneg f,by show (f:Int)≤(ns'.length:Int); rw [S.len]; exact Int.ofNat_le.2 (Nat.le_of_lt hfl),
  G (P:=fun i n=>(f:Int)≤(i:Int)→n.key≠.none) (fun _=>ky_none hk) (fun _=>S.mkey) (fun hle=>hall pr q S.hq (Nat.lt_of_le_of_ne (Int.ofNat_le.1 hle) (Ne.symm S.nf))) fun i n _ h2 _ hn hle=>hall i n hn (Nat.lt_of_le_of_ne (Int.ofNat_le.1 hle) (Ne.symm h2)),W.la,by show ns'.length < 1000; rw [S.len]; exact W.ln⟩,get_C W.n S hok hk hv hp hmm ha,hu,fun k' hk'=>?_⟩
 obtain ⟨i,n,hn,e⟩:=fidx_mem.mp hk'
 exact G (P:=fun _ n=>ky n.key=some k'→k'=k∨fidx C.nodes k'≠none) (fun e=>.inl (Option.some.inj (e.symm.trans hk))) (fun e=>.inr (fidx_mem.mpr ⟨p,md,S.hm,e⟩)) (fun e=>.inr (fidx_mem.mpr ⟨pr,q,S.hq,e⟩)) (fun i n _ _ _ hn e=>.inr (fidx_mem.mpr ⟨i,n,hn,e⟩)) i n hn e
theorem stepB_of {ns:List NodeR} {p f:Nat} {md sp sp1 md1 sp2:NodeR} {kv v:Value} (hne:f≠p) (hm:ns[p]?=some md) (hs:ns[f]?=some sp) (mk:md.key≠.none) (sk:sp.key=.none)
  (a1:md1.key=md.key) (a2:md1.val=md.val) (a3:md1.next=(f:Int)) (b1:sp2.key=kv) (b2:sp2.val=v) (b3:sp2.next=md.next) (c1:sp1.key=sp.key) :
  StepB ns (((ns.set f sp1).set p md1).set f sp2) p f md sp kv v∧used (((ns.set f sp1).set p md1).set f sp2)≤used ns+1:=by
 refine ⟨⟨by rw [List.length_set,List.length_set,List.length_set],hm,hs,mk,sk,hne,⟨_,(set_ne hne (set_self (set_ne hne hm))).trans (NodeR.is a1 a2 a3)⟩,⟨_,(set_self (n:=sp1) (set_ne (Ne.symm hne) (set_self hs))).trans (NodeR.is b1 b2 b3)⟩,fun i h1 h2=>?_⟩,?_⟩
 ·rw [List.getElem?_set_ne (Ne.symm h2),List.getElem?_set_ne (Ne.symm h1),List.getElem?_set_ne (Ne.symm h2)]
 ·refine Nat.le_trans used_set_le ?_
  rw [used_set_same (set_ne hne hm) a1,used_set_same hs c1]
  exact Nat.le_refl _
theorem stepC_of {ns:List NodeR} {p f pr:Nat} {md sp q q1 sp1 md1:NodeR} {kv v:Value} (hne:f≠p) (hpr:pr≠p) (hpf:pr≠f) (hm:ns[p]?=some md) (hs:ns[f]?=some sp) (hq:ns[pr]?=some q) (mk:md.key≠.none) (sk:sp.key=.none) (qn:q.next=(p:Int))
  (a1:q1.key=q.key) (a2:q1.val=q.val) (a3:q1.next=(f:Int)) (b1:sp1.key=md.key) (b2:sp1.val=md.val) (b3:sp1.next=md.next) (c1:md1.key=kv) (c2:md1.val=v) (c3:md1.next=-1) :
  StepC ns (((ns.set pr q1).set f sp1).set p md1) p f pr md sp q kv v∧used (((ns.set pr q1).set f sp1).set p md1)≤used ns+1:=by
 refine ⟨⟨by rw [List.length_set,List.length_set,List.length_set],hm,hs,hq,mk,sk,qn,hne,hpr,hpf,⟨_,(set_ne (Ne.symm hpr) (set_ne (Ne.symm hpf) (set_self hq))).trans (NodeR.is a1 a2 a3)⟩,⟨_,(set_ne (Ne.symm hne) (set_self (set_ne hpf hs))).trans (NodeR.is b1 b2 b3)⟩,⟨_,(set_self (n:=md) (set_ne hne (set_ne hpr hm))).trans (NodeR.is c1 c2 c3)⟩,fun i h1 h2 h3=>?_⟩,?_⟩
 ·rw [List.getElem?_set_ne (Ne.symm h1),List.getElem?_set_ne (Ne.symm h2),List.getElem?_set_ne (Ne.symm h3)]
 ·refine Nat.le_trans (used_set_used (n:=md) (set_ne hne (set_ne hpr hm)) mk) ?_
  refine Nat.le_trans used_set_le ?_
  rw [used_set_same hq a1]
  exact Nat.le_refl _
theorem ins_B' {C:TC} {kv v:Value} {k:Ky} {p f:Nat} {md sp sp1 md1 sp2:NodeR} {f':Int} {t:Tok} (W:WF C) (hok:okKey kv) (hk:ky kv=some k) (hv:isV v) (hab:fidx C.nodes k=none) (hout:∀ n,k=.i n→¬ (1≤n∧n≤C.arr.length))
  (hp:mp kv C.nodes.length=(p:Int)) (hmm:mp md.key C.nodes.length=p) (hf:f'=(f:Int)) (hall:∀ (i:Nat) (n:NodeR),C.nodes[i]?=some n→f < i→n.key≠.none)
  (hne:f≠p) (hm:C.nodes[p]?=some md) (hs:C.nodes[f]?=some sp) (mk:md.key≠.none) (sk:sp.key=.none)
  (a1:md1.key=md.key) (a2:md1.val=md.val) (a3:md1.next=(f:Int)) (b1:sp2.key=kv) (b2:sp2.val=v) (b3:sp2.next=md.next) (c1:sp1.key=sp.key) :
  Ins C { C with fr:=f',ft:=t,nodes:=((C.nodes.set f sp1).set p md1).set f sp2 } k v :=
 (fun S=>ins_B W hok hk hv hab hout hp hmm S.1 hf hall S.2 rfl) (stepB_of hne hm hs mk sk a1 a2 a3 b1 b2 b3 c1)
theorem ins_C' {C:TC} {kv v:Value} {k:Ky} {p f pr:Nat} {md sp q q1 sp1 md1:NodeR} {f':Int} {t:Tok} (W:WF C) (hok:okKey kv) (hk:ky kv=some k) (hv:isV v) (hab:fidx C.nodes k=none) (hout:∀ n,k=.i n→¬ (1≤n∧n≤C.arr.length))
  (hp:mp kv C.nodes.length=(p:Int)) (hmm:mp md.key C.nodes.length≠p) (hf:f'=(f:Int)) (hall:∀ (i:Nat) (n:NodeR),C.nodes[i]?=some n→f < i→n.key≠.none)
  (hne:f≠p) (hpr:pr≠p) (hpf:pr≠f) (hm:C.nodes[p]?=some md) (hs:C.nodes[f]?=some sp) (hq:C.nodes[pr]?=some q) (mk:md.key≠.none) (sk:sp.key=.none) (qn:q.next=(p:Int))
  (a1:q1.key=q.key) (a2:q1.val=q.val) (a3:q1.next=(f:Int)) (b1:sp1.key=md.key) (b2:sp1.val=md.val) (b3:sp1.next=md.next) (c1:md1.key=kv) (c2:md1.val=v) (c3:md1.next=-1) :
  Ins C { C with fr:=f',ft:=t,nodes:=((C.nodes.set pr q1).set f sp1).set p md1 } k v :=
 (fun S=>ins_C W hok hk hv hab hout hp hmm S.1 hf hall S.2 rfl) (stepC_of hne hpr hpf hm hs hq mk sk qn a1 a2 a3 b1 b2 b3 c1 c2 c3)
theorem spec_new_key_room (A:TA) (C:TC) (R:Led) (kv v:Value) (k:Ky) (W:WF C) (hok:okKey kv) (hk:ky kv=some k) (hv:isV v) (hab:fidx C.nodes k=none) (hout:∀ n,k=.i n→¬ (1≤n∧n≤C.arr.length)) (room:used C.nodes < C.nodes.length) :
  Spec w mean mg mb (.ref 412) [.ref A.t,kv,v,.none] 5 (TL w.params A C R) (fun r l=>r=.none∧∃ C',l=TL w.params A C' R∧Ins C C' k v):=by
 have hln:=W.ln
 have hpos:0 < C.nodes.length:=Nat.lt_of_le_of_lt (Nat.zero_le _) room
 have hr:=mp_range kv C.nodes.length hpos
 obtain ⟨p,hp⟩:∃ p:Nat,mp kv C.nodes.length=(p:Int):=⟨(mp kv C.nodes.length).toNat,(Int.toNat_of_nonneg hr.1).symm⟩
 obtain ⟨md,hm⟩:∃ md,C.nodes[p]?=some md:=⟨_,List.getElem?_eq_getElem (lq [_,_] [_] [.an (.le Kq Zq) (.lt Zq Nq),.eq Zq Nr] (.t Nr Nq) [[110100]] rfl hr hp)⟩
 have hhm:=handed_val (W.n.vals p md hm)
 refine Spec.enterA (by k_is) (by k_is) (fun s X=>(BindsTo.of_eq rfl)) rfl (by kernel_rfl) (by kernel_rfl) rfl rfl rfl (by decide) ?_
 refine HS.ite (EvT.cmp (Ev.lenN rfl rfl (Ev.blt 8 sl8 (by k_is) (by boot_by_name) (by kernel_rfl)) rfl (Ev.t_nodes rfl rfl (Ev.name 0 sl0 rfl)) hln) Ev.int ICmp.eq rfl) (fun _=>(False.elim (by exact lq [_] [_] [.an (.le Kq Zq) (.lt Zq Nq),.eq Nq Kq] .f [[101110]] rfl hr (by assumption)))) (fun _=>(HS.nil (HS.assign 4 sl4 rfl (Ev.of (HE.meth (Ev.name 0 sl0 rfl) InsAt.tab ⟨by k_is,by k_is,by k_is,by k_is⟩ rfl rfl (Evs.cons rfl (Ev.name 1 sl1 rfl) Evs.nil) (nb rfl) (spec_main_position' A C R kv (↑p) hok hpos hln hp))) (HS.assign 5 sl5 rfl (Ev.node rfl rfl (Ev.t_nodes rfl rfl (Ev.name 0 sl0 rfl)) (Ev.name 4 sl4 rfl) rfl hm (idx_lt hm hln)) (HS.ite (Ev.isNot (Ev.n_val rfl rfl rfl hm hhm (Ev.name 5 sl5 rfl))) (fun _=>(HS.assignH 6 sl6 rfl (HE.meth (Ev.name 0 sl0 rfl) InsAt.tab ⟨by k_is,by k_is,by k_is,by k_is⟩ rfl rfl Evs.nil (nb rfl) (spec_free_position' A C R W room)) ?_)) (fun _=>(HS.nil (HS.setV rfl (Ev.name 1 sl1 rfl) (Ev.name 5 sl5 rfl) (SA.key rfl hm) (HS.setV rfl (Ev.name 2 sl2 rfl) (Ev.name 5 sl5 rfl) (SA.val rfl (set_self hm)) (HS.ite (Ev.isNot (Ev.name 3 sl3 rfl)) (fun _=>(False.elim (by contradiction))) (fun _=>(HS.nil (HS.nil (HS.done ?_))))))))))))))
 ·rename_i hd
  have hmk:md.key≠.none:=fun e=>hd (W.n.nonk p md hm e).2
  have hmo:=key_ky W.n hm hmk
  have hhk:=handed_key (.inr hmo)
  rintro _ _ ⟨f,sp,t',⟨t,rfl⟩,rfl,hs,hsk,hall⟩
  have hne:f≠p:=free_ne hs hsk hm hmk
  refine HS.ite (EvT.cmp (Ev.nameI 6 sl6 rfl) Ev.int ICmp.lt rfl) (fun _=>(False.elim (by contradiction))) (fun _=>(HS.nil (HS.assign 7 sl7 rfl (Ev.of (HE.meth (Ev.name 0 sl0 rfl) InsAt.tab ⟨by k_is,by k_is,by k_is,by k_is⟩ rfl rfl (Evs.cons rfl (Ev.n_key rfl rfl rfl hm hhk (Ev.name 5 sl5 rfl)) Evs.nil) (nb rfl) (spec_main_position A (C.setFr (↑f) t') R (md.key) hmo (by omega) (by omega)))) (HS.ite (EvT.cmp (Ev.name 7 sl7 rfl) (Ev.name 4 sl4 rfl) ICmp.ne rfl) (fun _=>?_) (fun _=>(HS.setV rfl (Ev.n_next rfl rfl rfl hm (Ev.name 5 sl5 rfl)) (Ev.node rfl rfl (Ev.t_nodes rfl rfl (Ev.name 0 sl0 rfl)) (Ev.nameI 6 sl6 rfl) rfl hs (idx_lt hs hln)) (SA.next rfl hs) (HS.setV rfl (Ev.name 6 sl6 rfl) (Ev.name 5 sl5 rfl) (SA.next rfl (set_ne hne hm)) (HS.assign 5 sl5 rfl (Ev.node rfl rfl (Ev.t_nodes rfl rfl (Ev.name 0 sl0 rfl)) (Ev.nameI 6 sl6 rfl) rfl (set_ne (Ne.symm hne) (set_self hs)) (idx_lt hs hln)) (HS.nil (HS.nil (HS.setV rfl (Ev.name 1 sl1 rfl) (Ev.name 5 sl5 rfl) (SA.key rfl (set_ne (Ne.symm hne) (set_self hs))) (HS.setV rfl (Ev.name 2 sl2 rfl) (Ev.name 5 sl5 rfl) (SA.val rfl (set_self (set_ne (Ne.symm hne) (set_self hs)))) (HS.ite (Ev.isNot (Ev.name 3 sl3 rfl)) (fun _=>(False.elim (by contradiction))) (fun _=>(HS.nil (HS.nil (HS.done ?_)))))))))))))))))
  ·rename_i hmm
   obtain ⟨ox,mo,hox,eox,hok1,hok2⟩:=W.n.main p md hm hmk
   rw [← eox] at hmm
   have eox:=eox.symm
   have hop:ox≠p:=fun e=>hmm (congrArg _ e)
   obtain ⟨l,hc⟩:=W.n.chain ox (List.getElem?_eq_some_iff.mp hox).1
   have hin:p∈l:=W.n.reach p md l hm hmk (by rw [eox]; exact hc)
   refine HS.whileU (X:=Nat×List Nat) (fun x=>Chain C.nodes x.1 x.2∧p∈x.2∧x.1≠p) (fun x m=>m.put 7 (.i x.1)) (fun _=>TL w.params A (C.setFr f t') R) (·.2.length) (ox,l) ⟨hc,hin,hop⟩ (by exact NM.Sub.eqI rfl eox (NM.Sub.same rfl (NM.Sub.same rfl (NM.Sub.same rfl (NM.Sub.same rfl (NM.Sub.same rfl (NM.Sub.same rfl (NM.Sub.same rfl NM.Sub.nil)))))))) rfl ?_
   intro x ⟨hc,hin,hxp⟩ Q' next _ _
   obtain ⟨q,l',hl',hq,hc'⟩:=hc.head
   rw [hl'] at hin
   have hin':p∈l':=(List.mem_cons.mp hin).resolve_left (fun e=>hxp e.symm)
   obtain ⟨y,q2,l2,ey,rfl,hy,hc2⟩:∃ (y:Nat) (q2:NodeR) (l2:List Nat),q.next=(y:Int)∧l'=y::l2∧C.nodes[y]?=some q2∧Chain C.nodes q2.next l2:=by
    by_cases h0:0≤q.next
    ·exact hc'.tail_of h0
    ·rw [hc'.out h0] at hin'; cases hin'
   have hqk:q.key≠.none:=fun e=>absurd (W.n.nonk x.1 q hq e).1 (by rw [ey]; exact Int.not_lt.mpr (Int.natCast_nonneg y))
   have hxf:x.1≠f:=Ne.symm (free_ne hs hsk hq hqk)
   refine Tst.mk' (EvT.cmp (Ev.toI (Ev.n_next rfl rfl rfl hq (Ev.node rfl rfl (Ev.t_nodes rfl rfl (Ev.name 0 sl0 rfl)) (Ev.name 7 sl7 rfl) rfl hq (idx_lt hq hln)))) (Ev.name 4 sl4 rfl) ICmp.ne rfl) (fun _=>(HS.assign 7 sl7 rfl (Ev.n_next rfl rfl rfl hq (Ev.node rfl rfl (Ev.t_nodes rfl rfl (Ev.name 0 sl0 rfl)) (Ev.name 7 sl7 rfl) rfl hq (idx_lt hq hln))) (HS.nil (HS.done ?_)))) (fun _=>(HS.setV rfl (Ev.name 6 sl6 rfl) (Ev.node rfl rfl (Ev.t_nodes rfl rfl (Ev.name 0 sl0 rfl)) (Ev.name 7 sl7 rfl) rfl hq (idx_lt hq hln)) (SA.next rfl hq) (HS.exprV rfl (HE.meth (Ev.name 5 sl5 rfl) (InsAt.nodeX rfl (set_ne hxp hm)) ⟨by k_is,by k_is,by k_is,by k_is⟩ rfl rfl (Evs.cons rfl (Ev.node rfl rfl (Ev.t_nodes rfl rfl (Ev.name 0 sl0 rfl)) (Ev.nameI 6 sl6 rfl) rfl (set_ne hxf hs) (idx_lt hs hln)) Evs.nil) (nb rfl) (spec_moved_to rfl rfl (Ne.symm hne) (set_ne hxp hm) (set_ne hxf hs) hhk hhm)) (HS.setI rfl (Ev.neg Ev.int) (Ev.name 5 sl5 rfl) (fun _=>(SA.next rfl (set_ne hne (set_ne hxp hm)))) (fun _=>(HS.setV rfl Ev.none (Ev.name 5 sl5 rfl) (SA.val rfl (set_self (set_ne hne (set_ne hxp hm)))) (HS.nil (HS.nil (HS.setV rfl (Ev.name 1 sl1 rfl) (Ev.name 5 sl5 rfl) (SA.key rfl (set_self (set_self (set_ne hne (set_ne hxp hm))))) (HS.setV rfl (Ev.name 2 sl2 rfl) (Ev.name 5 sl5 rfl) (SA.val rfl (set_self (set_self (set_self (set_ne hne (set_ne hxp hm)))))) (HS.ite (Ev.isNot (Ev.name 3 sl3 rfl)) (fun _=>(False.elim (by contradiction))) (fun _=>(HS.nil (HS.nil (HS.done ?_)))))))))))))))
   ·rename_i hyp
    exact next (y,y::l2) _ ⟨.cons hy hc2,hin',fun e=>hyp (by rw [ey]; exact congrArg _ e)⟩ (by rw [hl']; exact Nat.lt_succ_self _) (by exact NM.Sub.eqV rfl ey (NM.Sub.same rfl (NM.Sub.same rfl (NM.Sub.same rfl (NM.Sub.same rfl (NM.Sub.same rfl (NM.Sub.same rfl (NM.Sub.same rfl NM.Sub.nil))))))))
   ·have hqp:q.next=(p:Int):=Decidable.not_not.mp (by assumption)
    simp only [TC.setNode,List.set_set]
    exact ⟨rfl,_,rfl,ins_C' W hok hk hv hab hout hp (by rw [eox]; exact hmm) rfl hall hne hxp hxf hm hs hq hmk hsk hqp rfl rfl rfl rfl rfl rfl rfl rfl rfl⟩
  ·have hmm:mp md.key C.nodes.length=p:=Decidable.not_not.mp (by assumption)
   simp only [TC.setNode,List.set_set]
   exact ⟨rfl,_,rfl,ins_B' W hok hk hv hab hout hp hmm rfl hall hne hm hs hmk hsk rfl rfl rfl rfl rfl rfl rfl⟩
 ·rename_i hd _
  exact ⟨rfl,_,by simp only [TC.setNode,List.set_set],ins_A W hok hk hv hab hout hp hm (Decidable.not_not.mp hd)⟩
end
noncomputable def inArr (len:Nat):Ky→Bool
 | .i n=>decide (1≤n∧n≤(len:Int))
 | .b _=>false
structure Lay (C C':TC) (k:Ky) (v:Value):Prop where
 alen:C'.arr.length=C.arr.length
 nlen:C'.nodes.length=C.nodes.length
 wf:WF C'
 look:∀ k',look C' k'=if k'=k then v else look C k'
 used:used C'.nodes≤used C.nodes+(if inArr C.arr.length k=true then 0 else 1)
 keys:∀ k',fidx C'.nodes k'≠none→(k'=k∧inArr C.arr.length k=false)∨fidx C.nodes k'≠none
theorem look_eq (C:TC) (k:Ky):look C k=if inArr C.arr.length k=true then (match k with | .i n=>(C.arr[(n - 1).toNat]?).getD .none | .b _=>.none) else nodeGet C.nodes k:=by
 cases k with
 | i n =>
  by_cases h:1≤n∧n≤(C.arr.length:Int)
  ·simp only [inArr,decide_eq_true h,if_true,look,if_pos h]
  ·simp only [inArr,decide_eq_false h,look,if_neg h,Bool.false_eq_true,if_false]
 | b l=>simp [inArr,look]
theorem inArr_out {C:TC} {k:Ky} (h:inArr C.arr.length k=false):∀ n,k=.i n→¬ (1≤n∧n≤C.arr.length):=by
 intro n e
 subst e
 simpa [inArr] using h
theorem Ins.lay {C C':TC} {k:Ky} {v:Value} (I:Ins C C' k v) (h:inArr C.arr.length k=false):Lay C C' k v:=by
 refine ⟨by rw [I.arr],I.len,I.wf,fun k'=>?_,by rw [h]; exact I.used,fun k' hk'=>(I.keys k' hk').imp (fun e=>⟨e,h⟩) id⟩
 rw [look_eq,look_eq C,I.arr,I.get]
 by_cases e:k'=k
 ·subst e; simp [h]
 ·simp [e]
theorem lay_arr {C:TC} {n:Int} {v:Value} (W:WF C) (hv:isV v) (h:1≤n∧n≤(C.arr.length:Int)):Lay C { C with arr:=C.arr.set (n - 1).toNat v } (.i n) v:=by
 refine ⟨by simp,rfl,⟨W.n,?_,?_,W.fr0,W.fr1,W.free,by simpa using W.la,W.ln⟩,fun k'=>?_,Nat.le_add_right _ _,fun z9 h=>.inr h⟩
 ·intro x hx
  obtain ⟨i,hi⟩:=List.getElem?_of_mem hx
  have hi':(C.arr.set (n - 1).toNat v)[i]?=some x:=hi
  rw [List.getElem?_set] at hi'
  split at hi'
  ·split at hi'
   ·cases hi'; exact hv
   ·cases hi'
  ·exact W.arr x (List.mem_of_getElem? hi')
 ·intro i nd k t hn e
  have:=W.out i nd k t hn e
  simpa using this
 ·rw [look_eq,look_eq C]
  simp only [List.length_set]
  cases k' with
  | b l=>simp [inArr]
  | i m =>
   by_cases e:m=n
   ·subst e
    simp only [inArr,decide_eq_true h,if_true]
    rw [List.getElem?_set_self (by exact lq [_,_] [_] [.an (.le Kr Zq) (.le Zq Nq),.tn 1 (.s Zq Kr)] (.t Nr Nq) [[1010100],[110110]] rfl h rfl)]
    rfl
   ·rw [if_neg (fun z=>e (Ky.i.inj z))]
    by_cases hm:1≤m∧m≤(C.arr.length:Int)
    ·simp only [inArr,decide_eq_true hm,if_true]
     rw [List.getElem?_set_ne (by omega)]
    ·simp only [inArr,decide_eq_false hm,Bool.false_eq_true,if_false]
noncomputable def aix:Value→Int
 | .int n _=>n
 | _=>-1
theorem inArr_aix {kv:Value} {k:Ky} (hk:ky kv=some k) (len:Nat):inArr len k=true↔1≤aix kv∧aix kv≤len:=by
 cases kv with
 | int n t=>cases hk; exact decide_eq_true_iff
 | bytes b t=>cases hk; exact ⟨nofun,fun h=>absurd (show (1:Int)≤-1 from h.1) (by decide)⟩
 | _=>cases hk
theorem lay_arr' {C:TC} {kv v:Value} {k:Ky} (W:WF C) (hv:isV v) (hk:ky kv=some k) (h:1≤aix kv∧aix kv≤(C.arr.length:Int)):Lay C (C.setArr (aix kv - 1).toNat v) k v:=by
 cases kv with
 | int n t=>cases hk; exact lay_arr W hv h
 | bytes b t=>exact absurd (show (1:Int)≤-1 from h.1) (by decide)
 | _=>cases hk
theorem HS.t_arr {c:Cn} {m:NM} {A:TA} {C:TC} {R:Led} {ss:List Stmt} {K:List (List Stmt)} {Q:Flow→NM→Led→Prop} {e o i:PySem.Expr} {op pos:Pos} {k:Int} {v:Value} (hc:noComp e=true) (h:Ev ⟨c,m,TL c.w.params A C R⟩ e (.v v)) (ho:Ev ⟨c,m,TL c.w.params A C R⟩ o (.v (.ref C.la))) (hi:Ev ⟨c,m,TL c.w.params A C R⟩ i (.i (k - 1)))
  (h1:1≤k∧k≤C.arr.length) (hb:C.arr.length < 1000) (kk:HS c (ss::K) m (TL c.w.params A (C.setArr (k - 1).toNat v) R) Q):HS c ((.Assign [.Subscript o i op] e pos::ss)::K) m (TL c.w.params A C R) Q :=
 HS.step fun z9 z9 z9 s T R0=>wpAny_Assign_Subscript (h.use T R0 fun z9 z9 z9 hv R1=>ho.use T R1 fun z9 z9 z9 eo R2=>hi.use T R2 fun _ _ _ ⟨u,ei⟩ R3=>by
  cases hv; cases eo; subst ei
  obtain ⟨nm,F,H⟩:=R3.F
  exact set_arr F R3.N R3.D rfl (by exact lq [_] [_] [.an (.le Kr Zq) (.le Zq Nq)] (.le Kq (.s Zq Kr)) [[1010]] rfl h1) (by exact lq [_] [_] [.an (.le Kr Zq) (.le Zq Nq)] (.lt (.s Zq Kr) Nq) [[1100]] rfl h1) (by omega) fun h' F' N' D'=>⟨h',_,m,TL c.w.params A (C.setArr (k - 1).toNat v) R,rfl,⟨⟨nm,F',H⟩,N',D'⟩,kk⟩) (swaps_of hc)
section
theorem spec_array_index (kv:Value) (led:Led) (h:okKey kv):Spec w mean mg mb (.ref 306) [kv] 2 led (Pst (.i (aix kv)) led):=by
 cases kv with
 | int n t=>exact (spec_array_index_int n t led).mono (Nat.le_refl _) fun z9 z9 p=>⟨⟨t,p.1⟩,p.2⟩
 | bytes b t=>exact spec_array_index_bytes b t led
 | _=>exact h.elim
theorem spec_put_back (A:TA) (C:TC) (R:Led) (kv v:Value) (k:Ky) (W:WF C) (hok:okKey kv) (hk:ky kv=some k) (hv:isV v) (hcase:inArr C.arr.length k=true∨(inArr C.arr.length k=false∧fidx C.nodes k=none∧used C.nodes < C.nodes.length)) :
  Spec w mean mg mb (.ref 455) [.ref A.t,kv,v,.none] 6 (TL w.params A C R) (fun r l=>r=.none∧∃ C',l=TL w.params A C' R∧Lay C C' k v):=by
 have hla:=W.la
 have hi:=inArr_aix hk C.arr.length
 refine Spec.enterA (by k_is) (by k_is) (fun s X=>(BindsTo.of_eq rfl)) rfl (by kernel_rfl) (by kernel_rfl) rfl rfl rfl (by decide) ?_
 refine HS.assign 4 sl4 rfl (Ev.of (HE.callK rfl (Ev.glob 5 sl5 (by k_is)) (Evs.cons rfl (Ev.name 1 sl1 rfl) Evs.nil) (by k_is) (nb rfl) (spec_array_index kv (Mine.TL w.params A C R) hok))) (HS.ite (EvT.chain Ev.int (Ev.name 4 sl4 rfl) (Ev.lenA rfl rfl (Ev.blt 6 sl6 (by k_is) (by boot_by_name) (by kernel_rfl)) rfl (Ev.t_array rfl rfl (Ev.name 0 sl0 rfl)) hla) ICmp.le ICmp.le rfl) (fun z9=>(HS.t_arr rfl (Ev.name 2 sl2 rfl) (Ev.t_array rfl rfl (Ev.name 0 sl0 rfl)) (Ev.bin (Ev.name 4 sl4 rfl) Ev.int IOp.sub) (by assumption) hla (HS.nil (HS.nil (HS.done ?_))))) (fun z9=>?_))
 ·exact ⟨rfl,_,rfl,lay_arr' W hv hk (by assumption)⟩
 ·have hn:inArr C.arr.length k=false:=Bool.eq_false_iff.mpr fun e=>absurd (hi.mp e) (by assumption)
  obtain ⟨_,hab,room⟩:=hcase.resolve_left (by rw [hn]; exact nofun)
  have hout:=inArr_out hn
  refine HS.expr rfl (HE.meth (Ev.name 0 sl0 rfl) InsAt.tab ⟨by k_is,by k_is,by k_is,by k_is⟩ rfl rfl (Evs.cons rfl (Ev.name 1 sl1 rfl) (Evs.cons rfl (Ev.name 2 sl2 rfl) (Evs.cons rfl (Ev.name 3 sl3 rfl) Evs.nil))) (nb rfl) (spec_new_key_room A C R kv v k W hok hk hv hab hout room)) ?_
  rintro _ _ ⟨rfl,C',rfl,hI⟩
  refine HS.nil (HS.nil (HS.done ?_))
  exact ⟨rfl,_,rfl,hI.lay hn⟩
end
noncomputable def ForPost (h₀:Heap) (L:Addr) (its keep:Led) (J:Names→Led→Prop) (s:Shared) (Q:Flow→Shared→Prop) (f:Flow) (s₂:Shared):Prop :=
 match f with
 | .ret v=>Q (.ret v) s₂
 | .brk=>Q .next s₂
 | _=>∃ h' tk m' led',s₂={ s with heap:=h',toks:=tk }∧Fr h₀ L h' m'∧News h₀ L h' (its++led')∧Apart (its++led')∧(∀ p∈keep,p∈led')∧J m' led'
theorem Apart.sub {l l':Led} (h:Apart l) (p:l'.Sublist l):Apart l':=h.sublist (p.map _)
theorem its_one {its:Led} {I:Addr} {c:String} (h:its.map (·.1)=[(I,c)].map (·.1)):∃ o,its=[(I,o)]:=by
 have e:[(I,c)].map (·.1)=[I]:=rfl
 rw [e] at h
 cases its with
 | nil=>exact absurd h (by simp)
 | cons p r =>
  rw [List.map_cons] at h
  obtain ⟨h1,h2⟩:=List.cons.inj h
  obtain rfl:=List.map_eq_nil_iff.mp h2
  exact ⟨p.2,by rw [← h1]⟩
theorem its_two {its:Led} {I I':Addr} {c c':String} (h:its.map (·.1)=[(I,c),(I',c')].map (·.1)):∃ o o',its=[(I,o),(I',o')]:=by
 have e:[(I,c),(I',c')].map (·.1)=[I,I']:=rfl
 rw [e] at h
 cases its with
 | nil=>exact absurd h (by simp)
 | cons p r =>
  rw [List.map_cons] at h
  obtain ⟨h1,h2⟩:=List.cons.inj h
  obtain ⟨o',rfl⟩:=its_one (c:=c') h2
  exact ⟨p.2,o',by rw [← h1]⟩
theorem SubL.of {l all:Led} (h:∀ p∈l,p∈all):SubL l all:=by
 induction l with
 | nil=>exact trivial
 | cons p r ih=>exact ⟨h p (.head _),ih fun q hq=>h q (.tail _ hq)⟩
set_option maxHeartbeats 200000 in
theorem AllObj.intro:∀ {ws:List (Addr×String)} {k:Led→Prop},(∀ its:Led,its.map (·.1)=ws.map (·.1)→k its)→AllObj ws k
 | [],_,h=>h [] rfl
 | w::ws,k,h=>by
  show ∀ o:Obj,o.cls=.type w.2→AllObj ws (fun its=>k ((w.1,o)::its))
  exact fun o z9=>AllObj.intro fun its e=>h ((w.1,o)::its) (by simp [e])
section
variable {prog:Program} {w:World} {A:Around} {E:Value→Shared→Prop} {s:Shared} {env:Env} {h₀:Heap} {target:PySem.Expr} {body:List Stmt} {Q:Flow→Shared→Prop}
set_option maxHeartbeats 200000 in
theorem items_led {ws:List (Addr×String)} {keep:Led} {xs:List Itm} (J:Nat→Names→Led→Prop)
  (turn:∀ (i:Nat) a m₁ led₁ v h tk its,xs[i]?=some a→a.Is v h→J i m₁ led₁→its.map (·.1)=ws.map (·.1)→Fr h₀ env.locals h m₁→News h₀ env.locals h (its++led₁)→Apart (its++led₁) →
   wpAny (model prog w) A (assign target env v) (fun z9 s₂=>wpAny (model prog w) A (execs body env) (ForPost h₀ env.locals its keep (J (i+1)) { s with heap:=h,toks:=tk } Q) E s₂) E { s with heap:=h,toks:=tk })
  (done:∀ m₁ led₁ h tk,J xs.length m₁ led₁→Fr h₀ env.locals h m₁→News h₀ env.locals h led₁→Apart led₁→Q .next { s with heap:=h,toks:=tk }) :
  ∀ n i m news,n+i=xs.length→J i m news→(ws.map (·.1)++news.map (·.1)).Nodup→ItemsRest prog w A E h₀ env target body Q s ws keep (xs.drop i) m news:=by
 intro n
 induction n with
 | zero =>
  intro i m news hi hJ hn
  have:xs.drop i=[]:=List.drop_eq_nil_of_le (by exact lq [_,_] [] [.e (.a Kq Nq) Nr] (.l Nr Nq) [[1100]] rfl hi)
  rw [this]
  refine ItemsRest.zero fun h tk F N=>done m news h tk ((show i=xs.length by exact lq [_,_] [] [.e (.a Kq Nq) Nr] (.e Nq Nr) [[1010,1100]] rfl hi)▸hJ) F N ?_
  exact (List.nodup_append.mp hn).2.1
 | succ n ih =>
  intro i m news hi hJ hn
  have hlt:i < xs.length:=by exact lq [_,_,_] [] [.e (.a (.a Nq Kr) Nr) Ns] (.t Nr Ns) [[1010]] rfl hi
  rw [List.drop_eq_getElem_cons hlt]
  intro v h tk hav F
  refine AllObj.intro fun its hits N=>?_
  have D:Apart (its++news):=by unfold Apart; rw [List.map_append,hits]; exact hn
  refine wpAny_mono (turn i xs[i] m news v h tk its (List.getElem?_eq_getElem hlt) hav hJ hits F N D) (fun z9 s₂ h₂=>wpAny_mono h₂ (fun f s₃ p=>?_) fun z9 z9 e=>e) fun z9 z9 e=>e
  have fin:(∃ h' tk' m' led',s₃={ s with heap:=h',toks:=tk' }∧Fr h₀ env.locals h' m'∧News h₀ env.locals h' (its++led')∧Apart (its++led')∧(∀ p∈keep,p∈led')∧J (i+1) m' led') →
    UnrEndW h₀ env.locals { s with heap:=h,toks:=tk } its (fun m' n'=>SubL keep n'∧ItemsRest prog w A E h₀ env target body Q s ws keep (xs.drop (i+1)) m' n') s₃:=by
   rintro ⟨h',tk',m',led',rfl,F',N',D',hk,hJ'⟩
   have D2:(ws.map (·.1)++led'.map (·.1)).Nodup:=by
    have:=D'
    unfold Apart at this
    rwa [List.map_append,hits] at this
   refine ⟨h',tk',m',led',rfl,F',N',fun p hp q hq e=>?_,SubL.of hk,ih (i+1) m' led' (by exact lq [_,_,_] [] [.e (.a (.a Nq Kr) Nr) Ns] (.e (.a Nq (.a Nr Kr)) Ns) [[1010,1100]] rfl hi) hJ' D2⟩
   have h3:=(List.nodup_append.mp D2).2.2
   exact h3 q.1 (hits▸List.mem_map_of_mem hq) p.1 (List.mem_map_of_mem hp) e.symm
  cases f with
  | ret v=>exact p
  | brk=>exact p
  | next=>exact fin p
  | cont=>exact fin p
set_option maxHeartbeats 200000 in
theorem for_list {L:Addr} {l:Addr} {vs:List Value} {n:Nat} {m₀:Names} {news:Led} (J:Nat→Names→Led→Prop) (hh:A.handled=none) (F:Fr h₀ L s.heap m₀) (N:News h₀ L s.heap news) (D:Apart news)
  (hm:(l,listOf vs.toArray n)∈news) (hj:J 0 m₀ news)
  (turn:∀ I (i:Nat) v m₁ led₁ h tk o,vs[i]?=some v→J i m₁ led₁→Fr h₀ L h m₁→News h₀ L h ((I,o)::led₁)→Apart ((I,o)::led₁) →
   wpAny (model prog w) A (assign target env v) (fun z9 s₂=>wpAny (model prog w) A (execs body env) (ForPost h₀ L [(I,o)] [(l,listOf vs.toArray n)] (J (i+1)) { s with heap:=h,toks:=tk } Q) E s₂) E { s with heap:=h,toks:=tk })
  (done:∀ m₁ led₁ h tk,J vs.length m₁ led₁→Fr h₀ L h m₁→News h₀ L h led₁→Apart led₁→Q .next { s with heap:=h,toks:=tk }) (hL:env.locals=L) :
  wpAny (model prog w) A (pyIter (.ref l)) (fun it s₂=>TurnsAt prog w A h₀ env target body Q E it s₂) E s:=by
 subst hL
 refine iter_listTurns hh F N hm rfl rfl fun I hI=>?_
 refine items_led (xs:=vs.map .val) (s:=s) J ?_ (fun m₁ led₁ h tk hJ=>done m₁ led₁ h tk (by simpa using hJ)) vs.length 0 m₀ news (by simp) hj ?_
 ·intro i a m₁ led₁ v h tk its ha hav hJ hits F₁ N₁ D₁
  rw [List.getElem?_map] at ha
  cases hv:vs[i]? with
  | none=>rw [hv] at ha; cases ha
  | some u =>
   rw [hv] at ha
   cases ha
   have e:v=u:=hav
   subst e
   obtain ⟨o,rfl⟩:=its_one hits
   exact turn I i v m₁ led₁ h tk o hv hJ F₁ N₁ D₁
 ·show (I::news.map (·.1)).Nodup
  exact List.nodup_cons.mpr ⟨fun hm=>by obtain ⟨q,hq,e⟩:=List.mem_map.mp hm; exact absurd (hI q hq) (by rw [e]; exact Nat.lt_irrefl _),D⟩
set_option maxHeartbeats 200000 in
theorem for_enum {L:Addr} {elts:List PySem.Expr} {k:Nat} {pos:Pos} {l:Addr} {vs:List Value} {n:Nat} {m₀:Names} {news:Led} (J:Nat→Names→Led→Prop) (hh:A.handled=none) (F:Fr h₀ L s.heap m₀) (N:News h₀ L s.heap news) (D:Apart news)
  (hm:(l,listOf vs.toArray n)∈news) (hj:J 0 m₀ news)
  (turn:∀ I I' (i:Nat) v T t m₁ led₁ h tk o o',vs[i]?=some v→IsTup h T #[.int (i:Int) t,v]→J i m₁ led₁→Fr h₀ L h m₁→News h₀ L h ((I,o)::(I',o')::led₁)→Apart ((I,o)::(I',o')::led₁) →
   wpAny (model prog w) A (assign (.Tuple elts k pos) env (.ref T)) (fun z9 s₂=>wpAny (model prog w) A (execs body env) (ForPost h₀ L [(I,o),(I',o')] [(l,listOf vs.toArray n)] (J (i+1)) { s with heap:=h,toks:=tk } Q) E s₂) E { s with heap:=h,toks:=tk })
  (done:∀ m₁ led₁ h tk,J vs.length m₁ led₁→Fr h₀ L h m₁→News h₀ L h led₁→Apart led₁→Q .next { s with heap:=h,toks:=tk }) (hL:env.locals=L) :
  wpAny (model prog w) A (call (.type "enumerate") [.ref l]) (fun xv s₁=>wpAny (model prog w) A (pyIter xv) (fun it s₂=>TurnsAt prog w A h₀ env (.Tuple elts k pos) body Q E it s₂) E s₁) E s:=by
 subst hL
 refine ktu_enum hh F N hm rfl rfl rfl fun I hI=>?_
 refine items_led (xs:=enumItems 0 vs) (s:=s) J ?_ (fun m₁ led₁ h tk hJ=>done m₁ led₁ h tk (by simpa [enumItems_length] using hJ)) vs.length 0 m₀ news (by simp [enumItems_length]) hj ?_
 ·intro i a m₁ led₁ v h tk its ha hav hJ hits F₁ N₁ D₁
  have hlt:i < vs.length:=by
   have:=(List.getElem?_eq_some_iff.mp ha).1
   rwa [enumItems_length] at this
  rw [enumItems_get vs 0 i (List.getElem?_eq_getElem hlt)] at ha
  cases ha
  obtain ⟨T,t,e,hT⟩:=hav
  subst e
  rw [Nat.zero_add] at hT
  obtain ⟨o1,o2,rfl⟩:=its_two hits
  exact turn _ _ i vs[i] T t m₁ led₁ h tk o1 o2 (List.getElem?_eq_getElem hlt) hT hJ F₁ N₁ D₁
 ·show ((I+1)::I::news.map (·.1)).Nodup
  have hn:∀ b,I≤b→b ∉ news.map (·.1):=fun b hb hm=>by obtain ⟨q,hq,e⟩:=List.mem_map.mp hm; exact absurd (hI q hq) (by rw [e]; exact Nat.not_lt.mpr hb)
  refine List.nodup_cons.mpr ⟨fun hm=>?_,List.nodup_cons.mpr ⟨hn I (Nat.le_refl _),D⟩⟩
  rcases List.mem_cons.mp hm with e | hm
  ·exact absurd e (Nat.succ_ne_self _)
  ·exact hn _ (Nat.le_succ _) hm
set_option maxHeartbeats 200000 in
theorem for_range {L:Addr} {r:Addr} {a₀ b₀:Int} {t₀ u₀ v₀:Tok} {x:Str} {px:Pos} {n:Nat} {m₀:Names} {news:Led} (J:Nat→Names→Led→Prop) (hh:A.handled=none) (hr:IsRange s.heap r a₀ b₀ 1 t₀ u₀ v₀) (hsmall:Builtin.Range.small a₀ b₀ 1=true) (hn:Builtin.Range.rangeSize a₀ b₀ 1=(n:Int))
  (F:Fr h₀ L s.heap m₀) (N:News h₀ L s.heap news) (D:Apart news) (hj:J 0 m₀ news)
  (turn:∀ I (i:Nat) t m₁ led₁ h tk o,i < n→J i m₁ led₁→Fr h₀ L h m₁→News h₀ L h ((I,o)::led₁)→Apart ((I,o)::led₁) →
   wpAny (model prog w) A (assign (.Name x px) env (.int (a₀+(i:Int)) t)) (fun z9 s₂=>wpAny (model prog w) A (execs body env) (ForPost h₀ L [(I,o)] [] (J (i+1)) { s with heap:=h,toks:=tk } Q) E s₂) E { s with heap:=h,toks:=tk })
  (done:∀ m₁ led₁ h tk,J n m₁ led₁→Fr h₀ L h m₁→News h₀ L h led₁→Apart led₁→Q .next { s with heap:=h,toks:=tk }) (hL:env.locals=L) :
  wpAny (model prog w) A (pyIter (.ref r)) (fun it s₂=>TurnsAt prog w A h₀ env (.Name x px) body Q E it s₂) E s:=by
 subst hL
 refine wpAny_pyIter_range hr hsmall ?_
 let xs:List Itm:=(List.range n).map fun (i:Nat)=>.tok fun t=>.int (a₀+(i:Int)) t
 have hxs:xs.length=n:=by simp [xs]
 refine ktu_core (tk0:=s.toks) (keep:=[]) (ws:=[(s.heap.objs.size,"range_iterator")]) (xs:=xs) (KTurns.ofWalks (Walks.range hh s.heap.objs.size a₀ 1 n).bound fun i v s Q E st q=>?_) hxs.symm (fun i v h hp=>?_) (fun i h st=>?_) (fun b hb=>?_) (fun b hb=>by simpa using hb) (fun b hb=>?_) ?_ (fun p hp hI=>?_) ?_ (F.push _) (fun p hp=>⟨Heap.get?_push_of_some _ (N p hp).1,(N p hp).2⟩) trivial ?_
 ·unfold letOwnedTupleGo
  exact wpAny_pure q
 ·obtain ⟨hi,t,rfl⟩:=hp
  refine ⟨.tok fun t=>.int (a₀+(i:Int)) t,by simp [xs,hi],t,?_⟩
  rw [Int.mul_one]
 ·exact ⟨[(s.heap.objs.size,_)],⟨⟨rfl,rfl⟩,trivial⟩,fun p hp=>by rw [List.mem_singleton.mp hp]; exact st⟩
 ·have hb':b=s.heap.objs.size:=by simpa using hb
  rw [hb']
  exact ⟨List.mem_cons_self ..,next_is_new F⟩
 ·exact .inl (by simpa using hb)
 ·intro hI
  exact absurd F.ns.lt ((List.mem_singleton.mp hI)▸Nat.lt_irrefl _)
 ·exact absurd (Heap.lt_size (N p hp).1) ((List.mem_singleton.mp hI)▸Nat.lt_irrefl _)
 ·show IsRangeIter _ _ _ _ _
  rw [hn]
  simpa using Heap.get?_push_size _ rfl
 ·refine items_led (xs:=xs) (s:=s) J ?_ (fun m₁ led₁ h tk hJ=>done m₁ led₁ h tk (hxs▸hJ)) n 0 m₀ news (by rw [hxs]; rfl) hj ?_
  ·intro i a m₁ led₁ v h tk its ha hav hJ hits F₁ N₁ D₁
   have hlt:i < n:=by
    have:=(List.getElem?_eq_some_iff.mp ha).1
    rwa [hxs] at this
   have ha':xs[i]?=some (.tok fun t=>.int (a₀+(i:Int)) t):=by simp [xs,hlt]
   rw [ha'] at ha
   cases ha
   obtain ⟨t,e⟩:=hav
   subst e
   obtain ⟨o,rfl⟩:=its_one hits
   exact turn _ i t m₁ led₁ h tk o hlt hJ F₁ N₁ D₁
  ·show (s.heap.objs.size::news.map (·.1)).Nodup
   exact List.nodup_cons.mpr ⟨fun hm=>by obtain ⟨q,hq,e⟩:=List.mem_map.mp hm; exact absurd (Heap.lt_size (N q hq).1) (by rw [e]; exact Nat.lt_irrefl _),D⟩
end
section
variable {c:Cn} {m:NM} {l:Led} {Ar:Around} {g:Heap} {L:Addr} {s:Shared} {E:Value→Shared→Prop} {ss body:List Stmt} {K:List (List Stmt)} {Q:Flow→NM→Led→Prop}
theorem HS.drop {a:List Stmt} {l' r:Led} (p:(r++l').Perm l) (h:HS c (a::K) m l' Q):HS c (a::K) m l Q :=
 fun Ar g L s T R=>h Ar g L s T ⟨R.F,News.sub R.N fun q hq=>p.mem_iff.mp (List.mem_append_right _ hq),(R.D.perm p.symm).sub (List.sublist_append_right _ _)⟩
theorem HS.perm {a:List Stmt} {l':Led} (p:l'.Perm l) (h:HS c (a::K) m l' Q):HS c (a::K) m l Q:=HS.drop (r:=[]) p h
noncomputable def tupObj (a:Array Value):Obj:={ cls:=.type "tuple",data:=.seq a }
theorem IsAll.len {Vs:List Vl} {vs:List Value} (h:IsAll Vs vs):vs.length=Vs.length:=by
 induction h with
 | nil=>rfl
 | cons _ _ ih=>rw [List.length_cons,List.length_cons,ih]
theorem HS.retT {es:List PySem.Expr} {kt:Nat} {tp pos:Pos} {Vs:List Vl} (h:Evs ⟨c,m,l⟩ es Vs) (hz:Nat.ble Vs.length 100=true) (k:∀ D vs,IsAll Vs vs→Q (.ret (.ref D)) m ((D,tupObj vs.toArray)::l)):HS c ((.Return (some (.Tuple es kt tp)) pos::ss)::K) m l Q :=
 HS.step fun z9 z9 z9 s T R=>wpAny_Return_some (Tuple_ (h.use T R fun vs z9 z9 hvs R1=>by
  obtain ⟨nm,F,H⟩:=R1.F
  refine kup_newTuple F R1.N (fun D' h2 F2 N2 lt=>⟨h2,_,m,(D',tupObj vs.toArray)::l,rfl,⟨⟨nm,F2,H⟩,N2,R1.D.cons lt⟩,k D' vs hvs⟩) ?_
  rw [hvs.len]
  exact Nat.le_trans (Nat.le_of_ble_eq_true hz) (nb rfl)))
noncomputable def FQ {X:Type} (c:Cn) (ss:List Stmt) (K:List (List Stmt)) (Q:Flow→NM→Led→Prop) (J:X→Prop) (U:X→NM) (ls:X→Led) (its:Led):Flow→NM→Led→Prop:=fun fl m' l'=>match fl with
 | .next=>∃ y,J y∧NM.Sub (U y) m'∧∃ r,(r++(its++ls y)).Perm l'
 | .cont=>False
 | .brk=>HS c (ss::K) m' l' Q
 | .ret v=>Q (.ret v) m' l'
theorem for_turn {X:Type} {J:X→Prop} {U:X→NM} {ls:X→Led} {its keep:Led} {s₀:Shared} (hkeep:∀ y,∀ p∈keep,p∈ls y) (h:HS c [body] m l (FQ c ss K Q J U ls its)) (T:Rt c Ar g L) (R:RS ⟨c,m,l⟩ g L s.heap) (hs:∃ h tk,s={ s₀ with heap:=h,toks:=tk }) :
  wpAny (Md c) Ar (execs body (c.sh.env L)) (ForPost g L its keep (fun nm led=>∃ y,J y∧NMok c.sh.sc (U y) nm∧ls y=led) s₀ fun fl s'=>∃ h' tk' m' l',s'={ s₀ with heap:=h',toks:=tk' }∧RS ⟨c,m',l'⟩ g L h'∧HSt c ss K Q fl m' l') E s:=by
 obtain ⟨h0,tk0,rfl⟩:=hs
 refine HS.run h T R fun fl h' tk' m' l' R' p=>?_
 obtain ⟨nm,F,H⟩:=R'.F
 cases fl with
 | next =>
  obtain ⟨y,hy,hsub,r,hp⟩:=p
  exact ⟨h',tk',nm,ls y,rfl,F,News.sub R'.N fun q hq=>hp.mem_iff.mp (List.mem_append_right _ hq),(R'.D.perm hp.symm).sub (List.sublist_append_right _ _),hkeep y,y,hy,H.sub hsub,rfl⟩
 | cont=>exact p.elim
 | brk=>exact ⟨h',tk',m',l',rfl,R',p⟩
 | ret v=>exact ⟨h',tk',m',l',rfl,R',p⟩
noncomputable abbrev FNext {X:Type} (J:X→Prop) (U:X→NM) (ls:X→Led) (its:Led) (Q':Flow→NM→Led→Prop):Prop:=∀ y m' l',J y→NM.Sub (U y) m'→(∃ r,(r++(its++ls y)).Perm l')→Q' .next m' l'
theorem HS.forL {X:Type} {x:Str} {xp pos:Pos} {it:PySem.Expr} {a:Addr} {vs:List Value} {n:Nat} (i:Nat) (hx:slot c.sh.sc.names i=some (x,.local)) (hfold:∀ L x,foldedSetIterable it (c.sh.env L) x=pure x) (hit:Ev ⟨c,m,l⟩ it (.v (.ref a))) (J:Nat→X→Prop) (U:X→NM→NM) (ls:X→Led) (x₀:X) (h0:J 0 x₀) (hm:NM.Sub (U x₀ m) m) (hl:ls x₀=l)
  (hmem:∀ x,(a,listOf vs.toArray n)∈ls x)
  (step:∀ I o k v x,vs[k]?=some v→J k x→∀ Q':Flow→NM→Led→Prop,FNext (J (k+1)) (fun y=>U y m) ls [(I,o)] Q'→(∀ m' l',HS c (ss::K) m' l' Q→Q' .brk m' l')→(∀ v m' l',Q (.ret v) m' l'→Q' (.ret v) m' l')→HS c [body] ((U x m).set i (.v v)) ((I,o)::ls x) Q')
  (done:∀ x,J vs.length x→HS c (ss::K) (U x m) (ls x) Q):HS c ((.For (.Name x xp) it body [] pos::ss)::K) m l Q:=by
 refine HS.step fun Ar g L s T R=>?_
 subst hl
 obtain ⟨nm,F,H⟩:=R.F
 refine For_turns F (hit.use T R fun v h' tk' hv R'=>?_) (hfold L) PassesOwn.never
 cases hv
 obtain ⟨nm',F',H'⟩:=R'.F
 refine for_list (hL:=rfl) (fun k nm led=>∃ y,J k y∧NMok c.sh.sc (U y m) nm∧ls y=led) T.C.n F' R'.N R'.D (hmem _) ⟨x₀,h0,H'.sub hm,rfl⟩ ?_ ?_
 ·rintro I k v m₁ led₁ h tk o hv ⟨y,hy,H₁,rfl⟩ F₁ N₁ D₁
  refine assign_Name (store_slot (m:=U y m) (V:=.v v) hx rfl T ⟨⟨_,F₁,H₁⟩,N₁,D₁⟩ fun h₂ tk₂ R₂=>?_)
  exact for_turn (s₀:={ s with heap:=h,toks:=tk }) (fun y p hp=>by cases hp with | head=>exact hmem y | tail _ h=>cases h) (step I o k v y hv hy (FQ c ss K Q (J (k+1)) (fun y=>U y m) ls [(I,o)]) (fun y m' l' a b d=>⟨y,a,b,d⟩) (fun z9 z9 h=>h) (fun z9 z9 z9 h=>h)) T R₂ ⟨_,_,rfl⟩
 ·rintro m₁ led₁ h tk ⟨y,hy,H₁,rfl⟩ F₁ N₁ D₁
  exact ⟨h,tk,_,_,rfl,⟨⟨_,F₁,H₁⟩,N₁,D₁⟩,done y hy⟩
theorem CT.min {σ:St} {a b:Int} {t u:Tok}:CT σ (.builtin "min") [.int a t,.int b u] (.i (if b < a then b else a)):=by
 intro Ar g L s T R
 obtain ⟨nm,F,H⟩:=R.F
 exact min_two_N T.C.n F R.N fun h' tk F' N'=>Ev.out (s:=s) ⟨⟨nm,F',H⟩,N',R.D⟩ ⟨_,rfl⟩
theorem CT.max {σ:St} {a b:Int} {t u:Tok}:CT σ (.builtin "max") [.int a t,.int b u] (.i (if b > a then b else a)):=by
 intro Ar g L s T R
 obtain ⟨nm,F,H⟩:=R.F
 exact max_two_N T.C.n F R.N fun h' tk F' N'=>Ev.out (s:=s) ⟨⟨nm,F',H⟩,N',R.D⟩ ⟨_,rfl⟩
theorem HS.augE {x:Str} {xp pos:Pos} {op:Operator} {e:PySem.Expr} {a b n:Int} {V:Vl} {P:Led→Prop} (i:Nat) (hx:slot c.sh.sc.names i=some (x,.local)) (hv:m.get i=some V) (hi:∀ v,V.is v→(Vl.i a).is v) (h:HE ⟨c,m,l⟩ e fun v l'=>(Vl.i b).is v∧P l') (o:IIOp op a b n) (k:∀ l',P l'→HS c (ss::K) (m.set i (.i n)) l' Q):HS c ((.AugAssign (.Name x xp) op e pos::ss)::K) m l Q :=
 HS.step fun z9 z9 z9 s T R=>by
  obtain ⟨nm,F,H⟩:=R.F
  obtain ⟨y,v,hy,hm,hV⟩:=H i V hv
  rw [hx] at hy; cases hy
  obtain ⟨t,rfl⟩:=hi v hV
  exact wpAny_AugAssign_Name (wpAny_loadName_local T.kind (slot_lookup hx T.nd) F.ns hm (h.use T R fun _ _ _ l' ⟨⟨u,eb⟩,hP⟩ R1=>eb▸o fun t' z9=>store_slot (m:=m) (l:=l') (V:=.i n) hx ⟨t',rfl⟩ T R1 fun h'' tk'' R2=>⟨h'',tk'',_,_,rfl,R2,k l' hP⟩))
theorem HE.binR {σ:St} {a b:PySem.Expr} {op:Operator} {pos:Pos} {x y n:Int} {P:Led→Prop} (h1:Ev σ a (.i x)) (h2:HE σ b fun v l'=>(Vl.i y).is v∧P l') (o:IOp op x y n):HE σ (.BinOp a op b pos) fun v l'=>(Vl.i n).is v∧P l' :=
 fun z9 z9 z9 s T R=>wpAny_BinOp (h1.use T R fun _ _ _ ⟨_,ea⟩ R1=>h2.use T R1 fun _ _ _ l' ⟨⟨_,eb⟩,hP⟩ R2=>ea▸eb▸o fun t' k=>HE.out (s:=s) (tk':=k) (P:=fun v l'=>(Vl.i n).is v∧P l') R2 ⟨⟨t',rfl⟩,hP⟩)
theorem HS.forR {X:Type} {x:Str} {xp cp pos:Pos} {f e:PySem.Expr} {N:Nat} (i:Nat) (hx:slot c.sh.sc.names i=some (x,.local)) (hn:noAtt f=true) (hs:isStar e=false) (hf:Ev ⟨c,m,l⟩ f (.v (.type "range"))) (he:Ev ⟨c,m,l⟩ e (.i (N:Int))) (hsm:Builtin.Range.small 0 N 1=true) (hsz:Builtin.Range.rangeSize 0 N 1=(N:Int))
  (hfold:∀ L x,foldedSetIterable (.Call f [e] [] cp) (c.sh.env L) x=pure x) (J:Nat→X→Prop) (U:X→NM→NM) (ls:X→Led) (x₀:X) (h0:J 0 x₀) (hm:NM.Sub (U x₀ m) m) (hl:ls x₀=l)
  (step:∀ I o k x,k < N→J k x→∀ Q':Flow→NM→Led→Prop,FNext (J (k+1)) (fun y=>U y m) ls [(I,o)] Q'→(∀ m' l',HS c (ss::K) m' l' Q→Q' .brk m' l')→(∀ v m' l',Q (.ret v) m' l'→Q' (.ret v) m' l')→HS c [body] ((U x m).set i (.i (k:Int))) ((I,o)::ls x) Q')
  (done:∀ x,J N x→HS c (ss::K) (U x m) (ls x) Q):HS c ((.For (.Name x xp) (.Call f [e] [] cp) body [] pos::ss)::K) m l Q:=by
 refine HS.step fun Ar g L s T R=>?_
 subst hl
 obtain ⟨nm,F,H⟩:=R.F
 refine For_turns F (Call_ (hf.use T R fun v h' tk' hv R'=>?_) (callee_of hn)) (hfold L) PassesOwn.never
 cases hv
 refine Pv.callWith_type1 ((Evs.cons hs he .nil).use T R' fun vs h2 tk2 hvs R2=>?_) (star_of hs) rfl
 obtain ⟨v1,rfl,⟨t1,rfl⟩⟩:∃ v1,vs=[v1]∧(Vl.i (N:Int)).is v1:=by
  cases hvs with
  | cons a b=>cases b; exact ⟨_,rfl,a⟩
 obtain ⟨nm2,F2,H2⟩:=R2.F
 refine range1_rows F2 R2.N fun h3 tk3 t1 u1 v1 kR F3 N3 z9=>?_
 refine for_range (hL:=rfl) (n:=N) (fun k nm led=>∃ y,J k y∧NMok c.sh.sc (U y m) nm∧ls y=led) T.C.n kR hsm hsz F3 N3 R2.D ⟨x₀,h0,H2.sub hm,rfl⟩ ?_ ?_
 ·rintro I k t m₁ led₁ h tk o hk ⟨y,hy,H₁,rfl⟩ F₁ N₁ D₁
  refine assign_Name (store_slot (m:=U y m) (V:=.i (k:Int)) hx ⟨t,by rw [Int.zero_add]⟩ T ⟨⟨_,F₁,H₁⟩,N₁,D₁⟩ fun h₂ tk₂ R₂=>?_)
  exact for_turn (s₀:={ s with heap:=h,toks:=tk }) (fun y p hp=>by cases hp) (step I o k y hk hy (FQ c ss K Q (J (k+1)) (fun y=>U y m) ls [(I,o)]) (fun y m' l' a b d=>⟨y,a,b,d⟩) (fun z9 z9 h=>h) (fun z9 z9 z9 h=>h)) T R₂ ⟨_,_,rfl⟩
 ·rintro m₁ led₁ h tk ⟨y,hy,H₁,rfl⟩ F₁ N₁ D₁
  exact ⟨h,tk,_,_,rfl,⟨⟨_,F₁,H₁⟩,N₁,D₁⟩,done y hy⟩
end
theorem Spec.perm {w:World} {mean:ExcName→Option Value} {mg mb:Names} {f:Value} {args:List Value} {dep:Nat} {led led':Led} {post post':Value→Led→Prop} (H:Spec w mean mg mb f args dep led post) (p:led'.Perm led)
  (hp:∀ r l,post r l→∃ l',l'.Perm l∧post' r l'):Spec w mean mg mb f args dep led' post':=by
 intro Ar env g L m s Q E C F N D hret
 refine H Ar env g L m s Q E C F (News.perm N p) (D.perm p) fun r l h tk F' N' D' q=>?_
 obtain ⟨l',p',q'⟩:=hp r l q
 exact hret r l' h tk F' (News.perm N' p'.symm) (D'.perm p'.symm) q'
theorem tl_cons {P:Params} {A:TA} {C:TC} {R:Led} {p:Addr×Obj}:(p::TL P A C R).Perm (TL P A C (p::R)):=by
 unfold TL
 refine (List.Perm.swap _ _ _).trans (.cons _ ?_)
 refine (List.Perm.swap _ _ _).trans (.cons _ ?_)
 refine (List.Perm.swap _ _ _).trans (.cons _ ?_)
 refine (List.Perm.swap _ _ _).trans (.cons _ ?_)
 exact List.perm_middle.symm
theorem tl_congr {P:Params} {A:TA} {C:TC} {R R':Led} (h:R.Perm R'):(TL P A C R).Perm (TL P A C R') :=
 .cons _ (.cons _ (.cons _ (.cons _ (h.append_left _))))
theorem tl_mid {P:Params} {A:TA} {C:TC} {a b:Led} {p:Addr×Obj}:(TL P A C (a++p::b)).Perm (p::TL P A C (a++b)):=(tl_congr List.perm_middle).trans tl_cons.symm
noncomputable def clg (n:Int):Nat:=(ilog (n - 1).toNat+1).toNat
theorem clg_le {n:Int} (h:1≤n) (b:Nat):clg n≤b↔n≤2 ^ b:=by
 unfold clg ilog
 have hp:(1:Int)≤2 ^ b:=by
  have:(1:Nat)≤2 ^ b:=Nat.one_le_two_pow
  exact_mod_cast this
 by_cases h1:(n - 1).toNat=0
 ·rw [if_pos h1]
  constructor
  ·intro z9; exact lq [_] [_,_] [.le Kr Zq,.e Nq Kq,.tn 0 (.s Zr Kr)] (.le Zr Zq) [[11000110],[]] rfl hp h1 rfl
  ·intro z9; exact Nat.zero_le _
 ·rw [if_neg h1]
  have e:(((n - 1).toNat.log2:Int)+1).toNat=(n - 1).toNat.log2+1:=by exact Int.toNat_natCast _
  rw [e,Nat.succ_le_iff,Nat.log2_lt h1]
  constructor
  ·intro h2
   have:(((n - 1).toNat:Nat):Int) < ((2 ^ b:Nat):Int):=by exact_mod_cast h2
   rw [Int.toNat_of_nonneg (by lia)] at this
   push_cast at this
   exact lq [] [_,_] [.lt (.s Zq Kr) Zr] (.le Zq Zr) [] rfl this
  ·intro h2
   have:(((n - 1).toNat:Nat):Int) < ((2 ^ b:Nat):Int):=by
    rw [Int.toNat_of_nonneg (by lia)]; push_cast; exact lq [] [_,_] [.le Zq Zr] (.lt (.s Zq Kr) Zr) [] rfl h2
   exact_mod_cast this
noncomputable def nk (K:List Int) (b:Nat):Nat:=K.countP fun n=>decide (clg n=b)
noncomputable def nle (K:List Int) (s:Int):Nat:=K.countP fun n=>decide (n≤s)
noncomputable def nlt (K:List Int) (b:Nat):Nat:=K.countP fun n=>decide (clg n < b)
noncomputable def Cnt (vs:List Value) (K:List Int):Prop:=vs.length=27∧∀ b,b < 27→∃ t,vs[b]?=some (.int (nk K b:Nat) t)
theorem nlt_succ (K:List Int) (b:Nat):nlt K (b+1)=nlt K b+nk K b:=by
 unfold nlt nk
 induction K with
 | nil=>rfl
 | cons x r ih =>
  simp only [List.countP_cons,ih]
  by_cases h1:clg x < b
  ·have h2:clg x < b+1:=by exact Nat.lt_succ_of_lt h1
   have h3:clg x≠b:=by exact Nat.ne_of_lt h1
   simp [h1,h2,h3]; exact Nat.add_right_comm _ _ _
  ·by_cases h3:clg x=b
   ·have h2:clg x < b+1:=by exact h3▸Nat.le_refl _
    simp [h2,h3]; exact Nat.add_assoc _ _ _
   ·have h2:¬ clg x < b+1:=by exact lq [_,_] [] [.gt Nq Nr,.nn Nq Nr] (.gt Nq (.a Nr Kr)) [[1120],[1100]] rfl h1 h3
    simp [h1,h2,h3]
theorem nlt_nle {K:List Int} (hK:∀ n∈K,1≤n) (b:Nat):nlt K (b+1)=nle K (2 ^ b):=by
 unfold nlt nle
 refine List.countP_congr fun x hx=>?_
 have:=clg_le (hK x hx) b
 simp only [decide_eq_true_eq]
 lia
theorem nk_cons (x:Int) (K:List Int) (b:Nat):nk (x::K) b=nk K b+(if clg x=b then 1 else 0):=by
 unfold nk
 rw [List.countP_cons]
 simp
theorem cnt_cons {vs:List Value} {K:List Int} {x:Int} {t:Tok} (H:Cnt vs K) (hx:clg x < 27):Cnt (vs.set (clg x) (.int ((nk K (clg x):Nat)+1:Int) t)) (x::K):=by
 refine ⟨by rw [List.length_set]; exact H.1,fun b hb=>?_⟩
 by_cases e:clg x=b
 ·subst e
  rw [List.getElem?_set_self (by rw [H.1]; exact hb),nk_cons,if_pos rfl]
  exact ⟨t,rfl⟩
 ·rw [List.getElem?_set_ne e,nk_cons,if_neg e]
  exact H.2 b hb
section
theorem spec_put_again (A:TA) (C:TC) (R:Led) (kv v:Value) (k:Ky) (W:WF C) (hok:okKey kv) (hk:ky kv=some k) (hv:isV v) (hcase:inArr C.arr.length k=true∨(inArr C.arr.length k=false∧fidx C.nodes k=none∧used C.nodes < C.nodes.length)) :
  Spec w mean mg mb (.ref 419) [.ref A.t,kv,v,.none] 6 (TL w.params A C R) (fun r l=>r=.none∧∃ C',l=TL w.params A C' R∧Lay C C' k v):=by
 have hla:=W.la
 have hi:=inArr_aix hk C.arr.length
 refine Spec.enterA (by k_is) (by k_is) (fun s X=>(BindsTo.of_eq rfl)) rfl (by kernel_rfl) (by kernel_rfl) rfl rfl rfl (by decide) ?_
 refine HS.assign 4 sl4 rfl (Ev.of (HE.callK rfl (Ev.glob 5 sl5 (by k_is)) (Evs.cons rfl (Ev.name 1 sl1 rfl) Evs.nil) (by k_is) (nb rfl) (spec_array_index kv (Mine.TL w.params A C R) hok))) (HS.ite (EvT.chain Ev.int (Ev.name 4 sl4 rfl) (Ev.lenA rfl rfl (Ev.blt 6 sl6 (by k_is) (by boot_by_name) (by kernel_rfl)) rfl (Ev.t_array rfl rfl (Ev.name 0 sl0 rfl)) hla) ICmp.le ICmp.le rfl) (fun z9=>(HS.t_arr rfl (Ev.name 2 sl2 rfl) (Ev.t_array rfl rfl (Ev.name 0 sl0 rfl)) (Ev.bin (Ev.name 4 sl4 rfl) Ev.int IOp.sub) (by assumption) hla (HS.nil (HS.nil (HS.done ?_))))) (fun z9=>?_))
 ·exact ⟨rfl,_,rfl,lay_arr' W hv hk (by assumption)⟩
 ·have hn:inArr C.arr.length k=false:=Bool.eq_false_iff.mpr fun e=>absurd (hi.mp e) (by assumption)
  obtain ⟨_,hab,room⟩:=hcase.resolve_left (by rw [hn]; exact nofun)
  have hout:=inArr_out hn
  refine HS.expr rfl (HE.meth (Ev.name 0 sl0 rfl) InsAt.tab ⟨by k_is,by k_is,by k_is,by k_is⟩ rfl rfl (Evs.cons rfl (Ev.name 1 sl1 rfl) (Evs.cons rfl (Ev.name 2 sl2 rfl) (Evs.cons rfl (Ev.name 3 sl3 rfl) Evs.nil))) (nb rfl) (spec_new_key_room A C R kv v k W hok hk hv hab hout room)) ?_
  rintro _ _ ⟨rfl,C',rfl,hI⟩
  refine HS.nil (HS.nil (HS.done ?_))
  exact ⟨rfl,_,rfl,hI.lay hn⟩
theorem get_head {prog:Program} {w:World} {Ar:Around} {E Q:Value→Shared→Prop} {s:Shared} {h₀:Heap} {L l:Addr} {vs:List Value} {e:Nat} {R:Led} {k:Int} {u:Tok} {x:Value} (N:News h₀ L s.heap ((l,listOf vs.toArray e)::R)) (h0:0≤k) (h1:k < 1000) (hx:vs[k.toNat]?=some x) (h:Q x s) :
  wpAny (model prog w) Ar (getItem (.ref l) (.int k u)) Q E s :=
 wpAny_getItem_list (PySem.IsL.isList (n:=e) (N _ (.head _)).1) h0 (by exact Int.lt_of_lt_of_le h1 (by decide)) (by simpa using hx) h
theorem set_head {prog:Program} {w:World} {Ar:Around} {E:Value→Shared→Prop} {s:Shared} {h₀:Heap} {L l:Addr} {m:Names} {vs:List Value} {e:Nat} {R:Led} {v:Value} {Q:Unit→Shared→Prop} {k:Int} {tk:Tok} (F:Fr h₀ L s.heap m) (N:News h₀ L s.heap ((l,listOf vs.toArray e)::R)) (D:Apart ((l,listOf vs.toArray e)::R)) (h0:0≤k) (h1:k < vs.length) (hfit:k < 1000)
  (h:∀ h',Fr h₀ L h' m→News h₀ L h' ((l,listOf (vs.set k.toNat v).toArray e)::R)→Apart ((l,listOf (vs.set k.toNat v).toArray e)::R)→Q () { s with heap:=h' }) :
  wpAny (model prog w) Ar (setItem (.ref l) (.int k tk) v) Q E s:=by
 have U:=Apart.upd (pre:=[]) (d:=l) (o:=listOf vs.toArray e) (o':=listOf (vs.set k.toNat v).toArray e) (post:=R) D
 obtain ⟨a,b⟩:=Apart.split (pre:=[]) (d:=l) (o:=listOf vs.toArray e) (post:=R) D
 have z:=N _ (.head _)
 refine ki_setAt z.1 h0 (by exact Int.lt_of_lt_of_le hfit (by decide)) (by rw [List.size_toArray]; exact h1) (h _ (F.change (Heap.SameBut.update ..) z.2.1 z.2.2) (ki_turn (pre:=[]) _ N a b ?_ ?_) U.2)
 ·show vs.toArray.setIfInBounds k.toNat v=(vs.set k.toNat v).toArray
  apply Array.toList_inj.mp
  simp
 ·simp
theorem augst_of {i:PySem.Expr} {ov iv new:Value} (h:noSlice i=true):augStore i ov iv new=(do holding [new,ov,iv] (setItem ov iv new); release [new,ov,iv] []; pure .next):=by
 cases i <;> first | rfl | cases h
theorem HS.augH {c:Cn} {m:NM} {R:Led} {ss:List Stmt} {K:List (List Stmt)} {Q:Flow→NM→Led→Prop} {e o i:PySem.Expr} {op pos:Pos} {opr:Operator} {l:Addr} {vs:List Value} {en:Nat} {k a b n:Int} {ta:Tok} (ho:Ev ⟨c,m,(l,listOf vs.toArray en)::R⟩ o (.v (.ref l))) (hs:noSlice i=true) (hi:Ev ⟨c,m,(l,listOf vs.toArray en)::R⟩ i (.i k))
  (h0:0≤k) (h1:k < vs.length) (hb:k < 1000) (hx:vs[k.toNat]?=some (.int a ta)) (he:Ev ⟨c,m,(l,listOf vs.toArray en)::R⟩ e (.i b)) (q:IIOp opr a b n) (kk:∀ t,HS c (ss::K) m ((l,listOf (vs.set k.toNat (.int n t)).toArray en)::R) Q):HS c ((.AugAssign (.Subscript o i op) opr e pos::ss)::K) m ((l,listOf vs.toArray en)::R) Q :=
 HS.step fun z9 z9 z9 s T R0=>wpAny_AugAssign_Subscript_any (ho.use T R0 fun z9 z9 z9 eo R1=>hi.use T R1 fun _ _ _ ⟨u,ei⟩ R2=>by
  cases eo; subst ei
  refine get_head R2.N h0 hb hx (he.use T R2 fun _ _ _ ⟨u',eb⟩ R3=>?_)
  subst eb
  refine q fun t' k'=>?_
  obtain ⟨nm,F,H⟩:=R3.F
  exact set_head F R3.N R3.D h0 h1 hb fun h' F' N' D'=>⟨h',_,m,(l,listOf (vs.set k.toNat (.int n t')).toArray en)::R,rfl,⟨⟨nm,F',H⟩,N',D'⟩,kk t'⟩) (fun z9 z9 z9=>augst_of hs)
theorem spec_count_key_in (R:Led) (cl:Addr) (e:Nat) (vs:List Value) (K:List Int) (i:Int) (t:Tok) (H:Cnt vs K) (h1:0 < i) (h2:i≤1000000) :
  Spec w mean mg mb (.ref 320) [.int i t,.ref cl] 20 ((cl,listOf vs.toArray e)::R) (fun r l=>(Vl.i 1).is r∧∃ vs' e',l=(cl,listOf vs'.toArray e')::R∧Cnt vs' (i::K)):=by
 have hc:clg i < 27:=Nat.lt_of_le_of_lt ((clg_le h1 20).mpr (Int.le_trans h2 (by decide))) (by decide)
 obtain ⟨t1,hx⟩:=H.2 (clg i) hc
 have e0:(clg i:Int)=ilog (i - 1).toNat+1:=by
  unfold clg
  have:-1≤ilog (i - 1).toNat:=by unfold ilog; split <;> (first | exact Int.natCast_nonneg _)
  exact lq [_] [_] [.le (.g Kr) Zq,.tn 0 (.a Zq Kr)] (.eq Nq (.a Zq Kr)) [[101000,110000],[11010,10100]] rfl this rfl
 have hx':vs[(ilog (i - 1).toNat+1).toNat]?=some (.int (nk K (clg i):Nat) t1):=by rw [← e0]; exact hx
 have g0:0≤ilog (i - 1).toNat+1:=e0▸Int.natCast_nonneg _
 have g1:ilog (i - 1).toNat+1 < 1000:=by exact lq [_] [_] [.t Nq (.k 27),.eq Nq (.a Zq Kr)] (.lt (.a Zq Kr) (.k 1000)) [[11010]] rfl hc e0
 have g2:ilog (i - 1).toNat+1 < (vs.length:Int):=by rw [H.1]; exact lq [_] [_] [.t Nq (.k 27),.eq Nq (.a Zq Kr)] (.lt (.a Zq Kr) (.c (.k 27))) [[11010]] rfl hc e0
 refine Spec.enterA (by k_is) (by k_is) (fun s X=>(BindsTo.of_eq rfl)) rfl (by kernel_rfl) (by kernel_rfl) rfl rfl rfl (by decide) ?_
 refine HS.assign 2 sl2 rfl (Ev.of (HE.callK rfl (Ev.glob 3 sl3 (by k_is)) (Evs.cons rfl (Ev.name 0 sl0 rfl) Evs.nil) (by k_is) (nb rfl) (spec_array_index_int i t ((cl,listOf vs.toArray e)::R)))) (HS.ite (EvT.chain Ev.int (Ev.nameI 2 sl2 rfl) (Ev.toI (Ev.glob 4 sl4 (by k_is))) ICmp.lt ICmp.le rfl) (fun z9=>(HS.augH (Ev.name 1 sl1 rfl) rfl (Ev.of (HE.callK rfl (Ev.glob 5 sl5 (by k_is)) (Evs.cons rfl (Ev.name 2 sl2 rfl) Evs.nil) (by k_is) (nb rfl) (spec_ceil_log2 i t ((cl,listOf vs.toArray e)::R) (by exact z9.1)))) g0 g2 g1 hx' Ev.int IIOp.add (fun z9=>(HS.ret Ev.int ?_)))) (fun z9=>(False.elim (by exact lq [] [_] [.lt Kq Zq,.le Zq (.k 1000000),.or (.nt Kq Zq) (.nl Zq (.k 67108864))] .f [[11010],[11100]] rfl h1 h2 (nab z9)))))
 refine fun v hv=>⟨hv,_,_,rfl,?_⟩
 rw [← e0]
 exact cnt_cons H hc
theorem spec_count_key_no (R:Led) (cl:Value) (kv:Value) (hok:okKey kv) (h1:∀ n t,kv=.int n t→n≤0) :
  Spec w mean mg mb (.ref 320) [kv,cl] 20 R (Pst (.i 0) R):=by
 have h2:aix kv≤0:=by
  cases kv with
  | int n t=>exact h1 n t rfl
  | _=>exact (by decide:(-1:Int)≤0)
 refine Spec.enterA (by k_is) (by k_is) (fun s X=>(BindsTo.of_eq rfl)) rfl (by kernel_rfl) (by kernel_rfl) rfl rfl rfl (by decide) ?_
 (exact (HS.assign 2 sl2 rfl (Ev.of (HE.callK rfl (Ev.glob 3 sl3 (by k_is)) (Evs.cons rfl (Ev.name 0 sl0 rfl) Evs.nil) (by k_is) (nb rfl) (spec_array_index kv R hok))) (HS.ite (EvT.chain Ev.int (Ev.name 2 sl2 rfl) (Ev.toI (Ev.glob 4 sl4 (by k_is))) ICmp.lt ICmp.le rfl) (fun z9=>(False.elim (by exact lq [] [_] [.le Zq Kq,.an (.lt Kq Zq) (.le Zq (.k 67108864))] .f [[10110]] rfl h2 z9))) (fun z9=>(HS.nil (HS.ret Ev.int (fun z9 z9=>(And.intro (by assumption) rfl))))))))
end
noncomputable def Fits (K:List Int) (sz us:Int):Prop:=0≤sz∧sz≤2 * (K.length:Int)∧us=(nle K sz:Nat)
theorem fits_next {K:List Int} (hK:∀ n∈K,1≤n) {i:Nat} {p g c:Int} (hp:p=2 ^ i) (hg:g=(nlt K i:Nat)) (hc:c=(nk K i:Nat)) (h:g+c > p / 2):Fits K p (g+c):=by
 have e:g+c=(nle K (2 ^ i):Nat):=by
  rw [← nlt_nle hK,nlt_succ,hg,hc]; push_cast; rfl
 have e2:nle K (2 ^ i)≤K.length:=List.countP_le_length
 refine ⟨?_,by exact lq [_,_] [_,_,_,_] [.lt Zq (.a (.z 2) (.z 3)),.eq (.a (.z 2) (.z 3)) Nq,.l Nq Nr,.dv 0 1 Zr] (.le Zr (.m 2 Nr)) [[11020220]] rfl h e e2 rfl,by rw [e,hp]⟩
 rw [hp]
 exact Int.pow_nonneg (by decide)
theorem fdiv2 (p:Int):p.fdiv 2=p / 2:=Int.fdiv_eq_ediv_of_nonneg _ (by decide)
theorem fits_ret {K:List Int} {sz us:Int} {l:Led} {T:Addr} {vs:List Value} (hf:Fits K sz us) (h:IsAll [.i sz,.i us] vs):∃ T' sz us t1 t2,Value.ref T=.ref T'∧(T,tupObj vs.toArray)::l=(T',tupObj #[.int sz t1,.int us t2])::l∧Fits K sz us:=by
 obtain ⟨_,_,rfl,⟨t1,rfl⟩,⟨t2,rfl⟩⟩:=h.two
 exact ⟨T,sz,us,t1,t2,rfl,rfl,hf⟩
section
theorem spec_compute_sizes (R:Led) (cl:Addr) (e:Nat) (vs:List Value) (K:List Int) (wn:Int) (t:Tok) (H:Cnt vs K) (hK:∀ n∈K,1≤n) :
  Spec w mean mg mb (.ref 313) [.ref cl,.int wn t] 20 ((cl,listOf vs.toArray e)::R) (fun r l=>∃ T sz us t1 t2,r=.ref T∧l=(T,tupObj #[.int sz t1,.int us t2])::(cl,listOf vs.toArray e)::R∧Fits K sz us):=by
 have h0:nle K 0=0:=by
  unfold nle
  rw [List.countP_eq_zero]
  intro n hn
  have:=hK n hn
  simp; exact this
 refine Spec.enterA (by k_is) (by k_is) (fun s X=>(BindsTo.of_eq rfl)) rfl (by kernel_rfl) (by kernel_rfl) rfl rfl rfl (by decide) ?_
 refine HS.assign 2 sl2 rfl Ev.int (HS.assign 3 sl3 rfl Ev.int (HS.assign 4 sl4 rfl Ev.int (HS.assign 5 sl5 rfl Ev.int ?_)))
 refine HS.forL (X:=Int×Int×Int×Int) _ (by (exact sl6)) (fun z9 z9=>rfl) (by exact Ev.name 0 sl0 rfl) (fun k x=>x.2.2.2=2 ^ k∧x.1=(nlt K k:Nat)∧Fits K x.2.2.1 x.2.1) (fun x m=>(((m.put 2 (.i x.1)).put 3 (.i x.2.1)).put 4 (.i x.2.2.1)).put 5 (.i x.2.2.2)) (fun z9=>(cl,listOf vs.toArray e)::R) (0,0,0,1)
  ⟨rfl,by simp [nlt],Int.le_refl _,by dsimp only; exact Int.natCast_nonneg _,by dsimp only; rw [h0]; rfl⟩ (by exact NM.Sub.same rfl (NM.Sub.same rfl (NM.Sub.same rfl (NM.Sub.same rfl (NM.Sub.same rfl (NM.Sub.same rfl NM.Sub.nil)))))) rfl (fun z9=>.head _) ?_ ?_
 ·intro I o i v x hv ⟨hp,hg,hf⟩ Q' next brk _
  have hi:i < 27:=by
   have:=(List.getElem?_eq_some_iff.mp hv).1
   rwa [H.1] at this
  obtain ⟨t6,hv'⟩:=H.2 i hi
  rw [hv] at hv'
  cases hv'
  have e2:=fdiv2 x.2.2.2
  have hp':x.2.2.2 * 2=2 ^ (i+1):=by rw [hp]; rfl
  have hg':x.1+(nk K i:Nat)=(nlt K (i+1):Nat):=by rw [nlt_succ,hg]; push_cast; rfl
  refine HS.ite (EvT.cmp (Ev.bin (Ev.name 5 sl5 rfl) Ev.int (IOp.fdiv (by decide) (by decide))) (Ev.nameI 1 sl1 rfl) ICmp.ge rfl) (fun z9=>(HS.brk ?_)) (fun z9=>(HS.nil (HS.ite (EvT.cmp (Ev.nameI 6 sl6 rfl) Ev.int ICmp.gt rfl) (fun z9=>(HS.aug 2 sl2 rfl (fun z9 z9=>(by assumption)) (Ev.nameI 6 sl6 rfl) IIOp.add (HS.ite (EvT.cmp (Ev.name 2 sl2 rfl) (Ev.bin (Ev.name 5 sl5 rfl) Ev.int (IOp.fdiv (by decide) (by decide))) ICmp.gt rfl) (fun z9=>(HS.assign 4 sl4 rfl (Ev.name 5 sl5 rfl) (HS.assign 3 sl3 rfl (Ev.name 2 sl2 rfl) (HS.nil (HS.nil (HS.ite (EvT.cmp (Ev.name 2 sl2 rfl) (Ev.nameI 1 sl1 rfl) ICmp.eq rfl) (fun z9=>(HS.brk ?_)) (fun z9=>(HS.nil (HS.aug 5 sl5 rfl (fun z9 z9=>(by assumption)) Ev.int (IIOp.mul (by decide)) (HS.nil (HS.done ?_))))))))))) (fun z9=>(HS.nil (HS.nil (HS.ite (EvT.cmp (Ev.name 2 sl2 rfl) (Ev.nameI 1 sl1 rfl) ICmp.eq rfl) (fun z9=>(False.elim (by exact lq [_] [_,_,_] [.nl Zq Zr,.nt Zr (.a (.z 2) Nq),.eq (.a (.z 2) Nq) Zq] .f [[110110]] rfl (by assumption) (by assumption) z9))) (fun z9=>(HS.nil (HS.aug 5 sl5 rfl (fun z9 z9=>(by assumption)) Ev.int (IIOp.mul (by decide)) (HS.nil (HS.done ?_)))))))))))) (fun z9=>(HS.nil (HS.ite (EvT.cmp (Ev.name 2 sl2 rfl) (Ev.nameI 1 sl1 rfl) ICmp.eq rfl) (fun z9=>(HS.brk ?_)) (fun z9=>(HS.nil (HS.aug 5 sl5 rfl (fun z9 z9=>(by assumption)) Ev.int (IIOp.mul (by decide)) (HS.nil (HS.done ?_)))))))))))
  ·refine brk _ _ (HS.drop (r:=[(I,o)]) (.refl _) ?_)
   refine HS.retT (Evs.cons rfl (Ev.name 4 sl4 rfl) (Evs.cons rfl (Ev.name 3 sl3 rfl) Evs.nil)) rfl ?_
   exact fun z9 z9 h=>fits_ret hf h
  ·refine brk _ _ (HS.drop (r:=[(I,o)]) (.refl _) ?_)
   refine HS.retT (Evs.cons rfl (Ev.name 4 sl4 rfl) (Evs.cons rfl (Ev.name 3 sl3 rfl) Evs.nil)) rfl ?_
   exact fun z9 z9 h=>fits_ret (fits_next hK hp hg rfl (e2▸(by assumption))) h
  ·exact next (x.1+(nk K i:Nat),x.1+(nk K i:Nat),x.2.2.2,x.2.2.2 * 2) _ _ ⟨hp',hg',fits_next hK hp hg rfl (e2▸(by assumption))⟩ (by exact NM.Sub.same rfl (NM.Sub.same rfl (NM.Sub.same rfl (NM.Sub.same rfl (NM.Sub.same rfl (NM.Sub.same rfl NM.Sub.nil)))))) ⟨[],.refl _⟩
  ·exact next (x.1+(nk K i:Nat),x.2.1,x.2.2.1,x.2.2.2 * 2) _ _ ⟨hp',hg',hf⟩ (by exact NM.Sub.same rfl (NM.Sub.same rfl (NM.Sub.same rfl (NM.Sub.same rfl (NM.Sub.same rfl (NM.Sub.same rfl NM.Sub.nil)))))) ⟨[],.refl _⟩
  ·refine brk _ _ (HS.drop (r:=[(I,o)]) (.refl _) ?_)
   refine HS.retT (Evs.cons rfl (Ev.name 4 sl4 rfl) (Evs.cons rfl (Ev.name 3 sl3 rfl) Evs.nil)) rfl ?_
   exact fun z9 z9 h=>fits_ret hf h
  ·have hg2:x.1=(nlt K (i+1):Nat):=by rw [← hg']; exact lq [_] [_] [.nt Kq Nq] (.eq Zq (.a Zq Nq)) [] rfl (by assumption)
   exact next (x.1,x.2.1,x.2.2.1,x.2.2.2 * 2) _ _ ⟨hp',hg2,hf⟩ (by exact NM.Sub.same rfl (NM.Sub.same rfl (NM.Sub.same rfl (NM.Sub.same rfl (NM.Sub.same rfl (NM.Sub.same rfl NM.Sub.nil)))))) ⟨[],.refl _⟩
 ·intro x ⟨hp,hg,hf⟩
  refine HS.retT (Evs.cons rfl (Ev.name 4 sl4 rfl) (Evs.cons rfl (Ev.name 3 sl3 rfl) Evs.nil)) rfl ?_
  exact fun z9 z9 h=>fits_ret hf h
end
noncomputable def posInt:Value→Option Int
 | .int n _=>if 0 < n then some n else none
 | _=>none
noncomputable def isLive (n:NodeR):Bool:=decide (n.val≠.none)
noncomputable def liveN (ns:List NodeR):List NodeR:=ns.filter isLive
noncomputable def nodeInts (ns:List NodeR):List Int:=(liveN ns).filterMap fun n=>posInt n.key
theorem Cnt.perm {vs:List Value} {K K':List Int} (H:Cnt vs K) (p:K.Perm K'):Cnt vs K':=by
 refine ⟨H.1,fun b hb=>?_⟩
 have:nk K' b=nk K b:=(p.countP_eq _).symm
 rw [this]
 exact H.2 b hb
theorem liveN_take {ns:List NodeR} {i:Nat} {n:NodeR} (h:ns[i]?=some n):liveN (ns.take (i+1))=liveN (ns.take i)++(if isLive n=true then [n] else []):=by
 unfold liveN
 rw [List.take_add_one,h,List.filter_append]
 cases hl:isLive n <;> simp [hl]
theorem nodeInts_take {ns:List NodeR} {i:Nat} {n:NodeR} (h:ns[i]?=some n):nodeInts (ns.take (i+1))=nodeInts (ns.take i)++(if isLive n=true then (posInt n.key).toList else []):=by
 unfold nodeInts
 rw [liveN_take h,List.filterMap_append]
 cases hl:isLive n
 ·simp
 ·cases hp:posInt n.key <;> simp [hp]
section
theorem spec_count_key (A:TA) (C:TC) (R:Led) (p:Addr×Obj) (cl:Addr) (e:Nat) (vs:List Value) (K:List Int) (kv:Value) (hok:okKey kv) (hb:∀ n t,kv=.int n t→n≤1000000) (H:Cnt vs K) :
  Spec w mean mg mb (.ref 320) [kv,.ref cl] 20 (TL w.params A C (p::(cl,listOf vs.toArray e)::R)) (fun r l=>(Vl.i ((posInt kv).toList.length:Nat)).is r∧∃ vs' e',l=TL w.params A C (p::(cl,listOf vs'.toArray e')::R)∧Cnt vs' ((posInt kv).toList++K)):=by
 by_cases hp:∃ n t,kv=.int n t∧0 < n
 ·obtain ⟨n,t,rfl,hn⟩:=hp
  have e0:posInt (.int n t)=some n:=by simp [posInt,hn]
  rw [e0]
  refine Spec.perm (spec_count_key_in (TL w.params A C ([p]++R)) cl e vs K n t H hn (hb n t rfl)) (tl_mid (a:=[p])) ?_
  rintro r l ⟨⟨t',rfl⟩,vs',e',rfl,H'⟩
  exact ⟨_,tl_mid (a:=[p]),⟨t',rfl⟩,vs',e',rfl,H'⟩
 ·have e0:posInt kv=none:=by
   cases kv <;> try rfl
   rename_i n t
   have:¬ 0 < n:=fun h=>hp ⟨n,t,rfl,h⟩
   simp [posInt,this]
  rw [e0]
  refine Spec.mono (spec_count_key_no _ (.ref cl) kv hok fun n t h=>?_) (Nat.le_refl _) ?_
  ·have:¬ 0 < n:=fun h'=>hp ⟨n,t,h,h'⟩
   exact Int.not_lt.1 this
  ·rintro r l ⟨⟨t',rfl⟩,rfl⟩
   exact ⟨⟨t',rfl⟩,vs,e,rfl,H⟩
theorem spec_count_nodes (A:TA) (C:TC) (R:Led) (cl:Addr) (e:Nat) (vs:List Value) (K:List Int) (W:WF C) (hb:∀ (i:Nat) (n:NodeR) (k:Int) (t:Tok),C.nodes[i]?=some n→n.key=.int k t→k≤1000000) (H:Cnt vs K) :
  Spec w mean mg mb (.ref 433) [.ref A.t,.ref cl] 25 (TL w.params A C ((cl,listOf vs.toArray e)::R)) (fun r l=>∃ (T:Addr) (a b:Int) (t1 t2:Tok) (vs':List Value) (e':Nat),r=.ref T∧l=(T,tupObj #[.int a t1,.int b t2])::TL w.params A C ((cl,listOf vs'.toArray e')::R)∧a=((liveN C.nodes).length:Nat)∧b=((nodeInts C.nodes).length:Nat)∧Cnt vs' (nodeInts C.nodes++K)):=by
 have hln:=W.ln
 refine Spec.enterA (by k_is) (by k_is) (fun s X=>(BindsTo.of_eq rfl)) rfl (by kernel_rfl) (by kernel_rfl) rfl rfl rfl (by decide) ?_
 refine HS.assign 2 sl2 rfl Ev.int (HS.assign 3 sl3 rfl Ev.int ?_)
 refine HS.forL (X:=Nat×List Value×Nat) (vs:=refsOf C.na C.nodes.length) _ (by (exact sl4)) (fun _ _=>rfl) (by exact Ev.t_nodes rfl rfl (Ev.name 0 sl0 rfl)) (fun k x=>x.1=k∧Cnt x.2.1 (nodeInts (C.nodes.take x.1)++K)) (fun x m=>(m.put 2 (.i ((liveN (C.nodes.take x.1)).length:Nat))).put 3 (.i ((nodeInts (C.nodes.take x.1)).length:Nat))) (fun x=>TL w.params A C ((cl,listOf x.2.1.toArray x.2.2)::R)) (0,vs,e) ⟨rfl,H⟩ (by exact NM.Sub.same rfl (NM.Sub.same rfl (NM.Sub.same rfl (NM.Sub.same rfl NM.Sub.nil)))) rfl (fun _=>mem_ln) ?_ ?_
 ·intro I o i v x hv ⟨hx,H'⟩ Q' next _ _
  subst hx
  have hi:x.1 < C.nodes.length:=by
   have:=(List.getElem?_eq_some_iff.mp hv).1
   simpa [refsOf] using this
  rw [refsOf_get hi] at hv
  cases hv
  obtain ⟨nd,hn⟩:∃ nd,C.nodes[x.1]?=some nd:=⟨C.nodes[x.1],by simp [hi]⟩
  have hh:=handed_val (W.n.vals x.1 nd hn)
  have hh2:=handed_key (W.n.keys x.1 nd hn)
  have hbn:=fun k t=>hb x.1 nd k t hn
  have hok:nd.val≠.none→okKey nd.key:=fun hl=>(W.n.keys x.1 nd hn).resolve_left fun e=>hl (W.n.nonk x.1 nd hn e).2
  refine HS.perm tl_cons.symm ?_
  refine HS.ite (Ev.isNot (Ev.n_val rfl rfl rfl hn hh (Ev.name 4 sl4 rfl))) (fun _=>?_) (fun _=>(HS.nil (HS.nil (HS.done ?_))))
  ·rename_i hl
   have hok:=hok hl
   have hlv:isLive nd=true:=by simp [isLive,hl]
   refine HS.augE 3 sl3 rfl (fun _ _=>(by assumption)) (HE.callK rfl (Ev.glob 5 sl5 (by k_is)) (Evs.cons rfl (Ev.n_key rfl rfl rfl hn hh2 (Ev.name 4 sl4 rfl)) (Evs.cons rfl (Ev.name 1 sl1 rfl) Evs.nil)) (by k_is) (nb rfl) (spec_count_key A C R ((I,o)) cl (x.snd.snd) (x.snd.fst) (Mine.nodeInts (List.take x.fst C.nodes)++K) (nd.key) hok hbn H')) IIOp.add ?_
   rintro _ ⟨vs',e',rfl,H2⟩
   refine HS.aug 2 sl2 rfl (fun _ _=>(by assumption)) Ev.int IIOp.add (HS.nil (HS.nil (HS.done ?_)))
   have e3:((liveN (C.nodes.take x.1)).length:Int)+1=((liveN (C.nodes.take (x.1+1))).length:Nat):=by rw [liveN_take hn,hlv,if_pos rfl,List.length_append]; rfl
   have e4:((nodeInts (C.nodes.take x.1)).length:Int)+((posInt nd.key).toList.length:Nat)=((nodeInts (C.nodes.take (x.1+1))).length:Nat):=by rw [nodeInts_take hn,hlv,if_pos rfl,List.length_append]; rfl
   refine next (x.1+1,vs',e') _ _ ⟨rfl,?_⟩ (by exact NM.Sub.eqI rfl e4 (NM.Sub.eqI rfl e3 (NM.Sub.same rfl (NM.Sub.same rfl NM.Sub.nil)))) ⟨[],tl_cons⟩
   dsimp only
   rw [nodeInts_take hn,hlv,if_pos rfl]
   refine H2.perm ?_
   rw [← List.append_assoc]
   exact List.perm_append_comm.append_right _
  ·rename_i hl
   have hlv:isLive nd=false:=by simpa [isLive] using hl
   have e1:liveN (C.nodes.take (x.1+1))=liveN (C.nodes.take x.1):=by rw [liveN_take hn,hlv]; simp
   have e2:nodeInts (C.nodes.take (x.1+1))=nodeInts (C.nodes.take x.1):=by rw [nodeInts_take hn,hlv]; simp
   have e3:((liveN (C.nodes.take x.1)).length:Int)=((liveN (C.nodes.take (x.1+1))).length:Nat):=by rw [e1]
   have e4:((nodeInts (C.nodes.take x.1)).length:Int)=((nodeInts (C.nodes.take (x.1+1))).length:Nat):=by rw [e2]
   exact next (x.1+1,x.2.1,x.2.2) _ _ ⟨rfl,by dsimp only; rw [e2]; exact H'⟩ (by exact NM.Sub.eqI rfl e4 (NM.Sub.eqI rfl e3 (NM.Sub.same rfl (NM.Sub.same rfl NM.Sub.nil)))) ⟨[],tl_cons⟩
 ·intro x ⟨hx,H'⟩
  have hx:x.1=C.nodes.length:=by simpa [refsOf] using hx
  rw [hx,List.take_length] at H' ⊢
  refine HS.retT (Evs.cons rfl (Ev.name 2 sl2 rfl) (Evs.cons rfl (Ev.name 3 sl3 rfl) Evs.nil)) rfl ?_
  intro T v h
  obtain ⟨_,_,rfl,⟨t1,rfl⟩,⟨t2,rfl⟩⟩:=h.two
  exact ⟨T,_,_,t1,t2,_,_,rfl,rfl,rfl,rfl,H'⟩
end
noncomputable def liveAt (arr:List Value) (i:Nat):Option Int:=if (arr[i]?).getD .none=.none then none else some ((i:Int)+1)
noncomputable def aR (arr:List Value) (a j:Nat):List Int:=(List.range' a j).filterMap (liveAt arr)
noncomputable def arrInts (arr:List Value):List Int:=aR arr 0 arr.length
theorem aR_add (arr:List Value) (a j k:Nat):aR arr a (j+k)=aR arr a j++aR arr (a+j) k:=by
 unfold aR
 rw [← List.filterMap_append]
 congr 1
 have:=List.range'_append (s:=a) (m:=j) (n:=k) (step:=1)
 simpa using this.symm
theorem aR_succ (arr:List Value) (a j:Nat):aR arr a (j+1)=aR arr a j++(liveAt arr (a+j)).toList:=by
 rw [aR_add]
 unfold aR
 cases h:liveAt arr (a+j) <;> simp [List.range'_one,h]
theorem aR_mem {arr:List Value} {a j:Nat} {n:Int} (h:n∈aR arr a j):(a:Int)+1≤n∧n≤((a+j:Nat):Int):=by
 unfold aR at h
 obtain ⟨i,hi,he⟩:=List.mem_filterMap.mp h
 have hr:=List.mem_range'_1.mp hi
 unfold liveAt at he
 split at he
 ·cases he
 ·have:n=(i:Int)+1:=by simpa using he.symm
  exact lq [_,_,_] [_] [.an (.l Nq Nr) (.t Nr (.a Nq Ns)),.eq Zq (.a Nr Kr)] (.an (.le (.a Nq Kr) Zq) (.le Zq (.c (.a Nq Ns)))) [[110010,101100]] rfl hr this
theorem cnt_many {vs:List Value} {K X:List Int} {b:Nat} {t:Tok} (H:Cnt vs K) (hX:∀ x∈X,clg x=b) (hb:b < 27):Cnt (vs.set b (.int ((nk K b:Nat)+(X.length:Int)) t)) (X++K):=by
 have e1:∀ c,nk (X++K) c=(if c=b then X.length else 0)+nk K c:=by
  intro c
  unfold nk
  rw [List.countP_append]
  congr 1
  by_cases e:c=b
  ·rw [if_pos e,List.countP_eq_length]
   intro x hx; simp [hX x hx,e]
  ·rw [if_neg e,List.countP_eq_zero]
   intro x hx; simp [hX x hx]; exact fun h=>e h.symm
 refine ⟨by rw [List.length_set]; exact H.1,fun c hc=>?_⟩
 rw [e1]
 by_cases e:c=b
 ·subst e
  rw [List.getElem?_set_self (by rw [H.1]; exact hc),if_pos rfl]
  exact ⟨t,by congr 2; push_cast; exact Int.add_comm _ _⟩
 ·rw [List.getElem?_set_ne (Ne.symm e),if_neg e,Nat.zero_add]
  exact H.2 c hc
section
theorem spec_count_array (A:TA) (C:TC) (R:Led) (cl:Addr) (e:Nat) (vs:List Value) (K:List Int) (W:WF C) (H:Cnt vs K) :
  Spec w mean mg mb (.ref 426) [.ref A.t,.ref cl] 25 (TL w.params A C ((cl,listOf vs.toArray e)::R)) (fun r l=>(Vl.i ((arrInts C.arr).length:Nat)).is r∧∃ vs' e',l=TL w.params A C ((cl,listOf vs'.toArray e')::R)∧Cnt vs' (arrInts C.arr++K)):=by
 have hla:=W.la
 refine Spec.enterA (by k_is) (by k_is) (fun s X=>(BindsTo.of_eq rfl)) rfl (by kernel_rfl) (by kernel_rfl) rfl rfl rfl (by decide) ?_
 refine HS.assign 2 sl2 rfl Ev.int (HS.assign 3 sl3 rfl Ev.int (HS.assign 4 sl4 rfl Ev.int ?_))
 refine HS.forR (X:=Nat×Nat×List Value×Nat) (N:=27) _ (by (exact sl5)) rfl rfl (by exact Ev.blt 8 sl8 (by k_is) (by boot_by_name) (by kernel_rfl)) (show Ev _ _ (.i ((26:Int)+1)) by (exact (Ev.bin (Ev.toI (Ev.glob 9 sl9 (by k_is))) Ev.int IOp.add))) (by decide) (by decide) (fun _ _=>rfl)
  (fun k x=>x.1=k∧x.2.1≤C.arr.length∧(∀ k:Int,1≤k→k≤C.arr.length→(k≤x.2.1↔clg k < x.1))∧Cnt x.2.2.1 (aR C.arr 0 x.2.1++K))
  (fun x m=>((m.put 2 (.i ((aR C.arr 0 x.2.1).length:Nat))).put 3 (.i ((x.2.1:Int)+1))).put 4 (.i (2 ^ x.1))) (fun x=>TL w.params A C ((cl,listOf x.2.2.1.toArray x.2.2.2)::R)) (0,0,vs,e)
  ⟨rfl,Nat.zero_le _,fun k h1 _=>by dsimp only; constructor <;> intro h <;> (first | exact absurd h (Int.not_le.2 h1) | exact (Nat.not_lt_zero _ h).elim),H⟩ (by exact NM.Sub.same rfl (NM.Sub.same rfl (NM.Sub.same rfl (NM.Sub.same rfl (NM.Sub.same rfl NM.Sub.nil))))) rfl ?_ ?_
 ·intro I o i x hi ⟨hx,hn,hcl,H'⟩ Q' next brk _
  subst hx
  obtain ⟨i,n,vs',e'⟩:=x
  dsimp only at hi hn hcl H' ⊢
  have hp1:(1:Int)≤2 ^ i:=by
   have:(1:Nat)≤2 ^ i:=Nat.one_le_two_pow
   exact_mod_cast this
  obtain ⟨la,hmin,hl1,hl2,hl3⟩:∃ la:Nat,(if (C.arr.length:Int) < 2 ^ i then (C.arr.length:Int) else 2 ^ i)=(la:Int)∧la≤C.arr.length∧(la:Int)≤2 ^ i∧((la:Int)=2 ^ i∨la=C.arr.length):=by
   by_cases h:(C.arr.length:Int) < 2 ^ i
   ·exact ⟨C.arr.length,by rw [if_pos h],Nat.le_refl _,Int.le_of_lt h,.inr rfl⟩
   ·exact ⟨(2 ^ i:Int).toNat,by rw [if_neg h]; exact lq [_] [_] [.le Kr Zq,.tn 0 Zq] (.eq Zq Nq) [[110000,101000],[10100,11010]] rfl hp1 rfl,by exact lq [_,_] [_] [.nt Nq Zq,.tn 1 Zq] (.l Nr Nq) [[101010],[11000]] rfl h rfl,by exact lq [_] [_] [.le Kr Zq,.tn 0 Zq] (.le Nq Zq) [[101000],[11010]] rfl hp1 rfl,.inl (by exact lq [_] [_] [.le Kr Zq,.tn 0 Zq] (.eq Nq Zq) [[101000,110000],[11010,10100]] rfl hp1 rfl)⟩
  refine HS.perm tl_cons.symm ?_
  refine HS.assign 6 sl6 rfl (Ev.callB rfl (Ev.blt 10 sl10 (by k_is) (by boot_by_name) (by kernel_rfl)) (Evs.cons rfl (Ev.name 4 sl4 rfl) (Evs.cons rfl (Ev.lenA rfl rfl (Ev.blt 11 sl11 (by k_is) (by boot_by_name) (by kernel_rfl)) rfl (Ev.t_array rfl rfl (Ev.name 0 sl0 rfl)) hla) Evs.nil)) (fun _ _=>CT.min)) (HS.ite (EvT.cmp (Ev.name 3 sl3 rfl) (Ev.name 6 sl6 rfl) ICmp.gt rfl) (fun _=>(HS.brk ?_)) (fun _=>(HS.nil (HS.assign 7 sl7 rfl Ev.int ?_))))
  ·rename_i hbr
   rw [hmin] at hbr
   have hN:n=C.arr.length:=by
    rcases hl3 with h3 | h3
    ·exfalso
     have h4:=(hcl (2 ^ i) hp1 (by exact lq [_,_] [_] [.l Nq Nr,.eq Nq Zq] (.le Zq Nr) [[11010]] rfl hl1 h3)).mp (by exact lq [_,_] [_] [.lt Nq (.a Nr Kr),.eq Nq Zq] (.le Zq Nr) [[11010]] rfl hbr h3)
     cases i with
     | zero=>exact (Nat.not_lt_zero _ h4)
     | succ j =>
      have h5:=(clg_le hp1 j).mp (by exact Nat.le_of_lt_succ h4)
      have h6:(2:Int) ^ (j+1)=2 ^ j * 2:=rfl
      have h7:(1:Int)≤2 ^ j:=by
       have:(1:Nat)≤2 ^ j:=Nat.one_le_two_pow
       exact_mod_cast this
      lia
    ·exact lq [_,_,_] [] [.l Nq Nr,.lt Ns (.a Nq Kr),.e Ns Nr] (.e Nq Nr) [[100010,110100]] rfl hn hbr h3
   subst hN
   refine brk _ _ (HS.drop (r:=[(I,o)]) tl_cons ?_)
   refine HS.ret (Ev.name 2 sl2 rfl) ?_
   exact fun v hv=>⟨hv,_,_,rfl,H'⟩
  ·rename_i hbr
   rw [hmin] at hbr
   refine HS.whileU (X:=Nat) (fun j=>n+j≤la) (fun j m=>((m.put 3 (.i (((n+j:Nat):Int)+1))).put 6 (.i la)).put 7 (.i ((aR C.arr n j).length:Nat))) (fun _=>TL w.params A C ((I,o)::(cl,listOf vs'.toArray e')::R)) (fun j=>la - (n+j)) 0 (by show n+0≤la; exact lq [_,_] [] [.nt Nq (.a Nr Kr)] (.l (.a Nr Kq) Nq) [] rfl hbr) (by exact NM.Sub.same rfl (NM.Sub.eqI rfl hmin (NM.Sub.same rfl (NM.Sub.same rfl (NM.Sub.same rfl (NM.Sub.same rfl (NM.Sub.same rfl (NM.Sub.same rfl NM.Sub.nil)))))))) rfl ?_
   intro j hj Q'' next' _ _
   by_cases hlt:n+j < la
   ·obtain ⟨x,hx⟩:=arr_at (C:=C) (n:=((n+j:Nat):Int)+1) (by exact lq [_,_,_,_] [] [.l Nq Nr,.t (.a Ns (.n 3)) Nq] (.an (.le Kr (.a (.c (.a Ns (.n 3))) Kr)) (.le (.a (.c (.a Ns (.n 3))) Kr) Nr)) [[1000,0]] rfl hl1 hlt)
    have hx':C.arr[n+j]?=some x:=by rw [← hx]; congr 1; exact lq [_,_,_] [] [.tn 2 (.s (.a (.c (.a Nq Nr)) Kr) Kr)] (.e (.a Nq Nr) Ns) [[11000,10100],[]] rfl rfl
    have e2:((n+j:Nat):Int)+1+1=((n+(j+1):Nat):Int)+1:=rfl
    have hmu:la - (n+(j+1)) < la - (n+j):=by exact lq [_,_,_,_,_] [] [.t (.a Nq Nr) Ns,.sb 3 Ns (.a Nq (.a Nr Kr)),.sb 4 Ns (.a Nq Nr)] (.t (.n 3) (.n 4)) [[1100100],[1010100],[1101010],[1011010]] rfl hlt rfl rfl
    refine Tst.mk' (EvT.cmp (Ev.name 3 sl3 rfl) (Ev.name 6 sl6 rfl) ICmp.le rfl) (fun _=>(HS.ite (Ev.isNot (Ev.arr rfl rfl (Ev.t_array rfl rfl (Ev.name 0 sl0 rfl)) (Ev.bin (Ev.name 3 sl3 rfl) Ev.int IOp.sub) (by exact lq [_,_] [] [] (.le Kq (.s (.a (.c (.a Nq Nr)) Kr) Kr)) [] rfl) hx hla)) (fun _=>(HS.aug 7 sl7 rfl (fun _ _=>(by assumption)) Ev.int IIOp.add (HS.nil (HS.aug 3 sl3 rfl (fun _ _=>(by assumption)) Ev.int IIOp.add (HS.nil (HS.done ?_)))))) (fun _=>(HS.nil (HS.aug 3 sl3 rfl (fun _ _=>(by assumption)) Ev.int IIOp.add (HS.nil (HS.done ?_))))))) (fun _=>(False.elim (by exact lq [_,_,_,_,_] [] [.t Nq (.n 4),.nl (.a (.c (.a Ns (.n 3))) Kr) Nr,.sb 0 Nr (.a Ns (.a (.n 3) Kr)),.sb 4 Nr (.a Ns (.n 3))] .f [[10001100],[10001100],[10100110],[11000010]] rfl hmu (by assumption) rfl rfl)))
    ·have hL:liveAt C.arr (n+j)=some (((n+j:Nat):Int)+1):=by unfold liveAt; rw [hx']; exact if_neg (by assumption)
     have e1:((aR C.arr n j).length:Int)+1=((aR C.arr n (j+1)).length:Nat):=by rw [aR_succ,hL,List.length_append]; rfl
     exact next' (j+1) _ hlt hmu (by exact NM.Sub.eqI rfl e1 (NM.Sub.same rfl (NM.Sub.same rfl (NM.Sub.same rfl (NM.Sub.same rfl (NM.Sub.same rfl (NM.Sub.same rfl (NM.Sub.same rfl NM.Sub.nil))))))))
    ·rename_i hl
     have hL:liveAt C.arr (n+j)=none:=by unfold liveAt; rw [hx',Decidable.not_not.mp hl]; rfl
     have e1:((aR C.arr n j).length:Int)=((aR C.arr n (j+1)).length:Nat):=by rw [aR_succ,hL,List.length_append]; rfl
     exact next' (j+1) _ hlt hmu (by exact NM.Sub.eqI rfl e1 (NM.Sub.same rfl (NM.Sub.same rfl (NM.Sub.same rfl (NM.Sub.same rfl (NM.Sub.same rfl (NM.Sub.same rfl (NM.Sub.same rfl NM.Sub.nil))))))))
   ·obtain ⟨t7,hc7⟩:=H'.2 i hi
    have hc8:vs'[((i:Nat):Int).toNat]?=some (.int (nk (aR C.arr 0 n++K) i:Nat) t7):=hc7
    have g0:(0:Int)≤(i:Int):=Int.natCast_nonneg i
    have g1:(i:Int) < (vs'.length:Int):=by rw [H'.1]; exact Int.ofNat_lt.2 hi
    have g2:(i:Int) < 1000:=by exact lq [_] [] [.t Nq (.k 27)] (.lt Nq (.k 1000)) [] rfl hi
    have hX:∀ x∈aR C.arr n j,clg x=i:=by
     intro x hx
     obtain ⟨hx1,hx2⟩:=aR_mem hx
     have h3:=(clg_le (n:=x) (by exact lq [_] [_] [.le (.a Nq Kr) Zq] (.le Kr Zq) [] rfl hx1) i).mpr (by exact lq [_,_,_] [_,_] [.le Nq Zq,.l (.a Nr Ns) Nq,.le Zr (.c (.a Nr Ns))] (.le Zr Zq) [] rfl hl2 hj hx2)
     have h4:=hcl x (by exact lq [_] [_] [.le (.a Nq Kr) Zq] (.le Kr Zq) [] rfl hx1) (by exact lq [_,_,_,_] [_] [.l Nq Nr,.l (.a Ns (.n 3)) Nq,.le Zq (.c (.a Ns (.n 3)))] (.le Zq Nr) [] rfl hl1 hj hx2)
     lia
    have e8:aR C.arr 0 (n+j)=aR C.arr 0 n++aR C.arr n j:=by rw [aR_add,Nat.zero_add]
    have e9:((aR C.arr 0 n).length:Int)+((aR C.arr n j).length:Nat)=((aR C.arr 0 (n+j)).length:Nat):=by rw [e8,List.length_append]; rfl
    refine Tst.mk' (EvT.cmp (Ev.name 3 sl3 rfl) (Ev.name 6 sl6 rfl) ICmp.le rfl) (fun _=>(False.elim (by exact lq [_,_,_] [] [.gt (.a Nq Nr) Ns,.le (.a (.c (.a Nq Nr)) Kr) Ns] .f [] rfl hlt (by assumption)))) (fun _=>?_)
    rename_i hbl
    refine HS.perm (tl_mid (a:=[(I,o)])).symm ?_
    refine HS.augH (Ev.name 1 sl1 rfl) rfl (Ev.name 5 sl5 rfl) g0 g1 g2 hc8 (Ev.name 7 sl7 rfl) IIOp.add (fun _=>(HS.aug 2 sl2 rfl (fun _ _=>(by assumption)) (Ev.name 7 sl7 rfl) IIOp.add (HS.aug 4 sl4 rfl (fun _ _=>(by assumption)) Ev.int (IIOp.mul (by decide)) (HS.nil (HS.done ?_)))))
    refine next (i+1,n+j,_,_) _ _ ⟨rfl,by dsimp only; exact Nat.le_trans hj hl1,fun k h1 h2=>?_,?_⟩ (by exact NM.Sub.same rfl (NM.Sub.same rfl (NM.Sub.eqI rfl e9 (NM.Sub.same rfl (NM.Sub.same rfl NM.Sub.nil))))) ⟨[],tl_cons.trans (tl_mid (a:=[(I,o)]))⟩
    ·dsimp only
     rw [Nat.lt_succ_iff,clg_le h1]
     omega
    ·refine (cnt_many H' hX hi).perm ?_
     dsimp only
     rw [e8,← List.append_assoc]
     exact List.perm_append_comm.append_right _
 ·intro x ⟨hx,hn,hcl,H'⟩
  have hN:x.2.1=C.arr.length:=by
   refine Nat.le_antisymm hn (Nat.not_lt.mp fun hlt=>?_)
   have:=(hcl C.arr.length (by exact Int.ofNat_le.2 (Nat.zero_lt_of_lt hlt)) (Int.le_refl _)).mpr (hx▸Nat.lt_of_le_of_lt ((clg_le (by exact Int.ofNat_le.2 (Nat.zero_lt_of_lt hlt)) 20).mpr (by lia)) (by decide))
   exact lq [_,_] [] [.t Nq Nr,.le Nr Nq] .f [] rfl hlt this
  rw [hN] at H' ⊢
  refine HS.ret (Ev.name 2 sl2 rfl) ?_
  exact fun v hv=>⟨hv,_,_,rfl,H'⟩
end
section
variable {prog:Program} {w:World} {Ar:Around} {E:Value→Shared→Prop} {h₀:Heap} {L:Addr} {m:Names} {A:TA} {C:TC} {R:Led} {Q:Unit→Shared→Prop} {h:Heap} {g:Array GenState} {d:Drawn} {tk:Nat} {o:OsState}
theorem set_nodes {led:Led} {l:Addr} {e:Nat} {na':NA} {ns':List NodeR} (F:Fr h₀ L h m) (X₀:(hd.heap_1_39 w.params).In h₀) (N:News h₀ L h led) (D:Apart led)
  (p:led.Perm ((l,listOf (refsOf na' ns'.length).toArray e)::(nodesFrom w.params na' 0 ns'++TL w.params A C R)))
  (k:∀ h' k',Fr h₀ L h' m→News h₀ L h' (TL w.params A { C with ln:=l,en:=e,na:=na',nodes:=ns' } ((C.ln,listOf (refsOf C.na C.nodes.length).toArray C.en)::(nodesFrom w.params C.na 0 C.nodes++R)))→Apart (TL w.params A { C with ln:=l,en:=e,na:=na',nodes:=ns' } ((C.ln,listOf (refsOf C.na C.nodes.length).toArray C.en)::(nodesFrom w.params C.na 0 C.nodes++R)))→Q () ⟨h',g,d,k',o⟩) :
  wpAny (model prog w) Ar (setAttr (.ref A.t) (Str.ofString "nodes") (.ref l)) Q E ⟨h,g,d,tk,o⟩:=by
 let C':TC:={ C with ln:=l,en:=e,na:=na',nodes:=ns' }
 have sp:((l,listOf (refsOf na' ns'.length).toArray e)::(nodesFrom w.params na' 0 ns'++TL w.params A C R)).Perm ([(A.t,instObj 526 A.dt)]++(A.dt,dictOf (tabEnts w.params A C) 10)::((C.la,listOf C.arr.toArray C.ea)::(l,listOf (refsOf na' ns'.length).toArray e)::(nodesFrom w.params na' 0 ns'++((C.ln,listOf (refsOf C.na C.nodes.length).toArray C.en)::(nodesFrom w.params C.na 0 C.nodes++R))))):=by
  unfold TL
  refine List.Perm.trans (.cons _ (List.perm_middle.trans (.cons _ (List.perm_middle.trans (.cons _ List.perm_middle))))) ?_
  refine (List.Perm.swap _ _ _).trans (.cons _ ?_)
  refine (List.Perm.swap _ _ _).trans (.cons _ ?_)
  exact List.Perm.swap _ _ _
 have q:=p.trans sp
 have N':=News.perm N q
 have D':=D.perm q
 have U:=Apart.upd (pre:=[(A.t,instObj 526 A.dt)]) (d:=A.dt) (o:=dictOf (tabEnts w.params A C) 10) (o':=dictOf (tabEnts w.params A C') 10) D'
 exact set_dict (s:=⟨h,g,d,tk,o⟩) F X₀ N' (InstAt.of_news N' (.head _) (.tail _ (.head _))) rfl (by k_is) (by k_is) (by k_is) (by k_is) (by kernel_rfl) (by kernel_rfl) U.1 (by show 10≤1000; exact Nat.le_add_left _ _) fun h' F' N''=>k h' _ F' N'' U.2
theorem set_array {led:Led} {l:Addr} {e:Nat} {vs:List Value} (F:Fr h₀ L h m) (X₀:(hd.heap_1_39 w.params).In h₀) (N:News h₀ L h led) (D:Apart led)
  (p:led.Perm ((l,listOf vs.toArray e)::TL w.params A C R))
  (k:∀ h' k',Fr h₀ L h' m→News h₀ L h' (TL w.params A { C with la:=l,ea:=e,arr:=vs } ((C.la,listOf C.arr.toArray C.ea)::R))→Apart (TL w.params A { C with la:=l,ea:=e,arr:=vs } ((C.la,listOf C.arr.toArray C.ea)::R))→Q () ⟨h',g,d,k',o⟩) :
  wpAny (model prog w) Ar (setAttr (.ref A.t) (Str.ofString "array") (.ref l)) Q E ⟨h,g,d,tk,o⟩:=by
 let C':TC:={ C with la:=l,ea:=e,arr:=vs }
 have sp:((l,listOf vs.toArray e)::TL w.params A C R).Perm ([(A.t,instObj 526 A.dt)]++(A.dt,dictOf (tabEnts w.params A C) 10)::((l,listOf vs.toArray e)::(C.ln,listOf (refsOf C.na C.nodes.length).toArray C.en)::(nodesFrom w.params C.na 0 C.nodes++(C.la,listOf C.arr.toArray C.ea)::R))):=by
  unfold TL
  refine (List.Perm.swap _ _ _).trans (.cons _ ?_)
  refine (List.Perm.swap _ _ _).trans (.cons _ (.cons _ ?_))
  exact (List.Perm.swap _ _ _).trans (.cons _ List.perm_middle.symm)
 have q:=p.trans sp
 have N':=News.perm N q
 have D':=D.perm q
 have U:=Apart.upd (pre:=[(A.t,instObj 526 A.dt)]) (d:=A.dt) (o:=dictOf (tabEnts w.params A C) 10) (o':=dictOf (tabEnts w.params A C') 10) D'
 exact set_dict (s:=⟨h,g,d,tk,o⟩) F X₀ N' (InstAt.of_news N' (.head _) (.tail _ (.head _))) rfl (by k_is) (by k_is) (by k_is) (by k_is) (by kernel_rfl) (by kernel_rfl) U.1 (by show 10≤1000; exact Nat.le_add_left _ _) fun h' F' N''=>k h' _ F' N'' U.2
end
noncomputable def CompPost (h₀:Heap) (L:Addr) (m:Names) (s₁:Shared) (its:Led) (S:Led→Prop) (J:Value→Led→Prop) (y:Value) (s₂:Shared):Prop :=
 ∃ h' tk led',s₂={ s₁ with heap:=h',toks:=tk }∧Fr h₀ L h' m∧News h₀ L h' (its++led')∧Apart (its++led')∧S led'∧J y led'
theorem cp_next {h₀ h':Heap} {L:Addr} {m:Names} {s₁:Shared} {its led led':Led} {S:Led→Prop} {J:Value→Led→Prop} {y:Value} {tk:Nat} (F:Fr h₀ L h' m) (N:News h₀ L h' led) (D:Apart led)
  (hp:∃ r,(r++(its++led')).Perm led) (hS:S led') (hJ:J y led'):CompPost h₀ L m s₁ its S J y { s₁ with heap:=h',toks:=tk }:=by
 obtain ⟨r,hp⟩:=hp
 exact ⟨h',tk,led',rfl,F,News.sub N fun p h=>(hp.mem_iff).mp (List.mem_append_right _ h),(D.perm hp.symm).sub (List.sublist_append_right _ _),hS,hJ⟩
theorem apart_off {p:Addr×Obj} {l:Led} (h:Apart (p::l)):(∀ q∈l,q.1≠p.1)∧Apart l:=by
 unfold Apart at h
 rw [List.map_cons] at h
 obtain ⟨h1,h2⟩:=List.nodup_cons.mp h
 exact ⟨fun q hq e=>h1 (e▸List.mem_map_of_mem hq),h2⟩
theorem apart_on {p:Addr×Obj} {l:Led} (h1:∀ q∈l,q.1≠p.1) (h:Apart l):Apart (p::l):=by
 unfold Apart
 rw [List.map_cons]
 refine List.nodup_cons.mpr ⟨fun hm=>?_,h⟩
 obtain ⟨q,hq,e⟩:=List.mem_map.mp hm
 exact h1 q hq e
section
variable {prog:Program} {w:World} {A:Around} {h₀:Heap} {L:Addr} {m:Names} {env:Env} {s:Shared}
set_option maxHeartbeats 400000 in
theorem comp_led {elt:PySem.Expr} {x:Str} {scope:Scope} {cl:List (Str×Addr)} {S:Led→Prop} {P:Nat→Value→Prop} {Fin:List Value→Led→Prop} {n:Nat} (J:Nat→List Value→Led→Prop)
  (turn:∀ i v I oI C oC D m₂ h tk ys led (E':Value→Shared→Prop),i < n→P i v→LCg.NsObj oC m₂→m₂ x=some v→J i ys led→Fr h₀ L h m→News h₀ L h ((I,oI)::(C,oC)::(D,LCg.lst ys)::led)→Apart ((I,oI)::(C,oC)::(D,LCg.lst ys)::led) →
   wpAny (model prog w) A (eval elt (compEnvC scope cl C env)) (CompPost h₀ L m { s with heap:=h,toks:=tk } [(I,oI),(C,oC),(D,LCg.lst ys)] S (fun y=>J (i+1) (ys++[y]))) E' { s with heap:=h,toks:=tk })
  (done:∀ ys led,J n ys led→Apart led→Fin ys led) :
  ∀ k i ys led,k+i=n→J i ys led→Apart led→LCg.CompRest prog w A h₀ L m env elt x scope cl s S P Fin k i ys led:=by
 intro k
 induction k with
 | zero =>
  intro i ys led hi hJ hA
  exact LCg.CompRest.zero (done ys led ((show i=n by exact lq [_,_] [] [.e (.a Kq Nq) Nr] (.e Nq Nr) [[1010,1100]] rfl hi)▸hJ) hA)
 | succ k ih =>
  intro i ys led hi hJ hA
  refine LCg.CompRest.succ ?_
  intro v I oI C oC D m₂ h tk E' hP hC hx F N off ne
  have off':=off.mem
  obtain ⟨n1,n2,n3⟩:=ne
  have D₁:Apart ((I,oI)::(C,oC)::(D,LCg.lst ys)::led):=by
   refine apart_on (fun q hq=>?_) (apart_on (fun q hq=>?_) (apart_on (fun q hq=>(off' q hq).2.2) hA))
   ·rcases List.mem_cons.mp hq with rfl | hq
    ·exact Ne.symm n1
    ·rcases List.mem_cons.mp hq with rfl | hq
     ·exact Ne.symm n2
     ·exact (off' q hq).1
   ·rcases List.mem_cons.mp hq with rfl | hq
    ·exact Ne.symm n3
    ·exact (off' q hq).2.1
  refine wpAny_mono (turn i v I oI C oC D m₂ h tk ys led E' (by exact lq [_,_,_] [] [.e (.a (.a Nq Kr) Nr) Ns] (.t Nr Ns) [[1010]] rfl hi) hP hC hx hJ F N D₁) (fun y s₂ hy=>?_) fun z9 z9 e=>e
  obtain ⟨h',tk',led',rfl,F',N',D',hS',hJ'⟩:=hy
  obtain ⟨a1,D2⟩:=apart_off D'
  obtain ⟨a2,D3⟩:=apart_off D2
  obtain ⟨a3,D4⟩:=apart_off D3
  exact ⟨h',tk',led',rfl,F',N',LCg.Off3.of fun p hp=>⟨a1 p (.tail _ (.tail _ hp)),a2 p (.tail _ hp),a3 p hp⟩,hS',ih (i+1) _ led' (by exact lq [_,_,_] [] [.e (.a (.a Nq Kr) Nr) Ns] (.e (.a Nq (.a Nr Kr)) Ns) [[1010,1100]] rfl hi) hJ' D4⟩
theorem Off1.all {D:Addr}:∀ {l:Led},LCg.Off1 D l→∀ p∈l,p.1≠D
 | [],_,_,h=>nomatch h
 | _::_,x,p,h=>by
  rcases List.mem_cons.mp h with rfl | h
  ·exact x.1
  ·exact Off1.all x.2 p h
theorem fin_e {Q:Value→Shared→Prop} {ys:List Value} {news:Led} (hA:Apart news) (h:∀ D h tk,Fr h₀ L h m→News h₀ L h ((D,LCg.lst ys)::news)→Apart ((D,LCg.lst ys)::news)→Q (.ref D) { s with heap:=h,toks:=tk }):LCg.FinE h₀ L m s Q ys news :=
 fun D h' tk F N o=>h D h' tk F N (apart_on (Off1.all o) hA)
theorem fin_a {y:Str} {Q:Flow→Shared→Prop} {ys:List Value} {news:Led} (hA:Apart news) (h:∀ D h tk,Fr h₀ L h (fun z=>if z=y then some (.ref D) else m z)→News h₀ L h ((D,LCg.lst ys)::news)→Apart ((D,LCg.lst ys)::news)→Q .next { s with heap:=h,toks:=tk }):LCg.FinA h₀ L m s y Q ys news :=
 fun D h' tk F N o=>h D h' tk F N (apart_on (Off1.all o) hA)
end
inductive Rep (d:Addr) (o o':Obj):Led→Led→Prop where
 | head {r:Led}:Rep d o o' ((d,o)::r) ((d,o')::r)
 | tail {p:Addr×Obj} {r r':Led}:Rep d o o' r r'→Rep d o o' (p::r) (p::r')
theorem Rep.split {d:Addr} {o o':Obj} {l l':Led} (h:Rep d o o' l l'):∃ pre post,l=pre++(d,o)::post∧l'=pre++(d,o')::post:=by
 induction h with
 | head=>exact ⟨[],_,rfl,rfl⟩
 | tail _ ih=>obtain ⟨a,b,rfl,rfl⟩:=ih; exact ⟨_::a,b,rfl,rfl⟩
theorem Rep.upd {d:Addr} {o o':Obj} {l l':Led} (h:Rep d o o' l l') (D:Apart l):Upd d o o' l l'∧Apart l':=by
 obtain ⟨a,b,rfl,rfl⟩:=h.split
 exact Apart.upd D
theorem Rep.mem {d:Addr} {o o':Obj} {l l':Led} (h:Rep d o o' l l'):(d,o)∈l:=by
 obtain ⟨a,b,rfl,rfl⟩:=h.split
 simp
section
variable {prog:Program} {w:World} {Ar:Around} {E:Value→Shared→Prop} {s:Shared} {h₀:Heap} {L:Addr} {m:Names} {v:Value} {Q:Unit→Shared→Prop} {C x dx:Addr} {es es':List DictEntry} {n n':Nat} {led led':Led} {name:Str}
theorem set_rep (F:Fr h₀ L s.heap m) (X₀:(hd.heap_1_39 w.params).In h₀) (N:News h₀ L s.heap led) (D:Apart led) (hx:(x,instObj C dx)∈led) (U:Rep dx (dictOf es n) (dictOf es' n') led led')
  (hs:findIn (hd.heap_1_39 w.params) (.ref C) "__setattr__"=some (some (.builtin "object.__setattr__"))) (hp:plainOver (hd.heap_1_39 w.params) C=true) (ht:takerIn (hd.heap_1_39 w.params) C name=some none) (hh:hasDictIn (hd.heap_1_39 w.params) C=true) (hl:(getL name es).isSome=true)
  (e:(putL name (PyData.keyHash w.params name) (.str name (s.toks+1)) v es,putN name es n)=(es',n')) (hz:es'.length≤1000)
  (k:∀ h',Fr h₀ L h' m→News h₀ L h' led'→Apart led'→Q () { s with heap:=h',toks:=s.toks+2 }) :
  wpAny (model prog w) Ar (setAttr (.ref x) name v) Q E s :=
 set_dict F X₀ N (InstAt.of_news N hx U.mem) rfl hs hp ht hh hl e (U.upd D).1 hz fun h' F' N'=>k h' F' N' (U.upd D).2
end
theorem Spec.cls {w:World} {mean:ExcName→Option Value} {mg mb:Names} {C fI:Addr} {args:List Value} {dep:Nat} {led:Led} {post:Value→Led→Prop}
  (hm:makesIn (hd.heap_1_39 w.params) C=true) (hi:findIn (hd.heap_1_39 w.params) (.ref C) "__init__"=some (some (.ref fI))) (hf:isFn (hd.heap_1_39 w.params) (.ref fI)=true)
  (H:∀ x dx,Spec w mean mg mb (.ref fI) (.ref x::args) dep ((x,instObj C dx)::(dx,dictOf [] 0)::led) (fun r l=>r=.none∧post (.ref x) l)) :
  Spec w mean mg mb (.ref C) args (dep+1) led post:=by
 intro Ar env g L m s Q E Cn F N D hret
 refine make_K F N (Cn.X.keeps F.keep) hm hi (beq_iff_eq.mp hf) fun x dx h' F' N' l1 l2=>?_
 have D':=Apart.cons (Apart.cons (p:=(dx,dictOf [] 0)) D l1) (p:=(x,instObj C dx)) (fun q hq=>by
  rcases List.mem_cons.mp hq with rfl | hq
  ·exact l2
  ·exact Nat.lt_trans (l1 q hq) l2)
 refine codeAny_mono (H x dx _ env g L m { s with heap:=h' } (fun v s'=>v=.none∧Q (.ref x) s') E ⟨Cn.X,Cn.T,Cn.B,Cn.n,Cn.f,Cn.k,?_,?_⟩ F' N' D' ?_) ?_
 ·have:=Cn.d; rw [depth_under_make]; exact lq [_,_,_] [] [.t (.a Nq (.a Nr Kr)) Ns] (.t (.a (.a Nq Kr) Nr) Ns) [] rfl this
 ·have:=Cn.u; rw [units_under_make]; exact lq [_,_,_] [] [.t (.a Nq (.m 30 (.a Nr Kr))) Ns] (.t (.a (.a Nq Kr) (.m 30 Nr)) Ns) [] rfl this
 ·rintro r led' h'' tk' F2 N2 D2 ⟨rfl,p⟩
  exact ⟨rfl,hret _ led' h'' tk' F2 N2 D2 p⟩
 ·intro r s' hr
  unfold InitBack
  cases r with
  | error e=>exact hr
  | ok fl=>cases fl with
   | ret v=>obtain ⟨rfl,hq⟩:=hr; exact ⟨rfl,hq⟩
   | _=>exact hr
theorem put_fresh {name:Str} {hsh:Int} {k v:Value} {es:List DictEntry} {n:Nat} (h:getL name es=some none):(getL name es).isSome=true∧(putL name hsh k v es,putN name es n)=(es++[⟨hsh,k,v⟩],n+1):=by
 have hf:es.find? (·.key.isStr name)=none:=by
  unfold getL at h
  split at h
  ·cases h
  ·assumption
 refine ⟨by rw [h]; rfl,?_⟩
 have ha:es.any (·.key.isStr name)=false:=by
  rw [List.any_eq_false]
  exact List.find?_eq_none.mp hf
 have hi:es.findIdx? (fun x=>x.key.isStr name)=none:=List.findIdx?_eq_none_iff.mpr fun x hx=>by simpa using List.find?_eq_none.mp hf x hx
 rw [← putL_find,hi]
 unfold putN
 rw [ha]
 rfl
structure NewOk (P:Params) (C:Addr) (name:Str):Prop where
 hs:findIn (hd.heap_1_39 P) (.ref C) "__setattr__"=some (some (.builtin "object.__setattr__"))
 hp:plainOver (hd.heap_1_39 P) C=true
 ht:takerIn (hd.heap_1_39 P) C name=some none
 hh:hasDictIn (hd.heap_1_39 P) C=true
noncomputable abbrev newLed (P:Params) (x C dx:Addr) (es:List DictEntry) (n:Nat) (name:Str) (tk:Tok) (v:Value) (R:Led):Led:=(x,instObj C dx)::(dx,dictOf (es++[⟨PyData.keyHash P name,.str name tk,v⟩]) (n+1))::R
section
variable {c:Cn} {m:NM} {R:Led} {ss:List Stmt} {K:List (List Stmt)} {Q:Flow→NM→Led→Prop} {e o:PySem.Expr} {op pos:Pos}
theorem set_new {Ar:Around} {g:Heap} {L:Addr} {s:Shared} {E:Value→Shared→Prop} {name:Str} {x C dx:Addr} {es:List DictEntry} {n:Nat} {v:Value} {Q:Unit→Shared→Prop} (hk:NewOk c.w.params C name) (hg:getL name es=some none) (hz:es.length < 100) (T:Rt c Ar g L) (Rs:RS ⟨c,m,(x,instObj C dx)::(dx,dictOf es n)::R⟩ g L s.heap)
  (k:∀ h' tk' tk,RS ⟨c,m,newLed c.w.params x C dx es n name tk v R⟩ g L h'→Q () { s with heap:=h',toks:=tk' }):wpAny (Md c) Ar (setAttr (.ref x) name v) Q E s:=by
 obtain ⟨nm,F,H⟩:=Rs.F
 have pf:=fun hsh kk=>put_fresh (hsh:=hsh) (k:=kk) (v:=v) (n:=n) hg
 exact set_rep F T.C.X Rs.N Rs.D (.head _) (.tail .head) hk.hs hk.hp hk.ht hk.hh (pf 0 .none).1 (pf _ _).2 (by rw [List.length_append]; exact Nat.le_trans (Nat.add_le_add_right (Nat.le_of_lt hz) 1) (by decide)) fun h' F' N' D'=>k h' _ _ ⟨⟨nm,F',H⟩,N',D'⟩
theorem HS.setNew {name:Str} {x C dx:Addr} {es:List DictEntry} {n:Nat} {V:Vl} (hc:noComp e=true) (hk:NewOk c.w.params C name) (hg:getL name es=some none) (hz:Nat.ble es.length 20=true) (h:Ev ⟨c,m,(x,instObj C dx)::(dx,dictOf es n)::R⟩ e V) (ho:Ev ⟨c,m,(x,instObj C dx)::(dx,dictOf es n)::R⟩ o (.v (.ref x)))
  (k:∀ v tk,V.is v→HS c (ss::K) m (newLed c.w.params x C dx es n name tk v R) Q):HS c ((.Assign [.Attribute o name op] e pos::ss)::K) m ((x,instObj C dx)::(dx,dictOf es n)::R) Q :=
 HS.step fun z9 z9 z9 s T R0=>plainObj_wpAny_Assign_Attribute (h.use T R0 fun v z9 z9 hv R1=>ho.use T R1 fun z9 z9 z9 eo R2=>by
  cases eo
  exact set_new hk hg (Nat.lt_of_le_of_lt (Nat.le_of_ble_eq_true hz) (by decide)) T R2 fun h' tk' tk R3=>⟨h',tk',m,_,rfl,R3,k v tk hv⟩) (swaps_of hc)
theorem list_nil {σ:St} {Ar:Around} {g:Heap} {L:Addr} {s:Shared} {E:Value→Shared→Prop} {pos:Pos} {Q:Value→Shared→Prop} (Rs:RS σ g L s.heap) (k:∀ a h',RS ⟨σ.c,σ.m,(a,listOf #[] 0)::σ.led⟩ g L h'→Q (.ref a) { s with heap:=h' }):wpAny (Md σ.c) Ar (eval (.List [] pos) (σ.c.sh.env L)) Q E s:=by
 obtain ⟨nm,F,H⟩:=Rs.F
 exact List_ (args_nil (newList_K F Rs.N (fun l h' F' N' lt=>k l h' ⟨⟨nm,F',H⟩,N',Rs.D.cons lt⟩) (Nat.zero_le _)))
theorem HE.list0 {σ:St} {pos:Pos}:HE σ (.List [] pos) fun v l=>∃ a,v=.ref a∧l=(a,listOf #[] 0)::σ.led :=
 fun z9 z9 z9 s z9 R=>list_nil R fun a h' R1=>HE.out (s:=s) (tk':=s.toks) (P:=fun v l=>∃ a,v=.ref a∧l=(a,listOf #[] 0)::σ.led) R1 ⟨a,rfl,rfl⟩
theorem RS.perm {c:Cn} {m:NM} {l l':Led} {g h:Heap} {L:Addr} (R:RS ⟨c,m,l⟩ g L h) (p:l.Perm l'):RS ⟨c,m,l'⟩ g L h:=⟨R.F,News.perm R.N p,R.D.perm p⟩
theorem swap3 {a b d:Addr×Obj} {r:Led}:(d::a::b::r).Perm (a::b::d::r):=(List.Perm.swap _ _ _).trans (.cons _ (.swap _ _ _))
theorem HS.setNewL {name:Str} {x C dx:Addr} {es:List DictEntry} {n:Nat} {lp:Pos} (hk:NewOk c.w.params C name) (hg:getL name es=some none) (hz:Nat.ble es.length 20=true) (ho:∀ l,Ev ⟨c,m,l⟩ o (.v (.ref x)))
  (k:∀ a tk,HS c (ss::K) m (newLed c.w.params x C dx es n name tk (.ref a) ((a,listOf #[] 0)::R)) Q):HS c ((.Assign [.Attribute o name op] (.List [] lp) pos::ss)::K) m ((x,instObj C dx)::(dx,dictOf es n)::R) Q :=
 HS.step fun z9 z9 z9 s T R0=>plainObj_wpAny_Assign_Attribute (list_nil (σ:=⟨c,m,(x,instObj C dx)::(dx,dictOf es n)::R⟩) R0 fun a h' R1=>(ho _).use (σ:=⟨c,m,(a,listOf #[] 0)::(x,instObj C dx)::(dx,dictOf es n)::R⟩) T R1 fun z9 z9 z9 eo R2=>by
  cases eo
  exact set_new hk hg (Nat.lt_of_le_of_lt (Nat.le_of_ble_eq_true hz) (by decide)) T (R2.perm swap3) fun h' tk' tk R3=>⟨h',tk',m,_,rfl,R3,k a tk⟩) (swaps_of rfl)
theorem Ev.t_logI {σ:St} {A:TA} {C:TC} {R:Led} {o:PySem.Expr} {pos:Pos} {n:Int} {t:Tok} (hl:σ.led=TL σ.c.w.params A C R) (hc:noCall o=true) (e:C.logn=.int n t) (ho:Ev σ o (.v (.ref A.t))):Ev σ (.Attribute o (Str.ofString "log_nodes") pos) (.i n) :=
 .toI (t:=t) (e▸Ev.t_log hl hc (by rw [e]; rfl) ho)
theorem swaps_att {v o:PySem.Expr} {a:Str} {p:Pos} {n:Nat} {env:Env}:swapsWith v (some (.Attribute o a p)) n env=pure false:=by
 cases v <;> rfl
theorem HS.setH {name:Str} {x:Addr} {l:Led} {P:Value→Led→Prop} (h:HE ⟨c,m,l⟩ e P) (ho:∀ l,Ev ⟨c,m,l⟩ o (.v (.ref x))) (k:∀ v l',P v l'→∃ l'',SA ⟨c,m,l'⟩ x name v l''∧HS c (ss::K) m l'' Q):HS c ((.Assign [.Attribute o name op] e pos::ss)::K) m l Q :=
 HS.step fun z9 z9 z9 s T R=>plainObj_wpAny_Assign_Attribute (h.use T R fun v z9 z9 l' hv R1=>(ho l').use (σ:=⟨c,m,l'⟩) T R1 fun z9 z9 z9 eo R2=>by
  cases eo
  obtain ⟨l'',hs,kk⟩:=k v l' hv
  exact WX.use (σ:=⟨c,m,l'⟩) hs T R2 fun _ h' tk' m' lz R3 ⟨em,el⟩=>⟨h',tk',m',lz,rfl,R3,by subst em el; exact kk⟩) swaps_att
theorem SA.nodes {A:TA} {C:TC} {led:Led} {l:Addr} {en:Nat} {na':NA} {ns':List NodeR} (p:led.Perm ((l,listOf (refsOf na' ns'.length).toArray en)::(nodesFrom c.w.params na' 0 ns'++TL c.w.params A C R))):SA ⟨c,m,led⟩ A.t (Str.ofString "nodes") (.ref l) (TL c.w.params A { C with ln:=l,en:=en,na:=na',nodes:=ns' } ((C.ln,listOf (refsOf C.na C.nodes.length).toArray C.en)::(nodesFrom c.w.params C.na 0 C.nodes++R))) :=
 .mk fun z9 z9 z9 z9 z9 z9 z9 X F N D k=>set_nodes F X N D p k
theorem SA.array {A:TA} {C:TC} {led:Led} {l:Addr} {en:Nat} {vs:List Value} (p:led.Perm ((l,listOf vs.toArray en)::TL c.w.params A C R)):SA ⟨c,m,led⟩ A.t (Str.ofString "array") (.ref l) (TL c.w.params A { C with la:=l,ea:=en,arr:=vs } ((C.la,listOf C.arr.toArray C.ea)::R)) :=
 .mk fun z9 z9 z9 z9 z9 z9 z9 X F N D k=>set_array F X N D p k
end
section
theorem spec_Node (led:Led):Spec w mean mg mb (.ref 295) [] 5 led (fun r l=>∃ x dx k1 k2 k3 t,r=.ref x∧l=nodeLed w.params ⟨fun z9=>x,fun z9=>dx,fun z9=>k1,fun z9=>k2,fun z9=>k3⟩ 0 ⟨.none,.none,-1,t⟩++led):=by
 refine Spec.cls (by k_is) (by k_is) (by k_is) fun x dx=>?_
 refine Spec.enterA (by k_is) (by k_is) (fun s X=>(BindsTo.of_eq rfl)) rfl (by kernel_rfl) (by kernel_rfl) rfl rfl rfl (by decide) ?_
 refine HS.setNew rfl (NewOk.mk (by k_is) (by k_is) (by k_is) (by k_is)) (by kernel_rfl) rfl Ev.none (Ev.name 0 sl0 rfl) ?_
 rintro _ k1 rfl
 refine HS.setNew rfl (NewOk.mk (by k_is) (by k_is) (by k_is) (by k_is)) (by kernel_rfl) rfl Ev.none (Ev.name 0 sl0 rfl) ?_
 rintro _ k2 rfl
 refine HS.setNew rfl (NewOk.mk (by k_is) (by k_is) (by k_is) (by k_is)) (by kernel_rfl) rfl (Ev.neg Ev.int) (Ev.name 0 sl0 rfl) ?_
 rintro _ k3 ⟨t,rfl⟩
 refine HS.nil (HS.done ?_)
 exact ⟨rfl,x,dx,k1,k2,k3,t,rfl,rfl⟩
end
noncomputable def fresh (n:NodeR):Prop:=n.key=.none∧n.val=.none∧n.next=-1
theorem nodesFrom_congr {P:Params} {a b:NA}:∀ (ns:List NodeR) (k:Nat),(∀ i,k≤i→i < k+ns.length→a.nx i=b.nx i∧a.ndx i=b.ndx i∧a.k1 i=b.k1 i∧a.k2 i=b.k2 i∧a.k3 i=b.k3 i)→nodesFrom P a k ns=nodesFrom P b k ns
 | [],_,_=>rfl
 | n::r,k,h=>by
  obtain ⟨e1,e2,e3,e4,e5⟩:=h k (Nat.le_refl _) (by simp)
  simp only [nodesFrom,nodeLed,nodeEnts,e1,e2,e3,e4,e5]
  rw [nodesFrom_congr r (k+1) fun i h1 h2=>h i (by exact Nat.le_of_lt h1) (by simp; exact lq [_,_,_] [] [.t Nq (.a (.a Nr Kr) Ns)] (.t Nq (.a Nr (.a Ns Kr))) [] rfl h2)]
theorem nodesFrom_snoc {P:Params} {a:NA} {n:NodeR}:∀ (ns:List NodeR) (k:Nat),nodesFrom P a k (ns++[n])=nodesFrom P a k ns++nodeLed P a (k+ns.length) n
 | [],k=>by simp [nodesFrom]
 | x::r,k=>by
  simp only [List.cons_append,nodesFrom,nodesFrom_snoc r (k+1),List.append_assoc,List.length_cons]
  rw [show k+1+r.length=k+(r.length+1) by exact Nat.add_right_comm _ _ _]
noncomputable def NA.put (a:NA) (i:Nat) (x dx:Addr) (k1 k2 k3:Tok):NA:=⟨fun j=>if j=i then x else a.nx j,fun j=>if j=i then dx else a.ndx j,fun j=>if j=i then k1 else a.k1 j,fun j=>if j=i then k2 else a.k2 j,fun j=>if j=i then k3 else a.k3 j⟩
theorem nodes_put {P:Params} {a:NA} {x dx:Addr} {k1 k2 k3:Tok} {n:NodeR} (ns:List NodeR):nodesFrom P (a.put ns.length x dx k1 k2 k3) 0 (ns++[n])=nodesFrom P a 0 ns++nodeLed P ⟨fun z9=>x,fun z9=>dx,fun z9=>k1,fun z9=>k2,fun z9=>k3⟩ 0 n:=by
 rw [nodesFrom_snoc,Nat.zero_add]
 congr 1
 ·refine nodesFrom_congr ns 0 fun i z9 h=>?_
  have:i≠ns.length:=by exact lq [_,_] [] [.t Nq (.a Kq Nr),.e Nq Nr] .f [[11010]] rfl h
  simp [NA.put,this]
 ·simp [nodeLed,nodeEnts,NA.put]
theorem refs_put {a:NA} {x dx:Addr} {k1 k2 k3:Tok} (n:Nat):refsOf (a.put n x dx k1 k2 k3) (n+1)=refsOf a n++[.ref x]:=by
 unfold refsOf
 rw [List.range_succ,List.map_append]
 congr 1
 ·refine List.map_congr_left fun i hi=>?_
  have:i≠n:=by have:=List.mem_range.mp hi; exact Nat.ne_of_lt this
  simp [NA.put,this]
 ·simp [NA.put]
theorem rs_one (n:Nat):Builtin.Range.rangeSize 0 (n:Int) 1=(n:Int):=by
 unfold Builtin.Range.rangeSize
 simp
 exact lq [_] [] [.e Nq Kq] (.eq Kq Nq) [[0,1010]] rfl
theorem rsm_one {b:Int} (h0:0≤b) (h:b < 100000):Builtin.Range.small 0 b 1=true:=small_one (by exact Int.natCast_nonneg _) (by exact Int.natCast_nonneg _) (by exact Int.le_trans (by decide) h0) (by exact Int.lt_of_lt_of_le h (by decide))
noncomputable def NodesAt (P:Params) (base:Led) (i:Nat) (ys:List Value) (led:Led):Prop:=∃ (na:NA) (ns:List NodeR),ns.length=i∧(∀ n∈ns,fresh n)∧ys=refsOf na i∧led=nodesFrom P na 0 ns++base
theorem perm_mid (a b c d:Led):(a++((b++c)++d)).Perm (c++(a++(b++d))):=by
 have e1:a++((b++c)++d)=(a++b)++(c++d):=by simp
 have e2:c++(a++(b++d))=c++((a++b)++d):=by simp
 rw [e1,e2]
 exact List.perm_append_comm_assoc _ _ _
theorem nodesAt_step {P:Params} {base its:Led} {i:Nat} {na:NA} {ns:List NodeR} {x dx:Addr} {k1 k2 k3 t:Tok} (hns:ns.length=i) (hfr:∀ n∈ns,fresh n):∃ led',(its++led').Perm (nodeLed P ⟨fun z9=>x,fun z9=>dx,fun z9=>k1,fun z9=>k2,fun z9=>k3⟩ 0 ⟨.none,.none,-1,t⟩++(its++(nodesFrom P na 0 ns++base)))∧NodesAt P base (i+1) (refsOf na i++[.ref x]) led':=by
 subst hns
 refine ⟨nodesFrom P (na.put ns.length x dx k1 k2 k3) 0 (ns++[⟨.none,.none,-1,t⟩])++base,?_,_,_,by simp,?_,(refs_put _).symm,rfl⟩
 ·rw [nodes_put]
  exact perm_mid _ _ _ _
 ·intro n hn
  rcases List.mem_append.mp hn with h | h
  ·exact hfr n h
  ·rw [List.mem_singleton.mp h]; exact ⟨rfl,rfl,rfl⟩
noncomputable def EvS (σ:St) (e:PySem.Expr) (V:Vl):Prop:=∀ (Ar:Around) (g:Heap) (L:Addr) (s:Shared) (E:Value→Shared→Prop) (Q:Value→Shared→Prop),Rt σ.c Ar g L→RS σ g L s.heap→(∀ v tk',V.is v→Q v { s with toks:=tk' })→wpAny (Md σ.c) Ar (eval e (σ.c.sh.env L)) Q E s
section
variable {σ:St} {pos:Pos}
theorem EvS.name {x:Str} {V:Vl} (i:Nat) (hx:slot σ.c.sh.sc.names i=some (x,.local)) (hv:σ.m.get i=some V):EvS σ (.Name x pos) V:=by
 intro Ar g L s E Q T R k
 obtain ⟨nm,F,H⟩:=R.F
 obtain ⟨y,v,hy,hm,hV⟩:=H i V hv
 rw [hx] at hy; cases hy
 exact nm_L F (slot_lookup hx T.nd) hm (T.dbg hx) T.kind (k v s.toks hV)
theorem EvS.blt {x:Str} {v:Value} (i:Nat) (hx:slot σ.c.sh.sc.names i=some (x,.globalImplicit)) (e:nsIn (hd.heap_1_39 σ.c.w.params) mainGlobals x=some none) (hv:bootBuiltins x=some v) (hn:(x == Str.ofString "__name__")=false):EvS σ (.Name x pos) (.v v):=by
 intro Ar g L s E Q T R k
 obtain ⟨nm,F,H⟩:=R.F
 obtain ⟨pv,lo,Tp⟩:=T.C.T
 exact nm_B F T.C.X Tp (slot_lookup hx T.nd) e hv hn (T.dbg hx) T.kind (k v s.toks rfl)
theorem EvS.int {n:Int} {kk:Nat}:EvS σ (.Constant (.int n) kk pos) (.i n):=fun z9 z9 z9 z9 z9 z9 z9 z9 k=>wpAny_Constant_int (k _ _ ⟨_,rfl⟩)
theorem EvS.bin {l r:PySem.Expr} {op:Operator} {a b n:Int} (h1:EvS σ l (.i a)) (h2:EvS σ r (.i b)) (o:IOp op a b n):EvS σ (.BinOp l op r pos) (.i n) :=
 fun z9 z9 z9 z9 z9 z9 T R k=>wpAny_BinOp (h1 _ _ _ _ _ _ T R fun _ _ ⟨_,ea⟩=>h2 _ _ _ _ _ _ T R fun _ _ ⟨_,eb⟩=>ea▸eb▸o fun t' k'=>k _ k' ⟨t',rfl⟩)
theorem EvS.toI {e:PySem.Expr} {n:Int} {t:Tok} (h:EvS σ e (.v (.int n t))):EvS σ e (.i n):=fun z9 z9 z9 z9 z9 z9 T R k=>h _ _ _ _ _ _ T R fun z9 z9 hv=>k _ _ ⟨t,hv⟩
theorem EvS.t_log {A:TA} {C:TC} {R:Led} {o:PySem.Expr} (hl:σ.led=TL σ.c.w.params A C R) (hc:noCall o=true) (hh:handedIn C.logn=true) (ho:EvS σ o (.v (.ref A.t))):EvS σ (.Attribute o (Str.ofString "log_nodes") pos) (.v C.logn):=by
 intro Ar g L s E Q T R k
 refine Attribute_any_ (ho _ _ _ _ _ _ T R fun z9 z9 ev=>?_) (att_of hc)
 cases ev
 obtain ⟨nm,F,H⟩:=R.F
 have N:=R.N
 rw [hl] at N
 exact get_own F T.C.X (InstAt.of_news N mem_t mem_dt) (by k_is) (by k_is) (by k_is) (by k_is) (by kernel_rfl) hh (k _ _ rfl)
theorem EvS.t_logI {A:TA} {C:TC} {R:Led} {o:PySem.Expr} {n:Int} {t:Tok} (hl:σ.led=TL σ.c.w.params A C R) (hc:noCall o=true) (e:C.logn=.int n t) (ho:EvS σ o (.v (.ref A.t))):EvS σ (.Attribute o (Str.ofString "log_nodes") pos) (.i n) :=
 .toI (t:=t) (e▸EvS.t_log hl hc (by rw [e]; rfl) ho)
theorem HE.nodes {sh:Sh} {dep:Nat} {m:NM} {l:Led} {x:Str} {f e:PySem.Expr} {px np cp rp pos:Pos} {scope:Scope} {N:Nat} (hclos:∀ L,closureFor scope (sh.env L)=pure []) (hcell:∀ y∈scope.names,y.2≠.cell) (hkind:scope.kind=.function)
  (hnames:∀ y∈scope.names,y.2=.local→scope.names.lookup y.1=some .local) (hx:scope.names.lookup x=some .local) (hfold:∀ L x,foldedSetIterable (.Call f [e] [] rp) (sh.env L) x=pure x) (hkn:∀ L C,(compEnvC scope [] C (sh.env L)).kindOf (Str.ofString "Node")=some .globalImplicit)
  (hn:noAtt f=true) (hs:isStar e=false) (hf:EvS ⟨⟨w,mean,mg,mb,sh,dep⟩,m,l⟩ f (.v (.type "range"))) (he:EvS ⟨⟨w,mean,mg,mb,sh,dep⟩,m,l⟩ e (.i (N:Int))) (hN:N < 1000) (hd:5≤dep) :
  HE ⟨⟨w,mean,mg,mb,sh,dep⟩,m,l⟩ (.ListComp (.Call (.Name (Str.ofString "Node") np) [] [] cp) [⟨.Name x px,.Call f [e] [] rp,[],0⟩] scope pos) fun v l'=>∃ D na ns,v=.ref D∧l'=(D,listOf (refsOf na N).toArray (refsOf na N).length)::(nodesFrom w.params na 0 ns++l)∧ns.length=N∧∀ n∈ns,fresh n:=by
 refine HE.of fun Ar g L h₀ gs d tk₀ os Q T R hq=>?_
 obtain ⟨nm,F,H⟩:=R.F
 refine LCg.ListComp_U F (hclos L) hcell hkind hnames hx (Call_ (hf _ _ _ _ _ _ T R fun v tk1 hv=>?_) (callee_of hn)) (hfold L)
 cases hv
 refine Pv.callWith_type1 (args_cons (he _ _ _ _ _ _ T R fun v tk2 ⟨t1,ev⟩=>args_nil ?_) (star_of hs)) (star_of hs) rfl
 subst ev
 refine range1_rows F R.N fun h3 tk3 t1 u1 v1 kR F3 N3 z9=>?_
 refine LCg.CompSrc.range (n:=N) T.C.n F3 N3 kR (rsm_one (Int.natCast_nonneg _) (by exact lq [_] [] [.t Nq (.k 1000)] (.lt Nq (.k 100000)) [] rfl hN)) (rs_one _) (Nat.le_trans (Nat.le_of_lt hN) (by decide)) (fun g'=>?_)
 refine comp_led (n:=N) (NodesAt w.params l) ?_ ?_ N 0 [] l rfl ⟨⟨fun z9=>0,fun z9=>0,fun z9=>0,fun z9=>0,fun z9=>0⟩,[],rfl,by simp,rfl,(List.nil_append _).symm⟩ R.D
 ·rintro i v I oI Cm oC Dm m₂ h tk ys led E' hi hP hC hx ⟨na,ns,hns,hfr,rfl,rfl⟩ F₂ N₂ D₂
  obtain ⟨pv,lo,Tp⟩:=T.C.T
  refine Call_ (LCgL.ld_global F₂ T.C.X Tp (by k_is) ?_ rfl hkind (hkn _ _)) (callee_of rfl)
  refine callWith_K0 (T.C.X.keeps F₂.keep) (by k_is) (Spec.use (spec_Node _) T.C F₂ N₂ D₂ hd ?_)
  rintro _ _ h4 tk4 F4 N4 D4 ⟨x,dx,k1,k2,k3,t,rfl,rfl⟩
  obtain ⟨led',hp,hJ⟩:=nodesAt_step (P:=w.params) (base:=l) (its:=[(I,oI),(Cm,oC),(Dm,LCg.lst (refsOf na i))]) (x:=x) (dx:=dx) (k1:=k1) (k2:=k2) (k3:=k3) (t:=t) hns hfr
  exact cp_next F4 N4 D4 ⟨[],hp⟩ trivial hJ
 ·rintro ys led ⟨na,ns,hns,hfr,rfl,rfl⟩ hA
  refine fin_e hA fun Dl h₂ tk₂ F₂ N₂ D₂=>?_
  exact hq _ h₂ tk₂ ((Dl,LCg.lst (refsOf na N))::(nodesFrom w.params na 0 ns++l)) ⟨⟨_,F₂,H⟩,N₂,D₂⟩ ⟨Dl,na,ns,rfl,rfl,hns,hfr⟩
end
section
theorem spec_make_nodes (A:TA) (C:TC) (R:Led) (i:Int) (t:Tok) (h0:0 < i) (h2:i≤500) :
  Spec w mean mg mb (.ref 460) [.ref A.t,.int i t] 20 (TL w.params A C R) (fun r l=>r=.none∧∃ C' R',l=TL w.params A C' (R'++((C.ln,listOf (refsOf C.na C.nodes.length).toArray C.en)::(nodesFrom w.params C.na 0 C.nodes++R)))∧C'.arr=C.arr∧C'.nodes.length=2 ^ clg i∧(∀ n∈C'.nodes,fresh n)∧C'.fr=C'.nodes.length):=by
 have e0:(clg i:Int)=ilog (i - 1).toNat+1:=by
  unfold clg
  have:-1≤ilog (i - 1).toNat:=by unfold ilog; split <;> (first | exact Int.natCast_nonneg _)
  exact lq [_] [_] [.le (.g Kr) Zq,.tn 0 (.a Zq Kr)] (.eq Nq (.a Zq Kr)) [[101000,110000],[11010,10100]] rfl this rfl
 have hc:clg i≤9:=(clg_le h0 9).mpr (by lia)
 refine Spec.enterA (by k_is) (by k_is) (fun s X=>(BindsTo.of_eq rfl)) rfl (by kernel_rfl) (by kernel_rfl) rfl rfl rfl (by decide) ?_
 refine HS.setH HE.list0 (fun z9=>by (exact (Ev.name 0 sl0 rfl))) ?_
 rintro _ _ ⟨a,rfl,rfl⟩
 refine ⟨_,SA.nodes (ns':=[]) (na':=C.na) (.refl _),?_⟩
 refine HS.setI rfl Ev.int (Ev.name 0 sl0 rfl) (fun z9=>SA.log) (fun z9=>(HS.ite (EvT.cmp (Ev.nameI 1 sl1 rfl) Ev.int ICmp.gt rfl) (fun z9=>(HS.setI rfl (Ev.of (HE.callK rfl (Ev.glob 2 sl2 (by k_is)) (Evs.cons rfl (Ev.name 1 sl1 rfl) Evs.nil) (by k_is) (nb rfl) (spec_ceil_log2 i t _ z9))) (Ev.name 0 sl0 rfl) (fun z9=>SA.log) (fun z9=>(HS.ite (EvT.cmp (Ev.t_logI rfl rfl rfl (Ev.name 0 sl0 rfl)) (Ev.toI (Ev.glob 3 sl3 (by k_is))) ICmp.gt rfl) (fun z9=>(False.elim (by exact lq [_] [_] [.eq Nq (.a Zq Kr),.l Nq (.k 9),.lt (.k 26) (.a Zq Kr)] .f [[111100]] rfl e0 hc z9))) (fun z9=>(HS.nil ?_)))))) (fun z9=>(False.elim (by contradiction)))))
 have hpw:2 ^ clg i≤2 ^ 9:=Nat.pow_le_pow_right (by decide) hc
 have ep:(1 * 2 ^ (ilog (i - 1).toNat+1).toNat:Int)=((2 ^ clg i:Nat):Int):=by
  rw [← e0]; push_cast; simp
 refine HS.setH (HE.nodes (N:=2 ^ clg i) (fun z9=>rfl) (by decide) rfl (by decide) rfl (fun z9 z9=>rfl) (fun z9 z9=>rfl) rfl rfl (by exact EvS.blt 5 sl5 (by k_is) (by boot_by_name) (by kernel_rfl)) (ep▸(by exact EvS.bin EvS.int (EvS.t_logI rfl rfl rfl (EvS.name 0 sl0 rfl)) (IOp.lsh (by exact e0▸Int.natCast_nonneg _) (by exact lq [] [_] [.nt (.k 26) (.a Zq Kr)] (.le (.a Zq Kr) (.k 1000000)) [] rfl z9) (by decide)))) (Nat.lt_of_le_of_lt hpw (by decide)) (nb rfl)) (fun z9=>by (exact (Ev.name 0 sl0 rfl))) ?_
 rintro _ _ ⟨D,na,ns,rfl,rfl,hns,hfr⟩
 refine ⟨_,SA.nodes (na':=na) (ns':=ns) (by rw [hns]),?_⟩
 have hns':ns.length < 1000:=by exact lq [_,_] [] [.l Nq (.k 512),.e Nr Nq] (.t Nr (.k 1000)) [[10110]] rfl hpw hns
 refine HS.nil (HS.setI rfl (Ev.lenN rfl rfl (Ev.blt 6 sl6 (by k_is) (by boot_by_name) (by kernel_rfl)) rfl (Ev.t_nodes rfl rfl (Ev.name 0 sl0 rfl)) hns') (Ev.name 0 sl0 rfl) (fun z9=>SA.free) (fun z9=>(HS.nil (HS.done ?_))))
 exact ⟨rfl,_,[(_,_)],rfl,rfl,hns,hfr,rfl⟩
end
noncomputable def isL (v:Value):Bool:=decide (v≠.none)
structure Rsz (sz N:Nat) (f:Ky→Value) (u:Nat) (C:TC):Prop where
 wf:WF C
 al:C.arr.length=sz
 nl:C.nodes.length=N
 lk:∀ k,look C k=f k
 us:used C.nodes≤u
 ks:∀ k,fidx C.nodes k≠none→look C k≠.none
theorem Rsz.congr {sz N u u':Nat} {f g:Ky→Value} {C:TC} (S:Rsz sz N f u C) (e:∀ k,f k=g k) (hu:u≤u'):Rsz sz N g u' C :=
 ⟨S.wf,S.al,S.nl,fun k=>(S.lk k).trans (e k),Nat.le_trans S.us hu,S.ks⟩
theorem Rsz.case {sz N u:Nat} {f:Ky→Value} {C:TC} (S:Rsz sz N f u C) {k:Ky} (h:inArr sz k=true∨(f k=.none∧u < N)) :
  inArr C.arr.length k=true∨(inArr C.arr.length k=false∧fidx C.nodes k=none∧used C.nodes < C.nodes.length):=by
 rw [S.al,S.nl]
 by_cases hi:inArr sz k=true
 ·exact .inl hi
 ·rcases h with h | ⟨h1,h2⟩
  ·exact absurd h hi
  ·refine .inr ⟨by simpa using hi,?_,Nat.lt_of_le_of_lt S.us h2⟩
   cases e:fidx C.nodes k with
   | none=>rfl
   | some j=>exact absurd ((S.lk k).trans h1) (S.ks k (by rw [e]; exact nofun))
theorem Rsz.step {sz N u:Nat} {f:Ky→Value} {C C':TC} (S:Rsz sz N f u C) {k:Ky} {v:Value} (hv:v≠.none) (I:Lay C C' k v):Rsz sz N (fun k'=>if k'=k then v else f k') (u+(if inArr sz k=true then 0 else 1)) C':=by
 refine ⟨I.wf,I.alen.trans S.al,I.nlen.trans S.nl,fun k'=>?_,?_,fun k' h=>?_⟩
 ·rw [I.look]
  by_cases e:k'=k
  ·rw [if_pos e,if_pos e]
  ·rw [if_neg e,if_neg e,S.lk]
 ·have:=I.used
  rw [S.al] at this
  exact Nat.le_trans this (Nat.add_le_add_right S.us _)
 ·rw [I.look]
  by_cases e:k'=k
  ·rw [if_pos e]; exact hv
  ·rw [if_neg e]
   rcases I.keys k' h with h | h
   ·exact absurd h.1 e
   ·exact S.ks k' h
theorem fresh_nodes {ns:List NodeR} (hf:∀ n∈ns,fresh n):WFn ns:=by
 have hf':∀ (i:Nat) (n:NodeR),ns[i]?=some n→fresh n:=fun i n h=>hf n (List.mem_of_getElem? h)
 refine ⟨fun i n h=>.inl (hf' i n h).1,fun i n h=>?_,fun i n h z9=>⟨by rw [(hf' i n h).2.2]; exact Int.natCast_nonneg _,(hf' i n h).2.1⟩,fun i hi=>?_,fun i j n m h z9 z9=>?_,fun i j n m h z9 z9 h0=>?_,fun i n l h hk=>absurd (hf' i n h).1 hk,fun i n h hk=>absurd (hf' i n h).1 hk,fun i j n m k h z9 hk=>?_⟩
 ·rw [(hf' i n h).2.1]; trivial
 ·refine ⟨[i],.cons (n:=ns[i]) (by simp [hi]) ?_⟩
  rw [(hf' i ns[i] (by simp [hi])).2.2]
  exact .nil (by exact Int.natCast_nonneg _)
 ·rw [(hf' i n h).2.2]; exact lq [_] [] [.eq (.g Kr) Nq] .f [[1100]] rfl
 ·rw [(hf' i n h).2.2] at h0; lia
 ·rw [(hf' i n h).1] at hk; cases hk
theorem fresh_fidx {ns:List NodeR} (hf:∀ n∈ns,fresh n) (k:Ky):fidx ns k=none:=fidx_absent fun i n h=>by
 rw [(hf n (List.mem_of_getElem? h)).1]; exact nofun
theorem fresh_used {ns:List NodeR} (hf:∀ n∈ns,fresh n):used ns=0:=by
 unfold used
 rw [List.countP_eq_zero]
 intro n hn
 simp [isUsed,(hf n hn).1]
noncomputable def vlook (C:TC) (q:Nat) (k:Ky):Value:=match k with
 | .i n=>if 1≤n∧n≤(q:Int) then (C.arr[(n - 1).toNat]?).getD .none else .none
 | .b _=>.none
noncomputable def vcut (C:TC) (sz:Nat):List Value:=C.arr.take sz++List.replicate (sz - C.arr.length) .none
theorem vcut_len (C:TC) (sz:Nat):(vcut C sz).length=sz:=by
 unfold vcut; rw [List.length_append,List.length_take,List.length_replicate]; exact lq [_,_,_,_] [] [.mi 0 Nr Ns,.sb 3 Nr Ns] (.e (.a Nq (.n 3)) Nr) [[1011010,1000100],[1100010,1000100],[1010010,1100100],[1101010,1010100]] rfl rfl rfl
theorem vcut_get (C:TC) (sz i:Nat) (h:i < sz):((vcut C sz)[i]?).getD .none=(C.arr[i]?).getD .none:=by
 unfold vcut
 by_cases h2:i < C.arr.length
 ·rw [List.getElem?_append_left (by rw [List.length_take]; exact Nat.lt_min.2 ⟨h,h2⟩),List.getElem?_take_of_lt h]
 ·have e2:C.arr[i]?=none:=List.getElem?_eq_none (by exact Nat.le_of_not_lt h2)
  rw [e2,List.getElem?_append_right (by rw [List.length_take]; exact lq [_,_,_,_] [] [.gt Nq Nr,.mi 2 (.n 3) Nr] (.l Ns Nq) [[110110],[100110]] rfl h2 rfl),List.getElem?_replicate]
  split <;> rfl
theorem st_fresh {C C':TC} {sz:Nat} (W:WF C) (hsz:sz < 1000) (ha:C'.arr=vcut C sz) (hf:∀ n∈C'.nodes,fresh n) (hfr:C'.fr=C'.nodes.length) (hn:C'.nodes.length < 1000):Rsz sz C'.nodes.length (vlook C sz) 0 C':=by
 have hl:C'.arr.length=sz:=by rw [ha,vcut_len]
 refine ⟨⟨fresh_nodes hf,fun v hv=>?_,fun i n k t h e=>?_,by exact hfr▸Int.natCast_nonneg _,by exact Int.le_of_eq hfr,fun i n h hle=>?_,by exact hl▸hsz,hn⟩,hl,rfl,fun k=>?_,by rw [fresh_used hf]; exact Nat.le_refl _,fun k h=>absurd (fresh_fidx hf k) h⟩
 ·rw [ha] at hv
  unfold vcut at hv
  rcases List.mem_append.mp hv with h | h
  ·exact W.arr v (List.mem_of_mem_take h)
  ·rw [(List.mem_replicate.mp h).2]; trivial
 ·rw [(hf n (List.mem_of_getElem? h)).1] at e; cases e
 ·have:=(List.getElem?_eq_some_iff.mp h).1
  lia
 ·rw [look_eq,hl,nodeGet_none (fresh_fidx hf k)]
  cases k with
  | b l=>rfl
  | i n =>
   by_cases h:1≤n∧n≤(sz:Int)
   ·simp only [inArr,vlook,decide_eq_true h,if_true,if_pos h]
    rw [ha,vcut_get C sz _ (by exact lq [_,_] [_] [.an (.le Kr Zq) (.le Zq Nq),.tn 1 (.s Zq Kr)] (.t Nr Nq) [[1010100],[110110]] rfl h rfl)]
   ·simp only [inArr,vlook,decide_eq_false h,if_neg h,Bool.false_eq_true,if_false]
noncomputable def outA (C:TC) (sz:Nat) (j:Nat):Nat:=((C.arr.drop sz).take j).countP isL
theorem outA_succ {C:TC} {sz j:Nat} {v:Value} (h:(C.arr.drop sz)[j]?=some v):outA C sz (j+1)=outA C sz j+(if isL v=true then 1 else 0):=by
 unfold outA
 rw [List.take_add_one,h,List.countP_append]
 have e:List.countP isL (some v).toList=if isL v=true then 1 else 0:=by
  show List.countP isL [v]=_
  rw [List.countP_cons,List.countP_nil,Nat.zero_add]
 rw [e]
theorem vlook_succ {C:TC} {sz j:Nat} {v:Value} (h:(C.arr.drop sz)[j]?=some v) (k:Ky):(if k=.i ((sz:Int)+(j:Int)+1) then v else vlook C (sz+j) k)=vlook C (sz+(j+1)) k:=by
 rw [List.getElem?_drop] at h
 cases k with
 | b l=>rfl
 | i n =>
  by_cases e:n=(sz:Int)+(j:Int)+1
  ·subst e
   rw [if_pos rfl]
   simp only [vlook]
   rw [if_pos (by exact lq [_,_] [] [] (.an (.le Kr (.a (.a Nq Nr) Kr)) (.le (.a (.a Nq Nr) Kr) (.c (.a Nq (.a Nr Kr))))) [] rfl),show ((sz:Int)+(j:Int)+1 - 1).toNat=sz+j by exact lq [_,_,_] [] [.tn 0 (.s (.a (.a Nr Ns) Kr) Kr)] (.e Nq (.a Nr Ns)) [[10100,11000],[]] rfl rfl,h]
   rfl
  ·rw [if_neg (fun z=>e (Ky.i.inj z))]
   simp only [vlook]
   by_cases h2:1≤n∧n≤((sz+j:Nat):Int)
   ·rw [if_pos h2,if_pos (by exact lq [_,_] [_] [.an (.le Kr Zq) (.le Zq (.c (.a Nq Nr)))] (.an (.le Kr Zq) (.le Zq (.c (.a Nq (.a Nr Kr))))) [[1010,1100]] rfl h2)]
   ·rw [if_neg h2,if_neg (by exact lq [_,_] [_] [.ne Zq (.a (.a Nq Nr) Kr),.or (.nl Kr Zq) (.nl Zq (.c (.a Nq Nr))),.an (.le Kr Zq) (.le Zq (.c (.a Nq (.a Nr Kr))))] .f [[101100],[100110],[],[110010]] rfl e (nab h2))]
theorem vlook_none {C:TC} {sz j:Nat}:vlook C (sz+j) (.i ((sz:Int)+(j:Int)+1))=.none:=by
 simp only [vlook]
 rw [if_neg (by exact lq [_,_] [] [.an (.le Kr (.a (.a Nq Nr) Kr)) (.le (.a (.a Nq Nr) Kr) (.c (.a Nq Nr)))] .f [[1100]] rfl)]
theorem st_van {C C₁ C₂:TC} {sz N j:Nat} {v:Value} (S:Rsz sz N (vlook C (sz+j)) (outA C sz j) C₁) (h:(C.arr.drop sz)[j]?=some v) (hv:v≠.none) (I:Lay C₁ C₂ (.i ((sz:Int)+(j:Int)+1)) v):Rsz sz N (vlook C (sz+(j+1))) (outA C sz (j+1)) C₂:=by
 refine (S.step hv I).congr (vlook_succ h) ?_
 have e:isL v=true:=by unfold isL; exact decide_eq_true hv
 rw [outA_succ h,if_pos e]
 split <;> (first | exact Nat.le_succ _ | exact Nat.le_refl _)
theorem st_van0 {C C₁:TC} {sz N j:Nat} {v:Value} (S:Rsz sz N (vlook C (sz+j)) (outA C sz j) C₁) (h:(C.arr.drop sz)[j]?=some v) (hv:v=.none):Rsz sz N (vlook C (sz+(j+1))) (outA C sz (j+1)) C₁:=by
 refine S.congr (fun k=>?_) (by rw [outA_succ h]; exact Nat.le_add_right _ _)
 rw [← vlook_succ h]
 split
 ·next e=>rw [e,vlook_none,hv]
 ·rfl
theorem van_case {C C₁:TC} {sz N j:Nat} {v:Value} (S:Rsz sz N (vlook C (sz+j)) (outA C sz j) C₁) (h:(C.arr.drop sz)[j]?=some v) (hv:v≠.none) (hN:(C.arr.drop sz).countP isL≤N) :
  inArr C₁.arr.length (.i ((sz:Int)+(j:Int)+1))=true∨(inArr C₁.arr.length (.i ((sz:Int)+(j:Int)+1))=false∧fidx C₁.nodes (.i ((sz:Int)+(j:Int)+1))=none∧used C₁.nodes < C₁.nodes.length):=by
 refine S.case (.inr ⟨vlook_none,?_⟩)
 have e:=outA_succ h
 rw [if_pos (by simp [isL,hv])] at e
 have:outA C sz (j+1)≤(C.arr.drop sz).countP isL:=(List.take_sublist _ _).countP_le
 exact lq [_,_,_,_] [] [.l Nq Nr,.e Ns (.a (.n 3) Kr),.l Ns Nq] (.t (.n 3) Nr) [[111010]] rfl hN e this
noncomputable def keyIn (sz:Nat) (v:Value):Bool:=match ky v with | some k=>inArr sz k | none=>false
noncomputable def outN (sz:Nat) (n:NodeR):Bool:=isL n.val && !keyIn sz n.key
noncomputable def dget (ns:List NodeR) (d:Nat) (k:Ky):Value:=match fidx ns k with
 | some j=>if d≤j then (ns[j]?).elim .none (·.val) else .none
 | none=>.none
noncomputable def nlook (C:TC) (d:Nat) (k:Ky):Value:=if inArr C.arr.length k=true then look C k else dget C.nodes d k
theorem nlook_start {C:TC} {q:Nat} (hq:C.arr.length≤q) (k:Ky):vlook C q k=nlook C C.nodes.length k:=by
 have hd:dget C.nodes C.nodes.length k=.none:=by
  unfold dget
  split
  ·next j e =>
   obtain ⟨n,hn,_⟩:=fidx_some e
   have:=(List.getElem?_eq_some_iff.mp hn).1
   rw [if_neg (by exact Nat.not_le.2 this)]
  ·rfl
 unfold nlook
 rw [hd]
 cases k with
 | b l=>simp [inArr,vlook]
 | i n =>
  by_cases h:1≤n∧n≤(C.arr.length:Int)
  ·simp only [inArr,decide_eq_true h,if_true,look,vlook,if_pos h]
   rw [if_pos (by exact lq [_,_] [_] [.l Nq Nr,.an (.le Kr Zq) (.le Zq Nq)] (.an (.le Kr Zq) (.le Zq Nr)) [[10100,11010]] rfl hq h)]
  ·simp only [inArr,decide_eq_false h,Bool.false_eq_true,if_false,vlook]
   split
   ·rw [List.getElem?_eq_none (by omega)]; rfl
   ·rfl
theorem nlook_end (C:TC) (k:Ky):nlook C 0 k=look C k:=by
 unfold nlook
 rw [look_eq]
 split
 ·rfl
 ·unfold dget nodeGet
  cases fidx C.nodes k <;> simp
theorem dget_eq {ns:List NodeR} {d:Nat} {n:NodeR} {k:Ky} (W:WFn ns) (hn:ns[d]?=some n) (hk:ky n.key=some k) (k':Ky):dget ns d k'=if k'=k then n.val else dget ns (d+1) k':=by
 by_cases e:k'=k
 ·subst e
  rw [if_pos rfl]
  unfold dget
  rw [fidx_of W hn hk]
  simp [hn]
 ·rw [if_neg e]
  unfold dget
  cases h:fidx ns k' with
  | none=>rfl
  | some j =>
   obtain ⟨m,hm,hmk⟩:=fidx_some h
   have hne:j≠d:=by
    intro z; subst z
    rw [hn] at hm; cases hm
    rw [hk] at hmk; cases hmk; exact e rfl
   by_cases h2:d≤j
   ·simp only [if_pos h2,if_pos (show d+1≤j by exact Nat.lt_of_le_of_ne h2 (Ne.symm hne))]
   ·simp only [if_neg h2,if_neg (show ¬ d+1≤j by exact lq [_,_] [] [.gl Nq Nr] (.gl (.a Nq Kr) Nr) [] rfl h2)]
theorem dget_dead {ns:List NodeR} {d:Nat} {n:NodeR} (hn:ns[d]?=some n) (hv:n.val=.none) (k':Ky):dget ns d k'=dget ns (d+1) k':=by
 unfold dget
 cases h:fidx ns k' with
 | none=>rfl
 | some j =>
  by_cases e:j=d
  ·subst e
   simp [hn,hv]
  ·by_cases h2:d≤j
   ·simp only [if_pos h2,if_pos (show d+1≤j by exact Nat.lt_of_le_of_ne h2 (Ne.symm e))]
   ·simp only [if_neg h2,if_neg (show ¬ d+1≤j by exact lq [_,_] [] [.gl Nq Nr] (.gl (.a Nq Kr) Nr) [] rfl h2)]
noncomputable def outD (C:TC) (sz d:Nat):Nat:=(C.arr.drop sz).countP isL+(C.nodes.drop d).countP (outN sz)
theorem outD_succ {C:TC} {sz d:Nat} {n:NodeR} (h:C.nodes[d]?=some n):outD C sz d=outD C sz (d+1)+(if outN sz n=true then 1 else 0):=by
 obtain ⟨hl,he⟩:=List.getElem?_eq_some_iff.mp h
 unfold outD
 rw [List.drop_eq_getElem_cons hl,he,List.countP_cons]
 exact (Nat.add_assoc _ _ _).symm
theorem ky_notin {C:TC} (W:WF C) {d:Nat} {n:NodeR} {k:Ky} (h:C.nodes[d]?=some n) (hk:ky n.key=some k):inArr C.arr.length k=false:=by
 cases k with
 | b l=>rfl
 | i x =>
  cases hkk:n.key <;> rw [hkk] at hk <;> cases hk
  simpa [inArr] using W.out d n _ _ h hkk
theorem nod_case {C C₁:TC} {sz N d:Nat} {n:NodeR} {k:Ky} (W:WF C) (S:Rsz sz N (nlook C (d+1)) (outD C sz (d+1)) C₁) (h:C.nodes[d]?=some n) (hk:ky n.key=some k) (hv:n.val≠.none) (hN:outD C sz 0≤N) :
  inArr C₁.arr.length k=true∨(inArr C₁.arr.length k=false∧fidx C₁.nodes k=none∧used C₁.nodes < C₁.nodes.length):=by
 by_cases hi:inArr sz k=true
 ·exact S.case (.inl hi)
 ·refine S.case (.inr ⟨?_,?_⟩)
  ·unfold nlook
   rw [ky_notin W h hk,if_neg (by decide)]
   unfold dget
   rw [fidx_of W.n h hk]
   exact if_neg (by exact Nat.lt_irrefl _)
  ·have e:=outD_succ (sz:=sz) h
   rw [if_pos (by simp [outN,keyIn,isL,hv,hk,hi])] at e
   have:outD C sz d≤outD C sz 0:=by
    unfold outD
    exact Nat.add_le_add_left ((List.drop_sublist _ _).countP_le) _
   exact lq [_,_,_,_] [] [.l Nq Nr,.e Ns (.a (.n 3) Kr),.l Ns Nq] (.t (.n 3) Nr) [[111010]] rfl hN e this
theorem st_nod {C C₁ C₂:TC} {sz N d:Nat} {n:NodeR} {k:Ky} (W:WF C) (S:Rsz sz N (nlook C (d+1)) (outD C sz (d+1)) C₁) (h:C.nodes[d]?=some n) (hk:ky n.key=some k) (hv:n.val≠.none) (I:Lay C₁ C₂ k n.val):Rsz sz N (nlook C d) (outD C sz d) C₂:=by
 refine (S.step hv I).congr (fun k'=>?_) ?_
 ·unfold nlook
  rw [dget_eq W.n h hk k']
  by_cases e:k'=k
  ·subst e
   rw [if_pos rfl,ky_notin W h hk,if_neg (by decide),if_pos rfl]
  ·rw [if_neg e,if_neg e]
 ·rw [outD_succ h]
  simp only [outN,keyIn,isL,hv,hk]
  by_cases hi:inArr sz k=true <;> simp [hi,hv]
theorem st_nod0 {C C₁:TC} {sz N d:Nat} {n:NodeR} (S:Rsz sz N (nlook C (d+1)) (outD C sz (d+1)) C₁) (h:C.nodes[d]?=some n) (hv:n.val=.none):Rsz sz N (nlook C d) (outD C sz d) C₁:=by
 refine S.congr (fun k=>?_) (by rw [outD_succ h]; exact Nat.le_add_right _ _)
 unfold nlook
 rw [dget_dead h hv]
theorem pick_from {l:List Value} {x:Int} (h:0≤x):kms_pick l (some x) none=l.drop x.toNat:=by
 unfold kms_pick kms_lo kms_hi
 dsimp only
 rw [if_neg (by exact Int.not_lt.2 h),kmk_drop_min,List.take_of_length_le (by rw [List.length_drop]; omega)]
theorem pick_upto {l:List Value} {x:Int} (h:0≤x):kms_pick l none (some x)=l.take x.toNat:=by
 unfold kms_pick kms_lo kms_hi
 dsimp only
 rw [if_neg (by exact Int.not_lt.2 h),List.drop_zero,Nat.sub_zero,kmk_take_min]
theorem tl_app {P:Params} {A:TA} {C:TC} {R:Led}:∀ X:Led,(TL P A C (X++R)).Perm (X++TL P A C R)
 | []=>.refl _
 | x::X=>tl_cons.symm.trans (.cons _ (tl_app X))
section
variable {prog:Program} {w:World} {A:Around} {E:Value→Shared→Prop} {s:Shared} {env:Env} {h₀:Heap} {body:List Stmt} {Q:Flow→Shared→Prop}
set_option maxHeartbeats 400000 in
theorem for_rev {L:Addr} {l:Addr} {vs:List Value} {n:Nat} {x:Str} {px:Pos} {m₀:Names} {news:Led} (J:Nat→Names→Led→Prop) (hh:A.handled=none) (F:Fr h₀ L s.heap m₀) (N:News h₀ L s.heap news) (D:Apart news)
  (hm:(l,listOf vs.toArray n)∈news) (hj:J 0 m₀ news)
  (turn:∀ I (i:Nat) v m₁ led₁ h tk o,i < vs.length→vs[vs.length - 1 - i]?=some v→J i m₁ led₁→Fr h₀ L h m₁→News h₀ L h ((I,o)::led₁)→Apart ((I,o)::led₁) →
   wpAny (model prog w) A (assign (.Name x px) env v) (fun z9 s₂=>wpAny (model prog w) A (execs body env) (ForPost h₀ L [(I,o)] [(l,listOf vs.toArray n)] (J (i+1)) { s with heap:=h,toks:=tk } Q) E s₂) E { s with heap:=h,toks:=tk })
  (done:∀ m₁ led₁ h tk,J vs.length m₁ led₁→Fr h₀ L h m₁→News h₀ L h led₁→Apart led₁→Q .next { s with heap:=h,toks:=tk }) (hL:env.locals=L) :
  wpAny (model prog w) A (call (.type "reversed") [.ref l]) (fun xv s₁=>wpAny (model prog w) A (pyIter xv) (fun it s₂=>TurnsAt prog w A h₀ env (.Name x px) body Q E it s₂) E s₁) E s:=by
 subst hL
 have hax:=N _ hm
 have hl:s.heap.IsList l vs.toArray:=⟨_,hax.1,rfl,n,rfl⟩
 refine call_reversed_list hl ?_
 have hlt:l < s.heap.objs.size:=Heap.lt_size hax.1
 have hne:l≠s.heap.objs.size:=Nat.ne_of_lt hlt
 have e1:(vs.toArray.size:Int) - 1=((vs.toArray.size:Int) - 1 - ((0:Nat):Int)):=by exact lq [_] [] [] (.eq (.s Nq Kr) (.s (.s Nq Kr) (.c Kq))) [] rfl
 refine wpAny_pyIter_revIter (l:=l) (i:=(vs.toArray.size:Int) - 1) ⟨_,Heap.get?_push_size _ rfl,rfl,rfl⟩ ?_
 refine ktu_core (s:=s) (tk0:=s.toks) (keep:=[(l,listOf vs.toArray n)]) (ws:=[(s.heap.objs.size,"list_reverseiterator")]) (xs:=vs.reverse.map .val) (KTurns.ofWalks (Walks.listRev hh s.heap.objs.size l hne vs.toArray).bound fun i v s Q E st q=>?_) (by simp) (fun i v h hp=>?_) (fun i h st=>?_) (fun b hb=>?_) (fun b hb=>by simpa using hb) (fun b hb=>?_) ?_ (fun p hp hI=>?_) ?_ (F.push _) (fun p hp=>⟨Heap.get?_push_of_some _ (N p hp).1,(N p hp).2⟩) (And.intro hm trivial) ?_
 ·unfold letOwnedTupleGo
  exact wpAny_pure q
 ·obtain ⟨hi,hv⟩:=hp
  have hv':vs[vs.length - 1 - i]?=some v:=by simpa using hv
  have hi':i < vs.length:=by simpa using hi
  exact ⟨.val v,by rw [List.getElem?_map,List.getElem?_reverse hi',hv']; rfl,rfl⟩
 ·obtain ⟨it,hit,hic,_⟩:=st.2.1
  exact ⟨[(s.heap.objs.size,it)],⟨⟨rfl,hic⟩,trivial⟩,fun p hp=>by rw [List.mem_singleton.mp hp]; exact hit⟩
 ·have hb':b=s.heap.objs.size:=by simpa using hb
  rw [hb']
  exact ⟨List.mem_cons_self ..,next_is_new F⟩
 ·have hb':b=s.heap.objs.size∨b=l:=by simpa using hb
  rcases hb' with e | e
  ·exact .inl (by simp [e])
  ·exact .inr ⟨_,by simp [e]; rfl⟩
 ·intro hI
  rcases List.mem_cons.mp hI with e | hI
  ·exact absurd F.ns.lt (e▸Nat.lt_irrefl _)
  ·exact hax.2.1 (List.mem_singleton.mp hI).symm
 ·exact absurd (Heap.lt_size (N p hp).1) ((List.mem_singleton.mp hI)▸Nat.lt_irrefl _)
 ·refine ⟨Nat.zero_le _,?_,hl.at fun o e=>Heap.get?_push_of_some _ e⟩
  rw [← e1]
  exact ⟨_,Heap.get?_push_size _ rfl,rfl,rfl⟩
 ·refine items_led (xs:=vs.reverse.map .val) (s:=s) J ?_ (fun m₁ led₁ h tk hJ=>done m₁ led₁ h tk (by simpa using hJ)) vs.length 0 m₀ news (by simp) hj ?_
  ·intro i a m₁ led₁ v h tk its ha hav hJ hits F₁ N₁ D₁
   rw [List.getElem?_map] at ha
   cases hv:vs.reverse[i]? with
   | none=>rw [hv] at ha; cases ha
   | some u =>
    have hi:=(List.getElem?_eq_some_iff.mp hv).1
    rw [List.length_reverse] at hi
    have hv':=hv
    rw [List.getElem?_reverse hi] at hv'
    rw [hv] at ha
    cases ha
    have e:v=u:=hav
    subst e
    obtain ⟨o,rfl⟩:=its_one hits
    exact turn _ i v m₁ led₁ h tk o hi hv' hJ F₁ N₁ D₁
  ·show (s.heap.objs.size::news.map (·.1)).Nodup
   exact List.nodup_cons.mpr ⟨fun hm=>by obtain ⟨q,hq,e⟩:=List.mem_map.mp hm; exact absurd (Heap.lt_size (N q hq).1) (by rw [e]; exact Nat.lt_irrefl _),D⟩
end
section
variable {prog:Program} {w:World} {Ar:Around} {E:Value→Shared→Prop} {s:Shared} {h₀:Heap} {L:Addr} {m:Names} {A:TA} {C:TC} {R:Led} {v:Value} {Q:Value→Shared→Prop}
theorem sl_cut {value slice:PySem.Expr} {l:Addr} {vs:List Value} {n:Nat} {news:Led} {vl vu:Value} {lo hi:Option Int} {h:Heap} {g:Array GenState} {d:Drawn} {tk:Nat} {o:OsState} (F:Fr h₀ L h m) (N:News h₀ L h news) (D:Apart news) (hm:(l,listOf vs.toArray n)∈news) (pl:IsPart vl lo) (pu:IsPart vu hi) (hz:vs.length < 1000)
  (hs:subscripted slice false (.ref l) (.ref h.objs.size)=operate [.ref h.objs.size,.ref l] (getItem (.ref l) (.ref h.objs.size)))
  (k:∀ D' h',Fr h₀ L h' m→News h₀ L h' ((D',listOf (kms_pick vs lo hi).toArray 0)::news)→Apart ((D',listOf (kms_pick vs lo hi).toArray 0)::news)→Q (.ref D') ⟨h',g,d,tk,o⟩) :
  wpAny (model prog w) Ar (subscriptTail value slice (.ref l) (.ref h.objs.size)) Q E ⟨h.push { cls:=.type "slice",data:=.fields #[vl,vu,.none] },g,d,tk,o⟩ :=
 kba_turn (value':=PySem.Expr.Name (PySem.Str.ofString "x") ⟨0,0,0,0⟩) (fun z9=>rfl) <| kms_slice_lit (s:=⟨h,g,d,tk,o⟩) (its:=vs.toArray) F N (PySem.IsL.isList (n:=n) (N _ hm).1) pl pu rfl (fun D' h' F' N' l1=>k D' h' F' N' (D.cons l1)) hs (fun z9=>rfl) (by rw [List.size_toArray]; exact Nat.le_trans (Nat.le_of_lt hz) (by decide:1000≤sizeLine))
theorem app_arr {l:Addr} (F:Fr h₀ L s.heap m) (N:News h₀ L s.heap (TL w.params A C R)) (D:Apart (TL w.params A C R)) (el:C.la=l) (hsz:C.arr.length < 1000)
  (h:∀ h',Fr h₀ L h' m→News h₀ L h' (TL w.params A { C with arr:=C.arr++[v],ea:=C.ea+1 } R)→Apart (TL w.params A { C with arr:=C.arr++[v],ea:=C.ea+1 } R)→Q .none { s with heap:=h' }) :
  wpAny (model prog w) Ar (call (.builtin "list.append") [.ref l,v]) Q E s:=by
 subst el
 have ep:C.arr.toArray.push v=(C.arr++[v]).toArray:=by simp
 have U:=Apart.upd (pre:=[(A.t,instObj 526 A.dt),(A.dt,dictOf (tabEnts w.params A C) 10)]) (d:=C.la) (o:=listOf C.arr.toArray C.ea) (o':=listOf (C.arr.toArray.push v) (C.ea+1)) (post:=(C.ln,listOf (refsOf C.na C.nodes.length).toArray C.en)::(nodesFrom w.params C.na 0 C.nodes++R)) D
 refine append_K F N U.1 (fun h' F' N'=>?_) (by rw [List.size_toArray]; exact Nat.le_trans (Nat.le_of_lt hsz) (by decide))
 rw [ep] at N' U
 exact h h' F' N' U.2
end
section
variable {σ:St} {pos:Pos}
theorem HE.cut {o:PySem.Expr} {lo hi:Option PySem.Expr} {sp:Pos} {l:Addr} {vs:List Value} {n:Nat} {a b:Option Int} (ho:Ev σ o (.v (.ref l))) (hm:(l,listOf vs.toArray n)∈σ.led) (hz:vs.length < 1000)
  (h1:match lo,a with | none,none=>True | some e,some i=>Ev σ e (.i i) | _,_=>False) (h2:match hi,b with | none,none=>True | some e,some i=>Ev σ e (.i i) | _,_=>False) :
  HE σ (.Subscript o (.Slice lo hi none sp) pos) fun v l=>∃ D,v=.ref D∧l=(D,listOf (kms_pick vs a b).toArray 0)::σ.led:=by
 intro Ar g L s T R
 have part:∀ {e:Option PySem.Expr} {i:Option Int} {s:Shared} {Q:Value→Shared→Prop},(match e,i with | none,none=>True | some e,some i=>Ev σ e (.i i) | _,_=>False)→RS σ g L s.heap→(∀ v h' tk',IsPart v i→RS σ g L h'→Q v { s with heap:=h',toks:=tk' })→wpAny (Md σ.c) Ar (evalPart e (σ.c.sh.env L)) Q (fun z9 z9=>False) s:=by
  intro e i s Q h R k
  match e,i,h with
  | none,none,_=>exact evalPart_none_step (k _ s.heap s.toks .none R)
  | some e,some i,h=>exact evalPart_some_step (h.use T R fun v h' tk' ⟨t,ev⟩ R'=>ev▸k _ h' tk' (.int i t) R')
 refine Subscript_ (ho.use T R fun z9 z9 z9 ev R1=>?_)
 cases ev
 refine wpAny_Slice (part h1 R1 fun v1 h1' tk1 p1 R2=>part h2 R2 fun v2 h2' tk2 p2 R3=>evalPart_none_step ?_)
 obtain ⟨nm,F,H⟩:=R3.F
 exact sl_cut F R3.N R3.D hm p1 p2 hz rfl fun D' h' F' N' A'=>⟨h',tk2,σ.m,(D',listOf (kms_pick vs a b).toArray 0)::σ.led,rfl,⟨⟨nm,F',H⟩,N',A'⟩,rfl,D',rfl,rfl⟩
theorem meth_any {o:PySem.Expr} {ap:Pos} {name:Str} {args:List PySem.Expr} {env:Env} (hc:noCall o=true) (hp:((backTo pos (starEach args env)).any (·.1))=false) (hf:fewOk args ap pos=true) :
  eval (.Call (.Attribute o name ap) args [] pos) env=(do
   let ov ← eval o env
   standAt ap.atName
   let (f,first) ← holding [ov] (getMethod ov name (do return (← importBound o env).getD true))
   callWith pos f first (backTo pos (starEach args env)) []):=by
 unfold fewOk at hf
 rw [Bool.and_eq_true] at hf
 have h1:=of_decide_eq_true hf.1
 have few:=few_of hp h1
 have e:eval (.Call (.Attribute o name ap) args [] pos) env=(do
  let ov ← eval o env
  standAt ap.atName
  methodCall o name ap pos env ov (args.length+([]:List Keyword).length) (backTo pos (starEach args env)) (backToKw pos (keywordEach [] env))):=by
  cases o <;> first | rfl | cases hc
 rw [e]
 unfold methodCall
 rw [few]
 unfold calleeOf methodCallPos
 rw [hf.2]
 rfl
@[reducible] noncomputable def TC.pushArr (C:TC) (v:Value):TC:={ C with arr:=C.arr++[v],ea:=C.ea+1 }
theorem HE.t_append {A:TA} {C:TC} {R:Led} {o e:PySem.Expr} {ap:Pos} {v:Value} (hl:σ.led=TL σ.c.w.params A C R) (hc:noCall o=true) (hs:isStar e=false) (hf:fewOk [e] ap pos=true) (ho:Ev σ o (.v (.ref C.la))) (he:Ev σ e (.v v)) (hz:C.arr.length < 1000) :
  HE σ (.Call (.Attribute o (Str.ofString "append") ap) [e] [] pos) fun r l=>(Vl.v .none).is r∧l=TL σ.c.w.params A (C.pushArr v) R:=by
 intro Ar g L s T R0
 refine MethodCall_ (ho.use T R0 fun z9 z9 z9 ev R1=>?_) (meth_any hc (Evs.cons hs he .nil).plain hf)
 cases ev
 have N1:=R1.N
 rw [hl] at N1
 refine listMethod_K N1 mem_la PySem.F.slot_list_append PySem.F.type_list_append (callWith_method1 (args_cons (he.use T R1 fun z9 z9 z9 ev R2=>args_nil ?_) (star_of hs)) (star_of hs) rfl)
 cases ev
 obtain ⟨nm,F,H⟩:=R2.F
 have N2:=R2.N
 have D2:=R2.D
 rw [hl] at N2 D2
 exact app_arr F N2 D2 rfl hz fun h' F' N' D'=>⟨h',_,σ.m,TL σ.c.w.params A (C.pushArr v) R,rfl,⟨⟨nm,F',H⟩,N',D'⟩,rfl,rfl,rfl⟩
end
section
variable {c:Cn} {m:NM} {l:Led} {ss body:List Stmt} {K:List (List Stmt)} {Q:Flow→NM→Led→Prop}
theorem HS.forRev {X:Type} {x:Str} {xp cp pos:Pos} {f e:PySem.Expr} {a:Addr} {vs:List Value} {n:Nat} (i:Nat) (hx:slot c.sh.sc.names i=some (x,.local)) (hn:noAtt f=true) (hs:isStar e=false) (hf:Ev ⟨c,m,l⟩ f (.v (.type "reversed"))) (he:Ev ⟨c,m,l⟩ e (.v (.ref a)))
  (hfold:∀ L x,foldedSetIterable (.Call f [e] [] cp) (c.sh.env L) x=pure x) (J:Nat→X→Prop) (U:X→NM→NM) (ls:X→Led) (x₀:X) (h0:J 0 x₀) (hm:NM.Sub (U x₀ m) m) (hl:ls x₀=l) (hmem:∀ x,(a,listOf vs.toArray n)∈ls x)
  (step:∀ I o k v x,k < vs.length→vs[vs.length - 1 - k]?=some v→J k x→∀ Q':Flow→NM→Led→Prop,FNext (J (k+1)) (fun y=>U y m) ls [(I,o)] Q'→(∀ m' l',HS c (ss::K) m' l' Q→Q' .brk m' l')→(∀ v m' l',Q (.ret v) m' l'→Q' (.ret v) m' l')→HS c [body] ((U x m).set i (.v v)) ((I,o)::ls x) Q')
  (done:∀ x,J vs.length x→HS c (ss::K) (U x m) (ls x) Q):HS c ((.For (.Name x xp) (.Call f [e] [] cp) body [] pos::ss)::K) m l Q:=by
 refine HS.step fun Ar g L s T R=>?_
 subst hl
 obtain ⟨nm,F,H⟩:=R.F
 refine For_turns F (Call_ (hf.use T R fun v h' tk' hv R'=>?_) (callee_of hn)) (hfold L) PassesOwn.never
 cases hv
 refine Pv.callWith_type1 (args_cons (he.use T R' fun v z9 z9 hv R2=>args_nil ?_) (star_of hs)) (star_of hs) rfl
 cases hv
 obtain ⟨nm2,F2,H2⟩:=R2.F
 refine for_rev (hL:=rfl) (fun k nm led=>∃ y,J k y∧NMok c.sh.sc (U y m) nm∧ls y=led) T.C.n F2 R2.N R2.D (hmem _) ⟨x₀,h0,H2.sub hm,rfl⟩ ?_ ?_
 ·rintro I k v m₁ led₁ h tk o hk hv ⟨y,hy,H₁,rfl⟩ F₁ N₁ D₁
  refine assign_Name (store_slot (m:=U y m) (V:=.v v) hx rfl T ⟨⟨_,F₁,H₁⟩,N₁,D₁⟩ fun h₂ tk₂ R₂=>?_)
  exact for_turn (s₀:={ s with heap:=h,toks:=tk }) (fun y p hp=>by cases hp with | head=>exact hmem y | tail _ h=>cases h) (step I o k v y hk hv hy (FQ c ss K Q (J (k+1)) (fun y=>U y m) ls [(I,o)]) (fun y m' l' a b d=>⟨y,a,b,d⟩) (fun z9 z9 h=>h) (fun z9 z9 z9 h=>h)) T R₂ ⟨_,_,rfl⟩
 ·rintro m₁ led₁ h tk ⟨y,hy,H₁,rfl⟩ F₁ N₁ D₁
  exact ⟨h,tk,_,_,rfl,⟨⟨_,F₁,H₁⟩,N₁,D₁⟩,done y hy⟩
theorem HS.forEnum {X:Type} {x1 x2:Str} {p1 p2 tp cp pos:Pos} {kt:Nat} {f e:PySem.Expr} {a:Addr} {vs:List Value} {n:Nat} (i1 i2:Nat) (hx1:slot c.sh.sc.names i1=some (x1,.local)) (hx2:slot c.sh.sc.names i2=some (x2,.local)) (hn:noAtt f=true) (hs:isStar e=false) (hf:Ev ⟨c,m,l⟩ f (.v (.type "enumerate"))) (he:Ev ⟨c,m,l⟩ e (.v (.ref a)))
  (hfold:∀ L x,foldedSetIterable (.Call f [e] [] cp) (c.sh.env L) x=pure x) (J:Nat→X→Prop) (U:X→NM→NM) (ls:X→Led) (x₀:X) (h0:J 0 x₀) (hm:NM.Sub (U x₀ m) m) (hl:ls x₀=l) (hmem:∀ x,(a,listOf vs.toArray n)∈ls x)
  (step:∀ I I' o o' k v x,vs[k]?=some v→J k x→∀ Q':Flow→NM→Led→Prop,FNext (J (k+1)) (fun y=>U y m) ls [(I,o),(I',o')] Q'→(∀ m' l',HS c (ss::K) m' l' Q→Q' .brk m' l')→(∀ v m' l',Q (.ret v) m' l'→Q' (.ret v) m' l')→HS c [body] (((U x m).set i1 (.i (k:Int))).set i2 (.v v)) ((I,o)::(I',o')::ls x) Q')
  (done:∀ x,J vs.length x→HS c (ss::K) (U x m) (ls x) Q):HS c ((.For (.Tuple [.Name x1 p1,.Name x2 p2] kt tp) (.Call f [e] [] cp) body [] pos::ss)::K) m l Q:=by
 refine HS.step fun Ar g L s T R=>?_
 subst hl
 obtain ⟨nm,F,H⟩:=R.F
 refine For_turns F (Call_ (hf.use T R fun v h' tk' hv R'=>?_) (callee_of hn)) (hfold L) PassesOwn.never
 cases hv
 refine Pv.callWith_type1 (args_cons (he.use T R' fun v z9 z9 hv R2=>args_nil ?_) (star_of hs)) (star_of hs) rfl
 cases hv
 obtain ⟨nm2,F2,H2⟩:=R2.F
 refine for_enum (hL:=rfl) (fun k nm led=>∃ y,J k y∧NMok c.sh.sc (U y m) nm∧ls y=led) T.C.n F2 R2.N R2.D (hmem _) ⟨x₀,h0,H2.sub hm,rfl⟩ ?_ ?_
 ·rintro I I' k v Tu t m₁ led₁ h tk o o' hv hT ⟨y,hy,H₁,rfl⟩ F₁ N₁ D₁
  refine unpackN_ F₁ N₁ hT T.C.n rfl rfl fun h₂ F₂ N₂=>?_
  refine assignInOrder_cons (assign_Name (store_slot (m:=U y m) (V:=.i (k:Int)) hx1 ⟨t,rfl⟩ T ⟨⟨_,F₂,H₁⟩,N₂,D₁⟩ fun h₃ tk₃ R₃=>?_))
  refine assignInOrder_cons (assign_Name (store_slot (m:=(U y m).set i1 (.i (k:Int))) (V:=.v v) hx2 rfl T R₃ fun h₄ tk₄ R₄=>assignInOrder_nil ?_))
  exact for_turn (s₀:={ s with heap:=h,toks:=tk }) (fun y p hp=>by cases hp with | head=>exact hmem y | tail _ h=>cases h) (step I I' o o' k v y hv hy (FQ c ss K Q (J (k+1)) (fun y=>U y m) ls [(I,o),(I',o')]) (fun y m' l' a b d=>⟨y,a,b,d⟩) (fun z9 z9 h=>h) (fun z9 z9 z9 h=>h)) T R₄ ⟨_,_,rfl⟩
 ·rintro m₁ led₁ h tk ⟨y,hy,H₁,rfl⟩ F₁ N₁ D₁
  exact ⟨h,tk,_,_,rfl,⟨⟨_,F₁,H₁⟩,N₁,D₁⟩,done y hy⟩
end
section
variable {σ:St} {pos:Pos}
theorem Ev.m_val {x:Addr} {P:Params} {na:NA} {i:Nat} {n:NodeR} {o:PySem.Expr} (hi:InsAt σ.led x 295 (nodeEnts P na i n)) (hc:noCall o=true) (hh:handedIn n.val=true) (ho:Ev σ o (.v (.ref x))):Ev σ (.Attribute o (Str.ofString "value") pos) (.v n.val) :=
 .attr hc ho hi (ao (by k_is) (by k_is) (by k_is) (by k_is)) (by kernel_rfl) hh
theorem Ev.m_key {x:Addr} {P:Params} {na:NA} {i:Nat} {n:NodeR} {o:PySem.Expr} (hi:InsAt σ.led x 295 (nodeEnts P na i n)) (hc:noCall o=true) (hh:handedIn n.key=true) (ho:Ev σ o (.v (.ref x))):Ev σ (.Attribute o (Str.ofString "key") pos) (.v n.key) :=
 .attr hc ho hi (ao (by k_is) (by k_is) (by k_is) (by k_is)) (by kernel_rfl) hh
end
section
theorem spec_make_nodes0 (A:TA) (C:TC) (R:Led) (t:Tok) :
  Spec w mean mg mb (.ref 460) [.ref A.t,.int 0 t] 20 (TL w.params A C R) (fun r l=>r=.none∧∃ C' R',l=TL w.params A C' (R'++((C.ln,listOf (refsOf C.na C.nodes.length).toArray C.en)::(nodesFrom w.params C.na 0 C.nodes++R)))∧C'.arr=C.arr∧C'.nodes=[]∧C'.fr=0):=by
 refine Spec.enterA (by k_is) (by k_is) (fun s X=>(BindsTo.of_eq rfl)) rfl (by kernel_rfl) (by kernel_rfl) rfl rfl rfl (by decide) ?_
 refine HS.setH HE.list0 (fun z9=>by (exact (Ev.name 0 sl0 rfl))) ?_
 rintro _ _ ⟨a,rfl,rfl⟩
 refine ⟨_,SA.nodes (ns':=[]) (na':=C.na) (.refl _),?_⟩
 have hz:([]:List NodeR).length < 1000:=by decide
 refine HS.setI rfl Ev.int (Ev.name 0 sl0 rfl) (fun z9=>SA.log) (fun z9=>(HS.ite (EvT.cmp (Ev.nameI 1 sl1 rfl) Ev.int ICmp.gt rfl) (fun z9=>(False.elim (by contradiction))) (fun z9=>(HS.nil (HS.setI rfl (Ev.lenN rfl rfl (Ev.blt 6 sl6 (by k_is) (by boot_by_name) (by kernel_rfl)) rfl (Ev.t_nodes rfl rfl (Ev.name 0 sl0 rfl)) hz) (Ev.name 0 sl0 rfl) (fun z9=>SA.free) (fun z9=>(HS.nil (HS.done ?_))))))))
 exact ⟨rfl,_,[],rfl,rfl,rfl,rfl⟩
theorem spec_weigh (A:TA) (C:TC) (R:Led) (ha:C.arr.length < 1000) (hn:C.nodes.length < 1000) :
  Spec w mean mg mb (.ref 474) [.ref A.t,.none] 2 (TL w.params A C R) (fun r l=>r=.none∧∃ v,l=TL w.params A (C.setSize v) R):=by
 refine Spec.enterA (by k_is) (by k_is) (fun s X=>(BindsTo.of_eq rfl)) rfl (by kernel_rfl) (by kernel_rfl) rfl rfl rfl (by decide) ?_
 refine HS.ite (Ev.isNot (Ev.name 1 sl1 rfl)) (fun z9=>(False.elim (by contradiction))) (fun z9=>(HS.setI rfl (Ev.bin (Ev.bin (Ev.toI (Ev.glob 2 sl2 (by k_is))) (Ev.bin (Ev.toI (Ev.glob 3 sl3 (by k_is))) (Ev.lenA rfl rfl (Ev.blt 4 sl4 (by k_is) (by boot_by_name) (by kernel_rfl)) rfl (Ev.t_array rfl rfl (Ev.name 0 sl0 rfl)) ha) (IOp.mulL (by decide))) IOp.add) (Ev.bin (Ev.toI (Ev.glob 5 sl5 (by k_is))) (Ev.lenN rfl rfl (Ev.blt 4 sl4 (by k_is) (by boot_by_name) (by kernel_rfl)) rfl (Ev.t_nodes rfl rfl (Ev.name 0 sl0 rfl)) hn) (IOp.mulL (by decide))) IOp.add) (Ev.name 0 sl0 rfl) (fun z9=>SA.size) (fun z9=>(HS.nil (HS.nil (HS.done ?_))))))
 exact ⟨rfl,_,rfl⟩
theorem vcut_of {C:TC} {sz j:Nat} {ar:List Value} (e:ar=C.arr.take sz++List.replicate j .none) (h:ar.length=sz):ar=vcut C sz:=by
 subst e
 unfold vcut
 rw [List.length_append,List.length_take,List.length_replicate] at h
 congr 2
 omega
theorem Rsz.sized {sz N u:Nat} {f:Ky→Value} {C:TC} {v:Value} (S:Rsz sz N f u C):Rsz sz N f u (C.setSize v) :=
 ⟨⟨S.wf.n,S.wf.arr,S.wf.out,S.wf.fr0,S.wf.fr1,S.wf.free,S.wf.la,S.wf.ln⟩,S.al,S.nl,S.lk,S.us,S.ks⟩
theorem outA_all (C:TC) (sz:Nat):outA C sz (C.arr.drop sz).length≤outD C sz C.nodes.length:=by
 unfold outA outD
 rw [List.take_length]
 exact Nat.le_add_right _ _
noncomputable def newN (hs:Nat):Nat:=if hs=0 then 0 else 2 ^ clg (hs:Int)
theorem newN_lt {hs:Nat} (h:hs≤500):newN hs < 1000:=by
 unfold newN
 split
 ·decide
 ·exact Nat.lt_of_le_of_lt (Nat.pow_le_pow_right (by decide) ((clg_le (by exact Int.ofNat_le.2 (Nat.pos_of_ne_zero (by assumption))) 9).mpr (by lia)):2 ^ clg (hs:Int)≤2 ^ 9) (by decide)
theorem spec_make (A:TA) (C:TC) (R:Led) (hs:Nat) (t:Tok) (h:hs≤500) :
  Spec w mean mg mb (.ref 460) [.ref A.t,.int (hs:Int) t] 20 (TL w.params A C R) (fun r l=>r=.none∧∃ C' R',l=TL w.params A C' (R'++((C.ln,listOf (refsOf C.na C.nodes.length).toArray C.en)::(nodesFrom w.params C.na 0 C.nodes++R)))∧C'.arr=C.arr∧C'.nodes.length=newN hs∧(∀ n∈C'.nodes,fresh n)∧C'.fr=C'.nodes.length):=by
 by_cases h0:hs=0
 ·subst h0
  refine (spec_make_nodes0 A C R t).mono (Nat.le_refl _) ?_
  rintro r l ⟨rfl,C',R',rfl,e1,e2,e3⟩
  exact ⟨rfl,C',R',rfl,e1,by rw [e2]; rfl,by rw [e2]; simp,by rw [e2,e3]; rfl⟩
 ·have e:newN hs=2 ^ clg (hs:Int):=if_neg h0
  rw [e]
  exact spec_make_nodes A C R hs t (by exact Int.ofNat_le.2 (Nat.pos_of_ne_zero h0)) (by exact Int.ofNat_le.2 h)
theorem spec_resize (A:TA) (C:TC) (R:Led) (sz hs:Nat) (t1 t2:Tok) (W:WF C) (hsz:sz≤500) (hhs:hs≤500) (hN:outD C sz 0≤newN hs) :
  Spec w mean mg mb (.ref 448) [.ref A.t,.int (sz:Int) t1,.int (hs:Int) t2,.none] 40 (TL w.params A C R) (fun r l=>r=.none∧∃ C',l=TL w.params A C' R∧Rsz sz (newN hs) (look C) (outD C sz 0) C'):=by
 have hla:=W.la
 have hln:=W.ln
 refine Spec.enterA (by k_is) (by k_is) (fun s X=>(PySem.W.binds_K X rfl (by k_is) rfl rfl rfl)) rfl (by kernel_rfl) (by kernel_rfl) rfl rfl rfl (by decide) ?_
 refine HS.assign 4 sl4 rfl (Ev.t_nodes rfl rfl (Ev.name 0 sl0 rfl)) ?_
 refine HS.assignH _ (by (exact sl5)) rfl (HE.cut (a:=some (sz:Int)) (b:=none) (by exact Ev.t_array rfl rfl (Ev.name 0 sl0 rfl)) mem_la hla (by exact Ev.nameI 1 sl1 rfl) trivial) ?_
 rintro _ _ ⟨V,rfl,rfl⟩
 rw [pick_from (Int.natCast_nonneg _),Int.toNat_natCast]
 refine HS.perm tl_cons.symm (HS.setH (HE.cut (a:=none) (b:=some (sz:Int)) (by exact Ev.t_array rfl rfl (Ev.name 0 sl0 rfl)) mem_la hla trivial (by exact Ev.nameI 1 sl1 rfl)) (fun _=>by (exact (Ev.name 0 sl0 rfl))) ?_)
 rintro _ _ ⟨LA,rfl,rfl⟩
 rw [pick_upto (Int.natCast_nonneg _),Int.toNat_natCast]
 refine ⟨_,SA.array (.refl _),?_⟩
 refine HS.whileU (X:=List Value×Nat×Nat) (fun x=>x.1=C.arr.take sz++List.replicate x.2.2 .none∧x.1.length≤sz) (fun _ m=>m) (fun x=>TL w.params A { C with la:=LA,ea:=x.2.1,arr:=x.1 } ((C.la,listOf C.arr.toArray C.ea)::(V,listOf (C.arr.drop sz).toArray 0)::R)) (fun x=>sz - x.1.length) (C.arr.take sz,0,0) ⟨by simp,List.length_take_le _ _⟩ .rfl rfl ?_
 intro x ⟨har,hal⟩ Q' next _ _
 have hal':x.1.length < 1000:=by exact lq [_,_] [] [.l Nq (.k 500),.l Nr Nq] (.t Nr (.k 1000)) [] rfl hsz hal
 refine Tst.mk' (EvT.cmp (Ev.lenA rfl rfl (Ev.blt 9 sl9 (by k_is) (by boot_by_name) (by kernel_rfl)) rfl (Ev.t_array rfl rfl (Ev.name 0 sl0 rfl)) hal') (Ev.nameI 1 sl1 rfl) ICmp.lt rfl) (fun _=>(HS.exprV rfl (HE.t_append rfl rfl rfl rfl (Ev.t_array rfl rfl (Ev.name 0 sl0 rfl)) Ev.none hal') (HS.nil (HS.done ?_)))) (fun _=>(HS.expr rfl (HE.meth (Ev.name 0 sl0 rfl) InsAt.tab ⟨by k_is,by k_is,by k_is,by k_is⟩ rfl rfl (Evs.cons rfl (Ev.name 2 sl2 rfl) Evs.nil) (nb rfl) (spec_make A (Mine.TC.mk LA _ _ _ _ _ _ _ _ _ _ _ _ _ _ _) _ hs t2 hhs)) ?_))
 ·rename_i hb
  have hb:(x.1.length:Int) < sz:=hb
  refine next (x.1++[.none],x.2.1+1,x.2.2+1) _ ⟨by dsimp only; rw [har,List.append_assoc,← List.replicate_succ'],?_⟩ ?_ .rfl
  ·dsimp only; rw [List.length_append,List.length_singleton]; exact Int.ofNat_lt.1 hb
  ·dsimp only; rw [List.length_append,List.length_singleton]; exact lq [_,_,_,_] [] [.lt Nq Nr,.sb 2 Nr (.a Nq Kr),.sb 3 Nr Nq] (.t Ns (.n 3)) [[1100100],[1010100],[1101010],[1011010]] rfl hb rfl rfl
 ·rename_i hb
  have hb:¬ (x.1.length:Int) < sz:=hb
  rintro _ _ ⟨rfl,C₈,R₈,rfl,e1₈,e2₈,e3₈,e4₈⟩
  have hcut:=vcut_of har (by exact lq [_,_] [] [.l Nq Nr,.nt Nq Nr] (.e Nq Nr) [[1010,1100]] rfl hal hb)
  replace e1₈:C₈.arr=vcut C sz:=e1₈.trans hcut
  have S₀:=st_fresh (C:=C) (C':=C₈) W (by exact lq [_,_] [] [.t Nq (.k 1000),.nt Nq Nr] (.t Nr (.k 1000)) [] rfl hal' hb) e1₈ e3₈ e4₈ (by rw [e2₈]; exact newN_lt hhs)
  rw [e2₈] at S₀
  generalize hR₃:R₈++_=R₃
  have hV:(V,listOf (C.arr.drop sz).toArray 0)∈R₃:=by rw [← hR₃]; simp
  have hL:(C.ln,listOf (refsOf C.na C.nodes.length).toArray C.en)∈R₃:=by rw [← hR₃]; simp
  have hNd:∀ (i:Nat) (n:NodeR),C.nodes[i]?=some n→∀ p∈nodeLed w.params C.na i n,p∈R₃:=by
   intro i n hn p hp
   rw [← hR₃]
   dsimp only
   rw [nodesFrom_split hn,Nat.zero_add]
   simp [hp]
  obtain ⟨X,hX⟩:∃ X,R₃=X++R:=⟨R₈++(C.ln,listOf (refsOf C.na C.nodes.length).toArray C.en)::(nodesFrom w.params C.na 0 C.nodes++(C.la,listOf C.arr.toArray C.ea)::[(V,listOf (C.arr.drop sz).toArray 0)]),by rw [← hR₃]; simp⟩
  clear hR₃
  refine HS.forEnum (X:=TC) _ _ (by (exact sl6)) (by (exact sl7)) rfl rfl (by exact Ev.blt 10 sl10 (by k_is) (by boot_by_name) (by kernel_rfl)) (by exact Ev.name 5 sl5 rfl) (fun _ _=>rfl) (fun i C₁=>Rsz sz (newN hs) (vlook C (sz+i)) (outA C sz i) C₁) (fun _ m=>m) (fun C₁=>TL w.params A C₁ R₃) C₈ S₀ .rfl rfl (fun _=>mem_R hV) ?_ ?_
  ·intro I I' o o' i v C₁ hv S₁ Q' next _ _
   have hvV:=W.arr v (List.mem_of_mem_drop (List.mem_of_getElem? hv))
   have hh:=handed_val hvV
   have W₁:=S₁.wf
   refine HS.perm (tl_app [(I,o),(I',o')]) ?_
   refine HS.ite (Ev.isNot (Ev.name 7 sl7 rfl)) (fun _=>?_) (fun _=>(HS.nil (HS.nil (HS.done ?_))))
   ·rename_i hv0
    have hcase:=van_case S₁ hv hv0 (Nat.le_trans (Nat.le_add_right _ _) hN)
    refine HS.expr rfl (HE.meth (Ev.name 0 sl0 rfl) InsAt.tab ⟨by k_is,by k_is,by k_is,by k_is⟩ rfl rfl (Evs.cons rfl (Ev.bin (Ev.bin (Ev.nameI 1 sl1 rfl) (Ev.name 6 sl6 rfl) IOp.add) Ev.int IOp.add) (Evs.cons rfl (Ev.name 7 sl7 rfl) (Evs.cons rfl (Ev.name 3 sl3 rfl) Evs.nil))) (nb rfl) (fun _=>(spec_put_back A C₁ _ (PySem.Value.int _ _) v (Ky.i _) W₁ True.intro rfl hvV hcase))) ?_
    rintro _ _ ⟨rfl,C₂,rfl,hI⟩
    refine HS.nil (HS.nil (HS.done ?_))
    exact next C₂ _ _ (st_van S₁ hv hv0 hI) (by exact NM.Sub.same rfl (NM.Sub.same rfl (NM.Sub.same rfl (NM.Sub.same rfl (NM.Sub.same rfl (NM.Sub.same rfl NM.Sub.nil)))))) ⟨[],(tl_app [(I,o),(I',o')]).symm⟩
   ·rename_i hv0
    exact next C₁ _ _ (st_van0 S₁ hv (Decidable.not_not.mp hv0)) (by exact NM.Sub.same rfl (NM.Sub.same rfl (NM.Sub.same rfl (NM.Sub.same rfl (NM.Sub.same rfl (NM.Sub.same rfl NM.Sub.nil)))))) ⟨[],(tl_app [(I,o),(I',o')]).symm⟩
  ·intro C₁ S₁
   have S₂:=S₁.congr (nlook_start (by rw [List.length_drop]; exact lq [_,_,_] [] [.sb 2 Nq Nr] (.l Nq (.a Nr Ns)) [[1100],[]] rfl rfl)) (outA_all C sz)
   refine HS.forRev (X:=TC) (vs:=refsOf C.na C.nodes.length) _ (by (exact sl8)) rfl rfl (by exact Ev.blt 11 sl11 (by k_is) (by boot_by_name) (by kernel_rfl)) (by exact Ev.name 4 sl4 rfl) (fun _ _=>rfl) (fun i C₁=>Rsz sz (newN hs) (nlook C (C.nodes.length - i)) (outD C sz (C.nodes.length - i)) C₁) (fun _ m=>m) (fun C₁=>TL w.params A C₁ R₃) C₁ S₂ .rfl rfl (fun _=>mem_R hL) ?_ ?_
   ·intro I o i v C₁ hi hv S₁ Q' next _ _
    have hi':i < C.nodes.length:=by simpa [refsOf] using hi
    obtain ⟨d,hd⟩:∃ d,C.nodes.length - i=d+1:=⟨C.nodes.length - i - 1,by exact lq [_,_,_,_] [] [.t Nq Nr,.sb 2 Nr Nq,.sb 3 Ns Kr] (.e Ns (.a (.n 3) Kr)) [[1100000,1010000],[1010000,1101010],[0,1010000],[0,1100110]] rfl hi' rfl rfl⟩
    have hd2:(refsOf C.na C.nodes.length).length - 1 - i=d:=by simp [refsOf]; lia
    rw [hd2,refsOf_get (show d < C.nodes.length by exact lq [_,_,_,_] [] [.e Nq (.a (.n 3) Kr),.sb 0 Nr Ns] (.t (.n 3) Nr) [[101100],[110100]] rfl hd rfl)] at hv
    cases hv
    have hd3:C.nodes.length - (i+1)=d:=by exact congrArg Nat.pred hd
    rw [hd] at S₁
    obtain ⟨n,hn⟩:∃ n,C.nodes[d]?=some n:=⟨_,List.getElem?_eq_getElem (lq [_,_,_,_] [] [.e Nq (.a (.n 3) Kr),.sb 0 Nr Ns] (.t (.n 3) Nr) [[101100],[110100]] rfl hd rfl)⟩
    have hins:InsAt (TL w.params A C₁ ([(I,o)]++R₃)) (C.na.nx d) 295 (nodeEnts w.params C.na d n):=⟨_,_,mem_R (.tail _ (hNd d n hn _ (.head _))),mem_R (.tail _ (hNd d n hn _ (.tail _ (.head _))))⟩
    have hvV:=W.n.vals d n hn
    have hh:=handed_val hvV
    have hh2:=handed_key (W.n.keys d n hn)
    have W₁:=S₁.wf
    refine HS.perm (tl_app [(I,o)]) ?_
    refine HS.ite (Ev.isNot (Ev.m_val hins rfl hh (Ev.name 8 sl8 rfl))) (fun _=>?_) (fun _=>(HS.nil (HS.nil (HS.done ?_))))
    ·rename_i hv0
     have hkn:n.key≠.none:=fun e=>hv0 (W.n.nonk d n hn e).2
     have hok:=key_ky W.n hn hkn
     obtain ⟨k,hk⟩:=ky_ok hok
     have hcase:=nod_case W S₁ hn hk hv0 hN
     refine HS.expr rfl (HE.meth (Ev.name 0 sl0 rfl) InsAt.tab ⟨by k_is,by k_is,by k_is,by k_is⟩ rfl rfl (Evs.cons rfl (Ev.m_key hins rfl hh2 (Ev.name 8 sl8 rfl)) (Evs.cons rfl (Ev.m_val hins rfl hh (Ev.name 8 sl8 rfl)) (Evs.cons rfl (Ev.name 3 sl3 rfl) Evs.nil))) (nb rfl) (spec_put_back A C₁ _ _ _ k W₁ hok hk hvV hcase)) ?_
     rintro _ _ ⟨rfl,C₂,rfl,hI⟩
     refine HS.nil (HS.nil (HS.done ?_))
     exact next C₂ _ _ (by rw [hd3]; exact st_nod W S₁ hn hk hv0 hI) (by exact NM.Sub.same rfl (NM.Sub.same rfl (NM.Sub.same rfl (NM.Sub.same rfl (NM.Sub.same rfl (NM.Sub.same rfl NM.Sub.nil)))))) ⟨[],(tl_app [(I,o)]).symm⟩
    ·rename_i hv0
     exact next C₁ _ _ (by rw [hd3]; exact st_nod0 S₁ hn (Decidable.not_not.mp hv0)) (by exact NM.Sub.same rfl (NM.Sub.same rfl (NM.Sub.same rfl (NM.Sub.same rfl (NM.Sub.same rfl (NM.Sub.same rfl NM.Sub.nil)))))) ⟨[],(tl_app [(I,o)]).symm⟩
   ·intro C₁ S₁
    have e0:C.nodes.length - (refsOf C.na C.nodes.length).length=0:=by simp [refsOf]
    rw [e0] at S₁
    have S₂:=S₁.congr (nlook_end C) (Nat.le_refl _)
    have w1:=S₁.wf.la
    have w2:=S₁.wf.ln
    refine HS.expr rfl (HE.meth (Ev.name 0 sl0 rfl) InsAt.tab ⟨by k_is,by k_is,by k_is,by k_is⟩ rfl rfl (Evs.cons rfl (Ev.name 3 sl3 rfl) Evs.nil) (nb rfl) (spec_weigh A C₁ R₃ w1 w2)) ?_
    rintro _ _ ⟨rfl,v,rfl⟩
    refine HS.drop (r:=X) (hX▸(tl_app X).symm) ?_
    refine HS.nil (HS.done ?_)
    exact ⟨rfl,_,rfl,S₂.sized⟩
end
theorem liveAt_eq {arr:List Value} {i:Nat} {v:Value} (h:arr[i]?=some v):(liveAt arr i).toList.length=if isL v=true then 1 else 0:=by
 unfold liveAt isL
 rw [h]
 by_cases e:v=.none <;> simp [e]
theorem aR_len {arr:List Value} {a:Nat}:∀ j,a+j≤arr.length→(aR arr a j).length=((arr.drop a).take j).countP isL
 | 0,_=>rfl
 | j+1,h=>by
  have hj:a+j < arr.length:=by exact h
  have hg:arr[a+j]?=some arr[a+j]:=by simp [hj]
  have hg':(arr.drop a)[j]?=some arr[a+j]:=by rw [List.getElem?_drop,hg]
  rw [aR_succ,List.length_append,aR_len j (by exact Nat.le_of_lt hj),liveAt_eq hg,List.take_add_one,hg',List.countP_append]
  congr 1
  show _=List.countP isL [_]
  rw [List.countP_cons,List.countP_nil,Nat.zero_add]
theorem nle_app (K K':List Int) (s:Int):nle (K++K') s=nle K s+nle K' s:=List.countP_append
theorem arr_count (arr:List Value) (sz:Nat):(arr.drop sz).countP isL+nle (arrInts arr) sz=(arrInts arr).length:=by
 unfold arrInts
 by_cases h:arr.length≤sz
 ·have e:nle (aR arr 0 arr.length) sz=(aR arr 0 arr.length).length:=by
   unfold nle
   rw [List.countP_eq_length]
   intro x hx
   have:=aR_mem hx
   simp; exact lq [_,_] [_] [.l Nq Nr,.an (.le (.a (.c Kq) Kr) Zq) (.le Zq (.c (.a Kq Nq)))] (.le Zq Nr) [[11010]] rfl h this
  rw [e,List.drop_of_length_le h]
  simp
 ·have e:=aR_add arr 0 sz (arr.length - sz)
  rw [show sz+(arr.length - sz)=arr.length by exact lq [_,_,_] [] [.gl Nq Nr,.sb 2 Nq Nr] (.e (.a Nr Ns) Nq) [[10100,11000],[11010,10100]] rfl h rfl,Nat.zero_add] at e
  have e1:nle (aR arr 0 sz) sz=(aR arr 0 sz).length:=by
   unfold nle
   rw [List.countP_eq_length]
   intro x hx
   have:=aR_mem hx
   simp; exact lq [_] [_] [.an (.le (.a (.c Kq) Kr) Zq) (.le Zq (.c (.a Kq Nq)))] (.le Zq Nq) [[1100]] rfl this
  have e2:nle (aR arr sz (arr.length - sz)) sz=0:=by
   unfold nle
   rw [List.countP_eq_zero]
   intro x hx
   have:=aR_mem hx
   simp; exact this.1
  have e3:=aR_len (arr:=arr) (a:=sz) (arr.length - sz) (by exact lq [_,_,_] [] [.gl Nq Nr,.sb 2 Nq Nr] (.l (.a Nr Ns) Nq) [[10100],[11010]] rfl h rfl)
  rw [List.take_of_length_le (by rw [List.length_drop]; exact Nat.le_refl _)] at e3
  rw [e,nle_app,e1,e2,List.length_append,e3]
  exact Nat.add_comm _ _
theorem posInt_le (v:Value) (sz:Nat):nle (posInt v).toList sz=if keyIn sz v=true then 1 else 0:=by
 unfold keyIn
 cases v with
 | int n t =>
  simp only [posInt,ky,inArr]
  by_cases h:0 < n
  ·rw [if_pos h]
   simp only [nle,Option.toList_some,List.countP_cons,List.countP_nil,Nat.zero_add,decide_eq_true_eq]
   by_cases h2:n≤(sz:Int)
   ·rw [if_pos h2,if_pos (by exact ⟨h,h2⟩)]
   ·rw [if_neg h2,if_neg (by exact lq [_] [_] [.nl Zq Nq,.an (.le Kr Zq) (.le Zq Nq)] .f [[11010]] rfl h2)]
  ·rw [if_neg h]
   simp only [nle,Option.toList_none,List.countP_nil,decide_eq_true_eq]
   rw [if_neg (by exact lq [_] [_] [.nt Kq Zq,.an (.le Kr Zq) (.le Zq Nq)] .f [[10110]] rfl h)]
 | _=>rfl
theorem node_count (ns:List NodeR) (sz:Nat):ns.countP (outN sz)+nle (nodeInts ns) sz=(liveN ns).length:=by
 induction ns with
 | nil=>rfl
 | cons n r ih =>
  have e1:liveN (n::r)=(if isLive n=true then [n] else [])++liveN r:=by
   unfold liveN
   rw [List.filter_cons]
   split <;> rfl
  have e2:nodeInts (n::r)=(if isLive n=true then (posInt n.key).toList else [])++nodeInts r:=by
   unfold nodeInts
   rw [e1,List.filterMap_append]
   split
   ·rw [List.filterMap_cons]
    cases posInt n.key <;> rfl
   ·rfl
  rw [e1,e2,nle_app,List.countP_cons,List.length_append]
  have hl:isL n.val=isLive n:=rfl
  by_cases h:isLive n=true
  ·rw [if_pos h,if_pos h,posInt_le]
   simp only [outN,hl,h,Bool.true_and]
   rw [show ([n]:List NodeR).length=1 from rfl]
   cases keyIn sz n.key
   ·rw [if_pos (by rfl),if_neg (by decide)]; exact lq [_,_,_] [] [.e (.a Nq Nr) Ns] (.e (.a (.a Nq Kr) (.a Kq Nr)) (.a Kr Ns)) [[1010,1100]] rfl ih
   ·rw [if_neg (by decide),if_pos rfl]; exact lq [_,_,_] [] [.e (.a Nq Nr) Ns] (.e (.a (.a Nq Kq) (.a Kr Nr)) (.a Kr Ns)) [[1010,1100]] rfl ih
  ·rw [if_neg h,if_neg h]
   have h':isLive n=false:=by simpa using h
   simp only [outN,hl,h',Bool.false_and]
   simp [nle]; exact ih
theorem newN_ge (hs:Nat):hs≤newN hs:=by
 unfold newN
 split
 ·exact Nat.le_of_eq (by assumption)
 ·have h:=(clg_le (n:=(hs:Int)) (by exact Int.ofNat_le.2 (Nat.pos_of_ne_zero (by assumption))) (clg (hs:Int))).mp (Nat.le_refl _)
  have:((2 ^ clg (hs:Int):Nat):Int)=2 ^ clg (hs:Int):=by push_cast; rfl
  exact lq [_,_] [_] [.le Nq Zq,.eq Nr Zq] (.l Nq Nr) [[11010]] rfl h this
theorem rehash_room {C:TC} {kx:Value} {k:Ky} {sz:Nat} {K:List Int} (hk:ky kx=some k) (hK:K.Perm ((posInt kx).toList++(nodeInts C.nodes++arrInts C.arr))) :
  outD C sz 0+(if inArr sz k=true then 0 else 1)+nle K sz=(arrInts C.arr).length+(liveN C.nodes).length+1:=by
 have e1:=arr_count C.arr sz
 have e2:=node_count C.nodes sz
 have e3:=posInt_le kx sz
 unfold keyIn at e3
 rw [hk] at e3
 have e4:nle K sz=nle ((posInt kx).toList++(nodeInts C.nodes++arrInts C.arr)) sz:=hK.countP_eq _
 rw [e4,nle_app,nle_app,e3]
 unfold outD
 rw [List.drop_zero]
 dsimp only
 by_cases h:inArr sz k=true
 ·rw [if_pos h,if_pos h]; exact lq [_,_,_,_,_,_] [] [.e (.a Nq Nr) Ns,.e (.a (.n 3) (.n 4)) (.n 5)] (.e (.a (.a (.a Nq (.n 3)) Kq) (.a Kr (.a (.n 4) Nr))) (.a (.a Ns (.n 5)) Kr)) [[101010,110100]] rfl e1 e2
 ·rw [if_neg h,if_neg h]; exact lq [_,_,_,_,_,_] [] [.e (.a Nq Nr) Ns,.e (.a (.n 3) (.n 4)) (.n 5)] (.e (.a (.a (.a Nq (.n 3)) Kr) (.a Kq (.a (.n 4) Nr))) (.a (.a Ns (.n 5)) Kr)) [[101010,110100]] rfl e1 e2
theorem posInt_pos {v:Value} {n:Int} (h:n∈(posInt v).toList):1≤n:=by
 cases v with
 | int k t =>
  simp only [posInt] at h
  split at h
  ·simp at h; exact h▸(by assumption)
  ·simp at h
 | _=>simp [posInt] at h
theorem nle_len (K:List Int) (s:Int):nle K s≤K.length:=List.countP_le_length
theorem posInt_len (v:Value):(posInt v).toList.length≤1:=by cases posInt v <;> simp
theorem nodeInts_len (ns:List NodeR):(nodeInts ns).length≤(liveN ns).length:=List.length_filterMap_le _ _
theorem rehash_sizes {C:TC} {kx:Value} {k:Ky} {sz us a b:Int} (hk:ky kx=some k) (hF:Fits ((posInt kx).toList++(nodeInts C.nodes++(arrInts C.arr++[]))) sz us) (ha:a=(((arrInts C.arr).length:Nat):Int)) (hb:b=(((liveN C.nodes).length:Nat):Int)) (hsm:(arrInts C.arr).length+(liveN C.nodes).length≤100) :
  ∃ szn hs:Nat,sz=(szn:Int)∧a+(b+1) - us=(hs:Int)∧szn≤500∧hs≤500∧outD C szn 0≤newN hs∧(inArr szn k=true∨outD C szn 0 < newN hs):=by
 obtain ⟨h0,h1,h2⟩:=hF
 obtain ⟨szn,rfl⟩:=Int.eq_ofNat_of_zero_le h0
 have hr:=rehash_room (C:=C) (sz:=szn) hk (List.Perm.refl _)
 rw [List.append_nil] at h1 h2
 have hlen:((posInt kx).toList++(nodeInts C.nodes++arrInts C.arr)).length≤101:=by
  rw [List.length_append,List.length_append]
  have:=posInt_len kx
  have:=nodeInts_len C.nodes
  exact lq [_,_,_,_] [] [.l (.a Nq Nr) (.k 100),.l Ns Kr,.l (.n 3) Nr] (.l (.a Ns (.a (.n 3) Nq)) (.k 101)) [] rfl hsm (by assumption) this
 have hle:=nle_len ((posInt kx).toList++(nodeInts C.nodes++arrInts C.arr)) szn
 have hn:=newN_ge ((arrInts C.arr).length+(liveN C.nodes).length+1 - nle ((posInt kx).toList++(nodeInts C.nodes++arrInts C.arr)) szn)
 refine ⟨szn,(arrInts C.arr).length+(liveN C.nodes).length+1 - nle ((posInt kx).toList++(nodeInts C.nodes++arrInts C.arr)) szn,rfl,by lia,by exact lq [_,_] [] [.le Nq (.m 2 Nr),.l Nr (.k 101)] (.l Nq (.k 500)) [[1210]] rfl h1 hlen,by exact lq [_,_,_,_] [] [.l (.a Nq Nr) (.k 100),.sb 2 (.a (.a Nq Nr) Kr) (.n 3)] (.l Ns (.k 500)) [[10110],[11000]] rfl hsm rfl,by exact lq [_,_,_,_,_,_,_] [] [.e (.a (.a Nq Nr) Ns) (.a (.a (.n 3) (.n 4)) Kr),.l (.n 5) (.n 6),.sb 5 (.a (.a (.n 3) (.n 4)) Kr) Ns] (.l Nq (.n 6)) [[1101010],[1010010]] rfl hr hn rfl,?_⟩
 by_cases hi:inArr szn k=true
 ·exact .inl hi
 ·rw [if_neg hi] at hr
  exact .inr (by exact lq [_,_,_,_,_,_] [] [.e (.a (.a Nq Kr) Nr) (.a (.a Ns (.n 3)) Kr),.l (.n 4) (.n 5),.sb 4 (.a (.a Ns (.n 3)) Kr) Nr] (.t Nq (.n 5)) [[1101010],[1010010]] rfl hr hn rfl)
theorem HE.zeros {c:Cn} {m:NM} {l:Led} {k:Nat} {p1 p2 pos:Pos} {e:PySem.Expr} {n:Int} (he:∀ l,Ev ⟨c,m,l⟩ e (.i n)) (h0:0≤n) (h1:n≤1000):HE ⟨c,m,l⟩ (.BinOp (.List [.Constant (.int 0) k p1] p2) .Mult e pos) fun v l'=>∃ D t,v=.ref D∧l'=(D,listOf (List.replicate n.toNat (Value.int 0 t)).toArray 0)::l:=by
 intro Ar g L s T R0
 refine wpAny_BinOp (List_ (args_cons (wpAny_Constant_int (args_nil ?_)) rfl))
 obtain ⟨nm,F,H⟩:=R0.F
 refine newList_K F R0.N (fun a h' F' N' lt=>?_) (nb rfl)
 refine (he _).use (σ:=⟨c,m,(a,listOf _ 0)::l⟩) T ⟨⟨nm,F',H⟩,N',R0.D.cons lt⟩ fun v h2 tk2 hv R2=>?_
 obtain ⟨u,rfl⟩:=hv
 obtain ⟨nm2,F2,H2⟩:=R2.F
 refine KM.mul F2 R2.N (News.isList R2.N (.head _)) (.cons _ _ .nil) (by exact Int.le_trans (by decide) h0) (by lia) (by simp; exact lq [] [_] [.le Zq (.k 1000)] (.le Zq (.k 16777216)) [] rfl h1) fun D h3 F3 N3 lt z9 z9 z9 z9 z9 z9=>?_
 refine ⟨h3,tk2,m,(D,listOf (List.replicate n.toNat (Value.int 0 s.toks)).toArray 0)::l,rfl,⟨⟨nm2,F3,H2⟩,News.sub N3 ?_,?_⟩,rfl,D,_,rfl,rfl⟩
 ·intro q hq
  cases hq with
  | head=>rw [List.flatten_replicate_singleton]; exact .head _
  | tail _ h=>exact .tail _ (.tail _ h)
 ·exact R0.D.cons fun q hq=>lt q (.tail _ hq)
theorem HS.assignT2 {c:Cn} {m:NM} {l:Led} {ss:List Stmt} {K:List (List Stmt)} {Q:Flow→NM→Led→Prop} {x y:Str} {k:Nat} {xp yp tp pos:Pos} {e:PySem.Expr} {P:Value→Led→Prop} (i j:Nat) (hx:slot c.sh.sc.names i=some (x,.local)) (hy:slot c.sh.sc.names j=some (y,.local))
  (hs:∀ L,swapsWithSole [.Tuple [.Name x xp,.Name y yp] k tp] e pos.line (c.sh.env L)=pure false) (hw:∀ L,swappedStores [.Tuple [.Name x xp,.Name y yp] k tp] e (c.sh.env L)=pure none) (h:HE ⟨c,m,l⟩ e P)
  (kk:∀ v l',P v l'→∃ T a b,v=.ref T∧(T,tupObj #[a,b])∈l'∧HS c (ss::K) ((m.set i (.v a)).set j (.v b)) l' Q):HS c ((.Assign [.Tuple [.Name x xp,.Name y yp] k tp] e pos::ss)::K) m l Q :=
 HS.step fun z9 z9 z9 s T R=>Assign_Tuple (h.use T R fun v h' tk' l' hv R1=>by
  obtain ⟨D,a,b,rfl,hm,hk⟩:=kk v l' hv
  obtain ⟨nm,F,H⟩:=R1.F
  refine unpackN_ F R1.N (News.isTup R1.N hm) T.C.n rfl rfl fun h₂ F₂ N₂=>?_
  refine assignInOrder_cons (assign_Name (store_slot (m:=m) (l:=l') (V:=.v a) hx rfl T ⟨⟨_,F₂,H⟩,N₂,R1.D⟩ fun h₃ tk₃ R₃=>?_))
  exact assignInOrder_cons (assign_Name (store_slot (m:=m.set i (.v a)) (l:=l') (V:=.v b) hy rfl T R₃ fun h₄ tk₄ R₄=>assignInOrder_nil ⟨h₄,tk₄,_,_,rfl,R₄,hk⟩))) (hs _) (hw _)
theorem counts_new {t:Tok}:Cnt (List.replicate 27 (Value.int 0 t)) []:=⟨by rw [List.length_replicate],fun b hb=>⟨t,by rw [List.getElem?_replicate,if_pos hb]; rfl⟩⟩
section
theorem spec_resize' (A:TA) (C:TC) (R:Led) (sz hs:Nat) (i j:Int) (t1 t2:Tok) (hi:i=(sz:Int)) (hj:j=(hs:Int)) (W:WF C) (hsz:sz≤500) (hhs:hs≤500) (hN:outD C sz 0≤newN hs) :
  Spec w mean mg mb (.ref 448) [.ref A.t,.int i t1,.int j t2,.none] 40 (TL w.params A C R) (fun r l=>r=.none∧∃ C',l=TL w.params A C' R∧Rsz sz (newN hs) (look C) (outD C sz 0) C'):=by
 subst hi hj
 exact spec_resize A C R sz hs t1 t2 W hsz hhs hN
theorem spec_rehash (A:TA) (C:TC) (R:Led) (kx:Value) (k:Ky) (W:WF C) (hok:okKey kx) (hk:ky kx=some k) (hb:∀ (i:Nat) (n:NodeR) (k:Int) (t:Tok),C.nodes[i]?=some n→n.key=.int k t→k≤1000000) (hb2:∀ n t,kx=.int n t→n≤1000000) (hsm:(arrInts C.arr).length+(liveN C.nodes).length≤100) :
  Spec w mean mg mb (.ref 440) [.ref A.t,kx,.none] 45 (TL w.params A C R) (fun r l=>r=.none∧∃ C' sz N u,l=TL w.params A C' R∧Rsz sz N (look C) u C'∧(inArr sz k=true∨u < N)):=by
 refine Spec.enterA (by k_is) (by k_is) (fun s X=>(BindsTo.of_eq rfl)) rfl (by kernel_rfl) (by kernel_rfl) rfl rfl rfl (by decide) ?_
 refine HS.assignH 3 sl3 rfl (HE.zeros (fun z9=>(Ev.bin (Ev.toI (Ev.glob 10 sl10 (by k_is))) Ev.int IOp.add)) (Int.le_of_lt (by decide)) (by decide)) ?_
 rintro _ _ ⟨cl,t0,rfl,rfl⟩
 have H₀:Cnt (List.replicate 27 (Value.int 0 t0)) []:=counts_new
 refine HS.perm tl_cons.symm ?_
 refine HS.assignH 4 sl4 rfl (HE.meth (Ev.name 0 sl0 rfl) InsAt.tab ⟨by k_is,by k_is,by k_is,by k_is⟩ rfl rfl (Evs.cons rfl (Ev.name 3 sl3 rfl) Evs.nil) (nb rfl) (spec_count_array A C R cl 0 _ [] W H₀)) ?_
 rintro _ _ ⟨⟨a1,rfl⟩,vs1,e1,rfl,H₁⟩
 refine HS.assign 5 sl5 rfl (Ev.name 4 sl4 rfl) (HS.assignT2 6 7 sl6 sl7 (fun z9=>rfl) (fun z9=>rfl) (HE.meth (Ev.name 0 sl0 rfl) InsAt.tab ⟨by k_is,by k_is,by k_is,by k_is⟩ rfl rfl (Evs.cons rfl (Ev.name 3 sl3 rfl) Evs.nil) (nb rfl) (spec_count_nodes A C R cl e1 vs1 _ W hb H₁)) ?_)
 rintro _ _ ⟨T,a,b,t1,t2,vs2,e2,rfl,rfl,ha,-,H₂⟩
 refine ⟨T,_,_,rfl,.head _,HS.perm tl_cons.symm ?_⟩
 refine HS.aug 5 sl5 rfl (fun z9 z9=>(Exists.intro a1 (by assumption))) (Ev.bin (Ev.nameI 6 sl6 rfl) Ev.int IOp.add) IIOp.add (HS.augE 4 sl4 rfl (fun z9 z9=>(Exists.intro a1 (by assumption))) (HE.binR (Ev.nameI 7 sl7 rfl) (HE.callK rfl (Ev.glob 11 sl11 (by k_is)) (Evs.cons rfl (Ev.name 1 sl1 rfl) (Evs.cons rfl (Ev.name 3 sl3 rfl) Evs.nil)) (by k_is) (nb rfl) (spec_count_key A C R (Prod.mk T _) cl e2 vs2 _ kx hok hb2 H₂)) IOp.add) IIOp.add ?_)
 rintro _ ⟨vs3,e3,rfl,H₃⟩
 refine HS.perm (tl_mid (a:=[_])).symm ?_
 have hpos:∀ n∈(posInt kx).toList++(nodeInts C.nodes++(arrInts C.arr++[])),1≤n:=by
  intro n hn
  rcases List.mem_append.mp hn with h | h
  ·exact posInt_pos h
  ·rcases List.mem_append.mp h with h | h
   ·obtain ⟨nd,_,e⟩:=List.mem_filterMap.mp h
    exact posInt_pos (v:=nd.key) (by rw [e]; simp)
   ·rw [List.append_nil] at h
    exact Int.lt_of_le_of_lt (Int.natCast_nonneg _) (aR_mem h).1
 refine HS.assignT2 8 9 sl8 sl9 (fun z9=>rfl) (fun z9=>rfl) (HE.callK rfl (Ev.glob 12 sl12 (by k_is)) (Evs.cons rfl (Ev.name 3 sl3 rfl) (Evs.cons rfl (Ev.name 4 sl4 rfl) Evs.nil)) (by k_is) (nb rfl) (fun z9=>(spec_compute_sizes _ cl e3 vs3 _ _ _ H₃ hpos))) ?_
 rintro _ _ ⟨T2,sz,us,t3,t4,rfl,rfl,hF⟩
 obtain ⟨szn,hs,q1,q2,q3,q4,q5,q6⟩:=rehash_sizes hk hF rfl ha hsm
 refine ⟨T2,_,_,rfl,.head _,HS.perm (tl_app [_,_]) ?_⟩
 refine HS.expr rfl (HE.meth (Ev.name 0 sl0 rfl) InsAt.tab ⟨by k_is,by k_is,by k_is,by k_is⟩ rfl rfl (Evs.cons rfl (Ev.name 8 sl8 rfl) (Evs.cons rfl (Ev.bin (Ev.name 5 sl5 rfl) (Ev.nameI 9 sl9 rfl) IOp.sub) (Evs.cons rfl (Ev.name 2 sl2 rfl) Evs.nil))) (nb rfl) (fun z9=>(spec_resize' A C _ szn hs sz _ t3 _ q1 q2 W q3 q4 q5))) ?_
 rintro _ _ ⟨rfl,C',rfl,hS⟩
 refine HS.drop (r:=[_,_,_]) (tl_app [_,_,_]).symm ?_
 refine HS.nil (HS.done ?_)
 exact ⟨rfl,_,szn,newN hs,_,rfl,hS,q6⟩
end
structure Put (C C':TC) (k:Ky) (v:Value):Prop where
 wf:WF C'
 lk:∀ k',look C' k'=if k'=k then v else look C k'
 keys:∀ k',fidx C'.nodes k'≠none→k'=k∨fidx C.nodes k'≠none∨look C k'≠.none
theorem Ins.put {C C':TC} {k:Ky} {v:Value} (I:Ins C C' k v) (h:inArr C.arr.length k=false):Put C C' k v :=
 ⟨I.wf,(I.lay h).look,fun k' hk'=>(I.keys k' hk').imp id .inl⟩
theorem put_of_lay {C C' C₁:TC} {sz N u:Nat} {k:Ky} {v:Value} (S:Rsz sz N (look C) u C₁) (I:Lay C₁ C' k v):Put C C' k v:=by
 refine ⟨I.wf,fun k'=>?_,fun k' hk'=>?_⟩
 ·rw [I.look,S.lk]
 ·rcases I.keys k' hk' with h | h
  ·exact .inl h.1
  ·exact .inr (.inr ((S.lk k').symm▸S.ks k' h))
theorem look_absent {C:TC} {k:Ky} (h:inArr C.arr.length k=false) (hf:fidx C.nodes k=none):look C k=.none:=by
 rw [look_eq,h,if_neg (by decide),nodeGet_none hf]
theorem Rsz.again {sz N u:Nat} {C C₁:TC} (S:Rsz sz N (look C) u C₁) {k:Ky} (h:inArr sz k=true∨u < N) (hab:look C k=.none) :
  inArr C₁.arr.length k=true∨(inArr C₁.arr.length k=false∧fidx C₁.nodes k=none∧used C₁.nodes < C₁.nodes.length) :=
 S.case (h.imp id fun h=>⟨hab,h⟩)
section
theorem spec_free_full (A:TA) (C:TC) (R:Led) (W:WF C) (full:∀ (i:Nat) (n:NodeR),C.nodes[i]?=some n→n.key≠.none):Spec w mean mg mb (.ref 356) [.ref A.t] 2 (TL w.params A C R) (fun r l=>∃ C₂ t,r=.int (-1) t∧l=TL w.params A C₂ R∧C₂.nodes=C.nodes∧C₂.arr=C.arr∧WF C₂):=by
 refine (spec_free_position A C R W).mono (Nat.le_refl _) ?_
 rintro r l ⟨o,C',t,a,rfl,ha,rfl,hF⟩
 cases o with
 | some f =>
  obtain ⟨⟨n,hn,hk⟩,_⟩:=hF
  exact absurd hk (full f n hn)
 | none =>
  obtain ⟨_,f',t',e,rfl⟩:=hF
  subst e
  exact ⟨_,t,by rw [ha]; rfl,rfl,rfl,rfl,⟨W.n,W.arr,W.out,Int.le_refl _,Int.natCast_nonneg _,fun i n h z9=>full i n h,W.la,W.ln⟩⟩
theorem spec_new_key (A:TA) (C:TC) (R:Led) (kv v:Value) (k:Ky) (W:WF C) (hok:okKey kv) (hk:ky kv=some k) (hv:isV v) (hab:fidx C.nodes k=none) (hout:inArr C.arr.length k=false)
  (hb:∀ (i:Nat) (n:NodeR) (k:Int) (t:Tok),C.nodes[i]?=some n→n.key=.int k t→k≤1000000) (hb2:∀ n t,kv=.int n t→n≤1000000) (hsm:(arrInts C.arr).length+(liveN C.nodes).length≤100) :
  Spec w mean mg mb (.ref 412) [.ref A.t,kv,v,.none] 50 (TL w.params A C R) (fun r l=>r=.none∧∃ C',l=TL w.params A C' R∧Put C C' k v):=by
 by_cases hroom:used C.nodes < C.nodes.length
 ·exact (spec_new_key_room A C R kv v k W hok hk hv hab (inArr_out hout) hroom).mono (nb rfl) fun r l ⟨e,C',e',I⟩=>⟨e,C',e',I.put hout⟩
 have hl0:=look_absent hout hab
 have hln:=W.ln
 refine Spec.enterA (by k_is) (by k_is) (fun s X=>(BindsTo.of_eq rfl)) rfl (by kernel_rfl) (by kernel_rfl) rfl rfl rfl (by decide) ?_
 refine HS.ite (EvT.cmp (Ev.lenN rfl rfl (Ev.blt 8 sl8 (by k_is) (by boot_by_name) (by kernel_rfl)) rfl (Ev.t_nodes rfl rfl (Ev.name 0 sl0 rfl)) hln) Ev.int ICmp.eq rfl) (fun _=>(HS.expr rfl (HE.meth (Ev.name 0 sl0 rfl) InsAt.tab ⟨by k_is,by k_is,by k_is,by k_is⟩ rfl rfl (Evs.cons rfl (Ev.name 1 sl1 rfl) (Evs.cons rfl (Ev.name 3 sl3 rfl) Evs.nil)) (nb rfl) (spec_rehash A C R kv k W hok hk hb hb2 hsm)) ?_)) (fun _=>(HS.nil (HS.assign 4 sl4 rfl (Ev.of (HE.meth (Ev.name 0 sl0 rfl) InsAt.tab ⟨by k_is,by k_is,by k_is,by k_is⟩ rfl rfl (Evs.cons rfl (Ev.name 1 sl1 rfl) Evs.nil) (nb rfl) (spec_main_position A C R kv hok (by exact lq [_] [] [.ne Nq Kq] (.t Kq Nq) [] rfl (by assumption)) hln))) ?_)))
 ·rintro _ _ ⟨rfl,C₁,sz,N,u,rfl,hS,hr⟩
  have hcase:=hS.again hr hl0
  have W₁:=hS.wf
  refine HS.expr rfl (HE.meth (Ev.name 0 sl0 rfl) InsAt.tab ⟨by k_is,by k_is,by k_is,by k_is⟩ rfl rfl (Evs.cons rfl (Ev.name 1 sl1 rfl) (Evs.cons rfl (Ev.name 2 sl2 rfl) (Evs.cons rfl (Ev.name 3 sl3 rfl) Evs.nil))) (nb rfl) (spec_put_again A C₁ R kv v k W₁ hok hk hv hcase)) ?_
  rintro _ _ ⟨rfl,C₂,rfl,hI⟩
  refine HS.ret0 ?_
  exact ⟨rfl,_,rfl,put_of_lay hS hI⟩
 ·rename_i h0
  have full:∀ (i:Nat) (n:NodeR),C.nodes[i]?=some n→n.key≠.none:=by
   intro i n hn e
   refine hroom (Nat.lt_of_le_of_ne List.countP_le_length fun e2=>?_)
   have:=(List.countP_eq_length.mp e2) n (List.mem_of_getElem? hn)
   simp [isUsed,e] at this
  have hpos:0 < C.nodes.length:=Nat.pos_of_ne_zero fun e=>h0 (congrArg _ e)
  have hr:=mp_range kv C.nodes.length hpos
  obtain ⟨p,hp⟩:∃ p:Nat,mp kv C.nodes.length=(p:Int):=⟨(mp kv C.nodes.length).toNat,(Int.toNat_of_nonneg hr.1).symm⟩
  obtain ⟨md,hm⟩:∃ md,C.nodes[p]?=some md:=⟨_,List.getElem?_eq_getElem (lq [_,_] [_] [.an (.le Kq Zq) (.lt Zq Nq),.eq Zq Nr] (.t Nr Nq) [[110100]] rfl hr hp)⟩
  have hhm:=handed_val (W.n.vals p md hm)
  refine HS.assign 5 sl5 rfl (Ev.node rfl rfl (Ev.t_nodes rfl rfl (Ev.name 0 sl0 rfl)) (Ev.name 4 sl4 rfl) hp hm (idx_lt hm hln)) (HS.ite (Ev.isNot (Ev.n_val rfl rfl rfl hm hhm (Ev.name 5 sl5 rfl))) (fun _=>(HS.assignH 6 sl6 rfl (HE.meth (Ev.name 0 sl0 rfl) InsAt.tab ⟨by k_is,by k_is,by k_is,by k_is⟩ rfl rfl Evs.nil (nb rfl) (spec_free_full A C R W full)) ?_)) (fun _=>(HS.nil (HS.setV rfl (Ev.name 1 sl1 rfl) (Ev.name 5 sl5 rfl) (SA.key rfl hm) (HS.setV rfl (Ev.name 2 sl2 rfl) (Ev.name 5 sl5 rfl) (SA.val rfl (set_self hm)) (HS.ite (Ev.isNot (Ev.name 3 sl3 rfl)) (fun _=>(False.elim (by contradiction))) (fun _=>(HS.nil (HS.nil (HS.done ?_))))))))))
  ·rintro _ _ ⟨C₂,t₂,rfl,rfl,en,ea,W₂⟩
   have hb₂:∀ (i:Nat) (n:NodeR) (k:Int) (t:Tok),C₂.nodes[i]?=some n→n.key=.int k t→k≤1000000:=by rw [en]; exact hb
   have hsm₂:(arrInts C₂.arr).length+(liveN C₂.nodes).length≤100:=by rw [en,ea]; exact hsm
   have hlk:look C₂=look C:=by funext k; rw [look_eq,look_eq,en,ea]
   refine HS.ite (EvT.cmp (Ev.nameI 6 sl6 rfl) Ev.int ICmp.lt rfl) (fun _=>(HS.expr rfl (HE.meth (Ev.name 0 sl0 rfl) InsAt.tab ⟨by k_is,by k_is,by k_is,by k_is⟩ rfl rfl (Evs.cons rfl (Ev.name 1 sl1 rfl) (Evs.cons rfl (Ev.name 3 sl3 rfl) Evs.nil)) (nb rfl) (spec_rehash A C₂ R kv k W₂ hok hk hb₂ hb2 hsm₂)) ?_)) (fun _=>(False.elim (by contradiction)))
   rintro _ _ ⟨rfl,C₁,sz,N,u,rfl,hS,hr⟩
   rw [hlk] at hS
   have hcase:=hS.again hr hl0
   have W₁:=hS.wf
   refine HS.expr rfl (HE.meth (Ev.name 0 sl0 rfl) InsAt.tab ⟨by k_is,by k_is,by k_is,by k_is⟩ rfl rfl (Evs.cons rfl (Ev.name 1 sl1 rfl) (Evs.cons rfl (Ev.name 2 sl2 rfl) (Evs.cons rfl (Ev.name 3 sl3 rfl) Evs.nil))) (nb rfl) (spec_put_again A C₁ R kv v k W₁ hok hk hv hcase)) ?_
   rintro _ _ ⟨rfl,C₃,rfl,hI⟩
   refine HS.ret0 ?_
   exact ⟨rfl,_,rfl,put_of_lay hS hI⟩
  ·rename_i hd _
   exact ⟨rfl,_,by simp only [TC.setNode,List.set_set],(ins_A W hok hk hv hab (inArr_out hout) hp hm (Decidable.not_not.mp hd)).put hout⟩
end
theorem wf_val {ns:List NodeR} (W:WFn ns) {p:Nat} {m:NodeR} {v:Value} (hm:ns[p]?=some m) (hk:m.key≠.none) (hv:isV v):WFn (ns.set p { m with val:=v }):=by
 have G:=@get_set ns p m { m with val:=v } hm
 have bwd:∀ (i:Nat) (n:NodeR),(ns.set p { m with val:=v })[i]?=some n→∃ n':NodeR,ns[i]?=some n'∧n'.key=n.key∧n'.next=n.next:=by
  intro i n hn
  rcases G.mp hn with ⟨rfl,rfl⟩ | ⟨_,hn⟩
  ·exact ⟨m,hm,rfl,rfl⟩
  ·exact ⟨n,hn,rfl,rfl⟩
 have fwd:∀ (i:Nat) (n:NodeR),ns[i]?=some n→∃ n':NodeR,(ns.set p { m with val:=v })[i]?=some n'∧n'.key=n.key∧n'.next=n.next:=by
  intro i n hn
  by_cases e:i=p
  ·subst e
   rw [hm] at hn; cases hn
   exact ⟨_,G.mpr (.inl ⟨rfl,rfl⟩),rfl,rfl⟩
  ·exact ⟨n,G.mpr (.inr ⟨e,hn⟩),rfl,rfl⟩
 have bc:∀ {x:Int} {l:List Nat},Chain (ns.set p { m with val:=v }) x l→Chain ns x l:=fun h=>h.congr fun i n hn=>by obtain ⟨n',a,_,b⟩:=bwd i n hn; exact ⟨n',a,b⟩
 have fc:∀ {x:Int} {l:List Nat},Chain ns x l→Chain (ns.set p { m with val:=v }) x l:=fun h=>h.congr fun i n hn=>by obtain ⟨n',a,_,b⟩:=fwd i n hn; exact ⟨n',a,b⟩
 refine ⟨?_,?_,?_,?_,?_,?_,?_,?_,?_⟩
 ·intro i n hn
  obtain ⟨n',h,e,_⟩:=bwd i n hn
  rw [← e]; exact W.keys i n' h
 ·intro i n hn
  rcases G.mp hn with ⟨rfl,rfl⟩ | ⟨_,hn⟩
  ·exact hv
  ·exact W.vals i n hn
 ·intro i n hn h
  rcases G.mp hn with ⟨rfl,rfl⟩ | ⟨_,hn⟩
  ·exact absurd h hk
  ·exact W.nonk i n hn h
 ·intro i hi
  rw [List.length_set] at hi
  obtain ⟨l,hl⟩:=W.chain i hi
  exact ⟨l,fc hl⟩
 ·intro i j n q hn hq h
  obtain ⟨n',h1,_,e1⟩:=bwd i n hn
  obtain ⟨q',h2,e2,_⟩:=bwd j q hq
  rw [← e1]; exact W.nopred i j n' q' h1 h2 (e2▸h)
 ·intro i j n q hn hq e h
  obtain ⟨n',h1,_,e1⟩:=bwd i n hn
  obtain ⟨q',h2,_,e2⟩:=bwd j q hq
  exact W.inj i j n' q' h1 h2 (by rw [e1,e2,e]) (by rw [e1]; exact h)
 ·intro i n l hn h hc
  rw [List.length_set] at hc
  obtain ⟨n',h1,e1,_⟩:=bwd i n hn
  rw [← e1] at h hc
  exact W.reach i n' l h1 h (bc hc)
 ·intro i n hn h
  rw [List.length_set]
  obtain ⟨n',h1,e1,_⟩:=bwd i n hn
  rw [← e1] at h ⊢
  obtain ⟨q,mq,hq,e,h2,h3⟩:=W.main i n' h1 h
  obtain ⟨mq',hq',e4,_⟩:=fwd q mq hq
  exact ⟨q,mq',hq',e,by rw [e4]; exact h2,by rw [e4]; exact h3⟩
 ·intro i j n q k hn hq h1 h2
  obtain ⟨n',a1,e1,_⟩:=bwd i n hn
  obtain ⟨q',a2,e2,_⟩:=bwd j q hq
  exact W.dist i j n' q' k a1 a2 (by rw [e1]; exact h1) (by rw [e2]; exact h2)
theorem fidx_val {ns:List NodeR} (W:WFn ns) {p:Nat} {m:NodeR} {v:Value} (hm:ns[p]?=some m) (hk:m.key≠.none) (hv:isV v) (k:Ky):fidx (ns.set p { m with val:=v }) k=fidx ns k:=by
 have W':=wf_val W hm hk hv
 have G:=@get_set ns p m { m with val:=v } hm
 cases h:fidx ns k with
 | none =>
  refine fidx_absent fun i n hn=>?_
  rcases G.mp hn with ⟨rfl,rfl⟩ | ⟨_,hn⟩
  ·exact fidx_none h i m hm
  ·exact fidx_none h i n hn
 | some j =>
  obtain ⟨n,hn,hkn⟩:=fidx_some h
  by_cases e:j=p
  ·subst e
   rw [hm] at hn; cases hn
   exact fidx_of W' (G.mpr (.inl ⟨rfl,rfl⟩)) hkn
  ·exact fidx_of W' (G.mpr (.inr ⟨e,hn⟩)) hkn
theorem put_val {C:TC} {p:Nat} {m:NodeR} {v:Value} {k:Ky} (W:WF C) (hm:C.nodes[p]?=some m) (hk:ky m.key=some k) (hv:isV v) (hout:inArr C.arr.length k=false):Put C { C with nodes:=C.nodes.set p { m with val:=v } } k v:=by
 have hkn:=ky_none hk
 have W':=wf_val W.n hm hkn hv
 have G:=@get_set C.nodes p m { m with val:=v } hm
 refine ⟨⟨W',W.arr,?_,W.fr0,by simpa using W.fr1,?_,W.la,by simpa using W.ln⟩,fun k'=>?_,fun k' h=>?_⟩
 ·intro i n x t hn e
  rcases G.mp hn with ⟨rfl,rfl⟩ | ⟨_,hn⟩
  ·exact W.out i m x t hm e
  ·exact W.out i n x t hn e
 ·intro i n hn hle
  rcases G.mp hn with ⟨rfl,rfl⟩ | ⟨_,hn⟩
  ·exact W.free i m hm hle
  ·exact W.free i n hn hle
 ·rw [look_eq,look_eq C]
  dsimp only
  by_cases e:k'=k
  ·subst e
   rw [hout,if_pos rfl,if_neg (by decide)]
   exact W'.nodeGet_of (G.mpr (.inl ⟨rfl,rfl⟩)) hk
  ·rw [if_neg e]
   congr 1
   unfold nodeGet
   rw [fidx_val W.n hm hkn hv]
   cases h:fidx C.nodes k' with
   | none=>rfl
   | some j =>
    obtain ⟨n,hn,hkn'⟩:=fidx_some h
    have hj:p≠j:=by
     intro z; subst z
     rw [hm] at hn; cases hn
     rw [hk] at hkn'; cases hkn'; exact e rfl
    dsimp only
    rw [List.getElem?_set_ne hj]
 ·rw [fidx_val W.n hm hkn hv] at h
  exact .inr (.inl h)
theorem lay_put {C C':TC} {k:Ky} {v:Value} (I:Lay C C' k v):Put C C' k v :=
 ⟨I.wf,I.look,fun k' h=>(I.keys k' h).elim (fun h=>.inl h.1) fun h=>.inr (.inl h)⟩
noncomputable def S0:Ky→Prop
 | .i n=>-4≤n∧n≤25
 | .b l=>l=[120]∨l=[107,101,121]∨l=[]
structure Tab (C:TC):Prop where
 wf:WF C
 keys:∀ k,fidx C.nodes k≠none→S0 k
 live:∀ k,look C k≠.none→S0 k
theorem Tab.put {C C':TC} {k:Ky} {v:Value} (T:Tab C) (h:S0 k) (P:Put C C' k v):Tab C':=by
 refine ⟨P.wf,fun k' hk'=>?_,fun k' hk'=>?_⟩
 ·rcases P.keys k' hk' with rfl | h' | h'
  ·exact h
  ·exact T.keys k' h'
  ·exact T.live k' h'
 ·rw [P.lk] at hk'
  by_cases e:k'=k
  ·rw [e]; exact h
  ·rw [if_neg e] at hk'; exact T.live k' hk'
theorem nodup_sub {α:Type} [DecidableEq α]:∀ (l m:List α),l.Nodup→(∀ x∈l,x∈m)→l.length≤m.length
 | [],_,_,_=>Nat.zero_le _
 | x::l,m,hn,hs=>by
  obtain ⟨h1,h2⟩:=List.nodup_cons.mp hn
  have hx:=hs x (.head _)
  have:=nodup_sub l (m.erase x) h2 fun y hy=>(List.mem_erase_of_ne (fun (e:y=x)=>h1 (e▸hy))).mpr (hs y (.tail _ hy))
  rw [List.length_erase_of_mem hx] at this
  have:=List.length_pos_of_mem hx
  rw [List.length_cons]; lia
noncomputable def allS:List (Option Ky):=(List.range 30).map (fun (i:Nat)=>some (.i ((i:Int) - 4)))++[some (.b [120]),some (.b [107,101,121]),some (.b [])]
theorem allS_mem {k:Ky} (h:S0 k):some k∈allS:=by
 unfold allS
 rw [List.mem_append]
 cases k with
 | i n =>
  obtain ⟨h1,h2⟩:-4≤n∧n≤25:=h
  refine .inl (List.mem_map.mpr ⟨(n+4).toNat,List.mem_range.mpr (by exact lq [_] [_] [.le Zq (.k 25),.tn 0 (.a Zq (.k 4))] (.t Nq (.k 30)) [[101010],[11000]] rfl h2 rfl),?_⟩)
  congr 2; exact lq [_] [_] [.le (.g (.k 4)) Zq,.tn 0 (.a Zq (.k 4))] (.eq (.s Nq (.k 4)) Zq) [[101000,110000],[11010,10100]] rfl h1 rfl
 | b l =>
  refine .inr ?_
  rcases (show l=[120]∨l=[107,101,121]∨l=[] from h) with rfl | rfl | rfl <;> simp
theorem Tab.nodes {C:TC} (T:Tab C):(liveN C.nodes).length≤33:=by
 have e:((liveN C.nodes).map fun n=>ky n.key).length≤allS.length:=by
  refine nodup_sub _ _ ?_ ?_
  ·unfold List.Nodup
   rw [List.pairwise_map]
   unfold liveN
   rw [List.pairwise_filter,List.pairwise_iff_getElem]
   intro i j hi hj hij h1 h2 e
   have hn:C.nodes[i]?=some C.nodes[i]:=by simp [hi]
   have hm:C.nodes[j]?=some C.nodes[j]:=by simp [hj]
   have hl:C.nodes[i].val≠.none:=by simpa [isLive] using h1
   have hkn:C.nodes[i].key≠.none:=fun z=>hl (T.wf.n.nonk i _ hn z).2
   obtain ⟨k,hk⟩:=ky_ok (key_ky T.wf.n hn hkn)
   have:=T.wf.n.dist i j _ _ k hn hm hk (by rw [← e]; exact hk)
   exact lq [_,_] [] [.t Nq Nr,.e Nq Nr] .f [[11010]] rfl hij this
  ·intro x hx
   obtain ⟨n,hn,rfl⟩:=List.mem_map.mp hx
   obtain ⟨h1,h2⟩:=List.mem_filter.mp hn
   obtain ⟨i,hi⟩:=List.getElem?_of_mem h1
   have hl:n.val≠.none:=by simpa [isLive] using h2
   have hkn:n.key≠.none:=fun z=>hl (T.wf.n.nonk i _ hi z).2
   obtain ⟨k,hk⟩:=ky_ok (key_ky T.wf.n hi hkn)
   rw [hk]
   exact allS_mem (T.keys k (fidx_mem.mpr ⟨i,n,hi,hk⟩))
 rw [List.length_map] at e
 exact Nat.le_trans e (by decide)
theorem Tab.arr {C:TC} (T:Tab C):(arrInts C.arr).length≤25:=by
 unfold arrInts
 rw [aR_len _ (by exact lq [_] [] [] (.l (.a Kq Nq) Nq) [] rfl),List.drop_zero,List.take_length]
 have e:C.arr=C.arr.take 25++C.arr.drop 25:=(List.take_append_drop 25 _).symm
 rw [e,List.countP_append]
 have e1:(C.arr.take 25).countP isL≤25:=Nat.le_trans List.countP_le_length (by rw [List.length_take]; exact Nat.min_le_left _ _)
 have e2:(C.arr.drop 25).countP isL=0:=by
  rw [List.countP_eq_zero]
  intro v hv hl
  obtain ⟨i,hi⟩:=List.getElem?_of_mem hv
  rw [List.getElem?_drop] at hi
  have hlt:=(List.getElem?_eq_some_iff.mp hi).1
  have hlk:=look_arr (C:=C) (n:=((25+i:Nat):Int)+1) (x:=v) (by exact lq [_,_] [] [.t (.a (.k 25) Nq) Nr] (.an (.le Kr (.a (.c (.a (.k 25) Nq)) Kr)) (.le (.a (.c (.a (.k 25) Nq)) Kr) Nr)) [[100,0]] rfl hlt) (by rw [show (((25+i:Nat):Int)+1 - 1).toNat=25+i by exact lq [_,_] [] [.tn 0 (.s (.a (.c (.a (.k 25) Nr)) Kr) Kr)] (.e Nq (.a (.k 25) Nr)) [[10100,11000],[]] rfl rfl]; exact hi)
  have:=T.live (.i (((25+i:Nat):Int)+1)) (by rw [hlk]; simpa [isL] using hl)
  have h3:((25+i:Nat):Int)+1≤25:=this.2
  exact lq [_] [] [.le (.a (.c (.a (.k 25) Nq)) Kr) (.k 25)] .f [] rfl h3
 exact e2▸e1
theorem Tab.small {C:TC} (T:Tab C):(arrInts C.arr).length+(liveN C.nodes).length≤100:=by
 have:=T.nodes
 have:=T.arr
 exact lq [_,_] [] [.l Nq (.k 33),.l Nr (.k 25)] (.l (.a Nr Nq) (.k 100)) [] rfl (by assumption) this
theorem Tab.kb {C:TC} (T:Tab C):∀ (i:Nat) (n:NodeR) (k:Int) (t:Tok),C.nodes[i]?=some n→n.key=.int k t→k≤1000000:=by
 intro i n k t hn e
 have:S0 (.i k):=T.keys (.i k) (fidx_mem.mpr ⟨i,n,hn,by rw [e]; rfl⟩)
 have:=this.2
 exact lq [] [_] [.le Zq (.k 25)] (.le Zq (.k 1000000)) [] rfl this
theorem Tab.flagged {C:TC} {v:Value} (T:Tab C):Tab { C with flags:=v } :=
 ⟨⟨T.wf.n,T.wf.arr,T.wf.out,T.wf.fr0,T.wf.fr1,T.wf.free,T.wf.la,T.wf.ln⟩,T.keys,T.live⟩
noncomputable def Upd1 (C C':TC) (k:Ky) (v:Value):Prop:=Tab C'∧∀ k',look C' k'=if k'=k then v else look C k'
theorem Tab.upd {C C':TC} {k:Ky} {v:Value} (T:Tab C) (h:S0 k) (P:Put C C' k v):Upd1 C C' k v:=⟨T.put h P,P.lk⟩
section
theorem spec_put (A:TA) (C:TC) (R:Led) (kv v:Value) (k:Ky) (T₀:Tab C) (hok:okKey kv) (hk:ky kv=some k) (hv:isV v) (hS:S0 k) :
  Spec w mean mg mb (.ref 405) [.ref A.t,kv,v,.none] 55 (TL w.params A C R) (fun r l=>r=.none∧∃ C',l=TL w.params A C' R∧Upd1 C C' k v):=by
 have W:=T₀.wf
 have hla:=W.la
 have hln:=W.ln
 have hsm:=T₀.small
 have hb:=T₀.kb
 have hb2:∀ n t,kv=.int n t→n≤1000000:=by
  intro n t e
  subst e
  cases hk
  have:=hS.2
  exact lq [] [_] [.le Zq (.k 25)] (.le Zq (.k 1000000)) [] rfl this
 have hi:=inArr_aix hk C.arr.length
 refine Spec.enterA (by k_is) (by k_is) (fun s X=>(BindsTo.of_eq rfl)) rfl (by kernel_rfl) (by kernel_rfl) rfl rfl rfl (by decide) ?_
 refine HS.assign 4 sl4 rfl (Ev.of (HE.callK rfl (Ev.glob 6 sl6 (by k_is)) (Evs.cons rfl (Ev.name 1 sl1 rfl) Evs.nil) (by k_is) (nb rfl) (spec_array_index kv _ hok))) (HS.ite (EvT.chain Ev.int (Ev.name 4 sl4 rfl) (Ev.lenA rfl rfl (Ev.blt 7 sl7 (by k_is) (by boot_by_name) (by kernel_rfl)) rfl (Ev.t_array rfl rfl (Ev.name 0 sl0 rfl)) hla) ICmp.le ICmp.le rfl) (fun z9=>(HS.t_arr rfl (Ev.name 2 sl2 rfl) (Ev.t_array rfl rfl (Ev.name 0 sl0 rfl)) (Ev.bin (Ev.name 4 sl4 rfl) Ev.int IOp.sub) (by assumption) hla (HS.nil (HS.ite (Ev.isNot (Ev.name 3 sl3 rfl)) (fun z9=>(False.elim (by contradiction))) (fun z9=>(HS.nil (HS.nil (HS.done ?_)))))))) (fun z9=>?_))
 ·exact ⟨rfl,_,rfl,T₀.upd hS (lay_put (lay_arr' W hv hk (by assumption)))⟩
 ·have hout:inArr C.arr.length k=false:=Bool.eq_false_iff.mpr fun e=>absurd (hi.mp e) (by assumption)
  cases hf:fidx C.nodes k with
  | none =>
   refine HS.assign 5 sl5 rfl (Ev.of (HE.meth (Ev.name 0 sl0 rfl) InsAt.tab ⟨by k_is,by k_is,by k_is,by k_is⟩ rfl rfl (Evs.cons rfl (Ev.name 1 sl1 rfl) Evs.nil) (nb rfl) (spec_find_none (WF.n W) hln hok hk hf))) (HS.ite (EvT.cmp (Ev.name 5 sl5 rfl) Ev.int ICmp.ge rfl) (fun z9=>(False.elim (by contradiction))) (fun z9=>(HS.expr rfl (HE.meth (Ev.name 0 sl0 rfl) InsAt.tab ⟨by k_is,by k_is,by k_is,by k_is⟩ rfl rfl (Evs.cons rfl (Ev.name 1 sl1 rfl) (Evs.cons rfl (Ev.name 2 sl2 rfl) (Evs.cons rfl (Ev.name 3 sl3 rfl) Evs.nil))) (nb rfl) (spec_new_key A C R kv v k W hok hk hv hf hout hb hb2 hsm)) ?_)))
   rintro _ _ ⟨rfl,C',rfl,hI⟩
   refine HS.nil (HS.nil (HS.ite (Ev.isNot (Ev.name 3 sl3 rfl)) (fun z9=>(False.elim (by contradiction))) (fun z9=>(HS.nil (HS.nil (HS.done ?_))))))
   exact ⟨rfl,_,rfl,T₀.upd hS hI⟩
  | some j =>
   obtain ⟨nd,hn,hnk⟩:=fidx_some hf
   refine HS.assign 5 sl5 rfl (Ev.of (HE.meth (Ev.name 0 sl0 rfl) InsAt.tab ⟨by k_is,by k_is,by k_is,by k_is⟩ rfl rfl (Evs.cons rfl (Ev.name 1 sl1 rfl) Evs.nil) (nb rfl) (spec_find_some (WF.n W) hln hok hk hf))) (HS.ite (EvT.cmp (Ev.name 5 sl5 rfl) Ev.int ICmp.ge rfl) (fun z9=>(HS.setV rfl (Ev.name 2 sl2 rfl) (Ev.node rfl rfl (Ev.t_nodes rfl rfl (Ev.name 0 sl0 rfl)) (Ev.name 5 sl5 rfl) rfl hn (idx_lt hn hln)) (SA.val rfl hn) (HS.nil (HS.nil (HS.ite (Ev.isNot (Ev.name 3 sl3 rfl)) (fun z9=>(False.elim (by contradiction))) (fun z9=>(HS.nil (HS.nil (HS.done ?_))))))))) (fun z9=>(False.elim (by exact lq [_] [] [.nl Kq Nq] .f [] rfl z9))))
   exact ⟨rfl,_,rfl,T₀.upd hS (put_val W hn hnk hv hout)⟩
end
section
theorem spec_set_int (A:TA) (C:TC) (R:Led) (kv v:Value) (k:Ky) (T₀:Tab C) (hok:okKey kv) (hk:ky kv=some k) (hv:isV v) (hS:S0 k) :
  Spec w mean mg mb (.ref 391) [.ref A.t,kv,v,.none] 56 (TL w.params A C R) (fun r l=>r=.none∧∃ C',l=TL w.params A C' R∧Upd1 C C' k v):=by
 refine Spec.enterA (by k_is) (by k_is) (fun s X=>(BindsTo.of_eq rfl)) rfl (by kernel_rfl) (by kernel_rfl) rfl rfl rfl (by decide) ?_
 refine HS.expr rfl (HE.meth (Ev.name 0 sl0 rfl) InsAt.tab ⟨by k_is,by k_is,by k_is,by k_is⟩ rfl rfl (Evs.cons rfl (Ev.name 1 sl1 rfl) (Evs.cons rfl (Ev.name 2 sl2 rfl) (Evs.cons rfl (Ev.name 3 sl3 rfl) Evs.nil))) (nb rfl) (spec_put A C R kv v k T₀ hok hk hv hS)) ?_
 rintro _ _ ⟨rfl,C',rfl,hU⟩
 refine HS.nil (HS.done ?_)
 exact ⟨rfl,_,rfl,hU⟩
theorem spec_set (A:TA) (C:TC) (R:Led) (kv v:Value) (k:Ky) (T₀:Tab C) (hok:okKey kv) (hk:ky kv=some k) (hv:isV v) (hS:S0 k) :
  Spec w mean mg mb (.ref 384) [.ref A.t,kv,v,.none] 56 (TL w.params A C R) (fun r l=>r=.none∧∃ C',l=TL w.params A C' R∧Upd1 C C' k v):=by
 have hkn:=ky_none hk
 refine Spec.enterA (by k_is) (by k_is) (fun s X=>(BindsTo.of_eq rfl)) rfl (by kernel_rfl) (by kernel_rfl) rfl rfl rfl (by decide) ?_
 refine HS.setI rfl Ev.int (Ev.name 0 sl0 rfl) (fun z9=>SA.flags) (fun z9=>(HS.ite (Ev.isNone (Ev.name 1 sl1 rfl)) (fun z9=>(False.elim (by contradiction))) (fun z9=>(HS.nil (HS.expr rfl (HE.meth (Ev.name 0 sl0 rfl) InsAt.tab ⟨by k_is,by k_is,by k_is,by k_is⟩ rfl rfl (Evs.cons rfl (Ev.name 1 sl1 rfl) (Evs.cons rfl (Ev.name 2 sl2 rfl) (Evs.cons rfl (Ev.name 3 sl3 rfl) Evs.nil))) (nb rfl) (spec_put A _ R kv v k (Tab.flagged T₀) hok hk hv hS)) ?_)))))
 rintro _ _ ⟨rfl,C',rfl,hU⟩
 refine HS.nil (HS.done ?_)
 exact ⟨rfl,_,rfl,hU⟩
end
noncomputable def Bord (C:TC) (n:Nat):Prop:=∀ k:Int,1≤k→(look C (.i k)≠.none↔k≤(n:Int))
theorem mid_eq (a b:Int):(a+b).fdiv 2=(a+b) / 2:=Int.fdiv_eq_ediv_of_nonneg _ (by decide)
theorem mid_in {a b:Int} (h:1 < b - a):a < (a+b).fdiv 2∧(a+b).fdiv 2 < b:=by
 rw [mid_eq]; exact lq [] [_,_,_] [.lt Kr (.s Zq Zr),.dv 2 1 (.a Zr Zq)] (.an (.lt Zr (.z 2)) (.lt (.z 2) Zq)) [[11011,10111]] rfl h rfl
theorem mu_lo {a b c:Int} (h:a < c) (h2:c < b):(b - c).toNat < (b - a).toNat:=by exact lq [_,_] [_,_,_] [.lt Zq Zr,.lt Zr (.z 2),.tn 0 (.s (.z 2) Zr),.tn 1 (.s (.z 2) Zq)] (.t Nq Nr) [[1100010010],[101010010],[100011100],[10011100]] rfl h h2 rfl rfl
theorem mu_hi {a b c:Int} (h:a < c) (h2:c < b):(c - a).toNat < (b - a).toNat:=by exact lq [_,_] [_,_,_] [.lt Zq Zr,.lt Zr (.z 2),.tn 0 (.s Zr Zq),.tn 1 (.s (.z 2) Zq)] (.t Nq Nr) [[1100010100],[101010100],[100011010],[10011010]] rfl h h2 rfl rfl
theorem EvT.andF {σ:St} {x:PySem.Expr} {y:List PySem.Expr} {pos:Pos} {p:Prop} (h1:EvT σ x p) (h2:¬ p):EvT σ (.BoolOp .And (x::y) pos) False :=
 fun z9 z9 z9 s T R=>isTrue_and (h1.use T R fun b z9 z9 hb R1=>by
  cases b with
  | false=>exact EvT.out (s:=s) R1 ⟨nofun,fun h=>h.elim⟩
  | true=>exact absurd (hb.mp rfl) h2)
section
theorem spec_unbound (A:TA) (C:TC) (R:Led) (n:Nat) (q:Int) (t:Tok) (W:WF C) (B₀:Bord C n) (hn:n≤100) (h0:0≤q) (hq:q≤n) :
  Spec w mean mg mb (.ref 502) [.ref A.t,.int q t] 10 (TL w.params A C R) (Pst (.i n) (TL w.params A C R)):=by
 refine Spec.enterA (by k_is) (by k_is) (fun s X=>(BindsTo.of_eq rfl)) rfl (by kernel_rfl) (by kernel_rfl) rfl rfl rfl (by decide) ?_
 refine HS.assign 2 sl2 rfl (Ev.name 1 sl1 rfl) (HS.assign 3 sl3 rfl (Ev.bin (Ev.nameI 1 sl1 rfl) Ev.int IOp.add) ?_)
 refine HS.whileU (X:=Int×Int) (fun x=>0≤x.1∧x.1≤n∧x.1 < x.2∧x.2≤2 * x.1+1) (fun x m=>(m.put 2 (.i x.1)).put 3 (.i x.2)) (fun _=>TL w.params A C R) (fun x=>((n:Int) - x.1).toNat) (q,q+1) ⟨h0,hq,Int.lt_succ q,by show q+1≤2 * q+1; exact lq [] [_] [.le Kq Zq] (.le (.a Zq Kr) (.a (.m 2 Zq) Kr)) [] rfl h0⟩ (by exact NM.Sub.same rfl (NM.Sub.int rfl (NM.Sub.same rfl (NM.Sub.same rfl NM.Sub.nil)))) rfl ?_
 intro x ⟨h1,h2,h3,h4⟩ Q' next _ _
 have hB:=B₀ x.2 (by exact lq [] [_,_] [.lt Zq Zr,.le Zr (.a (.m 2 Zq) Kr)] (.le Kr Zr) [[1120]] rfl h3 h4)
 by_cases hg:look C (.i x.2)=.none
 ·have hhi:(n:Int) < x.2:=Int.not_le.mp fun h=>(hB.mpr h) hg
  refine Tst.mk' (Ev.isNot (Ev.of (HE.meth (Ev.name 0 sl0 rfl) InsAt.tab ⟨by k_is,by k_is,by k_is,by k_is⟩ rfl rfl (Evs.cons rfl (Ev.name 3 sl3 rfl) Evs.nil) (nb rfl) (fun _=>(spec_get_int A C R (x.snd) _ W))))) (fun _=>(False.elim (by contradiction))) (fun _=>?_)
  refine HS.whileU (X:=Int×Int) (fun x=>0≤x.1∧x.1≤n∧n < x.2) (fun x m=>(m.put 2 (.i x.1)).put 3 (.i x.2)) (fun _=>TL w.params A C R) (fun x=>(x.2 - x.1).toNat) x ⟨h1,h2,hhi⟩ (by exact NM.Sub.same rfl (NM.Sub.same rfl (NM.Sub.same rfl (NM.Sub.same rfl NM.Sub.nil)))) rfl ?_
  intro x ⟨h1,h2,h3⟩ Q' next _ _
  by_cases hlt:1 < x.2 - x.1
  ·obtain ⟨m1,m2⟩:=mid_in hlt
   have hB2:=B₀ ((x.1+x.2).fdiv 2) (Int.lt_of_le_of_lt h1 m1)
   refine Tst.mk' (EvT.cmp (Ev.bin (Ev.name 3 sl3 rfl) (Ev.name 2 sl2 rfl) IOp.sub) Ev.int ICmp.gt rfl) (fun _=>(HS.assign 4 sl4 rfl (Ev.bin (Ev.bin (Ev.name 2 sl2 rfl) (Ev.name 3 sl3 rfl) IOp.add) Ev.int (IOp.fdiv (by decide) (by decide))) (HS.ite (Ev.isNone (Ev.of (HE.meth (Ev.name 0 sl0 rfl) InsAt.tab ⟨by k_is,by k_is,by k_is,by k_is⟩ rfl rfl (Evs.cons rfl (Ev.name 4 sl4 rfl) Evs.nil) (nb rfl) (fun _=>(spec_get_int A C R ((x.fst+x.snd).fdiv 2) _ W))))) (fun _=>(HS.assign 3 sl3 rfl (Ev.name 4 sl4 rfl) (HS.nil (HS.nil (HS.done ?_))))) (fun _=>(HS.assign 2 sl2 rfl (Ev.name 4 sl4 rfl) (HS.nil (HS.nil (HS.done ?_)))))))) (fun _=>(False.elim (by contradiction)))
   ·rename_i hg2
    exact next (x.1,(x.1+x.2).fdiv 2) _ ⟨h1,h2,Int.not_le.mp fun h=>(hB2.mpr h) hg2⟩ (mu_hi m1 m2) (by exact NM.Sub.same rfl (NM.Sub.same rfl (NM.Sub.same rfl (NM.Sub.same rfl NM.Sub.nil))))
   ·rename_i hg2
    exact next ((x.1+x.2).fdiv 2,x.2) _ ⟨Int.le_of_lt (Int.lt_of_le_of_lt h1 m1),hB2.mp hg2,h3⟩ (mu_lo m1 m2) (by exact NM.Sub.same rfl (NM.Sub.same rfl (NM.Sub.same rfl (NM.Sub.same rfl NM.Sub.nil))))
  ·(refine (Tst.mk' (EvT.cmp (Ev.bin (Ev.name 3 sl3 rfl) (Ev.name 2 sl2 rfl) IOp.sub) Ev.int ICmp.gt rfl) (fun _=>(False.elim (by contradiction))) (fun _=>(HS.ret (Ev.name 2 sl2 rfl) ?_))))
   have e3:x.1=(n:Int):=by exact lq [_] [_,_] [.le Zq Nq,.lt Nq Zr,.nt Kr (.s Zr Zq)] (.eq Zq Nq) [[10010,11100]] rfl h2 h3 (by assumption)
   exact fun v hv=>⟨e3▸hv,rfl⟩
 ·have hhi:=hB.mp hg
  refine Tst.mk' (Ev.isNot (Ev.of (HE.meth (Ev.name 0 sl0 rfl) InsAt.tab ⟨by k_is,by k_is,by k_is,by k_is⟩ rfl rfl (Evs.cons rfl (Ev.name 3 sl3 rfl) Evs.nil) (nb rfl) (fun _=>(spec_get_int A C R (x.snd) _ W))))) (fun _=>(HS.assign 2 sl2 rfl (Ev.name 3 sl3 rfl) (HS.aug 3 sl3 rfl (fun _ _=>(by assumption)) Ev.int (IIOp.mul (by decide)) (HS.ite (EvT.cmp (Ev.name 3 sl3 rfl) (Ev.toI (Ev.glob 5 sl5 (by k_is))) ICmp.gt rfl) (fun _=>(False.elim (by lia))) (fun _=>(HS.nil (HS.nil (HS.done ?_)))))))) (fun _=>(False.elim (by contradiction)))
  exact next (x.2,x.2 * 2) _ ⟨Int.le_trans h1 (Int.le_of_lt h3),hhi,by show x.2 < x.2 * 2; lia,by show x.2 * 2≤2 * x.2+1; lia⟩ (by show ((n:Int) - x.2).toNat < ((n:Int) - x.1).toNat; exact lq [_,_,_] [_,_] [.lt Zq Zr,.le Zr Nq,.tn 1 (.s Nq Zr),.tn 2 (.s Nq Zq)] (.t Nr Ns) [[1100010010],[101010010],[110010110],[10110110]] rfl h3 hhi rfl rfl) (by exact NM.Sub.same rfl (NM.Sub.same rfl (NM.Sub.same rfl (NM.Sub.same rfl NM.Sub.nil))))
theorem spec_length (A:TA) (C:TC) (R:Led) (n:Nat) (W:WF C) (B₀:Bord C n) (hn:n≤100) :
  Spec w mean mg mb (.ref 495) [.ref A.t] 12 (TL w.params A C R) (Pst (.i n) (TL w.params A C R)):=by
 have hla:=W.la
 have hln:=W.ln
 have hend:C.nodes.length=0→n≤C.arr.length:=by
  intro h0
  refine Nat.not_lt.mp fun hlt=>?_
  have h1:=(B₀ ((C.arr.length:Int)+1) (by exact lq [_] [] [] (.le Kr (.a Nq Kr)) [] rfl)).mpr (by exact Int.ofNat_lt.2 hlt)
  refine h1 ?_
  rw [look_out (by exact lq [_] [] [.an (.le Kr (.a Nq Kr)) (.le (.a Nq Kr) Nq)] .f [[1100]] rfl)]
  have:C.nodes=[]:=List.eq_nil_of_length_eq_zero h0
  rw [this]; rfl
 have fin:(C.arr.length:Int)≤n→C.nodes.length=0→(C.arr.length:Int)=n:=fun h h0=>by have:=hend h0; exact lq [_,_] [] [.le Nq Nr,.l Nr Nq] (.eq Nq Nr) [[1010,1100]] rfl h this
 by_cases hz:C.arr.length=0
 ·have hle:(C.arr.length:Int)≤n:=by exact hz▸Int.natCast_nonneg _
  refine Spec.enterA (by k_is) (by k_is) (fun s X=>(BindsTo.of_eq rfl)) rfl (by kernel_rfl) (by kernel_rfl) rfl rfl rfl (by decide) ?_
  refine HS.assign 1 sl1 rfl (Ev.lenA rfl rfl (Ev.blt 4 sl4 (by k_is) (by boot_by_name) (by kernel_rfl)) rfl (Ev.t_array rfl rfl (Ev.name 0 sl0 rfl)) hla) ?_
  refine HS.ff (EvT.andF (by exact EvT.cmp (Ev.name 1 sl1 rfl) Ev.int ICmp.gt rfl) (by exact lq [_] [] [.e Nq Kq] (.nt Kq Nq) [[1010]] rfl hz)) not_false ?_
  refine HS.nil (HS.ite (EvT.cmp (Ev.lenN rfl rfl (Ev.blt 4 sl4 (by k_is) (by boot_by_name) (by kernel_rfl)) rfl (Ev.t_nodes rfl rfl (Ev.name 0 sl0 rfl)) hln) Ev.int ICmp.eq rfl) (fun _=>(HS.ret (Ev.name 1 sl1 rfl) ?_)) (fun _=>(HS.nil (HS.ret (Ev.of (HE.meth (Ev.name 0 sl0 rfl) InsAt.tab ⟨by k_is,by k_is,by k_is,by k_is⟩ rfl rfl (Evs.cons rfl (Ev.name 1 sl1 rfl) Evs.nil) (nb rfl) (fun _=>(spec_unbound A C R n (↑C.arr.length) _ W B₀ hn (by exact Int.natCast_nonneg _) hle)))) (fun _ _=>(And.intro (by assumption) rfl))))))
  rename_i h0
  exact fun v hv=>⟨fin hle (Int.ofNat.inj h0)▸hv,rfl⟩
 ·obtain ⟨x,hx⟩:=arr_at (C:=C) (n:=(C.arr.length:Int)) (by exact lq [_] [] [.nz Nq] (.an (.le Kr Nq) (.le Nq Nq)) [[0,100]] rfl hz)
  have hhx:=handed_arr W hx
  have hlk:=look_arr (C:=C) (n:=(C.arr.length:Int)) (by exact lq [_] [] [.nz Nq] (.an (.le Kr Nq) (.le Nq Nq)) [[0,100]] rfl hz) hx
  have hB:=B₀ (C.arr.length:Int) (by exact Int.ofNat_le.2 (Nat.pos_of_ne_zero hz))
  rw [hlk] at hB
  refine Spec.enterA (by k_is) (by k_is) (fun s X=>(BindsTo.of_eq rfl)) rfl (by kernel_rfl) (by kernel_rfl) rfl rfl rfl (by decide) ?_
  refine HS.assign 1 sl1 rfl (Ev.lenA rfl rfl (Ev.blt 4 sl4 (by k_is) (by boot_by_name) (by kernel_rfl)) rfl (Ev.t_array rfl rfl (Ev.name 0 sl0 rfl)) hla) (HS.ite (EvT.and (EvT.cmp (Ev.name 1 sl1 rfl) Ev.int ICmp.gt rfl) (fun _=>(Ev.isNone (Ev.arr rfl rfl (Ev.t_array rfl rfl (Ev.name 0 sl0 rfl)) (Ev.bin (Ev.name 1 sl1 rfl) Ev.int IOp.sub) (by exact Int.sub_nonneg_of_le (by assumption)) hx hla)))) (fun _=>(HS.assign 2 sl2 rfl Ev.int ?_)) (fun _=>(HS.nil (HS.ite (EvT.cmp (Ev.lenN rfl rfl (Ev.blt 4 sl4 (by k_is) (by boot_by_name) (by kernel_rfl)) rfl (Ev.t_nodes rfl rfl (Ev.name 0 sl0 rfl)) hln) Ev.int ICmp.eq rfl) (fun _=>(HS.ret (Ev.name 1 sl1 rfl) ?_)) (fun _=>(HS.nil ?_))))))
  ·rename_i hbr
   have hlt:(n:Int) < (C.arr.length:Int):=Int.not_le.mp fun h=>(hB.mpr h) hbr.2
   refine HS.whileU (X:=Int×Int) (fun x=>0≤x.1∧x.1≤n∧n < x.2∧x.2≤C.arr.length) (fun x m=>(m.put 2 (.i x.1)).put 1 (.i x.2)) (fun _=>TL w.params A C R) (fun x=>(x.2 - x.1).toNat) (0,(C.arr.length:Int)) ⟨Int.le_refl _,Int.natCast_nonneg _,hlt,Int.le_refl _⟩ (by exact NM.Sub.same rfl (NM.Sub.same rfl (NM.Sub.same rfl NM.Sub.nil))) rfl ?_
   intro x ⟨h1,h2,h3,h4⟩ Q' next _ _
   by_cases hlt:1 < x.2 - x.1
   ·obtain ⟨m1,m2⟩:=mid_in hlt
    have hB2:=B₀ ((x.1+x.2).fdiv 2) (Int.lt_of_le_of_lt h1 m1)
    have m3:1≤(x.1+x.2).fdiv 2∧(x.1+x.2).fdiv 2≤C.arr.length:=⟨Int.lt_of_le_of_lt h1 m1,Int.le_trans (Int.le_of_lt m2) h4⟩
    obtain ⟨y,hy⟩:=arr_at m3
    have hhy:=handed_arr W hy
    rw [look_arr m3 hy] at hB2
    refine Tst.mk' (EvT.cmp (Ev.bin (Ev.name 1 sl1 rfl) (Ev.name 2 sl2 rfl) IOp.sub) Ev.int ICmp.gt rfl) (fun _=>(HS.assign 3 sl3 rfl (Ev.bin (Ev.bin (Ev.name 2 sl2 rfl) (Ev.name 1 sl1 rfl) IOp.add) Ev.int (IOp.fdiv (by decide) (by decide))) (HS.ite (Ev.isNone (Ev.arr rfl rfl (Ev.t_array rfl rfl (Ev.name 0 sl0 rfl)) (Ev.bin (Ev.name 3 sl3 rfl) Ev.int IOp.sub) (by exact lq [_] [_] [.an (.le Kr Zq) (.le Zq Nq)] (.le Kq (.s Zq Kr)) [[1010]] rfl m3) hy hla)) (fun _=>(HS.assign 1 sl1 rfl (Ev.name 3 sl3 rfl) (HS.nil (HS.nil (HS.done ?_))))) (fun _=>(HS.assign 2 sl2 rfl (Ev.name 3 sl3 rfl) (HS.nil (HS.nil (HS.done ?_)))))))) (fun _=>(False.elim (by contradiction)))
    ·rename_i hg2
     exact next (x.1,(x.1+x.2).fdiv 2) _ ⟨h1,h2,Int.not_le.mp fun h=>(hB2.mpr h) hg2,m3.2⟩ (mu_hi m1 m2) (by exact NM.Sub.same rfl (NM.Sub.same rfl (NM.Sub.same rfl NM.Sub.nil)))
    ·rename_i hg2
     exact next ((x.1+x.2).fdiv 2,x.2) _ ⟨Int.le_of_lt m3.1,hB2.mp hg2,h3,h4⟩ (mu_lo m1 m2) (by exact NM.Sub.same rfl (NM.Sub.same rfl (NM.Sub.same rfl NM.Sub.nil)))
   ·(refine (Tst.mk' (EvT.cmp (Ev.bin (Ev.name 1 sl1 rfl) (Ev.name 2 sl2 rfl) IOp.sub) Ev.int ICmp.gt rfl) (fun _=>(False.elim (by contradiction))) (fun _=>(HS.ret (Ev.name 2 sl2 rfl) ?_))))
    have e3:x.1=(n:Int):=by exact lq [_] [_,_] [.le Zq Nq,.lt Nq Zr,.nt Kr (.s Zr Zq)] (.eq Zq Nq) [[10010,11100]] rfl h2 h3 (by assumption)
    exact fun v hv=>⟨e3▸hv,rfl⟩
  ·rename_i hbr h0
   have hle:=hB.mp fun e=>hbr ⟨by exact Int.ofNat_le.2 (Nat.pos_of_ne_zero hz),e⟩
   exact fun v hv=>⟨fin hle (Int.ofNat.inj h0)▸hv,rfl⟩
  ·rename_i hbr h0
   have hle:=hB.mp fun e=>hbr ⟨by exact Int.ofNat_le.2 (Nat.pos_of_ne_zero hz),e⟩
   (exact (HS.ret (Ev.of (HE.meth (Ev.name 0 sl0 rfl) InsAt.tab ⟨by k_is,by k_is,by k_is,by k_is⟩ rfl rfl (Evs.cons rfl (Ev.name 1 sl1 rfl) Evs.nil) (nb rfl) (fun _=>(spec_unbound A C R n (↑C.arr.length) _ W B₀ hn (by exact Int.natCast_nonneg _) hle)))) (fun _ _=>(And.intro (by assumption) rfl))))
end
noncomputable def slotC (C:TC) (p:Nat):Option (Ky×Value) :=
 if p < C.arr.length then (match C.arr[p]? with | some v=>if v=.none then none else some (.i ((p:Int)+1),v) | none=>none)
 else (match C.nodes[p - C.arr.length]? with | some n=>if n.val=.none then none else (ky n.key).map fun k=>(k,n.val) | none=>none)
noncomputable def tot (C:TC):Nat:=C.arr.length+C.nodes.length
noncomputable def ents (C:TC) (p:Nat):List (Ky×Value):=(List.range' p (tot C - p)).filterMap (slotC C)
theorem ents_end {C:TC} {p:Nat} (h:tot C≤p):ents C p=[]:=by
 unfold ents
 rw [show tot C - p=0 by exact lq [_,_,_] [] [.l Nq Nr,.sb 2 Nq Nr] (.e Ns Kq) [[10110,10000],[11000,10000]] rfl h rfl]; rfl
theorem ents_step {C:TC} {p:Nat} (h:p < tot C):ents C p=(slotC C p).toList++ents C (p+1):=by
 unfold ents
 rw [show tot C - p=(tot C - (p+1))+1 by exact lq [_,_,_,_] [] [.t Nq Nr,.sb 2 Nr Nq,.sb 3 Nr (.a Nq Kr)] (.e Ns (.a (.n 3) Kr)) [[1100100,1011000],[1010100,1101010],[0,1010100],[1001000,1100110]] rfl h rfl rfl,List.range'_succ,List.filterMap_cons]
 cases slotC C p <;> rfl
theorem ents_head {C:TC} {e:Ky×Value} {l:List (Ky×Value)}:∀ (d p:Nat),tot C - p=d→ents C p=e::l→∃ q,p≤q∧q < tot C∧slotC C q=some e∧ents C (q+1)=l:=by
 intro d
 induction d with
 | zero=>intro p hd h; rw [ents_end (by exact lq [_,_,_] [] [.e Nq Kq,.sb 0 Nr Ns] (.l Nr Ns) [[110010],[]] rfl hd rfl)] at h; cases h
 | succ d ih =>
  intro p hd h
  rw [ents_step (by omega)] at h
  cases hs:slotC C p with
  | none =>
   rw [hs] at h
   obtain ⟨q,h1,h2,h3,h4⟩:=ih (p+1) (by exact congrArg Nat.pred hd) h
   exact ⟨q,by exact Nat.le_of_lt h1,h2,h3,h4⟩
  | some x =>
   rw [hs] at h
   obtain ⟨e1,e2⟩:=List.cons.inj h
   subst e1
   exact ⟨p,Nat.le_refl _,by omega,hs,e2⟩
noncomputable def posOf (C:TC) (k:Ky):Option Nat:=if inArr C.arr.length k=true then (match k with | .i n=>some (n - 1).toNat | .b _=>none) else (fidx C.nodes k).map (·+C.arr.length)
theorem slot_pos {C:TC} (W:WF C) {q:Nat} {k:Ky} {v:Value} (h:slotC C q=some (k,v)):posOf C k=some q∧look C k=v∧v≠.none:=by
 unfold slotC at h
 by_cases hq:q < C.arr.length
 ·rw [if_pos hq] at h
  have hg:C.arr[q]?=some C.arr[q]:=by simp [hq]
  rw [hg] at h
  dsimp only at h
  split at h
  ·cases h
  ·rename_i hv
   cases h
   have hin:inArr C.arr.length (.i ((q:Int)+1))=true:=by simp [inArr]; exact lq [_,_] [] [.t Nq Nr] (.an (.le Kr (.a Nq Kr)) (.le (.a Nq Kr) Nr)) [[100,0]] rfl hq
   refine ⟨?_,?_,hv⟩
   ·unfold posOf
    rw [if_pos hin]
    dsimp only
    congr 1; exact lq [_,_] [] [.tn 0 (.s (.a Nr Kr) Kr)] (.e Nq Nr) [[10100,11000],[]] rfl rfl
   ·exact look_arr (by exact lq [_,_] [] [.t Nq Nr] (.an (.le Kr (.a Nq Kr)) (.le (.a Nq Kr) Nr)) [[100,0]] rfl hq) (by rw [show ((q:Int)+1 - 1).toNat=q by exact lq [_,_] [] [.tn 0 (.s (.a Nr Kr) Kr)] (.e Nq Nr) [[10100,11000],[]] rfl rfl]; exact hg)
 ·rw [if_neg hq] at h
  cases hn:C.nodes[q - C.arr.length]? with
  | none=>rw [hn] at h; cases h
  | some n =>
   rw [hn] at h
   dsimp only at h
   split at h
   ·cases h
   ·rename_i hv
    cases hk:ky n.key with
    | none=>rw [hk] at h; cases h
    | some k' =>
     rw [hk] at h
     cases h
     have hout:=ky_notin W hn hk
     refine ⟨?_,?_,hv⟩
     ·unfold posOf
      rw [hout,if_neg (by decide),fidx_of W.n hn hk]
      simp; exact lq [_,_,_] [] [.gt Nq Nr,.sb 2 Nq Nr] (.e (.a Ns Nr) Nq) [[10100,11000],[11010,10100]] rfl hq rfl
     ·rw [look_eq,hout,if_neg (by decide)]
      exact W.n.nodeGet_of hn hk
theorem slot_look {C:TC} (W:WF C) {k:Ky} (h:look C k≠.none):∃ q,q < tot C∧slotC C q=some (k,look C k):=by
 by_cases hin:inArr C.arr.length k=true
 ·cases k with
  | b l=>cases hin
  | i n =>
   have hn:1≤n∧n≤(C.arr.length:Int):=by simpa [inArr] using hin
   obtain ⟨x,hx⟩:=arr_at hn
   rw [look_arr hn hx] at h ⊢
   refine ⟨(n - 1).toNat,by unfold tot; exact lq [_,_,_] [_] [.an (.le Kr Zq) (.le Zq Nq),.tn 1 (.s Zq Kr)] (.t Nr (.a Nq Ns)) [[1010100],[110110]] rfl hn rfl,?_⟩
   unfold slotC
   rw [if_pos (by exact lq [_,_] [_] [.an (.le Kr Zq) (.le Zq Nq),.tn 1 (.s Zq Kr)] (.t Nr Nq) [[1010100],[110110]] rfl hn rfl),hx]
   dsimp only
   rw [if_neg h]
   congr 3; exact lq [_,_] [_] [.an (.le Kr Zq) (.le Zq Nq),.tn 1 (.s Zq Kr)] (.eq (.a Nr Kr) Zq) [[1010000,1100000],[110010,101000]] rfl hn rfl
 ·have hout:inArr C.arr.length k=false:=by simpa using hin
  rw [look_eq,hout,if_neg (by decide)] at h ⊢
  cases hf:fidx C.nodes k with
  | none=>exact absurd (nodeGet_none hf) h
  | some j =>
   obtain ⟨n,hn,hk⟩:=fidx_some hf
   rw [nodeGet_some hf hn] at h ⊢
   have hj:=(List.getElem?_eq_some_iff.mp hn).1
   refine ⟨C.arr.length+j,by unfold tot; exact Nat.add_lt_add_left hj _,?_⟩
   unfold slotC
   rw [if_neg (by exact lq [_,_] [] [] (.gt (.a Nq Nr) Nq) [] rfl),show C.arr.length+j - C.arr.length=j by exact lq [_,_,_] [] [.sb 0 (.a Nr Ns) Nr] (.e Nq Ns) [[1010,1100],[]] rfl rfl,hn]
   dsimp only
   rw [if_neg h,hk]
   rfl
theorem ents_mem {C:TC} {e:Ky×Value} {p:Nat}:e∈ents C p↔∃ q,p≤q∧q < tot C∧slotC C q=some e:=by
 unfold ents
 rw [List.mem_filterMap]
 constructor
 ·rintro ⟨q,hq,h⟩
  have:=List.mem_range'_1.mp hq
  exact ⟨q,by exact this.1,by omega,h⟩
 ·rintro ⟨q,h1,h2,h⟩
  exact ⟨q,List.mem_range'_1.mpr ⟨h1,by exact lq [_,_,_,_] [] [.t Nq Nr,.sb 3 Nr Ns] (.t Nq (.a Ns (.n 3))) [[11010],[]] rfl h2 rfl⟩,h⟩
noncomputable def NextIs (led:Led) (l:List (Ky×Value)) (r:Value) (led':Led):Prop:=match l with
 | []=>r=.none∧led'=led
 | e::_=>∃ T kv,r=.ref T∧led'=(T,tupObj #[kv,e.2])::led∧ky kv=some e.1
theorem pos_arr {C:TC} {kv:Value} {k:Ky} {p:Nat} (hk:ky kv=some k) (hp:posOf C k=some p) (h:1≤aix kv∧aix kv≤(C.arr.length:Int)):aix kv - 1=p:=by
 have hin:=(inArr_aix hk C.arr.length).mpr h
 unfold posOf at hp
 rw [if_pos hin] at hp
 cases kv with
 | int n t =>
  cases hk
  have hp':(n - 1).toNat=p:=by simpa using hp
  have h1:(1:Int)≤n:=h.1
  show n - 1=_
  exact lq [_,_] [_] [.e Nq Nr,.le Kr Zq,.tn 0 (.s Zq Kr)] (.eq (.s Zq Kr) Nr) [[11000010,10100100],[1010000,1101100]] rfl hp' h1 rfl
 | bytes b t=>cases hk; cases hin
 | _=>cases hk
theorem pos_node {C:TC} {k:Ky} {p:Nat} (hp:posOf C k=some p) (h:¬ inArr C.arr.length k=true):∃ j,fidx C.nodes k=some j∧p=C.arr.length+j:=by
 unfold posOf at hp
 rw [if_neg h] at hp
 cases hf:fidx C.nodes k with
 | none=>rw [hf] at hp; cases hp
 | some j=>rw [hf] at hp; exact ⟨j,rfl,by rw [Nat.add_comm]; exact (Option.some.inj hp).symm⟩
section
theorem CT.isi_key {σ:St} {v T:Value} (hv:v=.none∨okKey v) (e1:∀ P,kitOne (hd.heap_1_39 P) (.type "NoneType") T=some false) (e2:∀ P,kitOne (hd.heap_1_39 P) (.type "int") T=some false) (e3:∀ P,kitOne (hd.heap_1_39 P) (.type "bytes") T=some false):CT σ (.builtin "isinstance") [v,T] (.v (.bool false)):=by
 intro Ar g L s Tt R
 rcases hv with rfl | hv
 ·exact kia_one kitx_none (RS.In R Tt) trivial (e1 _) nofun fun tk=>Ev.out (s:=s) R rfl
 ·cases v with
  | int n t=>exact kia_one kitx_int (RS.In R Tt) trivial (e2 _) nofun fun tk=>Ev.out (s:=s) R rfl
  | bytes b t=>exact kia_one kitx_bytes (RS.In R Tt) trivial (e3 _) nofun fun tk=>Ev.out (s:=s) R rfl
  | _=>exact hv.elim
theorem spec_find_index_none (A:TA) (C:TC) (R:Led):Spec w mean mg mb (.ref 481) [.ref A.t,.none] 8 (TL w.params A C R) (Pst (.i (-1)) (TL w.params A C R)):=by
 refine Spec.enterA (by k_is) (by k_is) (fun s X=>(BindsTo.of_eq rfl)) rfl (by kernel_rfl) (by kernel_rfl) rfl rfl rfl (by decide) ?_
 (exact (HS.ite (Ev.isNone (Ev.name 1 sl1 rfl)) (fun z9=>(HS.ret (Ev.neg Ev.int) (fun z9 z9=>(And.intro (by assumption) rfl)))) (fun z9=>(False.elim (by contradiction)))))
theorem spec_find_index (A:TA) (C:TC) (R:Led) (kv:Value) (k:Ky) (p:Nat) (W:WF C) (hok:okKey kv) (hk:ky kv=some k) (hp:posOf C k=some p):Spec w mean mg mb (.ref 481) [.ref A.t,kv] 8 (TL w.params A C R) (Pst (.i p) (TL w.params A C R)):=by
 have hkn:=ky_none hk
 have hla:=W.la
 have hln:=W.ln
 refine Spec.enterA (by k_is) (by k_is) (fun s X=>(BindsTo.of_eq rfl)) rfl (by kernel_rfl) (by kernel_rfl) rfl rfl rfl (by decide) ?_
 refine HS.ite (Ev.isNone (Ev.name 1 sl1 rfl)) (fun _=>(False.elim (by contradiction))) (fun _=>(HS.nil (HS.assign 2 sl2 rfl (Ev.of (HE.callK rfl (Ev.glob 5 sl5 (by k_is)) (Evs.cons rfl (Ev.name 1 sl1 rfl) Evs.nil) (by k_is) (nb rfl) (spec_array_index kv (Mine.TL w.params A C R) hok))) (HS.ite (EvT.chain Ev.int (Ev.name 2 sl2 rfl) (Ev.lenA rfl rfl (Ev.blt 6 sl6 (by k_is) (by boot_by_name) (by kernel_rfl)) rfl (Ev.t_array rfl rfl (Ev.name 0 sl0 rfl)) hla) ICmp.le ICmp.le rfl) (fun _=>(HS.ret (Ev.bin (Ev.name 2 sl2 rfl) Ev.int IOp.sub) ?_)) (fun _=>(HS.nil ?_))))))
 ·have e:=pos_arr hk hp (by assumption)
  exact fun v hv=>⟨e▸hv,rfl⟩
 ·have hout:¬ inArr C.arr.length k=true:=fun e=>absurd ((inArr_aix hk _).mp e) (by assumption)
  obtain ⟨j,hf,rfl⟩:=pos_node hp hout
  obtain ⟨nj,hnj,hkj⟩:=fidx_some hf
  have hpos:0 < C.nodes.length:=Nat.lt_of_le_of_lt (Nat.zero_le _) (List.getElem?_eq_some_iff.mp hnj).1
  have hr:=mp_range kv C.nodes.length hpos
  obtain ⟨p,hmp⟩:∃ p:Nat,mp kv C.nodes.length=(p:Int):=⟨(mp kv C.nodes.length).toNat,(Int.toNat_of_nonneg hr.1).symm⟩
  obtain ⟨l,hc⟩:=W.n.chain p (by exact lq [_,_] [_] [.an (.le Kq Zq) (.lt Zq Nq),.eq Zq Nr] (.t Nr Nq) [[110100]] rfl hr hmp)
  have hin₀:j∈l:=W.n.reach j nj l hnj (ky_none hkj) (by rw [mp_ky hkj hk,hmp]; exact hc)
  refine HS.assign 3 sl3 rfl (Ev.ite (EvT.cmp (Ev.lenN rfl rfl (Ev.blt 6 sl6 (by k_is) (by boot_by_name) (by kernel_rfl)) rfl (Ev.t_nodes rfl rfl (Ev.name 0 sl0 rfl)) hln) Ev.int ICmp.gt rfl) (fun _=>(Ev.of (HE.meth (Ev.name 0 sl0 rfl) InsAt.tab ⟨by k_is,by k_is,by k_is,by k_is⟩ rfl rfl (Evs.cons rfl (Ev.name 1 sl1 rfl) Evs.nil) (nb rfl) (spec_main_position' A C R kv (↑p) hok hpos hln hmp)))) (fun _=>(False.elim (by exact lq [_] [_] [.an (.le Kq Zq) (.lt Zq Nq),.nt Kq Nq] .f [] rfl hr (by assumption))))) ?_
  refine HS.whileU (X:=Int×List Nat) (fun x=>Chain C.nodes x.1 x.2∧j∈x.2) (fun x m=>m.put 3 (.i x.1)) (fun _=>TL w.params A C R) (·.2.length) ((p:Int),l) ⟨hc,hin₀⟩ (by exact NM.Sub.same rfl (NM.Sub.same rfl (NM.Sub.same rfl (NM.Sub.same rfl NM.Sub.nil)))) rfl ?_
  intro x ⟨hc,hin⟩ Q' next _ ret
  have h0:0≤x.1:=Decidable.byContradiction fun h=>by rw [hc.out h] at hin; cases hin
  obtain ⟨i,n,l',hxi,hl',hn,hc'⟩:=hc.tail_of h0
  have hkn:=W.n.keys i n hn
  have hh1:=handed_key hkn
  refine Tst.mk' (EvT.cmp (Ev.name 3 sl3 rfl) Ev.int ICmp.ge rfl) (fun _=>(HS.assign 4 sl4 rfl (Ev.n_key rfl rfl rfl hn hh1 (Ev.node rfl rfl (Ev.t_nodes rfl rfl (Ev.name 0 sl0 rfl)) (Ev.name 3 sl3 rfl) hxi hn (idx_lt hn hln))) (HS.ite (EvT.ofB (Ev.of (HE.callK rfl (Ev.glob 7 sl7 (by k_is)) (Evs.cons rfl (Ev.name 4 sl4 rfl) (Evs.cons rfl (Ev.name 1 sl1 rfl) Evs.nil)) (by k_is) (nb rfl) (spec_raw_equal' hkn hk))) rfl) (fun _=>(HS.ret (Ev.bin (Ev.lenA rfl rfl (Ev.blt 6 sl6 (by k_is) (by boot_by_name) (by kernel_rfl)) rfl (Ev.t_array rfl rfl (Ev.name 0 sl0 rfl)) hla) (Ev.name 3 sl3 rfl) IOp.add) ?_)) (fun _=>(HS.nil ?_))))) (fun _=>(False.elim (by contradiction)))
  ·rename_i hb
   have e:=W.n.dist i j n nj _ hn hnj hb hkj
   exact fun v hv=>ret v _ _ ⟨by rw [hxi,e] at hv; exact hv,rfl⟩
  ·rename_i hb
   refine HS.ff (EvT.andF (by exact EvT.ofV (Ev.callB rfl (Ev.blt 8 sl8 (by k_is) (by boot_by_name) (by kernel_rfl)) (Evs.cons rfl (Ev.name 4 sl4 rfl) (Evs.cons rfl (Ev.glob 9 sl9 (by k_is)) Evs.nil)) (CT.isi_key hkn (fun _=>(by kit_is)) (fun _=>(by kit_is)) (fun _=>(by kit_is)))) rfl) Bool.false_ne_true) not_false ?_
   refine HS.nil (HS.assign 3 sl3 rfl (Ev.n_next rfl rfl rfl hn (Ev.node rfl rfl (Ev.t_nodes rfl rfl (Ev.name 0 sl0 rfl)) (Ev.name 3 sl3 rfl) hxi hn (idx_lt hn hln))) (HS.nil (HS.done ?_)))
   refine next (n.next,l') _ ⟨hc',?_⟩ (by simp [hl']) (by exact NM.Sub.int rfl (NM.Sub.same rfl (NM.Sub.same rfl (NM.Sub.same rfl NM.Sub.nil))))
   rw [hl'] at hin
   exact (List.mem_cons.mp hin).resolve_left fun e=>by subst e; rw [hn] at hnj; cases hnj; exact hb hkj
theorem slot_arr_none {C:TC} {p:Nat} (h:p < C.arr.length) (hg:C.arr[p]?=some .none):slotC C p=none:=by
 unfold slotC; rw [if_pos h,hg]; rfl
theorem slot_arr_some {C:TC} {p:Nat} {x:Value} (h:p < C.arr.length) (hg:C.arr[p]?=some x) (hx:x≠.none):slotC C p=some (.i ((p:Int)+1),x):=by
 unfold slotC; rw [if_pos h,hg]; exact if_neg hx
theorem slot_node_none {C:TC} {j:Nat} {n:NodeR} (hg:C.nodes[j]?=some n) (hx:n.val=.none):slotC C (C.arr.length+j)=none:=by
 unfold slotC; rw [if_neg (by exact lq [_,_] [] [] (.gt (.a Nq Nr) Nq) [] rfl),show C.arr.length+j - C.arr.length=j by exact lq [_,_,_] [] [.sb 0 (.a Nr Ns) Nr] (.e Nq Ns) [[1010,1100],[]] rfl rfl,hg]; exact if_pos hx
theorem slot_node_some {C:TC} {j:Nat} {n:NodeR} {k:Ky} (hg:C.nodes[j]?=some n) (hx:n.val≠.none) (hk:ky n.key=some k):slotC C (C.arr.length+j)=some (k,n.val):=by
 unfold slotC; rw [if_neg (by exact lq [_,_] [] [] (.gt (.a Nq Nr) Nq) [] rfl),show C.arr.length+j - C.arr.length=j by exact lq [_,_,_] [] [.sb 0 (.a Nr Ns) Nr] (.e Nq Ns) [[1010,1100],[]] rfl rfl,hg]
 dsimp only
 rw [if_neg hx,hk]; rfl
theorem spec_next_at (A:TA) (C:TC) (R:Led) (kv:Value) (p:Nat) (a:Int) (W:WF C) (ha:a+1=(p:Int)) (hf:Spec w mean mg mb (.ref 481) [.ref A.t,kv] 8 (TL w.params A C R) (Pst (.i a) (TL w.params A C R))) :
  Spec w mean mg mb (.ref 488) [.ref A.t,kv] 10 (TL w.params A C R) (fun r l=>NextIs (TL w.params A C R) (ents C p) r l):=by
 have hla:=W.la
 have hln:=W.ln
 refine Spec.enterA (by k_is) (by k_is) (fun s X=>(BindsTo.of_eq rfl)) rfl (by kernel_rfl) (by kernel_rfl) rfl rfl rfl (by decide) ?_
 refine HS.assign 2 sl2 rfl (Ev.bin (Ev.of (HE.meth (Ev.name 0 sl0 rfl) InsAt.tab ⟨by k_is,by k_is,by k_is,by k_is⟩ rfl rfl (Evs.cons rfl (Ev.name 1 sl1 rfl) Evs.nil) (nb rfl) hf)) Ev.int IOp.add) ?_
 refine HS.whileU (X:=Nat) (fun q=>ents C p=ents C q) (fun q m=>m.put 2 (.i q)) (fun _=>TL w.params A C R) (fun q=>C.arr.length - q) p rfl (by exact NM.Sub.eqI rfl ha (NM.Sub.same rfl (NM.Sub.same rfl NM.Sub.nil))) rfl ?_
 intro q he Q' next _ ret
 by_cases hq:q < C.arr.length
 ·obtain ⟨x,hx⟩:∃ x,C.arr[((q:Nat):Int).toNat]?=some x:=⟨C.arr[q],by simp [hq]⟩
  have hx':C.arr[q]?=some x:=hx
  have hhx:=handed_arr W hx
  have hst:=ents_step (C:=C) (p:=q) (Nat.lt_of_lt_of_le hq (Nat.le_add_right _ _))
  refine Tst.mk' (EvT.cmp (Ev.name 2 sl2 rfl) (Ev.lenA rfl rfl (Ev.blt 5 sl5 (by k_is) (by boot_by_name) (by kernel_rfl)) rfl (Ev.t_array rfl rfl (Ev.name 0 sl0 rfl)) hla) ICmp.lt rfl) (fun _=>(HS.ite (Ev.isNot (Ev.arr rfl rfl (Ev.t_array rfl rfl (Ev.name 0 sl0 rfl)) (Ev.name 2 sl2 rfl) (by exact Int.natCast_nonneg _) hx hla)) (fun _=>(HS.retT (Evs.cons rfl (Ev.bin (Ev.name 2 sl2 rfl) Ev.int IOp.add) (Evs.cons rfl (Ev.arr rfl rfl (Ev.t_array rfl rfl (Ev.name 0 sl0 rfl)) (Ev.name 2 sl2 rfl) (by exact Int.natCast_nonneg _) hx hla) Evs.nil)) rfl ?_)) (fun _=>(HS.nil (HS.aug 2 sl2 rfl (fun _ _=>(by assumption)) Ev.int IIOp.add (HS.nil (HS.done ?_))))))) (fun _=>(False.elim (by exact lq [_,_] [] [.t Nq Nr,.nt Nq Nr] .f [] rfl hq (by assumption))))
  ·rename_i hx0
   rw [slot_arr_some hq hx' hx0] at hst
   rintro D vs h
   obtain ⟨v1,v2,rfl,⟨t,rfl⟩,rfl⟩:=h.two
   refine ret _ _ _ ?_
   show NextIs _ (ents C p) _ _
   rw [he,hst]
   exact ⟨D,_,rfl,rfl,rfl⟩
  ·rename_i hx0
   rw [slot_arr_none hq (Decidable.not_not.mp hx0▸hx')] at hst
   exact next (q+1) _ (he.trans hst) (Nat.sub_succ_lt_self _ _ hq) (by exact NM.Sub.same rfl (NM.Sub.same rfl (NM.Sub.same rfl NM.Sub.nil)))
 ·have e:(q:Int) - C.arr.length=((q - C.arr.length:Nat):Int):=by exact lq [_,_,_] [] [.gt Nq Nr,.sb 2 Nq Nr] (.eq (.s Nq Nr) Ns) [[11000,10100],[10100,11010]] rfl hq rfl
  refine Tst.mk' (EvT.cmp (Ev.name 2 sl2 rfl) (Ev.lenA rfl rfl (Ev.blt 5 sl5 (by k_is) (by boot_by_name) (by kernel_rfl)) rfl (Ev.t_array rfl rfl (Ev.name 0 sl0 rfl)) hla) ICmp.lt rfl) (fun _=>(False.elim (by exact lq [_,_,_] [] [.eq (.s Nq Nr) Ns,.lt Nq Nr,.sb 2 Nq Nr] .f [[1001100],[1001100]] rfl e (by assumption) rfl))) (fun _=>(HS.assign 3 sl3 rfl (Ev.bin (Ev.name 2 sl2 rfl) (Ev.lenA rfl rfl (Ev.blt 5 sl5 (by k_is) (by boot_by_name) (by kernel_rfl)) rfl (Ev.t_array rfl rfl (Ev.name 0 sl0 rfl)) hla) IOp.sub) ?_))
  refine HS.whileU (X:=Nat) (fun j=>ents C p=ents C (C.arr.length+j)) (fun j m=>m.put 3 (.i j)) (fun _=>TL w.params A C R) (fun j=>C.nodes.length - j) (q - C.arr.length) (he.trans (by congr 1; exact lq [_,_,_] [] [.nt Nq Nr,.sb 2 Nq Nr] (.e Nq (.a Nr Ns)) [[11000,10100],[10100,11010]] rfl (by assumption) rfl)) (by exact NM.Sub.eqI rfl e (NM.Sub.same rfl (NM.Sub.same rfl (NM.Sub.same rfl NM.Sub.nil)))) rfl ?_
  intro j he Q' next _ ret
  by_cases hj:j < C.nodes.length
  ·obtain ⟨n,hn⟩:∃ n,C.nodes[j]?=some n:=⟨C.nodes[j],by simp [hj]⟩
   have hst:=ents_step (C:=C) (p:=C.arr.length+j) (Nat.add_lt_add_left hj _)
   have hh1:=handed_key (W.n.keys j n hn)
   have hh2:=handed_val (W.n.vals j n hn)
   refine Tst.mk' (EvT.cmp (Ev.name 3 sl3 rfl) (Ev.lenN rfl rfl (Ev.blt 5 sl5 (by k_is) (by boot_by_name) (by kernel_rfl)) rfl (Ev.t_nodes rfl rfl (Ev.name 0 sl0 rfl)) hln) ICmp.lt rfl) (fun _=>(HS.assign 4 sl4 rfl (Ev.node rfl rfl (Ev.t_nodes rfl rfl (Ev.name 0 sl0 rfl)) (Ev.name 3 sl3 rfl) rfl hn (idx_lt hn hln)) (HS.ite (Ev.isNot (Ev.n_val rfl rfl rfl hn hh2 (Ev.name 4 sl4 rfl))) (fun _=>(HS.retT (Evs.cons rfl (Ev.n_key rfl rfl rfl hn hh1 (Ev.name 4 sl4 rfl)) (Evs.cons rfl (Ev.n_val rfl rfl rfl hn hh2 (Ev.name 4 sl4 rfl)) Evs.nil)) rfl ?_)) (fun _=>(HS.nil (HS.aug 3 sl3 rfl (fun _ _=>(by assumption)) Ev.int IIOp.add (HS.nil (HS.done ?_)))))))) (fun _=>(False.elim (by exact lq [_,_] [] [.t Nq Nr,.nt Nq Nr] .f [] rfl hj (by assumption))))
   ·rename_i hv0
    have hkn:n.key≠.none:=fun e=>hv0 (W.n.nonk j n hn e).2
    obtain ⟨k,hk⟩:=ky_ok (key_ky W.n hn hkn)
    rw [slot_node_some hn hv0 hk] at hst
    rintro D vs h
    obtain ⟨v1,v2,rfl,rfl,rfl⟩:=h.two
    refine ret _ _ _ ?_
    show NextIs _ (ents C p) _ _
    rw [he,hst]
    exact ⟨D,_,rfl,rfl,hk⟩
   ·rename_i hv0
    rw [slot_node_none hn (Decidable.not_not.mp hv0)] at hst
    exact next (j+1) _ (he.trans hst) (Nat.sub_succ_lt_self _ _ hj) (by exact NM.Sub.same rfl (NM.Sub.same rfl (NM.Sub.same rfl (NM.Sub.same rfl NM.Sub.nil))))
  ·(refine (Tst.mk' (EvT.cmp (Ev.name 3 sl3 rfl) (Ev.lenN rfl rfl (Ev.blt 5 sl5 (by k_is) (by boot_by_name) (by kernel_rfl)) rfl (Ev.t_nodes rfl rfl (Ev.name 0 sl0 rfl)) hln) ICmp.lt rfl) (fun _=>(False.elim (by exact lq [_,_] [] [.gt Nq Nr,.lt Nq Nr] .f [] rfl hj (by assumption)))) (fun _=>(HS.ret Ev.none ?_))))
   rintro v rfl
   show NextIs _ (ents C p) _ _
   rw [he,ents_end (Nat.add_le_add_left (Nat.not_lt.mp hj) _)]
   exact ⟨rfl,rfl⟩
theorem spec_next_none (A:TA) (C:TC) (R:Led) (W:WF C):Spec w mean mg mb (.ref 488) [.ref A.t,.none] 10 (TL w.params A C R) (fun r l=>NextIs (TL w.params A C R) (ents C 0) r l) :=
 spec_next_at A C R .none 0 (-1) W rfl (spec_find_index_none A C R)
theorem spec_next (A:TA) (C:TC) (R:Led) (kv:Value) (k:Ky) (v:Value) (p:Nat) (l:List (Ky×Value)) (W:WF C) (hok:okKey kv) (hk:ky kv=some k) (h:ents C p=(k,v)::l) :
  Spec w mean mg mb (.ref 488) [.ref A.t,kv] 10 (TL w.params A C R) (fun r led=>NextIs (TL w.params A C R) l r led∧∃ p',l=ents C p'):=by
 obtain ⟨q,h1,h2,h3,h4⟩:=ents_head _ p rfl h
 refine (spec_next_at A C R kv (q+1) (q:Int) W rfl (spec_find_index A C R kv k q W hok hk (slot_pos W h3).1)).mono (Nat.le_refl _) fun r led hN=>?_
 rw [h4] at hN
 exact ⟨hN,q+1,h4.symm⟩
end
theorem tab_new {P:Params} {A:TA} {C:TC} (ha:C.arr=[]) (hn:C.nodes=[]) (hf:C.fr=0):Tab C∧∀ k,look C k=.none:=by
 have hl:∀ k,look C k=.none:=by
  intro k
  rw [look_eq,ha,hn]
  cases k with
  | b l=>rfl
  | i n =>
   have e:inArr ([]:List Value).length (.i n)=false:=by
    simp only [inArr,List.length_nil]
    exact decide_eq_false (by exact lq [] [_] [.an (.le Kr Zq) (.le Zq (.c Kq))] .f [] rfl)
   rw [e]
   rfl
 refine ⟨⟨⟨by rw [hn]; exact fresh_nodes (by simp),by rw [ha]; simp,by rw [hn]; simp,by exact Int.le_of_eq hf.symm,by rw [hn,hf]; exact Int.le_refl _,by rw [hn]; simp,by rw [ha]; decide,by rw [hn]; decide⟩,fun k h=>?_,fun k h=>absurd (hl k) h⟩,hl⟩
 rw [hn] at h
 exact absurd rfl h
theorem tl_init {P:Params} {A:TA} {C:TC} {led:Led} (ha:C.arr=[]) (hn:C.nodes=[]) (h1:C.ea=0) (h2:C.en=0):(TL P A C led).Perm ((A.t,instObj 526 A.dt)::(A.dt,dictOf (tabEnts P A C) 10)::(C.ln,listOf #[] 0)::(C.la,listOf #[] 0)::led):=by
 unfold TL
 rw [ha,hn,h1,h2]
 exact .cons _ (.cons _ (.swap _ _ _))
section
theorem HE.cmeth {sh:Sh} {dep:Nat} {m:NM} {l:Led} {x:Str} {xp ap pos:Pos} {name:Str} {C f:Addr} {mc:Value} {args:List PySem.Expr} {Vs:List Vl} {d:Nat} {P:Value→Led→Prop} (ho:Ev ⟨⟨w,mean,mg,mb,sh,dep⟩,m,l⟩ (.Name x xp) (.v (.ref C)))
  (hs:specialIn (hd.heap_1_39 w.params) (.ref C) "__getattribute__"=some (some (.builtin "type.__getattribute__"))) (hm:typeIn (hd.heap_1_39 w.params) (.ref C)=some mc) (hr:readsIn (hd.heap_1_39 w.params) C mc=true) (hc:findCls (hd.heap_1_39 w.params) (.ref C) mc name=some (.val (.ref f))) (hk:keepIn (hd.heap_1_39 w.params) (.ref f)=true)
  (hfew:fewOk args ap pos=true) (ha:Evs ⟨⟨w,mean,mg,mb,sh,dep⟩,m,l⟩ args Vs) (hd:d≤dep) (S:AllV Vs fun vs=>Spec w mean mg mb (.ref f) vs d l P):HE ⟨⟨w,mean,mg,mb,sh,dep⟩,m,l⟩ (.Call (.Attribute (.Name x xp) name ap) args [] pos) P:=by
 intro Ar g L s T R
 refine MethodCall_ (ho.use T R fun z9 z9 z9 ev R1=>?_) (meth_of ha.plain hfew)
 cases ev
 obtain ⟨nm,F,H⟩:=R1.F
 refine method_of_cls F T.C.X hs (cls_val F T.C.X hm hr hc rfl ?_)
 cases ha with
 | nil=>exact callWith_K0 (RS.In R1 T) hk (spec_use hd S T R1 fun z9 z9 z9 z9 p R3=>HE.out (s:=s) R3 p)
 | @cons e es V Vs hs h t=>exact callWith_K (RS.In R1 T) hk ((Evs.cons hs h t).use T R1 fun vs z9 z9 hvs R2=>⟨RS.In R2 T,spec_use hd (S.get hvs) T R2 fun z9 z9 z9 z9 p R3=>HE.out (s:=s) R3 p⟩) (star_of hs) t.plain
theorem HS.setNewB {c:Cn} {m:NM} {R:Led} {ss:List Stmt} {K:List (List Stmt)} {Q:Flow→NM→Led→Prop} {o:PySem.Expr} {op pos:Pos} {name:Str} {x C dx:Addr} {es:List DictEntry} {n:Nat} {b:List UInt8} {kb:Nat} {lp:Pos} (hk:NewOk c.w.params C name) (hg:getL name es=some none) (hz:Nat.ble es.length 20=true) (ho:Ev ⟨c,m,(x,instObj C dx)::(dx,dictOf es n)::R⟩ o (.v (.ref x)))
  (k:∀ t tk,HS c (ss::K) m (newLed c.w.params x C dx es n name tk (.bytes b.toArray t) R) Q):HS c ((.Assign [.Attribute o name op] (.Constant (.bytes b) kb lp) pos::ss)::K) m ((x,instObj C dx)::(dx,dictOf es n)::R) Q :=
 HS.step fun z9 z9 z9 s T R0=>plainObj_wpAny_Assign_Attribute (Constant_bytes (ho.use T R0 fun z9 z9 z9 eo R2=>by
  cases eo
  exact set_new hk hg (Nat.lt_of_le_of_lt (Nat.le_of_ble_eq_true hz) (by decide)) T R2 fun h' tk' tk R3=>⟨h',tk',m,_,rfl,R3,k _ tk⟩)) (swaps_of rfl)
theorem spec_hinit (x dx:Addr) (i j:Int) (ti tj:Tok) (led:Led):Spec w mean mg mb (.ref 173) [.ref x,.int i ti,.int j tj] 3 ((x,instObj 526 dx)::(dx,dictOf [] 0)::led) (fun r l=>r=.none∧∃ q0 q1 q2 v1,l=(x,instObj 526 dx)::(dx,dictOf [⟨PyData.keyHash w.params (Str.ofString "number"),.str (Str.ofString "number") q0,.int i ti⟩,⟨PyData.keyHash w.params (Str.ofString "mark"),.str (Str.ofString "mark") q1,v1⟩,⟨PyData.keyHash w.params (Str.ofString "size"),.str (Str.ofString "size") q2,.int j tj⟩] 3)::led):=by
 refine Spec.enterA (by k_is) (by k_is) (fun s X=>(BindsTo.of_eq rfl)) rfl (by kernel_rfl) (by kernel_rfl) rfl rfl rfl (by decide) ?_
 refine HS.setNew rfl (NewOk.mk (by k_is) (by k_is) (by k_is) (by k_is)) (by kernel_rfl) rfl (Ev.name 1 sl1 rfl) (Ev.name 0 sl0 rfl) ?_
 rintro _ q0 rfl
 refine HS.setNew rfl (NewOk.mk (by k_is) (by k_is) (by k_is) (by k_is)) (by kernel_rfl) rfl Ev.int (Ev.name 0 sl0 rfl) ?_
 rintro v1 q1 -
 refine HS.setNew rfl (NewOk.mk (by k_is) (by k_is) (by k_is) (by k_is)) (by kernel_rfl) rfl (Ev.name 2 sl2 rfl) (Ev.name 0 sl0 rfl) ?_
 rintro _ q2 rfl
 refine HS.nil (HS.done ?_)
 exact ⟨rfl,q0,q1,q2,v1,rfl⟩
theorem spec_Table (i:Int) (ti:Tok) (led:Led):Spec w mean mg mb (.ref 526) [.int i ti] 8 led (fun r l=>∃ A C,r=.ref A.t∧l=TL w.params A C led∧C.arr=[]∧C.nodes=[]∧C.fr=0):=by
 refine Spec.perm (post:=fun r l=>∃ A C,r=.ref A.t∧(TL w.params A C led).Perm l∧C.arr=[]∧C.nodes=[]∧C.fr=0) ?_ (.refl _) fun r l ⟨A,C,h,p,e⟩=>⟨_,p,A,C,h,rfl,e⟩
 refine Spec.cls (by k_is) (by k_is) (by k_is) fun x dx=>?_
 refine' Spec.enterH (vs:=[_,_,_,_]) ?k6 ?k7 ?k9 ?kL ?kF ?kO ?c2 ?c3 ?c4 ?c5 ?_
 case k6=>k_is
 case k7=>k_is
 case k9=>(intro s X; first | exact BindsTo.of_eq rfl | exact binds_K X rfl (by k_is) rfl rfl rfl)
 case kL=>exact rfl
 case kF=>kernel_rfl
 case kO=>kernel_rfl
 case c5=>decide
 case c2=>exact rfl
 case c3=>exact rfl
 case c4=>exact rfl
 refine HS.expr rfl (HE.cmeth (Ev.glob 4 sl4 (by k_is)) (by k_is) (by k_is) (by k_is) (by k_is) (by k_is) rfl (Evs.cons rfl (Ev.name 0 sl0 rfl) (Evs.cons rfl (Ev.name 1 sl1 rfl) (Evs.cons rfl (Ev.glob 5 sl5 (by k_is)) Evs.nil))) (nb rfl) (spec_hinit x dx i 56 ti 569 led)) ?_
 rintro _ _ ⟨rfl,q0,q1,q2,v1,rfl⟩
 refine HS.setNew rfl (NewOk.mk (by k_is) (by k_is) (by k_is) (by k_is)) (by kernel_rfl) rfl Ev.none (Ev.name 0 sl0 rfl) ?_
 rintro _ q3 rfl
 refine HS.setNew rfl (NewOk.mk (by k_is) (by k_is) (by k_is) (by k_is)) (by kernel_rfl) rfl Ev.int (Ev.name 0 sl0 rfl) ?_
 rintro _ q4 ⟨t4,rfl⟩
 refine HS.setNewB (NewOk.mk (by k_is) (by k_is) (by k_is) (by k_is)) (by kernel_rfl) rfl (Ev.name 0 sl0 rfl) (fun z9 z9=>(HS.setNewL (NewOk.mk (by k_is) (by k_is) (by k_is) (by k_is)) (by kernel_rfl) rfl (fun z9=>(Ev.name 0 sl0 rfl)) (fun z9 z9=>(HS.setNewL (NewOk.mk (by k_is) (by k_is) (by k_is) (by k_is)) (by kernel_rfl) rfl (fun z9=>(Ev.name 0 sl0 rfl)) (fun z9 z9=>(HS.setNew rfl (NewOk.mk (by k_is) (by k_is) (by k_is) (by k_is)) (by kernel_rfl) rfl Ev.int (Ev.name 0 sl0 rfl) ?_))))))
 rintro _ q8 ⟨t8,rfl⟩
 refine HS.setNew rfl (NewOk.mk (by k_is) (by k_is) (by k_is) (by k_is)) (by kernel_rfl) rfl Ev.int (Ev.name 0 sl0 rfl) ?_
 rintro _ q9 ⟨t9,rfl⟩
 refine HS.ite (EvT.or (EvT.cmp (Ev.nameI 2 sl2 rfl) Ev.int ICmp.gt rfl) (fun z9=>(EvT.cmp (Ev.nameI 3 sl3 rfl) Ev.int ICmp.gt rfl))) (fun z9=>(False.elim (by contradiction))) (fun z9=>(HS.nil (HS.nil (HS.done ?_))))
 exact ⟨rfl,⟨x,dx,_,_,_,_,_,_,_,_,_,_⟩,⟨_,_,0,0,_,_,_,_,_,_,_,_,_,[],⟨fun z9=>0,fun z9=>0,fun z9=>0,fun z9=>0,fun z9=>0⟩,[]⟩,rfl,tl_init rfl rfl rfl rfl,rfl,rfl,rfl⟩
end
theorem Spec.meth {w:World} {mean:ExcName→Option Value} {mg mb:Names} {q:Addr} {f self:Value} {args:List Value} {dep:Nat} {led:Led} {post:Value→Led→Prop} (H:Spec w mean mg mb f (self::args) dep led post) (hq:(q,methodObj f self)∈led):Spec w mean mg mb (.ref q) args dep led post:=by
 intro Ar env g L m s Q E C F N D hret
 exact method_call (N _ hq).1 (H Ar env g L m s Q E C F N D hret)
noncomputable def Kept (w:World) (q:Addr) (h:Heap):Prop:=∃ k,(k=Keeper.frame∨k=Keeper.machine∨k=Keeper.boundFrame)∧Looks (model MProg w) h (keeperOf (.ref q)) k
noncomputable def CallsIn (w:World) (R:Led) (q:Addr):Prop:=∀ h:Heap,(∀ p∈R,h.get? p.1=some p.2)→(hd.heap_1_39 w.params).In h→Kept w q h
theorem kept_of {w:World} {R led:Led} {q:Addr} {h₀ h:Heap} {L:Addr} {m:Names} (H:CallsIn w R q) (F:Fr h₀ L h m) (X:(hd.heap_1_39 w.params).In h₀) (N:News h₀ L h led) (hs:∀ p∈R,p∈led):Kept w q h :=
 H h (fun p hp=>(N p (hs p hp)).1) (X.keeps F.keep)
theorem calls_meth {w:World} {R:Led} {q g:Addr} {self:Value} (hq:(q,methodObj (.ref g) self)∈R) (hf:fnIn (hd.heap_1_39 w.params) g=true):CallsIn w R q :=
 fun h hR X=>keeps_M hf h ⟨hR _ hq,X⟩
theorem calls_fn {w:World} {R:Led} {q:Addr} {oc:Value} {od:Option Addr} {fd:FuncData} {sl:Array (Option Value)} (hq:(q,(⟨oc,od,.func fd,sl⟩:Obj))∈R):CallsIn w R q :=
 fun h hR z9=>keeps_F h ⟨oc,od,fd,sl,hR _ hq⟩
section
variable {w:World} {A:Around} {E:Value→Shared→Prop} {s:Shared} {env:Env} {pos:Pos} {first:List Value} {Q:Value→Shared→Prop} {q:Addr} {R:Led}
theorem callWith_kept {e:PySem.Expr} {rest:List PySem.Expr} (_H:CallsIn w R q) (h:wpAny (model MProg w) A (spliced (backTo pos (starEach (e::rest) env))) (fun vs s₁=>Kept w q s₁.heap∧wpAny (model MProg w) A (call (.ref q) (first++vs)) Q E s₁) E s)
  (he:starEach (e::rest) env=(false,eval e env)::starEach rest env) (hplain:(backTo pos (starEach rest env)).any (·.1)=false) :
  wpAny (model MProg w) A (callWith pos (.ref q) first (backTo pos (starEach (e::rest) env)) []) Q E s:=by
 rw [he] at h ⊢
 exact callWith_of (P:=Kept w q) (by show ((false || (backTo pos (starEach rest env)).any (·.1)) || false)=false; rw [hplain]; rfl) (fun z9 h=>h) (evalArgs_plain h)
theorem callWith_kept0 (_H:CallsIn w R q) (X:Kept w q s.heap) (h:wpAny (model MProg w) A (call (.ref q) (first++[])) Q E s):wpAny (model MProg w) A (callWith pos (.ref q) first (backTo pos (starEach [] env)) []) Q E s :=
 callWith_of (P:=Kept w q) rfl (fun z9 h=>h) (evalArgs_nil3 ⟨X,h⟩)
end
section
variable {sh:Sh} {dep:Nat} {m:NM} {l:Led}
theorem HE.callQ {f e:PySem.Expr} {rest:List PySem.Expr} {pos:Pos} {R:Led} {q:Addr} {Vs:List Vl} {d:Nat} {P:Value→Led→Prop} (hn:noAtt f=true) (hf:Ev ⟨⟨w,mean,mg,mb,sh,dep⟩,m,l⟩ f (.v (.ref q))) (ha:Evs ⟨⟨w,mean,mg,mb,sh,dep⟩,m,l⟩ (e::rest) Vs) (hq:CallsIn w R q) (hR:∀ p∈R,p∈l)
  (hd:d≤dep) (S:AllV Vs fun vs=>Spec w mean mg mb (.ref q) vs d l P):HE ⟨⟨w,mean,mg,mb,sh,dep⟩,m,l⟩ (.Call f (e::rest) [] pos) P:=by
 intro Ar g L s T R0
 have hs:isStar e=false:=by cases ha; assumption
 have ht:∃ Vs',Evs ⟨⟨w,mean,mg,mb,sh,dep⟩,m,l⟩ rest Vs':=by cases ha; exact ⟨_,by assumption⟩
 refine Call_ (hf.use T R0 fun z9 z9 z9 ev R1=>?_) (callee_of hn)
 cases ev
 refine callWith_kept hq (ha.use T R1 fun vs z9 z9 hvs R2=>⟨?_,spec_use hd (S.get hvs) T R2 fun z9 z9 z9 z9 p R3=>HE.out (s:=s) R3 p⟩) (star_of hs) ht.choose_spec.plain
 obtain ⟨nm,F,H⟩:=R2.F
 exact kept_of hq F T.C.X R2.N hR
theorem HE.callQ0 {f:PySem.Expr} {pos:Pos} {R:Led} {q:Addr} {d:Nat} {P:Value→Led→Prop} (hn:noAtt f=true) (hf:Ev ⟨⟨w,mean,mg,mb,sh,dep⟩,m,l⟩ f (.v (.ref q))) (hq:CallsIn w R q) (hR:∀ p∈R,p∈l)
  (hd:d≤dep) (S:Spec w mean mg mb (.ref q) [] d l P):HE ⟨⟨w,mean,mg,mb,sh,dep⟩,m,l⟩ (.Call f [] [] pos) P:=by
 intro Ar g L s T R0
 refine Call_ (hf.use T R0 fun z9 z9 z9 ev R1=>?_) (callee_of hn)
 cases ev
 obtain ⟨nm,F,H⟩:=R1.F
 exact callWith_kept0 hq (kept_of hq F T.C.X R1.N hR) (spec_use hd S T R1 fun z9 z9 z9 z9 p R3=>HE.out (s:=s) R3 p)
end
theorem nodeGet_isV {ns:List NodeR} (W:WFn ns) (k:Ky):isV (nodeGet ns k):=by
 cases h:fidx ns k with
 | none=>rw [nodeGet_none h]; trivial
 | some j =>
  obtain ⟨n,hn,_⟩:=fidx_some h
  rw [nodeGet_some h hn]
  exact W.vals j n hn
theorem look_isV {C:TC} (T:Tab C) (k:Ky):isV (look C k):=by
 rw [look_eq]
 split
 ·cases k with
  | b l=>trivial
  | i n =>
   show isV ((C.arr[(n - 1).toNat]?).getD .none)
   cases h:C.arr[(n - 1).toNat]? with
   | none=>trivial
   | some v=>exact T.wf.arr v (List.mem_of_getElem? h)
 ·exact nodeGet_isV T.wf.n k
noncomputable def insF (C:TC) (n at':Int) (v:Value):Ky→Value
 | .i j=>if j=at' then v else if at' < j∧j≤n+1 then look C (.i (j - 1)) else look C (.i j)
 | .b l=>look C (.b l)
noncomputable def remF (C:TC) (n at':Int):Ky→Value
 | .i j=>if j=n then .none else if at'≤j∧j < n then look C (.i (j+1)) else look C (.i j)
 | .b l=>look C (.b l)
noncomputable def insP (C:TC) (n sl:Int):Ky→Value
 | .i j=>if sl < j∧j≤n+1 then look C (.i (j - 1)) else look C (.i j)
 | .b l=>look C (.b l)
noncomputable def remP (C:TC) (at' a:Int):Ky→Value
 | .i j=>if at'≤j∧j < a then look C (.i (j+1)) else look C (.i j)
 | .b l=>look C (.b l)
theorem ins_first (C:TC) (n:Int) (k:Ky):look C k=insP C n (n+1) k:=by
 cases k with
 | b l=>rfl
 | i j=>exact (if_neg fun h=>absurd h.1 (Int.not_lt.mpr h.2)).symm
theorem ins_step {C C₁ C₂:TC} {n sl:Int} (hlk:∀ k,look C₁ k=insP C n sl k) (h:sl≤n+1) (hU:Upd1 C₁ C₂ (.i sl) (look C₁ (.i (sl - 1)))) (k:Ky):look C₂ k=insP C n (sl - 1) k:=by
 rw [hU.2,hlk (.i (sl - 1))]
 cases k with
 | b l=>rw [if_neg nofun,hlk]; rfl
 | i j =>
  by_cases e:j=sl
  ·subst e
   rw [if_pos rfl]
   simp only [insP]
   rw [if_neg (by exact lq [] [_,_] [.an (.lt Zq (.s Zq Kr)) (.le (.s Zq Kr) (.a Zr Kr))] .f [[1010]] rfl),if_pos (by exact lq [] [_,_] [.le Zq (.a Zr Kr)] (.an (.lt (.s Zq Kr) Zq) (.le Zq (.a Zr Kr))) [[100,0]] rfl h)]
  ·rw [if_neg (fun h=>e (Ky.i.inj h)),hlk]
   simp only [insP]
   by_cases e2:sl < j∧j≤n+1
   ·rw [if_pos e2,if_pos (by exact lq [] [_,_,_] [.an (.lt Zq Zr) (.le Zr (.a (.z 2) Kr))] (.an (.lt (.s Zq Kr) Zr) (.le Zr (.a (.z 2) Kr))) [[1010,1100]] rfl e2)]
   ·rw [if_neg e2,if_neg (by exact lq [] [_,_,_] [.ne Zq Zr,.or (.nt Zr Zq) (.nl Zq (.a (.z 2) Kr)),.an (.lt (.s Zr Kr) Zq) (.le Zq (.a (.z 2) Kr))] .f [[101010],[],[100110],[110100]] rfl e (nab e2))]
theorem ins_end {C C₁ C₂:TC} {n at':Int} {v:Value} (hlk:∀ k,look C₁ k=insP C n at' k) (hU:Upd1 C₁ C₂ (.i at') v) (k:Ky):look C₂ k=insF C n at' v k:=by
 rw [hU.2,hlk]
 cases k with
 | b l=>rw [if_neg nofun]; rfl
 | i j =>
  simp only [insF]
  by_cases e:j=at'
  ·rw [if_pos e,if_pos (by rw [e])]
  ·rw [if_neg e,if_neg (fun h=>e (Ky.i.inj h))]; rfl
theorem rem_first (C:TC) (a:Int) (k:Ky):look C k=remP C a a k:=by
 cases k with
 | b l=>rfl
 | i j=>exact (if_neg fun h=>absurd h.1 (Int.not_le.mpr h.2)).symm
theorem rem_step {C C₁ C₂:TC} {at' a:Int} (hlk:∀ k,look C₁ k=remP C at' a k) (h:at'≤a) (hU:Upd1 C₁ C₂ (.i a) (look C₁ (.i (a+1)))) (k:Ky):look C₂ k=remP C at' (a+1) k:=by
 rw [hU.2,hlk (.i (a+1))]
 cases k with
 | b l=>rw [if_neg nofun,hlk]; rfl
 | i j =>
  by_cases e:j=a
  ·subst e
   rw [if_pos rfl]
   simp only [remP]
   rw [if_neg (by exact lq [] [_,_] [.an (.le Zq (.a Zr Kr)) (.lt (.a Zr Kr) Zr)] .f [[1100]] rfl),if_pos (by exact lq [] [_,_] [.le Zq Zr] (.an (.le Zq Zr) (.lt Zr (.a Zr Kr))) [[0,100]] rfl h)]
  ·rw [if_neg (fun h=>e (Ky.i.inj h)),hlk]
   simp only [remP]
   by_cases e2:at'≤j∧j < a
   ·rw [if_pos e2,if_pos (by exact lq [] [_,_,_] [.an (.le Zq Zr) (.lt Zr (.z 2))] (.an (.le Zq Zr) (.lt Zr (.a (.z 2) Kr))) [[1010,1100]] rfl e2)]
   ·rw [if_neg e2,if_neg (by exact lq [] [_,_,_] [.ne Zq Zr,.or (.nl (.z 2) Zq) (.nt Zq Zr),.an (.le (.z 2) Zq) (.lt Zq (.a Zr Kr))] .f [[101100],[100110],[],[110010]] rfl e (nab e2))]
theorem rem_end {C C₁ C₂:TC} {at' n:Int} (hlk:∀ k,look C₁ k=remP C at' n k) (hU:Upd1 C₁ C₂ (.i n) .none) (k:Ky):look C₂ k=remF C n at' k:=by
 rw [hU.2,hlk]
 cases k with
 | b l=>rw [if_neg nofun]; rfl
 | i j =>
  simp only [remF]
  by_cases e:j=n
  ·rw [if_pos e,if_pos (by rw [e])]
  ·rw [if_neg e,if_neg (fun h=>e (Ky.i.inj h))]; rfl
section
variable (w:World) (mean:ExcName→Option Value) (mg mb:Names) (A:TA) (R:Led)
noncomputable def GetK (ge:Addr):Prop:=∀ C n t,Tab C→Spec w mean mg mb (.ref ge) [.int n t] 60 (TL w.params A C R) (Pst (.v (look C (.i n))) (TL w.params A C R))
noncomputable def PutK (pu:Addr):Prop:=∀ C n t v,Tab C→isV v→S0 (.i n)→Spec w mean mg mb (.ref pu) [.int n t,v] 60 (TL w.params A C R) (fun r l=>r=.none∧∃ C',l=TL w.params A C' R∧Upd1 C C' (.i n) v)
end
section
variable {A:TA} {R:Led}
theorem GetK.use {ge:Addr} {C:TC} {n:Int} {t:Tok} (h:GetK w mean mg mb A R ge) (T:Tab C):Spec w mean mg mb (.ref ge) [.int n t] 60 (TL w.params A C R) (Pst (.v (look C (.i n))) (TL w.params A C R)):=h C n t T
theorem PutK.use {pu:Addr} {C:TC} {n:Int} {t:Tok} {v:Value} (h:PutK w mean mg mb A R pu) (T:Tab C) (hv:isV v) (hS:S0 (.i n)):Spec w mean mg mb (.ref pu) [.int n t,v] 60 (TL w.params A C R) (fun r l=>r=.none∧∃ C',l=TL w.params A C' R∧Upd1 C C' (.i n) v):=h C n t v T hv hS
theorem spec_insert_at (A:TA) (C:TC) (R:Led) (ge pu:Addr) (n at':Int) (t1 t2:Tok) (v:Value) (T₀:Tab C) (hv:isV v) (h1:1≤at') (h2:at'≤n+1) (hn:n≤24) (hgk:CallsIn w R ge) (hpk:CallsIn w R pu) (hget:GetK w mean mg mb A R ge) (hput:PutK w mean mg mb A R pu) :
  Spec w mean mg mb (.ref 28) [.ref ge,.ref pu,.int n t1,.int at' t2,v] 62 (TL w.params A C R) (fun r l=>r=.none∧∃ C',l=TL w.params A C' R∧Tab C'∧∀ k,look C' k=insF C n at' v k):=by
 have e:(if at' > n+1 then at' else n+1)=n+1:=if_neg (Int.not_lt.mpr h2)
 refine Spec.enterA (by k_is) (by k_is) (fun s X=>(BindsTo.of_eq rfl)) rfl (by kernel_rfl) (by kernel_rfl) rfl rfl rfl (by decide) ?_
 refine HS.assign 5 sl5 rfl (Ev.callB rfl (Ev.blt 6 sl6 (by k_is) (by boot_by_name) (by kernel_rfl)) (Evs.cons rfl (Ev.bin (Ev.nameI 2 sl2 rfl) Ev.int IOp.add) (Evs.cons rfl (Ev.name 3 sl3 rfl) Evs.nil)) (fun _=>CT.max)) ?_
 refine HS.whileU (X:=TC×Int) (fun x=>Tab x.1∧at'≤x.2∧x.2≤n+1∧∀ k,look x.1 k=insP C n x.2 k) (fun x m=>m.put 5 (.i x.2)) (fun x=>TL w.params A x.1 R) (fun x=>(x.2 - at').toNat) (C,n+1) ⟨T₀,h2,Int.le_refl _,ins_first C n⟩ (by exact NM.Sub.eqI rfl e (NM.Sub.same rfl (NM.Sub.same rfl (NM.Sub.same rfl (NM.Sub.same rfl (NM.Sub.same rfl NM.Sub.nil)))))) rfl ?_
 intro x ⟨T₁,hs1,hs2,hlk⟩ Q' next _ _
 have hS:S0 (.i x.2):=⟨by exact lq [] [_,_] [.le Kr Zq,.le Zq Zr] (.le (.g (.k 4)) Zr) [] rfl h1 hs1,by exact lq [] [_,_] [.le Zq (.k 24),.le Zr (.a Zq Kr)] (.le Zr (.k 25)) [] rfl hn hs2⟩
 have hS':S0 (.i at'):=⟨by exact Int.le_trans (by decide) h1,by exact lq [] [_,_,_] [.le Zq (.k 24),.le Zr (.z 2),.le (.z 2) (.a Zq Kr)] (.le Zr (.k 25)) [] rfl hn hs1 hs2⟩
 refine Tst.mk' (EvT.cmp (Ev.name 5 sl5 rfl) (Ev.nameI 3 sl3 rfl) ICmp.gt rfl) (fun _=>(HS.expr rfl (HE.callQ rfl (Ev.name 1 sl1 rfl) (Evs.cons rfl (Ev.name 5 sl5 rfl) (Evs.cons rfl (Ev.of (HE.callQ rfl (Ev.name 0 sl0 rfl) (Evs.cons rfl (Ev.bin (Ev.name 5 sl5 rfl) Ev.int IOp.sub) Evs.nil) hgk (fun _ _=>(mem_R (by assumption))) (nb rfl) (fun _=>(GetK.use hget T₁)))) Evs.nil)) hpk (fun _ _=>(mem_R (by assumption))) (nb rfl) (fun _=>(PutK.use hput T₁ (look_isV T₁ (Ky.i (x.snd - 1))) hS))) ?_)) (fun _=>(HS.expr rfl (HE.callQ rfl (Ev.name 1 sl1 rfl) (Evs.cons rfl (Ev.name 3 sl3 rfl) (Evs.cons rfl (Ev.name 4 sl4 rfl) Evs.nil)) hpk (fun _ _=>(mem_R (by assumption))) (nb rfl) (PutK.use hput T₁ hv hS')) ?_))
 ·rename_i hgt
  rintro _ _ ⟨rfl,C₂,rfl,hU⟩
  refine HS.aug 5 sl5 rfl (fun _ _=>(by assumption)) Ev.int IIOp.sub (HS.nil (HS.done ?_))
  exact next (C₂,x.2 - 1) _ ⟨hU.1,Int.le_sub_one_of_lt hgt,Int.le_trans (Int.sub_le_self _ (by decide)) hs2,ins_step hlk hs2 hU⟩ (by show (x.2 - 1 - at').toNat < (x.2 - at').toNat; exact lq [_,_] [_,_] [.lt Zq Zr,.tn 0 (.s (.s Zr Kr) Zq),.tn 1 (.s Zr Zq)] (.t Nq Nr) [[110001000],[10101000],[11001010],[1011010]] rfl hgt rfl rfl) (by exact NM.Sub.same rfl (NM.Sub.same rfl (NM.Sub.same rfl (NM.Sub.same rfl (NM.Sub.same rfl (NM.Sub.same rfl NM.Sub.nil))))))
 ·rename_i hgt
  have e3:x.2=at':=Int.le_antisymm (Int.not_lt.mp hgt) hs1
  rw [e3] at hlk
  rintro _ _ ⟨rfl,C₂,rfl,hU⟩
  refine HS.nil (HS.done ?_)
  exact ⟨rfl,_,rfl,hU.1,ins_end hlk hU⟩
theorem spec_remove_out (A:TA) (C:TC) (R:Led) (ge pu:Addr) (n at':Int) (t1 t2:Tok) (ho:at' < 1∨n < at') :
  Spec w mean mg mb (.ref 35) [.ref ge,.ref pu,.int n t1,.int at' t2] 62 (TL w.params A C R) (fun r l=>∃ T,r=.ref T∧l=(T,tupObj #[.bool false,.none])::TL w.params A C R):=by
 refine Spec.enterA (by k_is) (by k_is) (fun s X=>(BindsTo.of_eq rfl)) rfl (by kernel_rfl) (by kernel_rfl) rfl rfl rfl (by decide) ?_
 refine HS.ite (EvT.or (EvT.cmp (Ev.nameI 3 sl3 rfl) Ev.int ICmp.lt rfl) (fun z9=>(EvT.cmp (Ev.nameI 3 sl3 rfl) (Ev.nameI 2 sl2 rfl) ICmp.gt rfl))) (fun z9=>(HS.retT (Evs.cons rfl Ev.bool (Evs.cons rfl Ev.none Evs.nil)) rfl ?_)) (fun z9=>(False.elim (by contradiction)))
 ·rintro D vs h
  obtain ⟨v1,v2,rfl,rfl,rfl⟩:=h.two
  exact ⟨_,rfl,rfl⟩
theorem spec_remove_at (A:TA) (C:TC) (R:Led) (ge pu:Addr) (n at':Int) (t1 t2:Tok) (T₀:Tab C) (h1:1≤at') (h2:at'≤n) (hn:n≤24) (hgk:CallsIn w R ge) (hpk:CallsIn w R pu) (hget:GetK w mean mg mb A R ge) (hput:PutK w mean mg mb A R pu) :
  Spec w mean mg mb (.ref 35) [.ref ge,.ref pu,.int n t1,.int at' t2] 62 (TL w.params A C R) (fun r l=>∃ T C',r=.ref T∧l=(T,tupObj #[.bool true,look C (.i at')])::TL w.params A C' R∧Tab C'∧∀ k,look C' k=remF C n at' k):=by
 refine Spec.enterA (by k_is) (by k_is) (fun s X=>(BindsTo.of_eq rfl)) rfl (by kernel_rfl) (by kernel_rfl) rfl rfl rfl (by decide) ?_
 refine HS.ite (EvT.or (EvT.cmp (Ev.nameI 3 sl3 rfl) Ev.int ICmp.lt rfl) (fun _=>(EvT.cmp (Ev.nameI 3 sl3 rfl) (Ev.nameI 2 sl2 rfl) ICmp.gt rfl))) (fun _=>(False.elim (by exact lq [] [_,_] [.le Kr Zq,.le Zq Zr,.or (.lt Zq Kr) (.lt Zr Zq)] .f [[11010],[11100]] rfl h1 h2 (by assumption)))) (fun _=>(HS.nil (HS.assign 4 sl4 rfl (Ev.of (HE.callQ rfl (Ev.name 0 sl0 rfl) (Evs.cons rfl (Ev.name 3 sl3 rfl) Evs.nil) hgk (fun _ _=>(mem_R (by assumption))) (nb rfl) (GetK.use hget T₀))) ?_)))
 refine HS.whileU (X:=TC×Int) (fun x=>Tab x.1∧at'≤x.2∧x.2≤n∧∀ k,look x.1 k=remP C at' x.2 k) (fun x m=>m.put 3 (.i x.2)) (fun x=>TL w.params A x.1 R) (fun x=>(n - x.2).toNat) (C,at') ⟨T₀,Int.le_refl _,h2,rem_first C at'⟩ (by exact NM.Sub.same rfl (NM.Sub.same rfl (NM.Sub.same rfl (NM.Sub.same rfl (NM.Sub.int rfl NM.Sub.nil))))) rfl ?_
 intro x ⟨T₁,hs1,hs2,hlk⟩ Q' next _ _
 have hS:S0 (.i x.2):=⟨by lia,by exact lq [] [_,_] [.le Zq (.k 24),.le Zr Zq] (.le Zr (.k 25)) [] rfl hn hs2⟩
 have hS':S0 (.i n):=⟨by lia,by exact lq [] [_] [.le Zq (.k 24)] (.le Zq (.k 25)) [] rfl hn⟩
 have hv0:isV Value.none:=trivial
 refine Tst.mk' (EvT.cmp (Ev.name 3 sl3 rfl) (Ev.nameI 2 sl2 rfl) ICmp.lt rfl) (fun _=>(HS.expr rfl (HE.callQ rfl (Ev.name 1 sl1 rfl) (Evs.cons rfl (Ev.name 3 sl3 rfl) (Evs.cons rfl (Ev.of (HE.callQ rfl (Ev.name 0 sl0 rfl) (Evs.cons rfl (Ev.bin (Ev.name 3 sl3 rfl) Ev.int IOp.add) Evs.nil) hgk (fun _ _=>(mem_R (by assumption))) (nb rfl) (fun _=>(GetK.use hget T₁)))) Evs.nil)) hpk (fun _ _=>(mem_R (by assumption))) (nb rfl) (fun _=>(PutK.use hput T₁ (look_isV T₁ (Ky.i (x.snd+1))) hS))) ?_)) (fun _=>(HS.expr rfl (HE.callQ rfl (Ev.name 1 sl1 rfl) (Evs.cons rfl (Ev.name 2 sl2 rfl) (Evs.cons rfl Ev.none Evs.nil)) hpk (fun _ _=>(mem_R (by assumption))) (nb rfl) (PutK.use hput T₁ hv0 hS')) ?_))
 ·rename_i hlt
  rintro _ _ ⟨rfl,C₂,rfl,hU⟩
  refine HS.aug 3 sl3 rfl (fun _ _=>(by assumption)) Ev.int IIOp.add (HS.nil (HS.done ?_))
  exact next (C₂,x.2+1) _ ⟨hU.1,Int.le_trans hs1 (Int.le_of_lt (Int.lt_succ _)),hlt,rem_step hlk hs1 hU⟩ (by show (n - (x.2+1)).toNat < (n - x.2).toNat; exact lq [_,_] [_,_] [.lt Zq Zr,.tn 0 (.s Zr (.a Zq Kr)),.tn 1 (.s Zr Zq)] (.t Nq Nr) [[110001000],[10101000],[11001010],[1011010]] rfl hlt rfl rfl) (by exact NM.Sub.same rfl (NM.Sub.same rfl (NM.Sub.same rfl (NM.Sub.same rfl (NM.Sub.same rfl NM.Sub.nil)))))
 ·rename_i hlt
  have e3:x.2=n:=Int.le_antisymm hs2 (Int.not_lt.mp hlt)
  rw [e3] at hlk
  rintro _ _ ⟨rfl,C₂,rfl,hU⟩
  refine HS.retT (Evs.cons rfl Ev.bool (Evs.cons rfl (Ev.name 4 sl4 rfl) Evs.nil)) rfl ?_
  rintro D vs h
  obtain ⟨v1,v2,rfl,rfl,rfl⟩:=h.two
  exact ⟨_,_,rfl,rfl,hU.1,rem_end hlk hU⟩
end
noncomputable def Asked (p:Int→Bool) (n:Int) (r:Value):Prop:=(∃ i t,r=.int i t∧1≤i∧i≤n∧p i=true∧∀ j,1≤j→j < i→p j=false)∨(r=.none∧∀ j,1≤j→j≤n→p j=false)
theorem maxl_app (ks:List Int) (g k:Int):(k::ks).foldl max g=ks.foldl max (max g k):=rfl
theorem none_more {p:Int→Bool} {a:Int} (hp:¬ p a=true) (h:∀ j,1≤j→j < a→p j=false) (j:Int) (h1:1≤j) (h2:j < a+1):p j=false:=by
 by_cases e:j=a
 ·rw [e]; exact Bool.eq_false_iff.mpr hp
 ·exact h j h1 (by exact lq [] [_,_] [.lt Zq (.a Zr Kr),.ne Zq Zr] (.lt Zq Zr) [[1100],[1120]] rfl h2 e)
section
variable (w:World) (mean:ExcName→Option Value) (mg mb:Names)
noncomputable def AskK (ask:Addr) (led:Led) (p:Int→Bool) (n:Int):Prop:=∀ i t,1≤i→i≤n→Spec w mean mg mb (.ref ask) [.int i t] 60 led (Pst (.v (.bool (p i))) led)
noncomputable def Takes (S:List Int→Led→Prop) (ks:List Int) (r:Value) (l:Led):Prop:=match ks with
 | []=>r=.none∧S [] l
 | k::r'=>(∃ t,r=.int k t)∧S r' l
noncomputable def NextK (nx:Addr) (S:List Int→Led→Prop):Prop:=∀ ks l,S ks l→Spec w mean mg mb (.ref nx) [] 60 l (Takes S ks)
noncomputable def SubK (S:List Int→Led→Prop) (R:Led):Prop:=∀ ks l,S ks l→∀ p∈R,p∈l
end
section
theorem AskK.use {ask:Addr} {led:Led} {p:Int→Bool} {n i:Int} {t:Tok} (h:AskK w mean mg mb ask led p n) (h1:1≤i) (h2:i≤n):Spec w mean mg mb (.ref ask) [.int i t] 60 led (Pst (.v (.bool (p i))) led):=h i t h1 h2
theorem NextK.use {nx:Addr} {S:List Int→Led→Prop} {ks:List Int} {l:Led} (h:NextK w mean mg mb nx S) (hS:S ks l):Spec w mean mg mb (.ref nx) [] 60 l (Takes S ks):=h ks l hS
theorem SubK.use {S:List Int→Led→Prop} {R:Led} {ks:List Int} {l:Led} (h:SubK S R) (hS:S ks l):∀ p∈R,p∈l:=h ks l hS
theorem spec_asked (ask:Addr) (led:Led) (p:Int→Bool) (n:Int) (t1:Tok) (hak:CallsIn w led ask) (hask:AskK w mean mg mb ask led p n) :
  Spec w mean mg mb (.ref 56) [.ref ask,.int n t1] 62 led (fun r l=>Asked p n r∧l=led):=by
 refine Spec.enterA (by k_is) (by k_is) (fun s X=>(BindsTo.of_eq rfl)) rfl (by kernel_rfl) (by kernel_rfl) rfl rfl rfl (by decide) ?_
 refine HS.assign 2 sl2 rfl Ev.int ?_
 refine HS.whileU (X:=Int) (fun a=>1≤a∧∀ j,1≤j→j < a→p j=false) (fun a m=>m.put 2 (.i a)) (fun _=>led) (fun a=>(n+1 - a).toNat) 1 ⟨Int.le_refl _,fun j h1 h2=>absurd h1 (Int.not_le.mpr h2)⟩ (by exact NM.Sub.same rfl (NM.Sub.same rfl (NM.Sub.same rfl NM.Sub.nil))) rfl ?_
 intro a ⟨h1,hall⟩ Q' next _ ret
 refine Tst.mk' (EvT.cmp (Ev.name 2 sl2 rfl) (Ev.nameI 1 sl1 rfl) ICmp.le rfl) (fun _=>(HS.ite (EvT.ofV (Ev.of (HE.callQ rfl (Ev.name 0 sl0 rfl) (Evs.cons rfl (Ev.name 2 sl2 rfl) Evs.nil) hak (fun _ _=>(by assumption)) (nb rfl) (fun _=>(AskK.use hask h1 (by assumption))))) rfl) (fun _=>(HS.ret (Ev.name 2 sl2 rfl) ?_)) (fun _=>(HS.nil (HS.aug 2 sl2 rfl (fun _ _=>(by assumption)) Ev.int IIOp.add (HS.nil (HS.done ?_))))))) (fun _=>(HS.ret Ev.none ?_))
 ·rename_i hle hp
  rintro v ⟨t,rfl⟩
  exact ret _ _ _ ⟨.inl ⟨_,_,rfl,h1,hle,hp,hall⟩,rfl⟩
 ·rename_i hle hp
  exact next (a+1) _ ⟨Int.le_trans h1 (Int.le_of_lt (Int.lt_succ _)),none_more hp hall⟩ (by show (n+1 - (a+1)).toNat < (n+1 - a).toNat; exact lq [_,_] [_,_] [.le Zq Zr,.tn 0 (.s (.a Zr Kr) (.a Zq Kr)),.tn 1 (.s (.a Zr Kr) Zq)] (.t Nq Nr) [[110001000],[10101000],[11001010],[1011010]] rfl hle rfl rfl) (by exact NM.Sub.same rfl (NM.Sub.same rfl (NM.Sub.same rfl NM.Sub.nil)))
 ·rename_i hle
  rintro v rfl
  exact ⟨.inr ⟨rfl,fun j h1 h2=>hall j h1 (Int.lt_of_le_of_lt h2 (Int.not_le.mp hle))⟩,rfl⟩
theorem spec_greatest (nx:Addr) (R:Led) (S:List Int→Led→Prop) (hsub:SubK S R) (ks:List Int) (led:Led) (h0:S ks led) (hak:CallsIn w R nx) (hnx:NextK w mean mg mb nx S) :
  Spec w mean mg mb (.ref 49) [.ref nx] 62 led (fun r l=>(Vl.i (ks.foldl max 0)).is r∧S [] l):=by
 refine Spec.enterA (by k_is) (by k_is) (fun s X=>(BindsTo.of_eq rfl)) rfl (by kernel_rfl) (by kernel_rfl) rfl rfl rfl (by decide) ?_
 refine HS.assign 1 sl1 rfl Ev.int (HS.assignH 2 sl2 rfl (HE.callQ0 rfl (Ev.name 0 sl0 rfl) hak (SubK.use hsub h0) (nb rfl) (NextK.use hnx h0)) ?_)
 intro v l hT
 clear h0
 refine HS.whileU (X:=List Int×Value×Int×Led) (fun x=>Takes S x.1 x.2.1 x.2.2.2∧x.1.foldl max x.2.2.1=ks.foldl max 0) (fun x m=>(m.put 1 (.i x.2.2.1)).put 2 (.v x.2.1)) (fun x=>x.2.2.2) (fun x=>x.1.length) (ks,v,0,l) ⟨hT,rfl⟩ (by exact NM.Sub.same rfl (NM.Sub.same rfl (NM.Sub.same rfl NM.Sub.nil))) rfl ?_
 clear hT
 rintro ⟨ks',fv,g,L⟩ ⟨hT,hg⟩ Q' next _ _
 dsimp only at hT hg ⊢
 cases ks' with
 | nil =>
  obtain ⟨rfl,hS⟩:=hT
  refine Tst.mk' (Ev.isNot (Ev.name 2 sl2 rfl)) (fun _=>(False.elim (by contradiction))) (fun _=>(HS.ret (Ev.name 1 sl1 rfl) ?_))
  exact fun v hv=>⟨by rw [← hg]; exact hv,hS⟩
 | cons k r =>
  obtain ⟨⟨tk,rfl⟩,hS⟩:=hT
  have hne:Value.int k tk≠.none:=nofun
  rw [maxl_app] at hg
  refine Tst.mk' (Ev.isNot (Ev.name 2 sl2 rfl)) (fun _=>(HS.ite (EvT.cmp (Ev.nameI 2 sl2 rfl) (Ev.name 1 sl1 rfl) ICmp.gt rfl) (fun _=>(HS.assign 1 sl1 rfl (Ev.name 2 sl2 rfl) (HS.nil (HS.assignH 2 sl2 rfl (HE.callQ0 rfl (Ev.name 0 sl0 rfl) hak (SubK.use hsub hS) (nb rfl) (NextK.use hnx hS)) ?_)))) (fun _=>(HS.nil (HS.assignH 2 sl2 rfl (HE.callQ0 rfl (Ev.name 0 sl0 rfl) hak (SubK.use hsub hS) (nb rfl) (NextK.use hnx hS)) ?_))))) (fun _=>(False.elim (by contradiction)))
  ·intro v' l' hT'
   rename_i hgt
   rw [Int.max_eq_right (Int.le_of_lt hgt)] at hg
   refine HS.nil (HS.done ?_)
   exact next (r,v',k,l') _ ⟨hT',hg⟩ (Nat.lt_succ_self _) (by exact NM.Sub.same rfl (NM.Sub.int rfl (NM.Sub.same rfl NM.Sub.nil)))
  ·intro v' l' hT'
   rename_i hgt
   rw [Int.max_eq_left (Int.not_lt.mp hgt)] at hg
   refine HS.nil (HS.done ?_)
   exact next (r,v',g,l') _ ⟨hT',hg⟩ (Nat.lt_succ_self _) (by exact NM.Sub.same rfl (NM.Sub.same rfl (NM.Sub.same rfl NM.Sub.nil)))
end
noncomputable def swp (a:Int→Int) (i j:Int):Int→Int:=fun k=>if k=i then a j else if k=j then a i else a k
inductive Swaps (lo hi:Int):(Int→Int)→(Int→Int)→Prop where
 | refl {a:Int→Int}:Swaps lo hi a a
 | step {a b:Int→Int} {i j:Int}:Swaps lo hi a b→lo≤i→i≤hi→lo≤j→j≤hi→Swaps lo hi a (swp b i j)
theorem Swaps.mono {lo hi lo' hi':Int} {a b:Int→Int} (h:Swaps lo hi a b) (h1:lo'≤lo) (h2:hi≤hi'):Swaps lo' hi' a b:=by
 induction h with
 | refl=>exact .refl
 | step _ q1 q2 q3 q4 ih=>exact .step ih (by exact Int.le_trans h1 q1) (by exact Int.le_trans q2 h2) (by exact Int.le_trans h1 q3) (by exact Int.le_trans q4 h2)
theorem Swaps.trans {lo hi:Int} {a b c:Int→Int} (h:Swaps lo hi a b) (h':Swaps lo hi b c):Swaps lo hi a c:=by
 induction h' with
 | refl=>exact h
 | step _ q1 q2 q3 q4 ih=>exact .step ih q1 q2 q3 q4
theorem Swaps.out {lo hi:Int} {a b:Int→Int} (h:Swaps lo hi a b) {k:Int} (hk:¬ (lo≤k∧k≤hi)):b k=a k:=by
 induction h with
 | refl=>rfl
 | step _ q1 q2 q3 q4 ih =>
  unfold swp
  rw [if_neg (by exact lq [] [_,_,_,_] [.or (.nl Zq Zr) (.nl Zr (.z 2)),.le Zq (.z 3),.le (.z 3) (.z 2),.eq Zr (.z 3)] .f [[1100110],[1011010]] rfl (nab hk) q1 q2),if_neg (by exact lq [] [_,_,_,_] [.or (.nl Zq Zr) (.nl Zr (.z 2)),.le Zq (.z 3),.le (.z 3) (.z 2),.eq Zr (.z 3)] .f [[1100110],[1011010]] rfl (nab hk) q3 q4),ih]
theorem Swaps.all {lo hi:Int} {a b:Int→Int} (h:Swaps lo hi a b) {P:Int→Prop} (hP:∀ k,lo≤k→k≤hi→P (a k)):∀ k,lo≤k→k≤hi→P (b k):=by
 induction h with
 | refl=>exact hP
 | step _ q1 q2 q3 q4 ih =>
  intro k k1 k2
  unfold swp
  split
  ·exact ih _ q3 q4
  ·split
   ·exact ih _ q1 q2
   ·exact ih _ k1 k2
noncomputable def vals (a:Int→Int) (n:Nat):List Int:=(List.range n).map fun (i:Nat)=>a ((i:Int)+1)
theorem perm_swap_at {l:List Int} {i j:Nat} (hi:i < l.length) (hj:j < l.length):((l.set i l[j]).set j l[i]).Perm l:=by
 rw [List.perm_iff_count]
 intro x
 by_cases e:i=j
 ·subst e
  simp
 ·rw [List.count_set (by simpa using hj),List.count_set hi]
  have h1:(l.set i l[j])[j]'(by simpa using hj)=l[j]:=by rw [List.getElem_set_ne e]
  rw [h1]
  have c1:(if l[i] == x then 1 else 0)≤l.count x:=by
   split
   ·rename_i h
    have:l[i]=x:=by simpa using h
    exact List.count_pos_iff.mpr (this▸List.getElem_mem hi)
   ·exact Nat.zero_le _
  omega
theorem vals_swp {a:Int→Int} {n:Nat} {i j:Int} (hi:1≤i) (hi':i≤n) (hj:1≤j) (hj':j≤n):(vals (swp a i j) n).Perm (vals a n):=by
 have e:vals (swp a i j) n=((vals a n).set (i - 1).toNat ((vals a n)[(j - 1).toNat]'(by simp [vals]; lia))).set (j - 1).toNat ((vals a n)[(i - 1).toNat]'(by simp [vals]; lia)):=by
  apply List.ext_getElem
  ·simp [vals]
  ·intro k h1 h2
   have hk:k < n:=by simpa [vals] using h1
   rw [List.getElem_set,List.getElem_set]
   simp only [vals,List.getElem_map,List.getElem_range,swp]
   by_cases e1:(j - 1).toNat=k
   ·rw [if_pos e1]
    by_cases e2:(k:Int)+1=i
    ·rw [if_pos e2]
     congr 1; exact lq [_,_,_] [_,_] [.le Kr Zq,.e Nq Nr,.eq (.a Nr Kr) Zr,.tn 0 (.s Zq Kr),.tn 2 (.s Zr Kr)] (.eq Zq (.a Ns Kr)) [[1100100010100,1010010101000],[101100010100,110000000010],[100001000000,101010101010],[10001000000,11000000010]] rfl hj e1 e2 rfl rfl
    ·rw [if_neg e2,if_pos (by exact lq [_,_] [_] [.le Kr Zq,.e Nq Nr,.tn 0 (.s Zq Kr)] (.eq (.a Nr Kr) Zq) [[10101000,11000100],[1101010,1010000]] rfl hj e1 rfl)]
     congr 1; exact lq [_] [_] [.le Kr Zq,.tn 0 (.s Zq Kr)] (.eq Zq (.a Nq Kr)) [[110000,101000],[10100,11010]] rfl hi rfl
   ·rw [if_neg e1]
    by_cases e2:(i - 1).toNat=k
    ·rw [if_pos e2,if_pos (by exact lq [_,_] [_] [.le Kr Zq,.e Nq Nr,.tn 0 (.s Zq Kr)] (.eq (.a Nr Kr) Zq) [[10101000,11000100],[1101010,1010000]] rfl hi e2 rfl)]
     congr 1; exact lq [_] [_] [.le Kr Zq,.tn 0 (.s Zq Kr)] (.eq Zq (.a Nq Kr)) [[110000,101000],[10100,11010]] rfl hj rfl
    ·rw [if_neg e2,if_neg (by exact lq [_,_] [_] [.nn Nq Nr,.tn 0 (.s Zq Kr),.eq (.a Nr Kr) Zq] .f [[10110010],[1010110],[11001010],[1001010]] rfl e2 rfl),if_neg (by exact lq [_,_] [_] [.nn Nq Nr,.tn 0 (.s Zq Kr),.eq (.a Nr Kr) Zq] .f [[10110010],[1010110],[11001010],[1001010]] rfl e1 rfl)]
 rw [e]
 exact perm_swap_at _ _
theorem Swaps.perm {n:Nat} {a b:Int→Int} (h:Swaps 1 n a b):(vals b n).Perm (vals a n):=by
 induction h with
 | refl=>exact .refl _
 | step _ q1 q2 q3 q4 ih=>exact (vals_swp q1 q2 q3 q4).trans ih
noncomputable def Ord (key:Int→Int) (a:Int→Int) (lo hi:Int):Prop:=∀ j,lo≤j→j < hi→key (a j)≤key (a (j+1))
theorem ord_join {key:Int→Int} {a:Int→Int} {lo hi u P:Int} (hu:lo≤u) (hu2:u≤hi) (h1:Ord key a lo (u - 1)) (h2:Ord key a (u+1) hi) (hP:key (a u)=P)
  (l1:∀ j,lo≤j→j < u→key (a j)≤P) (l2:∀ j,u < j→j≤hi→P≤key (a j)):Ord key a lo hi:=by
 intro j j1 j2
 by_cases e:j+1 < u
 ·exact h1 j j1 (by exact Int.le_sub_one_of_lt e)
 ·by_cases e2:j+1=u
  ·rw [e2,hP]; exact l1 j j1 (by exact Int.le_of_eq e2)
  ·by_cases e3:j=u
   ·rw [e3,hP]; exact l2 _ (by exact Int.lt_succ _) (by exact e3▸j2)
   ·exact h2 j (by exact lq [] [_,_] [.nt (.a Zq Kr) Zr,.ne (.a Zq Kr) Zr,.ne Zq Zr] (.le (.a Zr Kr) Zq) [[10230],[],[11200],[11000]] rfl e e2 e3) j2
structure Part (key:Int→Int) (a:Int→Int) (lo hi up dn P:Int):Prop where
 u0:lo≤up
 d0:dn≤hi - 1
 ud:up≤dn
 ul:up < hi - 1
 dl:lo < dn
 low:∀ j,lo≤j→j≤up→key (a j)≤key P
 high:∀ j,dn≤j→j≤hi→key P≤key (a j)
 piv:a (hi - 1)=P
theorem Part.fin {key:Int→Int} {a:Int→Int} {lo hi up dn P u d:Int} (S:Part key a lo hi up dn P) (hu:up < u) (hu2:u≤hi - 1) (mu:∀ j,up < j→j < u→key (a j) < key P) (su:¬ key (a u) < key P)
  (hd:d < dn) (md:∀ j,d < j→j < dn→key P < key (a j)) (hdu:d < u) (_hlt:lo+1≤hi - 1) :
  (∀ j,lo≤j→j < u→key (swp a (hi - 1) u j)≤key P)∧swp a (hi - 1) u u=P∧∀ j,u < j→j≤hi→key P≤key (swp a (hi - 1) u j):=by
 have hge:∀ j,u≤j→j≤hi→key P≤key (a j):=by
  intro j j1 j2
  by_cases e:dn≤j
  ·exact S.high j e j2
  ·exact Int.le_of_lt (md j (by exact Int.lt_of_lt_of_le hdu j1) (by exact Int.not_le.1 e))
 refine ⟨fun j j1 j2=>?_,?_,fun j j1 j2=>?_⟩
 ·unfold swp
  rw [if_neg (by exact lq [] [_,_,_] [.le Zq (.s Zr Kr),.lt (.z 2) Zq,.eq (.z 2) (.s Zr Kr)] .f [[110110]] rfl hu2 j2),if_neg (by exact lq [] [_,_] [.lt Zq Zr,.eq Zq Zr] .f [[11010]] rfl j2)]
  by_cases e:j≤up
  ·exact S.low j j1 e
  ·exact Int.le_of_lt (mu j (by exact Int.not_le.1 e) j2)
 ·unfold swp
  by_cases e:u=hi - 1
  ·rw [if_pos e,e,S.piv]
  ·rw [if_neg e,if_pos rfl,S.piv]
 ·unfold swp
  by_cases e:j=hi - 1
  ·rw [if_pos e]; exact hge u (Int.le_refl _) (by exact lq [] [_,_,_] [.lt Zq Zr,.eq Zr (.s (.z 2) Kr)] (.le Zq (.z 2)) [[10110]] rfl j1 e)
  ·rw [if_neg e,if_neg (by exact lq [] [_,_] [.lt Zq Zr,.eq Zr Zq] .f [[10110]] rfl j1)]
   exact hge j (by exact Int.le_of_lt j1) j2
theorem Part.next {key:Int→Int} {a:Int→Int} {lo hi up dn P u d:Int} (S:Part key a lo hi up dn P) (hu:up < u) (hu2:u≤hi - 1) (mu:∀ j,up < j→j < u→key (a j) < key P) (su:¬ key (a u) < key P)
  (hd:d < dn) (hd2:lo≤d) (md:∀ j,d < j→j < dn→key P < key (a j)) (sd:¬ key P < key (a d)) (hdu:u≤d):Part key (swp a u d) lo hi u d P:=by
 have hd0:=S.d0
 have hu0:=S.u0
 refine ⟨by exact lq [] [_,_,_] [.lt Zq Zr,.le (.z 2) Zq] (.le (.z 2) Zr) [] rfl hu hu0,by exact lq [] [_,_,_] [.lt Zq Zr,.le Zr (.s (.z 2) Kr)] (.le Zq (.s (.z 2) Kr)) [] rfl hd hd0,hdu,by exact lq [] [_,_,_,_] [.lt Zq Zr,.le (.z 2) Zq,.le Zr (.s (.z 3) Kr)] (.lt (.z 2) (.s (.z 3) Kr)) [] rfl hd hdu hd0,by exact lq [] [_,_,_,_] [.lt Zq Zr,.le Zr (.z 2),.le (.z 3) Zq] (.lt (.z 3) (.z 2)) [] rfl hu hdu hu0,fun j j1 j2=>?_,fun j j1 j2=>?_,?_⟩
 ·unfold swp
  by_cases e:j=u
  ·rw [if_pos e]; exact Int.not_lt.1 sd
  ·rw [if_neg e,if_neg (by exact lq [] [_,_,_] [.le Zq Zr,.le (.z 2) Zq,.ne (.z 2) Zq,.eq (.z 2) Zr] .f [[1101010],[1001100]] rfl hdu j2 e)]
   by_cases e2:j≤up
   ·exact S.low j j1 e2
   ·exact Int.le_of_lt (mu j (by exact Int.not_le.1 e2) (by exact lq [] [_,_] [.le Zq Zr,.ne Zq Zr] (.lt Zq Zr) [[1100],[1120]] rfl j2 e))
 ·unfold swp
  by_cases e0:j=u
  ·rw [if_pos e0,show d=u by exact lq [] [_,_,_] [.le Zq Zr,.le Zr (.z 2),.eq (.z 2) Zq] (.eq Zr Zq) [[101100,100010]] rfl hdu j1 e0]; exact Int.not_lt.1 su
  rw [if_neg e0]
  by_cases e:j=d
  ·rw [if_pos e]; exact Int.not_lt.1 su
  ·rw [if_neg e]
   by_cases e2:dn≤j
   ·exact S.high j e2 j2
   ·exact Int.le_of_lt (md j (by exact lq [] [_,_] [.le Zq Zr,.ne Zr Zq] (.lt Zq Zr) [[1120],[1100]] rfl j1 e) (by exact Int.not_le.1 e2))
 ·unfold swp
  rw [if_neg (by exact lq [] [_,_,_,_] [.lt Zq Zr,.le (.z 2) Zq,.le Zr (.s (.z 3) Kr),.eq (.s (.z 3) Kr) (.z 2)] .f [[1011110]] rfl hd hdu hd0),if_neg (by exact lq [] [_,_,_] [.lt Zq Zr,.le Zr (.s (.z 2) Kr),.eq (.s (.z 2) Kr) Zq] .f [[101110]] rfl hd hd0)]
  exact S.piv
noncomputable abbrev QL (P:Params) (A:TA) (R:Led) (H:Addr) (C:TC) (hs:List Value) (e:Nat):Led:=TL P A C ((H,listOf hs.toArray e)::R)
structure QCall (w:World) (mean:ExcName→Option Value) (mg mb:Names) (A:TA) (R:Led) (H q dq ge pu le ho dr:Addr) (key:Int→Int):Prop where
 kg:CallsIn w R ge
 kp:CallsIn w R pu
 kl:CallsIn w R le
 kh:CallsIn w R ho
 kd:CallsIn w R dr
 inst:(q,instObj 135 dq)∈R
 dict:∃ k0 k1 k2 k3 k4,(dq,dictOf [⟨PyData.keyHash w.params (Str.ofString "get"),.str (Str.ofString "get") k0,.ref ge⟩,⟨PyData.keyHash w.params (Str.ofString "put"),.str (Str.ofString "put") k1,.ref pu⟩,⟨PyData.keyHash w.params (Str.ofString "less"),.str (Str.ofString "less") k2,.ref le⟩,
  ⟨PyData.keyHash w.params (Str.ofString "hold"),.str (Str.ofString "hold") k3,.ref ho⟩,⟨PyData.keyHash w.params (Str.ofString "drop"),.str (Str.ofString "drop") k4,.ref dr⟩] 5)∈R
 get:∀ C hs e n t,Tab C→Spec w mean mg mb (.ref ge) [.int n t] 60 (QL w.params A R H C hs e) (fun r l=>r=look C (.i n)∧l=QL w.params A R H C hs e)
 put:∀ C hs e n t v,Tab C→isV v→S0 (.i n)→Spec w mean mg mb (.ref pu) [.int n t,v] 60 (QL w.params A R H C hs e) (fun r l=>r=.none∧∃ C',l=QL w.params A R H C' hs e∧Upd1 C C' (.i n) v)
 less:∀ C hs e x t y u,Spec w mean mg mb (.ref le) [.int x t,.int y u] 60 (QL w.params A R H C hs e) (fun r l=>r=.bool (decide (key x < key y))∧l=QL w.params A R H C hs e)
 hold:∀ C hs e v,hs.length < 1000→Spec w mean mg mb (.ref ho) [v] 60 (QL w.params A R H C hs e) (fun r l=>r=.none∧∃ e',l=QL w.params A R H C (hs++[v]) e')
 drop:∀ C hs e v,hs.length < 1000→Spec w mean mg mb (.ref dr) [] 60 (QL w.params A R H C (hs++[v]) e) (fun r l=>r=v∧∃ e',l=QL w.params A R H C hs e')
structure QS (C₀:TC) (n:Int) (a:Int→Int) (C:TC):Prop where
 tab:Tab C
 at':∀ j,1≤j→j≤n→∃ t,look C (.i j)=.int (a j) t
 out:∀ k,(∀ j,k=.i j→¬ (1≤j∧j≤n))→look C k=look C₀ k
noncomputable def ups (a:Int→Int) (i x:Int):Int→Int:=fun k=>if k=i then x else a k
theorem QS.put {C₀ C C':TC} {n i x:Int} {t:Tok} {a:Int→Int} (S:QS C₀ n a C) (h1:1≤i) (h2:i≤n) (U:Upd1 C C' (.i i) (.int x t)):QS C₀ n (ups a i x) C':=by
 obtain ⟨hT,hL⟩:=U
 refine ⟨hT,fun j j1 j2=>?_,fun k hk=>?_⟩
 ·rw [hL]
  unfold ups
  by_cases e:j=i
  ·subst e; rw [if_pos rfl,if_pos rfl]; exact ⟨t,rfl⟩
  ·rw [if_neg (fun z=>e (Ky.i.inj z)),if_neg e]; exact S.at' j j1 j2
 ·rw [hL,if_neg (fun z=>hk i z ⟨h1,h2⟩)]; exact S.out k hk
theorem QS.congr {C₀ C:TC} {n:Int} {a b:Int→Int} (S:QS C₀ n a C) (h:∀ j,a j=b j):QS C₀ n b C :=
 ⟨S.tab,fun j j1 j2=>by rw [← h]; exact S.at' j j1 j2,S.out⟩
theorem swp_ups {C₀ C:TC} {n i j:Int} {a:Int→Int} (S:QS C₀ n (ups (ups a i (a j)) j (a i)) C):QS C₀ n (swp a i j) C:=S.congr fun k=>by
 unfold swp ups
 by_cases e:k=j
 ·subst e
  rw [if_pos rfl]
  by_cases e2:k=i
  ·subst e2; rw [if_pos rfl]
  ·rw [if_neg e2,if_pos rfl]
 ·rw [if_neg e]
  by_cases e2:k=i
  ·rw [if_pos e2,if_pos e2]
  ·rw [if_neg e2,if_neg e2,if_neg e]
theorem swp_l {a:Int→Int} {i j:Int}:swp a i j i=a j:=if_pos rfl
theorem swp_r {a:Int→Int} {i j:Int}:swp a i j j=a i:=by
 unfold swp
 by_cases e:j=i
 ·rw [if_pos e,e]
 ·rw [if_neg e,if_pos rfl]
theorem swp_n {a:Int→Int} {i j k:Int} (h1:k≠i) (h2:k≠j):swp a i j k=a k:=by
 unfold swp
 rw [if_neg h1,if_neg h2]
section
variable {sh:Sh} {dep:Nat} {m:NM} {l:Led}
theorem HE.own {x:Str} {xp ap pos:Pos} {name:Str} {q C f:Addr} {es:List DictEntry} {args:List PySem.Expr} {Vs:List Vl} {d:Nat} {P:Value→Led→Prop} {R:Led} (ho:Ev ⟨⟨w,mean,mg,mb,sh,dep⟩,m,l⟩ (.Name x xp) (.v (.ref q))) (hi:InsAt l q C es) (hm:AttOk w.params C name none) (hg:getL name es=some (some (.ref f)))
  (hfew:fewOk args ap pos=true) (ha:Evs ⟨⟨w,mean,mg,mb,sh,dep⟩,m,l⟩ args Vs) (hq:CallsIn w R f) (hR:∀ p∈R,p∈l) (hd:d≤dep) (S:AllV Vs fun vs=>Spec w mean mg mb (.ref f) vs d l P):HE ⟨⟨w,mean,mg,mb,sh,dep⟩,m,l⟩ (.Call (.Attribute (.Name x xp) name ap) args [] pos) P:=by
 intro Ar g L s T R0
 refine MethodCall_ (ho.use T R0 fun z9 z9 z9 ev R1=>?_) (meth_of ha.plain hfew)
 cases ev
 obtain ⟨nm,F,H⟩:=R1.F
 obtain ⟨dx,n,h1,h2⟩:=hi
 have I:=InstAt.of_news R1.N h1 h2
 refine kmu_own F T.C.X I hm.pg hm.fi (get_own F T.C.X I hm.pg hm.di hm.fi hm.ng hg rfl ?_)
 cases ha with
 | nil=>exact callWith_kept0 hq (kept_of hq F T.C.X R1.N hR) (spec_use hd S T R1 fun z9 z9 z9 z9 p R3=>HE.out (s:=s) R3 p)
 | @cons e es V Vs hs h t =>
  refine callWith_kept hq ((Evs.cons hs h t).use T R1 fun vs z9 z9 hvs R2=>⟨?_,spec_use hd (S.get hvs) T R2 fun z9 z9 z9 z9 p R3=>HE.out (s:=s) R3 p⟩) (star_of hs) t.plain
  obtain ⟨nm,F,H⟩:=R2.F
  exact kept_of hq F T.C.X R2.N hR
theorem att_q {P:Params} {name:Str} (pg:plainGet (hd.heap_1_39 P) 135 name=true) (di:hasDictIn (hd.heap_1_39 P) 135=true) (fi:findIn (hd.heap_1_39 P) (.ref 135) name=some none):AttOk P 135 name none:=⟨pg,di,fi,rfl⟩
variable {A:TA} {R:Led} {H q dq ge pu le ho dr:Addr} {key:Int→Int} {C₀ C:TC} {hs:List Value} {e:Nat} {n:Int} {a:Int→Int} {x:Str} {xp ap pos:Pos} {e1 e2:PySem.Expr} {i j:Int}
theorem QCall.at (hQ:QCall w mean mg mb A R H q dq ge pu le ho dr key):∃ es,InsAt (QL w.params A R H C hs e) q 135 es∧getL (Str.ofString "get") es=some (some (.ref ge))∧getL (Str.ofString "put") es=some (some (.ref pu))∧getL (Str.ofString "less") es=some (some (.ref le))∧getL (Str.ofString "hold") es=some (some (.ref ho))∧getL (Str.ofString "drop") es=some (some (.ref dr)):=by
 obtain ⟨k0,k1,k2,k3,k4,hD⟩:=hQ.dict
 exact ⟨_,⟨dq,_,mem_R (.tail _ hQ.inst),mem_R (.tail _ hD)⟩,by kernel_rfl,by kernel_rfl,by kernel_rfl,by kernel_rfl,by kernel_rfl⟩
theorem QCall.up {P:Params}:∀ p∈R,p∈QL P A R H C hs e:=fun z9 hp=>mem_R (.tail _ hp)
theorem HE.q_get (hQ:QCall w mean mg mb A R H q dq ge pu le ho dr key) (S:QS C₀ n a C) (h1:1≤j) (h2:j≤n) (hx:Ev ⟨⟨w,mean,mg,mb,sh,dep⟩,m,QL w.params A R H C hs e⟩ (.Name x xp) (.v (.ref q))) (hf:fewOk [e1] ap pos=true) (hs1:isStar e1=false) (ha:Ev ⟨⟨w,mean,mg,mb,sh,dep⟩,m,QL w.params A R H C hs e⟩ e1 (.i j)) (hd:60≤dep) :
  HE ⟨⟨w,mean,mg,mb,sh,dep⟩,m,QL w.params A R H C hs e⟩ (.Call (.Attribute (.Name x xp) (Str.ofString "get") ap) [e1] [] pos) (Pst (.i (a j)) (QL w.params A R H C hs e)):=by
 obtain ⟨es,hi,g1,g2,g3,g4,g5⟩:=hQ.at (C:=C) (hs:=hs) (e:=e)
 obtain ⟨t,et⟩:=S.at' j h1 h2
 exact HE.own hx hi (att_q (by k_is) (by k_is) (by k_is)) g1 hf (.cons hs1 ha .nil) hQ.kg QCall.up hd fun t'=>(hQ.get C hs e j t' S.tab).mono (Nat.le_refl _) fun r l ⟨h,h'⟩=>⟨⟨t,h.trans et⟩,h'⟩
theorem HE.q_put (hQ:QCall w mean mg mb A R H q dq ge pu le ho dr key) (S:QS C₀ n a C) (h1:1≤j) (h2:j≤n) (hn:n≤24) (hx:Ev ⟨⟨w,mean,mg,mb,sh,dep⟩,m,QL w.params A R H C hs e⟩ (.Name x xp) (.v (.ref q))) (hf:fewOk [e1,e2] ap pos=true) (hs1:isStar e1=false) (hs2:isStar e2=false) (ha:Ev ⟨⟨w,mean,mg,mb,sh,dep⟩,m,QL w.params A R H C hs e⟩ e1 (.i j)) (hb:Ev ⟨⟨w,mean,mg,mb,sh,dep⟩,m,QL w.params A R H C hs e⟩ e2 (.i i)) (hd:60≤dep) :
  HE ⟨⟨w,mean,mg,mb,sh,dep⟩,m,QL w.params A R H C hs e⟩ (.Call (.Attribute (.Name x xp) (Str.ofString "put") ap) [e1,e2] [] pos) (fun z9 l=>∃ C',l=QL w.params A R H C' hs e∧QS C₀ n (ups a j i) C'):=by
 obtain ⟨es,hi,g1,g2,g3,g4,g5⟩:=hQ.at (C:=C) (hs:=hs) (e:=e)
 exact HE.own hx hi (att_q (by k_is) (by k_is) (by k_is)) g2 hf (.cons hs1 ha (.cons hs2 hb .nil)) hQ.kp QCall.up hd fun t u=>(hQ.put C hs e j t (.int i u) S.tab trivial ⟨by exact Int.le_trans (by decide) h1,by exact lq [] [_,_] [.le Zq Zr,.le Zr (.k 24)] (.le Zq (.k 25)) [] rfl h2 hn⟩).mono (Nat.le_refl _) fun r l ⟨_,C',h',U⟩=>⟨C',h',S.put h1 h2 U⟩
theorem HS.q_put {p2:Pos} {ss:List Stmt} {K:List (List Stmt)} {Q:Flow→NM→Led→Prop} (hQ:QCall w mean mg mb A R H q dq ge pu le ho dr key) (S:QS C₀ n a C) (h1:1≤j) (h2:j≤n) (hn:n≤24) (hx:Ev ⟨⟨w,mean,mg,mb,sh,dep⟩,m,QL w.params A R H C hs e⟩ (.Name x xp) (.v (.ref q))) (hf:fewOk [e1,e2] ap pos=true) (hs1:isStar e1=false) (hs2:isStar e2=false) (ha:Ev ⟨⟨w,mean,mg,mb,sh,dep⟩,m,QL w.params A R H C hs e⟩ e1 (.i j)) (hb:Ev ⟨⟨w,mean,mg,mb,sh,dep⟩,m,QL w.params A R H C hs e⟩ e2 (.i i)) (hd:60≤dep) 
  (k:∀ C',QS C₀ n (ups a j i) C'→HS ⟨w,mean,mg,mb,sh,dep⟩ (ss::K) m (QL w.params A R H C' hs e) Q):HS ⟨w,mean,mg,mb,sh,dep⟩ ((.Expr (.Call (.Attribute (.Name x xp) (Str.ofString "put") ap) [e1,e2] [] pos) p2::ss)::K) m (QL w.params A R H C hs e) Q :=
 HS.expr rfl (HE.q_put hQ S h1 h2 hn hx hf hs1 hs2 ha hb hd) fun _ _ ⟨C',e,h⟩=>e▸k C' h
theorem HE.q_less (hQ:QCall w mean mg mb A R H q dq ge pu le ho dr key) (hx:Ev ⟨⟨w,mean,mg,mb,sh,dep⟩,m,QL w.params A R H C hs e⟩ (.Name x xp) (.v (.ref q))) (hf:fewOk [e1,e2] ap pos=true) (hs1:isStar e1=false) (hs2:isStar e2=false) (ha:Ev ⟨⟨w,mean,mg,mb,sh,dep⟩,m,QL w.params A R H C hs e⟩ e1 (.i i)) (hb:Ev ⟨⟨w,mean,mg,mb,sh,dep⟩,m,QL w.params A R H C hs e⟩ e2 (.i j)) (hd:60≤dep) :
  HE ⟨⟨w,mean,mg,mb,sh,dep⟩,m,QL w.params A R H C hs e⟩ (.Call (.Attribute (.Name x xp) (Str.ofString "less") ap) [e1,e2] [] pos) (Pst (.b (key i < key j)) (QL w.params A R H C hs e)):=by
 obtain ⟨es,hi,g1,g2,g3,g4,g5⟩:=hQ.at (C:=C) (hs:=hs) (e:=e)
 exact HE.own hx hi (att_q (by k_is) (by k_is) (by k_is)) g3 hf (.cons hs1 ha (.cons hs2 hb .nil)) hQ.kl QCall.up hd fun t u=>(hQ.less C hs e i t j u).mono (Nat.le_refl _) fun r l ⟨h,h'⟩=>⟨⟨_,h,decide_eq_true_iff⟩,h'⟩
theorem HE.q_hold (hQ:QCall w mean mg mb A R H q dq ge pu le ho dr key) (hz:hs.length < 1000) (hx:Ev ⟨⟨w,mean,mg,mb,sh,dep⟩,m,QL w.params A R H C hs e⟩ (.Name x xp) (.v (.ref q))) (hf:fewOk [e1] ap pos=true) (hs1:isStar e1=false) (ha:Ev ⟨⟨w,mean,mg,mb,sh,dep⟩,m,QL w.params A R H C hs e⟩ e1 (.i i)) (hd:60≤dep) :
  HE ⟨⟨w,mean,mg,mb,sh,dep⟩,m,QL w.params A R H C hs e⟩ (.Call (.Attribute (.Name x xp) (Str.ofString "hold") ap) [e1] [] pos) (fun z9 l=>∃ v e',l=QL w.params A R H C (hs++[v]) e'):=by
 obtain ⟨es,hi,g1,g2,g3,g4,g5⟩:=hQ.at (C:=C) (hs:=hs) (e:=e)
 exact HE.own hx hi (att_q (by k_is) (by k_is) (by k_is)) g4 hf (.cons hs1 ha .nil) hQ.kh QCall.up hd fun t=>(hQ.hold C hs e _ hz).mono (Nat.le_refl _) fun r l ⟨_,e',h'⟩=>⟨_,e',h'⟩
theorem HS.q_hold {p2:Pos} {ss:List Stmt} {K:List (List Stmt)} {Q:Flow→NM→Led→Prop} (hQ:QCall w mean mg mb A R H q dq ge pu le ho dr key) (hz:hs.length < 1000) (hx:Ev ⟨⟨w,mean,mg,mb,sh,dep⟩,m,QL w.params A R H C hs e⟩ (.Name x xp) (.v (.ref q))) (hf:fewOk [e1] ap pos=true) (hs1:isStar e1=false) (ha:Ev ⟨⟨w,mean,mg,mb,sh,dep⟩,m,QL w.params A R H C hs e⟩ e1 (.i i)) (hd:60≤dep) 
  (k:∀ v e',HS ⟨w,mean,mg,mb,sh,dep⟩ (ss::K) m (QL w.params A R H C (hs++[v]) e') Q):HS ⟨w,mean,mg,mb,sh,dep⟩ ((.Expr (.Call (.Attribute (.Name x xp) (Str.ofString "hold") ap) [e1] [] pos) p2::ss)::K) m (QL w.params A R H C hs e) Q :=
 HS.expr rfl (HE.q_hold hQ hz hx hf hs1 ha hd) fun _ _ ⟨v,e',h⟩=>h▸k v e'
theorem HE.q_drop {v:Value} (hQ:QCall w mean mg mb A R H q dq ge pu le ho dr key) (hz:hs.length < 1000) (hx:Ev ⟨⟨w,mean,mg,mb,sh,dep⟩,m,QL w.params A R H C (hs++[v]) e⟩ (.Name x xp) (.v (.ref q))) (hf:fewOk [] ap pos=true) (hd:60≤dep) :
  HE ⟨⟨w,mean,mg,mb,sh,dep⟩,m,QL w.params A R H C (hs++[v]) e⟩ (.Call (.Attribute (.Name x xp) (Str.ofString "drop") ap) [] [] pos) (fun z9 l=>∃ e',l=QL w.params A R H C hs e'):=by
 obtain ⟨es,hi,g1,g2,g3,g4,g5⟩:=hQ.at (C:=C) (hs:=hs++[v]) (e:=e)
 exact HE.own hx hi (att_q (by k_is) (by k_is) (by k_is)) g5 hf .nil hQ.kd QCall.up hd ((hQ.drop C hs e v hz).mono (Nat.le_refl _) fun r l ⟨_,e',h'⟩=>⟨e',h'⟩)
theorem HS.q_drop {p2:Pos} {ss:List Stmt} {K:List (List Stmt)} {Q:Flow→NM→Led→Prop} {v:Value} (hQ:QCall w mean mg mb A R H q dq ge pu le ho dr key) (hz:hs.length < 1000) (hx:Ev ⟨⟨w,mean,mg,mb,sh,dep⟩,m,QL w.params A R H C (hs++[v]) e⟩ (.Name x xp) (.v (.ref q))) (hf:fewOk [] ap pos=true) (hd:60≤dep) 
  (k:∀ e',HS ⟨w,mean,mg,mb,sh,dep⟩ (ss::K) m (QL w.params A R H C hs e') Q):HS ⟨w,mean,mg,mb,sh,dep⟩ ((.Expr (.Call (.Attribute (.Name x xp) (Str.ofString "drop") ap) [] [] pos) p2::ss)::K) m (QL w.params A R H C (hs++[v]) e) Q :=
 HS.expr rfl (HE.q_drop hQ hz hx hf hd) fun _ _ ⟨e',h⟩=>h▸k e'
end
section
theorem spec_order_two (A:TA) (R:Led) (H q dq ge pu le ho dr:Addr) (key:Int→Int) (hQ:QCall w mean mg mb A R H q dq ge pu le ho dr key) (C₀ C:TC) (hs:List Value) (e:Nat) (n lw hg:Int) (t1 t2:Tok) (a:Int→Int) (S:QS C₀ n a C) (h1:1≤lw) (h2:lw < hg) (h3:hg≤n) (hn:n≤24) :
  Spec w mean mg mb (.ref 97) [.ref q,.int lw t1,.int hg t2] 62 (QL w.params A R H C hs e) (fun r l=>∀ X:Value→Led→Prop,(∀ C' b,QS C₀ n b C'→Swaps lw hg a b→key (b lw)≤key (b hg)→X .none (QL w.params A R H C' hs e))→X r l):=by
 have h4:=Int.le_of_lt h2
 have h5:=Int.le_trans h4 h3
 have h6:=Int.le_trans h1 h4
 refine Spec.enterA (by k_is) (by k_is) (fun s X=>(BindsTo.of_eq rfl)) rfl (by kernel_rfl) (by kernel_rfl) rfl rfl rfl (by decide) ?_
 refine HS.assign2 3 4 sl3 sl4 (fun _=>rfl) rfl rfl (Ev.of (HE.q_get hQ S h1 h5 (Ev.name 0 sl0 rfl) rfl rfl (Ev.nameI 1 sl1 rfl) (nb rfl))) (Ev.of (HE.q_get hQ S h6 h3 (Ev.name 0 sl0 rfl) rfl rfl (Ev.nameI 2 sl2 rfl) (nb rfl))) (HS.ite (EvT.ofB (Ev.of (HE.q_less hQ (Ev.name 0 sl0 rfl) rfl rfl rfl (Ev.name 4 sl4 rfl) (Ev.name 3 sl3 rfl) (nb rfl))) rfl) (fun _=>(HS.q_put hQ S h1 h5 hn (Ev.name 0 sl0 rfl) rfl rfl rfl (Ev.nameI 1 sl1 rfl) (Ev.name 4 sl4 rfl) (nb rfl) ?_)) (fun _=>(HS.nil (HS.nil (HS.done ?_)))))
 ·rename_i hl
  intro C1 S1
  refine HS.q_put hQ S1 h6 h3 hn (Ev.name 0 sl0 rfl) rfl rfl rfl (Ev.nameI 2 sl2 rfl) (Ev.name 3 sl3 rfl) (nb rfl) ?_
  intro C2 S2
  refine HS.nil (HS.nil (HS.done ?_))
  exact fun X k=>k _ _ (swp_ups S2) (.step .refl (Int.le_refl _) h4 h4 (Int.le_refl _)) (by rw [swp_l,swp_r]; exact Int.le_of_lt hl)
 ·rename_i hl
  exact fun X k=>k C a S .refl (Int.not_lt.mp hl)
theorem spec_order_middle (A:TA) (R:Led) (H q dq ge pu le ho dr:Addr) (key:Int→Int) (hQ:QCall w mean mg mb A R H q dq ge pu le ho dr key) (C₀ C:TC) (hs:List Value) (e:Nat) (n lw mi hg:Int) (t1 t2 t3:Tok) (a:Int→Int) (S:QS C₀ n a C) (h1:1≤lw) (h2:lw < mi) (h4:mi < hg) (h3:hg≤n) (hn:n≤24) (h5:key (a lw)≤key (a hg)) :
  Spec w mean mg mb (.ref 104) [.ref q,.int lw t1,.int mi t3,.int hg t2] 62 (QL w.params A R H C hs e) (fun r l=>∀ X:Value→Led→Prop,(∀ C' b,QS C₀ n b C'→Swaps lw hg a b→key (b lw)≤key (b mi)→key (b mi)≤key (b hg)→X .none (QL w.params A R H C' hs e))→X r l):=by
 have g1:=Int.le_of_lt h2
 have g2:=Int.le_of_lt h4
 have g3:=Int.le_trans g1 g2
 have g4:=Int.le_trans h1 g1
 have g5:=Int.le_trans g4 g2
 have g6:=Int.le_trans g2 h3
 have g7:=Int.le_trans g3 h3
 refine Spec.enterA (by k_is) (by k_is) (fun s X=>(BindsTo.of_eq rfl)) rfl (by kernel_rfl) (by kernel_rfl) rfl rfl rfl (by decide) ?_
 refine HS.assign2 4 5 sl4 sl5 (fun _=>rfl) rfl rfl (Ev.of (HE.q_get hQ S g4 g6 (Ev.name 0 sl0 rfl) rfl rfl (Ev.nameI 2 sl2 rfl) (nb rfl))) (Ev.of (HE.q_get hQ S h1 g7 (Ev.name 0 sl0 rfl) rfl rfl (Ev.nameI 1 sl1 rfl) (nb rfl))) (HS.ite (EvT.ofB (Ev.of (HE.q_less hQ (Ev.name 0 sl0 rfl) rfl rfl rfl (Ev.name 4 sl4 rfl) (Ev.name 5 sl5 rfl) (nb rfl))) rfl) (fun _=>(HS.q_put hQ S g4 g6 hn (Ev.name 0 sl0 rfl) rfl rfl rfl (Ev.nameI 2 sl2 rfl) (Ev.name 5 sl5 rfl) (nb rfl) ?_)) (fun _=>(HS.nil (HS.assign 6 sl6 rfl (Ev.of (HE.q_get hQ S g5 h3 (Ev.name 0 sl0 rfl) rfl rfl (Ev.nameI 3 sl3 rfl) (nb rfl))) (HS.ite (EvT.ofB (Ev.of (HE.q_less hQ (Ev.name 0 sl0 rfl) rfl rfl rfl (Ev.name 6 sl6 rfl) (Ev.name 4 sl4 rfl) (nb rfl))) rfl) (fun _=>(HS.q_put hQ S g4 g6 hn (Ev.name 0 sl0 rfl) rfl rfl rfl (Ev.nameI 2 sl2 rfl) (Ev.name 6 sl6 rfl) (nb rfl) ?_)) (fun _=>(HS.nil (HS.nil (HS.done ?_)))))))))
 ·rename_i hl
  intro C1 S1
  refine HS.q_put hQ S1 h1 g7 hn (Ev.name 0 sl0 rfl) rfl rfl rfl (Ev.nameI 1 sl1 rfl) (Ev.name 4 sl4 rfl) (nb rfl) ?_
  intro C2 S2
  refine HS.ret0 ?_
  exact fun X k=>k _ _ (swp_ups S2) (.step .refl g1 g2 (Int.le_refl _) g3) (by rw [swp_l,swp_r]; exact Int.le_of_lt hl) (by rw [swp_l,swp_n (Ne.symm (Int.ne_of_lt h4)) (Ne.symm (Int.ne_of_lt (Int.lt_trans h2 h4)))]; exact h5)
 ·rename_i hl0 hl
  intro C1 S1
  refine HS.q_put hQ S1 g5 h3 hn (Ev.name 0 sl0 rfl) rfl rfl rfl (Ev.nameI 3 sl3 rfl) (Ev.name 4 sl4 rfl) (nb rfl) ?_
  intro C2 S2
  refine HS.nil (HS.nil (HS.done ?_))
  exact fun X k=>k _ _ (swp_ups S2) (.step .refl g1 g2 g3 (Int.le_refl _)) (by rw [swp_l,swp_n (Int.ne_of_lt h2) (Int.ne_of_lt (Int.lt_trans h2 h4))]; exact h5) (by rw [swp_l,swp_r]; exact Int.le_of_lt hl)
 ·rename_i hl0 hl
  exact fun X k=>k C a S .refl (Int.not_lt.mp hl0) (Int.not_lt.mp hl)
theorem mu_up' {a b:Int} (h:a < b):(b - (a+1)).toNat < (b - a).toNat:=by exact lq [_,_] [_,_] [.lt Zq Zr,.tn 0 (.s Zr (.a Zq Kr)),.tn 1 (.s Zr Zq)] (.t Nq Nr) [[110001000],[10101000],[11001010],[1011010]] rfl h rfl rfl
theorem mu_hi' {a b:Int} (h:a < b):(b - 1 - a).toNat < (b - a).toNat:=by exact lq [_,_] [_,_] [.lt Zq Zr,.tn 0 (.s (.s Zr Kr) Zq),.tn 1 (.s Zr Zq)] (.t Nq Nr) [[110001000],[10101000],[11001010],[1011010]] rfl h rfl rfl
theorem spec_go_up (A:TA) (R:Led) (H q dq ge pu le ho dr:Addr) (key:Int→Int) (hQ:QCall w mean mg mb A R H q dq ge pu le ho dr key) (C₀ C:TC) (hs:List Value) (e:Nat) (n ux hg s' P:Int) (t1 t2 t3:Tok) (a:Int→Int) (S:QS C₀ n a C) (h1:0≤ux) (h2:ux < s') (h4:s'≤hg) (h3:hg≤n) (hn:n≤24) (h5:¬ key (a s') < key P) :
  Spec w mean mg mb (.ref 111) [.ref q,.int P t1,.int ux t2,.int hg t3] 62 (QL w.params A R H C hs e) (fun r l=>∀ X:Value→Led→Prop,(∀ T x tx tv,ux < x→x≤s'→(∀ j,ux < j→j < x→key (a j) < key P)→¬ key (a x) < key P→X (.ref T) ((T,tupObj #[.int x tx,.int (a x) tv])::QL w.params A R H C hs e))→X r l):=by
 have g1:1≤ux+1:=Int.add_le_add_right h1 1
 have g2:ux+1≤n:=Int.le_trans h2 (Int.le_trans h4 h3)
 refine Spec.enterA (by k_is) (by k_is) (fun s X=>(BindsTo.of_eq rfl)) rfl (by kernel_rfl) (by kernel_rfl) rfl rfl rfl (by decide) ?_
 refine HS.aug 2 sl2 rfl (fun z9 z9=>(Exists.intro t2 (by assumption))) Ev.int IIOp.add (HS.assign 4 sl4 rfl (Ev.of (HE.q_get hQ S g1 g2 (Ev.name 0 sl0 rfl) rfl rfl (Ev.name 2 sl2 rfl) (nb rfl))) ?_)
 refine HS.whileU (X:=Int) (fun x=>ux < x∧x≤s'∧∀ j,ux < j→j < x→key (a j) < key P) (fun x z9=>((((NM.nil.set 0 (.v (.ref q))).set 1 (.v (.int P t1))).set 3 (.v (.int hg t3))).set 2 (.i x)).set 4 (.i (a x))) (fun z9=>QL w.params A R H C hs e) (fun x=>(s' - x).toNat) (ux+1) ⟨Int.lt_succ _,h2,fun j j1 j2=>absurd j1 (Int.not_lt.mpr (Int.le_of_lt_add_one j2))⟩ (by exact NM.Sub.same rfl (NM.Sub.same rfl (NM.Sub.same rfl (NM.Sub.same rfl (NM.Sub.same rfl NM.Sub.nil))))) rfl ?_
 intro x ⟨hx1,hx2,hall⟩ Q' next _ _
 have hx3:¬ hg < x:=Int.not_lt.mpr (Int.le_trans hx2 h4)
 by_cases hl:key (a x) < key P
 ·have hxs:x < s':=Int.lt_iff_le_and_ne.mpr ⟨hx2,fun e=>h5 (e▸hl)⟩
  have g3:1≤x+1:=Int.le_trans g1 (Int.le_trans hx1 (Int.le_of_lt (Int.lt_succ _)))
  have g4:x+1≤n:=Int.le_trans hxs (Int.le_trans h4 h3)
  refine Tst.mk' (EvT.ofB (Ev.of (HE.q_less hQ (Ev.name 0 sl0 rfl) rfl rfl rfl (Ev.name 4 sl4 rfl) (Ev.nameI 1 sl1 rfl) (nb rfl))) rfl) (fun z9=>(HS.ite (EvT.cmp (Ev.name 2 sl2 rfl) (Ev.nameI 3 sl3 rfl) ICmp.gt rfl) (fun z9=>(False.elim (by contradiction))) (fun z9=>(HS.nil (HS.aug 2 sl2 rfl (fun z9 z9=>(by assumption)) Ev.int IIOp.add (HS.assign 4 sl4 rfl (Ev.of (HE.q_get hQ S g3 g4 (Ev.name 0 sl0 rfl) rfl rfl (Ev.name 2 sl2 rfl) (nb rfl))) (HS.nil (HS.done ?_)))))))) (fun z9=>(False.elim (by contradiction)))
  exact next (x+1) _ ⟨Int.lt_trans hx1 (Int.lt_succ _),hxs,fun j j1 j2=>by
   by_cases e:j=x
   ·rw [e]; exact hl
   ·exact hall j j1 (by exact lq [] [_,_] [.lt Zq (.a Zr Kr),.ne Zq Zr] (.lt Zq Zr) [[1100],[1120]] rfl j2 e)⟩ (mu_up' hxs) (by exact NM.Sub.same rfl (NM.Sub.same rfl (NM.Sub.same rfl (NM.Sub.same rfl (NM.Sub.same rfl NM.Sub.nil)))))
 ·(refine (Tst.mk' (EvT.ofB (Ev.of (HE.q_less hQ (Ev.name 0 sl0 rfl) rfl rfl rfl (Ev.name 4 sl4 rfl) (Ev.nameI 1 sl1 rfl) (nb rfl))) rfl) (fun z9=>(False.elim (by contradiction))) (fun z9=>(HS.retT (Evs.cons rfl (Ev.name 2 sl2 rfl) (Evs.cons rfl (Ev.name 4 sl4 rfl) Evs.nil)) rfl ?_))))
  rintro D vs h
  obtain ⟨v1,v2,rfl,⟨tx,rfl⟩,⟨tv,rfl⟩⟩:=h.two
  exact fun X k=>k _ _ _ _ hx1 hx2 hall hl
theorem spec_go_down (A:TA) (R:Led) (H q dq ge pu le ho dr:Addr) (key:Int→Int) (hQ:QCall w mean mg mb A R H q dq ge pu le ho dr key) (C₀ C:TC) (hs:List Value) (e:Nat) (n d lw s' P:Int) (t1 t2 t3:Tok) (a:Int→Int) (S:QS C₀ n a C) (h1:1≤lw) (h2:s' < d) (h4:lw≤s') (h3:d≤n) (hn:n≤24) (h5:¬ key P < key (a s')) :
  Spec w mean mg mb (.ref 118) [.ref q,.int P t1,.int d t2,.int lw t3] 62 (QL w.params A R H C hs e) (fun r l=>∀ X:Value→Led→Prop,(∀ T x tx tv,x < d→s'≤x→(∀ j,x < j→j < d→key P < key (a j))→¬ key P < key (a x)→X (.ref T) ((T,tupObj #[.int x tx,.int (a x) tv])::QL w.params A R H C hs e))→X r l):=by
 have g0:=Int.le_sub_one_of_lt h2
 have g1:1≤d - 1:=Int.le_trans h1 (Int.le_trans h4 g0)
 have g2:d - 1≤n:=Int.le_trans (Int.sub_le_self _ (by decide)) h3
 refine Spec.enterA (by k_is) (by k_is) (fun s X=>(BindsTo.of_eq rfl)) rfl (by kernel_rfl) (by kernel_rfl) rfl rfl rfl (by decide) ?_
 refine HS.aug 2 sl2 rfl (fun z9 z9=>(Exists.intro t2 (by assumption))) Ev.int IIOp.sub (HS.assign 4 sl4 rfl (Ev.of (HE.q_get hQ S g1 g2 (Ev.name 0 sl0 rfl) rfl rfl (Ev.name 2 sl2 rfl) (nb rfl))) ?_)
 refine HS.whileU (X:=Int) (fun x=>x < d∧s'≤x∧∀ j,x < j→j < d→key P < key (a j)) (fun x z9=>((((NM.nil.set 0 (.v (.ref q))).set 1 (.v (.int P t1))).set 3 (.v (.int lw t3))).set 2 (.i x)).set 4 (.i (a x))) (fun z9=>QL w.params A R H C hs e) (fun x=>(x - s').toNat) (d - 1) ⟨Int.sub_lt_self _ (by decide),g0,fun j j1 j2=>absurd j1 (by exact lq [] [_,_] [.lt Zq Zr] (.nt (.s Zr Kr) Zq) [] rfl j2)⟩ (by exact NM.Sub.same rfl (NM.Sub.same rfl (NM.Sub.same rfl (NM.Sub.same rfl (NM.Sub.same rfl NM.Sub.nil))))) rfl ?_
 intro x ⟨hx1,hx2,hall⟩ Q' next _ _
 have hx3:¬ x < lw:=Int.not_lt.mpr (Int.le_trans h4 hx2)
 by_cases hl:key P < key (a x)
 ·have hxs:s' < x:=Int.lt_iff_le_and_ne.mpr ⟨hx2,fun e=>h5 (e▸hl)⟩
  have hxt:=Int.le_sub_one_of_lt hxs
  have g3:1≤x - 1:=Int.le_trans h1 (Int.le_trans h4 hxt)
  have g4:x - 1≤n:=Int.le_trans (Int.sub_le_self _ (by decide)) (Int.le_trans (Int.le_of_lt hx1) h3)
  refine Tst.mk' (EvT.ofB (Ev.of (HE.q_less hQ (Ev.name 0 sl0 rfl) rfl rfl rfl (Ev.nameI 1 sl1 rfl) (Ev.name 4 sl4 rfl) (nb rfl))) rfl) (fun z9=>(HS.ite (EvT.cmp (Ev.name 2 sl2 rfl) (Ev.nameI 3 sl3 rfl) ICmp.lt rfl) (fun z9=>(False.elim (by contradiction))) (fun z9=>(HS.nil (HS.aug 2 sl2 rfl (fun z9 z9=>(by assumption)) Ev.int IIOp.sub (HS.assign 4 sl4 rfl (Ev.of (HE.q_get hQ S g3 g4 (Ev.name 0 sl0 rfl) rfl rfl (Ev.name 2 sl2 rfl) (nb rfl))) (HS.nil (HS.done ?_)))))))) (fun z9=>(False.elim (by contradiction)))
  exact next (x - 1) _ ⟨Int.lt_trans (Int.sub_lt_self _ (by decide)) hx1,hxt,fun j j1 j2=>by
   by_cases e:j=x
   ·rw [e]; exact hl
   ·exact hall j (by exact lq [] [_,_] [.lt (.s Zq Kr) Zr,.ne Zr Zq] (.lt Zq Zr) [[1120],[1100]] rfl j1 e) j2⟩ (mu_hi' hxs) (by exact NM.Sub.same rfl (NM.Sub.same rfl (NM.Sub.same rfl (NM.Sub.same rfl (NM.Sub.same rfl NM.Sub.nil)))))
 ·(refine (Tst.mk' (EvT.ofB (Ev.of (HE.q_less hQ (Ev.name 0 sl0 rfl) rfl rfl rfl (Ev.nameI 1 sl1 rfl) (Ev.name 4 sl4 rfl) (nb rfl))) rfl) (fun z9=>(False.elim (by contradiction))) (fun z9=>(HS.retT (Evs.cons rfl (Ev.name 2 sl2 rfl) (Evs.cons rfl (Ev.name 4 sl4 rfl) Evs.nil)) rfl ?_))))
  rintro D vs h
  obtain ⟨v1,v2,rfl,⟨tx,rfl⟩,⟨tv,rfl⟩⟩:=h.two
  exact fun X k=>k _ _ _ _ hx1 hx2 hall hl
end
theorem EvT.lit {σ:St} {b:Bool} {k:Nat} {pos:Pos}:EvT σ (.Constant (.bool b) k pos) (b=true) :=
 fun z9 z9 z9 s z9 R=>isTrue_plain (Constant_bool (wpAny_truthy_bool (EvT.out (s:=s) R Iff.rfl))) rfl
theorem part_start {key:Int→Int} {a:Int→Int} {lw hg mi:Int} (h:lw+3≤hg) (em:mi=(lw+hg) / 2) (h1:key (a lw)≤key (a mi)) (h2:key (a mi)≤key (a hg)):Part key (swp a mi (hg - 1)) lw hg lw (hg - 1) (a mi):=by
 refine ⟨Int.le_refl _,Int.le_refl _,by exact lq [] [_,_] [.le (.a Zq (.k 3)) Zr] (.le Zq (.s Zr Kr)) [] rfl h,by exact lq [] [_,_] [.le (.a Zq (.k 3)) Zr] (.lt Zq (.s Zr Kr)) [] rfl h,by exact lq [] [_,_] [.le (.a Zq (.k 3)) Zr] (.lt Zq (.s Zr Kr)) [] rfl h,fun j j1 j2=>?_,fun j j1 j2=>?_,?_⟩
 ·have e:j=lw:=by exact Int.le_antisymm j2 j1
  subst e
  unfold swp
  rw [if_neg (by exact lq [] [_,_,_,_] [.le (.a Zq (.k 3)) Zr,.eq (.z 2) (.z 3),.dv 3 1 (.a Zq Zr),.eq Zq (.z 2)] .f [[120102010]] rfl h em rfl),if_neg (by exact lq [] [_,_] [.le (.a Zq (.k 3)) Zr,.eq Zq (.s Zr Kr)] .f [[11010]] rfl h)]
  exact h1
 ·unfold swp
  rw [if_neg (by exact lq [] [_,_,_,_,_] [.le (.a Zq (.k 3)) Zr,.eq (.z 2) (.z 3),.le (.s Zr Kr) (.z 4),.dv 3 1 (.a Zq Zr),.eq (.z 4) (.z 2)] .f [[1020120210]] rfl h em j1 rfl)]
  by_cases e:j=hg - 1
  ·rw [if_pos e]; exact Int.le_refl _
  ·rw [if_neg e,show j=hg by exact lq [] [_,_] [.le (.s Zq Kr) Zr,.le Zr Zq,.ne Zr (.s Zq Kr)] (.eq Zr Zq) [[0,11020],[10100,11000]] rfl j1 j2 e]; exact h2
 ·unfold swp
  rw [if_neg (by exact lq [] [_,_,_,_] [.le (.a Zq (.k 3)) Zr,.eq (.z 2) (.z 3),.dv 3 1 (.a Zq Zr),.eq (.s Zr Kr) (.z 2)] .f [[102010210]] rfl h em rfl),if_pos rfl]
noncomputable def qEnts (P:Params) (ge pu le ho dr:Addr) (k0 k1 k2 k3 k4:Tok):List DictEntry:=[⟨PyData.keyHash P (Str.ofString "get"),.str (Str.ofString "get") k0,.ref ge⟩,⟨PyData.keyHash P (Str.ofString "put"),.str (Str.ofString "put") k1,.ref pu⟩,⟨PyData.keyHash P (Str.ofString "less"),.str (Str.ofString "less") k2,.ref le⟩,
  ⟨PyData.keyHash P (Str.ofString "hold"),.str (Str.ofString "hold") k3,.ref ho⟩,⟨PyData.keyHash P (Str.ofString "drop"),.str (Str.ofString "drop") k4,.ref dr⟩]
theorem HE.q_meth {w:World} {mean:ExcName→Option Value} {mg mb:Names} {sh:Sh} {dep:Nat} {m:NM} {A:TA} {R:Led} {H q dq ge pu le ho dr:Addr} {key:Int→Int} {C:TC} {hs:List Value} {e:Nat} {x:Str} {xp ap pos:Pos} {name:Str} {f:Addr} {args:List PySem.Expr} {Vs:List Vl} {d:Nat} {P:Value→Led→Prop}
  (hQ:QCall w mean mg mb A R H q dq ge pu le ho dr key) (hx:Ev ⟨⟨w,mean,mg,mb,sh,dep⟩,m,QL w.params A R H C hs e⟩ (.Name x xp) (.v (.ref q))) (hm:MethOk w.params 135 name f) (hg:∀ k0 k1 k2 k3 k4,getL name (qEnts w.params ge pu le ho dr k0 k1 k2 k3 k4)=some none)
  (hf:fewOk args ap pos=true) (ha:Evs ⟨⟨w,mean,mg,mb,sh,dep⟩,m,QL w.params A R H C hs e⟩ args Vs) (hd:d≤dep) (S:AllV Vs fun vs=>Spec w mean mg mb (.ref f) (.ref q::vs) d (QL w.params A R H C hs e) P):HE ⟨⟨w,mean,mg,mb,sh,dep⟩,m,QL w.params A R H C hs e⟩ (.Call (.Attribute (.Name x xp) name ap) args [] pos) P:=by
 obtain ⟨k0,k1,k2,k3,k4,hD⟩:=hQ.dict
 exact HE.meth hx ⟨dq,5,mem_R (.tail _ hQ.inst),mem_R (.tail _ hD)⟩ hm (hg k0 k1 k2 k3 k4) hf ha hd S
structure PX where
 C:TC
 e:Nat
 b:Int→Int
 up:Int
 dn:Int
section
theorem spec_part (A:TA) (R:Led) (H q dq ge pu le ho dr:Addr) (key:Int→Int) (hQ:QCall w mean mg mb A R H q dq ge pu le ho dr key) (C₀ C:TC) (hs:List Value) (e:Nat) (n lw hg:Int) (t1 t2:Tok) (a:Int→Int) (hsl:hs.length < 1000) (S:QS C₀ n a C) (h1:1≤lw) (h2:lw+3≤hg) (h3:hg≤n) (hn:n≤24)
  (o1:key (a lw)≤key (a ((lw+hg).fdiv 2))) (o2:key (a ((lw+hg).fdiv 2))≤key (a hg)) :
  Spec w mean mg mb (.ref 125) [.ref q,.int lw t1,.int hg t2] 64 (QL w.params A R H C hs e) (fun r l=>∀ X:Value→Led→Prop,(∀ C' b x tx e',QS C₀ n b C'→Swaps lw hg a b→lw < x→x≤hg - 1→(∀ j,lw≤j→j < x→key (b j)≤key (b x))→(∀ j,x < j→j≤hg→key (b x)≤key (b j))→X (.int x tx) (QL w.params A R H C' hs e'))→X r l):=by
 have em:=fdiv2 (lw+hg)
 have g7:lw≤(lw+hg).fdiv 2∧(lw+hg).fdiv 2≤hg:=⟨lq [] [_,_,_,_] [.le (.a Zq (.k 3)) Zr,.eq (.z 2) (.z 3),.dv 3 1 (.a Zq Zr)] (.le Zq (.z 2)) [[1102011]] rfl h2 em rfl,lq [] [_,_,_,_] [.le (.a Zq (.k 3)) Zr,.eq (.z 2) (.z 3),.dv 3 1 (.a Zq Zr)] (.le (.z 2) Zr) [[1010211]] rfl h2 em rfl⟩
 have g6:lw≤hg - 1:=Int.le_sub_one_of_lt (Int.lt_of_lt_of_le (Int.lt_add_of_pos_right _ (by decide)) h2)
 have g5:hg - 1≤hg:=Int.sub_le_self _ (by decide)
 have g4:=Int.le_trans g5 h3
 have g3:=Int.le_trans h1 g6
 have g2:=Int.le_trans g7.2 h3
 have g1:=Int.le_trans h1 g7.1
 have P₀:=part_start h2 em o1 o2
 refine Spec.enterA (by k_is) (by k_is) (fun s X=>(BindsTo.of_eq rfl)) rfl (by kernel_rfl) (by kernel_rfl) rfl rfl rfl (by decide) ?_
 refine HS.assign 3 sl3 rfl (Ev.bin (Ev.bin (Ev.nameI 1 sl1 rfl) (Ev.nameI 2 sl2 rfl) IOp.add) Ev.int (IOp.fdiv (by decide) (by decide))) (HS.assign 4 sl4 rfl (Ev.of (HE.q_get hQ S g1 g2 (Ev.name 0 sl0 rfl) rfl rfl (Ev.name 3 sl3 rfl) (nb rfl))) (HS.q_put hQ S g1 g2 hn (Ev.name 0 sl0 rfl) rfl rfl rfl (Ev.name 3 sl3 rfl) (Ev.of (HE.q_get hQ S g3 g4 (Ev.name 0 sl0 rfl) rfl rfl (Ev.bin (Ev.nameI 2 sl2 rfl) Ev.int IOp.sub) (nb rfl))) (nb rfl) ?_))
 intro C1 S1
 refine HS.q_put hQ S1 g3 g4 hn (Ev.name 0 sl0 rfl) rfl rfl rfl (Ev.bin (Ev.nameI 2 sl2 rfl) Ev.int IOp.sub) (Ev.name 4 sl4 rfl) (nb rfl) ?_
 intro C2 S2
 refine HS.assign2 5 6 sl5 sl6 (fun _=>rfl) rfl rfl (Ev.name 1 sl1 rfl) (Ev.bin (Ev.nameI 2 sl2 rfl) Ev.int IOp.sub) ?_
 have S₁:=swp_ups S2
 have W₁:Swaps lw hg a (swp a ((lw+hg).fdiv 2) (hg - 1)):=.step .refl g7.1 g7.2 g6 g5
 generalize a ((lw+hg).fdiv 2)=P at *
 refine HS.whileU (X:=PX) (fun x=>QS C₀ n x.b x.C∧Swaps lw hg a x.b∧Part key x.b lw hg x.up x.dn P) (fun x m=>(m.put 5 (.i x.up)).put 6 (.i x.dn)) (fun x=>QL w.params A R H x.C hs x.e) (fun x=>x.dn.toNat) ⟨C2,e,_,lw,hg - 1⟩ ⟨S₁,W₁,P₀⟩ (by exact NM.Sub.int rfl (NM.Sub.same rfl (NM.Sub.same rfl (NM.Sub.same rfl (NM.Sub.same rfl (NM.Sub.same rfl (NM.Sub.same rfl NM.Sub.nil))))))) rfl ?_
 clear S₁ W₁ P₀ S1 S2
 intro x ⟨S₂,W₂,P₂⟩ Q' next brk _
 have p1:=P₂.u0
 have p2:=P₂.d0
 have p3:=P₂.ul
 have p5:=P₂.dl
 have hgu:=fun t t'=>spec_go_up A R H q dq ge pu le ho dr key hQ C₀ x.C hs x.e n x.up hg (hg - 1) P t t' t2 x.b S₂ (by exact lq [] [_,_] [.le Kr Zq,.le Zq Zr] (.le Kq Zr) [] rfl h1 p1) p3 g5 h3 hn (by rw [P₂.piv]; exact Int.lt_irrefl _)
 refine Tst.mk' EvT.lit (fun _=>(HS.assignT2 5 7 sl5 sl7 (fun _=>rfl) (fun _=>rfl) (HE.q_meth hQ (Ev.name 0 sl0 rfl) ⟨by k_is,by k_is,by k_is,by k_is⟩ (fun _ _ _ _ _=>(by kernel_rfl)) rfl (Evs.cons rfl (Ev.name 4 sl4 rfl) (Evs.cons rfl (Ev.name 5 sl5 rfl) (Evs.cons rfl (Ev.name 2 sl2 rfl) Evs.nil))) (nb rfl) hgu) ?_)) (fun _=>(False.elim (by contradiction)))
 intro v₀ l₀ h₀
 apply h₀
 intro T₁ u tu tv x1 x2 x3 x4
 refine ⟨T₁,_,_,rfl,.head _,HS.drop (r:=[_]) (l':=QL w.params A R H x.C hs x.e) (.refl _) ?_⟩
 refine HS.q_hold hQ hsl (Ev.name 0 sl0 rfl) rfl rfl (Ev.nameI 7 sl7 rfl) (nb rfl) ?_
 intro v e₁
 have hgd:=fun t t'=>spec_go_down A R H q dq ge pu le ho dr key hQ C₀ x.C (hs++[v]) e₁ n x.dn lw lw P t t' t1 x.b S₂ h1 p5 (Int.le_refl _) (Int.le_trans p2 g4) hn (Int.not_lt.mpr (P₂.low lw (Int.le_refl _) p1))
 refine HS.assignT2 6 8 sl6 sl8 (fun _=>rfl) (fun _=>rfl) (HE.q_meth hQ (Ev.name 0 sl0 rfl) ⟨by k_is,by k_is,by k_is,by k_is⟩ (fun _ _ _ _ _=>(by kernel_rfl)) rfl (Evs.cons rfl (Ev.name 4 sl4 rfl) (Evs.cons rfl (Ev.name 6 sl6 rfl) (Evs.cons rfl (Ev.name 1 sl1 rfl) Evs.nil))) (nb rfl) hgd) ?_
 intro v₀ l₀ h₀
 apply h₀
 intro T₂ d td tw d1 d2 d3 d4
 refine ⟨T₂,_,_,rfl,.head _,HS.drop (r:=[_]) (l':=QL w.params A R H x.C (hs++[v]) e₁) (.refl _) ?_⟩
 refine HS.q_drop hQ hsl (Ev.name 0 sl0 rfl) rfl (nb rfl) ?_
 intro e₂
 clear hgu hgd
 have k5:=Int.le_of_lt (Int.lt_of_le_of_lt p1 x1)
 have k6:=Int.le_trans x2 g5
 have k1:=Int.le_trans h1 k5
 have k2:=Int.le_trans k6 h3
 have k3:=Int.le_trans h1 d2
 have k7:=Int.le_trans (Int.le_of_lt (Int.lt_of_lt_of_le d1 p2)) g5
 have k4:=Int.le_trans k7 h3
 refine HS.ite (EvT.cmp (Ev.nameI 6 sl6 rfl) (Ev.nameI 5 sl5 rfl) ICmp.lt rfl) (fun _=>(HS.brk ?_)) (fun _=>(HS.nil (HS.q_put hQ S₂ k1 k2 hn (Ev.name 0 sl0 rfl) rfl rfl rfl (Ev.nameI 5 sl5 rfl) (Ev.nameI 8 sl8 rfl) (nb rfl) ?_)))
 ·rename_i hdu
  refine brk _ _ ?_
  refine HS.assign2 9 10 sl9 sl10 (fun _=>rfl) rfl rfl (Ev.of (HE.q_get hQ S₂ g3 g4 (Ev.name 0 sl0 rfl) rfl rfl (Ev.bin (Ev.nameI 2 sl2 rfl) Ev.int IOp.sub) (nb rfl))) (Ev.of (HE.q_get hQ S₂ k1 k2 (Ev.name 0 sl0 rfl) rfl rfl (Ev.nameI 5 sl5 rfl) (nb rfl))) (HS.q_put hQ S₂ g3 g4 hn (Ev.name 0 sl0 rfl) rfl rfl rfl (Ev.bin (Ev.nameI 2 sl2 rfl) Ev.int IOp.sub) (Ev.name 10 sl10 rfl) (nb rfl) ?_)
  intro C3 S3
  refine HS.q_put hQ S3 k1 k2 hn (Ev.name 0 sl0 rfl) rfl rfl rfl (Ev.nameI 5 sl5 rfl) (Ev.name 9 sl9 rfl) (nb rfl) ?_
  intro C4 S4
  refine HS.ret (Ev.name 5 sl5 rfl) ?_
  have S₃:=swp_ups S4
  obtain ⟨q1,q2,q3⟩:=P₂.fin x1 x2 x3 x4 d1 d3 hdu (by exact lq [] [_,_,_,_] [.le Zq (.s Zr Kr),.le (.z 2) (.z 3),.lt (.z 3) Zq] (.le (.a (.z 2) Kr) (.s Zr Kr)) [] rfl x2 d2 hdu)
  rintro _ rfl
  exact fun X k=>k _ _ _ _ _ S₃ (.step W₂ g6 g5 k5 k6) (Int.lt_of_le_of_lt d2 hdu) x2 (fun j j1 j2=>by rw [q2]; exact q1 j j1 j2) fun j j1 j2=>by rw [q2]; exact q3 j j1 j2
 ·rename_i hdu
  intro C3 S3
  refine HS.q_put hQ S3 k3 k4 hn (Ev.name 0 sl0 rfl) rfl rfl rfl (Ev.nameI 6 sl6 rfl) (Ev.nameI 7 sl7 rfl) (nb rfl) ?_
  intro C4 S4
  refine HS.nil (HS.done ?_)
  exact next ⟨C4,e₂,_,u,d⟩ _ ⟨swp_ups S4,.step W₂ k5 k6 d2 k7,P₂.next x1 x2 x3 x4 d1 d2 d3 d4 (Int.not_lt.mp hdu)⟩ (by show d.toNat < x.dn.toNat; exact lq [_,_] [_,_] [.lt Zq Zr,.le Kr Zq,.tn 0 Zq,.tn 1 Zr] (.t Nq Nr) [[1100010010],[101010010],[100011100],[10011100]] rfl d1 k3 rfl rfl) (by exact NM.Sub.int rfl (NM.Sub.int rfl (NM.Sub.same rfl (NM.Sub.same rfl (NM.Sub.same rfl (NM.Sub.same rfl (NM.Sub.same rfl NM.Sub.nil)))))))
end
noncomputable def Left (key:Int→Int) (a b:Int→Int) (lw hg x y:Int):Prop:=∀ c,Swaps x y b c→Ord key c x y→Swaps lw hg a c∧Ord key c lw hg
theorem left_up {key:Int→Int} {a b b₁ b₂:Int→Int} {lw hg x y u:Int} (L:Left key a b lw hg x y) (W:Swaps x y b b₁) (u1:x < u) (u2:u≤y - 1) (l1:∀ j,x≤j→j < u→key (b₁ j)≤key (b₁ u)) (l2:∀ j,u < j→j≤y→key (b₁ u)≤key (b₁ j))
  (W₂:Swaps x (u - 1) b₁ b₂) (O:Ord key b₂ x (u - 1)):Left key a b₂ lw hg (u+1) y:=by
 intro c Wc Oc
 have eu:c u=b₁ u:=(Wc.out (by exact lq [] [_,_] [.an (.le (.a Zq Kr) Zq) (.le Zq Zr)] .f [[1010]] rfl)).trans (W₂.out (by exact lq [] [_,_] [.an (.le Zq Zr) (.le Zr (.s Zr Kr))] .f [[1100]] rfl))
 refine L c ((W.trans (W₂.mono (Int.le_refl _) (by exact lq [] [_,_] [.le Zq (.s Zr Kr)] (.le (.s Zq Kr) Zr) [] rfl u2))).trans (Wc.mono (by exact lq [] [_,_] [.lt Zq Zr] (.le Zq (.a Zr Kr)) [] rfl u1) (Int.le_refl _))) (ord_join (u:=u) (P:=key (b₁ u)) (by exact Int.le_of_lt u1) (by exact lq [] [_,_] [.le Zq (.s Zr Kr)] (.le Zq Zr) [] rfl u2) ?_ Oc (by rw [eu]) ?_ ?_)
 ·intro j j1 j2
  rw [Wc.out (k:=j) (by exact lq [] [_,_,_] [.lt Zq (.s Zr Kr),.an (.le (.a Zr Kr) Zq) (.le Zq (.z 2))] .f [[10110]] rfl j2),Wc.out (k:=j+1) (by exact lq [] [_,_,_] [.lt Zq (.s Zr Kr),.an (.le (.a Zr Kr) (.a Zq Kr)) (.le (.a Zq Kr) (.z 2))] .f [[10110]] rfl j2)]
  exact O j j1 j2
 ·intro j j1 j2
  rw [Wc.out (k:=j) (by exact lq [] [_,_,_] [.lt Zq Zr,.an (.le (.a Zr Kr) Zq) (.le Zq (.z 2))] .f [[10110]] rfl j2)]
  exact W₂.all (P:=fun v=>key v≤key (b₁ u)) (fun k k1 k2=>l1 k k1 (by exact lq [] [_,_] [.le Zq (.s Zr Kr)] (.lt Zq Zr) [] rfl k2)) j j1 (by exact Int.le_sub_one_of_lt j2)
 ·intro j j1 j2
  exact Wc.all (P:=fun v=>key (b₁ u)≤key v) (fun k k1 k2=>by rw [W₂.out (by exact lq [] [_,_,_] [.le (.a Zq Kr) Zr,.an (.le (.z 2) Zr) (.le Zr (.s Zq Kr))] .f [[11010]] rfl k1)]; exact l2 k k1 k2) j j1 j2
theorem left_down {key:Int→Int} {a b b₁ b₂:Int→Int} {lw hg x y u:Int} (L:Left key a b lw hg x y) (W:Swaps x y b b₁) (u1:x < u) (u2:u≤y - 1) (l1:∀ j,x≤j→j < u→key (b₁ j)≤key (b₁ u)) (l2:∀ j,u < j→j≤y→key (b₁ u)≤key (b₁ j))
  (W₂:Swaps (u+1) y b₁ b₂) (O:Ord key b₂ (u+1) y):Left key a b₂ lw hg x (u - 1):=by
 intro c Wc Oc
 have eu:c u=b₁ u:=(Wc.out (by exact lq [] [_,_] [.an (.le Zq Zr) (.le Zr (.s Zr Kr))] .f [[1100]] rfl)).trans (W₂.out (by exact lq [] [_,_] [.an (.le (.a Zq Kr) Zq) (.le Zq Zr)] .f [[1010]] rfl))
 refine L c ((W.trans (W₂.mono (by exact lq [] [_,_] [.lt Zq Zr] (.le Zq (.a Zr Kr)) [] rfl u1) (Int.le_refl _))).trans (Wc.mono (Int.le_refl _) (by exact lq [] [_,_] [.le Zq (.s Zr Kr)] (.le (.s Zq Kr) Zr) [] rfl u2))) (ord_join (u:=u) (P:=key (b₁ u)) (by exact Int.le_of_lt u1) (by exact lq [] [_,_] [.le Zq (.s Zr Kr)] (.le Zq Zr) [] rfl u2) Oc ?_ (by rw [eu]) ?_ ?_)
 ·intro j j1 j2
  rw [Wc.out (k:=j) (by exact lq [] [_,_,_] [.le (.a Zq Kr) Zr,.an (.le (.z 2) Zr) (.le Zr (.s Zq Kr))] .f [[11010]] rfl j1),Wc.out (k:=j+1) (by exact lq [] [_,_,_] [.le (.a Zq Kr) Zr,.an (.le (.z 2) (.a Zr Kr)) (.le (.a Zr Kr) (.s Zq Kr))] .f [[11010]] rfl j1)]
  exact O j j1 j2
 ·intro j j1 j2
  exact Wc.all (P:=fun v=>key v≤key (b₁ u)) (fun k k1 k2=>by rw [W₂.out (by exact lq [] [_,_,_] [.le Zq (.s Zr Kr),.an (.le (.a Zr Kr) Zq) (.le Zq (.z 2))] .f [[10110]] rfl k2)]; exact l1 k k1 (by exact lq [] [_,_] [.le Zq (.s Zr Kr)] (.lt Zq Zr) [] rfl k2)) j j1 (by exact Int.le_sub_one_of_lt j2)
 ·intro j j1 j2
  rw [Wc.out (k:=j) (by exact lq [] [_,_,_] [.lt Zq Zr,.an (.le (.z 2) Zr) (.le Zr (.s Zq Kr))] .f [[11010]] rfl j1)]
  exact W₂.all (P:=fun v=>key (b₁ u)≤key v) (fun k k1 k2=>l2 k k1 k2) j j1 j2
section
theorem spec_sort (A:TA) (R:Led) (H q dq ge pu le ho dr:Addr) (key:Int→Int) (hQ:QCall w mean mg mb A R H q dq ge pu le ho dr key) (C₀:TC) (hs:List Value) (n:Int) (hn:n≤24) (hsl:hs.length < 1000) :
  ∀ (m:Nat) (C:TC) (e:Nat) (lw hg:Int) (t1 t2:Tok) (a:Int→Int),QS C₀ n a C→1≤lw→hg≤n→hg - lw+1≤m →
  Spec w mean mg mb (.ref 132) [.ref q,.int lw t1,.int hg t2] (66+4 * m) (QL w.params A R H C hs e) (fun r l=>∀ X:Value→Led→Prop,(∀ C' b e',QS C₀ n b C'→Swaps lw hg a b→Ord key b lw hg→X .none (QL w.params A R H C' hs e'))→X r l):=by
 intro m
 induction m with
 | zero =>
  intro C e lw hg t1 t2 a S h1 h3 hm
  have hlt:¬ lw < hg:=by exact lq [] [_,_] [.le (.a (.s Zq Zr) Kr) (.c Kq)] (.nt Zr Zq) [] rfl hm
  refine Spec.enterA (by k_is) (by k_is) (fun s X=>(BindsTo.of_eq rfl)) rfl (by kernel_rfl) (by kernel_rfl) rfl rfl rfl (by decide) ?_
  (refine ?_)
  refine HS.whileU (X:=Unit) (fun _=>True) (fun _ m=>m) (fun _=>QL w.params A R H C hs e) (fun _=>0) () trivial .rfl rfl ?_
  intro _ _ Q' next _ _
  refine Tst.mk' (EvT.cmp (Ev.nameI 1 sl1 rfl) (Ev.nameI 2 sl2 rfl) ICmp.lt rfl) (fun _=>(False.elim (by contradiction))) (fun _=>(HS.nil (HS.done ?_)))
  exact fun X k=>k C a e S .refl fun j j1 j2=>absurd (Int.lt_of_le_of_lt j1 j2) hlt
 | succ m ih =>
  intro C e lw hg t1 t2 a S h1 h3 hm
  refine Spec.mono (dep:=69+4 * m+1) ?_ (by exact lq [_] [] [] (.l (.a (.a (.k 69) (.m 4 Nq)) Kr) (.a (.k 66) (.m 4 (.a Nq Kr)))) [] rfl) fun _ _ h=>h
  obtain ⟨f1,f2,f3⟩:62≤69+4 * m∧64≤69+4 * m∧66+4 * m≤69+4 * m:=by exact lq [_] [] [] (.an (.l (.k 62) (.a (.k 69) (.m 4 Nq))) (.an (.l (.k 64) (.a (.k 69) (.m 4 Nq))) (.l (.a (.k 66) (.m 4 Nq)) (.a (.k 69) (.m 4 Nq))))) [] rfl
  refine Spec.enterA (by k_is) (by k_is) (fun s X=>(BindsTo.of_eq rfl)) rfl (by kernel_rfl) (by kernel_rfl) rfl rfl rfl (by decide) ?_
  (refine ?_)
  refine HS.whileU (X:=PX) (fun x=>QS C₀ n x.b x.C∧Left key a x.b lw hg x.up x.dn∧lw≤x.up∧x.dn≤hg) (fun x m=>(m.put 1 (.i x.up)).put 2 (.i x.dn)) (fun x=>QL w.params A R H x.C hs x.e) (fun x=>(x.dn - x.up+1).toNat) ⟨C,e,a,lw,hg⟩ ⟨S,fun c W O=>⟨W,O⟩,Int.le_refl _,Int.le_refl _⟩ (by exact NM.Sub.same rfl (NM.Sub.int rfl (NM.Sub.int rfl NM.Sub.nil))) rfl ?_
  intro x ⟨S₂,L₂,x1,y1⟩ Q' next _ ret
  by_cases hlt:x.up < x.dn
  ·obtain ⟨k1,k2⟩:1≤x.up∧x.dn≤n:=by exact lq [] [_,_,_,_,_] [.le Kr Zq,.le Zr (.z 2),.le Zq (.z 3),.le (.z 4) Zr] (.an (.le Kr (.z 3)) (.le (.z 4) (.z 2))) [[101010,110100]] rfl h1 h3 x1 y1
   have sp:=fun t t'=>spec_order_two A R H q dq ge pu le ho dr key hQ C₀ x.C hs x.e n x.up x.dn t t' x.b S₂ k1 hlt k2 hn
   refine Tst.mk' (EvT.cmp (Ev.name 1 sl1 rfl) (Ev.name 2 sl2 rfl) ICmp.lt rfl) (fun _=>(HS.expr rfl (HE.q_meth hQ (Ev.name 0 sl0 rfl) ⟨by k_is,by k_is,by k_is,by k_is⟩ (fun _ _ _ _ _=>(by kernel_rfl)) rfl (Evs.cons rfl (Ev.name 1 sl1 rfl) (Evs.cons rfl (Ev.name 2 sl2 rfl) Evs.nil)) f1 sp) ?_)) (fun _=>(False.elim (by contradiction)))
   intro v₀ l₀ h₀
   apply h₀
   intro C₂ b₁ S₃ W₃ o1
   refine HS.ite (EvT.cmp (Ev.bin (Ev.name 2 sl2 rfl) (Ev.name 1 sl1 rfl) IOp.sub) Ev.int ICmp.eq rfl) (fun _=>(HS.ret0 ?_)) (fun _=>(HS.nil ?_))
   ·rename_i h2
    obtain ⟨q1,q2⟩:=L₂ b₁ W₃ (fun j j1 j2=>by rw [show j=x.up by exact lq [] [_,_,_] [.eq (.s Zq Zr) Kr,.le Zr (.z 2),.lt (.z 2) Zq] (.eq (.z 2) Zr) [[110010,101000]] rfl h2 j1 j2,show x.up+1=x.dn by exact lq [] [_,_] [.eq (.s Zq Zr) Kr] (.eq (.a Zr Kr) Zq) [[1100,1010]] rfl h2]; exact o1)
    exact ret _ _ _ fun X k=>k _ _ _ S₃ q1 q2
   ·rename_i h2
    have em:=fdiv2 (x.up+x.dn)
    have sp:=fun t t' t''=>spec_order_middle A R H q dq ge pu le ho dr key hQ C₀ C₂ hs x.e n x.up ((x.up+x.dn).fdiv 2) x.dn t t'' t' b₁ S₃ k1 (by exact lq [] [_,_,_,_] [.lt Zq Zr,.ne (.s Zr Zq) Kr,.eq (.z 2) (.z 3),.dv 3 1 (.a Zq Zr)] (.lt Zq (.z 2)) [[11020121],[11020101]] rfl (by assumption) h2 em rfl) (by exact lq [] [_,_,_,_] [.lt Zq Zr,.eq (.z 2) (.z 3),.dv 3 1 (.a Zq Zr)] (.lt (.z 2) Zr) [[1010211]] rfl (by assumption) em rfl) k2 hn o1
    refine HS.expr rfl (HE.q_meth hQ (Ev.name 0 sl0 rfl) ⟨by k_is,by k_is,by k_is,by k_is⟩ (fun _ _ _ _ _=>(by kernel_rfl)) rfl (Evs.cons rfl (Ev.name 1 sl1 rfl) (Evs.cons rfl (Ev.bin (Ev.bin (Ev.name 1 sl1 rfl) (Ev.name 2 sl2 rfl) IOp.add) Ev.int (IOp.fdiv (by decide) (by decide))) (Evs.cons rfl (Ev.name 2 sl2 rfl) Evs.nil))) f1 sp) ?_
    intro v₀ l₀ h₀
    apply h₀
    intro C₃ b₂ S₄ W₄ o2 o3
    refine HS.ite (EvT.cmp (Ev.bin (Ev.name 2 sl2 rfl) (Ev.name 1 sl1 rfl) IOp.sub) Ev.int ICmp.eq rfl) (fun _=>(HS.ret0 ?_)) (fun _=>(HS.nil ?_))
    ·rename_i h4
     obtain ⟨q1,q2⟩:=L₂ b₂ (W₃.trans W₄) (fun j j1 j2=>by
      have e1:(x.up+x.dn).fdiv 2=x.up+1:=by exact lq [] [_,_,_,_] [.eq Zq Zr,.eq (.s (.z 3) (.z 2)) (.k 2),.dv 1 1 (.a (.z 2) (.z 3))] (.eq Zq (.a (.z 2) Kr)) [[10101021,11010201]] rfl em h4 rfl
      rw [e1] at o2 o3
      by_cases e2:j=x.up
      ·rw [e2]; exact o2
      ·rw [show j=x.up+1 by exact lq [] [_,_,_] [.eq (.s Zq Zr) (.k 2),.le Zr (.z 2),.lt (.z 2) Zq,.ne (.z 2) Zr] (.eq (.z 2) (.a Zr Kr)) [[1010010,1102000],[1010010,1100000]] rfl h4 j1 j2 e2,show x.up+1+1=x.dn by exact lq [] [_,_] [.eq (.s Zq Zr) (.k 2)] (.eq (.a (.a Zr Kr) Kr) Zq) [[1100,1010]] rfl h4]; exact o3)
     exact ret _ _ _ fun X k=>k _ _ _ S₄ q1 q2
    ·rename_i h4
     have sp:=fun t t'=>spec_part A R H q dq ge pu le ho dr key hQ C₀ C₃ hs x.e n x.up x.dn t t' b₂ hsl S₄ k1 (by exact lq [] [_,_] [.lt Zq Zr,.ne (.s Zr Zq) Kr,.ne (.s Zr Zq) (.k 2)] (.le (.a Zq (.k 3)) Zr) [[10230],[],[11200],[11000]] rfl (by assumption) h2 h4) k2 hn o2 o3
     refine HS.assignH 3 sl3 rfl (HE.q_meth hQ (Ev.name 0 sl0 rfl) ⟨by k_is,by k_is,by k_is,by k_is⟩ (fun _ _ _ _ _=>(by kernel_rfl)) rfl (Evs.cons rfl (Ev.name 1 sl1 rfl) (Evs.cons rfl (Ev.name 2 sl2 rfl) Evs.nil)) f2 sp) ?_
     intro v₀ l₀ h₀
     apply h₀
     intro C₄ b₃ u tu e₂ S₅ W₅ u1 u2 q1 q2
     have W₆:=(W₃.trans W₄).trans W₅
     refine HS.ite (EvT.cmp (Ev.bin (Ev.nameI 3 sl3 rfl) (Ev.name 1 sl1 rfl) IOp.sub) (Ev.bin (Ev.name 2 sl2 rfl) (Ev.nameI 3 sl3 rfl) IOp.sub) ICmp.lt rfl) (fun _=>?_) (fun _=>?_)
     ·have sp:=fun t t'=>ih C₄ e₂ x.up (u - 1) t t' b₃ S₅ k1 (by exact lq [] [_,_,_] [.le Zq Zr,.le (.z 2) (.s Zq Kr)] (.le (.s (.z 2) Kr) Zr) [] rfl k2 u2) (by exact lq [_] [_,_,_,_,_] [.le (.a (.s Zq Zr) Kr) (.c (.a Nq Kr)),.le Zr (.z 2),.le (.z 3) Zq,.lt (.s (.z 4) (.z 2)) (.s (.z 3) (.z 4))] (.le (.a (.s (.s (.z 4) Kr) (.z 2)) Kr) Nq) [[111111]] rfl hm x1 y1 (by assumption))
      refine HS.expr rfl (HE.q_meth hQ (Ev.name 0 sl0 rfl) ⟨by k_is,by k_is,by k_is,by k_is⟩ (fun _ _ _ _ _=>(by kernel_rfl)) rfl (Evs.cons rfl (Ev.name 1 sl1 rfl) (Evs.cons rfl (Ev.bin (Ev.nameI 3 sl3 rfl) Ev.int IOp.sub) Evs.nil)) f3 sp) ?_
      intro v₀ l₀ h₀
      apply h₀
      intro C₅ b₄ e₃ S₆ W₇ O₇
      refine HS.assign 1 sl1 rfl (Ev.bin (Ev.nameI 3 sl3 rfl) Ev.int IOp.add) (HS.nil (HS.nil (HS.done ?_)))
      exact next ⟨C₅,e₃,b₄,u+1,x.dn⟩ _ ⟨S₆,left_up L₂ W₆ u1 u2 q1 q2 W₇ O₇,by show lw≤u+1; exact lq [] [_,_,_] [.le Zq Zr,.lt Zr (.z 2)] (.le Zq (.a (.z 2) Kr)) [] rfl x1 u1,y1⟩ (by show (x.dn - (u+1)+1).toNat < (x.dn - x.up+1).toNat; exact lq [_,_] [_,_,_] [.lt Zq Zr,.lt (.s Zr Zq) (.s (.z 2) Zr),.tn 0 (.a (.s (.z 2) (.a Zr Kr)) Kr),.tn 1 (.a (.s (.z 2) Zq) Kr)] (.t Nq Nr) [[1100010010],[101010010],[100011110],[10011110]] rfl u1 (by assumption) rfl rfl) (by exact NM.Sub.same rfl (NM.Sub.same rfl (NM.Sub.same rfl NM.Sub.nil)))
     ·have sp:=fun t t'=>ih C₄ e₂ (u+1) x.dn t t' b₃ S₅ (by exact lq [] [_,_,_] [.le Kr Zq,.le Zr (.s (.z 2) Kr),.nt (.s Zr Zq) (.s (.z 2) Zr)] (.le Kr (.a Zr Kr)) [] rfl k1 u2 (by assumption)) k2 (by exact lq [_] [_,_,_,_,_] [.le (.a (.s Zq Zr) Kr) (.c (.a Nq Kr)),.le Zr (.z 2),.le (.z 3) Zq,.nt (.s (.z 4) (.z 2)) (.s (.z 3) (.z 4))] (.le (.a (.s (.z 3) (.a (.z 4) Kr)) Kr) Nq) [[111111]] rfl hm x1 y1 (by assumption))
      refine HS.expr rfl (HE.q_meth hQ (Ev.name 0 sl0 rfl) ⟨by k_is,by k_is,by k_is,by k_is⟩ (fun _ _ _ _ _=>(by kernel_rfl)) rfl (Evs.cons rfl (Ev.bin (Ev.nameI 3 sl3 rfl) Ev.int IOp.add) (Evs.cons rfl (Ev.name 2 sl2 rfl) Evs.nil)) f3 sp) ?_
      intro v₀ l₀ h₀
      apply h₀
      intro C₅ b₄ e₃ S₆ W₇ O₇
      refine HS.assign 2 sl2 rfl (Ev.bin (Ev.nameI 3 sl3 rfl) Ev.int IOp.sub) (HS.nil (HS.nil (HS.done ?_)))
      exact next ⟨C₅,e₃,b₄,x.up,u - 1⟩ _ ⟨S₆,left_down L₂ W₆ u1 u2 q1 q2 W₇ O₇,x1,by show u - 1≤hg; exact lq [] [_,_,_] [.le Zq Zr,.le (.z 2) (.s Zq Kr)] (.le (.s (.z 2) Kr) Zr) [] rfl y1 u2⟩ (by show (u - 1 - x.up+1).toNat < (x.dn - x.up+1).toNat; exact lq [_,_] [_,_,_] [.le Zq (.s Zr Kr),.nt (.s Zq (.z 2)) (.s Zr Zq),.tn 0 (.a (.s (.s Zq Kr) (.z 2)) Kr),.tn 1 (.a (.s Zr (.z 2)) Kr)] (.t Nq Nr) [[1100010010],[101010010],[100011110],[10011110]] rfl u2 (by assumption) rfl rfl) (by exact NM.Sub.same rfl (NM.Sub.same rfl (NM.Sub.same rfl NM.Sub.nil)))
  ·(refine (Tst.mk' (EvT.cmp (Ev.name 1 sl1 rfl) (Ev.name 2 sl2 rfl) ICmp.lt rfl) (fun _=>(False.elim (by contradiction))) (fun _=>(HS.nil (HS.done ?_)))))
   obtain ⟨q1,q2⟩:=L₂ x.b .refl (fun j j1 j2=>absurd (Int.lt_of_le_of_lt j1 j2) hlt)
   exact fun X k=>k _ _ _ S₂ q1 q2
end
section
theorem spec_Quicksort (ge pu le ho dr:Addr) (led:Led):Spec w mean mg mb (.ref 135) [.ref ge,.ref pu,.ref le,.ref ho,.ref dr] 8 led (fun r l=>∃ q dq k0 k1 k2 k3 k4,r=.ref q∧l=(q,instObj 135 dq)::(dq,dictOf [⟨PyData.keyHash w.params (Str.ofString "get"),.str (Str.ofString "get") k0,.ref ge⟩,⟨PyData.keyHash w.params (Str.ofString "put"),.str (Str.ofString "put") k1,.ref pu⟩,⟨PyData.keyHash w.params (Str.ofString "less"),.str (Str.ofString "less") k2,.ref le⟩,
  ⟨PyData.keyHash w.params (Str.ofString "hold"),.str (Str.ofString "hold") k3,.ref ho⟩,⟨PyData.keyHash w.params (Str.ofString "drop"),.str (Str.ofString "drop") k4,.ref dr⟩] 5)::led):=by
 refine Spec.cls (by k_is) (by k_is) (by k_is) fun x dx=>?_
 refine Spec.enterA (by k_is) (by k_is) (fun s X=>(BindsTo.of_eq rfl)) rfl (by kernel_rfl) (by kernel_rfl) rfl rfl rfl (by decide) ?_
 refine HS.setNew rfl (NewOk.mk (by k_is) (by k_is) (by k_is) (by k_is)) (by kernel_rfl) rfl (Ev.name 1 sl1 rfl) (Ev.name 0 sl0 rfl) ?_
 rintro _ k0 rfl
 refine HS.setNew rfl (NewOk.mk (by k_is) (by k_is) (by k_is) (by k_is)) (by kernel_rfl) rfl (Ev.name 2 sl2 rfl) (Ev.name 0 sl0 rfl) ?_
 rintro _ k1 rfl
 refine HS.setNew rfl (NewOk.mk (by k_is) (by k_is) (by k_is) (by k_is)) (by kernel_rfl) rfl (Ev.name 3 sl3 rfl) (Ev.name 0 sl0 rfl) ?_
 rintro _ k2 rfl
 refine HS.setNew rfl (NewOk.mk (by k_is) (by k_is) (by k_is) (by k_is)) (by kernel_rfl) rfl (Ev.name 4 sl4 rfl) (Ev.name 0 sl0 rfl) ?_
 rintro _ k3 rfl
 refine HS.setNew rfl (NewOk.mk (by k_is) (by k_is) (by k_is) (by k_is)) (by kernel_rfl) rfl (Ev.name 5 sl5 rfl) (Ev.name 0 sl0 rfl) ?_
 rintro _ k4 rfl
 refine HS.nil (HS.done ?_)
 exact ⟨rfl,x,dx,k0,k1,k2,k3,k4,rfl,rfl⟩
end
section
variable {prog:Program} {w:World} {A:Around} {E:Value→Shared→Prop} {s:Shared}
theorem ib_eq (a:Int) (t:Tok) (b:Array UInt8) (u:Tok):Gives (Builtin.«int.__eq__» ⟨[.int a t,.bytes b u],[]⟩) (.val (Value.notImplemented)) :=
 .of_wp fun M A E s Q h=>by obtain ⟨hp,g,d,tk,os⟩:=s; wp_walk; exact ⟨_,rfl,h⟩
theorem sub_int_bytes:isSubtype (.type "int") (.type "bytes")=pure false:=by rw [isSubtype_type]; kernel_rfl
theorem bi_eq (a:Array UInt8) (t:Tok) (b:Int) (u:Tok):Gives (Builtin.«bytes.__eq__» ⟨[.bytes a t,.int b u],[]⟩) (.val (Value.notImplemented)) :=
 .of_wp fun M A E s Q h=>by obtain ⟨hp,g,d,tk,os⟩:=s; wp_walk using (wpAny_of_eq sub_int_bytes); exact ⟨_,rfl,h⟩
theorem slot_bytes_eq_refl:Slot "bytes" (cmpInfo .Eq).2.2 "bytes.__eq__":=FB.slot_bytes_eq
theorem sub_bytes_int:isSubtype (.type "bytes") (.type "int")=pure false:=by rw [isSubtype_type]; kernel_rfl
theorem cmp_ib {a:Int} {t:Tok} {b:Array UInt8} {u:Tok} {Q:Value→Shared→Prop} (h:Q (.bool false) s):wpAny (model prog w) A (richCompare .Eq (.int a t) (.bytes b u)) Q E s :=
 EqNone.wpAny_richCompare_eq_decline (k:=false) (fun s'=>typeIs_int s' a t) (fun s'=>rfl) (by decide) sub_bytes_int F.slot_int_eq slot_bytes_eq_refl rfl
  (call_gives F.slot_int_eq (typeIs_int s a t) F.entry_int_eq (F.args_int_eq_2 _ _) (ib_eq a t b u)
   ⟨rfl,call_gives slot_bytes_eq_refl rfl FB.entry_bytes_eq (FB.args_bytes_eq_2 _ _) (bi_eq b u a t) ⟨rfl,h⟩⟩)
theorem cmp_bi {a:Array UInt8} {t:Tok} {b:Int} {u:Tok} {Q:Value→Shared→Prop} (h:Q (.bool false) s):wpAny (model prog w) A (richCompare .Eq (.bytes a t) (.int b u)) Q E s :=
 EqNone.wpAny_richCompare_eq_decline (k:=false) (fun s'=>rfl) (fun s'=>typeIs_int s' b u) (by decide) sub_int_bytes FB.slot_bytes_eq F.slot_int_eq_refl rfl
  (call_gives FB.slot_bytes_eq rfl FB.entry_bytes_eq (FB.args_bytes_eq_2 _ _) (bi_eq a t b u)
   ⟨rfl,call_gives F.slot_int_eq_refl (typeIs_int s b u) F.entry_int_eq (F.args_int_eq_2 _ _) (ib_eq b u a t) ⟨rfl,h⟩⟩)
theorem eqb_ib {a:Int} {t:Tok} {b:Array UInt8} {u:Tok} {Q:Bool→Shared→Prop} (h:Q false s):wpAny (model prog w) A (eqBool (.int a t) (.bytes b u)) Q E s:=by
 unfold eqBool
 refine wpAny_holding ?_
 rw [if_neg (by simp)]
 exact wpAny_bind (cmp_ib (wpAny_truthy_bool h))
theorem eqb_bi {a:Array UInt8} {t:Tok} {b:Int} {u:Tok} {Q:Bool→Shared→Prop} (h:Q false s):wpAny (model prog w) A (eqBool (.bytes a t) (.int b u)) Q E s:=by
 unfold eqBool
 refine wpAny_holding ?_
 rw [if_neg (by simp)]
 exact wpAny_bind (cmp_bi (wpAny_truthy_bool h))
end
noncomputable def isKy (k:Ky) (v:Value):Bool:=decide (ky v=some k)
noncomputable def kyHash (prog:Program) (w:World):Ky→Int
 | .i n=>(intKind prog w).hash n
 | .b l=>(bytesKind prog w).hash l
theorem isKy_shape {k:Ky} {v:Value} (h:isKy k v=true):(∃ n t,k=.i n∧v=.int n t)∨∃ b t,k=.b b.toList∧v=.bytes b t:=by
 have h':ky v=some k:=by simpa [isKy] using h
 cases v <;> simp [ky] at h'
 ·exact .inl ⟨_,_,h'.symm,rfl⟩
 ·exact .inr ⟨_,_,h'.symm,rfl⟩
noncomputable def kyKind (prog:Program) (w:World):KeyKind prog w Ky where
 is:=isKy
 hash:=kyHash prog w
 inj v a b ha hb:=by
  have h1:ky v=some a:=by simpa [isKy] using ha
  have h2:ky v=some b:=by simpa [isKy] using hb
  rw [h1] at h2
  exact Option.some.inj h2
 byValue k v h:=by
  rcases isKy_shape h with ⟨n,t,rfl,rfl⟩ | ⟨b,t,rfl,rfl⟩ <;> rfl
 pyHash:=fun {A E s k v Q} hv h=>by
  rcases isKy_shape hv with ⟨n,t,rfl,rfl⟩ | ⟨b,t,rfl,rfl⟩
  ·exact (intKind prog w).pyHash (by simp [intKind,Value.isInt]) h
  ·exact (bytesKind prog w).pyHash (k:=b.toList) (by simp [bytesKind,isBytes]) h
 eqBool:=fun {A E s a b u v Q} hu hv h=>by
  rcases isKy_shape hu with ⟨n,t,rfl,rfl⟩ | ⟨c,t,rfl,rfl⟩ <;> rcases isKy_shape hv with ⟨n',t',rfl,rfl⟩ | ⟨c',t',rfl,rfl⟩
  ·have e:decide (Ky.i n=Ky.i n')=(n == n'):=by rw [Bool.eq_iff_iff]; simp
   rw [e] at h
   exact wpAny_eqBool_int h
  ·exact eqb_ib (by simpa using h)
  ·exact eqb_bi (by simpa using h)
  ·exact eqBool_bytes (by simpa using h)
 «strs» k x t v h:=by
  rcases isKy_shape h with ⟨n,t,rfl,h⟩ | ⟨b,t,rfl,h⟩ <;> cases h
theorem buf_look:typeLookup (.type "bytes") "__buffer__"=pure (some (.builtin "bytes.__buffer__")):=by
 rw [typeLookup_type,builtinLookup_eq_fast]; kernel_rfl
theorem rel_look:typeLookup (.type "bytes") "__release_buffer__"=pure none:=by
 rw [typeLookup_type,builtinLookup_eq_fast]; kernel_rfl
theorem sub_bytes:isSubtype (.type "bytes") (.type "bytes")=pure true:=by rw [isSubtype_type]; kernel_rfl
section
variable {M:Model} {A:Around} {E:Value→Shared→Prop} {s:Shared}
theorem own_buffer {b:Array UInt8} {t:Tok} {Q:Bool→Shared→Prop} (h:Q true s):wpAny M A (Builtin.Bytes.slotIsOwn (.bytes b t) "__buffer__") Q E s:=by
 unfold Builtin.Bytes.slotIsOwn
 refine wpAny_bind (wpAny_specialOf_val rfl buf_look ?_)
 show wpAny M A (if (!("bytes.__buffer__":String).endsWith ("."++"__buffer__"))=true then pure false
   else isInstance (Value.bytes b t) (Value.type (("bytes.__buffer__":String).dropRight ("__buffer__".length+1)))) _ _ _
 rw [show (!("bytes.__buffer__":String).endsWith ("."++"__buffer__"))=false by decide +kernel,
  show ("bytes.__buffer__":String).dropRight ("__buffer__".length+1)="bytes" by decide +kernel,if_neg (by decide)]
 exact wpAny_isInstance_val rfl sub_bytes h
theorem own_rel {b:Array UInt8} {t:Tok} {Q:Bool→Shared→Prop} (h:Q false s):wpAny M A (Builtin.Bytes.ownRelease (.bytes b t)) Q E s:=by
 unfold Builtin.Bytes.ownRelease Builtin.Bytes.slotIsOwn
 refine wpAny_bind (wpAny_bind (wpAny_specialOf_val rfl rel_look ?_))
 exact wpAny_pure (wpAny_pure h)
theorem buf_bytes {id:String} {b:Array UInt8} {t:Tok} {Q:Option (Array UInt8)→Shared→Prop} {full:Bool} (h:Q (some b) s) :
  wpAny M A (Builtin.Bytes.buffer? id (.bytes b t) full) Q E s:=by
 unfold Builtin.Bytes.buffer?
 refine wpAny_bind (wpAny_specialOf_val rfl buf_look ?_)
 refine wpAny_bind (own_buffer ?_)
 refine wpAny_bind (wpAny_specialOf_val rfl buf_look ?_)
 refine wpAny_bind (own_rel ?_)
 exact wpAny_bind (wpAny_bind (wpAny_pure (wpAny_pure (wpAny_pure h))))
theorem take_bytes {id:String} {b:Array UInt8} {t:Tok} {Q:Option (Array UInt8×Option Value)→Shared→Prop} (h:Q (some (b,none)) s) :
  wpAny M A (Builtin.Bytes.takeBufferQuiet? id (.bytes b t) 0) Q E s:=by
 unfold Builtin.Bytes.takeBufferQuiet? Builtin.Bytes.takeBuffer?
 refine wpAny_bind (wpAny_attempt ?_)
 refine wpAny_bind (wpAny_specialOf_val rfl buf_look ?_)
 refine wpAny_bind (own_buffer ?_)
 refine wpAny_bind (wpAny_specialOf_val rfl buf_look ?_)
 exact wpAny_bind (buf_bytes (wpAny_pure (wpAny_pure h)))
theorem join_letGo {keep:List Value} {Q:Unit→Shared→Prop} (h:Q () s):∀ (l:List (Value×Option Value)),(∀ p∈l,p.2=none)→wpAny M A (Builtin.Bytes.joinLetGo l keep) Q E s
 | [],_=>wpAny_pure h
 | (x,y)::r,hl=>by
  obtain rfl:y=none:=hl (x,y) (by simp)
  exact wpAny_bind (wpAny_letGo (join_letGo h r fun p hp=>hl p (.tail _ hp)))
theorem range_inv {β:Type} {n:Nat} {f:Nat→β→Sem (ForInStep β)} (I:Nat→β→Prop) {b₀:β} (h0:I 0 b₀) {Q:β→Shared→Prop}
  (hs:∀ i b (R:ForInStep β→Shared→Prop),i < n→I i b→(∀ b',I (i+1) b'→R (.yield b') s)→wpAny M A (f i b) R E s) (hq:∀ b,I n b→Q b s) :
  wpAny M A (forIn [:n] b₀ f) Q E s:=by
 rw [Std.Legacy.Range.forIn_eq_forIn_range']
 have key:∀ (k i:Nat) (b:β),i+k=n→I i b→wpAny M A (forIn (List.range' i k 1) b f) Q E s:=by
  intro k
  induction k with
  | zero =>
   intro i b hi hb
   obtain rfl:i=n:=hi
   exact wpAny_pure (hq b hb)
  | succ k ih =>
   intro i b hi hb
   rw [List.range'_succ,List.forIn_cons]
   exact wpAny_bind (hs i b _ (by exact lq [_,_,_] [] [.e (.a Nq (.a Nr Kr)) Ns] (.t Nq Ns) [[1010]] rfl hi) hb fun b' hb'=>ih (i+1) b' (by exact lq [_,_,_] [] [.e (.a Nq (.a Nr Kr)) Ns] (.e (.a (.a Nq Kr) Nr) Ns) [[1010,1100]] rfl hi) hb')
 have e:(Std.Legacy.Range.size [:n])=n:=by simp [Std.Legacy.Range.size]
 rw [e]
 exact key n 0 b₀ (by exact Nat.add_comm _ _) h0
end
theorem slot_bytes_join:Slot "bytes" "join" "bytes.join" :=
 .of (owner:="bytes") (n:="join") (by rw [typeLookup_type,builtinLookup_eq_fast]; kernel_rfl) (by decide +kernel) (by decide +kernel) (by decide +kernel)
  (by first | exact .inl (by decide +kernel) | exact .inr (by decide +kernel)) (by rw [isSubtype_type]; kernel_rfl)
theorem type_bytes_join:typeOf (.builtin "bytes.join")=pure (.type "method_descriptor"):=by show builtinType _=_; rw [builtinType_eq_fast]; kernel_rfl
theorem entry_bytes_join:entryFor table "bytes.join"=some Builtin.«bytes.join»:=entryFor_of_tree (by kernel_rfl)
theorem args_bytes_join_2 (a b:Value):argsOk "bytes.join" ⟨[a,b],[]⟩:=by
 unfold argsOk; rw [signature?_of (id:="bytes.join") (n:=['n','i','o','j']) (o:=['s','e','t','y','b']) (by kernel_rfl) FB.owner_bytes]; kernel_rfl
noncomputable def bytesVals (l:List (Array UInt8×Tok)):List Value:=l.map fun p=>.bytes p.1 p.2
theorem joined_fold (sep:Array UInt8) (k:Nat):∀ (l:List (Array UInt8)) (i:Nat) (out:Array UInt8),(∀ p∈l,p.size≤k)→sep.size≤k →
  ((l.zipIdx i).foldl (fun out (x:Array UInt8×Nat)=>(if x.2 > 0 then out++sep else out)++x.1) out).size≤out.size+2 * k * l.length
 | [],_,_,_,_=>by simp
 | p::l,i,out,h,hs=>by
  rw [List.zipIdx_cons,List.foldl_cons]
  have h1:=joined_fold sep k l (i+1) ((if i > 0 then out++sep else out)++p) (fun q hq=>h q (.tail _ hq)) hs
  have h2:=h p (by simp)
  have h3:((if i > 0 then out++sep else out)++p).size≤out.size+2 * k:=by
   split <;> simp <;> (first | exact lq [_,_,_] [] [.l Nq Nr,.l Ns Nr] (.l (.a Nq Ns) (.m 2 Nr)) [] rfl hs h2 | exact lq [_,_] [] [.l Nq Nr] (.l Nq (.m 2 Nr)) [] rfl h2)
  rw [List.length_cons,Nat.mul_add,Nat.mul_one]
  dsimp only at h1 ⊢
  exact lq [_,_,_,_,_] [] [.l Nq (.a Nr Ns),.l Nr (.a (.n 3) (.m 2 (.n 4)))] (.l Nq (.a (.n 3) (.a Ns (.m 2 (.n 4))))) [] rfl h1 h3
theorem joined_size (sep:Array UInt8) (l:List (Array UInt8)) (hl:l.length≤64) (h:∀ p∈l,p.size≤16) (hs:sep.size≤16):(Builtin.Bytes.joined sep l).size≤sizeLine:=by
 have:=joined_fold sep 16 l 0 #[] h hs
 unfold Builtin.Bytes.joined
 have e:(2048:Nat)≤sizeLine:=by decide
 simp at this
 refine Nat.le_trans ?_ e
 refine Nat.le_trans this ?_
 lia
theorem sizes_fold (k:Nat):∀ (l:List (Array UInt8)) (n:Nat),(∀ p∈l,p.size≤k)→l.foldl (fun (x:Nat) (y:Array UInt8)=>x+y.size) n≤n+k * l.length
 | [],_,_=>by simp
 | p::l,n,h=>by
  rw [List.foldl_cons]
  have h1:=sizes_fold k l (n+p.size) (fun q hq=>h q (.tail _ hq))
  have h2:=h p (by simp)
  rw [List.length_cons,Nat.mul_add,Nat.mul_one]
  exact lq [_,_,_,_,_] [] [.l Nq (.a (.a Nr Ns) (.n 3)),.l Ns (.n 4)] (.l Nq (.a Nr (.a (.n 3) (.n 4)))) [] rfl h1 h2
theorem if_no {α:Type} {M:Model} {A:Around} {E:Value→Shared→Prop} {s:Shared} {Q:α→Shared→Prop} {c:Bool} {x y:Sem α} (h:c=false) (k:wpAny M A y Q E s):wpAny M A (if c=true then x else y) Q E s:=by
 subst h; exact k
theorem take_at {M:Model} {A:Around} {E:Value→Shared→Prop} {s:Shared} {v:Value} {id:String} {b:Array UInt8} {t:Tok} {Q:Option (Array UInt8×Option Value)→Shared→Prop} (e:v=.bytes b t) (h:Q (some (b,none)) s):wpAny M A (Builtin.Bytes.takeBufferQuiet? id v 0) Q E s:=by
 subst e; exact take_bytes h
theorem no_fit {sep:Array UInt8} (hs:sep.size≤16):Builtin.Bytes.tooLong (#[].foldl (fun (x:Nat) (y:Array UInt8)=>x+y.size) (sep.size * ((#[]:Array (Array UInt8)).size - 1)))=false:=by
 show Builtin.Bytes.tooLong (sep.size * 0)=false
 rw [Nat.mul_zero]; rfl
theorem bytes_join {prog:Program} {w:World} {A:Around} {E:Value→Shared→Prop} {s:Shared} {Q:Value→Shared→Prop}
  {sep:Array UInt8} {t:Tok} {D:Addr} {l:List (Array UInt8×Tok)} (hD:s.heap.IsList D (bytesVals l).toArray) (hl:l.length≤64)
  (hp:∀ p∈l,p.1.size≤16) (hs:sep.size≤16)
  (hq:∀ t' k,Q (.bytes (Builtin.Bytes.joined sep (l.map (·.1))) t') { s with toks:=k }) :
  wpAny (model prog w) A (call (.builtin "bytes.join") [.bytes sep t,.ref D]) Q E s:=by
 refine wpAny_call (codeAny_call_builtin slot_bytes_join.plain entry_bytes_join (slot_bytes_join.check _ _ _ _ _ _ _ _ rfl (args_bytes_join_2 _ _) ?_))
 obtain ⟨o,ho,hc,n,hd⟩:=hD
 unfold Builtin.«bytes.join» Builtin.Bytes.joinM
 refine wpAny_bind (wpAny_pure ?_)
 refine wpAny_bind (wpAny_bind (wpAny_typeOf_ref ho ?_))
 rw [hc]
 refine wpAny_pure (wpAny_bind (wpAny_seqItems ho hd ?_))
 dsimp only
 rw [if_pos (show (Builtin.Bytes.Kind.bytes == Builtin.Bytes.Kind.bytes)=true from rfl)]
 have one:∀ p,l=[p]→Q (.bytes p.1 p.2) s:=by
  rintro p rfl
  have:=hq p.2 s.toks
  simpa [Builtin.Bytes.joined] using this
 rcases l with _ | ⟨p,_ | ⟨q,r⟩⟩
 rotate_left
 ·refine wpAny_bind (wpAny_pure ?_)
  rw [if_pos (by decide)]
  exact wpAny_bind (wpAny_rule (wpAny_pure (one p rfl)))
 ·refine wpAny_bind (m:=forIn _ _ _) ?_
  clear one
  generalize hgen:p::q::r=l at *
  clear hgen
  have hn:(bytesVals l).toArray.size=l.length:=by rw [List.size_toArray]; exact List.length_map _
  have hx:∀ i (h:i < l.length),(bytesVals l).toArray.getD i Value.none=.bytes l[i].1 l[i].2:=fun i h=>by simp [bytesVals,h]
  have hno:∀ i,(((bytesVals (l.take i)).map fun v=>(v,(none:Option Value))).any fun x=>x.1.onHeap)=false:=fun i=>by
   rw [List.any_eq_false]
   intro x hx
   obtain ⟨v,hv,rfl⟩:=List.mem_map.mp hx
   obtain ⟨p,_,rfl⟩:=List.mem_map.mp hv
   exact Bool.false_ne_true
  have hfit:Builtin.Bytes.tooLong ((l.map (·.1)).toArray.foldl (fun x y=>x+y.size) (sep.size * ((l.map (·.1)).toArray.size - 1)))=false:=by
   rw [List.foldl_toArray]
   have h1:=sizes_fold 16 (l.map (·.1)) (sep.size * ((l.map (·.1)).toArray.size - 1)) (by
    intro p hp'
    obtain ⟨q,hq',rfl⟩:=List.mem_map.mp hp'
    exact hp q hq')
   have h2:sep.size * ((l.map (·.1)).toArray.size - 1)≤16 * 64:=Nat.mul_le_mul hs (by simp; exact Nat.le_succ_of_le hl)
   have e:(4096:Nat)≤sizeLine:=by decide
   have h3:(l.map (·.1)).length=l.length:=List.length_map _
   unfold Builtin.Bytes.tooLong
   rw [h3] at h1
   simp only [gt_iff_lt,decide_eq_false_iff_not,Nat.not_lt]
   lia
  refine (range_inv (fun i (b:Array (Array UInt8)×List (Value×Option Value)) =>
   b=(((l.take i).map (·.1)).toArray,(bytesVals (l.take i)).map fun v=>(v,none))) ?_ ?_ ?_)
  ·rfl
  ·intro i b R hi hb hR
   subst hb
   have hi':i < l.length:=hn▸hi
   refine wpAny_bind (wpAny_seqItems ho hd ?_)
   refine if_no (hno i) ?_
   refine wpAny_bind (wpAny_holding (take_at (hx i hi') ?_))
   refine wpAny_bind (wpAny_seqItems ho hd ?_)
   refine if_no (bne_self_eq_false' _) ?_
   refine wpAny_pure (hR _ ?_)
   rw [hx i hi',List.take_succ_eq_append_getElem hi']
   simp only [bytesVals,List.map_append,List.map_cons,List.map_nil,List.push_toArray]
  ·intro b hb
   rw [hn,List.take_length] at hb
   subst hb
   refine wpAny_bind (wpAny_bind (wpAny_pure (wpAny_pure ?_)))
   refine if_no hfit ?_
   refine wpAny_bind (wpAny_mkBytes ?_ ?_)
   ·refine wpAny_bind (wpAny_holding (wpAny_point ?_))
    refine wpAny_bind (join_letGo ?_ _ ?_)
    ·exact wpAny_pure (hq _ _)
    ·intro p hp'
     obtain ⟨v,_,rfl⟩:=List.mem_map.mp hp'
     rfl
   ·exact joined_size _ _ ((List.length_map _).symm▸hl) (by
     intro p hp'
     obtain ⟨q,hq',rfl⟩:=List.mem_map.mp hp'
     exact hp q hq') hs
 ·refine wpAny_bind (m:=forIn _ _ _) ?_
  refine (range_inv (fun _ (b:Array (Array UInt8)×List (Value×Option Value))=>b=(#[],[])) rfl (fun i b R hi=>absurd hi (Nat.not_lt_zero i)) fun b hb=>?_)
  subst hb
  refine wpAny_bind (wpAny_bind (wpAny_pure (wpAny_pure ?_)))
  refine if_no ?_ ?_
  rotate_left
  ·refine wpAny_bind (wpAny_mkBytes ?_ ?_)
   ·refine wpAny_bind (wpAny_holding (wpAny_point ?_))
    refine wpAny_bind (join_letGo ?_ _ ?_)
    ·exact wpAny_pure (hq _ _)
    ·exact fun p hp'=>nomatch hp'
   ·exact joined_size sep [] hl (fun p hp'=>nomatch hp') hs
  ·exact no_fit hs
theorem plain_bytes:PlainAttrs "bytes":=FB.plainAttrs_bytes
section
variable {M:Model} {A:Around} {E:Value→Shared→Prop} {s:Shared}
theorem join_method {x:Array UInt8} {t:Tok} {pl:Sem Bool} {Q:Value×List Value→Shared→Prop} (h:Q (.builtin "bytes.join",[.bytes x t]) s):wpAny M A (getMethod (.bytes x t) "join" pl) Q E s :=
 getMethod_builtin rfl plain_bytes slot_bytes_join type_bytes_join (fun z9 e=>nomatch e) h
end
theorem bytesVals_app (l:List (Array UInt8×Tok)) (p:Array UInt8×Tok):(bytesVals l).toArray.push (.bytes p.1 p.2)=(bytesVals (l++[p])).toArray:=by simp [bytesVals]
section
variable {prog:Program} {w:World} {Ar:Around} {E:Value→Shared→Prop} {s:Shared} {h₀:Heap} {L:Addr} {m:Names} {Q:Value→Shared→Prop}
theorem app_bytes {l:Addr} {ls:List (Array UInt8×Tok)} {b:Array UInt8} {t:Tok} {e:Nat} {led:Led} (F:Fr h₀ L s.heap m) (N:News h₀ L s.heap ((l,listOf (bytesVals ls).toArray e)::led)) (D:Apart ((l,listOf (bytesVals ls).toArray e)::led)) (hz:ls.length < 1000)
  (h:∀ h',Fr h₀ L h' m→News h₀ L h' ((l,listOf (bytesVals (ls++[(b,t)])).toArray (e+1))::led)→Apart ((l,listOf (bytesVals (ls++[(b,t)])).toArray (e+1))::led)→Q .none { s with heap:=h' }) :
  wpAny (model prog w) Ar (call (.builtin "list.append") [.ref l,.bytes b t]) Q E s:=by
 have ep:=bytesVals_app ls (b,t)
 have U:=Apart.upd (pre:=[]) (d:=l) (o:=listOf (bytesVals ls).toArray e) (o':=listOf ((bytesVals ls).toArray.push (.bytes b t)) (e+1)) (post:=led) D
 refine append_K F N U.1 (fun h' F' N'=>?_) (by rw [List.size_toArray]; unfold bytesVals; rw [List.length_map]; exact Nat.le_trans (Nat.le_of_lt hz) (by decide))
 dsimp only at ep
 rw [ep] at N' U
 exact h h' F' N' U.2
end
section
variable {sh:Sh} {dep:Nat} {m:NM} {led:Led} {a:Addr} {n:Nat} {o e:PySem.Expr} {ap pos:Pos}
theorem HE.b_append {ls:List (Array UInt8×Tok)} {b:Array UInt8} (hc:noCall o=true) (hs:isStar e=false) (hf:fewOk [e] ap pos=true) (ho:Ev ⟨⟨w,mean,mg,mb,sh,dep⟩,m,(a,listOf (bytesVals ls).toArray n)::led⟩ o (.v (.ref a)))
  (he:HE ⟨⟨w,mean,mg,mb,sh,dep⟩,m,(a,listOf (bytesVals ls).toArray n)::led⟩ e fun r l=>(∃ t',r=.bytes b t')∧l=(a,listOf (bytesVals ls).toArray n)::led) (hz:ls.length < 1000) :
  HE ⟨⟨w,mean,mg,mb,sh,dep⟩,m,(a,listOf (bytesVals ls).toArray n)::led⟩ (.Call (.Attribute o (Str.ofString "append") ap) [e] [] pos) fun z9 l=>∃ t',l=(a,listOf (bytesVals (ls++[(b,t')])).toArray (n+1))::led:=by
 intro Ar g L s T R0
 have hp:((backTo pos (starEach [e] (sh.env L))).any (·.1))=false:=by rw [star_of hs]; rfl
 refine MethodCall_ (ho.use T R0 fun z9 z9 z9 ev R1=>?_) (meth_any hc hp hf)
 cases ev
 refine listMethod_K R1.N (.head _) PySem.F.slot_list_append PySem.F.type_list_append (callWith_method1 (args_cons (he.use T R1 fun r h' tk' l' hr R2=>args_nil ?_) (star_of hs)) (star_of hs) rfl)
 obtain ⟨⟨t',rfl⟩,rfl⟩:=hr
 obtain ⟨nm,F,H⟩:=R2.F
 exact app_bytes F R2.N R2.D hz fun h' F' N' D'=>⟨h',_,m,(a,listOf (bytesVals (ls++[(b,t')])).toArray (n+1))::led,rfl,⟨⟨nm,F',H⟩,N',D'⟩,rfl,t',rfl⟩
theorem HE.join {ls:List (Array UInt8×Tok)} {sep:Array UInt8} {ts:Tok} (hc:noCall o=true) (hs:isStar e=false) (hf:fewOk [e] ap pos=true) (ho:Ev ⟨⟨w,mean,mg,mb,sh,dep⟩,m,(a,listOf (bytesVals ls).toArray n)::led⟩ o (.v (.bytes sep ts))) (he:Ev ⟨⟨w,mean,mg,mb,sh,dep⟩,m,(a,listOf (bytesVals ls).toArray n)::led⟩ e (.v (.ref a)))
  (hz:ls.length≤64) (h16:∀ p∈ls,p.1.size≤16) (hss:sep.size≤16) :
  HE ⟨⟨w,mean,mg,mb,sh,dep⟩,m,(a,listOf (bytesVals ls).toArray n)::led⟩ (.Call (.Attribute o (Str.ofString "join") ap) [e] [] pos) fun r l=>(∃ t',r=.bytes (Builtin.Bytes.joined sep (ls.map (·.1))) t')∧l=led:=by
 intro Ar g L s T R0
 have hp:((backTo pos (starEach [e] (sh.env L))).any (·.1))=false:=by rw [star_of hs]; rfl
 refine MethodCall_ (ho.use T R0 fun z9 z9 z9 ev R1=>?_) (meth_any hc hp hf)
 cases ev
 refine join_method (callWith_method1 (args_cons (he.use T R1 fun r h' tk' hr R2=>args_nil ?_) (star_of hs)) (star_of hs) rfl)
 cases hr
 obtain ⟨nm,F,H⟩:=R2.F
 exact bytes_join (l:=ls) (PySem.IsL.isList (n:=n) (R2.N _ (.head _)).1) hz h16 hss fun t k=>⟨_,k,m,led,rfl,⟨⟨nm,F,H⟩,News.sub R2.N fun z9 h=>.tail _ h,(List.nodup_cons.mp R2.D).2⟩,rfl,⟨t,rfl⟩,rfl⟩
end
section
variable (w:World) (mean:ExcName→Option Value) (mg mb:Names)
noncomputable def TextK (ta:Addr) (led:Led) (txt:Int→Array UInt8) (fi la:Int):Prop:=∀ x i t,fi≤i→i≤la→Spec w mean mg mb (.ref ta) [.int i t] 60 (x::led) (fun r l=>(∃ t',r=.bytes (txt i) t')∧l=x::led)
end
section
theorem TextK.use {ta:Addr} {led:Led} {txt:Int→Array UInt8} {fi la i:Int} {t:Tok} {x:Addr×Obj} (h:TextK w mean mg mb ta led txt fi la) (h1:fi≤i) (h2:i≤la):Spec w mean mg mb (.ref ta) [.int i t] 60 (x::led) (fun r l=>(∃ t',r=.bytes (txt i) t')∧l=x::led):=h x i t h1 h2
theorem spec_joined (ta:Addr) (led:Led) (txt:Int→Array UInt8) (fi la:Int) (sep:Array UInt8) (t1 t2 ts:Tok) (hak:CallsIn w led ta) (hn:la+1 - fi≤60)
  (hsz:∀ i,fi≤i→i≤la→(txt i).size≤16) (hss:sep.size≤16) (hta:TextK w mean mg mb ta led txt fi la) :
  Spec w mean mg mb (.ref 42) [.ref ta,.bytes sep ts,.int fi t1,.int la t2] 62 led (fun r l=>(∃ t',r=.bytes (Builtin.Bytes.joined sep ((List.range (la+1 - fi).toNat).map fun (k:Nat)=>txt (fi+k))) t')∧l=led):=by
 refine Spec.enterA (by k_is) (by k_is) (fun s X=>(BindsTo.of_eq rfl)) rfl (by kernel_rfl) (by kernel_rfl) rfl rfl rfl (by decide) ?_
 refine HS.assignH 4 sl4 rfl HE.list0 ?_
 rintro _ _ ⟨c,rfl,rfl⟩
 refine HS.assign 5 sl5 rfl (Ev.name 2 sl2 rfl) ?_
 refine HS.whileU (X:=List (Array UInt8×Tok)×Nat×Int) (fun x=>x.2.2=fi+x.1.length∧(x.2.2≤la+1∨x.1=[])∧x.1.map (·.1)=(List.range x.1.length).map fun (k:Nat)=>txt (fi+k)) (fun x m=>m.put 5 (.i x.2.2)) (fun x=>(c,listOf (bytesVals x.1).toArray x.2.1)::led) (fun x=>(la+1 - x.2.2).toNat) ([],0,fi) ⟨(Int.add_zero _).symm,.inr rfl,rfl⟩ (by exact NM.Sub.int rfl (NM.Sub.same rfl (NM.Sub.same rfl (NM.Sub.same rfl (NM.Sub.same rfl (NM.Sub.same rfl NM.Sub.nil)))))) rfl ?_
 intro x ⟨ha,hb,hl⟩ Q' next _ _
 by_cases hle:x.2.2≤la
 ·have hlen:x.1.length < 1000:=by exact lq [_] [_,_,_] [.le (.s (.a Zq Kr) Zr) (.k 60),.eq (.z 2) (.a Zr Nq),.le (.z 2) Zq] (.t Nq (.k 1000)) [[111010]] rfl hn ha hle
  have h1:fi≤x.2.2:=by exact lq [_] [_,_] [.eq Zq (.a Zr Nq)] (.le Zr Zq) [[1100]] rfl ha
  refine Tst.mk' (EvT.cmp (Ev.name 5 sl5 rfl) (Ev.nameI 3 sl3 rfl) ICmp.le rfl) (fun z9=>?_) (fun z9=>(False.elim (by contradiction)))
  refine HS.expr rfl (HE.b_append (b:=txt x.2.2) rfl rfl rfl (by exact Ev.name 4 sl4 rfl) ?_ hlen) ?_
  ·(exact (HE.callQ rfl (Ev.name 0 sl0 rfl) (Evs.cons rfl (Ev.name 5 sl5 rfl) Evs.nil) hak (fun z9 z9=>(.tail _ (by assumption))) (nb rfl) (fun z9=>(TextK.use hta h1 (by assumption)))))
  rintro _ _ ⟨t',rfl⟩
  refine HS.aug 5 sl5 rfl (fun z9 z9=>(by assumption)) Ev.int IIOp.add (HS.nil (HS.done ?_))
  refine next (x.1++[(txt x.2.2,t')],x.2.1+1,x.2.2+1) _ ⟨?_,.inl (Int.add_le_add_right hle 1),?_⟩ (by show (la+1 - (x.2.2+1)).toNat < (la+1 - x.2.2).toNat; exact lq [_,_] [_,_] [.le Zq Zr,.tn 0 (.s (.a Zr Kr) (.a Zq Kr)),.tn 1 (.s (.a Zr Kr) Zq)] (.t Nq Nr) [[110001000],[10101000],[11001010],[1011010]] rfl z9 rfl rfl) (by exact NM.Sub.same rfl (NM.Sub.same rfl (NM.Sub.same rfl (NM.Sub.same rfl (NM.Sub.same rfl (NM.Sub.same rfl NM.Sub.nil))))))
  ·show x.2.2+1=fi+((x.1++[(txt x.2.2,t')]).length:Nat)
   rw [List.length_append,List.length_singleton,ha]; push_cast; rw [Int.add_assoc]
  ·show (x.1++[(txt x.2.2,t')]).map (·.1)=_
   rw [List.length_append,List.length_singleton,List.range_succ,List.map_append,List.map_append,hl,ha]
   rfl
 ·have hlen:x.1.length=(la+1 - fi).toNat:=by
   rcases hb with hb | hb
   ·exact lq [_,_] [_,_,_] [.eq Zq (.a Zr Nq),.nl Zq (.z 2),.le Zq (.a (.z 2) Kr),.tn 1 (.s (.a (.z 2) Kr) Zr)] (.e Nq Nr) [[110010100,101001010],[10110100,11000000]] rfl ha hle hb rfl
   ·rw [hb] at ha ⊢; simp at ha; simp; exact lq [_] [_,_,_] [.nl Zq Zr,.eq Zq (.z 2),.tn 0 (.s (.a Zr Kr) (.z 2))] (.e Kq Nq) [[10000000,10100110],[1000000,1100000]] rfl hle ha rfl
  refine Tst.mk' (EvT.cmp (Ev.name 5 sl5 rfl) (Ev.nameI 3 sl3 rfl) ICmp.le rfl) (fun z9=>(False.elim (by contradiction))) (fun z9=>?_)
  refine HS.retH (HE.join rfl rfl rfl (by exact Ev.name 1 sl1 rfl) (by exact Ev.name 4 sl4 rfl) (by exact lq [_,_] [_,_] [.le (.s (.a Zq Kr) Zr) (.k 60),.e Nq Nr,.tn 1 (.s (.a Zq Kr) Zr)] (.l Nq (.k 64)) [[10100110],[1100100]] rfl hn hlen rfl) ?_ hss) ?_
  ·intro p hp
   have:p.1∈x.1.map (·.1):=List.mem_map.mpr ⟨p,hp,rfl⟩
   rw [hl] at this
   obtain ⟨k,hk,e⟩:=List.mem_map.mp this
   rw [← e]
   have:=List.mem_range.mp hk
   exact hsz _ (by exact lq [_] [_] [] (.le Zq (.a Zq Nq)) [] rfl) (by lia)
  ·rintro _ _ ⟨⟨t',rfl⟩,rfl⟩
   exact ⟨⟨t',by rw [hl,hlen]; rfl⟩,rfl⟩
end
noncomputable def txB (n:Int):Array UInt8:=((toString n).toList.map fun c=>c.toNat.toUInt8).toArray
theorem small_all {P:Int→Prop} {n:Int} (h:∀ k < 11,P (Int.ofNat k - 3)) (h1:-3≤n) (h2:n≤7):P n:=by
 have:=h (n+3).toNat (by exact lq [_] [_] [.le Zq (.k 7),.tn 0 (.a Zq (.k 3))] (.t Nq (.k 11)) [[101010],[11000]] rfl h2 rfl)
 rwa [show Int.ofNat (n+3).toNat - 3=n by show ((n+3).toNat:Int) - 3=n; exact lq [_] [_] [.le (.g (.k 3)) Zq,.tn 0 (.a Zq (.k 3))] (.eq (.s Nq (.k 3)) Zq) [[101000,110000],[11010,10100]] rfl h1 rfl] at this
theorem map_all {α:Type u} {β:Type v} {f g:α→β} {l:List α} (h:l.map f=l.map g):∀ a∈l,f a=g a:=List.map_inj_left.1 h
theorem enc_small {n:Int} (h1:-3≤n) (h2:n≤7) (self:Value):Builtin._codecs.encodeNarrow "str.encode" Builtin._codecs.utf8Codec none self (Str.ofString (toString n))=pure (txB n):=by
 have key:∀ k∈List.range 11,Builtin._codecs.encodeNarrow "str.encode" Builtin._codecs.utf8Codec none self (Str.ofString (toString (Int.ofNat k - 3)))=pure (txB (Int.ofNat k - 3)):=by
  unfold Builtin._codecs.encodeNarrow
  simp only [Std.Legacy.Range.forIn_eq_forIn_range']
  refine List.map_inj_left.1 ?_
  kernel_rfl
 exact small_all (P:=fun n=>Builtin._codecs.encodeNarrow "str.encode" Builtin._codecs.utf8Codec none self (Str.ofString (toString n))=pure (txB n)) (fun k hk=>key k (List.mem_range.2 hk)) h1 h2
theorem txB_size {n:Int} (h1:-3≤n) (h2:n≤7):(txB n).size≤16:=small_all (P:=fun n=>(txB n).size≤16) (by decide +kernel) h1 h2
section
variable {prog:Program} {w:World} {A:Around} {E:Value→Shared→Prop} {s:Shared}
theorem enc_call {n:Int} {t:Tok} {Q:Value→Shared→Prop} (h1:-3≤n) (h2:n≤7) (h:∀ t' k,Q (.bytes (txB n) t') { s with toks:=k }) :
  wpAny (model prog w) A (call (.builtin "str.encode") [.str (Str.ofString (toString n)) t]) Q E s:=by
 refine wpAny_call (codeAny_call_builtin F.slot_str_encode.plain F.entry_str_encode (F.slot_str_encode.check _ _ _ _ _ _ _ _ rfl (F.args_str_encode_1 _) ?_))
 rw [encode_tree,encodeRoad_utf8,enc_small h1 h2]
 refine wpAny_bind (wpAny_bind (wpAny_pure (wpAny_mkBytes (wpAny_pure (h _ _)) ?_)))
 exact Nat.le_trans (txB_size h1 h2) (by decide)
theorem enc_method {x:Str} {t:Tok} {pl:Sem Bool} {Q:Value×List Value→Shared→Prop} (h:Q (.builtin "str.encode",[.str x t]) s):wpAny (model prog w) A (getMethod (.str x t) "encode" pl) Q E s :=
 GM.of (.str x t) (typeIs_str _ _ _) F.slot_str_encode F.type_str_encode GM.noRef h
theorem str_small {n:Int} {t:Tok} {Q:Value→Shared→Prop} (h1:-3≤n) (h2:n≤7) (h:Q (.str (toString n) s.toks) { s with toks:=s.toks+1 }):wpAny (model prog w) A (call (.type "str") [.int n t]) Q E s :=
 P.str_of_int (small_all (P:=fun n=>n.natAbs.log2 < 1920) (by decide +kernel) h1 h2) h
end
noncomputable def boundOf (id:String) (H:Addr):Obj:={ cls:=.type "builtin_function_or_method",data:=.fields #[.builtin id,.ref H] }
theorem bound_keeps {w:World} {x H:Addr} {id:String} {h:Heap} (hx:h.get? x=some (boundOf id H)):Kept w x h :=
 ⟨.machine,.inr (.inl rfl),fun {_ _ _ _} hs hq=>by
  unfold keeperOf
  refine wpAny_bind (wpAny_load (hs _ _ hx) ?_)
  dsimp only [boundOf]
  rw [if_pos (by decide),if_pos (by decide)]
  exact wpAny_pure hq⟩
theorem bound_calls {w:World} {R:Led} {q H:Addr} {id:String} (hq:(q,boundOf id H)∈R):CallsIn w R q:=fun z9 hR z9=>bound_keeps (hR _ hq)
theorem sig_app (H:Addr) (v:Value):((Manifest.signature? "list.append").map fun sig=>Bind.checkArgs "list.append" { sig with full:=s!"{Bind.lastOf "list"}.{Bind.lastOf "list.append"}" } ⟨[.ref H,v],[]⟩)=some (pure ()):=by
 rw [signature?_of (id:="list.append") (n:=['d','n','e','p','p','a']) (o:=['t','s','i','l']) (by kernel_rfl) F.owner_list]; kernel_rfl
theorem sig_pop (H:Addr):((Manifest.signature? "list.pop").map fun sig=>Bind.checkArgs "list.pop" { sig with full:=s!"{Bind.lastOf "list"}.{Bind.lastOf "list.pop"}" } ⟨[.ref H],[]⟩)=some (pure ()):=by
 rw [signature?_of (id:="list.pop") (n:=['p','o','p']) (o:=['t','s','i','l']) (by kernel_rfl) F.owner_list]; kernel_rfl
theorem sub_list_module:isSubtype (.type "list") (.type "module")=pure false:=by rw [isSubtype_type]; kernel_rfl
section
variable {M:Model} {A:Around} {E:Value→Shared→Prop} {s:Shared}
theorem loadHead_of {a:Addr} {o:Obj} {Q:Obj→Shared→Prop} (ho:s.heap.get? a=some o) (h:Q o s):wpAny M A (loadHead a) Q E s:=by
 first | exact wpAny_load ho h | (unfold loadHead; exact wpAny_load ho h)
theorem chk_bound {id:String} {H:Addr} {rest:List Value} {its:Array Value} {n:Nat} {Q:Unit→Shared→Prop} (hH:s.heap.get? H=some (listOf its n))
  (hk:builtinKind id=some .method) (hv:Manifest.varargsMethods.contains id=false)
  (hs:((Manifest.signature? id).map fun sig=>Bind.checkArgs id { sig with full:=s!"{Bind.lastOf "list"}.{Bind.lastOf id}" } ⟨.ref H::rest,[]⟩)=some (pure ()))
  (h:Q () s):wpAny M A (checkBoundCall id ⟨.ref H::rest,[]⟩) Q E s:=by
 unfold checkBoundCall
 cases hsig:Manifest.signature? id with
 | none=>exact wpAny_pure h
 | some sig =>
  rw [hsig] at hs
  have hs':=Option.some.inj hs
  have hT:s.TypeIs (.ref H) "list":=⟨_,hH,rfl⟩
  dsimp only
  rw [hk]
  dsimp only
  rw [if_neg (by decide)]
  refine wpAny_bind (wpAny_isInstance hT sub_list_module ?_)
  rw [hv,if_neg (by decide)]
  refine wpAny_bind ?_
  unfold isType
  refine wpAny_bind (loadHead_of hH (wpAny_pure ?_))
  refine wpAny_bind (wpAny_typeOf hT ?_)
  exact wpAny_of_eq hs' h
end
section
variable {prog:Program} {w:World} {A:Around} {E:Value→Shared→Prop} {s:Shared}
theorem code_bound {id:String} {x H:Addr} {rest:List Value} {its:Array Value} {n:Nat} {P:Except Value Flow→Shared→Prop}
  (hx:s.heap.get? x=some (boundOf id H)) (hH:s.heap.get? H=some (listOf its n)) (hk:builtinKind id=some .method) (hv:Manifest.varargsMethods.contains id=false)
  (hs:((Manifest.signature? id).map fun sig=>Bind.checkArgs id { sig with full:=s!"{Bind.lastOf "list"}.{Bind.lastOf id}" } ⟨.ref H::rest,[]⟩)=some (pure ()))
  (hqt:id.startsWith "lifetime."=false)
  (h:codeAny (model prog w) A (.builtin id ⟨.ref H::rest,[]⟩) P s):codeAny (model prog w) A (.call (.ref x) ⟨rest,[]⟩) P s:=by
 refine codeAny_of_tree ?_
 show wpAny _ A.in1 (callAny (.ref x) ⟨rest,[]⟩) _ _ s
 simp only [callAny]
 refine wpAny_bind (wpAny_load hx ?_)
 dsimp only [boundOf]
 rw [if_pos (by decide)]
 show wpAny _ _ (if (Value.type "builtin_function_or_method" != Value.type "method")=true then (do
   checkBoundCall id ⟨.ref H::rest,[]⟩
   again (Code.builtin id ⟨.ref H::rest,[]⟩)) else _) _ _ _
 rw [if_pos (by decide)]
 refine wpAny_bind (chk_bound hH hk hv hs ?_)
 exact wpAny_pure ⟨Code.quiet_builtin _ hqt,h⟩
end
theorem ql_split (P:Params) (A:TA) (R:Led) (H:Addr) (C:TC) (hs:List Value) (e:Nat):QL P A R H C hs e=TL P A C []++(H,listOf hs.toArray e)::R:=by
 unfold QL TL
 simp only [List.append_nil,List.cons_append,List.nil_append,List.append_assoc]
theorem ql_upd {P:Params} {A:TA} {R:Led} {H:Addr} {C:TC} {hs hs':List Value} {e e':Nat} (D:Apart (QL P A R H C hs e)) :
  Upd H (listOf hs.toArray e) (listOf hs'.toArray e') (QL P A R H C hs e) (QL P A R H C hs' e')∧Apart (QL P A R H C hs' e'):=by
 rw [ql_split] at D ⊢
 rw [ql_split]
 exact Apart.upd D
theorem ql_in {P:Params} {A:TA} {R:Led} {H:Addr} {C:TC} {hs:List Value} {e:Nat}:(H,listOf hs.toArray e)∈QL P A R H C hs e:=by
 rw [ql_split]; simp
theorem ql_R {P:Params} {A:TA} {R:Led} {H:Addr} {C:TC} {hs:List Value} {e:Nat} {p:Addr×Obj} (h:p∈R):p∈QL P A R H C hs e:=by
 rw [ql_split]; simp [h]
section
theorem spec_hold (A:TA) (R:Led) (H ho:Addr) (C:TC) (hs:List Value) (e:Nat) (v:Value) (hz:hs.length < 1000) (hm:(ho,boundOf "list.append" H)∈R) :
  Spec w mean mg mb (.ref ho) [v] 60 (QL w.params A R H C hs e) (fun r l=>r=.none∧∃ e',l=QL w.params A R H C (hs++[v]) e'):=by
 intro Ar env h₀ L m s Q E Cn F N D hret
 have U:=ql_upd (hs':=hs++[v]) (e':=e+1) D
 have hH:=(N _ ql_in).1
 refine code_bound (N _ (ql_R hm)).1 hH (by decide +kernel) (by decide +kernel) (sig_app H v) (by decide +kernel) ?_
 refine codeAny_builtin PySem.F.entry_list_append ?_
 show wpAny _ _ (updateSeq H (·.push v) >>= fun z9=>ret .none) _ _ s
 refine wpAny_bind ?_
 refine wpAny_updateSeq hH rfl (wpAny_pure ?_) (by rw [List.size_toArray]; exact Nat.le_trans (Nat.le_of_lt hz) (by decide)) (by rw [Array.size_push,List.size_toArray]; exact Nat.succ_le_succ (Nat.le_trans (Nat.le_of_lt hz) (by decide)))
 have hfin:∀ h',Fr h₀ L h' m→News h₀ L h' (QL w.params A R H C (hs++[v]) (e+1))→Q .none { s with heap:=h' }:=fun h' F' N'=>hret _ _ _ _ F' N' U.2 ⟨rfl,_,rfl⟩
 have hk:=kl_turn (fun xs=>xs.push v) (its:=hs.toArray) (its':=(hs++[v]).toArray) (n:=e) (D:=H) (pre:=TL w.params A C []) (post:=R) (h:=s.heap) (h₀:=h₀) (L:=L) (by rw [← ql_split]; exact N) (ql_split w.params A R H C _ _▸D:Apart _).split.1 (ql_split w.params A R H C _ _▸D:Apart _).split.2 (by simp) (by simp)
 rw [← ql_split] at hk
 exact hfin _ (F.change (Heap.SameBut.update ..) (N _ ql_in).2.1 (N _ ql_in).2.2) hk
theorem spec_drop (A:TA) (R:Led) (H dr:Addr) (C:TC) (hs:List Value) (e:Nat) (v:Value) (hz:hs.length < 1000) (hm:(dr,boundOf "list.pop" H)∈R) :
  Spec w mean mg mb (.ref dr) [] 60 (QL w.params A R H C (hs++[v]) e) (fun r l=>r=v∧∃ e',l=QL w.params A R H C hs e'):=by
 intro Ar env h₀ L m s Q E Cn F N D hret
 have U:=ql_upd (hs':=hs) (e':=e+1) D
 have hH:=(N _ ql_in).1
 refine code_bound (N _ (ql_R hm)).1 hH (by decide +kernel) (by decide +kernel) (sig_pop H) (by decide +kernel) ?_
 refine codeAny_builtin PySem.F.entry_list_pop ?_
 have hk:=kl_turn (fun xs=>xs.eraseIdxIfInBounds ((hs++[v]).toArray.size - 1)) (its:=(hs++[v]).toArray) (its':=hs.toArray) (n:=e) (D:=H) (pre:=TL w.params A C []) (post:=R) (h:=s.heap) (h₀:=h₀) (L:=L) (by rw [← ql_split]; exact N) (ql_split w.params A R H C _ _▸D:Apart _).split.1 (ql_split w.params A R H C _ _▸D:Apart _).split.2 (by
  have:=kl_erase hs [] v
  simpa using this) (by simp)
 rw [← ql_split] at hk
 have M:=PySem.MeetsSeq.list_pop_last H (hs++[v]).toArray e v (by simp) (by simp; exact Nat.le_trans hz (by decide))
 exact M _ _ Ar (fun r s'=>match r with | .ok (.ret v)=>Q v s' | .ok _=>False | .error e=>E e s') s ⟨hH,hret _ _ _ _ (F.change (Heap.SameBut.update ..) (N _ ql_in).2.1 (N _ ql_in).2.2) hk U.2 ⟨rfl,_,rfl⟩⟩
end
theorem md_slot:Slot "method_descriptor" "__get__" "method_descriptor.__get__" :=
 .of (owner:="method_descriptor") (n:="__get__") (by rw [typeLookup_type,builtinLookup_eq_fast]; kernel_rfl) (by decide +kernel) (by decide +kernel) (by decide +kernel)
  (by first | exact .inl (by decide +kernel) | exact .inr (by decide +kernel)) (by rw [isSubtype_type]; kernel_rfl)
theorem md_set:typeLookup (.type "method_descriptor") "__set__"=pure none:=by rw [typeLookup_type,builtinLookup_eq_fast]; kernel_rfl
theorem md_del:typeLookup (.type "method_descriptor") "__delete__"=pure none:=by rw [typeLookup_type,builtinLookup_eq_fast]; kernel_rfl
theorem md_entry:entryFor table "method_descriptor.__get__"=some Builtin.«method_descriptor.__get__»:=entryFor_of_tree (by kernel_rfl)
theorem md_args (a b c:Value):argsOk "method_descriptor.__get__" ⟨[a,b,c],[]⟩:=by unfold argsOk; kernel_rfl
theorem lk_append:typeLookup (.type "list") "append"=pure (some (.builtin "list.append")):=by rw [typeLookup_type,builtinLookup_eq_fast]; kernel_rfl
theorem ty_append:typeOf (.builtin "list.append")=pure (.type "method_descriptor"):=by show builtinType _=_; rw [builtinType_eq_fast]; kernel_rfl
theorem own_append:isSubtype (.type "list") (.type (".".intercalate ("list.append".cutAt '.').dropLast))=pure true:=by
 rw [show ".".intercalate ("list.append".cutAt '.').dropLast="list" by decide +kernel,isSubtype_type]; kernel_rfl
theorem lk_pop:typeLookup (.type "list") "pop"=pure (some (.builtin "list.pop")):=by rw [typeLookup_type,builtinLookup_eq_fast]; kernel_rfl
theorem ty_pop:typeOf (.builtin "list.pop")=pure (.type "method_descriptor"):=by show builtinType _=_; rw [builtinType_eq_fast]; kernel_rfl
theorem own_pop:isSubtype (.type "list") (.type (".".intercalate ("list.pop".cutAt '.').dropLast))=pure true:=by
 rw [show ".".intercalate ("list.pop".cutAt '.').dropLast="list" by decide +kernel,isSubtype_type]; kernel_rfl
theorem told_pop:Manifest.toldItsClass.contains "list.pop"=false:=by decide +kernel
theorem told_append:Manifest.toldItsClass.contains "list.append"=false:=by decide +kernel
section
variable {prog:Program} {w:World} {A:Around} {E:Value→Shared→Prop} {h:Heap} {g:Array GenState} {d:Drawn} {t:Nat} {os:OsState} {a:Addr} {o:Obj}
theorem m_run {id:String} (f1:isSubtype (.type "list") (.type (".".intercalate (id.cutAt '.').dropLast))=pure true) (f2:Manifest.toldItsClass.contains id=false) {Q:PySem.Fin→Shared→Prop} (hx:h.get? a=some o) (hc:o.cls=.type "list") (hq:Q (.done (.ret (.ref h.objs.size))) ⟨h.push (boundOf id a),g,d,t,os⟩) :
  wpAny (model prog w) A (Builtin.«method_descriptor.__get__» ⟨[.builtin id,.ref a,.type "list"],[]⟩) Q E ⟨h,g,d,t,os⟩:=by
 have hT:(⟨h,g,d,t,os⟩:Shared).TypeIs (.ref a) "list":=⟨_,hx,hc⟩
 repeat (any_goals (first | assumption | refine if_no f2 ?_ | wp_step))
theorem m_entry {id:String} {nm:Str} (f1:isSubtype (.type "list") (.type (".".intercalate (id.cutAt '.').dropLast))=pure true) (f2:Manifest.toldItsClass.contains id=false) (f4:typeLookup (.type "list") nm=pure (some (.builtin id))) (f5:typeOf (.builtin id)=pure (.type "method_descriptor")) (f9:[Str.ofString "__module__",Str.ofString "__name__",Str.ofString "__qualname__",Str.ofString "__doc__",Str.ofString "__annotations__"].contains nm=false) {its:Array Value} {n:Nat} {tk:Tok} {Q:PySem.Fin→Shared→Prop} (hx:h.get? a=some { cls:=.type "list",dict:=none,data:=.seq its n,slots:=#[] }) (hq:Q (.done (.ret (.ref h.objs.size))) ⟨h.push (boundOf id a),g,d,t,os⟩) :
  wpAny (model prog w) A (Builtin.«object.__getattribute__» ⟨[.ref a,.str nm tk],[]⟩) Q E ⟨h,g,d,t,os⟩:=by
 have hT:(⟨h,g,d,t,os⟩:Shared).TypeIs (.ref a) "list":=⟨_,hx,rfl⟩
 have hT5:(⟨h,g,d,t,os⟩:Shared).TypeIs (.builtin id) "method_descriptor":=f5
 have f6:=md_slot.lookup
 have f7:=md_set
 have f8:=md_del
 repeat (any_goals (first | assumption | refine if_no f9 ?_ | wp_step))
 exact codeAny_call_builtin md_slot.plain md_entry (md_slot.check _ _ _ _ _ _ _ _ hT5 (md_args _ _ _) (m_run f1 f2 hx rfl (wpAny_pure hq)))
theorem m_get {id:String} {nm:Str} (f1:isSubtype (.type "list") (.type (".".intercalate (id.cutAt '.').dropLast))=pure true) (f2:Manifest.toldItsClass.contains id=false) (f4:typeLookup (.type "list") nm=pure (some (.builtin id))) (f5:typeOf (.builtin id)=pure (.type "method_descriptor")) (f9:[Str.ofString "__module__",Str.ofString "__name__",Str.ofString "__qualname__",Str.ofString "__doc__",Str.ofString "__annotations__"].contains nm=false) {its:Array Value} {n:Nat} {ex:Bool} {Q:Value→Shared→Prop} (hx:h.get? a=some { cls:=.type "list",dict:=none,data:=.seq its n,slots:=#[] }) (hq:Q (.ref h.objs.size) ⟨h.push (boundOf id a),g,d,t+1,os⟩) :
  wpAny (model prog w) A (getAttr (.ref a) nm ex) Q E ⟨h,g,d,t,os⟩:=by
 have hT:∀ tk',(⟨h,g,d,tk',os⟩:Shared).TypeIs (.ref a) "list":=fun z9=>⟨_,hx,rfl⟩
 have f3:=F.slot_list_getattribute.lookup
 have f6:=F.slot_list_getattribute.bind (.ref a)
 unfold getAttr getAttrBy
 repeat (any_goals (first | assumption | exact hT _ | wp_step))
 rw [show (ex && onTheHeap (Value.builtin "list.__getattribute__"))=false by cases ex <;> rfl,if_neg (by decide)]
 unfold boundAndCalled
 repeat (any_goals (first | assumption | exact hT _ | ((with_reducible show codeAny _ _ (Code.call (Value.builtin "list.__getattribute__") _) _ _); refine codeAny_call_builtin F.slot_list_getattribute.plain am_entry_list_getattribute (F.slot_list_getattribute.check _ _ _ _ _ _ _ _ (hT _) (F.args_list_getattribute_2 _ _) (m_entry f1 f2 f4 f5 f9 hx ?_))) | ((with_reducible show wpAny _ _ (call (Value.builtin "list.__getattribute__") _ _) _ _ _); refine wpAny_call (codeAny_call_builtin F.slot_list_getattribute.plain am_entry_list_getattribute (F.slot_list_getattribute.check _ _ _ _ _ _ _ _ (hT _) (F.args_list_getattribute_2 _ _) (m_entry f1 f2 f4 f5 f9 hx ?_)))) | wp_step))
theorem get_append {its:Array Value} {n:Nat} {ex:Bool} {Q:Value→Shared→Prop} (hx:h.get? a=some { cls:=.type "list",dict:=none,data:=.seq its n,slots:=#[] }) (hq:Q (.ref h.objs.size) ⟨h.push (boundOf "list.append" a),g,d,t+1,os⟩) :
  wpAny (model prog w) A (getAttr (.ref a) "append" ex) Q E ⟨h,g,d,t,os⟩:=m_get own_append told_append lk_append ty_append (by decide) hx hq
theorem get_pop {its:Array Value} {n:Nat} {ex:Bool} {Q:Value→Shared→Prop} (hx:h.get? a=some { cls:=.type "list",dict:=none,data:=.seq its n,slots:=#[] }) (hq:Q (.ref h.objs.size) ⟨h.push (boundOf "list.pop" a),g,d,t+1,os⟩) :
  wpAny (model prog w) A (getAttr (.ref a) "pop" ex) Q E ⟨h,g,d,t,os⟩:=m_get own_pop told_pop lk_pop ty_pop (by decide) hx hq
end
section
variable {prog:Program} {w:World} {Ar:Around} {E:Value→Shared→Prop} {h₀ h:Heap} {g:Array GenState} {d:Drawn} {tk:Nat} {o:OsState} {L H:Addr} {m:Names} {news:Led} {its:Array Value} {n:Nat} {ex:Bool} {Q:Value→Shared→Prop}
theorem get_append_led (F:Fr h₀ L h m) (N:News h₀ L h news) (D:Apart news) (hm:(H,listOf its n)∈news)
  (k:∀ q h' k',Fr h₀ L h' m→News h₀ L h' ((q,boundOf "list.append" H)::news)→Apart ((q,boundOf "list.append" H)::news)→Q (.ref q) ⟨h',g,d,k',o⟩) :
  wpAny (model prog w) Ar (getAttr (.ref H) (Str.ofString "append") ex) Q E ⟨h,g,d,tk,o⟩ :=
 get_append (N _ hm).1 (k _ _ _ (F.push _) (N.push F _) (D.cons fun p hp=>Heap.lt_size (N p hp).1))
theorem get_pop_led (F:Fr h₀ L h m) (N:News h₀ L h news) (D:Apart news) (hm:(H,listOf its n)∈news)
  (k:∀ q h' k',Fr h₀ L h' m→News h₀ L h' ((q,boundOf "list.pop" H)::news)→Apart ((q,boundOf "list.pop" H)::news)→Q (.ref q) ⟨h',g,d,k',o⟩) :
  wpAny (model prog w) Ar (getAttr (.ref H) (Str.ofString "pop") ex) Q E ⟨h,g,d,tk,o⟩ :=
 get_pop (N _ hm).1 (k _ _ _ (F.push _) (N.push F _) (D.cons fun p hp=>Heap.lt_size (N p hp).1))
end
section
theorem cb_get {A:TA} {R:Led} {ge:Addr} (hm:(ge,methodObj (.ref 363) (.ref A.t))∈R) (C:TC) (n:Int) (t:Tok) (T:Tab C) :
  Spec w mean mg mb (.ref ge) [.int n t] 60 (TL w.params A C R) (fun r l=>r=look C (.i n)∧l=TL w.params A C R) :=
 Spec.meth ((spec_get_int A C R n t T.wf).mono (by exact Nat.le_add_left _ _) fun z9 z9 h=>h) (mem_R hm)
theorem cb_get_in {R:Led} {ge a:Addr} (hm:(ge,methodObj (.ref 363) (.ref a))∈R):CallsIn w R ge:=calls_meth hm (by k_is)
theorem cb_get_q {A:TA} {R:Led} {ge H:Addr} (hm:(ge,methodObj (.ref 363) (.ref A.t))∈R) (C:TC) (hs:List Value) (e:Nat) (n:Int) (t:Tok) (T:Tab C) :
  Spec w mean mg mb (.ref ge) [.int n t] 60 (QL w.params A R H C hs e) (fun r l=>r=look C (.i n)∧l=QL w.params A R H C hs e) :=
 cb_get (.tail _ hm) C n t T
end
theorem among_other {pos q:Pos} {c:Value} (hne:¬ (pos.line=q.line∧pos.col=q.col)) (l:List Value) (h:TriplesOk l) :
  codeAmong q (l++[rawInt pos.line,rawInt pos.col,c])=codeAmong q l:=by
 fun_induction TriplesOk l with
 | case1 =>
  simp only [List.nil_append,rawInt,codeAmong]
  rw [if_neg]
  simp only [Bool.and_eq_true,beq_iff_eq]
  rintro ⟨h1,h2⟩
  exact hne ⟨by exact_mod_cast h1,by exact_mod_cast h2⟩
 | case2 a t b u x rest ih=>simp only [List.cons_append,codeAmong]; rw [ih h]
 | case3 l h1 h2=>exact h.elim
noncomputable def TabOk (QS:List (Pos×Str)) (ps:Array Value) (Z:Led):Prop :=
 TriplesOk ps.toList∧∀ p∈QS,codeAmong p.1 ps.toList=none∨∃ c' oc vs t,codeAmong p.1 ps.toList=some (.ref c')∧(c',oc)∈Z∧oc.data=.fields vs∧vs[1]?=some (.str p.2 t)
theorem TabOk.nil (QS:List (Pos×Str)) (Z:Led):TabOk QS #[] Z:=⟨trivial,fun z9 z9=>.inl rfl⟩
theorem TabOk.mono {QS:List (Pos×Str)} {ps:Array Value} {Z Z':Led} (h:TabOk QS ps Z) (hz:∀ p∈Z,p∈Z'):TabOk QS ps Z' :=
 ⟨h.1,fun p hp=>(h.2 p hp).imp id fun ⟨c',oc,vs,t,a,b,c,d⟩=>⟨c',oc,vs,t,a,hz _ b,c,d⟩⟩
theorem TabOk.push {QS:List (Pos×Str)} {ps:Array Value} {Z:Led} {pos:Pos} {qual:Str} {c':Addr} {oc:Obj} {vs:Array Value} {t:Tok} (h:TabOk QS ps Z) (hn:codeAmong pos ps.toList=none)
  (hQ:∀ p∈QS,p.1.line=pos.line→p.1.col=pos.col→p.2=qual∧p.1=pos) (hd:oc.data=.fields vs) (hv:vs[1]?=some (.str qual t)) :
  TabOk QS (ps++#[rawInt pos.line,rawInt pos.col,.ref c']) ((c',oc)::Z):=by
 have e:(ps++#[rawInt pos.line,rawInt pos.col,.ref c']).toList=ps.toList++[rawInt pos.line,rawInt pos.col,.ref c']:=by simp
 refine ⟨by rw [e]; exact TriplesOk_snoc _ _ _ _ h.1,fun p hp=>?_⟩
 rw [e]
 by_cases hx:pos.line=p.1.line∧pos.col=p.1.col
 ·obtain ⟨e1,e2⟩:=hQ p hp hx.1.symm hx.2.symm
  rw [e2]
  exact .inr ⟨c',oc,vs,t,codeAmong_snoc _ h.1 hn,.head _,hd,by rw [e1]; exact hv⟩
 ·rw [among_other hx _ h.1]
  exact (h.2 p hp).imp id fun ⟨c',oc,vs,t,a,b,c,d⟩=>⟨c',oc,vs,t,a,.tail _ b,c,d⟩
theorem updF_of {P:Addr} {o:Obj} {Y:Led} (hY:∀ p∈Y,p.1≠P):∀ (X:Led),(∀ p∈X,p.1≠P)→UpdF P o (X++(P,o)::Y) (fun o'=>X++(P,o')::Y)
 | [],_=>.head hY
 | x::X,h=>.tail (h x (.head _)) (updF_of hY X fun p hp=>h p (.tail _ hp))
section
variable {M:Model} {A:Around} {E:Value→Shared→Prop} {s:Shared} {h₀:Heap} {L a c P:Addr} {m mg mb:Names} {cn:Str} {cs:Scope} {ccd:Value} {cl clos:List (Str×Addr)}
 {name qual:Str} {params:Arguments} {body:PySem.Expr} {scope:Scope} {ps:Array Value} {pos:Pos} {firstLine:Nat} {p:Program} {loose:List Str} {mean:ExcName→Option Value} {X Y Z:Led} {QS:List (Pos×Str)}
theorem mk_lam {Q:Value→Shared→Prop} (F:Fr h₀ L s.heap m) (N:News h₀ L s.heap (X++(P,tabObj ps)::Y)) (D:Apart (X++(P,tabObj ps)::Y)) (T:Top p loose mean mg mb h₀) (C:CodeHd h₀ c P) (hcd:ccd=.ref c)
  (hI:TabOk QS ps Z) (hq:(pos,qual)∈QS) (hQ:∀ p∈QS,p.1.line=pos.line→p.1.col=pos.col→p.2=qual∧p.1=pos)
  (hcl:closureFor scope (envX cn cs L a ccd cl)=pure clos)
  (h:∀ f c' oc vs t ctv J ps' h' tk,Fr h₀ L h' m→News h₀ L h' ((f,kla_obj name qual params body scope clos ((mg "__name__").getD .none) c' ctv)::(J++(X++(P,tabObj ps')::Y))) →
   Apart ((f,kla_obj name qual params body scope clos ((mg "__name__").getD .none) c' ctv)::(J++(X++(P,tabObj ps')::Y))) →
   (c',oc)∈J++Z→oc.data=.fields vs→vs[1]?=some (.str qual t)→TabOk QS ps' (J++Z)→Q (.ref f) { s with heap:=h',toks:=tk }) :
  wpAny M A (makeFunction name qual params (.expr body) scope (envX cn cs L a ccd cl) [] [] [] pos firstLine) Q E s:=by
 obtain ⟨hX,hY⟩:=D.split
 rcases hI.2 _ hq with hn | ⟨c',oc,vs,t,hc,hz,hd,hv⟩
 ·refine kla_nest F N T C hcd (updF_of hY X hX) hI.1 hn hcl fun f c' oc vs t ctv h' tk F' N' hd hv l1 l2=>?_
  have D₁:Apart (X++(P,tabObj (ps++#[rawInt pos.line,rawInt pos.col,.ref c']))::Y):=(Apart.upd D).2
  have lt:∀ q∈X++(P,tabObj (ps++#[rawInt pos.line,rawInt pos.col,.ref c']))::Y,q.1 < c':=by
   intro q hq
   rcases List.mem_append.mp hq with hq | hq
   ·exact l1 q (List.mem_append_left _ hq)
   ·rcases List.mem_cons.mp hq with rfl | hq
    ·exact l1 (P,tabObj ps) (List.mem_append_right _ (.head _))
    ·exact l1 q (List.mem_append_right _ (.tail _ hq))
  have D₂:=D₁.cons (p:=(c',oc)) lt
  have D₃:=D₂.cons (p:=(f,kla_obj name qual params body scope clos ((mg "__name__").getD .none) c' ctv)) (by
   intro q hq
   rcases List.mem_cons.mp hq with rfl | hq
   ·exact l2
   ·exact Nat.lt_trans (lt q hq) l2)
  exact h f c' oc vs t ctv [(c',oc)] _ h' tk F' N' D₃ (.head _) hd hv (hI.push hn hQ hd hv)
 ·exact kla_hit F N T C hcd (List.mem_append_right _ (.head _)) hI.1 hc hcl fun f ctv h' tk F' N' l1=>h f c' oc vs t ctv [] ps h' tk F' N' (D.cons l1) hz hd hv hI
theorem mk_def {bodyD:List Stmt} {Q:Value→Shared→Prop} (F:Fr h₀ L s.heap m) (N:News h₀ L s.heap (X++(P,tabObj ps)::Y)) (D:Apart (X++(P,tabObj ps)::Y)) (T:Top p loose mean mg mb h₀) (C:CodeHd h₀ c P) (hcd:ccd=.ref c)
  (hI:TabOk QS ps Z) (hq:(pos,qual)∈QS) (hQ:∀ p∈QS,p.1.line=pos.line→p.1.col=pos.col→p.2=qual∧p.1=pos)
  (hcl:closureFor scope (envX cn cs L a ccd cl)=pure clos)
  (h:∀ f c' oc vs t ctv doc J ps' h' tk,Fr h₀ L h' m→News h₀ L h' ((f,fnMade name qual params bodyD scope clos doc ((mg "__name__").getD .none) c' ctv)::(J++(X++(P,tabObj ps')::Y))) →
   Apart ((f,fnMade name qual params bodyD scope clos doc ((mg "__name__").getD .none) c' ctv)::(J++(X++(P,tabObj ps')::Y))) →
   (c',oc)∈J++Z→oc.data=.fields vs→vs[1]?=some (.str qual t)→TabOk QS ps' (J++Z)→Q (.ref f) { s with heap:=h',toks:=tk }) :
  wpAny M A (makeFunction name qual params (.stmts bodyD) scope (envX cn cs L a ccd cl) [] [] [] pos firstLine) Q E s:=by
 obtain ⟨hX,hY⟩:=D.split
 rcases hI.2 _ hq with hn | ⟨c',oc,vs,t,hc,hz,hd,hv⟩
 ·refine nest_K F N T C hcd (updF_of hY X hX) hI.1 hn hcl fun f c' oc vs t ctv doc h' tk F' N' hd hv l1 l2=>?_
  have D₁:Apart (X++(P,tabObj (ps++#[rawInt pos.line,rawInt pos.col,.ref c']))::Y):=(Apart.upd D).2
  have lt:∀ q∈X++(P,tabObj (ps++#[rawInt pos.line,rawInt pos.col,.ref c']))::Y,q.1 < c':=by
   intro q hq
   rcases List.mem_append.mp hq with hq | hq
   ·exact l1 q (List.mem_append_left _ hq)
   ·rcases List.mem_cons.mp hq with rfl | hq
    ·exact l1 (P,tabObj ps) (List.mem_append_right _ (.head _))
    ·exact l1 q (List.mem_append_right _ (.tail _ hq))
  have D₂:=D₁.cons (p:=(c',oc)) lt
  have D₃:=D₂.cons (p:=(f,fnMade name qual params bodyD scope clos doc ((mg "__name__").getD .none) c' ctv)) (by
   intro q hq
   rcases List.mem_cons.mp hq with rfl | hq
   ·exact l2
   ·exact Nat.lt_trans (lt q hq) l2)
  exact h f c' oc vs t ctv doc [(c',oc)] _ h' tk F' N' D₃ (.head _) hd hv (hI.push hn hQ hd hv)
 ·exact nestHit_K F N T C hcd (List.mem_append_right _ (.head _)) hI.1 hc hcl fun f ctv doc h' tk F' N' l1=>h f c' oc vs t ctv doc [] ps h' tk F' N' (D.cons l1) hz hd hv hI
end
section
variable {args:List Value} {dep:Nat} {led:Led} {post:Value→Led→Prop}
theorem bc_of {k:Str→Option NameKind} {binds l:List (Str×Value)} {mm:Names} (e:binds=l) (hm:∀ y,bindC k l (fun z9=>none) y=mm y):∀ y,bindC k binds (fun z9=>none) y=mm y:=e▸hm
theorem Spec.enterC {a:Addr} {name qual:Str} {params:Arguments} {body:List Stmt} {scope:Scope} {dV kV doc pm cdv ct oc:Value} {an od:Option Addr} {osl:Array (Option Value)} {binds:List (Str×Value)} {mm cm:Names} {cl:Addr→List (Str×Addr)}
  (ho:(hd.heap_1_39 w.params).lookup a=some ⟨oc,od,.func (fnOf name qual params body scope dV kV doc pm an cdv ct),osl⟩) (hcd:codeIn (hd.heap_1_39 w.params) cdv qual=true)
  (hbind:∀ s:Shared,(hd.heap_1_39 w.params).In s.heap→BindsTo s (fnOf name qual params body scope dV kV doc pm an cdv ct) ⟨args,[]⟩ binds)
  (hkind:(binds.all fun y=>scope.names.lookup y.1 == some .local || scope.names.lookup y.1 == some .cell)=true) (hnd:((cellsFrom 0 scope.names []).map (·.1)).Nodup)
  (hm:∀ y,bindL (scope.names.lookup ·) binds (fun z9=>none) y=mm y) (hc:∀ y,bindC (scope.names.lookup ·) binds (fun z9=>none) y=cm y)
  (hcl:∀ L,cellsFrom (L+1) scope.names []=cl L) (hco:scope.isCoroutine=false) (hgen:scope.isGenerator=false) (hk:scope.kind=.function)
  (h:∀ (pv:Program) (lo:List Str) (dp₀:Nat) (fr₀:Option (List Env)) (gd₀:Option (List Code)) (u₀:Nat) (g₁:Heap) (L₁:Addr) (h₁:Heap) (gs:Array GenState) (d:Drawn) (tk:Nat) (o:OsState) (Q:Flow→Shared→Prop) (cells:Led),
   Cx w mean mg mb { handled:=none,depth:=dp₀,frames:=fr₀,guards:=gd₀,units:=u₀ } (envX qual scope L₁ a cdv (cl L₁)) g₁ L₁ dep→(hd.heap_1_39 w.params).In g₁→Top pv lo mean mg mb g₁→Fr g₁ L₁ h₁ mm→News g₁ L₁ h₁ (cells++led) →
   CellsAre cm (cl L₁) cells→Apart led→(∀ p∈led,p.1 < L₁) →
   (∀ fl led' h' tk' {m'},Fr g₁ L₁ h' m'→News g₁ L₁ h' led'→Apart led'→post (retOf fl) led'→Q fl ⟨h',gs,d,tk',o⟩) →
   wpAny (model PySem.Challenge.rw_pc0175_01.row.prog w) { handled:=none,depth:=dp₀,frames:=fr₀,guards:=gd₀,units:=u₀ } (execs body (envX qual scope L₁ a cdv (cl L₁))) Q (fun z9 z9=>False) ⟨h₁,gs,d,tk,o⟩) :
  Spec w mean mg mb (.ref a) args (dep+1) led post:=by
 intro Ar env g L m s Q E C F N D hret
 obtain ⟨X,⟨pv,lo,T⟩,⟨outer,A₀,base,hA,B⟩,hn,hf,hk',hd,hu⟩:=C
 obtain ⟨hnd',dp,fr,gd,u⟩:=Ar
 dsimp only at hA hn hd hu
 subst hA hn
 refine code_defC B F X N T rfl hf hk' ho hcd (by dsimp only; exact Nat.lt_of_add_right_lt hd) (hbind s (X.keeps F.keep)) hkind hnd (fun g₁ L₁ h₁ tk cells FG F₁ N₁ Y B₁ X₁ T₁ lt=>?_) hco hgen hk
 rw [show bindL (envOfC qual scope L₁ a cdv).kindOf binds (fun z9=>none)=mm from funext hm] at F₁
 rw [show bindC (envOfC qual scope L₁ a cdv).kindOf binds (fun z9=>none)=cm from funext hc] at Y
 rw [hcl] at Y
 have e:envOfC qual scope L₁ a cdv=envX qual scope L₁ a cdv (cl L₁):=by unfold envOfC; rw [hcl]
 rw [e]
 refine wpAny_mono (h pv lo (dp+1) (some (envX qual scope L₁ a cdv (cl L₁)::env::outer)) _ (u+3) g₁ L₁ h₁ s.gens s.drawn _ s.os _ cells ⟨X₁,⟨_,_,T₁⟩,⟨env::outer,_,base,rfl,B₁⟩,rfl,rfl,hk,by dsimp only; exact lq [_,_,_] [] [.t (.a Nq (.a Nr Kr)) Ns] (.t (.a (.a Nq Kr) Nr) Ns) [] rfl hd,by dsimp only; exact lq [_,_,_] [] [.t (.a Nq (.m 30 (.a Nr Kr))) Ns] (.t (.a (.a Nq (.k 3)) (.m 30 Nr)) Ns) [] rfl hu⟩ X₁ T₁ F₁ N₁ Y D lt ?_) (fun z9 z9 x=>x) (fun z9 z9 x=>x.elim)
 intro fl led' h' tk' m' F' N' D' p
 exact ⟨L₁,m',led',F',N',fun F2 N2=>hret _ led' h' tk' F2 N2 D' p⟩
theorem Spec.enterL {f c':Addr} {name qual:Str} {params:Arguments} {body:PySem.Expr} {scope:Scope} {cl:List (Str×Addr)} {pm ctv:Value} {oc:Obj} {vs:Array Value} {t:Tok} {binds:List (Str×Value)} {mm:Names}
  (ho:(f,kla_obj name qual params body scope cl pm c' ctv)∈led) (hcm:(c',oc)∈led) (hcd:oc.data=.fields vs) (hcv:vs[1]?=some (.str qual t))
  (hbind:bindArgs (kla_fn name qual params body scope cl pm (.ref c') ctv) ⟨args,[]⟩=pure binds) (hloc:∀ y∈binds,scope.names.lookup y.1=some .local) (hm:∀ y,binds.reverse.lookup y=mm y)
  (hco:scope.isCoroutine=false) (hgen:scope.isGenerator=false) (hk:scope.kind=.function) (hcell:∀ x∈scope.names,x.2≠.cell)
  (h:∀ (pv:Program) (lo:List Str) (dp₀:Nat) (fr₀:Option (List Env)) (gd₀:Option (List Code)) (u₀:Nat) (g₁:Heap) (L₁:Addr) (h₁:Heap) (gs:Array GenState) (d:Drawn) (tk:Nat) (o:OsState) (Q:Value→Shared→Prop),
   Cx w mean mg mb { handled:=none,depth:=dp₀,frames:=fr₀,guards:=gd₀,units:=u₀ } (envX qual scope L₁ f (.ref c') cl) g₁ L₁ dep→(hd.heap_1_39 w.params).In g₁→Top pv lo mean mg mb g₁→Fr g₁ L₁ h₁ mm→News g₁ L₁ h₁ led→Apart led →
   (∀ v led' h' tk' {m'},Fr g₁ L₁ h' m'→News g₁ L₁ h' led'→Apart led'→post v led'→Q v ⟨h',gs,d,tk',o⟩) →
   wpAny (model PySem.Challenge.rw_pc0175_01.row.prog w) { handled:=none,depth:=dp₀,frames:=fr₀,guards:=gd₀,units:=u₀ } (eval body (envX qual scope L₁ f (.ref c') cl)) Q (fun z9 z9=>False) ⟨h₁,gs,d,tk,o⟩) :
  Spec w mean mg mb (.ref f) args (dep+1) led post:=by
 intro Ar env g L m s Q E C F N D hret
 obtain ⟨X,⟨pv,lo,T⟩,⟨outer,A₀,base,hA,B⟩,hn,hf,hk',hd,hu⟩:=C
 obtain ⟨hnd',dp,fr,gd,u⟩:=Ar
 dsimp only at hA hn hd hu
 subst hA hn
 refine kla_code B F X N T rfl hf hk' ho (codeRec_news N hcm hcd hcv) (by dsimp only; exact Nat.lt_of_add_right_lt hd) hbind hloc (fun g₁ L₁ h₁ FG F₁ N₁ B₁ X₁ T₁=>?_) hco hgen hk hcell
 rw [show (fun y=>binds.reverse.lookup y)=mm from funext hm] at F₁
 refine wpAny_mono (h pv lo (dp+1) (some (envX qual scope L₁ f (.ref c') cl::env::outer)) _ (u+3) g₁ L₁ h₁ s.gens s.drawn _ s.os _ ⟨X₁,⟨_,_,T₁⟩,⟨env::outer,_,base,rfl,B₁⟩,rfl,rfl,hk,by dsimp only; exact lq [_,_,_] [] [.t (.a Nq (.a Nr Kr)) Ns] (.t (.a (.a Nq Kr) Nr) Ns) [] rfl hd,by dsimp only; exact lq [_,_,_] [] [.t (.a Nq (.m 30 (.a Nr Kr))) Ns] (.t (.a (.a Nq (.k 3)) (.m 30 Nr)) Ns) [] rfl hu⟩ X₁ T₁ F₁ N₁ D ?_) (fun z9 z9 x=>x) (fun z9 z9 x=>x.elim)
 intro fl led' h' tk' m' F' N' D' p
 exact ⟨L₁,m',led',F',N',fun F2 N2=>hret _ led' h' tk' F2 N2 D' p⟩
theorem Spec.enterN {f c':Addr} {name qual:Str} {params:Arguments} {body:List Stmt} {scope:Scope} {cl:List (Str×Addr)} {doc pm ctv:Value} {oc:Obj} {vs:Array Value} {t:Tok} {binds:List (Str×Value)} {mm:Names}
  (ho:(f,fnMade name qual params body scope cl doc pm c' ctv)∈led) (hcm:(c',oc)∈led) (hcd:oc.data=.fields vs) (hcv:vs[1]?=some (.str qual t))
  (hbind:∀ s:Shared,BindsTo s (fnX name qual params body scope cl .none .none doc pm none (.ref c') ctv) ⟨args,[]⟩ binds) (hloc:∀ y∈binds,scope.names.lookup y.1=some .local) (hm:∀ y,binds.reverse.lookup y=mm y)
  (hco:scope.isCoroutine=false) (hgen:scope.isGenerator=false) (hk:scope.kind=.function) (hcell:∀ x∈scope.names,x.2≠.cell)
  (h:∀ (pv:Program) (lo:List Str) (dp₀:Nat) (fr₀:Option (List Env)) (gd₀:Option (List Code)) (u₀:Nat) (g₁:Heap) (L₁:Addr) (h₁:Heap) (gs:Array GenState) (d:Drawn) (tk:Nat) (o:OsState) (Q:Flow→Shared→Prop),
   Cx w mean mg mb { handled:=none,depth:=dp₀,frames:=fr₀,guards:=gd₀,units:=u₀ } (envX qual scope L₁ f (.ref c') cl) g₁ L₁ dep→(hd.heap_1_39 w.params).In g₁→Top pv lo mean mg mb g₁→Fr g₁ L₁ h₁ mm→News g₁ L₁ h₁ led→Apart led →
   (∀ fl led' h' tk' {m'},Fr g₁ L₁ h' m'→News g₁ L₁ h' led'→Apart led'→post (retOf fl) led'→Q fl ⟨h',gs,d,tk',o⟩) →
   wpAny (model PySem.Challenge.rw_pc0175_01.row.prog w) { handled:=none,depth:=dp₀,frames:=fr₀,guards:=gd₀,units:=u₀ } (execs body (envX qual scope L₁ f (.ref c') cl)) Q (fun z9 z9=>False) ⟨h₁,gs,d,tk,o⟩) :
  Spec w mean mg mb (.ref f) args (dep+1) led post:=by
 intro Ar env g L m s Q E C F N D hret
 obtain ⟨X,⟨pv,lo,T⟩,⟨outer,A₀,base,hA,B⟩,hn,hf,hk',hd,hu⟩:=C
 obtain ⟨hnd',dp,fr,gd,u⟩:=Ar
 dsimp only at hA hn hd hu
 subst hA hn
 refine code_nest B F X N T rfl hf hk' ho (codeRec_news N hcm hcd hcv) (by dsimp only; exact Nat.lt_of_add_right_lt hd) (hbind s) hloc (fun g₁ L₁ h₁ FG F₁ N₁ B₁ X₁ T₁=>?_) hco hgen hk hcell
 rw [show (fun y=>binds.reverse.lookup y)=mm from funext hm] at F₁
 refine wpAny_mono (h pv lo (dp+1) (some (envX qual scope L₁ f (.ref c') cl::env::outer)) _ (u+3) g₁ L₁ h₁ s.gens s.drawn _ s.os _ ⟨X₁,⟨_,_,T₁⟩,⟨env::outer,_,base,rfl,B₁⟩,rfl,rfl,hk,by dsimp only; exact lq [_,_,_] [] [.t (.a Nq (.a Nr Kr)) Ns] (.t (.a (.a Nq Kr) Nr) Ns) [] rfl hd,by dsimp only; exact lq [_,_,_] [] [.t (.a Nq (.m 30 (.a Nr Kr))) Ns] (.t (.a (.a Nq (.k 3)) (.m 30 Nr)) Ns) [] rfl hu⟩ X₁ T₁ F₁ N₁ D ?_) (fun z9 z9 x=>x) (fun z9 z9 x=>x.elim)
 intro fl led' h' tk' m' F' N' D' p
 exact ⟨L₁,m',led',F',N',fun F2 N2=>hret _ led' h' tk' F2 N2 D' p⟩
end
section
variable {M:Model} {Ar:Around} {E:Value→Shared→Prop} {s:Shared} {h₀:Heap} {L a:Addr} {cn:Str} {cs:Scope} {ccd:Value} {cl:List (Str×Addr)} {x:Str} {pos:Pos} {v:Value} {Q:Value→Shared→Prop} {news:Led} {c:Addr} {o:Obj}
theorem nm_C (N:News h₀ L s.heap news) (hl:cs.names.lookup x=some .cell) (hc:cl.lookup x=some c) (hm:(c,o)∈news) (hv:o.data=.cell (some v)) (hd:(x == Str.ofString "__debug__")=false) (hk:cs.kind=.function) (h:Q v s) :
  wpAny M Ar (eval (.Name x pos) (envX cn cs L a ccd cl)) Q E s:=nameX_C N hc hm hv h hk hl hd
theorem nm_F (N:News h₀ L s.heap news) (hl:cs.names.lookup x=some .free) (hc:cl.lookup x=some c) (hm:(c,o)∈news) (hv:o.data=.cell (some v)) (hd:(x == Str.ofString "__debug__")=false) (hn:(x == Str.ofString "__classdict__")=false) (hk:cs.kind=.function) (h:Q v s) :
  wpAny M Ar (eval (.Name x pos) (envX cn cs L a ccd cl)) Q E s:=nameX_F N hc hm hv h hk hl hd hn
end
theorem tl_nil {P:Params} {A:TA} {C:TC} {Z:Led}:TL P A C Z=TL P A C []++Z:=by simp [TL]
theorem tl_new {P:Params} {A:TA} {C:TC} {R J:Led} {p q:Addr×Obj}:(p::(J++(TL P A C []++q::R))).Perm (TL P A C (q::p::(J++R))):=by
 have e:TL P A C (q::p::(J++R))=TL P A C []++(q::p::(J++R)):=tl_nil
 rw [e]
 have h1:(J++(TL P A C []++q::R)).Perm (TL P A C []++(J++q::R)):=by
  rw [← List.append_assoc,← List.append_assoc]
  exact List.perm_append_comm.append_right _
 refine (List.Perm.cons p h1).trans ?_
 refine List.perm_middle.symm.trans ?_
 refine List.Perm.append_left _ ?_
 refine (List.Perm.cons p List.perm_middle).trans ?_
 exact List.Perm.swap ..
section
variable {prog:Program} {w:World} {A₀:Around} {E:Value→Shared→Prop} {s:Shared} {h₀:Heap} {L a c P:Addr} {m mg mb:Names} {cn:Str} {cs:Scope} {ccd:Value} {cl clos:List (Str×Addr)}
 {name qual:Str} {params:Arguments} {body:PySem.Expr} {scope:Scope} {ps:Array Value} {pos:Pos} {firstLine:Nat} {p:Program} {loose:List Str} {mean:ExcName→Option Value} {R Z:Led} {QS:List (Pos×Str)} {A:TA} {C:TC}
end
theorem NMok.nil {sc:Scope} {nm:Names}:NMok sc .nil nm:=fun z9 z9 h=>nomatch h
theorem NMok.cons {sc:Scope} {m:NM} {nm:Names} {i:Nat} {x:Str} {v:Value} (hx:slot sc.names i=some (x,.local)) (hv:nm x=some v) (h:NMok sc m nm):NMok sc (m.set i (.v v)) nm:=by
 intro j W hj
 unfold NM.get at hj
 cases e:Nat.beq j i with
 | true =>
  rw [e] at hj
  cases hj
  have:=Nat.eq_of_beq_eq_true e
  subst this
  exact ⟨x,v,hx,hv,rfl⟩
 | false=>rw [e] at hj; exact h j W hj
noncomputable def CodeAt (l:Led) (c:Addr) (qual:Str):Prop:=∃ oc vs t,(c,oc)∈l∧Obj.data oc=.fields vs∧vs[1]?=some (.str qual t)
theorem CodeAt.mono {l l':Led} {c:Addr} {qual:Str} (h:CodeAt l c qual) (k:∀ p∈l,p∈l'):CodeAt l' c qual:=by
 obtain ⟨oc,vs,t,a,b,d⟩:=h
 exact ⟨oc,vs,t,k _ a,b,d⟩
theorem fits_local {ns:List (Str×NameKind)} {binds:List (Str×Value)} (hfit:fits ns 0 binds=true) (nd:(ns.map (·.1)).Nodup):∀ y∈binds,ns.lookup y.1=some .local:=by
 intro y hy
 have:∃ j,slot ns j=some (y.1,.local):=by
  generalize (0:Nat)=k at hfit
  induction binds generalizing k with
  | nil=>cases hy
  | cons p r ih =>
   obtain ⟨a,b⟩:=p
   unfold fits at hfit
   rw [Bool.and_eq_true] at hfit
   cases hy with
   | head=>exact ⟨k,of_decide_eq_true hfit.1⟩
   | tail _ hy=>exact ih hy _ hfit.2
 obtain ⟨j,hj⟩:=this
 exact slot_lookup hj nd
section
variable {args:List Value} {dep:Nat} {led:Led} {post:Value→Led→Prop}
theorem Spec.enterCH {a:Addr} {name qual:Str} {params:Arguments} {body:List Stmt} {scope:Scope} {dV kV doc pm cdv ct oc:Value} {an od:Option Addr} {osl:Array (Option Value)} {binds:List (Str×Value)} {cm:Names} {cl:Addr→List (Str×Addr)} {m0:NM}
  (ho:(hd.heap_1_39 w.params).lookup a=some ⟨oc,od,.func (fnOf name qual params body scope dV kV doc pm an cdv ct),osl⟩) (hcd:codeIn (hd.heap_1_39 w.params) cdv qual=true)
  (hbind:∀ s:Shared,(hd.heap_1_39 w.params).In s.heap→BindsTo s (fnOf name qual params body scope dV kV doc pm an cdv ct) ⟨args,[]⟩ binds)
  (hkind:(binds.all fun y=>scope.names.lookup y.1 == some .local || scope.names.lookup y.1 == some .cell)=true) (hnd:((cellsFrom 0 scope.names []).map (·.1)).Nodup)
  (hm0:NMok scope m0 (bindL (scope.names.lookup ·) binds (fun z9=>none))) (hc:∀ y,bindC (scope.names.lookup ·) binds (fun z9=>none) y=cm y)
  (hcl:∀ L,cellsFrom (L+1) scope.names []=cl L) (hco:scope.isCoroutine=false) (hgen:scope.isGenerator=false) (hk:scope.kind=.function) (hok:scOk scope=true)
  (hap:∀ L cells,CellsAre cm (cl L) cells→Apart led→(∀ p∈led,p.1 < L)→Apart (cells++led))
  (h:∀ L cells,CellsAre cm (cl L) cells→HS ⟨w,mean,mg,mb,⟨qual,scope,a,cdv,cl L⟩,dep⟩ [body] m0 (cells++led) (Fin post)):Spec w mean mg mb (.ref a) args (dep+1) led post:=by
 refine Spec.enterC ho hcd hbind hkind hnd (fun z9=>rfl) hc hcl hco hgen hk ?_
 intro pv lo dp₀ fr₀ gd₀ u₀ g₁ L₁ h₁ gs d tk o Q cells C X T F N Y D lt hret
 refine HS.run (s:=⟨h₁,gs,d,tk,o⟩) (h L₁ cells Y) ⟨hok,C⟩ ⟨⟨_,F,hm0⟩,N,hap L₁ cells Y D lt⟩ ?_
 intro fl h' tk' m' l' R' q
 obtain ⟨nm',F',H'⟩:=R'.F
 refine hret fl l' h' tk' F' R'.N R'.D ?_
 cases fl <;> exact q
theorem hap_one {cm:Names} {x:Str} (L:Addr) (cells:Led) (Y:CellsAre cm [(x,L+1)] cells) (D:Apart led) (lt:∀ p∈led,p.1 < L):Apart (cells++led):=by
 obtain ⟨ct,rfl,_⟩:=Y.one
 exact D.cons (p:=(L+1,ct)) fun q hq=>Nat.lt_succ_of_lt (lt q hq)
theorem Spec.enterLH {f c':Addr} {name qual:Str} {params:Arguments} {body:PySem.Expr} {scope:Scope} {cl:List (Str×Addr)} {pm ctv:Value} {binds:List (Str×Value)}
  (ho:(f,kla_obj name qual params body scope cl pm c' ctv)∈led) (hcm:CodeAt led c' qual)
  (hbind:bindArgs (kla_fn name qual params body scope cl pm (.ref c') ctv) ⟨args,[]⟩=pure binds) (el:binds.map (·.2)=args) (hfit:fits scope.names 0 binds=true) (hok:scOk scope=true)
  (hco:scope.isCoroutine=false) (hgen:scope.isGenerator=false) (hk:scope.kind=.function) (hcell:∀ x∈scope.names,x.2≠.cell)
  (h:HE ⟨⟨w,mean,mg,mb,⟨qual,scope,f,.ref c',cl⟩,dep⟩,nmV 0 args,led⟩ body post):Spec w mean mg mb (.ref f) args (dep+1) led post:=by
 rw [← el,nmV_eq] at h
 obtain ⟨oc,us,t,h1,h2,h3⟩:=hcm
 have nd:(scope.names.map (·.1)).Nodup:=by
  have:=hok; unfold scOk at this; rw [Bool.and_eq_true] at this; exact of_decide_eq_true this.1
 refine Spec.enterL ho h1 h2 h3 hbind (fits_local hfit nd) (fun z9=>rfl) hco hgen hk hcell ?_
 intro pv lo dp₀ fr₀ gd₀ u₀ g₁ L₁ h₁ gs d tk o Q C X T F N D hret
 have H:NMok scope (nmOf 0 binds) (fun y=>binds.reverse.lookup y):=fun i V hi=>by
  obtain ⟨x,v,_,hx,hl,hV⟩:=nmOf_get hfit nd hi
  exact ⟨x,v,hx,hl,hV⟩
 refine h.use (s:=⟨h₁,gs,d,tk,o⟩) ⟨hok,C⟩ ⟨⟨_,F,H⟩,N,D⟩ fun v h' tk' l' p R'=>?_
 obtain ⟨nm',F',H'⟩:=R'.F
 exact hret v l' h' tk' F' R'.N R'.D p
theorem Spec.enterNH {f c':Addr} {name qual:Str} {params:Arguments} {body:List Stmt} {scope:Scope} {cl:List (Str×Addr)} {doc pm ctv:Value} {binds:List (Str×Value)}
  (ho:(f,fnMade name qual params body scope cl doc pm c' ctv)∈led) (hcm:CodeAt led c' qual)
  (hbind:∀ s:Shared,BindsTo s (fnX name qual params body scope cl .none .none doc pm none (.ref c') ctv) ⟨args,[]⟩ binds) (el:binds.map (·.2)=args) (hfit:fits scope.names 0 binds=true) (hok:scOk scope=true)
  (hco:scope.isCoroutine=false) (hgen:scope.isGenerator=false) (hk:scope.kind=.function) (hcell:∀ x∈scope.names,x.2≠.cell)
  (h:HS ⟨w,mean,mg,mb,⟨qual,scope,f,.ref c',cl⟩,dep⟩ [body] (nmV 0 args) led (Fin post)):Spec w mean mg mb (.ref f) args (dep+1) led post:=by
 rw [← el,nmV_eq] at h
 obtain ⟨oc,us,t,h1,h2,h3⟩:=hcm
 have nd:(scope.names.map (·.1)).Nodup:=by
  have:=hok; unfold scOk at this; rw [Bool.and_eq_true] at this; exact of_decide_eq_true this.1
 refine Spec.enterN ho h1 h2 h3 hbind (fits_local hfit nd) (fun z9=>rfl) hco hgen hk hcell ?_
 intro pv lo dp₀ fr₀ gd₀ u₀ g₁ L₁ h₁ gs d tk o Q C X T F N D hret
 have H:NMok scope (nmOf 0 binds) (fun y=>binds.reverse.lookup y):=fun i V hi=>by
  obtain ⟨x,v,_,hx,hl,hV⟩:=nmOf_get hfit nd hi
  exact ⟨x,v,hx,hl,hV⟩
 refine HS.run (s:=⟨h₁,gs,d,tk,o⟩) h ⟨hok,C⟩ ⟨⟨_,F,H⟩,N,D⟩ ?_
 intro fl h' tk' m' l' R' q
 obtain ⟨nm',F',H'⟩:=R'.F
 refine hret fl l' h' tk' F' R'.N R'.D ?_
 cases fl <;> exact q
end
section
variable {σ:St} {x:Str} {pos:Pos} {v:Value} {c:Addr} {o:Obj}
theorem Ev.cell (i:Nat) (hx:slot σ.c.sh.sc.names i=some (x,.cell)) (hc:σ.c.sh.cl.lookup x=some c) (hm:(c,o)∈σ.led) (hv:o.data=.cell (some v)):Ev σ (.Name x pos) (.v v):=by
 intro Ar g L s T R
 exact nm_C R.N (slot_lookup hx T.nd) hc hm hv (T.dbg hx) T.kind (Ev.out (s:=s) R rfl)
theorem Ev.free (i:Nat) (hx:slot σ.c.sh.sc.names i=some (x,.free)) (hc:σ.c.sh.cl.lookup x=some c) (hm:(c,o)∈σ.led) (hv:o.data=.cell (some v)) (hn:(x == Str.ofString "__classdict__")=false):Ev σ (.Name x pos) (.v v):=by
 intro Ar g L s T R
 exact nm_F R.N (slot_lookup hx T.nd) hc hm hv (T.dbg hx) hn T.kind (Ev.out (s:=s) R rfl)
noncomputable def HEs (σ:St) (es:List PySem.Expr) (P:List Value→Led→Prop):Prop:=∀ pos,WX σ (fun env=>spliced (backTo pos (starEach es env))) fun vs m l=>m=σ.m∧P vs l
theorem HEs.use {es:List PySem.Expr} {P:List Value→Led→Prop} (h:HEs σ es P) {Ar:Around} {g:Heap} {L:Addr} {s:Shared} {E:Value→Shared→Prop} {Q:List Value→Shared→Prop} (T:Rt σ.c Ar g L) (R:RS σ g L s.heap)
  (k:∀ vs h' tk' l',P vs l'→RS ⟨σ.c,σ.m,l'⟩ g L h'→Q vs { s with heap:=h',toks:=tk' }):wpAny (Md σ.c) Ar (spliced (backTo pos (starEach es (σ.c.sh.env L)))) Q E s :=
 WX.use (h pos) T R fun a h' tk' _ l' R' ⟨em,p⟩=>k a h' tk' l' p (by subst em; exact R')
theorem HEs.nil {P:List Value→Led→Prop} (h:P [] σ.led):HEs σ [] P:=fun z9 z9 z9 z9 s z9 R=>args_nil ⟨s.heap,s.toks,σ.m,σ.led,rfl,R,rfl,h⟩
theorem HEs.cons {c:Cn} {m:NM} {l:Led} {e:PySem.Expr} {es:List PySem.Expr} {P1:Value→Led→Prop} {P:List Value→Led→Prop} (hs:isStar e=false) (h:HE ⟨c,m,l⟩ e P1) (k:∀ v l,P1 v l→HEs ⟨c,m,l⟩ es fun vs l'=>P (v::vs) l'):HEs ⟨c,m,l⟩ (e::es) P :=
 fun z9 z9 z9 z9 s T R=>args_cons (h.use T R fun v h' tk' l' hv R1=>(k v l' hv).use (s:={ s with heap:=h',toks:=tk' }) T R1 fun vs h'' tk'' l'' p R2=>⟨h'',tk'',m,l'',rfl,R2,rfl,p⟩) (star_of hs)
theorem HEs.consE {c:Cn} {m:NM} {l:Led} {e:PySem.Expr} {es:List PySem.Expr} {V:Vl} {P:List Value→Led→Prop} (hs:isStar e=false) (h:Ev ⟨c,m,l⟩ e V) (k:∀ v,V.is v→HEs ⟨c,m,l⟩ es fun vs l'=>P (v::vs) l'):HEs ⟨c,m,l⟩ (e::es) P :=
 HEs.cons hs (h.toHE (Q:=fun v l'=>V.is v∧l'=l) fun v hv=>⟨hv,rfl⟩) fun v l' ⟨hv,hl⟩=>by subst hl; exact k v hv
theorem star_plain {es:List PySem.Expr} {env:Env} (h:es.all (fun e=>!isStar e)=true):((backTo pos (starEach es env)).any (·.1))=false:=by
 induction es with
 | nil=>rfl
 | cons e r ih =>
  rw [List.all_cons,Bool.and_eq_true] at h
  rw [star_of (by simpa using h.1)]
  exact ih h.2
end
section
variable {sh:Sh} {dep:Nat} {m:NM} {l:Led}
theorem HE.callHs {f e:PySem.Expr} {rest:List PySem.Expr} {pos:Pos} {fa:Addr} {P:Value→Led→Prop} (hn:noAtt f=true) (hf:Ev ⟨⟨w,mean,mg,mb,sh,dep⟩,m,l⟩ f (.v (.ref fa))) (hk:keepIn (hd.heap_1_39 w.params) (.ref fa)=true) (hs:(e::rest).all (fun e=>!isStar e)=true)
  (ha:HEs ⟨⟨w,mean,mg,mb,sh,dep⟩,m,l⟩ (e::rest) fun vs l'=>∃ d,d≤dep∧Spec w mean mg mb (.ref fa) vs d l' P):HE ⟨⟨w,mean,mg,mb,sh,dep⟩,m,l⟩ (.Call f (e::rest) [] pos) P:=by
 intro Ar g L s T R
 have hs':=hs
 rw [List.all_cons,Bool.and_eq_true] at hs'
 refine Call_ (hf.use T R fun z9 z9 z9 ev R1=>?_) (callee_of hn)
 cases ev
 refine callWith_K (RS.In R1 T) hk (ha.use T R1 fun vs _ _ l' ⟨d,hd,S⟩ R2=>⟨?_,spec_use (σ:=⟨⟨w,mean,mg,mb,sh,dep⟩,m,l'⟩) hd S T R2 fun z9 z9 z9 z9 p R3=>HE.out (s:=s) R3 p⟩) (star_of (by simpa using hs'.1)) (star_plain hs'.2)
 exact RS.In (σ:=⟨⟨w,mean,mg,mb,sh,dep⟩,m,l'⟩) R2 T
theorem HE.bound {o:PySem.Expr} {pos:Pos} {name:Str} {r C f:Addr} {es:List DictEntry} (hc:noCall o=true) (ho:Ev ⟨⟨w,mean,mg,mb,sh,dep⟩,m,l⟩ o (.v (.ref r))) (hi:InsAt l r C es) (hg:plainGet (hd.heap_1_39 w.params) C name=true) (hh:hasDictIn (hd.heap_1_39 w.params) C=true) (ha:findIn (hd.heap_1_39 w.params) (.ref C) name=some (some (.ref f))) (hf:isFn (hd.heap_1_39 w.params) (.ref f)=true)
  (hgf:specialIn (hd.heap_1_39 w.params) (.ref f) "__get__"=some (some (.builtin "function.__get__"))) (ht:takesIn (hd.heap_1_39 w.params) (.ref f)=some false) (hcn:copiedNames.contains name=false) (hl:getL name es=some none) :
  HE ⟨⟨w,mean,mg,mb,sh,dep⟩,m,l⟩ (.Attribute o name pos) fun v l'=>∃ q,v=.ref q∧l'=(q,methodObj (.ref f) (.ref r))::l:=by
 intro Ar g L s T R
 refine Attribute_any_ (ho.use T R fun z9 z9 z9 ev R1=>?_) (att_of hc)
 cases ev
 obtain ⟨nm,F,H⟩:=R1.F
 obtain ⟨dx,n,h1,h2⟩:=hi
 exact kbm_bound F T.C.X R1.N (InstAt.of_news R1.N h1 h2) hg hh ha hf hgf ht hcn hl fun q h' F' N' lt=>⟨h',_,m,(q,methodObj (.ref f) (.ref r))::l,rfl,⟨⟨nm,F',H⟩,N',R1.D.cons lt⟩,rfl,q,rfl,rfl⟩
theorem HE.lam {params:Arguments} {body:PySem.Expr} {scope:Scope} {pos:Pos} {A:TA} {C:TC} {P c:Addr} {ps:Array Value} {R Z:Led} {QS:List (Pos×Str)} {qual:Str} {clos:List (Str×Addr)} (hdef:∀ L,defaultsOf params (sh.env L)=([],[])) (hql:∀ L,(sh.env L).qual++"<lambda>"=qual) (H:∀ h₀,(hd.heap_1_39 w.params).In h₀→CodeHd h₀ c P) (hcd:sh.cd=.ref c)
  (hI:TabOk QS ps Z) (hZ:∀ p∈Z,p∈R) (hq:(pos,qual)∈QS) (hQ:∀ p∈QS,p.1.line=pos.line→p.1.col=pos.col→p.2=qual∧p.1=pos) (hcl:∀ L,closureFor scope (sh.env L)=pure clos) :
  HE ⟨⟨w,mean,mg,mb,sh,dep⟩,m,TL w.params A C ((P,tabObj ps)::R)⟩ (.Lambda params body scope pos) fun v l'=>∀ X:Value→Led→Prop,(∀ f c' ctv J ps' R',R'=(P,tabObj ps')::(f,kla_obj "<lambda>" qual params body scope clos ((mg "__name__").getD .none) c' ctv)::(J++R)→(f,kla_obj "<lambda>" qual params body scope clos ((mg "__name__").getD .none) c' ctv)∈R'→CodeAt R' c' qual→TabOk QS ps' (J++Z)→(∀ p∈R,p∈R')→X (.ref f) (TL w.params A C R'))→X v l':=by
 intro Ar g L s T R0
 obtain ⟨nm,F,Hn⟩:=R0.F
 obtain ⟨pv,lo,Tp⟩:=T.C.T
 refine kla_eval (hdef L) ?_
 rw [hql L]
 rw [tl_nil] at R0
 refine mk_lam F R0.N R0.D Tp (H _ T.C.X) hcd hI hq hQ (hcl L) fun f c' oc vs t ctv J ps' h' tk F' N' D' h1 h2 h3 h4=>?_
 exact ⟨h',tk,m,TL w.params A C ((P,tabObj ps')::(f,kla_obj "<lambda>" qual params body scope clos ((mg "__name__").getD .none) c' ctv)::(J++R)),rfl,⟨⟨nm,F',Hn⟩,News.perm N' tl_new,D'.perm tl_new⟩,rfl,fun X k=>k f c' ctv J ps' _ rfl (.tail _ (.head _)) ⟨oc,vs,t,.tail _ (.tail _ ((List.mem_append.mp h1).elim (List.mem_append_left _) fun q=>List.mem_append_right _ (hZ _ q))),h2,h3⟩ h4 fun p hp=>.tail _ (.tail _ (List.mem_append_right _ hp))⟩
end
theorem Rep.tl {P:Params} {A:TA} {C:TC} {d:Addr} {o o':Obj} {R R':Led} (h:Rep d o o' R R'):Rep d o o' (TL P A C R) (TL P A C R'):=by
 obtain ⟨a,b,rfl,rfl⟩:=h.split
 have e:∀ x:Obj,TL P A C (a++(d,x)::b)=(TL P A C a)++(d,x)::b:=fun x=>by simp [TL]
 rw [e,e]
 generalize TL P A C a=l
 induction l with
 | nil=>exact .head
 | cons p r ih=>exact .tail ih
theorem tl_in {P:Params} {A:TA} {C:TC} {R:Led} {x a:Addr×Obj}:(a::TL P A C (x::R)).Perm (TL P A C (x::a::R)):=tl_cons.trans (tl_congr (List.Perm.swap _ _ _))
noncomputable def BK:Ky→Prop
 | .i n=>-4≤n∧n≤0
 | .b l=>l=[120]∨l=[107,101,121]∨l=[]
theorem BK.s0 {k:Ky} (h:BK k):S0 k:=by
 cases k with
 | i n=>exact ⟨h.1,by have:=h.2; exact lq [] [_] [.le Zq Kq] (.le Zq (.k 25)) [] rfl this⟩
 | b l=>exact h
theorem mem_of_value {kvs:List (Ky×Value)} {k:Ky} {v:Value} (h:PySem.valueAt kvs k=some v):(k,v)∈kvs:=by
 unfold PySem.valueAt at h
 obtain ⟨p,hp,rfl⟩:=Option.map_eq_some_iff.mp h
 have h1:=List.find?_some hp
 have h2:=List.mem_of_find?_eq_some hp
 simp only [decide_eq_true_eq] at h1
 rw [← h1]; exact h2
structure Held (C:TC) (row:List Int) (bes:List (Ky×Value)):Prop where
 tab:Tab C
 len:row.length≤24
 rg:∀ v∈row,-3≤v∧v≤7
 at':∀ (j:Nat) (h:j < row.length),∃ t,look C (.i ((j:Int)+1))=.int row[j] t
 inn:∀ k v,PySem.valueAt bes k=some v→∃ x t t',v=.int x t∧look C k=.int x t'
 off:∀ k,look C k≠.none→(∃ j:Nat,j < row.length∧k=.i ((j:Int)+1))∨∃ v,PySem.valueAt bes k=some v
 bk:∀ p∈bes,BK p.1
 bn:(bes.map (·.1)).Nodup
theorem Held.at1 {C:TC} {row:List Int} {bes:List (Ky×Value)} (H:Held C row bes) {k:Int} (h1:1≤k) (h2:k≤row.length):∃ t,look C (.i k)=.int (row.getD (k - 1).toNat 0) t:=by
 have hj:(k - 1).toNat < row.length:=by exact lq [_,_] [_] [.le Kr Zq,.le Zq Nq,.tn 1 (.s Zq Kr)] (.t Nr Nq) [[1010100],[110110]] rfl h1 h2 rfl
 obtain ⟨t,e⟩:=H.at' _ hj
 refine ⟨t,?_⟩
 rw [show k=(((k - 1).toNat:Nat):Int)+1 by exact lq [_] [_] [.le Kr Zq,.tn 0 (.s Zq Kr)] (.eq Zq (.a Nq Kr)) [[110000,101000],[10100,11010]] rfl h1 rfl,e,List.getD_eq_getElem?_getD,List.getElem?_eq_getElem (by exact lq [_,_,_] [_] [.t Nq Nr,.tn 0 (.s Zq Kr),.tn 2 (.s (.a Nq Kr) Kr)] (.t Ns Nr) [[101000010],[11000010],[10100010],[1100010]] rfl hj rfl rfl)]
 simp
theorem Held.none1 {C:TC} {row:List Int} {bes:List (Ky×Value)} (H:Held C row bes) {k:Int} (h1:1≤k) (h2:(row.length:Int) < k):look C (.i k)=.none:=by
 by_cases h:look C (.i k)=.none
 ·exact h
 rcases H.off _ h with ⟨j,hj,e⟩ | ⟨v,hv⟩
 ·cases e; exact (lq [_,_] [] [.t Nq Nr,.lt Nr (.a Nq Kr)] .f [] rfl hj h2).elim
 ·have:=(H.bk _ (mem_of_value hv)).2
  exact (lq [_] [_] [.lt Nq Zq,.le Zq Kq] .f [] rfl h2 this).elim
theorem Held.bord {C:TC} {row:List Int} {bes:List (Ky×Value)} (H:Held C row bes):Bord C row.length:=by
 intro k h1
 constructor
 ·intro h
  by_cases hk:k≤(row.length:Int)
  ·exact hk
  ·exact absurd (H.none1 h1 (by exact Int.not_le.1 hk)) h
 ·intro h
  obtain ⟨t,e⟩:=H.at1 h1 h
  rw [e]; exact fun h=>nomatch h
theorem Held.nil {C:TC} (T:Tab C) (h:∀ k,look C k=.none):Held C [] [] :=
 ⟨T,by simp,by simp,fun z9 h=>absurd h (Nat.not_lt_zero _),fun z9 z9 h=>by simp [PySem.valueAt] at h,fun k hk=>absurd (h k) hk,by simp,List.nodup_nil⟩
theorem Held.ins {C C':TC} {row:List Int} {bes:List (Ky×Value)} {a:Int} {v:Int} {t:Tok} (H:Held C row bes) (hl:row.length < 24) (h1:1≤a) (h2:a≤row.length+1) (hv:-3≤v∧v≤7)
  (T:Tab C') (hk:∀ k,look C' k=insF C row.length a (.int v t) k):Held C' (row.insertIdx (a - 1).toNat v) bes:=by
 have hlen:(row.insertIdx (a - 1).toNat v).length=row.length+1:=List.length_insertIdx_of_le_length (by exact lq [_,_] [_] [.le Zq (.a Nq Kr),.tn 1 (.s Zq Kr)] (.l Nr Nq) [[101010],[11000]] rfl h2 rfl) _
 have hb:∀ k,BK k→look C' k=look C k:=by
  intro k hk'
  rw [hk]
  cases k with
  | b l=>rfl
  | i n =>
   have:=hk'.2
   unfold insF
   dsimp only
   rw [if_neg (by exact lq [] [_,_] [.le Kr Zq,.le Zr Kq,.eq Zr Zq] .f [[110110]] rfl h1 this),if_neg (by exact lq [_] [_,_] [.le Kr Zq,.le Zr Kq,.an (.lt Zq Zr) (.le Zr (.a Nq Kr))] .f [[101110]] rfl h1 this)]
 refine ⟨T,by exact hlen▸hl,?_,?_,?_,?_,H.bk,H.bn⟩
 ·intro u hu
  rcases (List.mem_insertIdx (by exact lq [_,_] [_] [.le Zq (.a Nq Kr),.tn 1 (.s Zq Kr)] (.l Nr Nq) [[101010],[11000]] rfl h2 rfl)).mp hu with rfl | hu
  ·exact hv
  ·exact H.rg u hu
 ·intro j hj
  rw [hk]
  unfold insF
  dsimp only
  by_cases e:(j:Int)+1=a
  ·rw [if_pos e]
   refine ⟨t,?_⟩
   rw [List.getElem_insertIdx,dif_neg (by exact lq [_,_] [_] [.eq (.a Nq Kr) Zq,.tn 1 (.s Zq Kr)] (.gt Nq Nr) [[1010100],[110000]] rfl e rfl),dif_pos (by exact lq [_,_] [_] [.eq (.a Nq Kr) Zq,.tn 1 (.s Zq Kr)] (.e Nq Nr) [[1100010,1010100],[101010,110000]] rfl e rfl)] <;> rfl
  ·rw [if_neg e]
   by_cases hlt:a < (j:Int)+1∧(j:Int)+1≤(row.length:Int)+1
   ·rw [if_pos hlt]
    obtain ⟨t',e'⟩:=H.at' (j - 1) (by exact lq [_,_,_] [_] [.le Kr Zq,.an (.lt Zq (.a Nq Kr)) (.le (.a Nq Kr) (.a Nr Kr)),.sb 2 Nq Kr] (.t Ns Nr) [[1011000],[1101110]] rfl h1 hlt rfl)
    refine ⟨t',?_⟩
    rw [show (j:Int)+1 - 1=((j - 1:Nat):Int)+1 by exact lq [_,_,_] [_] [.le Kr Zq,.an (.lt Zq (.a Nq Kr)) (.le (.a Nq Kr) (.a Nr Kr)),.sb 2 Nq Kr] (.eq (.s (.a Nq Kr) Kr) (.a Ns Kr)) [[1100000,1010000],[1010000,1100110]] rfl h1 hlt rfl,e',List.getElem_insertIdx,dif_neg (by exact lq [_,_,_] [_] [.an (.lt Zq (.a Nq Kr)) (.le (.a Nq Kr) (.a Nr Kr)),.tn 2 (.s Zq Kr)] (.gt Nq Ns) [[1010010],[110000]] rfl hlt rfl),dif_neg (by exact lq [_,_,_] [_] [.le Kr Zq,.an (.lt Zq (.a Nq Kr)) (.le (.a Nq Kr) (.a Nr Kr)),.tn 2 (.s Zq Kr),.e Nq Ns] .f [[1010100100],[101100110]] rfl h1 hlt rfl)] <;> rfl
   ·rw [if_neg hlt]
    obtain ⟨t',e'⟩:=H.at' j (by exact lq [_,_,_] [_] [.le Zq (.a Nq Kr),.e Nr (.a Nq Kr),.t Ns Nr,.ne (.a Ns Kr) Zq,.or (.nt Zq (.a Ns Kr)) (.nl (.a Ns Kr) (.a Nq Kr))] (.t Ns Nq) [[10100010],[10100010],[11110100],[11020200]] rfl h2 hlen hj e (nab hlt))
    refine ⟨t',?_⟩
    rw [e',List.getElem_insertIdx,dif_pos (by omega)] <;> rfl
 ·intro k u hu
  rw [hb k (H.bk _ (mem_of_value hu))]
  exact H.inn k u hu
 ·intro k hne
  rw [hlen]
  cases k with
  | b l =>
   rw [hk] at hne
   rcases H.off (.b l) hne with ⟨j,hj,e⟩ | h
   ·cases e
   ·exact .inr h
  | i n =>
   rw [hk] at hne
   unfold insF at hne
   dsimp only at hne
   by_cases e:n=a
   ·exact .inl ⟨(a - 1).toNat,by exact lq [_,_] [_] [.le Zq (.a Nq Kr),.tn 1 (.s Zq Kr)] (.t Nr (.a Nq Kr)) [[101010],[11000]] rfl h2 rfl,by rw [e]; congr 1; exact lq [_] [_] [.le Kr Zq,.tn 0 (.s Zq Kr)] (.eq Zq (.a Nq Kr)) [[110000,101000],[10100,11010]] rfl h1 rfl⟩
   ·rw [if_neg e] at hne
    by_cases hlt:a < n∧n≤(row.length:Int)+1
    ·exact .inl ⟨(n - 1).toNat,by exact lq [_,_] [_,_] [.an (.lt Zq Zr) (.le Zr (.a Nq Kr)),.tn 1 (.s Zr Kr)] (.t Nr (.a Nq Kr)) [[1010100],[110000]] rfl hlt rfl,by congr 1; exact lq [_,_] [_,_] [.le Kr Zq,.an (.lt Zq Zr) (.le Zr (.a Nq Kr)),.tn 1 (.s Zr Kr)] (.eq Zr (.a Nr Kr)) [[11000000,10100000],[1010000,1100110]] rfl h1 hlt rfl⟩
    ·rw [if_neg hlt] at hne
     rcases H.off _ hne with ⟨j,hj,e'⟩ | h
     ·exact .inl ⟨j,by exact Nat.lt_succ_of_lt hj,e'⟩
     ·exact .inr h
theorem Held.rem {C C':TC} {row:List Int} {bes:List (Ky×Value)} {a:Int} (H:Held C row bes) (h1:1≤a) (h2:a≤row.length)
  (T:Tab C') (hk:∀ k,look C' k=remF C row.length a k):Held C' (row.eraseIdx (a - 1).toNat) bes:=by
 have hlen:(row.eraseIdx (a - 1).toNat).length=row.length - 1:=List.length_eraseIdx_of_lt (by exact lq [_,_] [_] [.le Kr Zq,.le Zq Nq,.tn 1 (.s Zq Kr)] (.t Nr Nq) [[1010100],[110110]] rfl h1 h2 rfl)
 have hL:=H.len
 have hb:∀ k,BK k→look C' k=look C k:=by
  intro k hk'
  rw [hk]
  cases k with
  | b l=>rfl
  | i n =>
   have:=hk'.2
   unfold remF
   dsimp only
   rw [if_neg (by exact lq [_] [_,_] [.le Kr Zq,.le Zq Nq,.le Zr Kq,.eq Zr Nq] .f [[1101110]] rfl h1 h2 this),if_neg (by exact lq [_] [_,_] [.le Kr Zq,.le Zr Kq,.an (.le Zq Zr) (.lt Zr Nq)] .f [[101110]] rfl h1 this)]
 refine ⟨T,by exact lq [_,_,_] [] [.e Nq Nr,.l Ns (.k 24),.sb 1 Ns Kr] (.l Nq (.k 24)) [[1011010],[1100010]] rfl hlen hL rfl,?_,?_,?_,?_,H.bk,H.bn⟩
 ·intro u hu
  exact H.rg u (List.mem_of_mem_eraseIdx hu)
 ·intro j hj
  rw [hk]
  unfold remF
  dsimp only
  rw [if_neg (by exact lq [_,_,_,_] [] [.e Nq Nr,.t (.n 3) Nq,.sb 1 Ns Kr,.eq (.a (.n 3) Kr) Ns] .f [[110011010],[100101010]] rfl hlen hj rfl)]
  by_cases hlt:a≤(j:Int)+1∧(j:Int)+1 < (row.length:Int)
  ·rw [if_pos hlt]
   obtain ⟨t',e'⟩:=H.at' (j+1) (by exact lq [_,_] [_] [.an (.le Zq (.a Nq Kr)) (.lt (.a Nq Kr) Nr)] (.t (.a Nq Kr) Nr) [[1100]] rfl hlt)
   refine ⟨t',?_⟩
   rw [show (j:Int)+1+1=((j+1:Nat):Int)+1 by exact rfl,e',List.getElem_eraseIdx,dif_neg (by exact lq [_,_,_] [_] [.an (.le Zq (.a Nq Kr)) (.lt (.a Nq Kr) Nr),.tn 2 (.s Zq Kr)] (.gt Nq Ns) [[1010010],[110000]] rfl hlt rfl)] <;> rfl
  ·rw [if_neg hlt]
   obtain ⟨t',e'⟩:=H.at' j (by exact lq [_,_,_,_] [] [.e Nq Nr,.t (.n 3) Nq,.sb 1 Ns Kr] (.t (.n 3) Ns) [[1011010],[1101010]] rfl hlen hj rfl)
   refine ⟨t',?_⟩
   rw [e',List.getElem_eraseIdx,dif_pos (by omega)] <;> rfl
 ·intro k u hu
  rw [hb k (H.bk _ (mem_of_value hu))]
  exact H.inn k u hu
 ·intro k hne
  rw [hlen]
  cases k with
  | b l =>
   rw [hk] at hne
   rcases H.off (.b l) hne with ⟨j,hj,e⟩ | h
   ·cases e
   ·exact .inr h
  | i n =>
   rw [hk] at hne
   unfold remF at hne
   dsimp only at hne
   by_cases e:n=(row.length:Int)
   ·rw [if_pos e] at hne; exact absurd rfl hne
   ·rw [if_neg e] at hne
    by_cases hlt:a≤n∧n < (row.length:Int)
    ·exact .inl ⟨(n - 1).toNat,by exact lq [_,_,_] [_,_] [.le Kr Zq,.an (.le Zq Zr) (.lt Zr Nq),.tn 1 (.s Zr Kr),.sb 2 Nq Kr] (.t Nr Ns) [[1100101000],[1010101000],[110101110],[101101110]] rfl h1 hlt rfl rfl,by congr 1; exact lq [_,_] [_,_] [.le Kr Zq,.an (.le Zq Zr) (.lt Zr Nq),.tn 1 (.s Zr Kr)] (.eq Zr (.a Nr Kr)) [[11000000,10100000],[1010000,1100110]] rfl h1 hlt rfl⟩
    ·rw [if_neg hlt] at hne
     rcases H.off _ hne with ⟨j,hj,e'⟩ | h
     ·cases e'
      exact .inl ⟨j,by exact lq [_,_,_] [] [.t Nq Nr,.ne (.a Nq Kr) Nr,.sb 2 Nr Kr] (.t Nq Ns) [[110100],[101100],[110120],[101120]] rfl hj e rfl,rfl⟩
     ·exact .inr h
section
variable {K:Type} [DecidableEq K]
theorem value_stored {kvs:List (K×Value)} {k k':K} {v:Value}:PySem.valueAt (PySem.stored kvs k v) k'=if k'=k then some v else PySem.valueAt kvs k':=by
 unfold PySem.stored
 by_cases ha:kvs.any (fun kv=>kv.1=k)=true
 ·rw [if_pos ha]
  unfold PySem.valueAt
  induction kvs with
  | nil=>simp at ha
  | cons p r ih =>
   simp only [List.map_cons,List.find?_cons]
   by_cases hp:p.1=k
   ·rw [if_pos hp]
    by_cases hk:k'=k
    ·subst hk; simp [hp]
    ·rw [if_neg hk]
     have hpk:¬ p.1=k':=fun e=>hk (e.symm.trans hp)
     simp only [hpk,decide_false]
     by_cases hr:r.any (fun kv=>kv.1=k)=true
     ·rw [ih hr,if_neg hk]
     ·have:r.map (fun kv=>if kv.1=k then (kv.1,v) else kv)=r:=by
       rw [List.map_congr_left (g:=id)]
       ·simp
       ·intro q hq
        rw [if_neg]
        ·rfl
        ·intro e
         exact hr (List.any_eq_true.mpr ⟨q,hq,by simpa using e⟩)
      rw [this]
   ·rw [if_neg hp]
    have hr:r.any (fun kv=>kv.1=k)=true:=by simpa [hp] using ha
    by_cases hpk:p.1=k'
    ·have:¬ k'=k:=fun e=>hp (hpk.trans e)
     simp [hpk,this]
    ·simp only [hpk,decide_false]
     exact ih hr
 ·rw [if_neg ha]
  unfold PySem.valueAt
  rw [List.find?_append]
  by_cases hk:k'=k
  ·subst hk
   have:kvs.find? (fun kv=>kv.1=k')=none:=by
    rw [List.find?_eq_none]
    intro x hx e
    exact ha (List.any_eq_true.mpr ⟨x,hx,e⟩)
   rw [this]; simp
  ·have hk':¬ k=k':=fun e=>hk e.symm
   simp [hk,hk']
theorem value_without {kvs:List (K×Value)} {k k':K}:PySem.valueAt (PySem.without kvs k) k'=if k'=k then none else PySem.valueAt kvs k':=by
 unfold PySem.without PySem.valueAt
 rw [List.find?_filter]
 by_cases hk:k'=k
 ·subst hk
  rw [if_pos rfl]
  have:kvs.find? (fun a=>decide (decide (a.1≠k')=true∧decide (a.1=k')=true))=none:=by
   rw [List.find?_eq_none]
   intro x z9
   simp
  rw [this]; rfl
 ·rw [if_neg hk]
  congr 2
  funext a
  by_cases e:a.1=k'
  ·have:¬ a.1=k:=fun q=>hk (e.symm.trans q)
   simp [e,hk]
  ·simp [e]
theorem nodup_stored {kvs:List (K×Value)} (hn:(kvs.map (·.1)).Nodup) (k:K) (v:Value):((PySem.stored kvs k v).map (·.1)).Nodup:=by
 unfold PySem.stored
 by_cases ha:kvs.any (fun kv=>kv.1=k)=true
 ·rw [if_pos ha,List.map_map]
  have:((·.1) ∘ fun kv:K×Value=>if kv.1=k then (kv.1,v) else kv)=(·.1):=by
   funext a; dsimp only [Function.comp]; split <;> rfl
  rw [this]; exact hn
 ·rw [if_neg ha,List.map_append,List.nodup_append]
  refine ⟨hn,by simp,?_⟩
  intro a ha' b hb e
  subst e
  simp at hb
  subst hb
  obtain ⟨q,hq,e⟩:=List.mem_map.mp ha'
  exact ha (List.any_eq_true.mpr ⟨q,hq,by simpa using e⟩)
theorem mem_stored {kvs:List (K×Value)} {k:K} {v:Value} {p:K} (h:p∈(PySem.stored kvs k v).map (·.1)):p=k∨p∈kvs.map (·.1):=by
 unfold PySem.stored at h
 by_cases ha:kvs.any (fun kv=>kv.1=k)=true
 ·rw [if_pos ha,List.map_map] at h
  have:((·.1) ∘ fun kv:K×Value=>if kv.1=k then (kv.1,v) else kv)=(·.1):=by
   funext a; dsimp only [Function.comp]; split <;> rfl
  rw [this] at h; exact .inr h
 ·rw [if_neg ha,List.map_append] at h
  rcases List.mem_append.mp h with h | h
  ·exact .inr h
  ·simp at h; exact .inl h
end
noncomputable def bput (bes:List (Ky×Value)) (k:Ky) (v:Value):List (Ky×Value):=if v=.none then PySem.without (PySem.stored bes k v) k else PySem.stored bes k v
theorem value_bput {bes:List (Ky×Value)} {k k':Ky} {v:Value}:PySem.valueAt (bput bes k v) k'=if k'=k then (if v=.none then none else some v) else PySem.valueAt bes k':=by
 unfold bput
 by_cases hv:v=.none
 ·rw [if_pos hv,value_without,value_stored]
  by_cases hk:k'=k
  ·rw [if_pos hk,if_pos hk,if_pos hv]
  ·rw [if_neg hk,if_neg hk,if_neg hk]
 ·rw [if_neg hv,value_stored]
  by_cases hk:k'=k
  ·rw [if_pos hk,if_pos hk,if_neg hv]
  ·rw [if_neg hk,if_neg hk]
theorem Held.put {C C':TC} {row:List Int} {bes:List (Ky×Value)} {k:Ky} {v:Value} (H:Held C row bes) (hk:BK k) (hv:v=.none∨∃ x t,v=.int x t) (U:Upd1 C C' k v):Held C' row (bput bes k v):=by
 obtain ⟨T,hl⟩:=U
 have hrow:∀ j:Nat,Ky.i ((j:Int)+1)≠k:=by
  intro j e
  subst e
  have:=hk.2
  exact lq [_] [] [.le (.a Nq Kr) Kq] .f [] rfl this
 refine ⟨T,H.len,H.rg,?_,?_,?_,?_,?_⟩
 ·intro j hj
  rw [hl,if_neg (hrow j)]
  exact H.at' j hj
 ·intro k' u hu
  rw [value_bput] at hu
  rw [hl]
  by_cases e:k'=k
  ·rw [if_pos e] at hu ⊢
   by_cases hn:v=.none
   ·rw [if_pos hn] at hu; cases hu
   ·rw [if_neg hn] at hu
    cases hu
    rcases hv with hv | ⟨x,t,rfl⟩
    ·exact absurd hv hn
    ·exact ⟨x,t,t,rfl,rfl⟩
  ·rw [if_neg e] at hu ⊢
   exact H.inn k' u hu
 ·intro k' hne
  rw [hl] at hne
  rw [value_bput]
  by_cases e:k'=k
  ·rw [if_pos e] at hne
   rw [if_pos e,if_neg hne]
   exact .inr ⟨_,rfl⟩
  ·rw [if_neg e] at hne
   rw [if_neg e]
   exact H.off k' hne
 ·have hs:∀ p∈PySem.stored bes k v,BK p.1:=by
   intro p hp
   rcases mem_stored (List.mem_map_of_mem (f:=(·.1)) hp) with e | h
   ·rw [e]; exact hk
   ·obtain ⟨q,hq,e⟩:=List.mem_map.mp h
    have:=H.bk q hq
    rwa [e] at this
  intro p hp
  unfold bput at hp
  by_cases hn:v=.none
  ·rw [if_pos hn] at hp; exact hs p ((List.mem_filter.mp hp).1)
  ·rw [if_neg hn] at hp; exact hs p hp
 ·unfold bput
  by_cases hn:v=.none
  ·rw [if_pos hn]; exact nodup_without (nodup_stored H.bn k v) k
  ·rw [if_neg hn]; exact nodup_stored H.bn k v
noncomputable abbrev QS3:List (Pos×Str):=[(⟨560,29,560,75⟩,"_law_done"++".<locals>."++"<lambda>"),(⟨565,36,565,82⟩,"_law_done"++".<locals>."++"<lambda>")]
noncomputable abbrev QS2:List (Pos×Str):=[(⟨544,14,544,52⟩,"_law_told"++".<locals>."++"<lambda>"),(⟨551,23,551,66⟩,"_law_told"++".<locals>."++"<lambda>"),(⟨554,27,554,61⟩,"_law_told"++".<locals>."++"<lambda>")]
noncomputable abbrev QS1:List (Pos×Str):=[(⟨531,4,532,94⟩,"_law_sorted"++".<locals>."++"is_ahead"),(⟨533,25,533,65⟩,"_law_sorted"++".<locals>."++"<lambda>")]
noncomputable abbrev LL (P:Params) (A:TA) (C:TC) (ra ba:Addr) (rv:List Value) (re:Nat) (bo:Obj) (p1 p2 p3:Array Value) (J:Led):Led :=
 TL P A C ((545,tabObj p3)::(540,tabObj p2)::(535,tabObj p1)::(ra,listOf rv.toArray re)::(ba,bo)::J)
structure LawOk (w:World) (C:TC) (row:List Int) (rv:List Value) (kvs:List (Ky×Value)) (bo:Obj) (p1 p2 p3:Array Value) (J:Led):Prop where
 held:Held C row kvs
 rowv:IntsAre rv row
 dict:bo.IsDictOf (kyKind MProg w) kvs
 t1:TabOk QS1 p1 J
 t2:TabOk QS2 p2 J
 t3:TabOk QS3 p3 J
noncomputable def Left3 (w:World) (A:TA) (ra ba:Addr) (Z J l:Led):Prop:=∃ C row rv re kvs bo p1 p2 p3 W,l=LL w.params A C ra ba rv re bo p1 p2 p3 (W++J)∧LawOk w C row rv kvs bo p1 p2 p3 (W++Z)
theorem Rep.app {d:Addr} {o o':Obj} {R R':Led} (h:Rep d o o' R R'):∀ X:Led,Rep d o o' (X++R) (X++R')
 | []=>h
 | _::X=>.tail (Rep.app h X)
section
variable {prog:Program} {w:World} {Ar:Around} {E:Value→Shared→Prop} {s:Shared} {h₀:Heap} {L D:Addr} {m:Names} {led led':Led} {rv:List Value} {e:Nat} {Q:Value→Shared→Prop}
theorem ins_at {l:List Value} {x:Int} {y:Value} (h0:0≤x) (hx:x≤l.length):kl_ins l x y=l.insertIdx x.toNat y:=by
 unfold kl_ins
 rw [if_neg (by exact Int.not_lt.2 h0),Nat.min_eq_left (by exact Int.toNat_le.2 hx)]
 have:∀ (l:List Value) (n:Nat),n≤l.length→l.take n++y::l.drop n=l.insertIdx n y:=by
  intro l
  induction l with
  | nil =>
   intro n hn
   have:n=0:=by simpa using hn
   subst this; rfl
  | cons a r ih =>
   intro n hn
   cases n with
   | zero=>rfl
   | succ n=>simp only [List.take_succ_cons,List.drop_succ_cons,List.cons_append,List.insertIdx_succ_cons]; rw [ih n (by simpa using hn)]
 exact this l _ (by exact Int.toNat_le.2 hx)
theorem ins_led {x:Int} {u:Tok} {y:Value} (F:Fr h₀ L s.heap m) (N:News h₀ L s.heap led) (D₀:Apart led) (h0:0≤x) (hx:x≤rv.length) (hz:rv.length≤1000)
  (U:Rep D (listOf rv.toArray e) (listOf (rv.insertIdx x.toNat y).toArray (e+1)) led led') (h:∀ h',Fr h₀ L h' m→News h₀ L h' led'→Apart led'→Q .none { s with heap:=h' }) :
  wpAny (model prog w) Ar (call (.builtin "list.insert") [.ref D,.int x u,y]) Q E s :=
 kl_insert (its:=rv.toArray) F N (by unfold Builtin.List.listFitsIndex; simp; exact lq [_] [_] [.le Kq Zq,.le Zq Nq,.l Nq (.k 1000)] (.an (.le (.g (.k 9223372036854775808)) Zq) (.lt Zq (.k 9223372036854775808))) [[10010,11100]] rfl h0 hx hz) (ins_at h0 hx) (U.upd D₀).1 (by rw [sizeLine_eq]; simp; exact Nat.le_trans hz (nb rfl)) fun h' F' N'=>h h' F' N' (U.upd D₀).2
end
theorem ints_ins {row:List Int} {v:Int} {t:Tok}:∀ {rv:List Value},IntsAre rv row→∀ n,n≤row.length→IntsAre (rv.insertIdx n (.int v t)) (row.insertIdx n v):=by
 intro rv h
 induction h with
 | nil =>
  intro n hn
  have:n=0:=by simpa using hn
  subst this; exact .cons v t .nil
 | cons k t' r ih =>
  intro n hn
  cases n with
  | zero=>exact .cons v t (.cons k t' r)
  | succ n=>simp only [List.insertIdx_succ_cons]; exact .cons k t' (ih n (by simpa using hn))
theorem fmod_in {a b:Int} (hb:0 < b):0≤a.fmod b∧a.fmod b < b:=by
 rw [Int.fmod_eq_emod_of_nonneg _ (by exact Int.le_of_lt hb)]
 exact ⟨Int.emod_nonneg _ (by exact lq [] [_] [.lt Kq Zq,.eq Zq Kq] .f [[10110]] rfl hb),Int.emod_lt_of_pos _ hb⟩
section
variable {sh:Sh} {dep:Nat} {m:NM} {l:Led} {D:Addr} {rv:List Value} {n:Nat} {o e1 e2:PySem.Expr} {ap pos:Pos} {x y:Int}
theorem HEs.perm {c:Cn} {m:NM} {l l':Led} {es:List PySem.Expr} {P:List Value→Led→Prop} (p:l'.Perm l) (h:HEs ⟨c,m,l'⟩ es P):HEs ⟨c,m,l⟩ es P :=
 fun pos Ar g L s T R=>h pos Ar g L s T (R.perm p.symm)
theorem HE.l_insert {led':Tok→Led} (hc:noCall o=true) (hf:fewOk [e1,e2] ap pos=true) (hs1:isStar e1=false) (hs2:isStar e2=false) (ho:Ev ⟨⟨w,mean,mg,mb,sh,dep⟩,m,l⟩ o (.v (.ref D))) (h1:Ev ⟨⟨w,mean,mg,mb,sh,dep⟩,m,l⟩ e1 (.i x)) (h2:Ev ⟨⟨w,mean,mg,mb,sh,dep⟩,m,l⟩ e2 (.i y))
  (hm:(D,listOf rv.toArray n)∈l) (h0:0≤x) (hx:x≤rv.length) (hz:rv.length≤1000) (U:∀ t,Rep D (listOf rv.toArray n) (listOf (rv.insertIdx x.toNat (.int y t)).toArray (n+1)) l (led' t)) :
  HE ⟨⟨w,mean,mg,mb,sh,dep⟩,m,l⟩ (.Call (.Attribute o (Str.ofString "insert") ap) [e1,e2] [] pos) fun z9 l'=>∃ t,l'=led' t:=by
 intro Ar g L s T R0
 refine MethodCall_ (ho.use T R0 fun z9 z9 z9 ev R1=>?_) (meth_any hc (Evs.cons hs1 h1 (.cons hs2 h2 .nil)).plain hf)
 cases ev
 refine kl_method R1.N hm PySem.F.slot_list_insert PySem.F.type_list_insert (callWith_method1 ((Evs.cons hs1 h1 (.cons hs2 h2 .nil)).use T R1 fun vs z9 z9 hvs R2=>?_) (star_of hs1) (Evs.cons hs2 h2 .nil).plain)
 obtain ⟨v1,v2,rfl,⟨t1,rfl⟩,⟨t2,rfl⟩⟩:=hvs.two
 obtain ⟨nm,F,H⟩:=R2.F
 exact ins_led F R2.N R2.D h0 hx hz (U t2) fun h' F' N' D'=>⟨h',_,m,led' t2,rfl,⟨⟨nm,F',H⟩,N',D'⟩,rfl,t2,rfl⟩
end
theorem pm_in2 {α:Type} (T g c x1 x2 x3 x4:α) (W J:List α):([g,c]++(T::x1::x2::x3::x4::(W++J))).Perm (T::(W++(g::c::x1::x2::x3::x4::J))) :=
 pq T [T,g,c,x1,x2,x3,x4] [W,J] (.a (.c 1 (.c 2 .n)) (.c 0 (.c 3 (.c 4 (.c 5 (.c 6 (.a (.s 0) (.s 1)))))))) (.c 0 (.a (.s 0) (.c 1 (.c 2 (.c 3 (.c 4 (.c 5 (.c 6 (.s 1))))))))) rfl
section
theorem spec_done_ins (A:TA) (C:TC) (ra ba:Addr) (row:List Int) (rv:List Value) (re:Nat) (kvs:List (Ky×Value)) (bo:Obj) (p1 p2 p3:Array Value) (J Z:Led) (number:Int) (tn:Tok)
  (hz:∀ p∈Z,p∈J) (K:LawOk w C row rv kvs bo p1 p2 p3 Z) (hn:0≤number) (hf:number.fmod 8 < 3) (hl:row.length < 24) :
  Spec w mean mg mb (.ref 550) [.ref A.t,.ref ra,.ref ba,.int number tn] 100 (LL w.params A C ra ba rv re bo p1 p2 p3 J) (fun r l=>r=.bool true∧Left3 w A ra ba Z J l):=by
 have hlv:rv.length=row.length:=K.rowv.length
 have hB:=K.held.bord
 have hT:=K.held.tab
 have hlz:rv.length < 2 ^ 62:=by exact lq [_,_] [] [.t Nq (.k 24),.e Nr Nq] (.t Nr (.k 4611686018427387904)) [[10110]] rfl hl hlv
 have hne:(rv.length:Int)+1≠0:=by exact lq [_] [] [.eq (.a Nq Kr) Kq] .f [[1010]] rfl
 refine Spec.enterCH (cm:=upd (fun z9=>none) "t" (.ref A.t)) (cl:=fun L=>[("t",L+1)]) (by k_is) (by k_is) (fun s X=>BindsTo.of_eq rfl) rfl (by decide) (by first | exact .cons sl3 rfl (.cons sl2 rfl (.cons sl1 rfl .nil)) | exact .cons sl2 rfl (.cons sl1 rfl .nil)) (by first | exact bc_of (l:=[(_,_),(_,_),(_,_),(_,_)]) rfl (fun y=>rfl) | exact bc_of (l:=[(_,_),(_,_),(_,_)]) rfl (fun y=>rfl)) (fun L=>rfl) rfl rfl rfl (by kernel_rfl) hap_one ?_
 intro L₁ cells Y
 obtain ⟨ct,rfl,hct⟩:=CellsAre.one Y
 rw [show upd (fun z9=>none) "t" (.ref A.t) "t"=some (.ref A.t) from upd_hit] at hct
 clear Y
 refine HS.perm tl_in.symm ?_
 refine HS.assign2 4 5 sl4 sl5 (fun z9=>rfl) rfl rfl (Ev.bin (Ev.nameI 3 sl3 rfl) Ev.int (IOp.mod (by decide))) (Ev.bin (Ev.nameI 3 sl3 rfl) Ev.int (IOp.fdiv (by decide) (by decide))) (HS.ite (EvT.and (EvT.cmp (Ev.name 4 sl4 rfl) Ev.int ICmp.lt rfl) (fun z9=>(EvT.cmp (Ev.callB rfl (Ev.blt 10 sl10 (by k_is) (by boot_by_name) (by kernel_rfl)) (Evs.cons rfl (Ev.name 1 sl1 rfl) Evs.nil) (CT.len (mem_R (.tail _ (.tail _ (.tail _ (.tail _ List.mem_cons_self))))) hlz)) Ev.int ICmp.lt rfl))) (fun z9=>(HS.assign2 6 7 sl6 sl7 (fun z9=>rfl) rfl rfl (Ev.bin Ev.int (Ev.bin (Ev.bin (Ev.name 5 sl5 rfl) Ev.int (IOp.fdiv (by decide) (by decide))) (Ev.bin (Ev.callB rfl (Ev.blt 10 sl10 (by k_is) (by boot_by_name) (by kernel_rfl)) (Evs.cons rfl (Ev.name 1 sl1 rfl) Evs.nil) (CT.len (mem_R (.tail _ (.tail _ (.tail _ (.tail _ List.mem_cons_self))))) hlz)) Ev.int IOp.add) (IOp.mod hne)) IOp.add) (Ev.bin (Ev.bin (Ev.name 5 sl5 rfl) Ev.int (IOp.mod (by decide))) Ev.int IOp.sub) ?_)) (fun z9=>(False.elim (by exact lq [_,_] [_] [.lt Zq (.k 3),.t Nq (.k 24),.e Nr Nq,.or (.nt Zq (.k 3)) (.nt Nr (.k 24))] .f [[1100010],[1101100]] rfl hf hl hlv (nab z9)))))
 obtain ⟨a1,a2⟩:=fmod_in (a:=(number.fdiv 8).fdiv 3) (b:=(rv.length:Int)+1) (by exact lq [_] [] [] (.lt Kq (.a Nq Kr)) [] rfl)
 obtain ⟨b1,b2⟩:=fmod_in (a:=number.fdiv 8) (b:=11) (by exact Int.natCast_nonneg _)
 generalize ea:1+((number.fdiv 8).fdiv 3).fmod ((rv.length:Int)+1)=a at *
 generalize ev:(number.fdiv 8).fmod 11 - 3=v at *
 obtain ⟨a3,a4,v3,v4⟩:1≤a∧a≤row.length+1∧-3≤v∧v≤7:=by exact lq [_,_] [_,_,_,_] [.e Nq Nr,.le Kq Zq,.lt Zq (.a Nq Kr),.le Kq Zr,.lt Zr (.k 11),.eq (.a Kr Zq) (.z 2),.eq (.s Zr (.k 3)) (.z 3)] (.an (.le Kr (.z 2)) (.an (.le (.z 2) (.a Nr Kr)) (.an (.le (.g (.k 3)) (.z 3)) (.le (.z 3) (.k 7))))) [[100010001000,100100010010,101000100000,110001000000]] rfl hlv a1 a2 b1 b2 ea ev
 clear a1 a2 b1 b2 ea ev
 refine HS.expr (P:=fun z9 l=>∀ X:Led→Prop,(∀ C' ps' W ge t,TabOk QS3 ps' (W++Z)→Tab C'→(∀ k,look C' k=insF C row.length a (.int v t) k)→X (TL w.params A C' ((545,tabObj ps')::(W++(ge,methodObj (.ref 363) (.ref A.t))::(L₁+1,ct)::(540,tabObj p2)::(535,tabObj p1)::(ra,listOf rv.toArray re)::(ba,bo)::J))))→X l) rfl (HE.callHs rfl (by exact Ev.glob 11 sl11 (by k_is)) (by k_is) rfl ?_) ?_
 ·refine HEs.cons rfl (HE.bound rfl (by exact Ev.cell 0 sl0 rfl (mem_R (.tail _ List.mem_cons_self)) hct) InsAt.tab (by k_is) (by k_is) (by k_is) (by k_is) (by k_is) (by k_is) (by decide +kernel) (by kernel_rfl)) ?_
  rintro _ _ ⟨ge,rfl,rfl⟩
  refine HEs.perm tl_in.symm ?_
  refine HEs.cons rfl (HE.lam (QS:=QS3) (Z:=Z) (qual:="_law_done"++".<locals>."++"<lambda>") (clos:=[("t",L₁+1)]) (c:=549) (P:=545) (fun z9=>rfl) (fun z9=>rfl) (fun z9 X=>codeHd_of_K X (by kernel_rfl)) rfl K.t3 (fun p hp=>.tail _ (.tail _ (.tail _ (.tail _ (.tail _ (.tail _ (hz p hp))))))) (.head _) ?_ (fun z9=>rfl)) ?_
  ·intro p hp h1 h2
   simp only [QS3,List.mem_cons,List.not_mem_nil,or_false] at hp
   rcases hp with rfl | rfl
   ·exact ⟨rfl,rfl⟩
   ·exact absurd h1 (by decide)
  intro v₀ l₀ h₀
  apply h₀
  intro f c' ctv J2 ps' R' hR mf mc mT hsub
  have hge:=hsub _ (.head _)
  have hcm:=hsub _ (.tail _ (.head _))
  have hput:PutK w mean mg mb A R' f:=fun C n t v hT hv hS=>by
   have mc:=mc.mono (l':=TL w.params A C R') fun p hp=>mem_R hp
   clear hR
   refine Spec.enterLH (mem_R mf) mc rfl rfl (by kernel_rfl) (by kernel_rfl) rfl rfl rfl (by decide) ?_
   refine HE.meth (by exact Ev.free 2 sl2 rfl (mem_R hcm) hct (by kernel_rfl)) InsAt.tab (by (exact ⟨by k_is,by k_is,by k_is,by k_is⟩)) rfl rfl (by exact Evs.cons rfl (Ev.name 0 sl0 rfl) (Evs.cons rfl (Ev.name 1 sl1 rfl) (Evs.cons rfl Ev.none Evs.nil))) (nb rfl) (by exact spec_set_int A C R' (PySem.Value.int n t) v (Ky.i n) hT trivial rfl hv hS)
  refine HEs.consE rfl (Ev.of (HE.meth (by exact Ev.cell 0 sl0 rfl (mem_R hcm) hct) InsAt.tab (by (exact ⟨by k_is,by k_is,by k_is,by k_is⟩)) rfl rfl .nil (nb rfl) (spec_length A C R' row.length hT.wf hB (by exact lq [_,_] [_] [.e Nq Nr,.an (.lt Zq (.k 3)) (.lt Nq (.k 24))] (.l Nr (.k 100)) [[110100]] rfl hlv z9)))) ?_
  rintro _ ⟨t1,rfl⟩
  refine HEs.consE rfl (by exact Ev.name 6 sl6 rfl) ?_
  rintro _ ⟨t2,rfl⟩
  refine HEs.consE rfl (by exact Ev.name 7 sl7 rfl) ?_
  rintro _ ⟨t3,rfl⟩
  exact HEs.nil ⟨62,Nat.le_of_ble_eq_true rfl,(spec_insert_at A C _ ge f row.length a t1 t2 (.int v t3) hT trivial a3 a4 (by exact lq [_,_] [_] [.e Nq Nr,.an (.lt Zq (.k 3)) (.lt Nq (.k 24))] (.le Nr (.k 24)) [[110100]] rfl hlv z9) (cb_get_in hge) (calls_fn mf) (cb_get hge) hput).mono (Nat.le_refl _) fun r l ⟨_,C',e,hT',hk⟩ X k=>(hR▸e)▸k C' ps' ((f,_)::J2) ge t3 (mT.mono fun z9 h=>.tail _ h) hT' hk⟩
 ·intro v₀ l₀ h₀
  apply h₀
  intro C' ps' W ge tv mT hT' hk
  refine HS.expr rfl (HE.l_insert (rv:=rv) (n:=re) (led':=fun t=>TL w.params A C' ((545,tabObj ps')::(W++(ge,methodObj (.ref 363) (.ref A.t))::(L₁+1,ct)::(540,tabObj p2)::(535,tabObj p1)::(ra,listOf (rv.insertIdx (a - 1).toNat (.int v t)).toArray (re+1))::(ba,bo)::J))) rfl rfl rfl rfl (by exact Ev.name 1 sl1 rfl) (by exact Ev.bin (Ev.name 6 sl6 rfl) Ev.int IOp.sub) (by exact Ev.name 7 sl7 rfl) (by exact mem_R (.tail _ (List.mem_append_right _ (.tail _ (.tail _ (.tail _ (.tail _ List.mem_cons_self))))))) (by exact Int.sub_nonneg_of_le a3) (by exact lq [_,_] [_] [.e Nq Nr,.le Zq (.a Nr Kr)] (.le (.s Zq Kr) Nq) [[11100]] rfl hlv a4) (by exact lq [_] [_] [.an (.lt Zq (.k 3)) (.lt Nq (.k 24))] (.l Nq (.k 1000)) [[1100]] rfl z9) (fun t=>by (exact (Rep.tl (Rep.tail (Rep.app (Rep.tail (Rep.tail (Rep.tail (Rep.tail Rep.head)))) W)))))) ?_
  rintro _ _ ⟨t,rfl⟩
  refine HS.drop (r:=[(ge,_),(L₁+1,ct)]) (l':=LL w.params A C' ra ba (rv.insertIdx (a - 1).toNat (.int v t)) (re+1) bo p1 p2 ps' (W++J)) ((tl_app [_,_]).symm.trans (tl_congr (pm_in2 _ _ _ _ _ _ _ _ _))) ?_
  refine HS.ret Ev.bool ?_
  rintro _ rfl
  exact ⟨rfl,C',row.insertIdx (a - 1).toNat v,_,_,kvs,bo,p1,p2,ps',W,rfl,K.held.ins hl a3 a4 ⟨v3,v4⟩ hT' hk,ints_ins K.rowv _ (by exact lq [_,_] [_] [.le Zq (.a Nq Kr),.tn 1 (.s Zq Kr)] (.l Nr Nq) [[101010],[11000]] rfl a4 rfl),K.dict,K.t1.mono fun p hp=>List.mem_append_right _ hp,K.t2.mono fun p hp=>List.mem_append_right _ hp,mT⟩
end
theorem cut_at {x:Value}:∀ {l:List Value} {k:Nat},l[k]?=some x→kl_cut l k=some (l.take k,x,l.drop (k+1))
 | [],k,h=>by simp at h
 | a::r,0,h=>by simp at h; subst h; rfl
 | a::r,k+1,h=>by
  have:=cut_at (l:=r) (k:=k) (by simpa using h)
  show (match kl_cut r k with | some (p,y,q)=>some (a::p,y,q) | none=>none)=_
  rw [this]
  rfl
section
variable {prog:Program} {w:World} {Ar:Around} {E:Value→Shared→Prop} {s:Shared} {h₀:Heap} {L D:Addr} {m:Names} {led led':Led} {rv:List Value} {e:Nat} {Q:Value→Shared→Prop}
theorem pop_led {x:Int} {u:Tok} {y:Value} (F:Fr h₀ L s.heap m) (N:News h₀ L s.heap led) (D₀:Apart led) (hy:rv[x.toNat]?=some y)
  (U:Rep D (listOf rv.toArray e) (listOf (rv.eraseIdx x.toNat).toArray (e+1)) led led') (h0:0≤x) (hz:rv.length≤1000) (h:∀ h',Fr h₀ L h' m→News h₀ L h' led'→Apart led'→Q y { s with heap:=h' }) :
  wpAny (model prog w) Ar (call (.builtin "list.pop") [.ref D,.int x u]) Q E s:=by
 have hx:=(List.getElem?_eq_some_iff.mp hy).1
 rw [List.eraseIdx_eq_take_drop_succ] at U
 exact kl_popAt (its:=rv.toArray) (k:=x.toNat) F N (by unfold Builtin.List.listFitsIndex; simp; exact lq [_,_] [_] [.le Kq Zq,.l Nq (.k 1000),.t Nr Nq,.tn 1 Zq] (.an (.le (.g (.k 9223372036854775808)) Zq) (.lt Zq (.k 9223372036854775808))) [[10000010,11001100],[1000010,1010000]] rfl h0 hz hx rfl) (by unfold seqIndex?; simp; lia) (cut_at hy) (U.upd D₀).1 (by rw [sizeLine_eq]; simp; exact Nat.le_trans hz (nb rfl)) fun h' F' N'=>h h' F' N' (U.upd D₀).2
theorem eq_same {a b:Addr} {us vs:Array Value} {d:PyData} (N:News h₀ L s.heap led) (h1:(a,tupObj us)∈led) (h2:(b,tupObj vs)∈led) {as bs:List Addr} {xs:List PyData} (r1:ReadsAll s.heap us.toList xs as) (r2:ReadsAll s.heap vs.toList xs bs)
  (hs:SeqAt.shaped (.tuple xs)=true) (hl:(PyData.tuple xs).canLay0=true) (hu:Ar.units+64 < cLine) (h:Q (.bool true) s):wpAny (model prog w) Ar (compareOp .Eq (.ref a) (.ref b)) Q E s :=
 eq_dataH (Reads.tuple (N _ h1).1 rfl rfl r1) (Reads.tuple (N _ h2).1 rfl rfl r2) hs hs hu (by rw [SeqAt.eqv_refl _ hl]; exact h)
end
theorem ints_del {row:List Int}:∀ {rv:List Value},IntsAre rv row→∀ n,IntsAre (rv.eraseIdx n) (row.eraseIdx n):=by
 intro rv h
 induction h with
 | nil=>intro n; exact .nil
 | cons k t' r ih =>
  intro n
  cases n with
  | zero=>exact r
  | succ n=>exact .cons k t' (ih n)
theorem ints_get {row:List Int}:∀ {rv:List Value},IntsAre rv row→∀ n,n < row.length→∃ t,rv[n]?=some (.int (row.getD n 0) t):=by
 intro rv h
 induction h with
 | nil=>intro n hn; simp at hn
 | cons k t' r ih =>
  intro n hn
  cases n with
  | zero=>exact ⟨t',rfl⟩
  | succ n=>exact ih n (by simpa using hn)
section
variable {sh:Sh} {dep:Nat} {m:NM} {l:Led} {D:Addr} {rv:List Value} {n:Nat} {o e1:PySem.Expr} {ap pos:Pos} {x:Int} {y:Value}
theorem HE.l_pop {led':Led} (hc:noCall o=true) (hf:fewOk [e1] ap pos=true) (hs1:isStar e1=false) (ho:Ev ⟨⟨w,mean,mg,mb,sh,dep⟩,m,l⟩ o (.v (.ref D))) (h1:Ev ⟨⟨w,mean,mg,mb,sh,dep⟩,m,l⟩ e1 (.i x))
  (hm:(D,listOf rv.toArray n)∈l) (hy:rv[x.toNat]?=some y) (h0:0≤x) (hz:rv.length≤1000) (U:Rep D (listOf rv.toArray n) (listOf (rv.eraseIdx x.toNat).toArray (n+1)) l led') :
  HE ⟨⟨w,mean,mg,mb,sh,dep⟩,m,l⟩ (.Call (.Attribute o (Str.ofString "pop") ap) [e1] [] pos) fun r l'=>r=y∧l'=led':=by
 intro Ar g L s T R0
 refine MethodCall_ (ho.use T R0 fun z9 z9 z9 ev R1=>?_) (meth_any hc (Evs.cons hs1 h1 .nil).plain hf)
 cases ev
 refine kl_method R1.N hm PySem.F.slot_list_pop PySem.F.type_list_pop (callWith_method1 (args_cons (h1.use T R1 fun v z9 z9 hv R2=>args_nil ?_) (star_of hs1)) (star_of hs1) rfl)
 obtain ⟨t1,rfl⟩:=hv
 obtain ⟨nm,F,H⟩:=R2.F
 exact pop_led F R2.N R2.D hy U h0 hz fun h' F' N' D'=>⟨h',_,m,led',rfl,⟨⟨nm,F',H⟩,N',D'⟩,rfl,rfl,rfl⟩
end
theorem HE.iteI {σ:St} {t a b:PySem.Expr} {pos:Pos} {p:Prop} {n1 n2:Int} (ht:EvT σ t p) (ha:Ev σ a (.i n1)) (hb:Ev σ b (.i n2)):HE σ (.IfExp t a b pos) fun v l=>(∃ n u,v=.int n u∧(n=n1∨n=n2))∧l=σ.led :=
 fun z9 z9 z9 s T R=>IfExp_ (ht.use T R fun c z9 z9 hc R1=>by
  cases c with
  | true=>exact ha.use T R1 fun _ _ _ ⟨u,e⟩ R2=>HE.out (s:=s) (P:=fun v l=>(∃ n u,v=.int n u∧(n=n1∨n=n2))∧l=σ.led) R2 ⟨⟨_,u,e,.inl rfl⟩,rfl⟩
  | false=>exact hb.use T R1 fun _ _ _ ⟨u,e⟩ R2=>HE.out (s:=s) (P:=fun v l=>(∃ n u,v=.int n u∧(n=n1∨n=n2))∧l=σ.led) R2 ⟨⟨_,u,e,.inr rfl⟩,rfl⟩)
theorem HE.ite {σ:St} {t a b:PySem.Expr} {pos:Pos} {p:Prop} {P:Value→Led→Prop} (ht:EvT σ t p) (ha:p→HE σ a P) (hb:¬ p→HE σ b P):HE σ (.IfExp t a b pos) P :=
 fun z9 z9 z9 s T R=>IfExp_ (ht.use T R fun c z9 z9 hc R1=>by
  cases c with
  | true=>exact (ha (hc.mp rfl)).use T R1 fun z9 z9 z9 z9 p R2=>HE.out (s:=s) R2 p
  | false=>exact (hb fun h=>absurd (hc.mpr h) nofun).use T R1 fun z9 z9 z9 z9 p R2=>HE.out (s:=s) R2 p)
theorem HE.fin {σ:St} {e:PySem.Expr} {P Q:Value→Led→Prop} (h:HE σ e P) (k:∀ v l,P v l→∃ r l',(r++l').Perm l∧Q v l'):HE σ e Q :=
 fun z9 z9 z9 s T R=>h.use T R fun v h' tk' l p R1=>by
  obtain ⟨r,l',e,q⟩:=k v l p
  exact HE.out (s:=s) (l':=l') ⟨R1.F,News.sub R1.N fun q hq=>e.mem_iff.mp (List.mem_append_right _ hq),(R1.D.perm e.symm).sub (List.sublist_append_right _ _)⟩ q
section
variable {c:Cn} {m:NM} {l:Led} {P:List Value→Led→Prop}
theorem HE.tup {es:List PySem.Expr} {kt:Nat} {tp:Pos} (h:HEs ⟨c,m,l⟩ es P) (hz:∀ vs l',P vs l'→vs.length≤100):HE ⟨c,m,l⟩ (.Tuple es kt tp) fun v l'=>∃ D vs l0,v=.ref D∧l'=(D,tupObj vs.toArray)::l0∧P vs l0 :=
 fun z9 z9 z9 s T R=>Tuple_ (h.use T R fun vs z9 z9 l0 p R1=>by
  obtain ⟨nm,F,H⟩:=R1.F
  refine kup_newTuple F R1.N (fun D' h2 F2 N2 lt=>⟨h2,_,m,(D',tupObj vs.toArray)::l0,rfl,⟨⟨nm,F2,H⟩,N2,R1.D.cons lt⟩,rfl,D',vs,l0,rfl,rfl,p⟩) ?_
  exact Nat.le_trans (hz _ _ p) (nb rfl))
noncomputable def RdF (vs:List Value) (xs:List PyData):Prop:=∀ h,ReadsAll h vs xs []
theorem RdF.nil:RdF [] []:=fun z9=>.nil
theorem RdF.cons {v:Value} {vs:List Value} {x:PyData} {xs:List PyData} (h:∀ h,Reads h v x []) (t:RdF vs xs):RdF (v::vs) (x::xs):=fun g=>ReadsAll.cons (as:=[]) (h g) (t g)
theorem HE.eqT {e1 e2:PySem.Expr} {pos:Pos} {a:Addr} {P2 Q:Value→Led→Prop} (h1:Ev ⟨c,m,l⟩ e1 (.v (.ref a))) (h2:HE ⟨c,m,l⟩ e2 P2) (hm:behindInMarks .Eq e2=false) (hd:3≤c.dep)
  (k:∀ v l',P2 v l'→∃ b us vs xs,v=.ref b∧(a,tupObj us)∈l'∧(b,tupObj vs)∈l'∧RdF us.toList xs∧RdF vs.toList xs∧SeqAt.shaped (.tuple xs)=true∧(PyData.tuple xs).canLay0=true∧Q (.bool true) l'):HE ⟨c,m,l⟩ (.Compare e1 [.Eq] [e2] pos) Q :=
 fun Ar z9 z9 s T R=>wpAny_Compare1 (h1.use T R fun z9 z9 z9 ea R1=>h2.use T R1 fun v z9 z9 l' p R2=>(show _=_ from ea)▸by
  have hu:Ar.units+30 * c.dep < cLine:=T.C.u
  obtain ⟨b,us,vs,xs,rfl,ma,mb,ra,rb,hs,hl,q⟩:=k v l' p
  exact eq_same (d:=.none) R2.N ma mb (ra _) (rb _) hs hl (by lia) (HE.out (s:=s) R2 q)) hm
end
noncomputable def Told (C C':TC) (n a:Int) (us:Array Value):Prop:=(1≤a∧a≤n→us=#[.bool true,look C (.i a)]∧∀ k,look C' k=remF C n a k)∧(¬ (1≤a∧a≤n)→us=#[.bool false,.none]∧C'=C)
section
theorem spec_remove (A:TA) (C:TC) (R:Led) (ge pu:Addr) (n at':Int) (t1 t2:Tok) (T₀:Tab C) (hn:n≤24) (hgk:CallsIn w R ge) (hpk:CallsIn w R pu) (hget:GetK w mean mg mb A R ge) (hput:PutK w mean mg mb A R pu) :
  Spec w mean mg mb (.ref 35) [.ref ge,.ref pu,.int n t1,.int at' t2] 62 (TL w.params A C R) (fun r l=>∃ T C' us,r=.ref T∧l=(T,tupObj us)::TL w.params A C' R∧Tab C'∧Told C C' n at' us):=by
 by_cases h:1≤at'∧at'≤n
 ·exact (spec_remove_at A C R ge pu n at' t1 t2 T₀ h.1 h.2 hn hgk hpk hget hput).mono (Nat.le_refl _) fun r l ⟨T,C',e1,e2,T1,hk⟩=>⟨T,C',_,e1,e2,T1,fun z9=>⟨rfl,hk⟩,fun x=>absurd h x⟩
 ·exact (spec_remove_out A C R ge pu n at' t1 t2 (by lia)).mono (Nat.le_refl _) fun r l ⟨T,e1,e2⟩=>⟨T,C,_,e1,e2,T₀,fun x=>absurd x h,fun z9=>⟨rfl,rfl⟩⟩
theorem spec_done_rem (A:TA) (C:TC) (ra ba:Addr) (row:List Int) (rv:List Value) (re:Nat) (kvs:List (Ky×Value)) (bo:Obj) (p1 p2 p3:Array Value) (J Z:Led) (number:Int) (tn:Tok)
  (hz:∀ p∈Z,p∈J) (K:LawOk w C row rv kvs bo p1 p2 p3 Z) (hf:number.fmod 8=3) :
  Spec w mean mg mb (.ref 550) [.ref A.t,.ref ra,.ref ba,.int number tn] 100 (LL w.params A C ra ba rv re bo p1 p2 p3 J) (fun r l=>r=.bool true∧Left3 w A ra ba Z J l):=by
 have hlv:rv.length=row.length:=K.rowv.length
 have hl:=K.held.len
 have hlz:rv.length < 2 ^ 62:=by exact lq [_,_] [] [.e Nq Nr,.l Nr (.k 24)] (.t Nq (.k 4611686018427387904)) [[11010]] rfl hlv hl
 have hne:(rv.length:Int)+2≠0:=by exact lq [_] [] [.eq (.a Nq (.k 2)) Kq] .f [[1010]] rfl
 have hm1:(if (1:Int) > rv.length then 1 else (rv.length:Int))≠0:=by split <;> (first | exact by decide | exact lq [_] [] [.nt Nq Kr,.eq Nq Kq] .f [[10110]] rfl (by assumption))
 refine Spec.enterCH (cm:=upd (fun z9=>none) "t" (.ref A.t)) (cl:=fun L=>[("t",L+1)]) (by k_is) (by k_is) (fun s X=>BindsTo.of_eq rfl) rfl (by decide) (by first | exact .cons sl3 rfl (.cons sl2 rfl (.cons sl1 rfl .nil)) | exact .cons sl2 rfl (.cons sl1 rfl .nil)) (by first | exact bc_of (l:=[(_,_),(_,_),(_,_),(_,_)]) rfl (fun y=>rfl) | exact bc_of (l:=[(_,_),(_,_),(_,_)]) rfl (fun y=>rfl)) (fun L=>rfl) rfl rfl rfl (by kernel_rfl) hap_one ?_
 intro L₁ cells Y
 obtain ⟨ct,rfl,hct⟩:=CellsAre.one Y
 rw [show upd (fun z9=>none) "t" (.ref A.t) "t"=some (.ref A.t) from upd_hit] at hct
 clear Y
 refine HS.perm tl_in.symm ?_
 refine HS.assign2 4 5 sl4 sl5 (fun z9=>rfl) rfl rfl (Ev.bin (Ev.nameI 3 sl3 rfl) Ev.int (IOp.mod (by decide))) (Ev.bin (Ev.nameI 3 sl3 rfl) Ev.int (IOp.fdiv (by decide) (by decide))) (HS.ite (EvT.and (EvT.cmp (Ev.name 4 sl4 rfl) Ev.int ICmp.lt rfl) (fun z9=>(EvT.cmp (Ev.callB rfl (Ev.blt 10 sl10 (by k_is) (by boot_by_name) (by kernel_rfl)) (Evs.cons rfl (Ev.name 1 sl1 rfl) Evs.nil) (CT.len (mem_R (.tail _ (.tail _ (.tail _ (.tail _ List.mem_cons_self))))) hlz)) Ev.int ICmp.lt rfl))) (fun z9=>(False.elim (by exact lq [_] [_] [.eq Zq (.k 3),.an (.lt Zq (.k 3)) (.lt Nq (.k 24))] .f [[101100]] rfl hf z9))) (fun z9=>(HS.nil (HS.ite (EvT.cmp (Ev.name 4 sl4 rfl) Ev.int ICmp.eq rfl) (fun z9=>?_) (fun z9=>(False.elim (by contradiction)))))))
 refine HS.assignH _ (by (exact sl6)) rfl (HE.iteI (by exact EvT.cmp (Ev.bin (Ev.name 5 sl5 rfl) Ev.int (IOp.mod (by decide))) Ev.int ICmp.eq rfl) (by exact Ev.bin (Ev.name 5 sl5 rfl) (Ev.bin (Ev.callB rfl (Ev.blt 10 sl10 (by k_is) (by boot_by_name) (by kernel_rfl)) (Evs.cons rfl (Ev.name 1 sl1 rfl) Evs.nil) (CT.len (mem_R (.tail _ (.tail _ (.tail _ (.tail _ List.mem_cons_self))))) hlz)) Ev.int IOp.add) (IOp.mod hne)) (by exact Ev.bin Ev.int (Ev.bin (Ev.name 5 sl5 rfl) (Ev.callB rfl (Ev.blt 12 sl12 (by k_is) (by boot_by_name) (by kernel_rfl)) (Evs.cons rfl (Ev.callB rfl (Ev.blt 10 sl10 (by k_is) (by boot_by_name) (by kernel_rfl)) (Evs.cons rfl (Ev.name 1 sl1 rfl) Evs.nil) (CT.len (mem_R (.tail _ (.tail _ (.tail _ (.tail _ List.mem_cons_self))))) hlz)) (Evs.cons rfl Ev.int Evs.nil)) (fun z9 z9=>CT.max)) (IOp.mod hm1)) IOp.add)) ?_
 rintro _ _ ⟨⟨a,ta,rfl,ha⟩,rfl⟩
 have a0:0≤a:=by
  rcases ha with rfl | rfl
  ·exact (fmod_in (by exact lq [_] [] [] (.lt Kq (.a Nq (.k 2))) [] rfl)).1
  ·have:=(fmod_in (a:=number.fdiv 8) (b:=if (1:Int) > rv.length then 1 else (rv.length:Int)) (by split <;> (first | exact Int.natCast_nonneg _ | exact Int.not_lt.1 (by assumption)))).1
   exact lq [] [_] [.le Kq Zq] (.le Kq (.a Kr Zq)) [] rfl this
 clear ha
 have hB:=K.held.bord
 have hT:=K.held.tab
 refine HS.assignH (P:=fun r l=>∀ X:Value→Led→Prop,(∀ T us C' ps' W ge,TabOk QS3 ps' (W++Z)→Tab C'→Told C C' row.length a us→X (.ref T) ((T,tupObj us)::TL w.params A C' ((545,tabObj ps')::(W++(ge,methodObj (.ref 363) (.ref A.t))::(L₁+1,ct)::(540,tabObj p2)::(535,tabObj p1)::(ra,listOf rv.toArray re)::(ba,bo)::J))))→X r l) _ (by (exact sl8)) rfl (HE.callHs rfl (by exact Ev.glob 13 sl13 (by k_is)) (by k_is) rfl ?_) ?_
 ·refine HEs.cons rfl (HE.bound rfl (by exact Ev.cell 0 sl0 rfl (mem_R (.tail _ List.mem_cons_self)) hct) InsAt.tab (by k_is) (by k_is) (by k_is) (by k_is) (by k_is) (by k_is) (by decide +kernel) (by kernel_rfl)) ?_
  rintro _ _ ⟨ge,rfl,rfl⟩
  refine HEs.perm tl_in.symm ?_
  refine HEs.cons rfl (HE.lam (QS:=QS3) (Z:=Z) (qual:="_law_done"++".<locals>."++"<lambda>") (clos:=[("t",L₁+1)]) (c:=549) (P:=545) (fun z9=>rfl) (fun z9=>rfl) (fun z9 X=>codeHd_of_K X (by kernel_rfl)) rfl K.t3 (fun p hp=>.tail _ (.tail _ (.tail _ (.tail _ (.tail _ (.tail _ (hz p hp))))))) (.tail _ (.head _)) ?_ (fun z9=>rfl)) ?_
  ·intro p hp h1 h2
   simp only [QS3,List.mem_cons,List.not_mem_nil,or_false] at hp
   rcases hp with rfl | rfl
   ·exact absurd h1 (by decide)
   ·exact ⟨rfl,rfl⟩
  intro v l h
  apply h
  intro f c' ctv J2 ps' R' hR mf mc mT hsub
  have hge:=hsub _ (.head _)
  have hcm:=hsub _ (.tail _ (.head _))
  have hput:PutK w mean mg mb A R' f:=fun C n t v hT hv hS=>by
   have mc:=mc.mono (l':=TL w.params A C R') fun p hp=>mem_R hp
   clear hR
   refine Spec.enterLH (mem_R mf) mc rfl rfl (by kernel_rfl) (by kernel_rfl) rfl rfl rfl (by decide) ?_
   refine HE.meth (by exact Ev.free 2 sl2 rfl (mem_R hcm) hct (by kernel_rfl)) InsAt.tab (by (exact ⟨by k_is,by k_is,by k_is,by k_is⟩)) rfl rfl (by exact Evs.cons rfl (Ev.name 0 sl0 rfl) (Evs.cons rfl (Ev.name 1 sl1 rfl) (Evs.cons rfl Ev.none Evs.nil))) (nb rfl) (by exact spec_set_int A C R' (PySem.Value.int n t) v (Ky.i n) hT trivial rfl hv hS)
  refine HEs.consE rfl (Ev.of (HE.meth (by exact Ev.cell 0 sl0 rfl (mem_R hcm) hct) InsAt.tab (by (exact ⟨by k_is,by k_is,by k_is,by k_is⟩)) rfl rfl .nil (nb rfl) (spec_length A C R' row.length hT.wf hB (by exact Nat.le_trans hl (nb rfl))))) ?_
  rintro _ ⟨t1,rfl⟩
  refine HEs.consE rfl (by exact Ev.name 6 sl6 rfl) ?_
  rintro _ rfl
  exact HEs.nil ⟨62,Nat.le_of_ble_eq_true rfl,(spec_remove A C _ ge f row.length a t1 ta hT (by exact Int.ofNat_le.2 hl) (cb_get_in hge) (calls_fn mf) (cb_get hge) hput).mono (Nat.le_refl _) fun r l ⟨T,C',us,e1,e2,hT',hk⟩ X k=>e1▸(hR▸e2)▸k T us C' ps' ((f,_)::J2) ge (mT.mono fun z9 h=>.tail _ h) hT' hk⟩
 ·intro v l h
  apply h
  intro T us C' ps' W ge mT hT' hto
  obtain ⟨F,hF⟩:∃ F:Array Value→Nat→Led,∀ a n,F a n=(T,tupObj us)::TL w.params A C' ((545,tabObj ps')::(W++(ge,methodObj (.ref 363) (.ref A.t))::(L₁+1,ct)::(540,tabObj p2)::(535,tabObj p1)::(ra,listOf a n)::(ba,bo)::J)):=⟨_,fun z9 z9=>rfl⟩
  have hra:∀ a n,(ra,listOf a n)∈F a n:=fun a n=>by rw [hF]; (exact (.tail _ (mem_R (.tail _ (List.mem_append_right _ (.tail _ (.tail _ (.tail _ (.tail _ List.mem_cons_self)))))))))
  have hrp:∀ a n a' n',Rep ra (listOf a n) (listOf a' n') (F a n) (F a' n'):=fun a n a' n'=>by rw [hF,hF]; (exact (Rep.tail (Rep.tl (Rep.tail (Rep.app (Rep.tail (Rep.tail (Rep.tail (Rep.tail Rep.head)))) W)))))
  have hrT:∀ a n,(T,tupObj us)∈F a n:=fun a n=>by rw [hF]; (exact List.mem_cons_self)
  have hend:∀ D o a n,([(D,o),(T,tupObj us),(ge,methodObj (.ref 363) (.ref A.t)),(L₁+1,ct)]++TL w.params A C' ((545,tabObj ps')::(540,tabObj p2)::(535,tabObj p1)::(ra,listOf a n)::(ba,bo)::(W++J))).Perm ((D,o)::F a n):=fun D o a n=>by
   rw [hF]
   exact (tl_app [_,_,_,_]).symm.trans ((tl_congr (((pm_in2 _ _ _ _ _ _ _ _ _).cons _).cons _)).trans (tl_app [_,_]))
  refine HS.perm (l':=F rv.toArray re) (by rw [hF]) ?_
  have hra:=hra rv.toArray re
  clear hF hct
  refine HS.retH (P:=fun v l=>v=.bool true∧Left3 w A ra ba Z J l) (HE.fin (P:=fun v l=>v=.bool true∧∃ D vs rv' re' row',l=(D,tupObj vs)::F (List.toArray rv') re'∧IntsAre rv' row'∧Held C' row' kvs) (HE.eqT (P2:=fun v l'=>∀ X:Value→Led→Prop,(∀ D vs rv' re' row' xs,IntsAre rv' row'→Held C' row' kvs→RdF us.toList xs→RdF vs xs→SeqAt.shaped (.tuple xs)=true→(PyData.tuple xs).canLay0=true→X (.ref D) ((D,tupObj (List.toArray vs))::F (List.toArray rv') re'))→X v l') (by exact Ev.name 8 sl8 rfl) (HE.ite (by exact EvT.chain Ev.int (Ev.nameI 6 sl6 rfl) (Ev.callB rfl (Ev.blt 10 sl10 (by k_is) (by boot_by_name) (by kernel_rfl)) (Evs.cons rfl (Ev.name 1 sl1 rfl) Evs.nil) (CT.len hra hlz)) ICmp.le ICmp.le rfl) (fun hin=>?_) (fun hin=>?_)) rfl (nb rfl) ?_) ?_) fun z9 z9 h=>h
  ·rw [hlv] at hin
   obtain ⟨e,hk⟩:=hto.1 hin
   obtain ⟨tv,ev⟩:=K.held.at1 hin.1 hin.2
   obtain ⟨tw,hy⟩:=ints_get K.rowv (a - 1).toNat (by exact lq [_,_] [_] [.an (.le Kr Zq) (.le Zq Nq),.tn 1 (.s Zq Kr)] (.t Nr Nq) [[1010100],[110110]] rfl hin rfl)
   rw [ev] at e
   subst e
   refine (HE.tup (P:=fun vs l=>vs=[.bool true,.int (row.getD (a - 1).toNat 0) tw]∧l=F (rv.eraseIdx (a - 1).toNat).toArray (re+1)) (HEs.consE rfl (by (exact Ev.bool)) ?_) (fun vs l e=>e.1▸Nat.le_of_ble_eq_true rfl)).mono ?_
   ·rintro _ rfl
    exact HEs.cons rfl (HE.l_pop rfl rfl rfl (by exact Ev.name 1 sl1 rfl) (by exact Ev.bin (Ev.nameI 6 sl6 rfl) Ev.int IOp.sub) (by assumption) hy (by exact lq [_] [_] [.an (.le Kr Zq) (.le Zq Nq)] (.le Kq (.s Zq Kr)) [[1010]] rfl hin) (by exact lq [_,_] [] [.e Nq Nr,.l Nr (.k 24)] (.l Nq (.k 1000)) [[11010]] rfl hlv hl) (hrp ..)) fun v l ⟨e1,e2⟩=>HEs.nil ⟨e1▸rfl,e2⟩
   ·rintro _ _ ⟨D,_,_,rfl,rfl,rfl,rfl⟩
    exact fun X k=>k D _ _ _ _ _ (ints_del K.rowv _) (K.held.rem hin.1 hin.2 hT' hk) (.cons (fun z9=>.bool _) (.cons (fun z9=>.int _ _) .nil)) (.cons (fun z9=>.bool _) (.cons (fun z9=>.int _ _) .nil)) rfl rfl
  ·rw [hlv] at hin
   obtain ⟨rfl,rfl⟩:=hto.2 hin
   refine (HE.tup (P:=fun vs l=>vs=[.bool false,.none]∧l=F rv.toArray re) (HEs.consE rfl (by (exact Ev.bool)) ?_) (fun vs l e=>e.1▸Nat.le_of_ble_eq_true rfl)).mono ?_
   ·rintro _ rfl
    refine HEs.consE rfl (by (exact Ev.none)) ?_
    rintro _ rfl
    exact HEs.nil ⟨rfl,rfl⟩
   ·rintro _ _ ⟨D,_,_,rfl,rfl,rfl,rfl⟩
    exact fun X k=>k D _ _ _ _ _ K.rowv K.held (.cons (fun z9=>.bool _) (.cons (fun z9=>.none) .nil)) (.cons (fun z9=>.bool _) (.cons (fun z9=>.none) .nil)) rfl rfl
  ·intro v l h
   apply h
   intro D vs rv' re' row' xs h1 h2 h3 h4 h5 h6
   exact ⟨D,us,_,xs,rfl,.tail _ (hrT _ _),.head _,h3,h4,h5,h6,rfl,D,_,rv',re',row',rfl,h1,h2⟩
  ·rintro _ _ ⟨rfl,D,vs,rv',re',row',rfl,h1,h2⟩
   exact ⟨_,_,hend _ _ _ _,rfl,C',row',_,_,kvs,bo,p1,p2,ps',W,rfl,h2,h1,K.dict,K.t1.mono fun p hp=>List.mem_append_right _ hp,K.t2.mono fun p hp=>List.mem_append_right _ hp,mT⟩
end
section
variable {prog:Program} {w:World} {Ar:Around} {E:Value→Shared→Prop} {s:Shared} {h₀:Heap} {L d:Addr} {m:Names} {pre post X:Led} {o:Obj} {kvs:List (Ky×Value)} {k:Ky} {key v:Value} {A:TA} {C:TC}
theorem tl_mid' {P:Params} {o:Obj}:TL P A C (X++(d,o)::post)=TL P A C X++(d,o)::post:=by simp [TL]
theorem bset_led {Q:Unit→Shared→Prop} (F:Fr h₀ L s.heap m) (N:News h₀ L s.heap (TL w.params A C (X++(d,o)::post))) (D₀:Apart (TL w.params A C (X++(d,o)::post))) (hd:o.IsDictOf (kyKind prog w) kvs) (hkey:(kyKind prog w).is k key=true) (hz:kvs.length≤1000)
  (h:∀ h' o',Fr h₀ L h' m→News h₀ L h' (TL w.params A C (X++(d,o')::post))→Apart (TL w.params A C (X++(d,o')::post))→o'.IsDictOf (kyKind prog w) (PySem.stored kvs k v)→Q () { s with heap:=h',toks:=s.toks+1 }) :
  wpAny (model prog w) Ar (setItem (.ref d) key v) Q E s:=by
 simp only [tl_mid'] at N D₀ h
 have hm:=N (d,o) (List.mem_append_right _ (.head _))
 refine wpAny_setItem_pairs (hsz:=by rw [sizeLine_eq]; exact Nat.le_trans hz (nb rfl)) hkey (Heap.dictOf_iff.mpr ⟨o,hm.1,hd⟩) fun h' hmm hs=>?_
 obtain ⟨o',ho',hd'⟩:=Heap.dictOf_iff.mp hmm
 exact h h' o' (F.change hs hm.2.1 hm.2.2) (N.setIn D₀.split.1 D₀.split.2 hs ho') (Apart.upd D₀).2 hd'
theorem bpop_led {Q:Value→Shared→Prop} (F:Fr h₀ L s.heap m) (N:News h₀ L s.heap (TL w.params A C (X++(d,o)::post))) (D₀:Apart (TL w.params A C (X++(d,o)::post))) (hd:o.IsDictOf (kyKind prog w) kvs) (hkey:(kyKind prog w).is k key=true) (hpart:(keyPart key).isSome=true) (hv:PySem.valueAt kvs k=some v) (hz:kvs.length≤1000)
  (h:∀ h' o',Fr h₀ L h' m→News h₀ L h' (TL w.params A C (X++(d,o')::post))→Apart (TL w.params A C (X++(d,o')::post))→o'.IsDictOf (kyKind prog w) (PySem.without kvs k)→Q v { s with heap:=h',toks:=s.toks+1 }) :
  wpAny (model prog w) Ar (call (.builtin "dict.pop") [.ref d,key]) Q E s:=by
 simp only [tl_mid'] at N D₀ h
 have hm:=N (d,o) (List.mem_append_right _ (.head _))
 have hD:s.heap.DictOf (kyKind prog w) d kvs:=Heap.dictOf_iff.mpr ⟨o,hm.1,hd⟩
 refine call_meetsIn PySem.F.slot_dict_pop hD.typeIs PySem.F.entry_dict_pop (PySem.F.args_dict_pop_2 _ _) (meets_dict_pop_there (kyKind prog w) d hkey [] (.inl rfl) hpart) ⟨kvs,v,hD,by rw [sizeLine_eq]; exact Nat.le_trans hz (nb rfl),hv,fun h' hmm hs=>?_⟩
 obtain ⟨o',ho',hd'⟩:=Heap.dictOf_iff.mp hmm
 exact h h' o' (F.change hs hm.2.1 hm.2.2) (N.setIn D₀.split.1 D₀.split.2 hs ho') (Apart.upd D₀).2 hd'
theorem bmeth {name:Str} {id:String} {pl:Sem Bool} {Q:Value×List Value→Shared→Prop} (slot:Slot "dict" name id) (ty:typeOf (.builtin id)=pure (.type "method_descriptor")) {led:Led} (N:News h₀ L s.heap led) (hp:(d,o)∈led) (hd:o.IsDictOf (kyKind prog w) kvs) (h:Q (.builtin id,[.ref d]) s) :
  wpAny (model prog w) Ar (getMethod (.ref d) name pl) Q E s:=kdl_method slot ty N hp hd h
end
theorem BK.len {kvs:List (Ky×Value)} (h:∀ p∈kvs,BK p.1) (hn:(kvs.map (·.1)).Nodup):kvs.length≤100:=by
 have:(kvs.map fun p=>some p.1).length≤allS.length:=by
  refine nodup_sub _ _ ?_ ?_
  ·have:(kvs.map fun p=>some p.1)=(kvs.map (·.1)).map some:=by rw [List.map_map]; rfl
   rw [this]
   exact List.Pairwise.map some (fun a b hab e=>hab (Option.some.inj e)) hn
  ·intro x hx
   obtain ⟨p,hp,rfl⟩:=List.mem_map.mp hx
   exact allS_mem (h p hp).s0
 have h2:allS.length=33:=by decide
 rw [List.length_map,h2] at this
 exact Nat.le_trans this (nb rfl)
theorem get3 {a b c:Value} {P:Value→Prop} {i:Int} (h0:0≤i) (h1:i < 3) (ha:P a) (hb:P b) (hc:P c):∃ x,[a,b,c][i.toNat]?=some x∧P x:=by
 have:i.toNat=0∨i.toNat=1∨i.toNat=2:=by lia
 rcases this with e | e | e <;> rw [e]
 ·exact ⟨a,rfl,ha⟩
 ·exact ⟨b,rfl,hb⟩
 ·exact ⟨c,rfl,hc⟩
theorem bput_none {kvs:List (Ky×Value)} {k:Ky}:bput kvs k .none=PySem.without (PySem.stored kvs k .none) k:=if_pos rfl
theorem bput_int {kvs:List (Ky×Value)} {k:Ky} {x:Int} {t:Tok}:bput kvs k (.int x t)=PySem.stored kvs k (.int x t):=if_neg (fun h=>nomatch h)
theorem key_part {v:Value} {k:Ky} (h:ky v=some k):(keyPart v).isSome=true:=by
 cases v <;> simp [ky] at h <;> rfl
theorem HE.bytesC {σ:St} {x:List UInt8} {k:Nat} {pos:Pos}:HE σ (.Constant (.bytes x) k pos) fun v l=>(∃ t,v=.bytes x.toArray t)∧l=σ.led :=
 fun z9 z9 z9 s z9 R=>Constant_bytes (HE.out (s:=s) (P:=fun v l=>(∃ t,v=.bytes x.toArray t)∧l=σ.led) R ⟨⟨_,rfl⟩,rfl⟩)
section
variable {c:Cn} {m:NM} {l:Led} {pos:Pos} {o i e:PySem.Expr}
theorem HE.listD {es:List PySem.Expr} {lp:Pos} {P:List Value→Led→Prop} (h:HEs ⟨c,m,l⟩ es P) (hz:∀ vs l',P vs l'→vs.length≤100):HE ⟨c,m,l⟩ (.List es lp) fun v l'=>∃ D vs l0,v=.ref D∧l'=(D,listOf vs.toArray 0)::l0∧P vs l0 :=
 fun z9 z9 z9 s T R=>List_ (h.use T R fun vs z9 z9 l0 p R1=>by
  obtain ⟨nm,F,H⟩:=R1.F
  refine newList_K F R1.N (fun D' h2 F2 N2 lt=>⟨h2,_,m,(D',listOf vs.toArray 0)::l0,rfl,⟨⟨nm,F2,H⟩,N2,R1.D.cons lt⟩,rfl,D',vs,l0,rfl,rfl,p⟩) ?_
  exact Nat.le_trans (hz _ _ p) (nb rfl))
theorem HE.itemH {P Q:Value→Led→Prop} {n:Int} (ho:HE ⟨c,m,l⟩ o P) (hi:∀ l',Ev ⟨c,m,l'⟩ i (.i n)) (hs:noSlice i=true) (h0:0≤n) (h1:n < 2 ^ 63) (k:∀ v l',P v l'→∃ a vs z x,v=.ref a∧(a,listOf (List.toArray vs) z)∈l'∧vs[n.toNat]?=some x∧Q x l'):HE ⟨c,m,l⟩ (.Subscript o i pos) Q:=by
 intro Ar g L s T R
 refine Subscript_ (ho.use T R fun v z9 z9 l' p R1=>(hi l').use T R1 fun z9 z9 z9 ei R2=>?_)
 obtain ⟨a,vs,z,x,rfl,hm,hx,q⟩:=k v l' p
 obtain ⟨t,rfl⟩:=ei
 exact get_list R2.N hm h0 h1 hx (HE.out (s:=s) R2 q) (subs_of hs)
theorem HS.b_set {A:TA} {C:TC} {X post:Led} {d:Addr} {bo:Obj} {kvs:List (Ky×Value)} {k:Ky} {v:Value} {op:Pos} {ss:List Stmt} {K:List (List Stmt)} {Q:Flow→NM→Led→Prop} (hc:noComp e=true) (h:Ev ⟨c,m,TL c.w.params A C (X++(d,bo)::post)⟩ e (.v v)) (ho:Ev ⟨c,m,TL c.w.params A C (X++(d,bo)::post)⟩ o (.v (.ref d))) {V:Vl} (hi:Ev ⟨c,m,TL c.w.params A C (X++(d,bo)::post)⟩ i V)
  (hd:bo.IsDictOf (kyKind MProg c.w) kvs) (hkey:∀ v,V.is v→(kyKind MProg c.w).is k v=true) (hz:kvs.length≤1000) (kk:∀ o',Obj.IsDictOf (kyKind MProg c.w) o' (PySem.stored kvs k v)→HS c (ss::K) m (TL c.w.params A C (X++(d,o')::post)) Q):HS c ((.Assign [.Subscript o i op] e pos::ss)::K) m (TL c.w.params A C (X++(d,bo)::post)) Q :=
 HS.step fun z9 z9 z9 s T R0=>wpAny_Assign_Subscript (h.use T R0 fun z9 z9 z9 hv R1=>ho.use T R1 fun z9 z9 z9 eo R2=>hi.use T R2 fun z9 z9 z9 ei R3=>by
  cases hv; cases eo
  have hkey:=hkey _ ei
  obtain ⟨nm,F,H⟩:=R3.F
  exact bset_led F R3.N R3.D hd hkey hz fun h' o' F' N' D' hd'=>⟨h',_,m,TL c.w.params A C (X++(d,o')::post),rfl,⟨⟨nm,F',H⟩,N',D'⟩,kk o' hd'⟩) (swaps_of hc)
theorem HE.b_pop {A:TA} {C:TC} {X post:Led} {d:Addr} {bo:Obj} {kvs:List (Ky×Value)} {k:Ky} {key v:Value} {ap:Pos} (hc:noCall o=true) (hf:fewOk [e] ap pos=true) (hs:isStar e=false) (ho:Ev ⟨c,m,TL c.w.params A C (X++(d,bo)::post)⟩ o (.v (.ref d))) (he:Ev ⟨c,m,TL c.w.params A C (X++(d,bo)::post)⟩ e (.v key))
  (hd:bo.IsDictOf (kyKind MProg c.w) kvs) (hkey:(kyKind MProg c.w).is k key=true) (hpart:(keyPart key).isSome=true) (hv:PySem.valueAt kvs k=some v) (hz:kvs.length≤1000) :
  HE ⟨c,m,TL c.w.params A C (X++(d,bo)::post)⟩ (.Call (.Attribute o (Str.ofString "pop") ap) [e] [] pos) fun r l'=>r=v∧∃ o',Obj.IsDictOf (kyKind MProg c.w) o' (PySem.without kvs k)∧l'=TL c.w.params A C (X++(d,o')::post):=by
 intro Ar g L s T R0
 refine MethodCall_ (ho.use T R0 fun z9 z9 z9 ev R1=>?_) (meth_any hc (Evs.cons hs he .nil).plain hf)
 cases ev
 refine bmeth PySem.F.slot_dict_pop PySem.F.type_dict_pop R1.N (mem_R (List.mem_append_right _ (.head _))) hd (callWith_method1 (args_cons (he.use T R1 fun z9 z9 z9 hv R2=>args_nil ?_) (star_of hs)) (star_of hs) rfl)
 cases hv
 obtain ⟨nm,F,H⟩:=R2.F
 exact bpop_led F R2.N R2.D hd hkey hpart hv hz fun h' o' F' N' D' hd'=>⟨h',_,m,TL c.w.params A C (X++(d,o')::post),rfl,⟨⟨nm,F',H⟩,N',D'⟩,rfl,rfl,o',hd',rfl⟩
theorem HS.assignP {x:Str} {xp:Pos} {R:Value→Prop} {ss:List Stmt} {K:List (List Stmt)} {Q:Flow→NM→Led→Prop} (j:Nat) (hx:slot c.sh.sc.names j=some (x,.local)) (hc:noComp e=true) (h:HE ⟨c,m,l⟩ e fun v l'=>R v∧l'=l) (k:∀ v,R v→HS c (ss::K) (m.set j (.v v)) l Q):HS c ((.Assign [.Name x xp] e pos::ss)::K) m l Q :=
 HS.assignH j hx hc h fun v l' p=>p.2▸k v p.1
theorem HE.itemT {P:List Value→Prop} {R:Value→Prop} {es:List PySem.Expr} {lp:Pos} {n:Int} (h:HEs ⟨c,m,l⟩ es fun vs l'=>P vs∧l'=l) (hi:∀ l',Ev ⟨c,m,l'⟩ i (.i n)) (hs:noSlice i=true) (h0:0≤n) (h1:n < 2 ^ 63) (k:∀ vs,P vs→vs.length≤100∧∃ x,vs[n.toNat]?=some x∧R x):HE ⟨c,m,l⟩ (.Subscript (.List es lp) i pos) fun v l'=>R v∧l'=l :=
 HE.fin (P:=fun v l'=>∃ D o,l'=(D,o)::l∧R v) (HE.itemH (HE.listD h fun vs l' p=>(k vs p.1).1) hi hs h0 h1 fun v l' ⟨D,vs,l0,e1,e2,p,e3⟩=>by
  subst e1 e2 e3
  obtain ⟨_,x,hx,r⟩:=k vs p
  exact ⟨D,vs,0,x,rfl,.head _,hx,D,_,rfl,r⟩) fun v l' ⟨D,o,e,r⟩=>⟨[(D,o)],l,e▸.refl _,r,rfl⟩
end
section
theorem spec_done_bes (A:TA) (C:TC) (ra ba:Addr) (row:List Int) (rv:List Value) (re:Nat) (kvs:List (Ky×Value)) (bo:Obj) (p1 p2 p3:Array Value) (J Z:Led) (number:Int) (tn:Tok)
  (hz:∀ p∈Z,p∈J) (K:LawOk w C row rv kvs bo p1 p2 p3 Z) (hf:number.fmod 8=7) :
  Spec w mean mg mb (.ref 550) [.ref A.t,.ref ra,.ref ba,.int number tn] 100 (LL w.params A C ra ba rv re bo p1 p2 p3 J) (fun r l=>r=.bool true∧Left3 w A ra ba Z J l):=by
 have hlz:rv.length < 2 ^ 62:=by have:=K.rowv.length; have:=K.held.len; exact lq [_,_] [] [.e Nq Nr,.l Nr (.k 24)] (.t Nq (.k 4611686018427387904)) [[11010]] rfl (by assumption) this
 have hbz:=BK.len K.held.bk K.held.bn
 have hdict:=K.dict
 refine Spec.enterCH (cm:=upd (fun z9=>none) "t" (.ref A.t)) (cl:=fun L=>[("t",L+1)]) (by k_is) (by k_is) (fun s X=>BindsTo.of_eq rfl) rfl (by decide) (by first | exact .cons sl3 rfl (.cons sl2 rfl (.cons sl1 rfl .nil)) | exact .cons sl2 rfl (.cons sl1 rfl .nil)) (by first | exact bc_of (l:=[(_,_),(_,_),(_,_),(_,_)]) rfl (fun y=>rfl) | exact bc_of (l:=[(_,_),(_,_),(_,_)]) rfl (fun y=>rfl)) (fun L=>rfl) rfl rfl rfl (by kernel_rfl) hap_one ?_
 intro L₁ cells Y
 obtain ⟨ct,rfl,hct⟩:=CellsAre.one Y
 rw [show upd (fun z9=>none) "t" (.ref A.t) "t"=some (.ref A.t) from upd_hit] at hct
 clear Y
 refine HS.perm tl_in.symm ?_
 refine HS.assign2 4 5 sl4 sl5 (fun z9=>rfl) rfl rfl (Ev.bin (Ev.nameI 3 sl3 rfl) Ev.int (IOp.mod (by decide))) (Ev.bin (Ev.nameI 3 sl3 rfl) Ev.int (IOp.fdiv (by decide) (by decide))) (HS.ite (EvT.and (EvT.cmp (Ev.name 4 sl4 rfl) Ev.int ICmp.lt rfl) (fun z9=>(EvT.cmp (Ev.callB rfl (Ev.blt 10 sl10 (by k_is) (by boot_by_name) (by kernel_rfl)) (Evs.cons rfl (Ev.name 1 sl1 rfl) Evs.nil) (CT.len (mem_R (.tail _ (.tail _ (.tail _ (.tail _ List.mem_cons_self))))) hlz)) Ev.int ICmp.lt rfl))) (fun z9=>(False.elim (by exact lq [_] [_] [.eq Zq (.k 7),.an (.lt Zq (.k 3)) (.lt Nq (.k 24))] .f [[101100]] rfl hf z9))) (fun z9=>(HS.nil (HS.ite (EvT.cmp (Ev.name 4 sl4 rfl) Ev.int ICmp.eq rfl) (fun z9=>(False.elim (by exact lq [] [_] [.eq Zq (.k 7),.eq Zq (.k 3)] .f [[101100]] rfl hf z9))) (fun z9=>(HS.nil (HS.ite (EvT.cmp (Ev.name 4 sl4 rfl) Ev.int ICmp.eq rfl) (fun z9=>(False.elim (by exact lq [] [_] [.eq Zq (.k 7),.eq Zq (.k 4)] .f [[101100]] rfl hf z9))) (fun z9=>(HS.nil (HS.ite (EvT.cmp (Ev.name 4 sl4 rfl) Ev.int ICmp.eq rfl) (fun z9=>?_) (fun z9=>(False.elim (by contradiction)))))))))))))
 have hT:=K.held.tab
 refine HS.assignP (R:=fun v=>∃ k,ky v=some k∧okKey v∧BK k) _ (by (exact sl9)) rfl (HE.ite (by exact EvT.cmp (Ev.bin (Ev.name 5 sl5 rfl) Ev.int (IOp.mod (by decide))) Ev.int ICmp.eq rfl) (fun z9=>?_) (fun z9=>?_)) ?_
 ·obtain ⟨c1,c2⟩:=fmod_in (a:=number.fdiv 8) (b:=5) (by exact Int.natCast_nonneg _)
  refine Ev.toHE (V:=.i (0 - (number.fdiv 8).fmod 5)) (by exact Ev.bin Ev.int (Ev.bin (Ev.name 5 sl5 rfl) Ev.int (IOp.mod (by decide))) IOp.sub) ?_
  rintro _ ⟨t,rfl⟩
  exact ⟨⟨.i _,rfl,trivial,by exact lq [] [_] [.lt Zq (.k 5)] (.le (.g (.k 4)) (.s Kq Zq)) [] rfl c2,by exact lq [] [_] [.le Kq Zq] (.le (.s Kq Zq) Kq) [] rfl c1⟩,rfl⟩
 ·obtain ⟨c1,c2⟩:=fmod_in (a:=(number.fdiv 8).fdiv 2) (b:=3) (by exact Int.natCast_nonneg _)
  refine HE.itemT (n:=((number.fdiv 8).fdiv 2).fmod 3) (P:=fun vs=>∃ t1 t2 t3,vs=[.bytes [120].toArray t1,.bytes [107,101,121].toArray t2,.bytes [].toArray t3]) (HEs.cons rfl HE.bytesC ?_) (fun z9=>by (exact (Ev.bin (Ev.bin (Ev.name 5 sl5 rfl) Ev.int (IOp.fdiv (by decide) (by decide))) Ev.int (IOp.mod (by decide))))) rfl c1 (by exact Int.lt_of_lt_of_le c2 (by decide)) ?_
  ·rintro _ _ ⟨⟨t1,rfl⟩,rfl⟩
   refine HEs.cons rfl HE.bytesC ?_
   rintro _ _ ⟨⟨t2,rfl⟩,rfl⟩
   refine HEs.cons rfl HE.bytesC ?_
   rintro _ _ ⟨⟨t3,rfl⟩,rfl⟩
   exact HEs.nil ⟨⟨_,_,_,rfl⟩,rfl⟩
  ·rintro _ ⟨t1,t2,t3,rfl⟩
   exact ⟨Nat.le_of_ble_eq_true rfl,get3 (P:=fun v=>∃ k,ky v=some k∧okKey v∧BK k) c1 c2 ⟨_,rfl,Nat.le_of_ble_eq_true rfl,.inl rfl⟩ ⟨_,rfl,Nat.le_of_ble_eq_true rfl,.inr (.inl rfl)⟩ ⟨_,rfl,Nat.le_of_ble_eq_true rfl,.inr (.inr rfl)⟩⟩
 rintro kv ⟨k,hk,hok,hbk⟩
 refine HS.assignP (R:=fun v=>v=.none∨∃ x t,v=.int x t) _ (by (exact sl7)) rfl (HE.ite (by exact EvT.cmp (Ev.bin (Ev.bin (Ev.name 5 sl5 rfl) Ev.int (IOp.fdiv (by decide) (by decide))) Ev.int (IOp.mod (by decide))) Ev.int ICmp.eq rfl) (fun z9=>Ev.toHE (V:=.v .none) (by (exact Ev.none)) fun v hv=>⟨.inl hv,rfl⟩) (fun z9=>Ev.toHE (V:=.i ((number.fdiv 8).fmod 7)) (by exact Ev.bin (Ev.name 5 sl5 rfl) Ev.int (IOp.mod (by decide))) fun v ⟨t,hv⟩=>⟨.inr ⟨_,t,hv⟩,rfl⟩)) ?_
 rintro v hv
 have hvv:isV v:=by rcases hv with rfl | ⟨x,t,rfl⟩ <;> trivial
 refine HS.expr rfl (HE.meth (by exact Ev.cell 0 sl0 rfl (mem_R (.tail _ List.mem_cons_self)) hct) InsAt.tab (by (exact ⟨by k_is,by k_is,by k_is,by k_is⟩)) rfl rfl (by exact Evs.cons rfl (Ev.name 9 sl9 rfl) (Evs.cons rfl (Ev.name 7 sl7 rfl) (Evs.cons rfl Ev.none Evs.nil))) (nb rfl) (spec_set A C _ kv v k hT hok hk hvv hbk.s0)) ?_
 rintro _ _ ⟨rfl,C',rfl,hU⟩
 have hkey:(kyKind MProg w).is k kv=true:=by show decide (ky kv=some k)=true; simpa using hk
 have hz2:=PySem.stored_length_le kvs k v
 have hput:=K.held.put hbk hv hU
 refine HS.b_set (X:=[_,_,_,_,_]) rfl (by exact Ev.name 7 sl7 rfl) (by exact Ev.name 2 sl2 rfl) (V:=.v kv) (by exact Ev.name 9 sl9 rfl) hdict (fun v hv=>(show v=kv from hv)▸hkey) (by exact Nat.le_trans hbz (nb rfl)) fun o' hd'=>?_
 rcases hv with rfl | ⟨x,t,rfl⟩
 ·rw [bput_none] at hput
  refine HS.ite (Ev.isNone (Ev.name 7 sl7 rfl)) (fun z9=>?_) (fun z9=>(False.elim (by contradiction)))
  refine HS.expr rfl (HE.b_pop (X:=[_,_,_,_,_]) rfl rfl rfl (by exact Ev.name 2 sl2 rfl) (by exact Ev.name 9 sl9 rfl) hd' hkey (key_part hk) (value_stored.trans (if_pos rfl)) (by exact lq [_,_] [] [.l Nq (.k 100),.l Nr (.a Nq Kr)] (.l Nr (.k 1000)) [] rfl hbz hz2)) ?_
  rintro _ _ ⟨rfl,o2,hd2,rfl⟩
  refine HS.drop (r:=[(L₁+1,ct)]) (l':=LL w.params A C' ra ba rv re o2 p1 p2 p3 J) tl_in ?_
  refine HS.nil (HS.ret Ev.bool ?_)
  rintro _ rfl
  exact ⟨rfl,C',row,_,_,_,o2,p1,p2,p3,[],rfl,hput,K.rowv,hd2,K.t1,K.t2,K.t3⟩
 ·rw [bput_int] at hput
  refine HS.drop (r:=[(L₁+1,ct)]) (l':=LL w.params A C' ra ba rv re o' p1 p2 p3 J) tl_in ?_
  refine HS.ite (Ev.isNone (Ev.name 7 sl7 rfl)) (fun z9=>(False.elim (by contradiction))) (fun z9=>(HS.nil (HS.ret Ev.bool ?_)))
  rintro _ rfl
  exact ⟨rfl,C',row,_,_,_,o',p1,p2,p3,[],rfl,hput,K.rowv,hd',K.t1,K.t2,K.t3⟩
end
theorem reads_ints {h:Heap} {vs:List Value} {ns:List Int} (hi:IntsAre vs ns):ReadsAll h vs (ns.map PyData.int) []:=by
 induction hi with
 | nil=>exact .nil
 | cons k t r ih=>exact ReadsAll.cons (as:=[]) (Reads.int k t) ih
theorem reads_row {h:Heap} {vs:List Value} {ns:List Int} (hi:IntsAre vs ns):ReadsAll h (vs++[.none]) (ns.map PyData.int++[PyData.none]) []:=by
 induction hi with
 | nil=>exact ReadsAll.cons (as:=[]) Reads.none .nil
 | cons k t r ih=>exact ReadsAll.cons (as:=[]) (Reads.int k t) ih
theorem lay_row:∀ ns:List Int,PyData.canLayAll0 (ns.map PyData.int++[PyData.none])=true
 | []=>rfl
 | n::r=>by
  show (PyData.canLay0 (.int n) && PyData.canLayAll0 (r.map PyData.int++[PyData.none]))=true
  rw [lay_row r]; rfl
theorem depth_row:∀ ns:List Int,PyData.depthAll (ns.map PyData.int++[PyData.none])=0
 | []=>rfl
 | n::r=>by
  show max (PyData.depth (.int n)) (PyData.depthAll (r.map PyData.int++[PyData.none]))=0
  rw [depth_row r]; rfl
theorem canLay_row (ns:List Int):(PyData.list (ns.map PyData.int++[PyData.none])).canLay0=true:=lay_row ns
theorem shaped_row (ns:List Int):SeqAt.shaped (.list (ns.map PyData.int++[PyData.none]))=true:=by
 unfold SeqAt.shaped
 rw [canLay_row]
 have:PyData.depth (.list (ns.map PyData.int++[PyData.none]))=PyData.depthAll (ns.map PyData.int++[PyData.none])+1:=rfl
 rw [this,depth_row]
 rfl
theorem ints_range:∀ {row:List Int} {f:Nat→Value},(∀ (j:Nat) (h:j < row.length),∃ t,f j=.int row[j] t)→IntsAre ((List.range row.length).map f) row
 | [],_,_=>.nil
 | x::r,f,h=>by
  obtain ⟨t,e⟩:=h 0 (Nat.succ_pos _)
  have:=ints_range (row:=r) (f:=fun j=>f (j+1)) (fun j hj=>by
   obtain ⟨t,e⟩:=h (j+1) (Nat.succ_lt_succ hj)
   exact ⟨t,by simpa using e⟩)
  rw [List.length_cons,List.range_succ_eq_map,List.map_cons,List.map_map,e]
  exact .cons x t this
section
variable {prog:Program} {w:World} {Ar:Around} {E:Value→Shared→Prop} {s:Shared} {h₀:Heap} {L:Addr} {m:Names} {led:Led} {Q:Value→Shared→Prop}
theorem ne_row {a b:Addr} {us vs:List Value} {n n':Nat} {row:List Int} (N:News h₀ L s.heap led) (h1:(a,listOf (us++[Value.none]).toArray n)∈led) (h2:(b,listOf (vs++[Value.none]).toArray n')∈led) (hi:IntsAre us row) (hj:IntsAre vs row)
  (hu:Ar.units+64 < cLine) (h:Q (.bool false) s):wpAny (model prog w) Ar (compareOp .NotEq (.ref a) (.ref b)) Q E s :=
 ne_dataH (Reads.list (N _ h1).1 rfl rfl (reads_row hi)) (Reads.list (N _ h2).1 rfl rfl (reads_row hj)) (shaped_row _) (shaped_row _) hu (by rw [SeqAt.eqv_refl _ (canLay_row _)]; exact h)
theorem add_led {a b:Addr} {us vs:List Value} {n n':Nat} (F:Fr h₀ L s.heap m) (N:News h₀ L s.heap led) (D:Apart led) (h1:(a,listOf us.toArray n)∈led) (h2:(b,listOf vs.toArray n')∈led) (hz:us.length+vs.length≤1000)
  (h:∀ c h',Fr h₀ L h' m→News h₀ L h' ((c,listOf (us++vs).toArray 0)::led)→Apart ((c,listOf (us++vs).toArray 0)::led)→Q (.ref c) { s with heap:=h' }):wpAny (model prog w) Ar (binaryOp .Add (.ref a) (.ref b)) Q E s :=
 add_lists F N (PySem.IsL.isList (N _ h1).1) (PySem.IsL.isList (N _ h2).1) (fun h' F' N'=>h _ h' F' N' (D.cons fun q hq=>Heap.lt_size (N q hq).1)) (by rw [sizeLine_eq]; exact Nat.le_trans hz (nb rfl))
end
theorem lk_list_keys:typeLookup (.type "list") "keys"=pure none:=by rw [typeLookup_type,builtinLookup_eq_fast]; kernel_rfl
theorem entry_upd_loop:entryFor table "dict.update.loop"=some Builtin.«dict.update.loop»:=entryFor_of_tree (by kernel_rfl)
theorem plain_upd_loop:plainId "dict.update.loop"=true:=by decide +kernel
section
variable {prog:Program} {w:World} {A:Around} {E:Value→Shared→Prop} {s:Shared}
theorem no_keys {a:Addr} {xs:Array Value} {k:Nat} {Q:Option Value→Shared→Prop} (hx:s.heap.get? a=some { cls:=.type "list",dict:=none,data:=.seq xs k,slots:=#[] }) (hA:A.handled=none)
  (h:∀ h' tk,(∀ b o,s.heap.get? b=some o→h'.get? b=some o)→Q none { s with heap:=h',toks:=tk }):wpAny (model prog w) A (getAttr? (.ref a) "keys") Q E s:=by
 obtain ⟨hp,g,d,tk,os⟩:=s
 have hT:∀ tk',(⟨hp,g,d,tk',os⟩:Shared).TypeIs (.ref a) "list":=fun z9=>⟨_,hx,rfl⟩
 have f1:=sub_AttributeError
 have f3:=F.slot_list_getattribute.lookup
 have f4:=F.slot_list_getattribute.bind (.ref a)
 have f5:=am_list_getattr_none
 unfold getAttr? getAttrBy? getAttrBy
 repeat (any_goals (first | assumption | exact hT _ | ((with_reducible show wpAny _ _ (call (Value.builtin "list.__getattribute__") _ _) _ _ _); refine call_meets F.slot_list_getattribute (hT _) am_entry_list_getattribute (F.args_list_getattribute_2 _ _) (meets_getattribute_miss_list a xs k #[] "keys" _ lk_list_keys (by decide +kernel)) ⟨hx,hA,fun h' tk' e hx'=>?_⟩) | wp_step))
 obtain ⟨t',u',he⟩:=hx'.there
 show wpAny _ _ (getattributeRaised _ _ _ _ _ _ _) _ _ _
 unfold getattributeRaised
 repeat (any_goals (first | assumption | wp_step))
 exact h _ _ hx'.keeps
end
section
variable {prog:Program} {w:World} {K:Type} [DecidableEq K] {knd:KeyKind prog w K} {A:Around} {E:Value→Shared→Prop} {s:Shared} {R:Result→Shared→Prop} {kvs:List (K×Value)}
theorem stored_snoc {kvs:List (K×Value)} {k:K} {v:Value} (h:k ∉ kvs.map (·.1)):stored kvs k v=kvs++[(k,v)]:=by
 unfold stored
 rw [if_neg]
 intro ha
 obtain ⟨kv,hkv,he⟩:=List.any_eq_true.mp ha
 exact h (List.mem_map.mpr ⟨kv,hkv,of_decide_eq_true he⟩)
theorem pairs_loop {B I S:Addr} {c:Nat} {as:List Addr} (hh:A.handled=none) (hBI:B≠I) (hBS:B≠S) (hIS:I≠S) (hn:kvs.length≤sizeLine) (hnd:(kvs.map (·.1)).Nodup) {h₁:Heap}
  (hl:as.length=kvs.length) (hB:h₁.get? B=some { cls:=.type "list",dict:=none,data:=.seq (as.map Value.ref).toArray c,slots:=#[] }) (hG:KdxG knd kvs B h₁ as) (ha:∀ a∈as,a≠I∧a≠S)
  (hR:∀ h' tk,(∀ b o,b≠S→b≠I→h₁.get? b=some o→h'.get? b=some o)→h'.DictOf knd S kvs→R (.ok (.ret .none)) { s with heap:=h',toks:=tk }) :
  ∀ (k i:Nat) (h:Heap) (tk:Nat) (u:Tok),kvs.length - i=k→i≤kvs.length→h.IsListIter I B i→h.DictOf knd S (kvs.take i)→(∀ b o,b≠S→b≠I→h₁.get? b=some o→h.get? b=some o) →
   codeAny (model prog w) A (.builtin "dict.update.loop" ⟨[.ref S,.ref I,.int i u,.none],[]⟩) R { s with heap:=h,toks:=tk }:=by
 intro k
 induction k with
 | zero =>
  intro i h tk u hk hi hit hD hkeep
  have hin:i=kvs.length:=by exact lq [_,_,_] [] [.e Nq Kq,.l Ns Nr,.sb 0 Nr Ns] (.e Ns Nr) [[0,1100010],[1001000,1010000]] rfl hk hi rfl
  refine codeAny_builtin entry_upd_loop ?_
  rw [Around.under_plainId plain_upd_loop _]
  show wpAny _ A.in1 (pyNext (.ref I) >>= _) _ _ _
  refine wpAny_bind (wpAny_pyNext_list_end (A:=A.in1) (s:={ s with heap:=h,toks:=tk }) (items:=(as.map Value.ref).toArray) hh hit ⟨_,hkeep B _ hBS hBI hB,rfl,_,rfl⟩ (by simp; lia) fun h' he=>?_)
  show wpAny _ A.in1 (Builtin.Dict.addKeywords S [] >>= _) _ _ _
  refine wpAny_bind (wpAny_pure (wpAny_pure ?_))
  rw [hin,List.take_length] at hD
  exact hR h' tk (fun b o h1 h2 e=>he b o h2 (hkeep b o h1 h2 e)) (hD.extBut he (Ne.symm hIS))
 | succ k ih =>
  intro i h tk u hk hi hit hD hkeep
  have hlt:i < kvs.length:=by lia
  have hlt':i < as.length:=by exact hl▸hlt
  obtain ⟨key,kk,x,hx,hkey,hT⟩:=hG.pairs i as[i] (List.getElem?_eq_getElem hlt')
  obtain ⟨n1,n2⟩:=ha as[i] (List.getElem_mem hlt')
  refine codeAny_builtin entry_upd_loop ?_
  rw [Around.under_plainId plain_upd_loop _]
  show wpAny _ A.in1 (pyNext (.ref I) >>= _) _ _ _
  refine wpAny_bind (wpAny_pyNext_list_item (A:=A.in1) (s:={ s with heap:=h,toks:=tk }) (items:=(as.map Value.ref).toArray) (x:=.ref as[i]) hit ⟨_,hkeep B _ hBS hBI hB,rfl,_,rfl⟩ (by simp [hlt']) fun h' hit' hs=>?_)
  dsimp only at hs ⊢
  have hT':=(hs.2 _ n1).trans (hkeep as[i] _ n2 n1 hT)
  refine wpAny_bind (wpAny_holding ?_)
  refine wpAny_bind (wpAny_tryCatch ?_)
  unfold Builtin.Dict.pairItems
  refine wpAny_bind (wpAny_typeOf (T:="tuple") ⟨_,hT',rfl⟩ ?_)
  rw [if_pos (by decide)]
  refine wpAny_bind (wpAny_seqItems hT' rfl (wpAny_pure ?_))
  show wpAny _ A.in1 (holding [key,x] (dictSet S key x)) _ _ _
  have hD':=hD.sameBut hs (Ne.symm hIS)
  refine wpAny_holding (wpAny_dictSet_pairs (s:={ s with heap:=h',toks:=tk }) hkey hD' (fun h2 hD2 hs2=>?_) (by rw [List.length_take]; exact Nat.le_trans (Nat.min_le_right _ _) hn))
  refine wpAny_pure ⟨plainId_quiet plain_upd_loop _,?_⟩
  have hnk:kk ∉ (kvs.take i).map (·.1):=by
   intro hm
   rw [List.map_take] at hm
   obtain ⟨j,hj,e⟩:=List.mem_take_iff_getElem.mp hm
   have hi':i < (kvs.map (·.1)).length:=by rw [List.length_map]; exact hlt
   have e2:(kvs.map (·.1))[i]=kk:=by
    rw [List.getElem_map]
    rw [List.getElem?_eq_getElem hlt] at hx
    rw [Option.some.inj hx]
   have:=(List.getElem_inj hnd).mp (e.trans e2.symm)
   exact lq [_,_,_,_] [] [.t Nq Nr,.e Nq Ns,.mi 1 Ns (.n 3)] .f [[10011010],[11011010]] rfl hj this rfl
  rw [stored_snoc hnk] at hD2
  have e3:kvs.take i++[(kk,x)]=kvs.take (i+1):=by
   rw [List.take_add_one,hx]; rfl
  rw [e3] at hD2
  refine ih (i+1) h2 (tk+1) 0 (by exact congrArg Nat.pred hk) hlt ?_ hD2 ?_
  ·exact hit'.extBut hs2.extBut hIS
  ·intro b o h1 h2' e
   exact (hs2.2 _ h1).trans ((hs.2 _ h2').trans (hkeep b o h1 h2' e))
theorem dict_pairs {B:Addr} {c:Nat} {as:List Addr} {Q:Value→Shared→Prop} (hh:A.handled=none) (hn:kvs.length≤sizeLine) (hnd:(kvs.map (·.1)).Nodup)
  (hl:as.length=kvs.length) (hB:s.heap.get? B=some { cls:=.type "list",dict:=none,data:=.seq (as.map Value.ref).toArray c,slots:=#[] }) (hG:KdxG knd kvs B s.heap as)
  (h:∀ h' tk,(∀ b o,s.heap.get? b=some o→h'.get? b=some o)→h'.DictOf knd s.heap.objs.size kvs→Q (.ref s.heap.objs.size) { s with heap:=h',toks:=tk }) :
  wpAny (model prog w) A (call (.type "dict") [.ref B]) Q E s:=by
 refine callType_codes (Q₁:=fun obj s₁=>obj=.ref s.heap.objs.size∧s₁={ s with heap:=s.heap.push { cls:=.type "dict",data:=.dict #[] } }) F.kt_called_dict (F.kt_typeCall_dict_1 _) F.entry_dict_init (kt_code_dict_new _ ⟨rfl,rfl⟩) ?_
 rintro obj s₁ ⟨rfl,rfl⟩
 have hnew:(s.heap.push { cls:=.type "dict",data:=.dict #[] }).DictOf knd s.heap.objs.size []:=Heap.DictOf.new s.heap
 have hBl:=Heap.lt_size hB
 have hB':=Heap.get?_push_of_some { cls:=.type "dict",data:=.dict #[] } hB
 have hTB:Shared.TypeIs { s with heap:=s.heap.push { cls:=.type "dict",data:=.dict #[] } } (.ref B) "list":=⟨_,hB',rfl⟩
 refine ⟨hnew.typeIs,F.args_dict_init_2 _ _,?_⟩
 unfold Builtin.«dict.__init__»
 refine wpAny_bind ?_
 unfold Builtin.Dict.selfAndRest
 refine wpAny_bind (wpAny_notOrdered_dict hnew.typeIs ?_)
 show wpAny _ _ (pure (s.heap.objs.size,[Value.ref B])) _ _ _
 refine wpAny_pure ?_
 show wpAny _ _ (Builtin.Dict.updateFrom "dict.__init__" s.heap.objs.size (.ref B) [] .none) _ _ _
 unfold Builtin.Dict.updateFrom
 refine wpAny_bind (wpAny_typeOf hTB ?_)
 rw [if_pos (by decide)]
 refine wpAny_bind (no_keys (A:=A.in1.in1) hB' hh fun h1 tk1 hk1=>?_)
 simp only [Option.isNone_none,if_true]
 refine wpAny_bind (wpAny_rule ?_)
 refine wpAny_bind (wpAny_pyIter_list (items:=(as.map Value.ref).toArray) ⟨_,hk1 _ _ hB',rfl,_,rfl⟩ ?_)
 refine wpAny_pure ⟨plainId_quiet plain_upd_loop _,?_⟩
 dsimp only
 have hS1:=hk1 _ _ (Heap.get?_push_size s.heap (o:={ cls:=.type "dict",data:=.dict #[] }) rfl)
 have hSlt:s.heap.objs.size < h1.objs.size:=Heap.lt_size hS1
 have hlift:∀ b o,s.heap.get? b=some o→(h1.push { cls:=.type "list_iterator",data:=.fields #[.ref B,.int 0 0] }).get? b=some o:=fun b o e=>Heap.get?_push_of_some _ (hk1 _ _ (Heap.get?_push_of_some _ e))
 refine pairs_loop (A:=A.in1) (kvs:=kvs) (knd:=knd) (s:=s) (h₁:=h1.push { cls:=.type "list_iterator",data:=.fields #[.ref B,.int 0 0] }) (B:=B) (I:=h1.objs.size) (S:=s.heap.objs.size) (c:=c) (as:=as) hh (Nat.ne_of_lt (Nat.lt_trans hBl hSlt)) (Nat.ne_of_lt hBl) (Nat.ne_of_gt hSlt) hn hnd hl (hlift _ _ hB) ⟨hG.rise,hG.above,fun j a hj=>?_⟩ (fun a ha=>?_) (fun h' tk hk hD=>?_) kvs.length 0 _ _ 0 (Nat.sub_zero _) (Nat.zero_le _) ⟨_,Heap.get?_push_size _ rfl,rfl,rfl⟩ ?_ (fun b o z9 z9 e=>e)
 ·obtain ⟨key,k,x,e1,e2,e3⟩:=hG.pairs j a hj
  exact ⟨key,k,x,e1,e2,hlift _ _ e3⟩
 ·have:=hG.there ha
  exact ⟨Nat.ne_of_lt (Nat.lt_trans this hSlt),Nat.ne_of_lt this⟩
 ·exact ⟨rfl,h h' tk (fun b o e=>hk b o (Nat.ne_of_lt (Heap.lt_size e)) (Nat.ne_of_lt (Nat.lt_trans (Heap.lt_size e) hSlt)) (hlift _ _ e)) hD⟩
 ·rw [List.take_zero]
  obtain ⟨o,es,ep,ho,r⟩:=hnew
  exact ⟨o,es,ep,Heap.get?_push_of_some _ (hk1 _ _ ho),r⟩
end
section
variable {prog:Program} {w:World} {K:Type} [DecidableEq K] {knd:KeyKind prog w K} {A:Around} {E:Value→Shared→Prop} {s:Shared} {h₀:Heap} {L:Addr} {m:Names} {led:Led} {kvs:List (K×Value)} {d B:Addr} {od:Obj} {as:List Addr} {c:Nat} {Q:Value→Shared→Prop}
noncomputable def viewObj (d:Addr):Obj:={ cls:=.type "dict_items",data:=.fields #[.ref d] }
theorem view_led (F:Fr h₀ L s.heap m) (N:News h₀ L s.heap led) (hm:(d,od)∈led) (hod:od.IsDictOf knd kvs) (lo:(d == sysModules)=false)
  (h:∀ V h',Fr h₀ L h' m→News h₀ L h' ((V,viewObj d)::led)→Q (.ref V) { s with heap:=h' }):wpAny (model prog w) A (call (.builtin "dict.items") [.ref d]) Q E s :=
 kdx_view F N hm hod lo fun V h' F' N' z9=>h V h' F' N'
theorem list_view {V:Addr} (hh:A.handled=none) (F:Fr h₀ L s.heap m) (N:News h₀ L s.heap ((V,viewObj d)::led)) (hm:(d,od)∈led) (hod:od.IsDictOf knd kvs) (hn:kvs.length≤1000)
  (h:∀ B h' tk as c,Fr h₀ L h' m→News h₀ L h' ((B,listOf (as.map Value.ref).toArray c)::led)→as.length=kvs.length→KdxG knd kvs B h' as→Q (.ref B) { s with heap:=h',toks:=tk }) :
  wpAny (model prog w) A (call (.type "list") [.ref V]) Q E s:=by
 obtain ⟨ep,hat⟩:=KdkAt.of hod
 refine kdx_call (knd:=knd) (kvs:=kvs) (ep:=ep) hh ⟨_,(N _ (.head _)).1,rfl,rfl⟩ (hat.dictAt (N _ (.tail _ hm)).1) (by rw [sizeLine_eq]; exact Nat.le_trans hn (nb rfl)) fun h' tk acc c as hk hS hl hG hacc=>?_
 have ea:acc=(as.map Value.ref).toArray:=by rw [← hacc,Array.toArray_toList]
 refine h _ h' tk as c (F.keeps hk) (fun q hq=>?_) hl hG
 rcases List.mem_cons.mp hq with rfl | hq
 ·exact ⟨by rw [← ea]; exact hS,kdx_fresh F (Nat.le_refl _)⟩
 ·exact ⟨hk _ _ (N q (.tail _ hq)).1,(N q (.tail _ hq)).2⟩
theorem dict_led (hh:A.handled=none) (F:Fr h₀ L s.heap m) (N:News h₀ L s.heap ((B,listOf (as.map Value.ref).toArray c)::led)) (D:Apart led) (hbig:h₀.NoLimit) (hl:as.length=kvs.length) (hG:KdxG knd kvs B s.heap as) (hn:kvs.length≤1000) (hnd:(kvs.map (·.1)).Nodup)
  (h:∀ S o h' tk,Fr h₀ L h' m→News h₀ L h' ((S,o)::led)→Apart ((S,o)::led)→(S == sysModules)=false→o.IsDictOf knd kvs→Q (.ref S) { s with heap:=h',toks:=tk }) :
  wpAny (model prog w) A (call (.type "dict") [.ref B]) Q E s:=by
 refine dict_pairs (knd:=knd) (kvs:=kvs) hh (by rw [sizeLine_eq]; exact Nat.le_trans hn (nb rfl)) hnd hl (N _ (.head _)).1 hG fun h' tk hk hD=>?_
 obtain ⟨o,ho,hd⟩:=Heap.dictOf_iff.mp hD
 refine h _ o h' tk (F.keeps hk) (fun q hq=>?_) (D.cons fun q hq=>Heap.lt_size (N q (.tail _ hq)).1) (F.notModules (modules_low hbig)) hd
 rcases List.mem_cons.mp hq with rfl | hq
 ·exact ⟨ho,kdx_fresh F (Nat.le_refl _)⟩
 ·exact ⟨hk _ _ (N q (.tail _ hq)).1,(N q (.tail _ hq)).2⟩
end
theorem key_gives {y x:Value} {a k:Ky} (h1:ky y=some a) (h2:ky x=some k):MeetsSeq.EqGives y x (decide (a=k)):=fun prog w A E s Q h =>
 (kyKind prog w).eqBool (by show decide (ky y=some a)=true; simpa using h1) (by show decide (ky x=some k)=true; simpa using h2) h
theorem keys_in {prog:Program} {w:World} {A:Around} {E:Value→Shared→Prop} {s:Shared} {h₀:Heap} {L l:Addr} {led:Led} {vs:List Value} {e:Nat} {x:Value} {k:Ky} {ks:List Ky} {Q:Value→Shared→Prop} (N:News h₀ L s.heap led) (hm:(l,listOf vs.toArray e)∈led)
  (hk:vs.map ky=ks.map some) (hx:ky x=some k) (hn:k ∉ ks) (h:Q (.bool false) s):wpAny (model prog w) A (compareOp .In x (.ref l)) Q E s:=by
 have hall:∀ y∈vs.toArray,∃ a,ky y=some a∧a≠k:=by
  intro y hy
  have:ky y∈ks.map some:=hk▸List.mem_map_of_mem (List.mem_toArray.mp hy)
  obtain ⟨a,ha,e⟩:=List.mem_map.mp this
  exact ⟨a,e.symm,fun q=>hn (q▸ha)⟩
 refine SeqRoads2.in_list (fun z9=>false) (fun y hy=>?_) (N _ hm).1 ?_
 ·obtain ⟨a,ha,hne⟩:=hall y hy
  have:=key_gives ha hx
  rwa [decide_eq_false hne] at this
 ·rw [show vs.toArray.any (fun z9=>false)=false by simp]
  exact h
structure LeftAt (row:List Int) (kvs:List (Ky×Value)) (i:Nat) (lf:List (Ky×Value)):Prop where
 nd:(lf.map (·.1)).Nodup
 len:lf.length≤kvs.length+i
 at':∀ (j:Nat) (h:j < row.length),j < i→∃ t,PySem.valueAt lf (.i ((j:Int)+1))=some (.int row[j] t)
 oth:∀ k,(∀ j:Nat,j < i→k≠.i ((j:Int)+1))→PySem.valueAt lf k=PySem.valueAt kvs k
theorem LeftAt.zero {row:List Int} {kvs:List (Ky×Value)} (hn:(kvs.map (·.1)).Nodup):LeftAt row kvs 0 kvs:=⟨hn,by simp,fun z9 z9 h=>absurd h (Nat.not_lt_zero _),fun z9 z9=>rfl⟩
theorem LeftAt.step {row:List Int} {kvs lf:List (Ky×Value)} {i:Nat} {t:Tok} (H:LeftAt row kvs i lf) (h:i < row.length):LeftAt row kvs (i+1) (PySem.stored lf (.i ((i:Int)+1)) (.int row[i] t)):=by
 refine ⟨nodup_stored H.nd _ _,?_,fun j hj hji=>?_,fun k hk=>?_⟩
 ·have:=PySem.stored_length_le lf (.i ((i:Int)+1)) (.int row[i] t)
  have:=H.len
  exact lq [_,_,_,_] [] [.l Nq (.a Nr Kr),.l Nr (.a Ns (.n 3))] (.l Nq (.a Ns (.a (.n 3) Kr))) [] rfl (by assumption) this
 ·rw [value_stored]
  by_cases e:j=i
  ·subst e; rw [if_pos rfl]; exact ⟨t,rfl⟩
  ·rw [if_neg (fun q=>e (by have:=Ky.i.inj q; exact lq [_,_] [] [.eq (.a Nq Kr) (.a Nr Kr)] (.e Nq Nr) [[1010,1100]] rfl this))]
   exact H.at' j hj (by exact lq [_,_] [] [.t Nq (.a Nr Kr),.nn Nq Nr] (.t Nq Nr) [[1100],[1120]] rfl hji e)
 ·rw [value_stored,if_neg (hk i (Nat.lt_succ_self i))]
  exact H.oth k fun j hj=>hk j (Nat.lt_succ_of_lt hj)
theorem LeftAt.look {C:TC} {row:List Int} {kvs lf:List (Ky×Value)} {k:Ky} (H:LeftAt row kvs row.length lf) (HH:Held C row kvs) (hv:look C k≠.none):∃ x t t',look C k=.int x t∧PySem.valueAt lf k=some (.int x t'):=by
 rcases HH.off k hv with ⟨j,hj,rfl⟩ | ⟨v,hv'⟩
 ·obtain ⟨t,e⟩:=HH.at' j hj
  obtain ⟨t',e'⟩:=H.at' j hj hj
  exact ⟨_,t,t',e,e'⟩
 ·obtain ⟨x,t,t',rfl,e⟩:=HH.inn k v hv'
  refine ⟨x,t',t,e,?_⟩
  rw [H.oth k,hv']
  intro j hj e2
  have:=HH.bk _ (mem_of_value hv')
  subst e2
  have:=this.2
  exact lq [_] [] [.le (.a Nq Kr) Kq] .f [] rfl this
theorem value_some {lf:List (Ky×Value)} {k:Ky} (h:k∈lf.map (·.1)):∃ v,PySem.valueAt lf k=some v:=by
 unfold PySem.valueAt
 cases hf:lf.find? (fun kv=>kv.1=k) with
 | some p=>exact ⟨p.2,rfl⟩
 | none =>
  obtain ⟨p,hp,e⟩:=List.mem_map.mp h
  have:=List.find?_eq_none.mp hf p hp
  simp [e] at this
theorem LeftAt.live {C:TC} {row:List Int} {kvs lf:List (Ky×Value)} {k:Ky} (H:LeftAt row kvs row.length lf) (HH:Held C row kvs) (h:k∈lf.map (·.1)):Mine.look C k≠.none:=by
 obtain ⟨v,hv⟩:=value_some h
 by_cases hr:∃ j:Nat,j < row.length∧k=.i ((j:Int)+1)
 ·obtain ⟨j,hj,rfl⟩:=hr
  obtain ⟨t,e⟩:=HH.at' j hj
  rw [e]; exact fun h=>nomatch h
 ·rw [H.oth k fun j hj e=>hr ⟨j,hj,e⟩] at hv
  obtain ⟨x,t,t',_,e⟩:=HH.inn k v hv
  rw [e]; exact fun h=>nomatch h
theorem ents_nodup {C:TC} (W:WF C):∀ (d p:Nat),tot C - p=d→((ents C p).map (·.1)).Nodup:=by
 intro d
 induction d with
 | zero=>intro p hd; rw [ents_end (by exact lq [_,_,_] [] [.e Nq Kq,.sb 0 Nr Ns] (.l Nr Ns) [[110010],[]] rfl hd rfl)]; exact List.nodup_nil
 | succ d ih =>
  intro p hd
  rw [ents_step (by omega)]
  cases hs:slotC C p with
  | none=>exact ih (p+1) (by exact congrArg Nat.pred hd)
  | some e =>
   refine List.nodup_cons.mpr ⟨fun hm=>?_,ih (p+1) (by exact congrArg Nat.pred hd)⟩
   obtain ⟨e',he',q⟩:=List.mem_map.mp hm
   obtain ⟨p',h1,_,h3⟩:=ents_mem.mp he'
   have a:=(slot_pos W (k:=e.1) (v:=e.2) hs).1
   have b:=(slot_pos W (k:=e'.1) (v:=e'.2) h3).1
   rw [q,a] at b
   have:=Option.some.inj b
   exact lq [_,_] [] [.l (.a Nq Kr) Nr,.e Nq Nr] .f [[11010]] rfl h1 this
theorem ents_look {C:TC} (W:WF C) {e:Ky×Value} {p:Nat} (h:e∈ents C p):look C e.1=e.2∧e.2≠.none:=by
 obtain ⟨q,_,_,hq⟩:=ents_mem.mp h
 exact (slot_pos W (k:=e.1) (v:=e.2) hq).2
theorem LeftAt.count {C:TC} {row:List Int} {kvs lf:List (Ky×Value)} (H:LeftAt row kvs row.length lf) (HH:Held C row kvs):(ents C 0).length=lf.length:=by
 have W:=HH.tab.wf
 have p:((ents C 0).map (·.1)).Perm (lf.map (·.1)):=by
  refine (List.perm_ext_iff_of_nodup (ents_nodup W _ 0 rfl) H.nd).mpr fun k=>⟨fun hk=>?_,fun hk=>?_⟩
  ·obtain ⟨e,he,rfl⟩:=List.mem_map.mp hk
   obtain ⟨a,b⟩:=ents_look W he
   obtain ⟨x,t,t',_,hv⟩:=H.look HH (k:=e.1) (by rw [a]; exact b)
   exact List.mem_map.mpr ⟨_,mem_of_value hv,rfl⟩
  ·obtain ⟨q,hq,hs⟩:=slot_look W (H.live HH hk)
   exact List.mem_map.mpr ⟨_,ents_mem.mpr ⟨q,Nat.zero_le _,hq,hs⟩,rfl⟩
 have:=p.length_eq
 simpa using this
theorem ok_of_s0 {kv:Value} {k:Ky} (h:ky kv=some k) (hs:S0 k):okKey kv:=by
 cases kv <;> simp [ky] at h
 ·trivial
 ·subst h
  rename_i b t
  show b.size < 100
  rw [← Array.length_toList]
  rcases (show b.toList=[120]∨b.toList=[107,101,121]∨b.toList=[] from hs) with e | e | e <;> rw [e] <;> decide
theorem app_led {prog:Program} {w:World} {Ar:Around} {E:Value→Shared→Prop} {s:Shared} {h₀:Heap} {L D:Addr} {m:Names} {led led':Led} {rv:List Value} {e:Nat} {v:Value} {Q:Value→Shared→Prop} (F:Fr h₀ L s.heap m) (N:News h₀ L s.heap led) (D₀:Apart led)
  (U:Rep D (listOf rv.toArray e) (listOf (rv++[v]).toArray (e+1)) led led') (hz:rv.length≤1000) (h:∀ h',Fr h₀ L h' m→News h₀ L h' led'→Apart led'→Q .none { s with heap:=h' }) :
  wpAny (model prog w) Ar (call (.builtin "list.append") [.ref D,v]) Q E s:=by
 have ep:(rv++[v]).toArray=rv.toArray.push v:=by simp
 rw [ep] at U
 exact append_K F N (U.upd D₀).1 (fun h' F' N'=>h h' F' N' (U.upd D₀).2) (by rw [sizeLine_eq,List.size_toArray]; exact Nat.le_trans hz (nb rfl))
theorem EvT.orsF {σ:St} {es:List PySem.Expr} {pos:Pos} (h:∀ e∈es,EvT σ e False):EvT σ (.BoolOp .Or es pos) False:=by
 intro Ar g L s T R
 show wpAny _ _ (isTrue _ _ (eval _ _)) _ _ _
 generalize eval (.BoolOp .Or es pos) (σ.c.sh.env L)=whole
 have main:∀ (es:List PySem.Expr),(∀ e∈es,EvT σ e False)→∀ s₁:Shared,(∃ h tk,s₁={ s with heap:=h,toks:=tk })→RS σ g L s₁.heap→wpAny (Md σ.c) Ar (isTrue (.BoolOp .Or es pos) (σ.c.sh.env L) whole) (fun b s'=>∃ h' tk' m' led',s'={ s with heap:=h',toks:=tk' }∧RS ⟨σ.c,m',led'⟩ g L h'∧m'=σ.m∧led'=σ.led∧(b=true↔False)) (fun z9 z9=>False) s₁:=by
  intro es
  induction es with
  | nil=>rintro _ _ ⟨h,tk,rfl⟩ R; exact isTrue_or_nil (EvT.out (s:=s) R ⟨nofun,fun h=>h.elim⟩)
  | cons e r ih =>
   rintro hh _ ⟨h,tk,rfl⟩ R
   refine isTrue_or ((hh e (.head _)).use T R fun b h' tk' hb R1=>?_)
   cases b with
   | true=>exact (hb.mp rfl).elim
   | false=>exact ih (fun e he=>hh e (.tail _ he)) _ ⟨h',tk',rfl⟩ R1
 exact main es h s ⟨s.heap,s.toks,rfl⟩ R
noncomputable def CmpIs (w:World) (op:CmpOp) (v u:Value) (l:Led) (b:Bool):Prop:=∀ {Ar:Around} {g:Heap} {L:Addr} {s:Shared} {Q E:Value→Shared→Prop},Ar.units+64 < cLine→News g L s.heap l→(∀ tk,Q (.bool b) { s with toks:=tk })→wpAny (model MProg w) Ar (compareOp op v u) Q E s
theorem CmpIs.neRow {w:World} {l:Led} {a b:Addr} {us vs:List Value} {n n':Nat} {row:List Int} (h1:(a,listOf (us++[Value.none]).toArray n)∈l) (h2:(b,listOf (vs++[Value.none]).toArray n')∈l) (hi:IntsAre us row) (hj:IntsAre vs row):CmpIs w .NotEq (.ref a) (.ref b) l false :=
 fun hu N k=>ne_row N h1 h2 hi hj hu (k _)
theorem CmpIs.keysIn {w:World} {l:Led} {a:Addr} {vs:List Value} {e:Nat} {x:Value} {k:Ky} {ks:List Ky} (hm:(a,listOf vs.toArray e)∈l) (hk:vs.map ky=ks.map some) (hx:ky x=some k) (hn:k ∉ ks):CmpIs w .In x (.ref a) l false :=
 fun z9 N q=>keys_in N hm hk hx hn (q _)
theorem CmpIs.notInD {w:World} {l:Led} {d:Addr} {o:Obj} {kvs:List (Ky×Value)} {x v:Value} {k:Ky} (hp:(d,o)∈l) (hd:o.IsDictOf (kyKind MProg w) kvs) (lo:(d == sysModules)=false) (hkey:(kyKind MProg w).is k x=true) (hv:PySem.valueAt kvs k=some v):CmpIs w .NotIn x (.ref d) l false :=
 fun z9 N q=>kdg_notin N hp hd lo hkey true (by rw [hv]; rfl) (q _)
section
variable {c:Cn} {m:NM} {l:Led} {pos:Pos} {o i e e1 e2:PySem.Expr}
theorem EvT.cmpH {op:CmpOp} {b:Bool} {P1:Value→Led→Prop} {P2:Value→Value→Led→Prop} (hd:3≤c.dep) (h1:HE ⟨c,m,l⟩ e1 P1) (h2:∀ v l',P1 v l'→HE ⟨c,m,l'⟩ e2 (P2 v)) (hm:behindInMarks op e2=false)
  (k:∀ v l1 u l2,P1 v l1→P2 v u l2→(∃ r,(r++l).Perm l2)∧CmpIs c.w op v u l2 b):EvT ⟨c,m,l⟩ (.Compare e1 [op] [e2] pos) (b=true) :=
 fun Ar z9 z9 s T R=>wpAny_isTrue_Compare1 (h1.use T R fun v z9 z9 l1 p1 R1=>(h2 v l1 p1).use (s:={ s with heap:=_,toks:=_ }) T R1 fun u z9 z9 l2 p2 R2=>by
  have hu:Ar.units+30 * c.dep < cLine:=T.C.u
  obtain ⟨⟨r,p⟩,q⟩:=k v l1 u l2 p1 p2
  exact q (by lia) R2.N fun tk=>wpAny_truthy_bool (EvT.out (s:=s) ⟨R2.F,News.sub R2.N fun q hq=>p.mem_iff.mp (List.mem_append_right _ hq),(R2.D.perm p.symm).sub (List.sublist_append_right _ _)⟩ Iff.rfl)) hm
theorem EvT.cmpV' {op:CmpOp} {b:Bool} {x y:Value} (hd:3≤c.dep) (h1:Ev ⟨c,m,l⟩ e1 (.v x)) (h2:Ev ⟨c,m,l⟩ e2 (.v y)) (hm:behindInMarks op e2=false) (k:CmpIs c.w op x y l b):EvT ⟨c,m,l⟩ (.Compare e1 [op] [e2] pos) (b=true) :=
 EvT.cmpH (P1:=fun v l'=>v=x∧l'=l) (P2:=fun z9 u l'=>u=y∧l'=l) hd (h1.toHE fun v hv=>⟨hv,rfl⟩) (fun v l' ⟨_,e⟩=>by subst e; exact h2.toHE fun v hv=>⟨hv,rfl⟩) hm fun v l1 u l2 ⟨e1,e2⟩ ⟨e3,e4⟩=>by
  subst e1 e2 e3 e4
  exact ⟨⟨[],.refl _⟩,k⟩
theorem EvT.f {p:PySem.Expr} {b:Bool} (h:EvT ⟨c,m,l⟩ p (b=true)) (hb:b=false):EvT ⟨c,m,l⟩ p False:=h.congr (by simp [hb])
theorem HE.addL {us vs:List Value} {a:Addr} {n:Nat} {P:Value→Led→Prop} (h1:Ev ⟨c,m,l⟩ e1 (.v (.ref a))) (hm:(a,listOf us.toArray n)∈l) (h2:HE ⟨c,m,l⟩ e2 P) (hz:us.length+vs.length≤1000) (k:∀ v l',P v l'→∃ b z,v=.ref b∧l'=(b,listOf vs.toArray z)::l):HE ⟨c,m,l⟩ (.BinOp e1 .Add e2 pos) fun v l'=>∃ D,v=.ref D∧l'=(D,listOf (us++vs).toArray 0)::l :=
 HE.fin (P:=fun v l'=>∃ D b o,v=.ref D∧l'=(D,listOf (us++vs).toArray 0)::(b,o)::l) (fun z9 z9 z9 s T R=>wpAny_BinOp (h1.use T R fun z9 z9 z9 ea R1=>h2.use T R1 fun v z9 z9 l' p R2=>by
  cases ea
  obtain ⟨b,z,rfl,rfl⟩:=k v l' p
  obtain ⟨nm,F,H⟩:=R2.F
  exact add_led F R2.N R2.D (.tail _ hm) (.head _) hz fun D h' F' N' D'=>HE.out (s:=s) (P:=fun v l'=>∃ D b o,v=.ref D∧l'=(D,listOf (us++vs).toArray 0)::(b,o)::l) (l':=_::_::l) ⟨⟨nm,F',H⟩,N',D'⟩ ⟨_,_,_,rfl,rfl⟩)) fun v l' ⟨D,b,o,e1,e2⟩=>⟨[(b,o)],_,by subst e2; exact .swap ..,D,e1,rfl⟩
theorem HE.list1 {lp:Pos} {V:Vl} (hs:isStar e=false) (h:Ev ⟨c,m,l⟩ e V):HE ⟨c,m,l⟩ (.List [e] lp) fun v l'=>∃ D x,v=.ref D∧V.is x∧l'=(D,listOf #[x] 0)::l :=
 (HE.listD (P:=fun vs l'=>∃ x,vs=[x]∧V.is x∧l'=l) (HEs.consE hs h fun v hv=>HEs.nil ⟨v,rfl,hv,rfl⟩) fun vs l' ⟨x,e,_⟩=>e▸Nat.le_of_ble_eq_true rfl).mono fun v l' ⟨D,vs,l0,e1,e2,x,e3,e4,e5⟩=>by
  subst e3 e5
  exact ⟨D,x,e1,e4,e2⟩
theorem CT.lenD {d:Addr} {od:Obj} {kvs:List (Ky×Value)} (hp:(d,od)∈l) (hd:od.IsDictOf (kyKind MProg c.w) kvs) (lo:(d == sysModules)=false) (hz:kvs.length≤1000):CT ⟨c,m,l⟩ (.builtin "len") [.ref d] (.i kvs.length) :=
 fun z9 z9 z9 s z9 R=>kda_len R.N hp hd lo (by exact Nat.le_trans hz (nb rfl)) (Ev.out (s:=s) R ⟨_,rfl⟩)
theorem Ev.itemD {x:Str} {xp:Pos} {d:Addr} {od:Obj} {kvs:List (Ky×Value)} {k:Ky} {key v:Value} (ho:Ev ⟨c,m,l⟩ (.Name x xp) (.v (.ref d))) (hi:Ev ⟨c,m,l⟩ i (.v key)) (hs:noSlice i=true) (hp:(d,od)∈l) (hd:od.IsDictOf (kyKind MProg c.w) kvs) (hkey:(kyKind MProg c.w).is k key=true) (hv:PySem.valueAt kvs k=some v):Ev ⟨c,m,l⟩ (.Subscript (.Name x xp) i pos) (.v v):=by
 intro Ar g L s T R
 refine Subscript_ (ho.use T R fun z9 z9 z9 ev R1=>hi.use T R1 fun z9 z9 z9 ei R2=>?_)
 cases ev
 cases ei
 exact kda_item R2.N hp hd hkey hv (Ev.out (s:=s) R2 rfl) (subs_of hs) (fun z9=>rfl)
theorem HE.l_append {D:Addr} {rv:List Value} {n:Nat} {v:Value} {ap:Pos} {l':Led} (hc:noCall o=true) (hf:fewOk [e] ap pos=true) (hs:isStar e=false) (ho:Ev ⟨c,m,l⟩ o (.v (.ref D))) (he:Ev ⟨c,m,l⟩ e (.v v)) (hm:(D,listOf rv.toArray n)∈l) (hz:rv.length≤1000) (U:Rep D (listOf rv.toArray n) (listOf (rv++[v]).toArray (n+1)) l l') :
  HE ⟨c,m,l⟩ (.Call (.Attribute o (Str.ofString "append") ap) [e] [] pos) fun r l1=>r=.none∧l1=l':=by
 intro Ar g L s T R0
 refine MethodCall_ (ho.use T R0 fun z9 z9 z9 ev R1=>?_) (meth_any hc (Evs.cons hs he .nil).plain hf)
 cases ev
 refine listMethod_K R1.N hm PySem.F.slot_list_append PySem.F.type_list_append (callWith_method1 (args_cons (he.use T R1 fun z9 z9 z9 hv R2=>args_nil ?_) (star_of hs)) (star_of hs) rfl)
 cases hv
 obtain ⟨nm,F,H⟩:=R2.F
 exact app_led F R2.N R2.D U hz fun h' F' N' D'=>⟨h',_,m,l',rfl,⟨⟨nm,F',H⟩,N',D'⟩,rfl,rfl,rfl⟩
theorem HE.copyD {d:Addr} {od:Obj} {kvs:List (Ky×Value)} {f1 f2:PySem.Expr} {ap p1 p2:Pos} (hn1:noAtt f1=true) (hn2:noAtt f2=true) (hc:noCall o=true) (hf:fewOk [] ap pos=true) (h1:∀ l',Ev ⟨c,m,l'⟩ f1 (.v (.type "dict"))) (h2:∀ l',Ev ⟨c,m,l'⟩ f2 (.v (.type "list"))) (ho:Ev ⟨c,m,l⟩ o (.v (.ref d)))
  (hm:(d,od)∈l) (hod:od.IsDictOf (kyKind MProg c.w) kvs) (lo:(d == sysModules)=false) (hz:kvs.length≤1000) (hnd:(kvs.map (·.1)).Nodup) :
  HE ⟨c,m,l⟩ (.Call f1 [.Call f2 [.Call (.Attribute o (Str.ofString "items") ap) [] [] pos] [] p2] [] p1) fun v l'=>∃ S o',v=.ref S∧l'=(S,o')::l∧o'.IsDictOf (kyKind MProg c.w) kvs∧(S == sysModules)=false:=by
 intro Ar g L s T R0
 refine Call_ ((h1 l).use T R0 fun z9 z9 z9 ev R1=>?_) (callee_of hn1)
 cases ev
 refine Pv.callWith_type1 (args_cons (Call_ ((h2 l).use T R1 fun z9 z9 z9 ev2 R2=>?_) (callee_of hn2)) rfl) rfl rfl
 cases ev2
 refine Pv.callWith_type1 (args_cons (MethodCall_ (ho.use T R2 fun z9 z9 z9 ev3 R3=>?_) (meth_any hc rfl hf)) rfl) rfl rfl
 cases ev3
 obtain ⟨nm,F,H⟩:=R3.F
 obtain ⟨pv,lo',Tp⟩:=T.C.T
 refine bmeth PySem.F.slot_dict_items PySem.F.type_dict_items R3.N hm hod (callWith_method0 (view_led F R3.N hm hod lo fun V h4 F4 N4=>args_nil ?_))
 refine list_view T.C.n F4 N4 hm hod hz fun B h5 tk5 as z F5 N5 hal hG=>args_nil ?_
 refine dict_led T.C.n F5 N5 R3.D (topRead_of Tp).nolimit hal hG hz hnd fun S o' h6 tk6 F6 N6 D6 hlo hd'=>?_
 exact ⟨h6,tk6,m,(S,o')::l,rfl,⟨⟨nm,F6,H⟩,N6,D6⟩,rfl,S,o',rfl,rfl,hd',hlo⟩
end
theorem sl14 {a0 a1 a2 a3 a4 a5 a6 a7 a8 a9 a10 a11 a12 a13 a14:Str×NameKind} {l:List (Str×NameKind)}:slot (a0::a1::a2::a3::a4::a5::a6::a7::a8::a9::a10::a11::a12::a13::a14::l) 14=some a14:=rfl
theorem sl15 {a0 a1 a2 a3 a4 a5 a6 a7 a8 a9 a10 a11 a12 a13 a14 a15:Str×NameKind} {l:List (Str×NameKind)}:slot (a0::a1::a2::a3::a4::a5::a6::a7::a8::a9::a10::a11::a12::a13::a14::a15::l) 15=some a15:=rfl
theorem sl16 {a0 a1 a2 a3 a4 a5 a6 a7 a8 a9 a10 a11 a12 a13 a14 a15 a16:Str×NameKind} {l:List (Str×NameKind)}:slot (a0::a1::a2::a3::a4::a5::a6::a7::a8::a9::a10::a11::a12::a13::a14::a15::a16::l) 16=some a16:=rfl
theorem nm_Cc {M:Model} {A:Around} {E:Value→Shared→Prop} {s:Shared} {scope:Scope} {cl:List (Str×Addr)} {C:Addr} {env:Env} {h₀:Heap} {L c:Addr} {news:Led} {o:Obj} {x:Str} {pos:Pos} {v:Value} {Q:Value→Shared→Prop} (N:News h₀ L s.heap news) (hl:(compEnvC scope cl C env).kindOf x=some .cell) (hc:cl.lookup x=some c) (hm:(c,o)∈news) (hv:o.data=.cell (some v)) (hd:(x == Str.ofString "__debug__")=false)
  (hk:(compEnvC scope cl C env).scope.kind=.function) (h:Q v s):wpAny M A (eval (.Name x pos) (compEnvC scope cl C env)) Q E s:=ldCellK hc ⟨o,N.get hm,hv⟩ h hk hl hd
section
variable {σ:St} {pos:Pos}
theorem EvS.lenL {f e:PySem.Expr} {a:Addr} {vs:List Value} {n:Nat} (hn:noAtt f=true) (hs:isStar e=false) (hf:EvS σ f (.v (.builtin "len"))) (he:EvS σ e (.v (.ref a))) (hm:(a,listOf vs.toArray n)∈σ.led) (hz:vs.length < 2 ^ 62):EvS σ (.Call f [e] [] pos) (.i vs.length):=by
 intro Ar g L s E Q T R k
 refine Call_ (hf _ _ _ _ _ _ T R fun v tk1 hv=>?_) (callee_of hn)
 cases hv
 refine callWith_builtin1 (args_cons (he _ _ _ _ _ _ T R fun v tk2 hv=>args_nil ?_) (star_of hs)) (star_of hs) rfl
 cases hv
 exact len_led R.N hm hz (k _ _ ⟨_,rfl⟩)
end
section
variable {c:Cn} {m:NM} {l:Led} {pos:Pos} {ss:List Stmt} {K:List (List Stmt)} {Q:Flow→NM→Led→Prop}
theorem HS.assign3 {x y z:Str} {k k':Nat} {xp yp zp tp vp:Pos} {e1 e2 e3:PySem.Expr} {P:List Value→Led→Prop} (i j n:Nat) (hx:slot c.sh.sc.names i=some (x,.local)) (hy:slot c.sh.sc.names j=some (y,.local)) (hz:slot c.sh.sc.names n=some (z,.local))
  (hw:∀ L,swappedStores [.Tuple [.Name x xp,.Name y yp,.Name z zp] k tp] (.Tuple [e1,e2,e3] k' vp) (c.sh.env L)=pure (some [x,y,z])) (h:HEs ⟨c,m,l⟩ [e1,e2,e3] P)
  (kk:∀ vs l',P vs l'→∃ a b d,vs=[a,b,d]∧HS c (ss::K) (((m.set n (.v d)).set j (.v b)).set i (.v a)) l' Q):HS c ((.Assign [.Tuple [.Name x xp,.Name y yp,.Name z zp] k tp] (.Tuple [e1,e2,e3] k' vp) pos::ss)::K) m l Q :=
 HS.step fun z9 z9 z9 s T R=>Assign_Tuple_swapped (names:=[x,y,z]) (Tuple_ (h.use T R fun vs h' tk' l' p R1=>by
  obtain ⟨a,b,d,rfl,hk⟩:=kk vs l' p
  obtain ⟨nm,F,H⟩:=R1.F
  refine kup_newTuple F R1.N (fun D' h2 F2 N2 lt=>?_) (nb rfl)
  refine unpackItemsN_ F2 N2 (News.isTup N2 (.head _)) T.C.n rfl (fun h3 F3 N3=>?_)
  refine assignInOrder_cons (bindName_ (store_slot (m:=m) (l:=l') (V:=.v d) hz rfl T ⟨⟨_,F3,H⟩,News.sub N3 fun z9 h=>.tail _ h,R1.D⟩ fun h4 tk4 R4=>?_))
  refine assignInOrder_cons (bindName_ (store_slot (m:=m.set n (.v d)) (l:=l') (V:=.v b) hy rfl T R4 fun h5 tk5 R5=>?_))
  exact assignInOrder_cons (bindName_ (store_slot (m:=(m.set n (.v d)).set j (.v b)) (l:=l') (V:=.v a) hx rfl T R5 fun h6 tk6 R6=>assignInOrder_nil ⟨h6,tk6,_,_,rfl,R6,hk⟩)))) rfl (hw _)
end
section
variable {sh:Sh} {dep:Nat} {m:NM} {A:TA} {C:TC} {R:Led} {pos:Pos}
structure GetsOk (sh:Sh) (scope:Scope) (cl:List (Str×Addr)) (t x:Str) (f e:PySem.Expr) (rp:Pos):Prop where
 clos:∀ L,closureFor scope (sh.env L)=pure cl
 cell:∀ y∈scope.names,y.2≠.cell
 kind:scope.kind=.function
 names:∀ y∈scope.names,y.2=.local→scope.names.lookup y.1=some .local
 lx:scope.names.lookup x=some .local
 fold:∀ L x,foldedSetIterable (.Call f [e] [] rp) (sh.env L) x=pure x
 kt:∀ L C,(compEnvC scope cl C (sh.env L)).kindOf t=some .cell
 kx:∀ L C,(compEnvC scope cl C (sh.env L)).kindOf x=some .local
 dt:(t == Str.ofString "__debug__")=false
 dx:(x == Str.ofString "__debug__")=false
 n:noAtt f=true
 s:isStar e=false
noncomputable def getsLed (P:Params) (A:TA) (C:TC) (R:Led) (N:Nat) (D:Addr):Led:=(D,LCg.lst ((List.range N).map fun (j:Nat)=>look C (.i ((j:Int)+1))))::TL P A C R
theorem gets_src {t x:Str} {tp ap p1 p2 p3 cp rp:Pos} {kk:Nat} {scope:Scope} {f e:PySem.Expr} {N:Nat} {ca:Addr} {co:Obj} {cl:List (Str×Addr)} {z:Int} (G:GetsOk sh scope cl t x f e rp) (hc:cl.lookup t=some ca) (hm:(ca,co)∈TL w.params A C R) (hv:co.data=.cell (some (.ref A.t))) (hfew:fewOk [.BinOp (.Name x p1) .Add (.Constant (.int 1) kk p2) p3] ap cp=true)
  (hf:EvS ⟨⟨w,mean,mg,mb,sh,dep⟩,m,TL w.params A C R⟩ f (.v (.type "range"))) (he:EvS ⟨⟨w,mean,mg,mb,sh,dep⟩,m,TL w.params A C R⟩ e (.i z)) (hz:z=(N:Int)) (hN:N < 1000) (hd:7≤dep) (W:WF C)
  {Ar:Around} {g:Heap} {L:Addr} {s:Shared} {E:Value→Shared→Prop} (T:Rt ⟨w,mean,mg,mb,sh,dep⟩ Ar g L) (R0:RS ⟨⟨w,mean,mg,mb,sh,dep⟩,m,TL w.params A C R⟩ g L s.heap) {nm:Names} (F:Fr g L s.heap nm) {Sf:Shared→List Value→Led→Prop}
  (hS:∀ h tk,Apart (TL w.params A C R)→Sf { s with heap:=h,toks:=tk } ((List.range N).map fun (j:Nat)=>look C (.i ((j:Int)+1))) (TL w.params A C R)) :
  wpAny (model MProg w) Ar (eval (.Call f [e] [] rp) (sh.env L)) (LCg.CompSrc MProg w Ar g L nm (sh.env L) (.Call (.Attribute (.Name t tp) (Str.ofString "get_int") ap) [.BinOp (.Name x p1) .Add (.Constant (.int 1) kk p2) p3] [] cp) x scope cl Sf) E s:=by
 subst hz
 refine Call_ (hf _ _ _ _ _ _ T R0 fun v tk1 hv=>?_) (callee_of G.n)
 cases hv
 refine Pv.callWith_type1 (args_cons (he _ _ _ _ _ _ T R0 fun v tk2 ⟨t1,ev⟩=>args_nil ?_) (star_of G.s)) (star_of G.s) rfl
 subst ev
 refine range1_rows F R0.N fun h3 tk3 t1 u1 v1 kR F3 N3 z9=>?_
 refine LCg.CompSrc.range (n:=N) T.C.n F3 N3 kR (rsm_one (Int.natCast_nonneg _) (by exact lq [_] [] [.t Nq (.k 1000)] (.lt Nq (.k 100000)) [] rfl hN)) (rs_one _) (Nat.le_trans (Nat.le_of_lt hN) (by decide)) (fun g'=>?_)
 refine comp_led (n:=N) (fun i ys led=>led=TL w.params A C R∧ys=(List.range i).map fun (j:Nat)=>look C (.i ((j:Int)+1))) ?_ ?_ N 0 [] _ rfl ⟨rfl,rfl⟩ R0.D
 ·rintro i v I oI Cm oC Dm m₂ h tk ys led E' hi hP hC hx ⟨rfl,rfl⟩ F₂ N₂ D₂
  obtain ⟨tv,rfl⟩:=hP
  have hap:=tl_app (P:=w.params) (A:=A) (C:=C) (R:=R) [(I,oI),(Cm,oC),(Dm,LCg.lst ((List.range i).map fun (j:Nat)=>look C (.i ((j:Int)+1))))]
  have N3:=News.perm N₂ hap.symm
  refine MethodCall_ (nm_Cc N₂ (G.kt _ _) hc (.tail _ (.tail _ (.tail _ hm))) hv G.dt G.kind ?_) (meth_of rfl hfew)
  refine method_inst F₂ T.C.X (InstAt.of_news N3 mem_t mem_dt) (by k_is) (by k_is) (by k_is) (by kernel_rfl) ?_
  refine callWith_K (T.C.X.keeps F₂.keep) (by k_is) (args_cons (wpAny_BinOp (LCgL.ld_own N₂ (.tail _ (.head _)) hC hx (wpAny_Constant_int (add_int ?_)) G.kind (G.kx _ _) G.dx)) rfl) rfl rfl
  refine args_nil ⟨T.C.X.keeps F₂.keep,Spec.use (spec_get_int A C _ _ _ W) T.C F₂ N3 (D₂.perm hap.symm) hd ?_⟩
  rintro _ _ h4 tk4 F4 N4 D4 ⟨rfl,rfl⟩
  exact cp_next F4 N4 D4 ⟨[],hap.symm⟩ trivial ⟨rfl,by rw [List.range_succ,List.map_append,Int.zero_add]; rfl⟩
 ·rintro ys led ⟨rfl,rfl⟩ hA
  exact hS _ _ hA
theorem HE.gets {t x:Str} {tp ap p1 p2 p3 cp px rp:Pos} {kk:Nat} {scope:Scope} {f e:PySem.Expr} {N:Nat} {ca:Addr} {co:Obj} {cl:List (Str×Addr)} {z:Int} (G:GetsOk sh scope cl t x f e rp) (hc:cl.lookup t=some ca) (hm:(ca,co)∈TL w.params A C R) (hv:co.data=.cell (some (.ref A.t))) (hfew:fewOk [.BinOp (.Name x p1) .Add (.Constant (.int 1) kk p2) p3] ap cp=true)
  (hf:EvS ⟨⟨w,mean,mg,mb,sh,dep⟩,m,TL w.params A C R⟩ f (.v (.type "range"))) (he:EvS ⟨⟨w,mean,mg,mb,sh,dep⟩,m,TL w.params A C R⟩ e (.i z)) (hz:z=(N:Int)) (hN:N < 1000) (hd:7≤dep) (W:WF C) :
  HE ⟨⟨w,mean,mg,mb,sh,dep⟩,m,TL w.params A C R⟩ (.ListComp (.Call (.Attribute (.Name t tp) (Str.ofString "get_int") ap) [.BinOp (.Name x p1) .Add (.Constant (.int 1) kk p2) p3] [] cp) [⟨.Name x px,.Call f [e] [] rp,[],0⟩] scope pos) fun v l=>∃ D,v=.ref D∧l=getsLed w.params A C R N D:=by
 intro Ar g L s T R0
 obtain ⟨nm,F,H⟩:=R0.F
 refine LCg.ListComp_U F (G.clos L) G.cell G.kind G.names G.lx (gets_src G hc hm hv hfew hf he hz hN hd W T R0 F fun h tk hA=>?_) (G.fold L)
 refine fin_e hA fun Dl h₂ tk₂ F₂ N₂ D₂=>?_
 exact ⟨h₂,tk₂,m,getsLed w.params A C R N Dl,rfl,⟨⟨_,F₂,H⟩,N₂,D₂⟩,rfl,Dl,rfl,rfl⟩
theorem HS.assignGets {t x y:Str} {tp ap p1 p2 p3 cp px rp py:Pos} {kk:Nat} {scope:Scope} {f e:PySem.Expr} {N:Nat} {ca:Addr} {co:Obj} {cl:List (Str×Addr)} {ss:List Stmt} {K:List (List Stmt)} {Q:Flow→NM→Led→Prop} {z:Int} {spos:Pos} (i:Nat) (hy:slot sh.sc.names i=some (y,.local))
  (hsw:∀ L,swapsWith (.ListComp (.Call (.Attribute (.Name t tp) (Str.ofString "get_int") ap) [.BinOp (.Name x p1) .Add (.Constant (.int 1) kk p2) p3] [] cp) [⟨.Name x px,.Call f [e] [] rp,[],0⟩] scope pos) (some (.Name y py)) spos.line (sh.env L)=pure true)
  (G:GetsOk sh scope cl t x f e rp) (hc:cl.lookup t=some ca) (hm:(ca,co)∈TL w.params A C R) (hv:co.data=.cell (some (.ref A.t))) (hfew:fewOk [.BinOp (.Name x p1) .Add (.Constant (.int 1) kk p2) p3] ap cp=true)
  (hf:EvS ⟨⟨w,mean,mg,mb,sh,dep⟩,m,TL w.params A C R⟩ f (.v (.type "range"))) (he:EvS ⟨⟨w,mean,mg,mb,sh,dep⟩,m,TL w.params A C R⟩ e (.i z)) (hz:z=(N:Int)) (hN:N < 1000) (hd:7≤dep) (W:WF C)
  (k:∀ D,HS ⟨w,mean,mg,mb,sh,dep⟩ (ss::K) (m.set i (.v (.ref D))) (getsLed w.params A C R N D) Q) :
  HS ⟨w,mean,mg,mb,sh,dep⟩ ((.Assign [.Name y py] (.ListComp (.Call (.Attribute (.Name t tp) (Str.ofString "get_int") ap) [.BinOp (.Name x p1) .Add (.Constant (.int 1) kk p2) p3] [] cp) [⟨.Name x px,.Call f [e] [] rp,[],0⟩] scope pos) spos::ss)::K) m (TL w.params A C R) Q:=by
 refine HS.step fun Ar g L s T R0=>?_
 obtain ⟨nm,F,H⟩:=R0.F
 refine LCg.Assign_ListComp_U F rfl (hsw L) (G.clos L) G.cell G.kind G.names G.lx (slot_lookup hy T.nd) (by show (sh.sc.kind == .class || (sh.sc.kind == .module && (_ != _)))=false; rw [show sh.sc.kind=.function from T.kind]; rfl) (gets_src G hc hm hv hfew hf he hz hN hd W T R0 F fun h tk hA=>?_) (G.fold L)
 refine fin_a hA fun Dl h₂ tk₂ F₂ N₂ D₂=>?_
 exact ⟨h₂,tk₂,m.set i (.v (.ref Dl)),getsLed w.params A C R N Dl,rfl,⟨⟨_,F₂,H.set hy T.nd rfl⟩,N₂,D₂⟩,k Dl⟩
end
noncomputable def PairIs (l:List (Ky×Value)) (r:Value) (X:Led):Prop:=match l with
 | []=>r=.none∧X=[]
 | e::_=>∃ T kv,r=.ref T∧X=[(T,tupObj #[kv,e.2])]∧ky kv=some e.1
theorem NextIs.pair {led led':Led} {l:List (Ky×Value)} {r:Value} (h:NextIs led l r led'):∃ X,led'=X++led∧PairIs l r X:=by
 cases l with
 | nil=>exact ⟨[],h.2,h.1,rfl⟩
 | cons e l=>obtain ⟨T,kv,h1,h2,h3⟩:=h; exact ⟨_,h2,T,kv,h1,rfl,h3⟩
section
theorem spec_next' (A:TA) (C:TC) (R:Led) (kv:Value) (k:Ky) (v:Value) (p:Nat) (l:List (Ky×Value)) (W:WF C) (hok:okKey kv) (hk:ky kv=some k) (h:ents C p=(k,v)::l) :
  Spec w mean mg mb (.ref 488) [.ref A.t,kv] 10 (TL w.params A C R) (fun r L=>∃ X,L=X++TL w.params A C R∧PairIs l r X∧∃ p',l=ents C p') :=
 (spec_next A C R kv k v p l W hok hk h).mono (Nat.le_refl _) fun r L q=>by
  obtain ⟨q1,q2⟩:=q
  obtain ⟨X,e,hP⟩:=q1.pair
  exact ⟨X,e,hP,q2⟩
structure Turn (C:TC) where
 pre:List (Ky×Value)
 l:List (Ky×Value)
 p:Nat
 r:Value
 X:Led
 ms:List Value
 e:Nat
noncomputable def Turn.ok {C:TC} (x:Turn C):Prop:=ents C 0=x.pre++x.l∧x.l=ents C x.p∧PairIs x.l x.r x.X∧x.ms.map ky=(x.pre.map (·.1)).map some
theorem spec_stands (A:TA) (C:TC) (ra ba:Addr) (row:List Int) (rv:List Value) (re:Nat) (kvs:List (Ky×Value)) (bo:Obj) (p1 p2 p3:Array Value) (J Z:Led)
  (K:LawOk w C row rv kvs bo p1 p2 p3 Z) (hlo:(ba == sysModules)=false) :
  Spec w mean mg mb (.ref 533) [.ref A.t,.ref ra,.ref ba] 100 (LL w.params A C ra ba rv re bo p1 p2 p3 J) (fun r l=>r=.bool true∧l=LL w.params A C ra ba rv re bo p1 p2 p3 J):=by
 have hlv:rv.length=row.length:=K.rowv.length
 have hl:=K.held.len
 have hB:=K.held.bord
 have hT:=K.held.tab
 have hbz:=BK.len K.held.bk K.held.bn
 have hlz:rv.length < 2 ^ 62:=by exact lq [_,_] [] [.e Nq Nr,.l Nr (.k 24)] (.t Nq (.k 4611686018427387904)) [[11010]] rfl hlv hl
 refine Spec.enterCH (cm:=upd (fun z9=>none) "t" (.ref A.t)) (cl:=fun L=>[("t",L+1)]) (by k_is) (by k_is) (fun s X=>BindsTo.of_eq rfl) rfl (by decide) (by first | exact .cons sl3 rfl (.cons sl2 rfl (.cons sl1 rfl .nil)) | exact .cons sl2 rfl (.cons sl1 rfl .nil)) (by first | exact bc_of (l:=[(_,_),(_,_),(_,_),(_,_)]) rfl (fun y=>rfl) | exact bc_of (l:=[(_,_),(_,_),(_,_)]) rfl (fun y=>rfl)) (fun L=>rfl) rfl rfl rfl (by kernel_rfl) hap_one ?_
 intro L₁ cells Y
 obtain ⟨ct,rfl,hct⟩:=CellsAre.one Y
 rw [show upd (fun z9=>none) "t" (.ref A.t) "t"=some (.ref A.t) from upd_hit] at hct
 clear Y
 refine HS.perm tl_in.symm ?_
 obtain ⟨RR,hRR⟩:∃ RR,RR=(545,tabObj p3)::(L₁+1,ct)::(540,tabObj p2)::(535,tabObj p1)::(ra,listOf rv.toArray re)::(ba,bo)::J:=⟨_,rfl⟩
 have hcm:(L₁+1,ct)∈RR:=by rw [hRR]; (exact (.tail _ List.mem_cons_self))
 have hrm:(ra,listOf rv.toArray re)∈RR:=by rw [hRR]; (exact (.tail _ (.tail _ (.tail _ (.tail _ List.mem_cons_self)))))
 have hbm:(ba,bo)∈RR:=by rw [hRR]; (exact (.tail _ (.tail _ (.tail _ (.tail _ (.tail _ List.mem_cons_self))))))
 have hend:∀ a b:Addr×Obj,([a,b,(L₁+1,ct)]++LL w.params A C ra ba rv re bo p1 p2 p3 J).Perm (TL w.params A C (a::b::RR)):=fun a b=>by
  rw [hRR]
  exact (tl_app [_,_,_]).symm.trans (tl_congr (.cons _ (.cons _ (.swap ..))))
 rw [← hRR]
 clear hRR
 refine HS.ff (p:=False) (EvT.orsF (List.forall_mem_cons.mpr ⟨?_,List.forall_mem_cons.mpr ⟨?_,fun z9 h=>by cases h⟩⟩)) id ?_
 ·exact EvT.congr (EvT.cmp (Ev.of (HE.meth (by exact Ev.cell 0 sl0 rfl (mem_R hcm) hct) InsAt.tab (by (exact ⟨by k_is,by k_is,by k_is,by k_is⟩)) rfl rfl .nil (nb rfl) (spec_length A C RR row.length hT.wf hB (by exact Nat.le_trans hl (nb rfl))))) (by exact Ev.callB rfl (Ev.blt 10 sl10 (by k_is) (by boot_by_name) (by kernel_rfl)) (Evs.cons rfl (Ev.name 1 sl1 rfl) Evs.nil) (CT.len (mem_R hrm) hlz)) ICmp.ne rfl) (by simp [hlv])
 ·have he:((List.range (row.length+1)).map fun (j:Nat)=>look C (.i ((j:Int)+1)))=((List.range row.length).map fun (j:Nat)=>look C (.i ((j:Int)+1)))++[Value.none]:=by
   rw [List.range_succ,List.map_append,List.map_singleton,K.held.none1 (by exact lq [_] [] [] (.le Kr (.a Nq Kr)) [] rfl) (by exact Int.lt_succ _)]
  have hi:=ints_range K.held.at'
  refine (EvT.cmpH (P2:=fun v u l'=>∃ D a,v=.ref a∧u=.ref D∧l'=(D,listOf (rv++[Value.none]).toArray 0)::getsLed w.params A C RR (row.length+1) a) (nb rfl) (HE.gets (N:=row.length+1) (cl:=[("t",L₁+1)]) ⟨fun z9=>rfl,by decide,rfl,by decide,rfl,fun z9 z9=>rfl,fun z9 z9=>by kernel_rfl,fun z9 z9=>by kernel_rfl,by kernel_rfl,by kernel_rfl,rfl,rfl⟩ rfl (mem_R hcm) hct rfl (by exact EvS.blt 11 sl11 (by k_is) (by boot_by_name) (by kernel_rfl)) (by exact EvS.bin (EvS.lenL rfl rfl (EvS.blt 10 sl10 (by k_is) (by boot_by_name) (by kernel_rfl)) (EvS.name 1 sl1 rfl) (mem_R hrm) hlz) EvS.int IOp.add) (by exact lq [_,_] [] [.e Nq Nr] (.eq (.a Nq Kr) (.c (.a Nr Kr))) [[1010,1100]] rfl hlv) (by exact lq [_] [] [.l Nq (.k 24)] (.t (.a Nq Kr) (.k 1000)) [] rfl hl) (nb rfl) hT.wf) ?_ rfl ?_).f rfl
  ·rintro _ _ ⟨a,rfl,rfl⟩
   refine (HE.addL (us:=rv) (vs:=[Value.none]) (by exact Ev.name 1 sl1 rfl) (.tail _ (mem_R hrm)) (HE.list1 (V:=.v .none) rfl (by (exact Ev.none))) (by simp; exact lq [_,_] [] [.e Nq Nr,.l Nr (.k 24)] (.l Nq (.k 999)) [[11010]] rfl hlv hl) fun v l' ⟨b,x,e1,e2,e3⟩=>⟨b,0,e1,(show x=Value.none from e2)▸e3⟩).mono fun v l' ⟨D,e1,e2⟩=>⟨D,a,rfl,e1,e2⟩
  ·rintro _ _ _ _ _ ⟨D,a,rfl,rfl,rfl⟩
   unfold getsLed
   rw [he]
   exact ⟨⟨[_,_],.refl _⟩,CmpIs.neRow (.tail _ (.head _)) (.head _) hi K.rowv⟩
 refine HS.nil ?_
 refine HS.assign3 _ _ _ (by (exact sl4)) (by (exact sl5)) (by (exact sl6)) (fun z9=>rfl) (P:=fun vs l'=>∃ (M S:Addr) (r:Value) (o:Obj) (X:Led),vs=[.ref M,.ref S,r]∧l'=TL w.params A C ((S,o)::(X++(M,listOf #[] 0)::RR))∧o.IsDictOf (kyKind MProg w) kvs∧(S == sysModules)=false∧PairIs (ents C 0) r X) (HEs.cons rfl HE.list0 ?_) ?_
 ·rintro _ _ ⟨M,rfl,rfl⟩
  refine HEs.cons rfl (HE.copyD (kvs:=kvs) rfl rfl rfl rfl (fun z9=>by (exact (Ev.blt 12 sl12 (by k_is) (by boot_by_name) (by kernel_rfl)))) (fun z9=>by (exact (Ev.blt 13 sl13 (by k_is) (by boot_by_name) (by kernel_rfl)))) (by exact Ev.name 2 sl2 rfl) (.tail _ (mem_R hbm)) K.dict hlo (by exact Nat.le_trans hbz (nb rfl)) K.held.bn) ?_
  rintro _ _ ⟨S,o,rfl,rfl,ho,hS⟩
  refine HEs.perm (tl_app [(S,o),(M,listOf #[] 0)]) ?_
  refine HEs.cons rfl (HE.meth (by exact Ev.cell 0 sl0 rfl (mem_R (List.mem_append_right ([(S,o),(M,listOf #[] 0)]) hcm)) hct) InsAt.tab (by (exact ⟨by k_is,by k_is,by k_is,by k_is⟩)) rfl rfl (by exact Evs.cons rfl Ev.none Evs.nil) (nb rfl) (spec_next_none A C _ hT.wf)) ?_
  intro r l' hr
  obtain ⟨X,rfl,hP⟩:=hr.pair
  exact HEs.perm ((tl_congr List.perm_middle.symm).trans (tl_app X)) (HEs.nil ⟨M,S,r,o,X,rfl,rfl,ho,hS,hP⟩)
 rintro _ _ ⟨M,S,r,o,X,rfl,rfl,ho,hSlo,hP⟩
 refine ⟨_,_,_,rfl,?_⟩
 refine HS.forEnum (X:=Obj×List (Ky×Value)) _ _ (by (exact sl3)) (by (exact sl7)) rfl rfl (by exact Ev.blt 14 sl14 (by k_is) (by boot_by_name) (by kernel_rfl)) (by exact Ev.name 1 sl1 rfl) (fun z9 z9=>rfl) (fun i x=>x.1.IsDictOf (kyKind MProg w) x.2∧LeftAt row kvs i x.2) (fun z9 m=>m) (fun x=>TL w.params A C ((S,x.1)::(X++(M,listOf #[] 0)::RR))) (o,kvs) ⟨ho,LeftAt.zero K.held.bn⟩ .rfl rfl (fun x=>mem_R (.tail _ (List.mem_append_right _ (.tail _ hrm)))) ?_ ?_
 ·rintro I I' o1 o2 i v ⟨o,lf⟩ hv ⟨hd,hL⟩ Q' next _ _
  dsimp only at hd hL next ⊢
  have hi:=(List.getElem?_eq_some_iff.mp hv).1
  obtain ⟨t',e⟩:=ints_get K.rowv i (by exact hlv▸hi)
  have hg:row.getD i 0=row[i]:=by rw [List.getD_eq_getElem?_getD,List.getElem?_eq_getElem (by exact hlv▸hi)]; rfl
  rw [hv,hg] at e
  cases e
  have hLl:=hL.len
  refine HS.perm (tl_app [(I,o1),(I',o2)]) ?_
  refine HS.b_set (X:=[_,_]) (k:=.i ((i:Int)+1)) (V:=.i ((i:Int)+1)) rfl (by exact Ev.name 7 sl7 rfl) (by exact Ev.name 5 sl5 rfl) (by exact Ev.bin (Ev.name 3 sl3 rfl) Ev.int IOp.add) hd (fun v ⟨t,e⟩=>e▸decide_eq_true rfl) (by show lf.length≤1000; exact lq [_,_,_,_,_] [] [.e Nq Nr,.l Nr (.k 24),.l Ns (.k 100),.t (.n 3) Nq,.l (.n 4) (.a Ns (.n 3))] (.l (.n 4) (.k 1000)) [[11111010]] rfl hlv hl hbz hi hLl) fun o' hd'=>?_
  refine HS.nil (HS.done ?_)
  exact next (o',_) _ _ ⟨hd',hL.step (by exact hlv▸hi)⟩ (by exact NM.Sub.same rfl (NM.Sub.same rfl (NM.Sub.same rfl (NM.Sub.same rfl (NM.Sub.same rfl NM.Sub.nil))))) ⟨[],(tl_app [(I,o1),(I',o2)]).symm⟩
 ·rintro ⟨o,lf⟩ ⟨hd,hL⟩
  dsimp only at hd hL ⊢
  rw [hlv] at hL
  have hLl:=hL.len
  have hcnt:=hL.count K.held
  refine HS.whileU (X:=Turn C) Turn.ok (fun x m=>m.put 6 (.v x.r)) (fun x=>TL w.params A C ((S,o)::(x.X++(M,listOf x.ms.toArray x.e)::RR))) (fun x=>x.l.length) ⟨[],_,0,r,X,[],0⟩ ⟨rfl,rfl,hP,rfl⟩ (by exact NM.Sub.same rfl (NM.Sub.same rfl (NM.Sub.same rfl (NM.Sub.same rfl (NM.Sub.same rfl NM.Sub.nil))))) rfl ?_
  rintro ⟨pre,l,p,r,X,ms,e⟩ ⟨hE,hp,hP,hms⟩ Q' next _ _
  dsimp only at hE hp hP hms next ⊢
  have hml:ms.length=pre.length:=by have:=congrArg List.length hms; simpa using this
  have hpl:pre.length≤lf.length:=by rw [← hcnt,hE,List.length_append]; exact Nat.le_add_right _ _
  cases l with
  | nil =>
   obtain ⟨rfl,rfl⟩:=hP
   rw [List.append_nil] at hE
   have hmz:ms.length < 2 ^ 62:=by exact lq [_,_,_,_,_] [] [.l Nq (.k 24),.l Nr (.k 100),.l Ns (.a Nr Nq),.e (.n 3) (.n 4),.l (.n 4) Ns] (.t (.n 3) (.k 4611686018427387904)) [[11011110]] rfl hl hbz hLl hml hpl
   have hlf:lf.length≤1000:=by exact lq [_,_,_] [] [.l Nq (.k 24),.l Nr (.k 100),.l Ns (.a Nr Nq)] (.l Ns (.k 1000)) [] rfl hl hbz hLl
   refine Tst.mk' (Ev.isNot (Ev.name 6 sl6 rfl)) (fun z9=>(False.elim (by contradiction))) (fun z9=>?_)
   refine HS.retH (P:=fun v l=>v=.bool true∧l=LL w.params A C ra ba rv re bo p1 p2 p3 J) (HE.fin (P:=fun v l=>v=.bool true∧l=TL w.params A C ((S,o)::(M,listOf ms.toArray e)::RR)) (Ev.toHE (V:=.b ((ms.length:Int)=lf.length)) (Ev.cmp (a:=(ms.length:Int)) (b:=(lf.length:Int)) (by exact Ev.callB rfl (Ev.blt 10 sl10 (by k_is) (by boot_by_name) (by kernel_rfl)) (Evs.cons rfl (Ev.name 4 sl4 rfl) Evs.nil) (CT.len (mem_R (.tail _ (List.mem_append_right [] List.mem_cons_self))) hmz)) (by exact Ev.callB rfl (Ev.blt 10 sl10 (by k_is) (by boot_by_name) (by kernel_rfl)) (Evs.cons rfl (Ev.name 5 sl5 rfl) Evs.nil) (CT.lenD (mem_R List.mem_cons_self) hd hSlo hlf)) ICmp.eq rfl) ?_) fun v l ⟨e1,e2⟩=>⟨_,_,e2▸hend _ _,e1,rfl⟩) fun z9 z9 h=>h
   rintro _ ⟨b,rfl,hb⟩
   have:b=true:=hb.mpr (by rw [hml,← hcnt,hE])
   exact ⟨this▸rfl,rfl⟩
  | cons kv l =>
   obtain ⟨T,key,rfl,rfl,hkey⟩:=hP
   obtain ⟨k,v⟩:=kv
   obtain ⟨a1,a2⟩:=ents_look hT.wf (show (k,v)∈ents C 0 by rw [hE]; simp)
   dsimp only at a1 a2 hkey
   have hs0:=hT.live k (by rw [a1]; exact a2)
   obtain ⟨x,tx,tx',e1,e2⟩:=hL.look K.held (k:=k) (by rw [a1]; exact a2)
   rw [a1] at e1
   subst e1
   have hok:=ok_of_s0 hkey hs0
   have hkk:(kyKind MProg w).is k key=true:=decide_eq_true hkey
   have hnk:k ∉ pre.map (·.1):=by
    have hn:=ents_nodup hT.wf _ 0 rfl
    rw [hE,List.map_append,List.map_cons] at hn
    exact fun h=>(List.nodup_append.mp hn).2.2 _ h _ (.head _) rfl
   refine Tst.mk' (by exact Ev.isNot (Ev.name 6 sl6 rfl)) (fun z9=>?_) (fun h=>(h fun e=>by cases e).elim)
   refine HS.assignT2 (P:=fun v l'=>v=.ref T∧l'=TL w.params A C ((S,o)::(T,tupObj #[key,.int x tx])::(M,listOf ms.toArray e)::RR)) _ _ (by (exact sl8)) (by (exact sl9)) (fun z9=>rfl) (fun z9=>rfl) (Ev.toHE (V:=.v (.ref T)) (by exact Ev.name 6 sl6 rfl) fun v hv=>⟨hv,rfl⟩) ?_
   rintro _ _ ⟨rfl,rfl⟩
   refine ⟨T,key,_,rfl,mem_R (.tail _ (.head _)),?_⟩
   refine HS.drop (r:=[(T,_)]) tl_in ?_
   refine HS.ff (p:=False) (EvT.orsF (List.forall_mem_cons.mpr ⟨?_,List.forall_mem_cons.mpr ⟨?_,List.forall_mem_cons.mpr ⟨?_,fun z9 h=>by cases h⟩⟩⟩)) id ?_
   ·exact (EvT.cmpV' (nb rfl) (by exact Ev.name 8 sl8 rfl) (by exact Ev.name 4 sl4 rfl) rfl (CmpIs.keysIn (mem_R (.tail _ (.head _))) hms hkey hnk)).f rfl
   ·exact (EvT.cmpV' (nb rfl) (by exact Ev.name 8 sl8 rfl) (by exact Ev.name 5 sl5 rfl) rfl (CmpIs.notInD (mem_R (.head _)) hd hSlo hkk e2)).f rfl
   ·exact EvT.congr (EvT.cmp (a:=x) (b:=x) (Ev.toI (Ev.itemD (by exact Ev.name 5 sl5 rfl) (by exact Ev.name 8 sl8 rfl) rfl (mem_R (.head _)) hd hkk e2)) (by exact Ev.nameI 9 sl9 rfl) ICmp.ne rfl) (by simp)
   refine HS.nil ?_
   refine HS.expr rfl (HE.l_append (rv:=ms) (n:=e) (l':=TL w.params A C ((S,o)::(M,listOf (ms++[key]).toArray (e+1))::RR)) rfl rfl rfl (by exact Ev.name 4 sl4 rfl) (by exact Ev.name 8 sl8 rfl) (by exact .tail _ (.tail _ (.tail _ (.tail _ (List.mem_append_right (Mine.nodesFrom w.params C.na 0 C.nodes) (.tail _ List.mem_cons_self)))))) (by exact lq [_,_,_,_,_] [] [.l Nq (.k 24),.l Nr (.k 100),.l Ns (.a Nr Nq),.e (.n 3) (.n 4),.l (.n 4) Ns] (.l (.n 3) (.k 1000)) [[11011110]] rfl hl hbz hLl hml hpl) (Rep.tl (.tail .head))) ?_
   rintro _ _ ⟨rfl,rfl⟩
   refine HS.assignH _ (by (exact sl6)) rfl (HE.meth (by exact Ev.cell 0 sl0 rfl (mem_R (.tail _ (.tail _ hcm))) hct) InsAt.tab (by (exact ⟨by k_is,by k_is,by k_is,by k_is⟩)) rfl rfl (by exact Evs.cons rfl (Ev.name 8 sl8 rfl) Evs.nil) (nb rfl) (spec_next' A C _ key k _ p l hT.wf hok hkey hp.symm)) ?_
   rintro r _ ⟨X,rfl,hP',p',hp'⟩
   refine HS.perm ((tl_congr List.perm_middle.symm).trans (tl_app X)) ?_
   refine HS.nil (HS.done ?_)
   exact next ⟨pre++[(k,.int x tx)],l,p',r,X,ms++[key],e+1⟩ _ ⟨by rw [hE]; simp,hp',hP',by rw [List.map_append,hms]; simp [hkey]⟩ (by simp) (by exact NM.Sub.same rfl (NM.Sub.same rfl (NM.Sub.same rfl (NM.Sub.same rfl (NM.Sub.same rfl NM.Sub.nil)))))
end
section
open PyProof.Rows.LCg PyProof.V
variable {prog:Program} {w:World} {A:Around} {E:Value→Shared→Prop} {s:Shared} {h₀:Heap} {L:Addr} {m:Names} {env:Env}
noncomputable def ZPost (h₀:Heap) (L:Addr) (m:Names) (s:Shared) (led:Led) (okb:Bool) (s₃:Shared):Prop:=okb=false∧∃ h' tk',s₃={ s with heap:=h',toks:=tk' }∧Fr h₀ L h' m∧News h₀ L h' led
theorem zpost {h₀ h':Heap} {L:Addr} {m:Names} {s:Shared} {led:Led} {tk:Nat} (F:Fr h₀ L h' m) (N:News h₀ L h' led):ZPost h₀ L m s led false { s with heap:=h',toks:=tk }:=⟨rfl,h',tk,rfl,F,N⟩
noncomputable def ZTest (prog:Program) (w:World) (A:Around) (h₀:Heap) (L:Addr) (m:Names) (env:Env) (c:PySem.Expr) (a b:Str) (scope:Scope) (cl:List (Str×Addr)) (s:Shared) (led:Led) (x y:Value):Prop :=
 ∀ (its:Led) (C:Addr) (oC:Obj) (D:Addr) (m₂:Names) (h:Heap) (tk:Nat) (E':Value→Shared→Prop),NsObj oC m₂→m₂ a=some x→m₂ b=some y→Fr h₀ L h m →
  News h₀ L h (its++(C,oC)::(D,lst [])::led)→Apart (its++(C,oC)::(D,lst [])::led) →
  wpAny (model prog w) A (isTrue c (compEnvC scope cl C env) (eval c (compEnvC scope cl C env))) (ZPost h₀ L m s (its++(C,oC)::(D,lst [])::led)) E' { s with heap:=h,toks:=tk }
theorem nodup_apart {ws:List Addr} {its led:Led} (e:its.map (·.1)=ws) (hw:ws.Nodup) (D:Apart led) (off:∀ p∈led,p.1 ∉ ws):Apart (its++led):=by
 unfold Apart at D ⊢
 rw [List.map_append,e,List.nodup_append]
 refine ⟨hw,D,fun x hx y hy q=>?_⟩
 obtain ⟨p,hp,rfl⟩:=List.mem_map.mp hy
 exact off p hp (q▸hx)
theorem zc_block {elt iter c:PySem.Expr} {a b:Str} {pa pb tp:Pos} {kk:Nat} {scope:Scope} {cl:List (Str×Addr)} {pos:Pos} {s₂:Shared} {I:Addr} {fp wr ws:List Addr} {n:Nat} {P Md:Nat→Value→Heap→Prop} {St:Nat→Heap→Prop} {PX:Nat→Value→Value→Prop} {led:Led}
  {RR:Value→Addr→Result→Shared→Prop} (W:KTurns prog w A (.Tuple [.Name a pa,.Name b pb] kk tp) I fp wr n P Md St)
  (hP:∀ i v h,P i v h→∃ T x y,v=.ref T∧h.IsTuple T #[x,y]∧PX i x y) (hobj:∀ i h,St i h→∃ its:Led,its.map (·.1)=ws∧∀ p∈its,h.get? p.1=some p.2)
  (hfp:∀ b∈fp,b∈ws∨∃ o,(b,o)∈led) (hwr:∀ b∈wr,b∈ws) (hws:∀ b∈ws,h₀.get? b=none∧b < s₂.heap.objs.size∧b≠L) (hnd:ws.Nodup) (off:∀ p∈led,p.1 ∉ ws)
  (hself:∀ h (Q:Value→Shared→Prop) (E:Value→Shared→Prop),St 0 h→∀ tk,Q (.ref I) { s₂ with heap:=h,toks:=tk }→wpAny (model prog w) A (pyIter (.ref I)) Q E { s₂ with heap:=h,toks:=tk })
  (hcell:∀ y∈scope.names,y.2≠.cell) (hkind:scope.kind=.function) (hxa:scope.names.lookup a=some .local) (hxb:scope.names.lookup b=some .local) (hab:¬ a=b) (hh:A.handled=none)
  (hst:St 0 s₂.heap) (F:Fr h₀ L s₂.heap m) (N:News h₀ L s₂.heap led) (D:Apart led)
  (turn:∀ i x y,i < n→PX i x y→ZTest prog w A h₀ L m env c a b scope cl s₂ led x y)
  (hRR:∀ D C h tk m',Fr h₀ L h m→News h₀ L h ((D,lst [])::led)→Apart ((D,lst [])::led)→h.Ns C m'→h₀.get? C=none→h₀.get? D=none→C≠L→D≠L→C≠D→(∀ p∈led,p.1≠C)→RR (.ref D) C (.ok .next) { s₂ with heap:=h,toks:=tk }) :
  wpAny (model prog w) A (newList []) (fun acc s₃=>wpAny (model prog w) A (newFunctionEnv scope env.globals cl [] env.qual none .none (some env)) (fun cenv s₄ =>
   codeAny (model prog w) A (.compStart (.ListComp elt [⟨.Tuple [.Name a pa,.Name b pb] kk tp,iter,[c],0⟩] scope pos) 0 (.ref I) acc { cenv with scope:=relabel scope env }) (RR acc cenv.locals) s₄) E s₃) E s₂:=by
 refine wpAny_newObj_type (wpAny_newFunctionEnv hcell (by intro y hy; simp at hy) (fun h₁ hns₁ hsb₁=>?_) hkind)
 dsimp only at hns₁ hsb₁ ⊢
 generalize hH2:s₂.heap.push { cls:=.type "list",dict:=none,data:=.seq ([]:List Value).toArray }=H2 at hns₁ hsb₁ ⊢
 have hC:H2.objs.size=s₂.heap.objs.size+1:=by rw [← hH2,Heap.size_push]
 have hDC:s₂.heap.objs.size≠H2.objs.size:=by rw [hC]; exact Nat.ne_of_lt (Nat.lt_succ_self _)
 have below:∀ b,b < s₂.heap.objs.size→b≠H2.objs.size∧b≠s₂.heap.objs.size:=fun b hb=>⟨by rw [hC]; exact Nat.ne_of_lt (Nat.lt_succ_of_lt hb),Nat.ne_of_lt hb⟩
 have old:∀ b o,s₂.heap.get? b=some o→h₁.get? b=some o:=fun b o e=>hsb₁.extBut b o (below b (Heap.lt_size e)).1 (Heap.get?_push_of_some _ (hH2▸Heap.get?_push_of_some _ e))
 have hacc:h₁.get? s₂.heap.objs.size=some (lst []):=hsb₁.extBut _ _ hDC (Heap.get?_push_of_some _ (hH2▸Heap.get?_push_size _ rfl))
 have hst₁:St 0 h₁:=W.frame _ _ _ hst fun b z9 o e=>old b o e
 have fresh₀:∀ a,s₂.heap.objs.size≤a→h₀.get? a=none:=fun a ha=>by
  cases e:h₀.get? a with
  | none=>rfl
  | some o'=>exact absurd (Heap.lt_size (F.keep a o' e)) (Nat.not_lt.mpr ha)
 have hD₀:h₀.get? s₂.heap.objs.size=none:=fresh₀ _ (Nat.le_refl _)
 have hC₀:h₀.get? H2.objs.size=none:=fresh₀ _ (by rw [hC]; exact Nat.le_succ _)
 have hLlt:L < s₂.heap.objs.size:=F.ns.lt
 have hDL:s₂.heap.objs.size≠L:=Ne.symm (below L hLlt).2
 have hCL:H2.objs.size≠L:=Ne.symm (below L hLlt).1
 have hCw:H2.objs.size ∉ ws:=fun h=>(below _ (hws _ h).2.1).1 rfl
 have hDw:s₂.heap.objs.size ∉ ws:=fun h=>(below _ (hws _ h).2.1).2 rfl
 have hLw:L ∉ wr:=fun h=>(hws _ (hwr _ h)).2.2 rfl
 have hlC:∀ p∈led,p.1≠H2.objs.size:=fun p hp=>(below _ (Heap.lt_size (N p hp).1)).1
 have hlD:∀ p∈led,p.1≠s₂.heap.objs.size:=fun p hp=>(below _ (Heap.lt_size (N p hp).1)).2
 have hDd:∀ {o:Obj},Apart ((H2.objs.size,o)::(s₂.heap.objs.size,lst [])::led):=fun {o}=>apart_on (fun q hq=>by
  rcases List.mem_cons.mp hq with rfl | hq
  ·exact hDC
  ·exact hlC q hq) (apart_on hlD D)
 have loop:∀ s₃:Shared,s₃={ s₂ with heap:=h₁,toks:=s₂.toks+([]:List (Str×Value)).length } →
   codeAny (model prog w) A (.compLoop (.ListComp elt [⟨.Tuple [.Name a pa,.Name b pb] kk tp,iter,[c],0⟩] scope pos) 0 (.ref I) (.ref s₂.heap.objs.size) (compEnvC scope cl H2.objs.size env))
    (RR (.ref s₂.heap.objs.size) H2.objs.size) s₃:=by
  rintro s₃ rfl
  refine kct_loop (fun k s'=>∃ h' tk i m',s'={ s₂ with heap:=h',toks:=tk }∧i≤n∧k=n+1 - i∧St i h'∧Fr h₀ L h' m∧h'.Ns H2.objs.size m'∧News h₀ L h' ((s₂.heap.objs.size,lst [])::led)) ?_ (n+1)
   ⟨h₁,_,0,_,rfl,Nat.zero_le _,rfl,hst₁,F.keeps old,hns₁,fun p hp=>?_⟩
  ·rintro k s' ⟨h',tk,i,m',rfl,hi,rfl,hst',F',hn',N'⟩
   by_cases hlt:i < n
   ·refine W.item i _ _ _ hlt hst' fun v h₂ tk₂ hMd hk₂=>?_
    refine W.go i v _ _ _ hMd fun h₃ hP₃ hst₃ hk₃=>?_
    obtain ⟨T,x,y,rfl,hT,hX⟩:=hP i v h₃ hP₃
    have up₃:∀ c o,c ∉ wr→h'.get? c=some o→h₃.get? c=some o:=fun c o hc e=>hk₃ c o hc (hk₂ c o hc e)
    have hCr:H2.objs.size ∉ wr:=fun h=>hCw (hwr _ h)
    refine kcp_assign (env:=compEnvC scope cl H2.objs.size env) hh hT (lookup_relabel_local hxa) (lookup_relabel_local hxb) (by simp [compEnvC,relabel,hkind]) (hn'.at' fun o e=>up₃ _ o hCr e) fun h₄ tk₄ hn₄ hs₄=>?_
    have up:∀ c o,c ∉ wr→c≠H2.objs.size→h'.get? c=some o→h₄.get? c=some o:=fun c o h1 h2 e=>hs₄ c o h2 (up₃ c o h1 e)
    have hst₄:St (i+1) h₄:=W.frame _ _ _ hst₃ fun b hb o e=>hs₄ b o (by
     rcases hfp b hb with h | ⟨o',h⟩
     ·exact (below b (hws b h).2.1).1
     ·exact hlC _ h) e
    obtain ⟨its,hits,hget⟩:=hobj _ _ hst₄
    obtain ⟨oC,heC,hoC⟩:=ns_obj hn₄
    have F₄:Fr h₀ L h₄ m:=⟨F'.ns.at' fun o e=>up _ o hLw (Ne.symm hCL) e,fun c o e=>up c o (fun q=>by rw [(hws c (hwr c q)).1] at e; cases e) (fun q=>by rw [q,hC₀] at e; cases e) (F'.keep c o e),F'.above⟩
    have hiw:∀ p∈its,p.1∈ws:=fun p hp=>hits▸List.mem_map_of_mem hp
    have N₄:News h₀ L h₄ (its++(H2.objs.size,oC)::(s₂.heap.objs.size,lst [])::led):=fun q hq=>by
     rcases List.mem_append.mp hq with hq | hq
     ·exact ⟨hget q hq,(hws _ (hiw q hq)).2.2,(hws _ (hiw q hq)).1⟩
     rcases List.mem_cons.mp hq with rfl | hq
     ·exact ⟨heC,hCL,hC₀⟩
     ·have z:=N' q hq
      refine ⟨up _ _ ?_ ?_ z.1,z.2⟩
      ·rcases List.mem_cons.mp hq with rfl | hq
       ·exact fun h=>hDw (hwr _ h)
       ·exact fun h=>off q hq (hwr _ h)
      ·rcases List.mem_cons.mp hq with rfl | hq
       ·exact hDC
       ·exact hlC q hq
    have D₄:Apart (its++(H2.objs.size,oC)::(s₂.heap.objs.size,lst [])::led):=nodup_apart hits hnd hDd fun p hp=>by
     rcases List.mem_cons.mp hp with rfl | hp
     ·exact hCw
     rcases List.mem_cons.mp hp with rfl | hp
     ·exact hDw
     ·exact off p hp
    refine wpAny_mono (turn i x y hlt hX its H2.objs.size oC s₂.heap.objs.size _ h₄ _ _ hoC (by simp [hab]) (by simp) F₄ N₄ D₄) (fun okb s₅ h₅=>?_) fun z9 z9 e=>e
    obtain ⟨rfl,h₅,tk₅,rfl,F₅,N₅⟩:=h₅
    simp only [Bool.false_eq_true,if_false]
    have hst₅:St (i+1) h₅:=W.frame _ _ _ hst₄ fun b hb o e=>by
     rcases hfp b hb with h | ⟨o',h⟩
     ·rw [← hits] at h
      obtain ⟨p,hp,rfl⟩:=List.mem_map.mp h
      rw [hget p hp] at e
      cases e
      exact (N₅ p (List.mem_append_left _ hp)).1
     ·have h1:=(N₄ _ (List.mem_append_right _ (.tail _ (.tail _ h)))).1
      rw [h1] at e
      cases e
      exact (N₅ _ (List.mem_append_right _ (.tail _ (.tail _ h)))).1
    exact ⟨n+1 - (i+1),by exact lq [_,_,_,_] [] [.t Nq Nr,.sb 2 (.a Nr Kr) (.a Nq Kr),.sb 3 (.a Nr Kr) Nq] (.t Ns (.n 3)) [[1100100],[1010100],[],[1001110]] rfl hlt rfl rfl,h₅,tk₅,i+1,_,rfl,hlt,rfl,hst₅,F₅,hoC.ns (N₅ _ (List.mem_append_right _ (.head _))).1,fun q hq=>N₅ q (List.mem_append_right _ (.tail _ hq))⟩
   ·have hin:i=n:=Nat.le_antisymm hi (Nat.not_lt.mp hlt)
    subst hin
    refine W.done _ _ _ hst' fun h₂ tk₂ hk₂=>?_
    exact hRR _ _ h₂ tk₂ _ ⟨F'.ns.at' fun o e=>hk₂ _ o hLw e,fun c o e=>hk₂ c o (fun q=>by rw [(hws c (hwr c q)).1] at e; cases e) (F'.keep c o e),F'.above⟩
     (fun q hq=>⟨hk₂ _ _ (by
      rcases List.mem_cons.mp hq with rfl | hq
      ·exact fun h=>hDw (hwr _ h)
      ·exact fun h=>off q hq (hwr _ h)) (N' q hq).1,(N' q hq).2⟩) (apart_on hlD D) (hn'.at' fun o e=>hk₂ _ o (fun h=>hCw (hwr _ h)) e) hC₀ hD₀ hCL hDL (Ne.symm hDC) hlC
  ·rcases List.mem_cons.mp hp with rfl | hp
   ·exact ⟨hacc,hDL,hD₀⟩
   ·exact ⟨old _ _ (N p hp).1,(N p hp).2⟩
 exact codeAny_compStart_list (loop _ rfl) (hself _ _ _ hst₁ _ (loop _ rfl))
noncomputable def ZSrc (prog:Program) (w:World) (A:Around) (h₀:Heap) (L:Addr) (m:Names) (env:Env) (c:PySem.Expr) (a b:Str) (scope:Scope) (cl:List (Str×Addr)) (Q:Value→Shared→Prop) (xv:Value) (s₁:Shared):Prop :=
 ∀ X:Prop,(∀ I:Addr,xv=.ref I→∀ (fp wr ws:List Addr) (n:Nat) (Pt:Nat→Array Value→Prop) (Mid:Nat→Addr→Heap→Prop) (St:Nat→Heap→Prop) (PX:Nat→Value→Value→Prop) (led:Led),A.handled=none→WalksU prog w A I fp wr n Pt St Mid →
  (∀ i vals,Pt i vals→∃ x y,vals=#[x,y]∧PX i x y)→(∀ i h,St i h→∃ its:Led,its.map (·.1)=ws∧∀ p∈its,h.get? p.1=some p.2) →
  (∀ b∈fp,b∈ws∨∃ o,(b,o)∈led)→(∀ b∈wr,b∈ws)→(∀ b∈ws,h₀.get? b=none∧b < s₁.heap.objs.size∧b≠L)→ws.Nodup→(∀ p∈led,p.1 ∉ ws) →
  (∀ h tk (Q:Value→Shared→Prop) (E:Value→Shared→Prop),St 0 h→Q (.ref I) { s₁ with heap:=h,toks:=tk }→wpAny (model prog w) A (pyIter (.ref I)) Q E { s₁ with heap:=h,toks:=tk }) →
  St 0 s₁.heap→Fr h₀ L s₁.heap m→News h₀ L s₁.heap led→Apart led→(∀ i x y,i < n→PX i x y→ZTest prog w A h₀ L m env c a b scope cl s₁ led x y) →
  (∀ D h tk,Fr h₀ L h m→News h₀ L h ((D,lst [])::led)→Apart ((D,lst [])::led)→Q (.ref D) { s₁ with heap:=h,toks:=tk })→X)→X
theorem zc_ListComp {elt iter c:PySem.Expr} {a b:Str} {pa pb tp:Pos} {kk:Nat} {scope:Scope} {cl:List (Str×Addr)} {pos:Pos} {Q:Value→Shared→Prop} (_F₀:Fr h₀ L s.heap m)
  (hclos:closureFor scope env=pure cl) (hcell:∀ y∈scope.names,y.2≠.cell) (hkind:scope.kind=.function)
  (hnames:∀ y∈scope.names,y.2=.local→scope.names.lookup y.1=some .local) (hxa:scope.names.lookup a=some .local) (hxb:scope.names.lookup b=some .local) (hab:¬ a=b)
  (h:wpAny (model prog w) A (eval iter env) (ZSrc prog w A h₀ L m env c a b scope cl Q) E s)
  (hs:∀ x,foldedSetIterable iter env x=pure x) :
  wpAny (model prog w) A (eval (.ListComp elt [⟨.Tuple [.Name a pa,.Name b pb] kk tp,iter,[c],0⟩] scope pos) env) Q E s:=by
 rw [eval_ListComp]
 refine wpAny_comprehension_free (use:=none) rfl hs hclos hkind hnames (wpAny_mono h (fun xv s₁ h₁=>?_) fun z9 z9 e=>e)
 refine h₁ _ fun I e=>?_
 subst e
 refine fun fp wr ws n Pt Mid St PX led hh W hPt hobj hfp hwr hws hnd off hself hst F N D turn hQ=>hself _ s₁.toks _ _ hst ?_
 refine zc_block (PX:=PX) (led:=led) (KTurns.ofWalksU W) ?_ hobj hfp hwr hws hnd off (fun h Q E hst tk q=>hself h tk Q E hst q) hcell hkind hxa hxb hab hh hst F N D turn ?_
 ·rintro i v h ⟨T,vals,rfl,hp,hT⟩
  obtain ⟨x,y,rfl,hx⟩:=hPt i vals hp
  exact ⟨T,x,y,rfl,hT,hx⟩
 ·intro D C h tk m' F' N' DA hn hC₀ hD₀ hCL hDL hCD offC
  refine ⟨m',hn,fun h'' hs''=>hQ D h'' tk (F'.change hs'' hCL hC₀) (fun p hp=>⟨hs''.extBut _ _ ?_ (N' p hp).1,(N' p hp).2⟩) DA⟩
  rcases List.mem_cons.mp hp with rfl | hp
  ·exact Ne.symm hCD
  ·exact offC p hp
theorem mem5 {α:Type} {P:α→Prop} {a b c d e:α} (h1:P a) (h2:P b) (h3:P c) (h4:P d) (h5:P e):∀ p∈[a,b,c,d,e],P p :=
 List.forall_mem_cons.2 ⟨h1,List.forall_mem_cons.2 ⟨h2,List.forall_mem_cons.2 ⟨h3,List.forall_mem_cons.2 ⟨h4,List.forall_mem_cons.2 ⟨h5,nofun⟩⟩⟩⟩⟩
theorem five {k b:Nat} (h:b∈[k+4,k+2,k+3,k,k+1]):k≤b∧b < k+5:=by
 obtain ⟨i,hi,rfl⟩:=List.mem_map.mp (show b∈[4,2,3,0,1].map (k+·) from h)
 exact ⟨Nat.le_add_right _ _,Nat.add_lt_add_left ((by decide:∀ i∈[4,2,3,0,1],i < 5) i hi) k⟩
theorem zip_src {c:PySem.Expr} {a b:Str} {scope:Scope} {cl:List (Str×Addr)} {l1 l2:Addr} {xs ys:List Value} {n1 n2:Nat} {led:Led} {Q:Value→Shared→Prop} (hh:A.handled=none) (F:Fr h₀ L s.heap m) (N:News h₀ L s.heap led) (D:Apart led) (hm1:(l1,listOf xs.toArray n1)∈led) (hm2:(l2,listOf ys.toArray n2)∈led)
  (turn:∀ (g:Heap) (i:Nat) (x y:Value),xs[i]?=some x→ys[i]?=some y→ZTest prog w A h₀ L m env c a b scope cl { s with heap:=g } led x y)
  (hQ:∀ D h tk,Fr h₀ L h m→News h₀ L h ((D,lst [])::led)→Apart ((D,lst [])::led)→Q (.ref D) { s with heap:=h,toks:=tk }) :
  wpAny (model prog w) A (call (.type "zip") [.ref l1,.ref l2]) (ZSrc prog w A h₀ L m env c a b scope cl Q) E s:=by
 have hax1:=N _ hm1
 have hax2:=N _ hm2
 have hl1:s.heap.IsList l1 xs.toArray:=PySem.IsL.isList (n:=n1) hax1.1
 have hl2:s.heap.IsList l2 ys.toArray:=PySem.IsL.isList (n:=n2) hax2.1
 have hlt1:l1 < s.heap.objs.size:=Heap.lt_size hax1.1
 have hlt2:l2 < s.heap.objs.size:=Heap.lt_size hax2.1
 have hLs:L < s.heap.objs.size:=F.ns.lt
 have Z:ZipApart (s.heap.objs.size+4) (s.heap.objs.size+2) (s.heap.objs.size+3) s.heap.objs.size (s.heap.objs.size+1) l1 l2:=ktu_apart _ _ _ hlt1 hlt2
 refine call_zip_2 hl1 hl2 fun h' hz hTI hTO hi1 hi2 hsz hk=>?_
 have W:=(WalksT.zip2 hh _ _ _ _ _ _ _ Z xs.toArray ys.toArray).toU (prog:=prog) (w:=w)
 refine fun X kX=>kX (s.heap.objs.size+4) rfl _ _ [s.heap.objs.size+4,s.heap.objs.size+2,s.heap.objs.size+3,s.heap.objs.size,s.heap.objs.size+1] _ _ _ _ (fun i x y=>xs[i]?=some x∧ys[i]?=some y) led hh W ?_ ?_ ?_ ?_ ?_ ?_ ?_ ?_ ?_ (F.keeps hk) (N.grown hk) D (fun i x y z9 h=>turn _ i x y h.1 h.2) hQ
 ·rintro i vals ⟨x,y,hx,hy,rfl⟩
  exact ⟨x,y,rfl,by simpa using hx,by simpa using hy⟩
 ·rintro i h ⟨hz,hTI,⟨a,b,hTO⟩,⟨o1,ho1,hc1,_⟩,⟨o2,ho2,hc2,_⟩,_⟩
  obtain ⟨q1,g1⟩:∃ o:Obj,h.get? (s.heap.objs.size+4)=some o:=⟨_,hz⟩
  obtain ⟨q2,g2⟩:∃ o:Obj,h.get? (s.heap.objs.size+2)=some o:=⟨_,hTI⟩
  obtain ⟨q3,g3⟩:∃ o:Obj,h.get? (s.heap.objs.size+3)=some o:=⟨_,hTO⟩
  exact ⟨[(s.heap.objs.size+4,q1),(s.heap.objs.size+2,q2),(s.heap.objs.size+3,q3),(s.heap.objs.size,o1),(s.heap.objs.size+1,o2)],rfl,mem5 (P:=fun p:Addr×Obj=>h.get? p.1=some p.2) g1 g2 g3 ho1 ho2⟩
 ·intro b hb
  rcases (List.mem_append (s:=[s.heap.objs.size+4,s.heap.objs.size+2,s.heap.objs.size+3,s.heap.objs.size,s.heap.objs.size+1]) (t:=[l1,l2])).mp hb with h | h
  ·exact .inl h
  ·rcases List.mem_cons.mp h with rfl | h
   ·exact .inr ⟨_,hm1⟩
   ·exact List.mem_singleton.mp h▸.inr ⟨_,hm2⟩
 ·intro b hb
  simp only [List.mem_cons,List.not_mem_nil,or_false] at hb ⊢
  rcases hb with h | h | h | h <;> simp [h]
 ·intro b hb
  have hb':=five hb
  exact ⟨ktu_new F hb'.1,by dsimp only; rw [hsz]; exact hb'.2,Nat.ne_of_gt (Nat.lt_of_lt_of_le hLs hb'.1)⟩
 ·exact List.Pairwise.map (R:=Ne) (s.heap.objs.size+·) (fun a b h e=>h (Nat.add_left_cancel e)) (show List.Nodup [4,2,3,0,1] by decide)
 ·exact fun p hp hb=>Nat.not_lt.mpr (five hb).1 (Heap.lt_size (N p hp).1)
 ·rintro h tk Q E ⟨hz,_⟩ q
  exact wpAny_pyIter_zip (s:={ s with heap:=h,toks:=tk }) hz q
 ·exact ⟨hz,hTI,⟨_,_,hTO⟩,hi1,hi2,hl1.at fun o e=>hk l1 o e,hl2.at fun o e=>hk l2 o e⟩
end
section
variable {prog:Program} {w:World} {A:Around} {E:Value→Shared→Prop} {s:Shared} {h₀:Heap} {L:Addr} {m:Names} {led led':Led}
theorem set_all {l v sl:Addr} {items new:Array Value} {n n':Nat} {Q:Unit→Shared→Prop} (ho:s.heap.get? l=some (listOf items n)) (hv:s.heap.get? v=some (listOf new n')) (hne:(l == v)=false) (hs:s.heap.IsSliceOf sl .none .none .none) (hz:items.size+new.size≤1000)
  (h:Q () { s with heap:=s.heap.update l (Obj.mapSeq (fun xs=>xs.extract 0 0++new++xs.extract items.size xs.size)) }):wpAny (model prog w) A (setItem (.ref l) (.ref sl) (.ref v)) Q E s:=by
 have hl:s.heap.IsList l items:=PySem.IsL.isList (n:=n) ho
 have hvl:s.heap.IsList v new:=PySem.IsL.isList (n:=n') hv
 obtain ⟨os,hos,hcs,hds⟩:=id hs
 have hTs:s.TypeIs (.ref sl) "slice":=⟨os,hos,hcs⟩
 unfold setItem
 try with_reducible refine wpAny_holding ?_
 first | refine wpAny_bind (wpAny_pure ?_) | skip
 refine wpAny_bind (wpAny_sequenceKey hl.typeIs (by decide) ?_)
 refine wpAny_bind (wpAny_callSpecial?_slot (name:=Str.ofString "__setitem__") hl.typeIs slot_list_setitem
  (wpAny_call_entry slot_list_setitem hl.typeIs entry_list_setitem ?_ (args_list_setitem _ _ _)))
 show wpAny _ _ (Builtin.List.listSubscript? (.ref sl) >>= _) _ _ s
 refine wpAny_bind (wpAny_bind (wpAny_specialOf hTs slice_no_index (wpAny_pure ?_)))
 show wpAny _ _ (typeOf (.ref sl) >>= _) _ _ s
 refine wpAny_bind (wpAny_typeOf hTs ?_)
 rw [if_neg (by decide),listSliceParts_eq]
 refine wpAny_bind (wpAny_bind (wpAny_field hos hds (x:=.none) rfl (wpAny_bind (wpAny_listPart .none ?_))))
 refine if_no rfl ?_
 refine wpAny_bind (wpAny_field hos hds (x:=.none) rfl (wpAny_bind (wpAny_listPart .none ?_)))
 refine wpAny_bind (wpAny_field hos hds (x:=.none) rfl (wpAny_bind (wpAny_listPart .none (wpAny_pure ?_))))
 refine if_no (show Builtin.List.listSameRef (.ref l) (.ref v)=false from hne) ?_
 refine wpAny_bind (wpAny_bind (wpAny_typeOf hvl.typeIs ?_))
 rw [if_pos (by decide)]
 refine wpAny_bind (wpAny_seqItems hv rfl (wpAny_pure ?_))
 refine wpAny_bind (wpAny_bind (wpAny_seqItems ho rfl (wpAny_pure ?_)))
 refine wpAny_bind (wpAny_of_eq (sliceIndices_raw none none none items.size (by decide)) ?_)
 rw [show (sliceBounds none none none items.size)=(0,((items.size:Nat):Int),1) by simp [sliceBounds]]
 dsimp only
 rw [if_pos (by decide)]
 refine wpAny_bind (wpAny_rule ?_)
 refine if_no (by unfold Builtin.List.listTooLong; rw [sizeLine_eq]; simp; exact Nat.le_trans hz (nb rfl)) ?_
 rw [show (max 0 (items.size:Int)).toNat=items.size from Int.toNat_natCast _]
 refine wpAny_bind (m:=updateSeq l _) (wpAny_updateSeq ho rfl (wpAny_bind (wpAny_letGo (wpAny_pure ⟨_,rfl,wpAny_pure h⟩))) (by rw [sizeLine_eq]; exact lq [_,_] [] [.l (.a Nq Nr) (.k 1000)] (.l Nq (.k 16777216)) [] rfl hz) (by rw [sizeLine_eq]; simp; exact lq [_,_] [] [.l (.a Nq Nr) (.k 1000)] (.l Nr (.k 16777217)) [] rfl hz))
theorem set_all_led {l v sl:Addr} {xs ys:List Value} {n n':Nat} {Q:Unit→Shared→Prop} (F:Fr h₀ L s.heap m) (N:News h₀ L s.heap led) (D:Apart led) (hv:(v,listOf ys.toArray n')∈led) (hne:(l == v)=false) (hs:s.heap.IsSliceOf sl .none .none .none) (U:Rep l (listOf xs.toArray n) (listOf ys.toArray n) led led')
  (hlen:ys.length=xs.length) (hz:xs.length≤400) (h:∀ h',Fr h₀ L h' m→News h₀ L h' led'→Apart led'→Q () { s with heap:=h' }):wpAny (model prog w) A (setItem (.ref l) (.ref sl) (.ref v)) Q E s:=by
 have hD':=(U.upd D).2
 have hU:=U.mem
 obtain ⟨pre,post,rfl,rfl⟩:=U.split
 have hx:=D.split
 have z:=N _ hU
 refine set_all z.1 (N _ hv).1 hne hs (by simp; exact lq [_,_] [] [.e Nq Nr,.l Nr (.k 400)] (.l (.a Nr Nq) (.k 1000)) [[12010]] rfl hlen hz) (h _ (F.change (Heap.SameBut.update ..) z.2.1 z.2.2) ?_ hD')
 refine kl_turn0 _ N hx.1 hx.2 ?_ (by simp [hlen])
 apply Array.toList_inj.mp
 simp
theorem ne_ints {a b:Addr} {us vs:List Value} {n n':Nat} {row:List Int} {Q:Value→Shared→Prop} (N:News h₀ L s.heap led) (h1:(a,listOf us.toArray n)∈led) (h2:(b,listOf vs.toArray n')∈led) (hi:IntsAre us row) (hj:IntsAre vs row)
  (hu:A.units+64 < cLine) (h:Q (.bool false) s):wpAny (model prog w) A (compareOp .NotEq (.ref a) (.ref b)) Q E s:=by
 have hl:∀ ns:List Int,PyData.canLayAll0 (ns.map PyData.int)=true:=by
  intro ns
  induction ns with
  | nil=>rfl
  | cons n r ih =>
   show (PyData.canLay0 (.int n) && PyData.canLayAll0 (r.map PyData.int))=true
   rw [ih]; rfl
 have hd:∀ ns:List Int,PyData.depthAll (ns.map PyData.int)=0:=by
  intro ns
  induction ns with
  | nil=>rfl
  | cons n r ih =>
   show max (PyData.depth (.int n)) (PyData.depthAll (r.map PyData.int))=0
   rw [ih]; rfl
 have hs:SeqAt.shaped (.list (row.map PyData.int))=true:=by
  unfold SeqAt.shaped
  rw [show (PyData.list (row.map PyData.int)).canLay0=true from hl row,show PyData.depth (.list (row.map PyData.int))=PyData.depthAll (row.map PyData.int)+1 from rfl,hd]
  rfl
 exact ne_dataH (Reads.list (N _ h1).1 rfl rfl (reads_ints hi)) (Reads.list (N _ h2).1 rfl rfl (reads_ints hj)) hs hs hu (by rw [SeqAt.eqv_refl _ (show (PyData.list (row.map PyData.int)).canLay0=true from hl row)]; exact h)
theorem updF_mid {d:Addr} {o:Obj} {post:Led} (hq:∀ p∈post,p.1≠d):∀ pre:Led,(∀ p∈pre,p.1≠d)→UpdF d o (pre++(d,o)::post) (fun o'=>pre++(d,o')::post)
 | [],_=>.head hq
 | q::r,hp=>.tail (hp q (.head _)) (updF_mid hq r fun p h=>hp p (.tail _ h))
theorem cell_led {M:Model} {P:Params} {A:TA} {C:TC} {Ar:Around} {cn:Str} {cs:Scope} {a c:Addr} {ccd:Value} {cl:List (Str×Addr)} {x:Str} {v:Value} {v₀:Option Value} {o:Obj} {X post:Led} {Q:Unit→Shared→Prop} (F:Fr h₀ L s.heap m) (N:News h₀ L s.heap (TL P A C (X++(c,o)::post))) (D:Apart (TL P A C (X++(c,o)::post))) (hl:(envX cn cs L a ccd cl).kindOf x=some .cell) (hk:cs.kind=.function) (hc:cl.lookup x=some c)
  (hd:o.data=.cell v₀) (h:∀ h' o',Fr h₀ L h' m→News h₀ L h' (TL P A C (X++(c,o')::post))→Apart (TL P A C (X++(c,o')::post))→o'.data=.cell (some v)→Q () { s with heap:=h' }):wpAny M Ar (storeName (envX cn cs L a ccd cl) x v) Q E s:=by
 simp only [tl_mid'] at N D h
 exact storeX_C F N hc (updF_mid D.split.2 _ D.split.1) hd (fun h' o' F' N' hd'=>h h' o' F' N' (Apart.upd D).2 hd') hk hl
end
noncomputable def keyOf (kd:Int) (x:Int):Int:=if kd=0 then x else if kd=1 then -x else x.fmod 4
theorem apart3 {L:Addr} {a b c:Obj} {led:Led} (D:Apart led) (lt:∀ p∈led,p.1 < L):Apart ((L+1+1+1,c)::(L+1+1,b)::(L+1,a)::led):=by
 have l1:∀ p∈(L+1,a)::led,p.1 < L+1+1:=fun p hp=>by
  rcases List.mem_cons.mp hp with rfl | hp
  ·exact Nat.lt_succ_self _
  ·exact Nat.lt_succ_of_lt (Nat.lt_succ_of_lt (lt p hp))
 refine ((D.cons fun q hq=>Nat.lt_succ_of_lt (lt q hq)).cons l1).cons fun p hp=>?_
 rcases List.mem_cons.mp hp with rfl | hp
 ·exact Nat.lt_succ_self _
 ·exact Nat.lt_succ_of_lt (l1 p hp)
theorem pm_srt {α:Type} (a b c t5 t4 t3:α) (Y:List α):(a::b::c::t5::t4::t3::Y).Perm (t3::a::b::c::t5::t4::Y) :=
 pq a [a,b,c,t5,t4,t3] [Y] (.c 0 (.c 1 (.c 2 (.c 3 (.c 4 (.c 5 (.s 0))))))) (.c 5 (.c 0 (.c 1 (.c 2 (.c 3 (.c 4 (.s 0))))))) rfl
section
variable {c:Cn} {m:NM} {l:Led} {pos:Pos} {ss:List Stmt} {K:List (List Stmt)} {Q:Flow→NM→Led→Prop} {Ar:Around} {g:Heap} {L:Addr} {s:Shared} {E:Value→Shared→Prop} {A:TA} {C:TC} {e e1 e2 o:PySem.Expr}
theorem store_cell {x:Str} {v:Value} {v₀:Option Value} {ca:Addr} {co:Obj} {X post:Led} {Q:Unit→Shared→Prop} {i:Nat} (hx:slot c.sh.sc.names i=some (x,.cell)) (hc:c.sh.cl.lookup x=some ca) (hco:co.data=.cell v₀) (T:Rt c Ar g L) (R:RS ⟨c,m,TL c.w.params A C (X++(ca,co)::post)⟩ g L s.heap)
  (k:∀ h' o',Obj.data o'=.cell (some v)→RS ⟨c,m,TL c.w.params A C (X++(ca,o')::post)⟩ g L h'→Q () { s with heap:=h' }):wpAny (Md c) Ar (storeName (c.sh.env L) x v) Q E s:=by
 obtain ⟨nm,F,H⟩:=R.F
 exact cell_led F R.N R.D (slot_lookup hx T.nd) T.kind hc hco fun h' o' F' N' D' hd'=>k h' o' hd' ⟨⟨nm,F',H⟩,N',D'⟩
theorem HS.assignC2 {x y:Str} {kt kv:Nat} {xp yp tp vp:Pos} {v₀:Option Value} {ca:Addr} {co:Obj} {post:Led} {P:List Value→Led→Prop} (i j:Nat) (hx:slot c.sh.sc.names i=some (x,.local)) (hy:slot c.sh.sc.names j=some (y,.cell)) (hc:c.sh.cl.lookup y=some ca) (hco:co.data=.cell v₀)
  (hs:∀ L,swapsWithSole [.Tuple [.Name x xp,.Name y yp] kt tp] (.Tuple [e1,e2] kv vp) pos.line (c.sh.env L)=pure false) (hw:∀ L,swappedStores [.Tuple [.Name x xp,.Name y yp] kt tp] (.Tuple [e1,e2] kv vp) (c.sh.env L)=pure none) (h:HEs ⟨c,m,l⟩ [e1,e2] P)
  (kk:∀ vs l',P vs l'→∃ (X:Led) (a b:Value),vs=[a,b]∧l'=TL c.w.params A C (X++(ca,co)::post)∧∀ o',Obj.data o'=.cell (some b)→HS c (ss::K) (m.set i (.v a)) (TL c.w.params A C (X++(ca,o')::post)) Q):HS c ((.Assign [.Tuple [.Name x xp,.Name y yp] kt tp] (.Tuple [e1,e2] kv vp) pos::ss)::K) m l Q :=
 HS.step fun z9 z9 z9 s T R=>Assign_Tuple (Tuple_ (h.use T R fun vs h' tk' l' p R1=>by
  obtain ⟨X,a,b,rfl,rfl,hk⟩:=kk vs l' p
  obtain ⟨nm,F,H⟩:=R1.F
  refine kup_newTuple F R1.N (fun D' h2 F2 N2 lt=>?_) (nb rfl)
  refine unpackN_ F2 N2 (News.isTup N2 (.head _)) T.C.n rfl rfl fun h₂ F₂ N₂=>?_
  refine assignInOrder_cons (assign_Name (store_slot (m:=m) (l:=TL c.w.params A C (X++(ca,co)::post)) (V:=.v a) hx rfl T ⟨⟨_,F₂,H⟩,News.sub N₂ fun z9 h=>.tail _ h,R1.D⟩ fun h₃ tk₃ R₃=>?_))
  exact assignInOrder_cons (assign_Name (store_cell hy hc hco T R₃ fun h₄ o' ho R₄=>assignInOrder_nil ⟨h₄,_,_,_,rfl,R₄,hk o' ho⟩)))) (hs _) (hw _)
theorem HS.defC {x:Str} {params:Arguments} {body:List Stmt} {scope:Scope} {dp:Pos} {qual:Str} {clos:List (Str×Addr)} {QS:List (Pos×Str)} {Z X post:Led} {P cd ca:Addr} {co:Obj} {v₀:Option Value} {ps:Array Value} (i:Nat) (hx:slot c.sh.sc.names i=some (x,.cell)) (hc:c.sh.cl.lookup x=some ca) (hco:co.data=.cell v₀)
  (hd0:params.defaults=[]) (hk0:params.kw_defaults=[]) (ha:∀ L,annTrees params none (c.sh.env L)=[]) (hql:∀ L,qualnameIn (c.sh.env L) x x=qual) (Hc:∀ h₀,(hd.heap_1_39 c.w.params).In h₀→CodeHd h₀ cd P) (hcd:c.sh.cd=.ref cd) (hI:TabOk QS ps Z) (hZ:∀ p∈Z,p∈X++(ca,co)::post) (hq:(dp,qual)∈QS)
  (hQ:∀ p∈QS,p.1.line=dp.line→p.1.col=dp.col→p.2=qual∧p.1=dp) (hcl:∀ L,closureFor scope (c.sh.env L)=pure clos)
  (kk:∀ f c' ctv doc fo J ps' o',fo=fnMade x qual params body scope clos doc ((c.mg "__name__").getD .none) c' ctv→CodeAt (J++Z) c' qual→TabOk QS ps' (J++Z)→Obj.data o'=.cell (some (.ref f))→HS c (ss::K) m (TL c.w.params A C (((P,tabObj ps')::(f,fo)::(J++X))++(ca,o')::post)) Q) :
  HS c ((.FunctionDef x params body [] none [] scope none x dp::ss)::K) m (TL c.w.params A C ((P,tabObj ps)::(X++(ca,co)::post))) Q:=by
 refine HS.step fun Ar g L s T R0=>nestDef_K hd0 hk0 (ha L) ?_
 obtain ⟨nm,F,H⟩:=R0.F
 obtain ⟨pv,lo,Tp⟩:=T.C.T
 rw [hql L]
 rw [tl_nil] at R0
 refine mk_def F R0.N R0.D Tp (Hc _ T.C.X) hcd hI hq hQ (hcl L) fun f c' oc vs t ctv doc J ps' h' tk F' N' D' h1 h2 h3 h4=>?_
 have e:∀ o':Obj,((P,tabObj ps')::(f,fnMade x qual params body scope clos doc ((c.mg "__name__").getD .none) c' ctv)::(J++X))++(ca,o')::post=(P,tabObj ps')::(f,fnMade x qual params body scope clos doc ((c.mg "__name__").getD .none) c' ctv)::(J++(X++(ca,o')::post)):=fun o'=>by simp
 refine store_cell (m:=m) (X:=(P,tabObj ps')::(f,fnMade x qual params body scope clos doc ((c.mg "__name__").getD .none) c' ctv)::(J++X)) hx hc hco T ?_ fun h₄ o' ho R₄=>⟨h₄,_,_,_,rfl,R₄,kk f c' ctv doc _ J ps' o' rfl ⟨oc,vs,t,h1,h2,h3⟩ h4 ho⟩
 rw [e]
 exact ⟨⟨nm,F',H⟩,News.perm N' tl_new,D'.perm tl_new⟩
theorem HE.l_meth {name:Str} {id:String} {H:Addr} {its:Array Value} {n:Nat} (hid:(name=Str.ofString "append"∧id="list.append")∨(name=Str.ofString "pop"∧id="list.pop")) (hc:noCall o=true) (ho:Ev ⟨c,m,l⟩ o (.v (.ref H))) (hm:(H,listOf its n)∈l) :
  HE ⟨c,m,l⟩ (.Attribute o name pos) fun v l'=>∃ q,v=.ref q∧l'=(q,boundOf id H)::l:=by
 intro Ar g L s T R
 refine Attribute_any_ (ho.use T R fun z9 z9 z9 ev R1=>?_) (att_of hc)
 cases ev
 obtain ⟨nm,F,Hn⟩:=R1.F
 rcases hid with ⟨rfl,rfl⟩ | ⟨rfl,rfl⟩
 ·exact get_append_led F R1.N R1.D hm fun q h' k' F' N' D'=>⟨h',k',m,(q,boundOf "list.append" H)::l,rfl,⟨⟨nm,F',Hn⟩,N',D'⟩,rfl,q,rfl,rfl⟩
 ·exact get_pop_led F R1.N R1.D hm fun q h' k' F' N' D'=>⟨h',k',m,(q,boundOf "list.pop" H)::l,rfl,⟨⟨nm,F',Hn⟩,N',D'⟩,rfl,q,rfl,rfl⟩
theorem HE.sortedI {vs:List Value} {ns:List Int} {n:Nat} {a:Addr} {f:PySem.Expr} (hn:noAtt f=true) (hs:isStar e=false) (hf:Ev ⟨c,m,l⟩ f (.v (.builtin "sorted"))) (he:Ev ⟨c,m,l⟩ e (.v (.ref a))) (hm:(a,listOf vs.toArray n)∈l) (hi:IntsAre vs ns) (hz:ns.length < 64) :
  HE ⟨c,m,l⟩ (.Call f [e] [] pos) fun v l'=>∃ D vs' ns' z,v=.ref D∧l'=(D,listOf (List.toArray vs') z)::l∧IntsAre vs' ns'∧ns'.Perm ns∧ns'.Pairwise (·≤·):=by
 intro Ar g L s T R
 refine Call_ (hf.use T R fun z9 z9 z9 ev R1=>?_) (callee_of hn)
 cases ev
 refine callWith_builtin1 (args_cons (he.use T R1 fun z9 z9 z9 ev R2=>args_nil ?_) (star_of hs)) (star_of hs) rfl
 cases ev
 obtain ⟨nm,F,Hn⟩:=R2.F
 exact kso_sorted F R2.N (PySem.IsL.isList (n:=n) (R2.N _ hm).1) hi hz fun D vs' ns' z h' F' N' lt i1 z9 p1 o1 z9=>⟨h',_,m,(D,listOf vs'.toArray z)::l,rfl,⟨⟨nm,F',Hn⟩,N',R2.D.cons lt⟩,rfl,D,vs',ns',z,rfl,rfl,i1,p1,o1⟩
end
section
variable {c:Cn} {m:NM} {l:Led} {pos:Pos} {ss:List Stmt} {K:List (List Stmt)} {Q:Flow→NM→Led→Prop} {e e1 e2 o:PySem.Expr}
theorem HS.setAll {sp op:Pos} {a b:Addr} {xs ys:List Value} {n n':Nat} {l':Led} (hc:noComp e=true) (he:Ev ⟨c,m,l⟩ e (.v (.ref b))) (ho:Ev ⟨c,m,l⟩ o (.v (.ref a))) (hm:(b,listOf ys.toArray n')∈l) (hne:(a == b)=false) (U:Rep a (listOf xs.toArray n) (listOf ys.toArray n) l l') (hlen:ys.length=xs.length) (hz:xs.length≤400)
  (kk:HS c (ss::K) m l' Q):HS c ((.Assign [.Subscript o (.Slice none none none sp) op] e pos::ss)::K) m l Q :=
 HS.step fun z9 z9 z9 s T R0=>wpAny_Assign_Subscript (he.use T R0 fun z9 z9 z9 hv R1=>ho.use T R1 fun z9 z9 z9 eo R2=>by
  cases hv; cases eo
  refine wpAny_Slice (evalPart_none_step (evalPart_none_step (evalPart_none_step ?_)))
  obtain ⟨nm,F,H⟩:=R2.F
  exact set_all_led (F.push _) (fun p hp=>⟨Heap.get?_push_of_some _ (R2.N p hp).1,(R2.N p hp).2⟩) R2.D hm hne (Heap.IsSliceOf.new ..) U hlen hz fun h' F' N' D'=>⟨h',_,m,l',rfl,⟨⟨nm,F',H⟩,N',D'⟩,kk⟩) (swaps_of hc)
theorem HE.methH {C f:Addr} {name:Str} {ap:Pos} {args:List PySem.Expr} {P1 P:Value→Led→Prop} (hev:∀ env,eval (.Call (.Attribute o name ap) args [] pos) env=(do
   let ov ← eval o env
   standAt ap.atName
   let (f,first) ← holding [ov] (getMethod ov name (do return (← importBound o env).getD true))
   callWith pos f first (backTo pos (starEach args env)) [])) (ho:HE ⟨c,m,l⟩ o P1) (hm:MethOk c.w.params C name f)
  (hne:args≠[]) (hs:args.all (fun e=>!isStar e)=true) (hr:∀ v l',P1 v l'→∃ r es,v=.ref r∧InsAt l' r C es∧getL name es=some none∧HEs ⟨c,m,l'⟩ args fun vs l''=>∃ d,d≤c.dep∧Spec c.w c.mean c.mg c.mb (.ref f) (.ref r::vs) d l'' P):HE ⟨c,m,l⟩ (.Call (.Attribute o name ap) args [] pos) P:=by
 intro Ar g L s T R
 refine MethodCall_ (ho.use T R fun v z9 z9 l' p R1=>?_) (hev _)
 obtain ⟨r,es,rfl,⟨dx,n,h1,h2⟩,hg,ha⟩:=hr v l' p
 obtain ⟨nm,F,H⟩:=R1.F
 refine method_inst F T.C.X (InstAt.of_news R1.N h1 h2) hm.pg hm.fi hm.fn hg ?_
 cases args with
 | nil=>exact absurd rfl hne
 | cons e es =>
  rw [List.all_cons,Bool.and_eq_true] at hs
  refine callWith_K (RS.In R1 T) hm.kp (ha.use (s:={ s with heap:=_,toks:=_ }) T R1 fun vs _ _ l'' ⟨d,hd,S⟩ R2=>⟨?_,spec_use (σ:=⟨c,m,l''⟩) hd S T R2 fun z9 z9 z9 z9 p R3=>HE.out (s:=s) R3 p⟩) (star_of (by simpa using hs.1)) (star_plain hs.2)
  exact RS.In (σ:=⟨c,m,l''⟩) R2 T
end
section
variable {c:Cn} {m:NM} {l:Led} {pos:Pos}
theorem HE.zipNone {a b:Str} {pa pb tp zp sp sp2:Pos} {kk:Nat} {elt tc fz e1 e2 lo:PySem.Expr} {scope:Scope} {cl:List (Str×Addr)} {l1:Addr} {xs:List Value} {n1:Nat} (hclos:∀ L,closureFor scope (c.sh.env L)=pure cl) (hcell:∀ y∈scope.names,y.2≠.cell) (hkind:scope.kind=.function)
  (hnames:∀ y∈scope.names,y.2=.local→scope.names.lookup y.1=some .local) (hxa:scope.names.lookup a=some .local) (hxb:scope.names.lookup b=some .local) (hab:¬ a=b) (hfold:∀ L x,foldedSetIterable (.Call fz [e1,.Subscript e2 (.Slice (some lo) none none sp) sp2] [] zp) (c.sh.env L) x=pure x)
  (hn:noAtt fz=true) (hs:isStar e1=false) (hf:EvS ⟨c,m,l⟩ fz (.v (.type "zip"))) (h1:EvS ⟨c,m,l⟩ e1 (.v (.ref l1))) (h2:EvS ⟨c,m,l⟩ e2 (.v (.ref l1))) (h3:EvS ⟨c,m,l⟩ lo (.i 1)) (hm:(l1,listOf xs.toArray n1)∈l) (hz:xs.length < 1000)
  (k:∀ l':Led,(∀ p∈l,p∈l')→∀ Ar g L nm s₁,Rt c Ar g L→∀ (i:Nat) (x y:Value),xs[i]?=some x→xs[i+1]?=some y→ZTest MProg c.w Ar g L nm (c.sh.env L) tc a b scope cl s₁ l' x y) :
  HE ⟨c,m,l⟩ (.ListComp elt [⟨.Tuple [.Name a pa,.Name b pb] kk tp,.Call fz [e1,.Subscript e2 (.Slice (some lo) none none sp) sp2] [] zp,[tc],0⟩] scope pos) fun v l'=>∃ D D2 o,v=.ref D∧l'=(D,LCg.lst [])::(D2,o)::l:=by
 intro Ar g L s T R
 obtain ⟨nm,F,H⟩:=R.F
 refine zc_ListComp F (hclos L) hcell hkind hnames hxa hxb hab (Call_ (hf _ _ _ _ _ _ T R fun v tk1 hv=>?_) (callee_of hn)) (hfold L)
 cases hv
 refine Pv.callWith_type1 (args_cons (h1 _ _ _ _ _ _ T R fun v tk1 hv=>?_) (star_of hs)) (star_of hs) rfl
 cases hv
 refine args_cons (Subscript_ (h2 _ _ _ _ _ _ T R fun v tk1 hv=>?_)) rfl
 cases hv
 refine wpAny_Slice (evalPart_some_step (h3 _ _ _ _ _ _ T R fun v tk1 ⟨t,hv⟩=>evalPart_none_step (evalPart_none_step ?_)))
 subst hv
 refine sl_cut F R.N R.D hm (.int 1 t) .none hz rfl fun D2 h' F2 N2 D2'=>args_nil ?_
 rw [pick_from (by (first | exact Int.natCast_nonneg _))] at N2 D2'
 refine zip_src (xs:=xs) (ys:=xs.drop (Int.toNat 1)) T.C.n F2 N2 D2' (.tail _ hm) (.head _) (fun g' i x y hx hy=>?_) (fun Dz h tk F' N' D'=>?_)
 ·rw [List.getElem?_drop,show Int.toNat 1+i=i+1 from Nat.add_comm _ _] at hy
  exact k _ (fun p hp=>.tail _ hp) _ _ _ _ _ T i x y hx hy
 ·exact ⟨h,tk,m,(Dz,LCg.lst [])::(D2,_)::l,rfl,⟨⟨nm,F',H⟩,N',D'⟩,rfl,Dz,D2,_,rfl,rfl⟩
theorem ztest_call {fn a b:Str} {p1 p2 p3 cp:Pos} {scope:Scope} {cl:List (Str×Addr)} {ca f:Addr} {co:Obj} {Rq:Led} {d:Nat} {x y:Value} (hkf:∀ L C,(compEnvC scope cl C (c.sh.env L)).kindOf fn=some .cell) (hka:∀ L C,(compEnvC scope cl C (c.sh.env L)).kindOf a=some .local) (hkb:∀ L C,(compEnvC scope cl C (c.sh.env L)).kindOf b=some .local) (hkind:scope.kind=.function)
  (hdf:(fn == Str.ofString "__debug__")=false) (hda:(a == Str.ofString "__debug__")=false) (hdb:(b == Str.ofString "__debug__")=false) (hcf:cl.lookup fn=some ca) (hm:(ca,co)∈l) (hv:co.data=.cell (some (.ref f))) (hq:CallsIn c.w Rq f) (hR:∀ p∈Rq,p∈l) (hd:d≤c.dep)
  (S:∀ led,(∀ p∈l,p∈led)→Spec c.w c.mean c.mg c.mb (.ref f) [y,x] d led fun r l1=>r=.bool false∧l1=led) {Ar:Around} {g:Heap} {L:Addr} {nm:Names} {s₁:Shared} (T:Rt c Ar g L):ZTest MProg c.w Ar g L nm (c.sh.env L) (.Call (.Name fn p1) [.Name b p2,.Name a p3] [] cp) a b scope cl s₁ l x y:=by
 intro its C oC D m₂ h tk E' hC ha hb F N D'
 have up:∀ p∈l,p∈its++(C,oC)::(D,LCg.lst [])::l:=fun p hp=>List.mem_append_right _ (.tail _ (.tail _ hp))
 have hmC:(C,oC)∈its++(C,oC)::(D,LCg.lst [])::l:=List.mem_append_right _ (.head _)
 refine isTrue_plain (Call_ (nm_Cc N (hkf _ _) hcf (up _ hm) hv hdf hkind ?_) (callee_of rfl)) (test_of rfl)
 refine callWith_kept hq (args_cons (LCgL.ld_own N hmC hC hb ?_ hkind (hkb _ _) hdb) rfl) rfl rfl
 refine args_cons (LCgL.ld_own N hmC hC ha ?_ hkind (hka _ _) hda) rfl
 refine args_nil ⟨kept_of hq F T.C.X N fun p hp=>up p (hR p hp),Spec.use (S _ up) T.C F N D' hd ?_⟩
 rintro _ _ h' tk' F' N' D' ⟨rfl,rfl⟩
 exact wpAny_truthy_bool (zpost F' N')
end
theorem Ev.congrB {σ:St} {e:PySem.Expr} {p q:Prop} (h:Ev σ e (.b p)) (i:p↔q):Ev σ e (.b q):=by rw [← propext i]; exact h
theorem CmpIs.neInts {w:World} {l:Led} {a b:Addr} {us vs:List Value} {n n':Nat} {row:List Int} (h1:(a,listOf us.toArray n)∈l) (h2:(b,listOf vs.toArray n')∈l) (hi:IntsAre us row) (hj:IntsAre vs row):CmpIs w .NotEq (.ref a) (.ref b) l false :=
 fun hu N k=>ne_ints N h1 h2 hi hj hu (k _)
theorem hap_three {cm:Names} {x y z:Str} {led:Led} (L:Addr) (cells:Led) (Y:CellsAre cm [(x,L+1+1+1),(y,L+1+1),(z,L+1)] cells) (D:Apart led) (lt:∀ p∈led,p.1 < L):Apart (cells++led):=by
 obtain ⟨o₁,o₂,o₃,rfl,_⟩:=Y.three
 exact apart3 D lt
theorem HS.apart {c:Cn} {m:NM} {l:Led} {a:List Stmt} {K:List (List Stmt)} {Q:Flow→NM→Led→Prop} (h:Apart l→HS c (a::K) m l Q):HS c (a::K) m l Q:=fun Ar g L s T R=>h R.D Ar g L s T R
theorem EvT.neNil {c:Cn} {m:NM} {l:Led} {e1:PySem.Expr} {lp pos:Pos} {P1:Value→Led→Prop} (hd:3≤c.dep) (h1:HE ⟨c,m,l⟩ e1 P1) (k:∀ v l1,P1 v l1→(∃ r,(r++l).Perm l1)∧∃ a n,v=.ref a∧(a,listOf (List.toArray []) n)∈l1):EvT ⟨c,m,l⟩ (.Compare e1 [.NotEq] [.List [] lp] pos) False :=
 (EvT.cmpH (P2:=fun v u l2=>∃ l1 a,P1 v l1∧u=.ref a∧l2=(a,listOf #[] 0)::l1) hd h1 (fun v l1 p=>HE.list0.mono fun u l2 ⟨a,e1,e2⟩=>⟨l1,a,p,e1,e2⟩) rfl fun v l0 u l2 _ ⟨l1,a,p,e1,e2⟩=>by
  obtain ⟨⟨r,pr⟩,b,n,e3,hm⟩:=k v l1 p
  subst e1 e2 e3
  exact ⟨⟨(a,listOf #[] 0)::r,pr.cons _⟩,CmpIs.neInts (us:=[]) (vs:=[]) (row:=[]) (.tail _ hm) (.head _) .nil .nil⟩).f rfl
theorem vals_row {row:List Int}:vals (fun j=>row.getD (j - 1).toNat 0) row.length=row:=by
 unfold vals
 refine List.ext_getElem (by simp) fun i h1 h2=>?_
 simp only [List.getElem_map,List.getElem_range]
 rw [show ((i:Int)+1 - 1).toNat=i by exact lq [_,_] [] [.tn 0 (.s (.a Nr Kr) Kr)] (.e Nq Nr) [[10100,11000],[]] rfl rfl,List.getD_eq_getElem?_getD,List.getElem?_eq_getElem h2]
 rfl
theorem sorted_eq {xs ys a b:List Int} (p:a.Perm xs) (q:b.Perm ys) (h:xs.Perm ys) (ha:a.Pairwise (·≤·)) (hb:b.Pairwise (·≤·)):a=b :=
 List.Perm.eq_of_pairwise (fun z9 z9 z9 z9 h1 h2=>Int.le_antisymm h1 h2) ha hb (p.trans (h.trans q.symm))
theorem Held.sorted {C C':TC} {row:List Int} {bes:List (Ky×Value)} {b:Int→Int} (H:Held C row bes) (S:QS C row.length b C') (hp:(vals b row.length).Perm row):Held C' (vals b row.length) bes:=by
 have hl:(vals b row.length).length=row.length:=by simp [vals]
 have ho:∀ k,BK k→look C' k=look C k:=fun k hk=>S.out k fun j e hj=>by
  subst e
  have:=hk.2
  exact lq [_] [_] [.an (.le Kr Zq) (.le Zq Nq),.le Zq Kq] .f [[11010]] rfl hj this
 refine ⟨S.tab,by rw [hl]; exact H.len,fun v hv=>H.rg v (hp.mem_iff.mp hv),fun j hj=>?_,fun k v hv=>?_,fun k hk=>?_,H.bk,H.bn⟩
 ·rw [hl] at hj
  obtain ⟨t,e⟩:=S.at' ((j:Int)+1) (by exact lq [_] [] [] (.le Kr (.a Nq Kr)) [] rfl) (by exact Int.ofNat_lt.2 hj)
  exact ⟨t,by rw [e]; simp [vals]⟩
 ·rw [ho k (H.bk _ (mem_of_value hv))]
  exact H.inn k v hv
 ·by_cases hr:∃ j:Int,k=.i j∧1≤j∧j≤row.length
  ·obtain ⟨j,rfl,j1,j2⟩:=hr
   exact .inl ⟨(j - 1).toNat,by rw [hl]; exact lq [_,_] [_] [.le Kr Zq,.le Zq Nq,.tn 1 (.s Zq Kr)] (.t Nr Nq) [[1010100],[110110]] rfl j1 j2 rfl,by congr 1; exact lq [_] [_] [.le Kr Zq,.tn 0 (.s Zq Kr)] (.eq Zq (.a Nq Kr)) [[110000,101000],[10100,11010]] rfl j1 rfl⟩
  ·have e:=S.out k fun j e hj=>hr ⟨j,e,hj⟩
   rw [e] at hk
   rcases H.off k hk with ⟨j,hj,rfl⟩ | h
   ·exact absurd ⟨(j:Int)+1,rfl,by exact lq [_] [] [] (.le Kr (.a Nq Kr)) [] rfl,by exact Int.ofNat_lt.2 hj⟩ hr
   ·exact .inr h
theorem pm_q {α:Type} {P p q f h k i:α} {J3 J2 X:List α}:(P::p::(J3++q::f::((J2++[h,k])++i::X))).Perm (h::P::p::q::f::k::i::(J3++(J2++X))) :=
 pq P [P,p,q,f,h,k,i] [J3,J2,X] (.c 0 (.c 1 (.a (.s 0) (.c 2 (.c 3 (.a (.a (.s 1) (.c 4 (.c 5 .n))) (.c 6 (.s 2)))))))) (.c 4 (.c 0 (.c 1 (.c 2 (.c 3 (.c 5 (.c 6 (.a (.s 0) (.a (.s 1) (.s 2)))))))))) rfl
theorem pm_end {α:Type} {h P p q f k i t x5 x4 r b:α} {J3 J2 J:List α}:([h,p,q,f,k,i,t]++(x5::x4::P::r::b::((J3++J2)++J))).Perm (h::P::p::q::f::k::i::(J3++(J2++(t::x5::x4::r::b::J)))) :=
 pq h [h,p,q,f,k,i,t,x5,x4,P,r,b] [J3,J2,J] (.a (.c 0 (.c 1 (.c 2 (.c 3 (.c 4 (.c 5 (.c 6 .n))))))) (.c 7 (.c 8 (.c 9 (.c 10 (.c 11 (.a (.a (.s 0) (.s 1)) (.s 2)))))))) (.c 0 (.c 9 (.c 1 (.c 2 (.c 3 (.c 4 (.c 5 (.a (.s 0) (.a (.s 1) (.c 6 (.c 7 (.c 8 (.c 10 (.c 11 (.s 2))))))))))))))) rfl
section
theorem qcall_of {A:TA} {R0:Led} {H q dq ge pu le ho dr:Addr} {k0 k1 k2 k3 k4:Tok} {key:Int→Int} (m_ge:(ge,methodObj (.ref 363) (.ref A.t))∈R0) (hk1:∀ R:Led,(∀ p∈R0,p∈R)→CallsIn w R pu) (hk2:∀ R:Led,(∀ p∈R0,p∈R)→CallsIn w R le)
  (hput:∀ (R:Led) (C:TC) (n:Int) (t:Tok) (v:Value),(∀ p∈R0,p∈R)→Tab C→isV v→S0 (.i n)→Spec w mean mg mb (.ref pu) [.int n t,v] 60 (TL w.params A C R) (fun r l=>r=.none∧∃ C',l=TL w.params A C' R∧Upd1 C C' (.i n) v))
  (hless:∀ (led:Led) (x:Int) (t:Tok) (y:Int) (u:Tok),(∀ p∈R0,p∈led)→Spec w mean mg mb (.ref le) [.int x t,.int y u] 60 led (fun r l=>r=.bool (decide (key x < key y))∧l=led)) :
  QCall w mean mg mb A ((q,instObj 135 dq)::(dq,dictOf [⟨PyData.keyHash w.params (Str.ofString "get"),.str (Str.ofString "get") k0,.ref ge⟩,⟨PyData.keyHash w.params (Str.ofString "put"),.str (Str.ofString "put") k1,.ref pu⟩,⟨PyData.keyHash w.params (Str.ofString "less"),.str (Str.ofString "less") k2,.ref le⟩,
   ⟨PyData.keyHash w.params (Str.ofString "hold"),.str (Str.ofString "hold") k3,.ref ho⟩,⟨PyData.keyHash w.params (Str.ofString "drop"),.str (Str.ofString "drop") k4,.ref dr⟩] 5)::(dr,boundOf "list.pop" H)::(ho,boundOf "list.append" H)::R0) H q dq ge pu le ho dr key:=by
 have up:∀ p∈R0,∀ a b c d:Addr×Obj,p∈a::b::c::d::R0:=fun p hp a b c d=>.tail _ (.tail _ (.tail _ (.tail _ hp)))
 exact { kg:=cb_get_in (up _ m_ge _ _ _ _),kp:=hk1 _ fun p hp=>up p hp _ _ _ _,kl:=hk2 _ fun p hp=>up p hp _ _ _ _,kh:=bound_calls (.tail _ (.tail _ (.tail _ (.head _)))),kd:=bound_calls (.tail _ (.tail _ (.head _))),inst:=.head _,dict:=⟨_,_,_,_,_,.tail _ (.head _)⟩,get:=fun C hs e n t T=>cb_get_q (up _ m_ge _ _ _ _) C hs e n t T,put:=fun C hs e n t v T hv hS=>hput _ C n t v (fun p hp=>.tail _ (up p hp _ _ _ _)) T hv hS,less:=fun C hs e x t y u=>hless _ x t y u fun p hp=>mem_R (.tail _ (up p hp _ _ _ _)),hold:=fun C hs e v hz=>spec_hold A _ H ho C hs e v hz (.tail _ (.tail _ (.tail _ (.head _)))),drop:=fun C hs e v hz=>spec_drop A _ H dr C hs e v hz (.tail _ (.tail _ (.head _))) }
theorem spec_sorted (A:TA) (C:TC) (ra ba:Addr) (row:List Int) (rv:List Value) (re:Nat) (kvs:List (Ky×Value)) (bo:Obj) (p1 p2 p3:Array Value) (J Z:Led) (rest:Int) (tr:Tok)
  (hz:∀ p∈Z,p∈J) (K:LawOk w C row rv kvs bo p1 p2 p3 Z) :
  Spec w mean mg mb (.ref 538) [.ref A.t,.ref ra,.int rest tr] 200 (LL w.params A C ra ba rv re bo p1 p2 p3 J) (fun r l=>r=.bool true∧Left3 w A ra ba Z J l):=by
 have hlv:rv.length=row.length:=K.rowv.length
 have hl:=K.held.len
 have hT:=K.held.tab
 have hlz:rv.length < 2 ^ 62:=by exact lq [_,_] [] [.e Nq Nr,.l Nr (.k 24)] (.t Nq (.k 4611686018427387904)) [[11010]] rfl hlv hl
 refine Spec.enterCH (cm:=upd (fun z9=>none) "t" (.ref A.t)) (cl:=fun L=>[("kind",L+1+1+1),("is_ahead",L+1+1),("t",L+1)]) (by k_is) (by k_is) (fun s X=>BindsTo.of_eq rfl) rfl (by decide) (.cons sl2 rfl (.cons sl1 rfl .nil)) (bc_of (l:=[(_,_),(_,_),(_,_)]) rfl fun y=>rfl) (fun L=>rfl) rfl rfl rfl (by kernel_rfl) hap_three ?_
 intro L₁ cells Y
 obtain ⟨ck,ci,ct,rfl,hck,hci,hct⟩:=CellsAre.three Y
 rw [show upd (fun z9=>none) "t" (.ref A.t) "t"=some (.ref A.t) from upd_hit] at hct
 clear Y
 obtain ⟨F,hF⟩:∃ F:Array Value→Led,∀ a,F a=(L₁+1,ct)::(545,tabObj p3)::(540,tabObj p2)::(ra,listOf a re)::(ba,bo)::J:=⟨_,fun z9=>rfl⟩
 have m_t:∀ a,(L₁+1,ct)∈F a:=fun a=>by rw [hF]; exact .head _
 have m_r:∀ a,(ra,listOf a re)∈F a:=fun a=>by rw [hF]; exact .tail _ (.tail _ (.tail _ (.head _)))
 have m_J:∀ a,∀ p∈Z,p∈F a:=fun a p hp=>by rw [hF]; exact .tail _ (.tail _ (.tail _ (.tail _ (.tail _ (hz p hp)))))
 have m_u:∀ a a',Rep ra (listOf a re) (listOf a' re) (F a) (F a'):=fun a a'=>by rw [hF,hF]; exact .tail (.tail (.tail .head))
 refine HS.perm (l':=TL w.params A C ((535,tabObj p1)::(L₁+1+1+1,ck)::(L₁+1+1,ci)::F rv.toArray)) (by rw [hF]; refine (tl_congr (pm_srt _ _ _ _ _ _ _)).symm.trans ?_; exact tl_app [_,_,_]) ?_
 refine HS.assignC2 (A:=A) (C:=C) (post:=(L₁+1+1,ci)::F rv.toArray) (P:=fun vs l'=>∃ H t,vs=[.ref H,.int (rest.fmod 3) t]∧l'=TL w.params A C ([(H,listOf #[] 0),(535,tabObj p1)]++(L₁+1+1+1,ck)::(L₁+1+1,ci)::F rv.toArray)) _ _ (by (exact sl3)) (by (exact sl6)) rfl hck (fun z9=>rfl) (fun z9=>rfl) (HEs.cons rfl HE.list0 ?_) ?_
 ·rintro _ _ ⟨H,rfl,rfl⟩
  refine HEs.perm tl_cons.symm (HEs.consE rfl (V:=.i (rest.fmod 3)) (by exact Ev.bin (Ev.nameI 2 sl2 rfl) Ev.int (IOp.mod (by decide))) ?_)
  rintro _ ⟨t,rfl⟩
  exact HEs.nil ⟨H,t,rfl,rfl⟩
 rintro _ _ ⟨H,tk,rfl,rfl⟩
 refine ⟨[_,_],_,_,rfl,rfl,fun ck' hck'=>?_⟩
 clear hck
 refine HS.perm (tl_congr (.swap ..)) ?_
 refine HS.defC (A:=A) (C:=C) (QS:=QS1) (qual:="_law_sorted"++".<locals>."++"is_ahead") (clos:=[("kind",L₁+1+1+1)]) (X:=[_,_]) (post:=F rv.toArray) (Z:=Z) _ (by (exact sl4)) rfl hci rfl rfl (fun z9=>rfl) (fun z9=>rfl) (fun z9 X=>codeHd_of_K X (c:=537) (P:=535) (by kernel_rfl)) rfl K.t1 (fun p hp=>.tail _ (.tail _ (.tail _ (m_J _ p hp)))) (.head _) ?_ (fun z9=>rfl) ?_
 ·intro p hp h1 h2
  simp only [QS1,List.mem_cons,List.not_mem_nil,or_false] at hp
  rcases hp with rfl | rfl
  ·exact ⟨rfl,rfl⟩
  ·exact absurd h1 (by decide)
 intro f c' ctv doc fo J2 ps' ci' hfo hcd mT hci'
 clear hci
 have hless:∀ (led:Led) (x:Int) (t:Tok) (y:Int) (u:Tok),(f,fo)∈led→CodeAt led c' ("_law_sorted"++".<locals>."++"is_ahead")→(L₁+1+1+1,ck')∈led→Spec w mean mg mb (.ref f) [.int x t,.int y u] 60 led (fun r l=>r=.bool (decide (keyOf (rest.fmod 3) x < keyOf (rest.fmod 3) y))∧l=led):=by
  subst hfo
  intro led x tx y ty m1 m2 m3
  refine Spec.enterNH m1 m2 (fun s=>BindsTo.of_eq rfl) rfl (by kernel_rfl) (by kernel_rfl) rfl rfl rfl (by decide) ?_
  have hkd:∀ (pos:Pos) (m:NM) (sc:Scope) (a:Addr) (cd:Value),slot sc.names 2=some (Str.ofString "kind",.free)→scOk sc=true→Ev ⟨⟨w,mean,mg,mb,⟨"_law_sorted"++".<locals>."++"is_ahead",sc,a,cd,[("kind",L₁+1+1+1)]⟩,59⟩,m,led⟩ (.Name (Str.ofString "kind") pos) (.i (rest.fmod 3)):=fun pos m sc a cd h z9=>Ev.toI (t:=tk) (Ev.free 2 h rfl m3 hck' (by kernel_rfl))
  refine HS.ret (V:=.b (keyOf (rest.fmod 3) x < keyOf (rest.fmod 3) y)) (Ev.ite (p:=rest.fmod 3=0) (EvT.cmp (a:=rest.fmod 3) (b:=0) (hkd _ _ _ _ _ sl2 (by kernel_rfl)) (by (exact Ev.int)) ICmp.eq rfl) (fun h=>Ev.congrB (p:=x < y) (Ev.cmp (a:=x) (b:=y) (by exact Ev.nameI 0 sl0 rfl) (by exact Ev.nameI 1 sl1 rfl) ICmp.lt rfl) (by simp [keyOf,h]))
   (fun h=>Ev.ite (p:=rest.fmod 3=1) (EvT.cmp (a:=rest.fmod 3) (b:=1) (hkd _ _ _ _ _ sl2 (by kernel_rfl)) (by (exact Ev.int)) ICmp.eq rfl) (fun h2=>Ev.congrB (p:=y < x) (Ev.cmp (a:=x) (b:=y) (by exact Ev.nameI 0 sl0 rfl) (by exact Ev.nameI 1 sl1 rfl) ICmp.gt rfl) (by simp [keyOf,h2])) (fun h2=>Ev.congrB (p:=x.fmod 4 < y.fmod 4) (Ev.cmp (a:=x.fmod 4) (b:=y.fmod 4) (by exact Ev.bin (Ev.nameI 0 sl0 rfl) Ev.int (IOp.mod (by decide))) (by exact Ev.bin (Ev.nameI 1 sl1 rfl) Ev.int (IOp.mod (by decide))) ICmp.lt rfl) (by simp [keyOf,h,h2])))) ?_
  rintro _ ⟨b,rfl,hb⟩
  exact ⟨congrArg Value.bool (Bool.eq_iff_iff.mpr (hb.trans decide_eq_true_iff.symm)),rfl⟩
 have hfk:∀ R:Led,(f,fo)∈R→CallsIn w R f:=fun R h=>calls_fn (hfo▸h)
 clear hfo
 refine HS.perm (l':=TL w.params A C ((535,tabObj ps')::(f,fo)::((J2++[(H,listOf #[] 0),(L₁+1+1+1,ck')])++(L₁+1+1,ci')::F rv.toArray))) (.refl _) ?_
 have m_r':=m_r rv.toArray
 have m_t':=m_t rv.toArray
 refine HS.expr (P:=fun z9 l=>∀ X₀:Led→Prop,(∀ (C':TC) (b:Int→Int) (e':Nat) (X:Led) (pu ge:Addr) (po:Obj) (J3:Led) (ps2:Array Value),TabOk QS1 ps2 (J3++(J2++Z))→QS C row.length b C'→Swaps 1 row.length (fun j=>row.getD (j - 1).toNat 0) b→Ord (keyOf (rest.fmod 3)) b 1 row.length→X₀ (TL w.params A C' ((H,listOf (List.toArray []) e')::(X++(535,tabObj ps2)::(pu,po)::(ge,methodObj (.ref 363) (.ref A.t))::(f,fo)::(L₁+1+1+1,ck')::(L₁+1+1,ci')::(J3++(J2++F rv.toArray))))))→X₀ l) rfl
  (HE.methH (C:=135) (f:=132) (fun z9=>rfl) (P1:=fun v l=>∀ X₀:Value→Led→Prop,(∀ (q dq dr ho pu ge:Addr) (po:Obj) (es:List DictEntry) (n:Nat) (J3:Led) (ps2:Array Value) (R:Led),R=(q,instObj 135 dq)::(dq,dictOf es n)::(dr,boundOf "list.pop" H)::(ho,boundOf "list.append" H)::(535,tabObj ps2)::(pu,po)::(ge,methodObj (.ref 363) (.ref A.t))::(f,fo)::(L₁+1+1+1,ck')::(L₁+1+1,ci')::(J3++(J2++F rv.toArray))→getL "sort" es=some none→TabOk QS1 ps2 (J3++(J2++Z))→QCall w mean mg mb A R H q dq ge pu f ho dr (keyOf (rest.fmod 3))→X₀ (.ref q) (TL w.params A C ((H,listOf #[] 0)::R)))→X₀ v l) ?_ ⟨by k_is,by k_is,by k_is,by k_is⟩ (by simp) rfl ?_) ?_
 ·refine HE.fin (P:=fun v l=>∀ X₀:Value→Led→Prop,(∀ (q dq dr ho pu ge:Addr) (po:Obj) (es:List DictEntry) (n:Nat) (J3:Led) (ps2:Array Value) (R0:Led),R0=(535,tabObj ps2)::(pu,po)::(ge,methodObj (.ref 363) (.ref A.t))::(f,fo)::(L₁+1+1+1,ck')::(L₁+1+1,ci')::(J3++(J2++F rv.toArray))→getL "sort" es=some none→TabOk QS1 ps2 (J3++(J2++Z))→QCall w mean mg mb A ((q,instObj 135 dq)::(dq,dictOf es n)::(dr,boundOf "list.pop" H)::(ho,boundOf "list.append" H)::R0) H q dq ge pu f ho dr (keyOf (rest.fmod 3))→X₀ (.ref q) ([(q,instObj 135 dq),(dq,dictOf es n),(dr,boundOf "list.pop" H),(ho,boundOf "list.append" H)]++TL w.params A C ((H,listOf #[] 0)::R0)))→X₀ v l) (HE.callHs (fa:=135) rfl (by exact Ev.glob 7 sl7 (by k_is)) (by k_is) rfl ?_) ?_
  ·refine HEs.cons rfl (HE.bound rfl (by exact Ev.cell 0 sl0 rfl (mem_R (.tail _ (.tail _ (List.mem_append_right (J2++[(H,listOf #[] 0),(L₁+1+1+1,ck')]) (.tail _ m_t'))))) hct) InsAt.tab (by k_is) (by k_is) (by k_is) (by k_is) (by k_is) (by k_is) (by decide +kernel) (by kernel_rfl)) ?_
   rintro _ _ ⟨ge,rfl,rfl⟩
   refine HEs.perm tl_in.symm ?_
   refine HEs.cons rfl (HE.lam (QS:=QS1) (Z:=J2++Z) (qual:="_law_sorted"++".<locals>."++"<lambda>") (clos:=[("t",L₁+1)]) (c:=537) (P:=535) (fun z9=>rfl) (fun z9=>rfl) (fun z9 X=>codeHd_of_K X (by kernel_rfl)) rfl mT (fun p hp=>.tail _ (.tail _ ((List.mem_append.mp hp).elim (fun h=>List.mem_append_left _ (List.mem_append_left _ h)) fun h=>List.mem_append_right _ (.tail _ (m_J _ p h))))) (.tail _ (.head _)) ?_ (fun z9=>rfl)) ?_
   ·intro p hp h1 h2
    simp only [QS1,List.mem_cons,List.not_mem_nil,or_false] at hp
    rcases hp with rfl | rfl
    ·exact absurd h1 (by decide)
    ·exact ⟨rfl,rfl⟩
   intro v l h
   apply h
   intro pu c2 ctv2 J3 ps2 R' hR mf mc mT2 _
   generalize hpo:kla_obj _ _ _ _ _ _ _ _ _=po at hR mf
   obtain ⟨R0,hR0⟩:∃ R0,R0=(535,tabObj ps2)::(pu,po)::(ge,methodObj (.ref 363) (.ref A.t))::(f,fo)::(L₁+1+1+1,ck')::(L₁+1+1,ci')::(J3++(J2++F rv.toArray)):=⟨_,rfl⟩
   have hper:R'.Perm ((H,listOf #[] 0)::R0):=by rw [hR,hR0]; exact pm_q
   have m_t0:(L₁+1,ct)∈R0:=by rw [hR0]; have:=m_t rv.toArray; (exact (.tail _ (.tail _ (.tail _ (.tail _ (.tail _ (.tail _ (List.mem_append_right _ (List.mem_append_right J2 this)))))))))
   have m_pu:(pu,po)∈R0:=by rw [hR0]; (exact (.tail _ List.mem_cons_self))
   have m_ge:(ge,methodObj (.ref 363) (.ref A.t))∈R0:=by rw [hR0]; (exact (.tail _ (.tail _ List.mem_cons_self)))
   have m_f:(f,fo)∈R0:=by rw [hR0]; (exact (.tail _ (.tail _ (.tail _ List.mem_cons_self))))
   have m_k:(L₁+1+1+1,ck')∈R0:=by rw [hR0]; (exact (.tail _ (.tail _ (.tail _ (.tail _ List.mem_cons_self)))))
   have m_i:(L₁+1+1,ci')∈R0:=by rw [hR0]; (exact (.tail _ (.tail _ (.tail _ (.tail _ (.tail _ List.mem_cons_self))))))
   have m_c:CodeAt R0 c' ("_law_sorted"++".<locals>."++"is_ahead"):=hcd.mono fun p hp=>by
    rw [hR0]
    exact .tail _ (.tail _ (.tail _ (.tail _ (.tail _ (.tail _ (List.mem_append_right _ ((List.mem_append.mp hp).elim (List.mem_append_left _) fun h=>List.mem_append_right _ (m_J _ p h))))))))
   have m_c2:CodeAt R0 c2 ("_law_sorted"++".<locals>."++"<lambda>"):=by
    obtain ⟨oc,vs,t,h1,h2,h3⟩:=mc
    rcases List.mem_cons.mp (hper.mem_iff.mp h1) with e | h
    ·cases e; cases h2
    ·exact ⟨oc,vs,t,h,h2,h3⟩
   have hput:∀ (R:Led) (C:TC) (n:Int) (t:Tok) (v:Value),(pu,po)∈R→CodeAt R c2 ("_law_sorted"++".<locals>."++"<lambda>")→(L₁+1,ct)∈R→Tab C→isV v→S0 (.i n)→Spec w mean mg mb (.ref pu) [.int n t,v] 60 (TL w.params A C R) (fun r l=>r=.none∧∃ C',l=TL w.params A C' R∧Upd1 C C' (.i n) v):=fun R C n t v m1 m2 m3 hT hv hS=>by
    have mc:=m2.mono (l':=TL w.params A C R) fun p hp=>mem_R hp
    subst hpo
    clear hR hR0 hper mT mT2
    refine Spec.enterLH (mem_R m1) mc rfl rfl (by kernel_rfl) (by kernel_rfl) rfl rfl rfl (by decide) ?_
    refine HE.meth (by exact Ev.free 2 sl2 rfl (mem_R m3) hct (by kernel_rfl)) InsAt.tab (by (exact ⟨by k_is,by k_is,by k_is,by k_is⟩)) rfl rfl (by exact Evs.cons rfl (Ev.name 0 sl0 rfl) (Evs.cons rfl (Ev.name 1 sl1 rfl) (Evs.cons rfl Ev.none Evs.nil))) (nb rfl) (by exact spec_set_int A C R (PySem.Value.int n t) v (Ky.i n) hT trivial rfl hv hS)
   have hpk:∀ R:Led,(pu,po)∈R→CallsIn w R pu:=fun R h=>calls_fn (hpo▸h)
   clear hpo
   refine HEs.perm (l':=TL w.params A C ((H,listOf #[] 0)::R0)) (tl_congr hper.symm) ?_
   refine HEs.consE rfl (V:=.v (.ref f)) (by exact Ev.cell 4 sl4 rfl (mem_R (.tail _ m_i)) hci') ?_
   rintro _ rfl
   refine HEs.cons rfl (HE.l_meth (.inl ⟨rfl,rfl⟩) rfl (by exact Ev.name 3 sl3 rfl) (mem_R (.head _))) ?_
   rintro _ _ ⟨ho,rfl,rfl⟩
   refine HEs.cons rfl (HE.l_meth (.inr ⟨rfl,rfl⟩) rfl (by exact Ev.name 3 sl3 rfl) (.tail _ (mem_R (.head _)))) ?_
   rintro _ _ ⟨dr,rfl,rfl⟩
   refine HEs.nil ⟨8,Nat.le_of_ble_eq_true rfl,(spec_Quicksort ge pu f ho dr _).mono (Nat.le_refl _) ?_⟩
   rintro r l ⟨q,dq,k0,k1,k2,k3,k4,rfl,rfl⟩
   exact fun X k=>k q dq dr ho pu ge po _ 5 J3 ps2 R0 hR0 (by kernel_rfl) mT2 (qcall_of m_ge (fun R h=>hpk R (h _ m_pu)) (fun R h=>hfk R (h _ m_f)) (fun R C n t v h=>hput R C n t v (h _ m_pu) (m_c2.mono h) (h _ m_t0)) (fun led x t y u h=>hless led x t y u (h _ m_f) (m_c.mono h) (h _ m_k)))
  ·intro v l h
   apply h
   intro q dq dr ho pu ge po es n J3 ps2 R0 hR0 hg hTb hQ
   exact ⟨[],_,(tl_congr List.perm_middle.symm).trans (tl_app [_,_,_,_]),fun X k=>k q dq dr ho pu ge po es n J3 ps2 _ (by rw [hR0]; rfl) hg hTb hQ⟩
 ·intro v l h
  apply h
  intro q dq dr ho pu ge po es n J3 ps2 R hR hg hTb hQ
  refine ⟨q,es,rfl,⟨dq,n,mem_R (.tail _ (hR▸.head _)),mem_R (.tail _ (hR▸.tail _ (.head _)))⟩,hg,?_⟩
  have m_r2:(ra,listOf rv.toArray re)∈R:=by rw [hR]; (exact (.tail _ (.tail _ (.tail _ (.tail _ (.tail _ (.tail _ (.tail _ (.tail _ (.tail _ (.tail _ (List.mem_append_right _ (List.mem_append_right J2 m_r')))))))))))))
  refine HEs.consE rfl (V:=.i 1) (by (exact Ev.int)) ?_
  rintro _ ⟨t1,rfl⟩
  refine HEs.consE rfl (V:=.i rv.length) (by exact Ev.callB rfl (Ev.blt 8 sl8 (by k_is) (by boot_by_name) (by kernel_rfl)) (Evs.cons rfl (Ev.name 1 sl1 rfl) Evs.nil) (CT.len (mem_R (.tail _ m_r2)) hlz)) ?_
  rintro _ ⟨t2,rfl⟩
  have hS:QS C (rv.length:Int) (fun j=>row.getD (j - 1).toNat 0) C:=⟨hT,fun j j1 j2=>K.held.at1 j1 (by exact hlv▸j2),fun z9 z9=>rfl⟩
  refine HEs.nil ⟨66+4 * rv.length,by show _≤199; exact lq [_,_] [] [.e Nq Nr,.l Nr (.k 24)] (.l (.a (.k 66) (.m 4 Nq)) (.k 199)) [[14040]] rfl hlv hl,(spec_sort A R H q dq ge pu f ho dr (keyOf (rest.fmod 3)) hQ C [] (rv.length:Int) (by exact lq [_,_] [] [.e Nq Nr,.l Nr (.k 24)] (.le Nq (.k 24)) [[11010]] rfl hlv hl) (by decide) rv.length C 0 1 (rv.length:Int) t1 t2 _ hS (by exact Int.natCast_nonneg _) (by exact Int.le_refl _) (by exact lq [_] [] [] (.le (.a (.s Nq Kr) Kr) Nq) [] rfl)).mono (Nat.le_refl _) ?_⟩
  intro r l h
  apply h
  intro C' b e' S' W O
  rw [hlv] at S' W O
  refine fun X k=>?_
  rw [hR]
  exact k C' b e' [_,_,_,_] pu ge po J3 ps2 hTb S' W O
 ·intro z9 l h
  apply h
  intro C' b e' X pu ge po J3 ps2 hTb S' W O
  obtain ⟨F0,hF0⟩:∃ F0:Array Value→Led,∀ a,F0 a=(535,tabObj ps2)::(pu,po)::(ge,methodObj (.ref 363) (.ref A.t))::(f,fo)::(L₁+1+1+1,ck')::(L₁+1+1,ci')::(J3++(J2++F a)):=⟨_,fun z9=>rfl⟩
  refine HS.drop (r:=X) (l':=TL w.params A C' ((H,listOf (List.toArray []) e')::F0 rv.toArray)) (by rw [hF0]; exact (tl_app X).symm.trans (tl_congr List.perm_middle)) ?_
  have m_t0:(L₁+1,ct)∈F0 rv.toArray:=by rw [hF0]; have:=m_t rv.toArray; (exact (.tail _ (.tail _ (.tail _ (.tail _ (.tail _ (.tail _ (List.mem_append_right _ (List.mem_append_right J2 this)))))))))
  have m_f:(f,fo)∈F0 rv.toArray:=by rw [hF0]; (exact (.tail _ (.tail _ (.tail _ List.mem_cons_self))))
  have m_k:(L₁+1+1+1,ck')∈F0 rv.toArray:=by rw [hF0]; (exact (.tail _ (.tail _ (.tail _ (.tail _ List.mem_cons_self)))))
  have m_i:(L₁+1+1,ci')∈F0 rv.toArray:=by rw [hF0]; (exact (.tail _ (.tail _ (.tail _ (.tail _ (.tail _ List.mem_cons_self))))))
  have m_r0:(ra,listOf rv.toArray re)∈F0 rv.toArray:=by rw [hF0]; (exact (.tail _ (.tail _ (.tail _ (.tail _ (.tail _ (.tail _ (List.mem_append_right _ (List.mem_append_right J2 m_r')))))))))
  have m_c:CodeAt (F0 rv.toArray) c' ("_law_sorted"++".<locals>."++"is_ahead"):=hcd.mono fun p hp=>by
   rw [hF0]
   exact .tail _ (.tail _ (.tail _ (.tail _ (.tail _ (.tail _ (List.mem_append_right _ ((List.mem_append.mp hp).elim (List.mem_append_left _) fun h=>List.mem_append_right _ (m_J _ p h))))))))
  have m_u0:∀ a a',Rep ra (listOf a re) (listOf a' re) (F0 a) (F0 a'):=fun a a'=>by rw [hF0,hF0]; exact .tail (.tail (.tail (.tail (.tail (.tail (((m_u a a').app J2).app J3))))))
  have hend:∀ D a,([D,(H,listOf (List.toArray []) e'),(pu,po),(ge,methodObj (.ref 363) (.ref A.t)),(f,fo),(L₁+1+1+1,ck'),(L₁+1+1,ci'),(L₁+1,ct)]++TL w.params A C' ((545,tabObj p3)::(540,tabObj p2)::(535,tabObj ps2)::(ra,listOf a re)::(ba,bo)::((J3++J2)++J))).Perm (D::TL w.params A C' ((H,listOf (List.toArray []) e')::F0 a)):=fun D a=>by
   rw [hF0,hF]
   exact List.Perm.cons _ ((tl_app [_,_,_,_,_,_,_]).symm.trans (tl_congr pm_end))
  clear hF hF0 m_r m_u
  have hW':=S'.tab.wf
  have hvl:(vals b row.length).length=row.length:=by simp [vals]
  have hi:IntsAre ((List.range row.length).map fun (j:Nat)=>look C' (.i ((j:Int)+1))) (vals b row.length):=by
   have:=ints_range (row:=vals b row.length) (f:=fun (j:Nat)=>look C' (.i ((j:Int)+1))) fun j hj=>by
    obtain ⟨t,e⟩:=S'.at' ((j:Int)+1) (by exact lq [_] [] [] (.le Kr (.a Nq Kr)) [] rfl) (by lia)
    exact ⟨t,by rw [e]; simp [vals]⟩
   rwa [hvl] at this
  refine HS.assignGets (N:=row.length) (cl:=[("t",L₁+1)]) _ (by (exact sl5)) (fun z9=>rfl) ⟨fun z9=>rfl,by decide,rfl,by decide,rfl,fun z9 z9=>rfl,fun z9 z9=>by kernel_rfl,fun z9 z9=>by kernel_rfl,by kernel_rfl,by kernel_rfl,rfl,rfl⟩ rfl (mem_R (.tail _ m_t0)) hct rfl (by exact EvS.blt 9 sl9 (by k_is) (by boot_by_name) (by kernel_rfl)) (by exact EvS.lenL rfl rfl (EvS.blt 8 sl8 (by k_is) (by boot_by_name) (by kernel_rfl)) (EvS.name 1 sl1 rfl) (mem_R (.tail _ m_r0)) hlz) (by exact lq [_,_] [] [.e Nq Nr] (.eq Nq Nr) [[1010,1100]] rfl hlv) (by exact lq [_] [] [.l Nq (.k 24)] (.t Nq (.k 1000)) [] rfl hl) (nb rfl) hW' fun D=>?_
  unfold getsLed
  generalize ((List.range row.length).map fun (j:Nat)=>look C' (.i ((j:Int)+1)))=us at hi
  have hus:us.length=row.length:=hi.length.trans hvl
  refine HS.perm (l':=(D,listOf us.toArray us.length)::TL w.params A C' ((H,listOf (List.toArray []) e')::F0 rv.toArray)) (.refl _) ?_
  have hpm:=W.perm
  rw [vals_row] at hpm
  refine HS.ff (p:=False) (EvT.orsF (List.forall_mem_cons.mpr ⟨?_,List.forall_mem_cons.mpr ⟨?_,fun z9 h=>by cases h⟩⟩)) id (HS.nil ?_)
  ·refine EvT.neNil (nb rfl) (Ev.toHE (V:=.v (.ref H)) (Q:=fun v l'=>v=.ref H∧l'=(D,listOf us.toArray us.length)::TL w.params A C' ((H,listOf (List.toArray []) e')::F0 rv.toArray)) (by exact Ev.name 3 sl3 rfl) fun v hv=>⟨hv,rfl⟩) ?_
   rintro _ _ ⟨rfl,rfl⟩
   exact ⟨⟨[],.refl _⟩,H,e',rfl,.tail _ (mem_R (.head _))⟩
  ·refine (EvT.cmpH (nb rfl) (HE.sortedI rfl rfl (by exact Ev.blt 10 sl10 (by k_is) (by boot_by_name) (by kernel_rfl)) (by exact Ev.name 5 sl5 rfl) (.head _) hi (by exact lq [_,_] [] [.l Nq (.k 24),.e Nr Nq] (.t Nr (.k 64)) [[10110]] rfl hl hvl)) (P2:=fun v u l'=>∃ D1 D2 Nr Ns ns z1 z2,v=.ref D1∧u=.ref D2∧l'=(D2,listOf (List.toArray Ns) z2)::(D1,listOf (List.toArray Nr) z1)::(D,listOf us.toArray us.length)::TL w.params A C' ((H,listOf (List.toArray []) e')::F0 rv.toArray)∧IntsAre Nr ns∧IntsAre Ns ns) ?_ rfl ?_).f rfl
   ·rintro _ _ ⟨D1,v1,n1,z1,rfl,rfl,i1,p1',o1⟩
    refine (HE.sortedI rfl rfl (by exact Ev.blt 10 sl10 (by k_is) (by boot_by_name) (by kernel_rfl)) (by exact Ev.name 1 sl1 rfl) (.tail _ (.tail _ (mem_R (.tail _ m_r0)))) K.rowv (by exact lq [_] [] [.l Nq (.k 24)] (.t Nq (.k 64)) [] rfl hl)).mono ?_
    rintro _ _ ⟨D2,v2,n2,z2,rfl,rfl,i2,p2',o2⟩
    exact ⟨D1,D2,v1,v2,n1,z1,z2,rfl,rfl,rfl,i1,sorted_eq p1' p2' hpm o1 o2▸i2⟩
   ·rintro _ _ _ _ _ ⟨D1,D2,v1,v2,ns,z1,z2,rfl,rfl,rfl,i1,i2⟩
    exact ⟨⟨[_,_],.refl _⟩,CmpIs.neInts (.tail _ (.head _)) (.head _) i1 i2⟩
  refine HS.ff (p:=False) ?_ id (HS.nil ?_)
  ·refine EvT.neNil (nb rfl) (HE.zipNone (cl:=[("is_ahead",L₁+1+1)]) (fun z9=>rfl) (by decide) rfl (by decide) rfl rfl (by decide) (fun z9 z9=>rfl) rfl rfl (by exact EvS.blt 11 sl11 (by k_is) (by boot_by_name) (by kernel_rfl)) (by exact EvS.name 5 sl5 rfl) (by exact EvS.name 5 sl5 rfl) (by (exact EvS.int)) (.head _) (by exact lq [_,_] [] [.l Nq (.k 24),.e Nr Nq] (.t Nr (.k 1000)) [[10110]] rfl hl hus) ?_) ?_
   ·intro l' hl' Ar g L nm s₁ T i x y hx hy
    have hi1:=(List.getElem?_eq_some_iff.mp hy).1
    obtain ⟨t1,e1⟩:=ints_get hi i (by exact lq [_,_,_,_] [] [.e Nq Nr,.e Ns Nr,.t (.a (.n 3) Kr) Ns] (.t (.n 3) Nq) [[1101100]] rfl hvl hus hi1)
    obtain ⟨t2,e2⟩:=ints_get hi (i+1) (by exact lq [_,_,_,_] [] [.e Nq Nr,.e Ns Nr,.t (.a (.n 3) Kr) Ns] (.t (.a (.n 3) Kr) Nq) [[1101100]] rfl hvl hus hi1)
    rw [hx] at e1
    rw [hy] at e2
    cases e1
    cases e2
    have hv:∀ j,j < row.length→(vals b row.length).getD j 0=b ((j:Int)+1):=fun j hj=>by
     rw [List.getD_eq_getElem?_getD,List.getElem?_eq_getElem (by exact hvl.symm▸hj)]; simp [vals]
    have hk:=O ((i:Int)+1) (by exact lq [_] [] [] (.le Kr (.a Nq Kr)) [] rfl) (by exact lq [_,_,_] [] [.e Nq Nr,.t (.a Ns Kr) Nq] (.lt (.a Ns Kr) Nr) [[11010]] rfl hus hi1)
    have up:∀ p∈F0 rv.toArray,p∈l':=fun p hp=>hl' p (.tail _ (mem_R (.tail _ hp)))
    refine ztest_call (Rq:=[(f,fo)]) (fun z9 z9=>by kernel_rfl) (fun z9 z9=>by kernel_rfl) (fun z9 z9=>by kernel_rfl) rfl (by kernel_rfl) (by kernel_rfl) (by kernel_rfl) rfl (up _ m_i) hci' (hfk _ (.head _)) (fun p hp=>by rw [List.mem_singleton.mp hp]; exact up _ m_f) (d:=60) (nb rfl) (fun led h=>?_) T
    refine (hless led _ t2 _ t1 (h _ (up _ m_f)) (m_c.mono fun p hp=>h _ (up _ hp)) (h _ (up _ m_k))).mono (Nat.le_refl _) fun r l h=>⟨?_,h.2⟩
    rw [h.1,hv _ (by exact hus▸hi1),hv _ (by exact lq [_,_,_] [] [.e Nq Nr,.t (.a Ns Kr) Nq] (.t Ns Nr) [[11010]] rfl hus hi1)]
    exact congrArg Value.bool (decide_eq_false (by push_cast; exact Int.not_lt.2 hk))
   ·rintro _ _ ⟨Dz,D2,o,rfl,rfl⟩
    exact ⟨⟨[_,_],.refl _⟩,Dz,_,rfl,.head _⟩
  refine HS.apart fun hap=>?_
  have hne:(ra == D)=false:=beq_eq_false_iff_ne.mpr ((apart_off hap).1 _ (mem_R (.tail _ m_r0)))
  refine HS.setAll rfl (by exact Ev.name 5 sl5 rfl) (by exact Ev.name 1 sl1 rfl) (.head _) hne (.tail (Rep.tl (.tail (m_u0 rv.toArray us.toArray)))) (by exact hus.trans hlv.symm) (by exact lq [_,_] [] [.e Nq Nr,.l Nr (.k 24)] (.l Nq (.k 400)) [[11010]] rfl hlv hl) ?_
  refine HS.drop (hend (D,_) us.toArray) ?_
  refine HS.ret Ev.bool ?_
  rintro _ rfl
  refine ⟨rfl,C',vals b row.length,us,re,kvs,bo,ps2,p2,p3,J3++J2,rfl,?_⟩
  rw [List.append_assoc]
  exact ⟨K.held.sorted S' hpm,hi,K.dict,hTb,K.t2.mono fun p hp=>List.mem_append_right _ (List.mem_append_right _ hp),K.t3.mono fun p hp=>List.mem_append_right _ (List.mem_append_right _ hp)⟩
end
noncomputable def intsOf (l:List (Ky×Value)):List Int:=l.filterMap fun e=>match e.1 with | .i n=>some n | .b _=>none
theorem ents_few {C:TC} (T:Tab C):(ents C 0).length≤100:=by
 have hn:=ents_nodup T.wf _ 0 rfl
 have:((ents C 0).map fun p=>some p.1).length≤allS.length:=by
  refine nodup_sub _ _ ?_ ?_
  ·have:((ents C 0).map fun p=>some p.1)=((ents C 0).map (·.1)).map some:=by rw [List.map_map]; rfl
   rw [this]
   exact List.Pairwise.map some (fun a b hab e=>hab (Option.some.inj e)) hn
  ·intro x hx
   obtain ⟨p,hp,rfl⟩:=List.mem_map.mp hx
   obtain ⟨a,b⟩:=ents_look T.wf hp
   exact allS_mem (T.live p.1 (by rw [a]; exact b))
 have h2:allS.length=33:=by decide
 rw [List.length_map,h2] at this
 exact Nat.le_trans this (nb rfl)
theorem intsOf_snoc (l:List (Ky×Value)) (k:Ky) (v:Value):intsOf (l++[(k,v)])=intsOf l++(match k with | .i n=>[n] | .b _=>[]):=by
 unfold intsOf
 rw [List.filterMap_append]
 cases k <;> rfl
theorem intsAre_snoc {vs:List Value} {ns:List Int} (h:IntsAre vs ns) (n:Int) (t:Tok):IntsAre (vs++[.int n t]) (ns++[n]):=by
 induction h with
 | nil=>exact .cons n t .nil
 | cons k u r ih=>exact .cons k u ih
noncomputable def dueInts (row:List Int) (fi la:Int):List Int:=(List.range (la+1 - fi).toNat).map fun (k:Nat)=>row.getD (fi - 1+k).toNat 0
theorem drop_take_map {row:List Int} {a c:Nat} (h:a+c≤row.length):(row.drop a).take c=(List.range c).map fun (k:Nat)=>row.getD (a+k) 0:=by
 refine List.ext_getElem (by rw [List.length_take,List.length_drop,List.length_map,List.length_range,Nat.min_eq_left (Nat.le_sub_of_add_le' h)]) fun i h1 h2=>?_
 have hi:i < c:=by rwa [List.length_map,List.length_range] at h2
 rw [List.getElem_take,List.getElem_drop,List.getElem_map,List.getElem_range,List.getD_eq_getElem?_getD,List.getElem?_eq_getElem (Nat.lt_of_lt_of_le (Nat.add_lt_add_left hi a) h)]
 rfl
theorem pick_due {rv:List Value} {row:List Int} (h:IntsAre rv row) {fi la:Int} (f1:1≤fi) (l2:la≤row.length):IntsAre (kms_pick rv (some (fi - 1)) (some (if 0 > la then 0 else la))) (dueInts row fi la):=by
 obtain ⟨a,rfl⟩:∃ a:Nat,fi=(a:Int)+1:=⟨(fi - 1).toNat,by exact lq [_] [_] [.le Kr Zq,.tn 0 (.s Zq Kr)] (.eq Zq (.a Nq Kr)) [[110000,101000],[10100,11010]] rfl f1 rfl⟩
 have hl:=h.length
 have e1:kms_lo (some ((a:Int)+1 - 1)) rv.length=min a row.length:=by
  rw [Int.add_sub_cancel,← hl]
  exact (if_neg (t:=rv.length - (-(a:Int)).toNat) (Int.not_lt.2 (Int.natCast_nonneg a)))
 have e2:kms_hi (some (if 0 > la then 0 else la)) rv.length=la.toNat:=by
  rw [hl]
  by_cases z:0 > la
  ·rw [if_pos z,Int.toNat_of_nonpos (Int.le_of_lt z)]
   exact Nat.zero_min row.length
  ·rw [if_neg z]
   exact (if_neg (t:=row.length - (-la).toNat) z).trans (Nat.min_eq_left (Int.toNat_le.2 l2))
 unfold kms_pick dueInts
 rw [e1,e2]
 by_cases e:la≤a
 ·rw [Nat.sub_eq_zero_of_le (Nat.le_min.2 ⟨Int.toNat_le.2 e,Int.toNat_le.2 l2⟩),List.take_zero,Int.toNat_of_nonpos (Int.sub_nonpos_of_le (Int.add_le_add_right e 1))]
  exact .nil
 ·obtain ⟨c,rfl⟩:∃ c:Nat,la=((a+c:Nat):Int):=⟨(la - a).toNat,by exact lq [_,_] [_] [.nl Zq Nq,.tn 1 (.s Zq Nq)] (.eq Zq (.c (.a Nq Nr))) [[110000,101000],[10100,11010]] rfl e rfl⟩
  have l3:=Int.ofNat_le.1 l2
  rw [Nat.min_eq_left (Nat.le_trans (Nat.le_add_right a c) l3),Int.toNat_natCast,Nat.add_sub_cancel_left,show (((a+c:Nat):Int)+1 - ((a:Int)+1)).toNat=c by exact lq [_,_,_] [] [.tn 0 (.s (.a (.c (.a Nr Ns)) Kr) (.a Nr Kr))] (.e Nq Ns) [[10100,11000],[]] rfl rfl]
  have:=(h.drop a).take c
  rw [drop_take_map l3] at this
  refine cast (congrArg (IntsAre _) (List.map_congr_left fun k z9=>?_)) this
  rw [Int.add_sub_cancel,← Int.natCast_add,Int.toNat_natCast]
theorem due_rg {row:List Int} {fi la:Int} (f1:1≤fi) (l2:la≤row.length) (h:∀ v∈row,-3≤v∧v≤7) {i:Nat} (hi:i < (dueInts row fi la).length):-3≤(dueInts row fi la).getD i 0∧(dueInts row fi la).getD i 0≤7:=by
 have hl:(dueInts row fi la).length=(la+1 - fi).toNat:=by simp [dueInts]
 rw [List.getD_eq_getElem?_getD,List.getElem?_eq_getElem hi]
 simp only [Option.getD_some,dueInts,List.getElem_map,List.getElem_range]
 rw [List.getD_eq_getElem?_getD,List.getElem?_eq_getElem (by omega)]
 exact h _ (List.getElem_mem _)
theorem Spec.permL {w:World} {mean:ExcName→Option Value} {mg mb:Names} {f:Value} {args:List Value} {dep:Nat} {led led':Led} {P:Value→Prop} (H:Spec w mean mg mb f args dep led (fun r l=>P r∧l=led)) (p:led.Perm led'):Spec w mean mg mb f args dep led' (fun r l=>P r∧l=led'):=by
 intro Ar env g L m s Q E C F N D hret
 refine H Ar env g L m s Q E C F (News.perm N p.symm) (D.perm p.symm) fun r l h tk F' N' D' q=>?_
 obtain ⟨q,rfl⟩:=q
 exact hret r _ h tk F' (News.perm N' p) (D'.perm p) ⟨q,rfl⟩
theorem due_map {row:List Int} {fi la:Int}:((List.range (la+1 - fi).toNat).map fun (k:Nat)=>txB (row.getD (fi+k - 1).toNat 0))=(dueInts row fi la).map txB:=by
 unfold dueInts
 rw [List.map_map]
 refine List.map_congr_left fun k z9=>?_
 show txB _=txB _
 rw [show fi+(k:Int) - 1=fi - 1+k by exact lq [_] [_] [] (.eq (.s (.a Zq Nq) Kr) (.a (.s Zq Kr) Nq)) [] rfl]
theorem foldl_max_le {n:Int}:∀ {ks:List Int} {g:Int},g≤n→(∀ k∈ks,k≤n)→ks.foldl max g≤n
 | [],_,hg,_=>hg
 | k::r,g,hg,h=>foldl_max_le (ks:=r) (g:=max g k) (by have:=h k (.head _); lia) fun x hx=>h x (.tail _ hx)
theorem le_foldl_max {n:Int}:∀ {ks:List Int} {g:Int},(n≤g∨n∈ks)→n≤ks.foldl max g
 | [],_,h=>h.elim id fun h=>nomatch h
 | k::r,g,h=>le_foldl_max (ks:=r) (g:=max g k) (by
  rcases h with h | h
  ·exact .inl (by lia)
  ·rcases List.mem_cons.mp h with rfl | h
   ·exact .inl (by lia)
   ·exact .inr h)
theorem mem_intsOf {l:List (Ky×Value)} {n:Int}:n∈intsOf l↔∃ v,(Ky.i n,v)∈l:=by
 unfold intsOf
 rw [List.mem_filterMap]
 constructor
 ·rintro ⟨⟨k,v⟩,he,h⟩
  cases k with
  | i m=>cases h; exact ⟨v,he⟩
  | b l=>cases h
 ·rintro ⟨v,h⟩
  exact ⟨_,h,rfl⟩
theorem Held.great {C:TC} {row:List Int} {bes:List (Ky×Value)} (H:Held C row bes):(intsOf (ents C 0)).foldl max 0=(row.length:Int):=by
 have W:=H.tab.wf
 refine Int.le_antisymm (foldl_max_le (by exact Int.natCast_nonneg _) fun k hk=>?_) (le_foldl_max ?_)
 ·obtain ⟨v,hv⟩:=mem_intsOf.mp hk
  obtain ⟨a,b⟩:=ents_look W hv
  rcases H.off (.i k) (by rw [a]; exact b) with ⟨j,hj,e⟩ | ⟨u,hu⟩
  ·have:=Ky.i.inj e; exact lq [_,_] [_] [.t Nq Nr,.eq Zq (.a Nq Kr)] (.le Zq Nr) [[10110]] rfl hj this
  ·have:=(H.bk _ (mem_of_value hu)).2; exact lq [_] [_] [.le Zq Kq] (.le Zq Nq) [] rfl this
 ·by_cases h0:row.length=0
  ·exact .inl (by exact h0▸Int.natCast_nonneg _)
  ·obtain ⟨t,e⟩:=H.at1 (k:=(row.length:Int)) (by exact Int.ofNat_le.2 (Nat.pos_of_ne_zero h0)) (by exact Int.le_refl _)
   have hne:look C (.i (row.length:Int))≠.none:=by rw [e]; exact fun h=>nomatch h
   obtain ⟨q,hq,hs⟩:=slot_look W hne
   exact .inr (mem_intsOf.mpr ⟨_,ents_mem.mpr ⟨q,Nat.zero_le _,hq,hs⟩⟩)
theorem ne_ints_nil {prog:Program} {w:World} {A:Around} {E:Value→Shared→Prop} {s:Shared} {h₀:Heap} {L:Addr} {led:Led} {a b:Addr} {us:List Value} {n n':Nat} {k:Int} {r:List Int} {Q:Value→Shared→Prop} (N:News h₀ L s.heap led) (h1:(a,listOf us.toArray n)∈led) (h2:(b,listOf #[] n')∈led) (hi:IntsAre us (k::r))
  (hu:A.units+64 < cLine) (h:Q (.bool true) s):wpAny (model prog w) A (compareOp .NotEq (.ref a) (.ref b)) Q E s:=by
 have hl:∀ ns:List Int,PyData.canLayAll0 (ns.map PyData.int)=true:=by
  intro ns
  induction ns with
  | nil=>rfl
  | cons n r ih =>
   show (PyData.canLay0 (.int n) && PyData.canLayAll0 (r.map PyData.int))=true
   rw [ih]; rfl
 have hd:∀ ns:List Int,PyData.depthAll (ns.map PyData.int)=0:=by
  intro ns
  induction ns with
  | nil=>rfl
  | cons n r ih =>
   show max (PyData.depth (.int n)) (PyData.depthAll (r.map PyData.int))=0
   rw [ih]; rfl
 have hs:∀ row:List Int,SeqAt.shaped (.list (row.map PyData.int))=true:=by
  intro row
  unfold SeqAt.shaped
  rw [show (PyData.list (row.map PyData.int)).canLay0=true from hl row,show PyData.depth (.list (row.map PyData.int))=PyData.depthAll (row.map PyData.int)+1 from rfl,hd]
  rfl
 exact ne_dataH (Reads.list (N _ h1).1 rfl rfl (reads_ints hi)) (Reads.list (N _ h2).1 rfl rfl (reads_ints .nil)) (hs _) (hs []) hu (by
  have:(PyData.list ((k::r).map PyData.int)).eqv (PyData.list (([]:List Int).map PyData.int))=false:=rfl
  rw [this]; exact h)
theorem index_row {prog:Program} {w:World} {A:Around} {E:Value→Shared→Prop} {s:Shared} {h₀:Heap} {L l:Addr} {led:Led} {vs:List Value} {ns:List Int} {n:Nat} {k:Int} {t:Tok} {Q:Value→Shared→Prop} (N:News h₀ L s.heap led) (hm:(l,listOf vs.toArray n)∈led) (hi:IntsAre vs ns) (hz:ns.length≤100) (hk:k∈ns)
  (h:∀ t',Q (.int (ns.idxOf k:Nat) t') { s with toks:=s.toks+1 }):wpAny (model prog w) A (call (.builtin "list.index") [.ref l,.int k t]) Q E s:=by
 have hlen:=hi.length
 have hj:ns.idxOf k < ns.length:=List.idxOf_lt_length_iff.mpr hk
 refine call_meets PySem.F.slot_list_index ⟨_,(N _ hm).1,rfl⟩ PySem.F.entry_list_index (PySem.F.args_list_index_2 _ _)
  (PySem.SeqAt.list_indexAt l vs.toArray n none #[] (.int k t) (isInt k) (ns.idxOf k) (by simpa [hlen] using hj) (by lia) ?_ ?_) ⟨(N _ hm).1,fun y hy=>(eq_isInt k t hi y (by simpa using hy)).at _ _,h _⟩
 ·exact (isInt_at k hi _ (by exact hlen▸hj) hj).trans (by simpa using List.getElem_idxOf hj)
 ·intro j hjs hlt
  exact (isInt_at k hi j (by simpa using hjs) (by exact Nat.lt_trans hlt hj)).trans (ne_of_lt_idxOf hlt _)
theorem asked_at {row:List Int} {wt i:Int} (i1:1≤i) (i2:i≤row.length) (hp:(row.getD (i - 1).toNat 0 == wt)=true) (hmin:∀ j,1≤j→j < i→(row.getD (j - 1).toNat 0 == wt)=false):wt∈row∧((row.idxOf wt:Nat):Int)+1=i:=by
 have hg:∀ q:Nat,q < row.length→row.getD q 0=row.getD q 0∧∀ h:q < row.length,row.getD q 0=row[q]:=fun q hq=>⟨rfl,fun h=>by rw [List.getD_eq_getElem?_getD,List.getElem?_eq_getElem h]; rfl⟩
 have e:=(hg (i - 1).toNat (by exact lq [_,_] [_] [.le Kr Zq,.le Zq Nq,.tn 1 (.s Zq Kr)] (.t Nr Nq) [[1010100],[110110]] rfl i1 i2 rfl)).2 (by exact lq [_,_] [_] [.le Kr Zq,.le Zq Nq,.tn 1 (.s Zq Kr)] (.t Nr Nq) [[1010100],[110110]] rfl i1 i2 rfl)
 rw [e] at hp
 have hp':row[(i - 1).toNat]=wt:=by simpa using hp
 have hm:wt∈row:=hp'▸List.getElem_mem _
 have hq:row.idxOf wt < row.length:=List.idxOf_lt_length_iff.mpr hm
 refine ⟨hm,?_⟩
 rcases Nat.lt_trichotomy (row.idxOf wt) (i - 1).toNat with h | h | h
 ·have h2:=hmin ((row.idxOf wt:Nat)+1) (by exact lq [_] [] [] (.le Kr (.a Nq Kr)) [] rfl) (by omega)
  rw [show (((row.idxOf wt:Nat):Int)+1 - 1).toNat=row.idxOf wt by exact lq [_,_] [] [.tn 0 (.s (.a Nr Kr) Kr)] (.e Nq Nr) [[10100,11000],[]] rfl rfl,(hg _ hq).2 hq,List.getElem_idxOf hq] at h2
  simp at h2
 ·exact lq [_,_] [_] [.le Kr Zq,.e Nq Nr,.tn 1 (.s Zq Kr)] (.eq (.a Nq Kr) Zq) [[10100100,11001000],[1100110,1010000]] rfl i1 h rfl
 ·have h2:=ne_of_lt_idxOf h (by exact Nat.lt_trans h hq)
  rw [hp'] at h2
  simp at h2
section
variable {c:Cn} {m:NM} {l:Led} {pos:Pos} {ss:List Stmt} {K:List (List Stmt)} {Q:Flow→NM→Led→Prop} {e:PySem.Expr} {es:List PySem.Expr} {P:List Value→Led→Prop}
theorem HS.assignC {x:Str} {xp:Pos} (i:Nat) (hx:slot c.sh.sc.names i=some (x,.local)) (hc:noComp e=true) (h:HE ⟨c,m,l⟩ e fun v l'=>HS c (ss::K) (m.set i (.v v)) l' Q):HS c ((.Assign [.Name x xp] e pos::ss)::K) m l Q:=HS.assignH i hx hc h fun z9 z9 p=>p
theorem HEs.i {n:Int} (hs:isStar e=false) (h:Ev ⟨c,m,l⟩ e (.i n)) (k:∀ t,HEs ⟨c,m,l⟩ es fun vs l'=>P (.int n t::vs) l'):HEs ⟨c,m,l⟩ (e::es) P:=HEs.consE hs h fun v ⟨t,hv⟩=>hv▸k t
theorem HEs.h (hs:isStar e=false) (h:HE ⟨c,m,l⟩ e fun v l'=>HEs ⟨c,m,l'⟩ es fun vs l''=>P (v::vs) l''):HEs ⟨c,m,l⟩ (e::es) P:=HEs.cons hs h fun z9 z9 p=>p
theorem HS.ffC {op:CmpOp} {e1 e2:PySem.Expr} {a b:List Stmt} {ip:Pos} (hd:3≤c.dep) (hm:behindInMarks op e2=false) (h:HE ⟨c,m,l⟩ e1 fun v l1=>HE ⟨c,m,l1⟩ e2 fun u l2=>CmpIs c.w op v u l2 false∧HS c (b::ss::K) m l2 Q):HS c ((.If (.Compare e1 [op] [e2] pos) a b ip::ss)::K) m l Q :=
 HS.step fun Ar z9 z9 s T R=>wpAny_If (wpAny_isTrue_Compare1 (h.use T R fun v h1 tk1 l1 p1 R1=>HE.use (σ:=⟨c,m,l1⟩) (s:={ s with heap:=h1,toks:=tk1 }) p1 T R1 fun u h2 tk2 l2 p2 R2=>by
  have hu:Ar.units+30 * c.dep < cLine:=T.C.u
  exact p2.1 (s:={ s with heap:=h2,toks:=tk2 }) (by lia) R2.N fun tk=>wpAny_truthy_bool (HS.into (T:=T) (tk:=tk) R2 p2.2)) hm)
end
section
variable {sh:Sh} {dep:Nat} {m:NM} {pos:Pos} {es:List PySem.Expr} {P:List Value→Led→Prop}
theorem HE.lamC {params:Arguments} {body:PySem.Expr} {scope:Scope} {A:TA} {C:TC} {T c:Addr} {ps:Array Value} {R Z:Led} {QS:List (Pos×Str)} {qual:Str} {clos:List (Str×Addr)} {P:Value→Led→Prop} (hdef:∀ L,defaultsOf params (sh.env L)=([],[])) (hql:∀ L,(sh.env L).qual++"<lambda>"=qual) (H:∀ h₀,(hd.heap_1_39 w.params).In h₀→CodeHd h₀ c T) (hcd:sh.cd=.ref c)
  (hI:TabOk QS ps Z) (hq:(pos,qual)∈QS) (hQ:∀ p∈QS,p.1.line=pos.line→p.1.col=pos.col→p.2=qual∧p.1=pos) (hcl:∀ L,closureFor scope (sh.env L)=pure clos)
  (k:∀ f c' ctv fo J ps',fo=kla_obj "<lambda>" qual params body scope clos ((mg "__name__").getD .none) c' ctv→CodeAt (J++Z) c' qual→TabOk QS ps' (J++Z)→P (.ref f) (TL w.params A C ((T,tabObj ps')::(f,fo)::(J++R)))) :
  HE ⟨⟨w,mean,mg,mb,sh,dep⟩,m,TL w.params A C ((T,tabObj ps)::R)⟩ (.Lambda params body scope pos) P:=by
 intro Ar g L s Tr R0
 obtain ⟨nm,F,Hn⟩:=R0.F
 obtain ⟨pv,lo,Tp⟩:=Tr.C.T
 refine kla_eval (hdef L) ?_
 rw [hql L]
 rw [tl_nil] at R0
 refine mk_lam F R0.N R0.D Tp (H _ Tr.C.X) hcd hI hq hQ (hcl L) fun f c' oc vs t ctv J ps' h' tk F' N' D' h1 h2 h3 h4=>?_
 exact ⟨h',tk,m,TL w.params A C ((T,tabObj ps')::(f,kla_obj "<lambda>" qual params body scope clos ((mg "__name__").getD .none) c' ctv)::(J++R)),rfl,⟨⟨nm,F',Hn⟩,News.perm N' tl_new,D'.perm tl_new⟩,rfl,k f c' ctv _ J ps' rfl ⟨oc,vs,t,h1,h2,h3⟩ h4⟩
end
theorem meth_str {sp ap pos cp:Pos} {a:PySem.Expr} {env:Env} (hf:fewOk [] ap pos=true) :
  eval (.Call (.Attribute (.Call (.Name (Str.ofString "str") sp) [a] [] cp) (Str.ofString "encode") ap) [] [] pos) env=(do
   let ov ← eval (.Call (.Name (Str.ofString "str") sp) [a] [] cp) env
   standAt ap.atName
   let (f,first) ← holding [ov] (getMethod ov (Str.ofString "encode") (do return (← importBound (.Call (.Name (Str.ofString "str") sp) [a] [] cp) env).getD true))
   callWith pos f first (backTo pos (starEach [] env)) []):=by
 unfold fewOk at hf
 rw [Bool.and_eq_true] at hf
 show (do
  let ov ← eval (.Call (.Name (Str.ofString "str") sp) [a] [] cp) env
  standAt ap.atName
  methodCall (.Call (.Name (Str.ofString "str") sp) [a] [] cp) (Str.ofString "encode") ap pos env ov 0 (backTo pos (starEach [] env)) (backToKw pos (keywordEach [] env)))=_
 unfold methodCall
 rw [show methodCallForm 0 (backTo pos (starEach [] env)) (backToKw pos (keywordEach [] env))=true from rfl]
 unfold calleeOf methodCallPos
 rw [hf.2]
 rfl
section
variable {c:Cn} {m:NM} {l:Led} {pos:Pos} {e o:PySem.Expr}
theorem HE.strEnc {sp ap cp:Pos} {n:Int} (hs:isStar e=false) (hw:fewOk [] ap pos=true) (hf:Ev ⟨c,m,l⟩ (.Name (Str.ofString "str") sp) (.v (.type "str"))) (he:Ev ⟨c,m,l⟩ e (.i n)) (h1:-3≤n) (h2:n≤7) :
  HE ⟨c,m,l⟩ (.Call (.Attribute (.Call (.Name (Str.ofString "str") sp) [e] [] cp) (Str.ofString "encode") ap) [] [] pos) fun v l'=>(∃ t,v=.bytes (txB n) t)∧l'=l:=by
 intro Ar g L s T R
 refine MethodCall_ (Call_ (hf.use T R fun z9 z9 z9 ev R1=>?_) (callee_of rfl)) (meth_str hw)
 cases ev
 refine Pv.callWith_type1 (args_cons (he.use T R1 fun _ _ _ ⟨t,ev⟩ R2=>args_nil ?_) (star_of hs)) (star_of hs) rfl
 subst ev
 exact str_small h1 h2 (enc_method (callWith_method0 (enc_call h1 h2 fun t' k=>HE.out (s:=s) (P:=fun v l'=>(∃ t,v=.bytes (txB n) t)∧l'=l) R2 ⟨⟨t',rfl⟩,rfl⟩)))
theorem HE.encs {x ns es:Str} {px xp sp ap p1 p2 sp1 sp2 mp:Pos} {scope:Scope} {row lo hi zr fm:PySem.Expr} {a:Addr} {vs:List Value} {n:Nat} {i j:Int} {xs:List Int} (hes:es=Str.ofString "encode") (hns:ns=Str.ofString "str") (hclos:∀ L,closureFor scope (c.sh.env L)=pure []) (hcell:∀ y∈scope.names,y.2≠.cell) (hkind:scope.kind=.function)
  (hnames:∀ y∈scope.names,y.2=.local→scope.names.lookup y.1=some .local) (hx:scope.names.lookup x=some .local) (hfold:∀ L v,foldedSetIterable (.Subscript row (.Slice (some lo) (some (.Call fm [hi,zr] [] mp)) none sp1) sp2) (c.sh.env L) v=pure v) (hkx:∀ L C,(compEnvC scope [] C (c.sh.env L)).kindOf x=some .local) (hks:∀ L C,(compEnvC scope [] C (c.sh.env L)).kindOf ns=some .globalImplicit)
  (hdx:(x == Str.ofString "__debug__")=false) (hnm:noAtt fm=true) (hs1:isStar hi=false) (hs2:isStar zr=false) (hew:fewOk [] ap p2=true) (h1:EvS ⟨c,m,l⟩ row (.v (.ref a))) (h2:EvS ⟨c,m,l⟩ lo (.i i)) (h3:EvS ⟨c,m,l⟩ fm (.v (.builtin "max"))) (h4:EvS ⟨c,m,l⟩ hi (.i j)) (h5:EvS ⟨c,m,l⟩ zr (.i 0))
  (hm:(a,listOf vs.toArray n)∈l) (hz:vs.length < 1000) (hi':IntsAre (kms_pick vs (some i) (some (if 0 > j then 0 else j))) xs) (hr:∀ k:Nat,k < xs.length→-3≤xs.getD k 0∧xs.getD k 0≤7) (hxl:xs.length < 1000) :
  HE ⟨c,m,l⟩ (.ListComp (.Call (.Attribute (.Call (.Name ns sp) [.Name x xp] [] p1) es ap) [] [] p2) [⟨.Name x px,.Subscript row (.Slice (some lo) (some (.Call fm [hi,zr] [] mp)) none sp1) sp2,[],0⟩] scope pos) fun v l'=>∃ D ls,v=.ref D∧l'=(D,listOf (bytesVals ls).toArray (bytesVals ls).length)::l∧ls.map (·.1)=xs.map txB:=by
 subst hes hns
 refine HE.fin (P:=fun v l'=>∃ D D8 o8 ls,v=.ref D∧l'=(D,listOf (bytesVals ls).toArray (bytesVals ls).length)::(D8,o8)::l∧ls.map (·.1)=xs.map txB) ?_ fun v l' ⟨D,D8,o8,ls,e1,e2,e3⟩=>⟨[(D8,o8)],_,e2▸.swap ..,D,ls,e1,rfl,e3⟩
 refine HE.of fun Ar g L h₀ gs d tk₀ os Q T R hq=>?_
 obtain ⟨nm,F,H⟩:=R.F
 refine LCg.ListComp_U F (hclos L) hcell hkind hnames hx (Subscript_ (h1 _ _ _ _ _ _ T R fun v tk1 hv=>?_)) (hfold L)
 cases hv
 refine wpAny_Slice (evalPart_some_step (h2 _ _ _ _ _ _ T R fun v tk1 ⟨t1,hv⟩=>evalPart_some_step (Call_ (h3 _ _ _ _ _ _ T R fun v tk2 hv2=>?_) (callee_of hnm))))
 subst hv
 cases hv2
 refine callWith_builtin1 (args_cons (h4 _ _ _ _ _ _ T R fun v tk3 ⟨t3,hv⟩=>args_cons (h5 _ _ _ _ _ _ T R fun v tk4 ⟨t4,hv4⟩=>args_nil ?_) (star_of hs2)) (star_of hs1)) (star_of hs1) (star_plain (by simp [hs2]))
 subst hv hv4
 refine max_two_N T.C.n F R.N fun h5' tk5 F5 N5=>evalPart_none_step ?_
 refine sl_cut F5 N5 R.D hm (.int i t1) (.int _ _) hz rfl fun D8 h6 F6 N6 D6=>?_
 have hdl:=hi'.length
 generalize kms_pick vs (some i) (some (if 0 > j then 0 else j))=dv at N6 D6 hi' hdl
 refine LCg.CompSrc.ledger T.C.n F6 N6 (.head _) (by rw [List.size_toArray,sizeLine_eq]; exact lq [_,_] [] [.t Nq (.k 1000),.e Nr Nq] (.l Nr (.k 16777216)) [[10110]] rfl hxl hdl) (fun g'=>?_)
 rw [List.size_toArray]
 refine comp_led (n:=dv.length) (fun k ys led=>led=(D8,listOf dv.toArray 0)::l∧∃ ls:List (Array UInt8×Tok),ys=bytesVals ls∧ls.map (·.1)=(xs.take k).map txB) ?_ ?_ dv.length 0 [] _ rfl ⟨rfl,[],rfl,rfl⟩ D6
 ·rintro k v I oI Cm oC Dm m₂ h tk ys led E' hk hP hC hx ⟨rfl,ls,rfl,hbl⟩ F₂ N₂ D₂
  obtain ⟨tv,ev⟩:=ints_get hi' k (by exact hdl▸hk)
  have ev':v=.int (xs.getD k 0) tv:=by
   have:dv[k]?=some v:=by simpa using hP
   rw [ev] at this
   exact (Option.some.inj this).symm
  subst ev'
  obtain ⟨v1,v2⟩:=hr k (by exact hdl▸hk)
  obtain ⟨pv,lo',Tp⟩:=T.C.T
  refine MethodCall_ (Call_ (LCgL.ld_built F₂ T.C.X Tp (by k_is) (by boot_by_name) (by decide) ?_ rfl rfl hkind (hks _ _)) (callee_of rfl)) (meth_str hew)
  refine Pv.callWith_type1 (args_cons (LCgL.ld_own N₂ (.tail _ (.head _)) hC hx (args_nil ?_) hkind (hkx _ _) hdx) rfl) rfl rfl
  refine str_small v1 v2 (enc_method (callWith_method0 (enc_call v1 v2 fun t' k'=>?_)))
  exact cp_next F₂ N₂ D₂ ⟨[],.refl _⟩ (.inr ⟨_,.head _,rfl,_,rfl⟩) ⟨rfl,ls++[(txB (xs.getD k 0),t')],by unfold bytesVals; rw [List.map_append]; rfl,by rw [List.map_append,hbl,List.take_add_one,List.map_append,List.getElem?_eq_getElem (by exact hdl▸hk),List.getD_eq_getElem?_getD,List.getElem?_eq_getElem (by exact hdl▸hk)]; rfl⟩
 ·rintro ys led ⟨rfl,ls,rfl,hbl⟩ hA
  refine fin_e hA fun Dl h₂ tk₂ F₂ N₂ D₂=>?_
  refine hq _ h₂ tk₂ ((Dl,LCg.lst (bytesVals ls))::(D8,listOf dv.toArray 0)::l) ⟨⟨_,F₂,H⟩,N₂,D₂⟩ ⟨Dl,D8,listOf dv.toArray 0,ls,rfl,rfl,?_⟩
  rw [hbl,hdl,List.take_length]
end
theorem CmpIs.neBytes {w:World} {l:Led} {a:Array UInt8} {t u:Tok}:CmpIs w .NotEq (.bytes a t) (.bytes a u) l false :=
 fun {Ar g L s Q E} _ _ k=>ne_bytes (by rw [show (a.toList != a.toList)=false by simp]; exact k s.toks)
theorem CmpIs.neInt {w:World} {l:Led} {a:Int} {t u:Tok}:CmpIs w .NotEq (.int a t) (.int a u) l false :=
 fun {Ar g L s Q E} _ _ k=>ne_int (by rw [show (a != a)=false by simp]; exact k s.toks)
theorem CmpIs.inInts {w:World} {l:Led} {a:Addr} {vs:List Value} {ns:List Int} {n:Nat} {x:Int} {t:Tok} (hm:(a,listOf vs.toArray n)∈l) (hi:IntsAre vs ns):CmpIs w .In (.int x t) (.ref a) l (ns.any (· == x)) :=
 fun {Ar g L s Q E} _ N k=>in_list_ints (PySem.IsL.isList (n:=n) (N _ hm).1) hi (k s.toks)
theorem VCmp.nones {p:Prop} (h:p):VCmp .Eq .none .none p:=fun k=>EqNone.eq_none_none (k true ⟨fun z9=>h,fun z9=>rfl⟩)
theorem EvT.neCons {c:Cn} {m:NM} {l:Led} {e1:PySem.Expr} {lp pos:Pos} {a:Addr} {us:List Value} {n:Nat} {k:Int} {r:List Int} (hd:3≤c.dep) (h1:Ev ⟨c,m,l⟩ e1 (.v (.ref a))) (hm:(a,listOf us.toArray n)∈l) (hi:IntsAre us (k::r)):EvT ⟨c,m,l⟩ (.Compare e1 [.NotEq] [.List [] lp] pos) True :=
 (EvT.cmpH (b:=true) (P1:=fun v l1=>v=.ref a∧l1=l) (P2:=fun v u l2=>∃ b,u=.ref b∧l2=(b,listOf #[] 0)::l) hd (h1.toHE fun v hv=>⟨hv,rfl⟩) (fun v l1 ⟨_,e⟩=>by subst e; exact HE.list0) rfl fun v l0 u l2 ⟨e0,_⟩ ⟨b,e1,e2⟩=>by
  subst e0 e1 e2
  exact ⟨⟨[_],.refl _⟩,fun hu N q=>ne_ints_nil N (.tail _ hm) (.head _) hi hu (q _)⟩).congr (by simp)
section
variable {c:Cn} {m:NM} {l:Led} {pos:Pos} {e o:PySem.Expr} {ss:List Stmt} {K:List (List Stmt)} {Q:Flow→NM→Led→Prop}
theorem Ev.tup0 {x:Str} {xp zp:Pos} {k:Nat} {T:Addr} {a b:Value} (ho:Ev ⟨c,m,l⟩ (.Name x xp) (.v (.ref T))) (hm:(T,tupObj #[a,b])∈l):Ev ⟨c,m,l⟩ (.Subscript (.Name x xp) (.Constant (.int 0) k zp) pos) (.v a):=by
 intro Ar g L s Tr R
 refine Subscript_ (ho.use Tr R fun z9 z9 z9 ev R1=>wpAny_Constant_int ?_)
 cases ev
 exact item_tuple (News.isTup R1.N hm) (by decide) (by decide) (j:=0) rfl rfl (Ev.out (s:=s) R1 rfl) rfl (fun z9=>rfl)
theorem Ev.index {ap:Pos} {a:Addr} {vs:List Value} {ns:List Int} {n:Nat} {x:Int} (hc:noCall o=true) (hf:fewOk [e] ap pos=true) (hs:isStar e=false) (ho:Ev ⟨c,m,l⟩ o (.v (.ref a))) (he:Ev ⟨c,m,l⟩ e (.i x)) (hm:(a,listOf vs.toArray n)∈l) (hi:IntsAre vs ns) (hz:ns.length≤100) (hk:x∈ns) :
  Ev ⟨c,m,l⟩ (.Call (.Attribute o (Str.ofString "index") ap) [e] [] pos) (.i (ns.idxOf x:Nat)):=by
 intro Ar g L s T R0
 refine MethodCall_ (ho.use T R0 fun z9 z9 z9 ev R1=>?_) (meth_any hc (Evs.cons hs he .nil).plain hf)
 cases ev
 refine kl_method R1.N hm PySem.F.slot_list_index PySem.F.type_list_index (callWith_method1 (args_cons (he.use T R1 fun _ _ _ ⟨t,hv⟩ R2=>args_nil ?_) (star_of hs)) (star_of hs) rfl)
 subst hv
 exact index_row R2.N hm hi hz hk fun t'=>Ev.out (s:=s) R2 ⟨t',rfl⟩
theorem HE.joinC {k:Nat} {cp ap:Pos} {x:List UInt8} {P:Value→Led→Prop} {S:List (Array UInt8×Tok)→Prop} (hs:isStar e=false) (hf:fewOk [e] ap pos=true) (he:HE ⟨c,m,l⟩ e P) (hk:∀ v l',P v l'→∃ D ls n,v=.ref D∧l'=(D,listOf (bytesVals ls).toArray n)::l∧S ls) (hS:∀ ls,S ls→ls.length≤64∧∀ p∈ls,p.1.size≤16) (hx:x.length≤16) :
  HE ⟨c,m,l⟩ (.Call (.Attribute (.Constant (.bytes x) k cp) (Str.ofString "join") ap) [e] [] pos) fun v l'=>l'=l∧∃ ls t,S ls∧v=.bytes (Builtin.Bytes.joined x.toArray (ls.map (·.1))) t:=by
 intro Ar g L s T R0
 have hp:((backTo pos (starEach [e] (c.sh.env L))).any (·.1))=false:=by rw [star_of hs]; rfl
 refine MethodCall_ (Constant_bytes ?_) (meth_any rfl hp hf)
 refine join_method (callWith_method1 (args_cons (he.use (s:={ s with toks:=_ }) T R0 fun r h' tk' l' hr R2=>args_nil ?_) (star_of hs)) (star_of hs) rfl)
 obtain ⟨D,ls,n,rfl,rfl,hls⟩:=hk _ _ hr
 obtain ⟨nm,F,H⟩:=R2.F
 exact bytes_join (l:=ls) (PySem.IsL.isList (n:=n) (R2.N _ (.head _)).1) (hS ls hls).1 (hS ls hls).2 (by simpa using hx) fun t k=>⟨_,k,m,l,rfl,⟨⟨nm,F,H⟩,News.sub R2.N fun z9 h=>.tail _ h,(List.nodup_cons.mp R2.D).2⟩,rfl,rfl,ls,t,hls,rfl⟩
theorem HS.assignC1 {x y:Str} {kt kv:Nat} {xp yp tp vp:Pos} {e1 e2:PySem.Expr} {A:TA} {C:TC} {v₀:Option Value} {ca:Addr} {co:Obj} (i j:Nat) (hx:slot c.sh.sc.names i=some (x,.cell)) (hy:slot c.sh.sc.names j=some (y,.local)) (hc:c.sh.cl.lookup x=some ca) (hco:co.data=.cell v₀)
  (hs:∀ L,swapsWithSole [.Tuple [.Name x xp,.Name y yp] kt tp] (.Tuple [e1,e2] kv vp) pos.line (c.sh.env L)=pure false) (hw:∀ L,swappedStores [.Tuple [.Name x xp,.Name y yp] kt tp] (.Tuple [e1,e2] kv vp) (c.sh.env L)=pure none)
  (h:HEs ⟨c,m,l⟩ [e1,e2] fun vs l'=>∃ (X post:Led) (a b:Value),vs=[a,b]∧l'=TL c.w.params A C (X++(ca,co)::post)∧∀ o',Obj.data o'=.cell (some a)→HS c (ss::K) (m.set j (.v b)) (TL c.w.params A C (X++(ca,o')::post)) Q):HS c ((.Assign [.Tuple [.Name x xp,.Name y yp] kt tp] (.Tuple [e1,e2] kv vp) pos::ss)::K) m l Q :=
 HS.step fun z9 z9 z9 s T R=>Assign_Tuple (Tuple_ (h.use T R fun vs h' tk' l' p R1=>by
  obtain ⟨X,post,a,b,rfl,rfl,hk⟩:=p
  obtain ⟨nm,F,H⟩:=R1.F
  refine kup_newTuple F R1.N (fun D' h2 F2 N2 lt=>?_) (nb rfl)
  refine unpackN_ F2 N2 (News.isTup N2 (.head _)) T.C.n rfl rfl fun h₂ F₂ N₂=>?_
  refine assignInOrder_cons (assign_Name (store_cell (m:=m) hx hc hco T (R:=⟨⟨_,F₂,H⟩,News.sub N₂ fun z9 h=>.tail _ h,R1.D⟩) fun h₄ o' ho R₄=>?_))
  exact assignInOrder_cons (assign_Name (store_slot (m:=m) (l:=TL c.w.params A C (X++(ca,o')::post)) (V:=.v b) hy rfl T R₄ fun h₃ tk₃ R₃=>assignInOrder_nil ⟨h₃,tk₃,_,_,rfl,R₃,hk o' ho⟩)))) (hs _) (hw _)
theorem HS.assignCell {x:Str} {xp:Pos} {A:TA} {C:TC} {v₀:Option Value} {ca:Addr} {co:Obj} {X post:Led} {n:Int} (i:Nat) (hx:slot c.sh.sc.names i=some (x,.cell)) (hc:c.sh.cl.lookup x=some ca) (hco:co.data=.cell v₀) (hn:noComp e=true) (he:Ev ⟨c,m,TL c.w.params A C (X++(ca,co)::post)⟩ e (.i n))
  (k:∀ o' t,Obj.data o'=.cell (some (.int n t))→HS c (ss::K) m (TL c.w.params A C (X++(ca,o')::post)) Q):HS c ((.Assign [.Name x xp] e pos::ss)::K) m (TL c.w.params A C (X++(ca,co)::post)) Q :=
 HS.step fun z9 z9 z9 s T R=>wpAny_Assign_Name (he.use T R fun _ _ _ ⟨t,hv⟩ R1=>hv▸store_cell (m:=m) hx hc hco T (R:=R1) fun h₄ o' ho R₄=>⟨h₄,_,_,_,rfl,R₄,k o' t ho⟩) (swaps_of hn)
end
theorem pm_l2 {α:Type} {P g k c w:α} {J3 RR:List α}:(k::P::g::c::w::(J3++RR)).Perm (P::g::(J3++k::c::w::RR)) :=
 (List.Perm.swap ..).trans (.cons _ ((List.Perm.swap ..).trans (.cons _ ((List.Perm.cons _ (.cons _ List.perm_middle.symm)).trans ((List.Perm.cons _ List.perm_middle.symm).trans List.perm_middle.symm)))))
theorem pm_k {α:Type} {K P g k w:α} {Z:List α}:([K,g,k]++(P::w::Z)).Perm (K::P::g::w::k::Z) :=
 .cons _ ((List.Perm.cons _ (.swap ..)).trans ((List.Perm.swap ..).trans (.cons _ (.cons _ (.swap ..)))))
theorem pm_e {α:Type} {g w t x5 P x3 r b:α} {J4 J3 J2 J:List α}:([g,w,t]++(x5::P::x3::r::b::(J4++(J3++(J2++J))))).Perm (P::g::(J4++(w::(J3++(J2++(t::x5::x3::r::b::J)))))) :=
 pq g [g,w,t,x5,P,x3,r,b] [J4,J3,J2,J] (.a (.c 0 (.c 1 (.c 2 .n))) (.c 3 (.c 4 (.c 5 (.c 6 (.c 7 (.a (.s 0) (.a (.s 1) (.a (.s 2) (.s 3)))))))))) (.c 4 (.c 0 (.a (.s 0) (.c 1 (.a (.s 1) (.a (.s 2) (.c 2 (.c 3 (.c 5 (.c 6 (.c 7 (.s 3)))))))))))) rfl
theorem pm_n {α:Type} {T a b c d:α} {X Y:List α}:(T::a::b::c::d::(X++Y)).Perm (X++(a::b::c::d::T::Y)) :=
 (List.perm_middle (l₁:=[a,b,c,d])).symm.trans ((List.Perm.append_left [a,b,c,d] List.perm_middle.symm).trans (List.perm_append_comm_assoc [a,b,c,d] X (T::Y)))
theorem pm_lam {α:Type} {f P w k:α} {J Y:List α}:(f::P::w::k::(J++Y)).Perm (P::f::(J++(w::k::Y))) :=
 (List.Perm.swap ..).trans (.cons _ (.cons _ (List.perm_middle.trans (.cons _ List.perm_middle)).symm))
section
theorem spec_told (A:TA) (C:TC) (ra ba:Addr) (row:List Int) (rv:List Value) (re:Nat) (kvs:List (Ky×Value)) (bo:Obj) (p1 p2 p3:Array Value) (J Z:Led) (rest:Int) (tr:Tok)
  (hz:∀ p∈Z,p∈J) (K:LawOk w C row rv kvs bo p1 p2 p3 Z) :
  Spec w mean mg mb (.ref 543) [.ref A.t,.ref ra,.int rest tr] 100 (LL w.params A C ra ba rv re bo p1 p2 p3 J) (fun r l=>r=.bool true∧Left3 w A ra ba Z J l):=by
 have hlv:rv.length=row.length:=K.rowv.length
 have hl:=K.held.len
 have hT:=K.held.tab
 have hB:=K.held.bord
 have hlz:rv.length < 2 ^ 62:=by exact lq [_,_] [] [.e Nq Nr,.l Nr (.k 24)] (.t Nq (.k 4611686018427387904)) [[11010]] rfl hlv hl
 refine Spec.enterCH (cm:=upd (fun _=>none) "t" (.ref A.t)) (cl:=fun L=>[("wanted",L+1+1+1),("keys",L+1+1),("t",L+1)]) (by k_is) (by k_is) (fun s X=>BindsTo.of_eq rfl) rfl (by decide) (.cons sl2 rfl (.cons sl1 rfl .nil)) (bc_of (l:=[(_,_),(_,_),(_,_)]) rfl fun y=>rfl) (fun L=>rfl) rfl rfl rfl (by kernel_rfl) hap_three ?_
 intro L₁ cells Yc
 obtain ⟨cw,ck,ct,rfl,hcw,hck,hct⟩:=CellsAre.three Yc
 rw [show upd (fun _=>none) "t" (.ref A.t) "t"=some (.ref A.t) from upd_hit] at hct
 clear Yc
 obtain ⟨Y,hY⟩:∃ Y,Y=(L₁+1,ct)::(545,tabObj p3)::(535,tabObj p1)::(ra,listOf rv.toArray re)::(ba,bo)::J:=⟨_,rfl⟩
 have m_t:(L₁+1,ct)∈Y:=by rw [hY]; exact .head _
 have m_r:(ra,listOf rv.toArray re)∈Y:=by rw [hY]; exact .tail _ (.tail _ (.tail _ (.head _)))
 have m_J:∀ p∈Z,p∈Y:=fun p hp=>by rw [hY]; exact .tail _ (.tail _ (.tail _ (.tail _ (.tail _ (hz p hp)))))
 refine HS.perm (l':=TL w.params A C ((540,tabObj p2)::(L₁+1+1+1,cw)::(L₁+1+1,ck)::Y)) (by rw [hY]; refine (tl_congr (List.perm_middle (l₁:=[_,_,_,_])).symm).trans ?_; exact tl_app [_,_,_]) ?_
 refine HS.assign2 3 4 sl3 sl4 (fun _=>rfl) rfl rfl (Ev.bin Ev.int (Ev.bin (Ev.nameI 2 sl2 rfl) Ev.int (IOp.mod (by decide))) IOp.add) (Ev.bin (Ev.callB rfl (Ev.blt 10 sl10 (by k_is) (by boot_by_name) (by kernel_rfl)) (Evs.cons rfl (Ev.name 1 sl1 rfl) Evs.nil) (CT.len (mem_R (.tail _ (.tail _ (.tail _ m_r)))) hlz)) (Ev.bin (Ev.bin (Ev.nameI 2 sl2 rfl) Ev.int (IOp.fdiv (by decide) (by decide))) Ev.int (IOp.mod (by decide))) IOp.sub) ?_
 obtain ⟨f1,f2⟩:=fmod_in (a:=rest) (b:=3) (by exact Int.natCast_nonneg _)
 obtain ⟨l1',l2'⟩:=fmod_in (a:=rest.fdiv 3) (b:=2) (by exact Int.natCast_nonneg _)
 obtain ⟨fi,hfi⟩:∃ fi,fi=1+rest.fmod 3:=⟨_,rfl⟩
 obtain ⟨la,hla⟩:∃ la,la=(rv.length:Int) - (rest.fdiv 3).fmod 2:=⟨_,rfl⟩
 rw [← hfi,← hla]
 have hdue:=pick_due K.rowv (fi:=fi) (la:=la) (by exact lq [] [_,_] [.le Kq Zq,.eq Zr (.a Kr Zq)] (.le Kr Zr) [[11010]] rfl f1 hfi) (by exact lq [_,_] [_,_] [.e Nq Nr,.le Kq Zq,.eq Zr (.s Nq Zq)] (.le Zr Nr) [[1011010]] rfl hlv l1' hla)
 have hrg:∀ i:Nat,i < (dueInts row fi la).length→_:=fun i hi=>due_rg (row:=row) (fi:=fi) (la:=la) (by exact lq [] [_,_] [.le Kq Zq,.eq Zr (.a Kr Zq)] (.le Kr Zr) [[11010]] rfl f1 hfi) (by exact lq [_,_] [_,_] [.e Nq Nr,.le Kq Zq,.eq Zr (.s Nq Zq)] (.le Zr Nr) [[1011010]] rfl hlv l1' hla) K.held.rg hi
 have hdl:(dueInts row fi la).length=(la+1 - fi).toNat:=by simp [dueInts]
 refine HS.assignH _ (by (exact sl5)) rfl (HE.joinC (S:=fun ls=>ls.map (·.1)=(dueInts row fi la).map txB) rfl rfl (HE.encs (i:=fi - 1) (j:=la) (xs:=dueInts row fi la) rfl rfl (fun _=>rfl) (by decide) rfl (by decide) rfl (fun _ _=>rfl) (fun _ _=>by kernel_rfl) (fun _ _=>by kernel_rfl) (by kernel_rfl) rfl rfl rfl rfl (by exact EvS.name 1 sl1 rfl) (by exact EvS.bin (EvS.name 3 sl3 rfl) EvS.int IOp.sub) (by exact EvS.blt 11 sl11 (by k_is) (by boot_by_name) (by kernel_rfl)) (by exact EvS.name 4 sl4 rfl) (by (exact EvS.int)) (mem_R (.tail _ (.tail _ (.tail _ m_r)))) (by exact lq [_,_] [] [.e Nq Nr,.l Nr (.k 24)] (.t Nq (.k 1000)) [[11010]] rfl hlv hl) hdue hrg (by exact lq [_,_,_,_] [_,_,_,_] [.e Nq Nr,.l Nr (.k 24),.le Kq Zq,.le Kq Zr,.eq (.z 2) (.a Kr Zq),.eq (.z 3) (.s Nq Zr),.e Ns (.n 3),.tn 3 (.s (.a (.z 3) Kr) (.z 2))] (.t Ns (.k 1000)) [[1010010110111010],[110010000000000]] rfl hlv hl f1 l1' hfi hla hdl rfl)) ?_ ?_ (by decide)) ?_
 ·rintro _ _ ⟨D,ls,rfl,rfl,e⟩
  exact ⟨D,ls,_,rfl,rfl,e⟩
 ·intro ls e
  have hll:ls.length=(dueInts row fi la).length:=by have:=congrArg List.length e; simpa using this
  refine ⟨by lia,fun p hp=>?_⟩
  have hp':p.1∈ls.map (·.1):=List.mem_map.mpr ⟨p,hp,rfl⟩
  rw [e] at hp'
  obtain ⟨x,hx,e1⟩:=List.mem_map.mp hp'
  obtain ⟨i,hi,e2⟩:=List.getElem_of_mem hx
  have:=hrg i hi
  rw [List.getD_eq_getElem?_getD,List.getElem?_eq_getElem hi,Option.getD_some,e2] at this
  rw [← e1]
  exact txB_size this.1 this.2
 rintro _ _ ⟨rfl,ls,tj,e,rfl⟩
 rw [e]
 clear hdue hrg e ls
 have qs2:∀ (q:Pos),(q,("_law_told"++".<locals>."++"<lambda>":Str))∈QS2→∀ p∈QS2,p.1.line=q.line→p.1.col=q.col→p.2="_law_told"++".<locals>."++"<lambda>"∧p.1=q:=fun q hq p hp h1 h2=>by
  simp only [QS2,List.mem_cons,List.not_mem_nil,or_false] at hp hq
  rcases hq with hq | hq | hq <;> rcases hp with rfl | rfl | rfl <;> cases hq <;> first | exact ⟨rfl,rfl⟩ | exact absurd h1 (by decide)
 refine HS.ffC (nb rfl) rfl (HE.callHs rfl (by exact Ev.glob 12 sl12 (by k_is)) (by k_is) rfl (HEs.h rfl (HE.lamC (QS:=QS2) (Z:=Z) (qual:="_law_told"++".<locals>."++"<lambda>") (clos:=[("t",L₁+1)]) (c:=542) (T:=540) (fun _=>rfl) (fun _=>rfl) (fun _ X=>codeHd_of_K X (by kernel_rfl)) rfl K.t2 (.head _) (qs2 _ (.head _)) (fun _=>rfl) fun f c' ctv fo J2 ps' hfo hcd mT=>?_)))
 refine HEs.h rfl (HE.bytesC.mono ?_)
 rintro _ _ ⟨⟨ts,rfl⟩,rfl⟩
 refine HEs.i rfl (by exact Ev.name 3 sl3 rfl) fun t1=>HEs.i rfl (by exact Ev.name 4 sl4 rfl) fun t2=>?_
 obtain ⟨R',hR'⟩:∃ R':Led,R'=(540,tabObj ps')::(f,fo)::(J2++((L₁+1+1+1,cw)::(L₁+1+1,ck)::Y)):=⟨_,rfl⟩
 rw [← hR']
 have m_f:(f,fo)∈R':=by rw [hR']; (exact (.tail _ List.mem_cons_self))
 have m_t':(L₁+1,ct)∈R':=by rw [hR']; (exact (.tail _ (.tail _ (List.mem_append_right _ (.tail _ (.tail _ m_t))))))
 have m_c:CodeAt R' c' ("_law_told"++".<locals>."++"<lambda>"):=hcd.mono fun p hp=>by
  rw [hR']
  exact .tail _ (.tail _ ((List.mem_append.mp hp).elim (List.mem_append_left _) fun h=>List.mem_append_right _ (.tail _ (.tail _ (m_J _ h)))))
 have hrow:∀ i:Int,fi≤i→i≤la→-3≤row.getD (i - 1).toNat 0∧row.getD (i - 1).toNat 0≤7:=fun i i1 i2=>K.held.rg (row.getD (i - 1).toNat 0) (by rw [List.getD_eq_getElem?_getD,List.getElem?_eq_getElem (by exact lq [_,_,_] [_,_,_,_,_] [.e Nq Nr,.le Kq Zq,.le Kq Zr,.eq (.z 2) (.a Kr Zq),.eq (.z 3) (.s Nq Zr),.le (.z 2) (.z 4),.le (.z 4) (.z 3),.tn 2 (.s (.z 4) Kr)] (.t Ns Nr) [[101010010010010],[11011011011010]] rfl hlv f1 l1' hfi hla i1 i2 rfl)]; exact List.getElem_mem _)
 have hta:TextK w mean mg mb f (TL w.params A C R') (fun i=>txB (row.getD (i - 1).toNat 0)) fi la:=fun x i t i1 i2=>by
  obtain ⟨tl',hlk⟩:=K.held.at1 (k:=i) (by exact lq [] [_,_,_] [.le Kq Zq,.eq Zr (.a Kr Zq),.le Zr (.z 2)] (.le Kr (.z 2)) [[111010]] rfl f1 hfi i1) (by exact lq [_,_] [_,_,_] [.e Nq Nr,.le Kq Zq,.eq Zr (.s Nq Zq),.le (.z 2) Zr] (.le (.z 2) Nr) [[11011010]] rfl hlv l1' hla i2)
  obtain ⟨hr1,hr2⟩:=hrow i i1 i2
  have mc:=m_c.mono (l':=TL w.params A C (x::R')) fun p hp=>mem_R (.tail _ hp)
  subst hfo
  have m_f':=List.mem_cons_of_mem x m_f
  have m_t2:=List.mem_cons_of_mem x m_t'
  clear hR'
  refine Spec.permL (led:=TL w.params A C (x::R')) ?_ tl_cons.symm
  refine Spec.enterLH (mem_R m_f') mc rfl rfl (by kernel_rfl) (by kernel_rfl) rfl rfl rfl (by decide) ?_
  refine HE.strEnc rfl rfl (by exact Ev.blt 2 sl2 (by k_is) (by boot_by_name) (by kernel_rfl)) (Ev.toI (t:=tl') ?_) hr1 hr2
  rw [← hlk]
  exact Ev.of (HE.meth (by exact Ev.free 1 sl1 rfl (mem_R m_t2) hct (by kernel_rfl)) InsAt.tab (by (exact ⟨by k_is,by k_is,by k_is,by k_is⟩)) rfl rfl (by exact Evs.cons rfl (Ev.name 0 sl0 rfl) Evs.nil) (nb rfl) (spec_get_int A C _ i t hT.wf))
 have hak:CallsIn w (TL w.params A C R') f:=fun h hR=>calls_fn (R:=[(f,fo)]) (by rw [hfo]; exact .head _) h fun p hp=>by rw [List.mem_singleton.mp hp]; exact hR _ (mem_R m_f)
 refine HEs.nil ⟨62,Nat.le_of_ble_eq_true rfl,(spec_joined f (TL w.params A C R') (fun i=>txB (row.getD (i - 1).toNat 0)) fi la [44].toArray t1 t2 ts hak (by exact lq [_,_] [_,_,_,_] [.e Nq Nr,.l Nr (.k 24),.le Kq Zq,.le Kq Zr,.eq (.z 2) (.a Kr Zq),.eq (.z 3) (.s Nq Zr)] (.le (.s (.a (.z 3) Kr) (.z 2)) (.k 60)) [[10110111010]] rfl hlv hl f1 l1' hfi hla) (fun i i1 i2=>txB_size (hrow i i1 i2).1 (hrow i i1 i2).2) (by decide) hta).mono (Nat.le_refl _) ?_⟩
 clear hta hak hfo m_f m_t' m_c hcd hrow
 rintro _ _ ⟨⟨tb,rfl⟩,rfl⟩
 rw [due_map]
 refine Ev.toHE (V:=.v (.bytes (Builtin.Bytes.joined [44].toArray ((dueInts row fi la).map txB)) tj)) (by exact Ev.name 5 sl5 rfl) ?_
 rintro _ rfl
 refine ⟨CmpIs.neBytes,?_⟩
 refine HS.drop (r:=[(f,fo)]) (l':=TL w.params A C ((540,tabObj ps')::(L₁+1+1+1,cw)::(L₁+1+1,ck)::(J2++Y))) (by rw [hR']; exact (tl_app [_]).symm.trans (tl_congr pm_lam)) (HS.nil ?_)
 clear hR'
 obtain ⟨Y2,hY2⟩:∃ Y2,Y2=J2++Y:=⟨_,rfl⟩
 replace m_t:(L₁+1,ct)∈Y2:=by rw [hY2]; exact List.mem_append_right _ m_t
 replace m_r:(ra,listOf rv.toArray re)∈Y2:=by rw [hY2]; exact List.mem_append_right _ m_r
 replace m_J:∀ p∈J2++Z,p∈Y2:=fun p hp=>by rw [hY2]; exact (List.mem_append.mp hp).elim (List.mem_append_left _) fun h=>List.mem_append_right _ (m_J _ h)
 rw [← hY2]
 refine HS.assignC1 (A:=A) (C:=C) _ _ (by (exact sl8)) (by (exact sl6)) rfl hck (fun _=>rfl) (fun _=>rfl) (HEs.h rfl (HE.list0.mono ?_))
 rintro _ _ ⟨KL,rfl,rfl⟩
 refine HEs.perm tl_cons.symm (HEs.h rfl (HE.meth (by exact Ev.cell 0 sl0 rfl (mem_R (.tail _ (.tail _ (.tail _ (.tail _ m_t))))) hct) InsAt.tab (by (exact ⟨by k_is,by k_is,by k_is,by k_is⟩)) rfl rfl (by exact Evs.cons rfl Ev.none Evs.nil) (nb rfl) ((spec_next_none A C _ hT.wf).mono (Nat.le_refl _) fun r l hr=>?_)))
 obtain ⟨X,rfl,hP⟩:=hr.pair
 refine HEs.perm (l':=TL w.params A C ([(KL,listOf #[] 0),(540,tabObj ps'),(L₁+1+1+1,cw)]++(L₁+1+1,ck)::(X++Y2))) ((tl_congr (List.perm_append_comm_assoc [_,_,_,_] X Y2)).trans (tl_app X)) (HEs.nil ⟨[_,_,_],_,_,_,rfl,rfl,fun ck' hck'=>?_⟩)
 clear hck hr
 refine HS.whileU (X:=Turn C) (fun x=>ents C 0=x.pre++x.l∧x.l=ents C x.p∧PairIs x.l x.r x.X∧IntsAre x.ms (intsOf x.pre)) (fun x m=>m.put 6 (.v x.r)) (fun x=>TL w.params A C ((KL,listOf x.ms.toArray x.e)::(540,tabObj ps')::(L₁+1+1+1,cw)::(L₁+1+1,ck')::(x.X++Y2))) (fun x=>x.l.length) ⟨[],_,0,r,X,[],0⟩ ⟨rfl,rfl,hP,.nil⟩ (by exact NM.Sub.same rfl (NM.Sub.same rfl (NM.Sub.same rfl (NM.Sub.same rfl (NM.Sub.same rfl (NM.Sub.same rfl NM.Sub.nil)))))) rfl ?_
 clear hP
 rintro ⟨pre,l,p,r,X,ms,e⟩ ⟨hE,hp,hP,hvs⟩ Q' next _ _
 dsimp only at hE hp hP hvs next ⊢
 have hvl:ms.length≤100:=by
  have h1:=hvs.length
  have h2:(intsOf pre).length≤pre.length:=List.length_filterMap_le _ _
  have h3:pre.length≤(ents C 0).length:=by rw [hE,List.length_append]; exact Nat.le_add_right _ _
  have h4:=ents_few hT
  exact lq [_,_,_,_] [] [.e Nq Nr,.l Nr Ns,.l Ns (.n 3),.l (.n 3) (.k 100)] (.l Nq (.k 100)) [[1111010]] rfl h1 h2 h3 h4
 cases l with
 | nil =>
  obtain ⟨rfl,rfl⟩:=hP
  rw [List.append_nil] at hE
  subst hE
  clear next
  refine Tst.mk' (by exact Ev.isNot (Ev.name 6 sl6 rfl)) ?_ ?_
  ·exact fun h=>absurd rfl h
  intro _
  refine HS.perm (l':=TL w.params A C ((540,tabObj ps')::(KL,listOf ms.toArray e)::(L₁+1+1+1,cw)::(L₁+1+1,ck')::Y2)) (tl_congr (.swap ..)) ?_
  refine HS.ffC (nb rfl) rfl (HE.callHs rfl (by exact Ev.glob 15 sl15 (by k_is)) (by k_is) rfl (HEs.h rfl (HE.lamC (QS:=QS2) (Z:=J2++Z) (qual:="_law_told"++".<locals>."++"<lambda>") (clos:=[("keys",L₁+1+1)]) (c:=542) (T:=540) (fun _=>rfl) (fun _=>rfl) (fun _ X=>codeHd_of_K X (by kernel_rfl)) rfl mT (.tail _ (.head _)) (qs2 _ (.tail _ (.head _))) (fun _=>rfl) fun g c2 ctv2 go J3 ps2 hgo hcd2 mT2=>?_)))
  clear mT
  obtain ⟨RL,hRL⟩:∃ RL:Led,RL=(540,tabObj ps2)::(g,go)::(L₁+1+1+1,cw)::(L₁+1+1,ck')::(J3++Y2):=⟨_,rfl⟩
  refine HEs.perm (l':=TL w.params A C ((KL,listOf ms.toArray e)::RL)) (by rw [hRL]; exact tl_congr pm_l2) ?_
  have m_g:(g,go)∈RL:=by rw [hRL]; (exact (.tail _ List.mem_cons_self))
  have m_ck:(L₁+1+1,ck')∈RL:=by rw [hRL]; (exact (.tail _ (.tail _ (.tail _ List.mem_cons_self))))
  have m_c2:CodeAt RL c2 ("_law_told"++".<locals>."++"<lambda>"):=hcd2.mono fun p hp=>by
   rw [hRL]
   exact .tail _ (.tail _ (.tail _ (.tail _ ((List.mem_append.mp hp).elim (List.mem_append_left _) fun h=>List.mem_append_right _ (m_J _ h)))))
  have hnx:NextK w mean mg mb g (fun ks l=>∃ (vs:List Value) (e:Nat),l=TL w.params A C ((KL,listOf vs.toArray e)::RL)∧IntsAre vs ks∧vs.length≤100):=by
   subst hgo
   rintro ks l ⟨vs,e,rfl,hi,hv⟩
   have mc:=m_c2.mono (l':=TL w.params A C ((KL,listOf vs.toArray e)::RL)) fun p hp=>mem_R (.tail _ hp)
   clear hRL
   refine Spec.enterLH (mem_R (.tail _ m_g)) mc rfl rfl (by kernel_rfl) (by kernel_rfl) rfl rfl rfl (by decide) ?_
   cases hi with
   | nil =>
    refine HE.ite (EvT.neNil (nb rfl) (Ev.toHE (V:=.v (.ref KL)) (Q:=fun v l'=>v=.ref KL∧l'=TL w.params A C ((KL,listOf (List.toArray []) e)::RL)) (by exact Ev.free 0 sl0 rfl (mem_R (.tail _ m_ck)) hck' (by kernel_rfl)) fun v hv=>⟨hv,rfl⟩) ?_) (fun h=>h.elim) (fun _=>Ev.toHE (V:=.v .none) (by (exact Ev.none)) ?_)
    ·rintro _ _ ⟨rfl,rfl⟩
     exact ⟨⟨[],.refl _⟩,KL,e,rfl,mem_R (.head _)⟩
    ·rintro _ rfl
     exact ⟨rfl,[],e,rfl,.nil,hv⟩
   | cons k t r =>
    rename_i us' ks'
    refine HE.ite (EvT.neCons (nb rfl) (by exact Ev.free 0 sl0 rfl (mem_R (.tail _ m_ck)) hck' (by kernel_rfl)) (mem_R (.head _)) (.cons k t r)) (fun _=>?_) (fun h=>(h trivial).elim)
    refine (HE.l_pop (rv:=.int k t::us') (n:=e) (x:=0) (y:=.int k t) (led':=TL w.params A C ((KL,listOf us'.toArray (e+1))::RL)) rfl rfl rfl (by exact Ev.free 0 sl0 rfl (mem_R (.tail _ m_ck)) hck' (by kernel_rfl)) (by (exact Ev.int)) (mem_R (.head _)) rfl (by decide) (Nat.le_trans hv (by decide)) (Rep.tl .head)).mono ?_
    rintro _ _ ⟨rfl,rfl⟩
    exact ⟨⟨t,rfl⟩,us',_,rfl,r,by rw [List.length_cons] at hv; exact Nat.le_of_lt hv⟩
  have hgk:CallsIn w RL g:=fun h hR=>calls_fn (R:=[(g,go)]) (by rw [hgo]; exact .head _) h fun p hp=>by rw [List.mem_singleton.mp hp]; exact hR _ m_g
  have hsubS:SubK (fun ks l=>∃ (vs:List Value) (e:Nat),l=TL w.params A C ((KL,listOf vs.toArray e)::RL)∧IntsAre vs ks∧vs.length≤100) RL:=by
   rintro ks l ⟨vs,e,rfl,_,_⟩ p hp
   exact mem_R (.tail _ hp)
  refine HEs.nil ⟨62,Nat.le_of_ble_eq_true rfl,(spec_greatest g RL _ hsubS _ _ ⟨ms,e,rfl,hvs,hvl⟩ hgk hnx).mono (Nat.le_refl _) ?_⟩
  clear hnx hgk hsubS m_g m_ck m_c2 hgo hcd2 hvs hvl
  rintro _ _ ⟨⟨tg,rfl⟩,vs',e',rfl,-,-⟩
  have m_r2:(ra,listOf rv.toArray re)∈RL:=by rw [hRL]; (exact (.tail _ (.tail _ (.tail _ (.tail _ (List.mem_append_right J3 m_r))))))
  refine Ev.toHE (V:=.i rv.length) (by exact Ev.callB rfl (Ev.blt 10 sl10 (by k_is) (by boot_by_name) (by kernel_rfl)) (Evs.cons rfl (Ev.name 1 sl1 rfl) Evs.nil) (CT.len (mem_R (.tail _ m_r2)) hlz)) ?_
  rintro _ ⟨tl,rfl⟩
  rw [K.held.great,← hlv]
  refine ⟨CmpIs.neInt,?_⟩
  refine HS.drop (r:=[(KL,listOf vs'.toArray e'),(g,go),(L₁+1+1,ck')]) (l':=TL w.params A C ([(540,tabObj ps2)]++(L₁+1+1+1,cw)::(J3++Y2))) (by rw [hRL]; exact (tl_app [_,_,_]).symm.trans (tl_congr pm_k)) (HS.nil ?_)
  clear hRL m_r2
  refine HS.assignCell (X:=[_]) (n:=rest.fmod 11 - 3) _ (by (exact sl9)) rfl hcw rfl (by exact Ev.bin (Ev.bin (Ev.nameI 2 sl2 rfl) Ev.int (IOp.mod (by decide))) Ev.int IOp.sub) fun cw' tw hcw'=>?_
  clear hcw
  obtain ⟨wt,hwt⟩:∃ wt,wt=rest.fmod 11 - 3:=⟨_,rfl⟩
  rw [← hwt] at hcw'
  obtain ⟨Y3,hY3⟩:∃ Y3,Y3=(L₁+1+1+1,cw')::(J3++Y2):=⟨_,rfl⟩
  have m_w:(L₁+1+1+1,cw')∈Y3:=by rw [hY3]; exact .head _
  have m_t3:(L₁+1,ct)∈Y3:=by rw [hY3]; exact .tail _ (List.mem_append_right _ m_t)
  have m_r3:(ra,listOf rv.toArray re)∈Y3:=by rw [hY3]; exact .tail _ (List.mem_append_right _ m_r)
  have m_J3:∀ p∈J3++(J2++Z),p∈Y3:=fun p hp=>by rw [hY3]; exact .tail _ ((List.mem_append.mp hp).elim (List.mem_append_left _) fun h=>List.mem_append_right _ (m_J _ h))
  refine HS.perm (l':=TL w.params A C ((540,tabObj ps2)::Y3)) (by rw [hY3]; exact .refl _) ?_
  refine HS.assignC _ (by (exact sl7)) rfl (HE.callHs rfl (by exact Ev.glob 16 sl16 (by k_is)) (by k_is) rfl (HEs.h rfl (HE.lamC (QS:=QS2) (Z:=J3++(J2++Z)) (qual:="_law_told"++".<locals>."++"<lambda>") (clos:=[("wanted",L₁+1+1+1),("t",L₁+1)]) (c:=542) (T:=540) (fun _=>rfl) (fun _=>rfl) (fun _ X=>codeHd_of_K X (by kernel_rfl)) rfl mT2 (.tail _ (.tail _ (.head _))) (qs2 _ (.tail _ (.tail _ (.head _)))) (fun _=>rfl) fun g4 c4 ctv4 go4 J4 ps4 hgo hcd4 mT4=>?_)))
  clear mT2
  obtain ⟨R4,hR4⟩:∃ R4:Led,R4=(540,tabObj ps4)::(g4,go4)::(J4++Y3):=⟨_,rfl⟩
  rw [← hR4]
  have m_g:(g4,go4)∈R4:=by rw [hR4]; (exact (.tail _ List.mem_cons_self))
  have m_Y:∀ p∈Y3,p∈R4:=fun p hp=>by rw [hR4]; exact .tail _ (.tail _ (List.mem_append_right _ hp))
  have m_w4:=m_Y _ m_w
  have m_t4:=m_Y _ m_t3
  have m_r4:=m_Y _ m_r3
  have m_c4:CodeAt R4 c4 ("_law_told"++".<locals>."++"<lambda>"):=hcd4.mono fun p hp=>(List.mem_append.mp hp).elim (fun h=>by rw [hR4]; exact .tail _ (.tail _ (List.mem_append_left _ h))) fun h=>m_Y _ (m_J3 _ h)
  have hask:AskK w mean mg mb g4 (TL w.params A C R4) (fun i=>row.getD (i - 1).toNat 0 == wt) (row.length:Int):=fun i t i1 i2=>by
   obtain ⟨tl',hlk⟩:=K.held.at1 i1 i2
   have mc:=m_c4.mono (l':=TL w.params A C R4) fun p hp=>mem_R hp
   subst hgo
   clear hR4
   refine Spec.enterLH (mem_R m_g) mc rfl rfl (by kernel_rfl) (by kernel_rfl) rfl rfl rfl (by decide) ?_
   refine Ev.toHE (V:=.b (row.getD (i - 1).toNat 0=wt)) (Ev.cmp (a:=row.getD (i - 1).toNat 0) (b:=wt) (Ev.toI (t:=tl') ?_) (Ev.toI (t:=tw) (by exact Ev.free 2 sl2 rfl (mem_R m_w4) hcw' (by kernel_rfl))) ICmp.eq rfl) ?_
   ·rw [← hlk]
    exact Ev.of (HE.meth (by exact Ev.free 1 sl1 rfl (mem_R m_t4) hct (by kernel_rfl)) InsAt.tab (by (exact ⟨by k_is,by k_is,by k_is,by k_is⟩)) rfl rfl (by exact Evs.cons rfl (Ev.name 0 sl0 rfl) Evs.nil) (nb rfl) (spec_get_int A C _ i t hT.wf))
   ·rintro _ ⟨b,rfl,hb⟩
    exact ⟨congrArg Value.bool (Bool.eq_iff_iff.mpr (hb.trans beq_iff_eq.symm)),rfl⟩
  have hak:CallsIn w (TL w.params A C R4) g4:=fun h hR=>calls_fn (R:=[(g4,go4)]) (by rw [hgo]; exact .head _) h fun p hp=>by rw [List.mem_singleton.mp hp]; exact hR _ (mem_R m_g)
  refine HEs.i rfl (n:=row.length) (Ev.of (HE.meth (by exact Ev.cell 0 sl0 rfl (mem_R m_t4) hct) InsAt.tab (by (exact ⟨by k_is,by k_is,by k_is,by k_is⟩)) rfl rfl .nil (nb rfl) (spec_length A C R4 row.length hT.wf hB (by exact Nat.le_trans hl (nb rfl))))) fun t1=>HEs.nil ⟨62,Nat.le_of_ble_eq_true rfl,(spec_asked g4 (TL w.params A C R4) (fun i=>row.getD (i - 1).toNat 0 == wt) (row.length:Int) t1 hak hask).mono (Nat.le_refl _) ?_⟩
  clear hask hak m_g m_c4 m_t4 hgo hcd4
  rintro r _ ⟨hA,rfl⟩
  have hL3:∃ r l',(r++l').Perm (TL w.params A C R4)∧Left3 w A ra ba Z J l':=by
   refine ⟨[(g4,go4),(L₁+1+1+1,cw'),(L₁+1,ct)],LL w.params A C ra ba rv re bo p1 ps4 p3 (J4++(J3++(J2++J))),by rw [hR4,hY3,hY2,hY]; exact (tl_app [_,_,_]).symm.trans (tl_congr pm_e),C,row,rv,re,kvs,bo,p1,ps4,p3,J4++(J3++J2),by simp only [List.append_assoc],?_⟩
   simp only [List.append_assoc]
   exact ⟨K.held,K.rowv,K.dict,K.t1.mono fun p hp=>List.mem_append_right _ (List.mem_append_right _ (List.mem_append_right _ hp)),mT4,K.t3.mono fun p hp=>List.mem_append_right _ (List.mem_append_right _ (List.mem_append_right _ hp))⟩
  clear hR4 hY3 m_Y
  rcases hA with ⟨i,ti,rfl,i1,i2,hp1,hmin⟩ | ⟨rfl,hno⟩
  ·obtain ⟨hmem,hidx⟩:=asked_at i1 i2 hp1 hmin
   have hin:(row.any (· == wt)=true)↔True:=⟨fun _=>trivial,fun _=>List.any_eq_true.mpr ⟨wt,hmem,by simp⟩⟩
   refine HS.retH (P:=fun r l=>r=.bool true∧Left3 w A ra ba Z J l) (HE.fin (P:=fun v l=>v=.bool true∧l=TL w.params A C R4) (Ev.toHE (V:=.b (i=i)) (Ev.cmp (a:=i) (b:=i) (by exact Ev.nameI 7 sl7 rfl) (Ev.ite (EvT.congr (EvT.cmpV' (x:=.int wt tw) (y:=.ref ra) (nb rfl) (by exact Ev.cell 9 sl9 rfl (mem_R m_w4) hcw') (by exact Ev.name 1 sl1 rfl) rfl (CmpIs.inInts (mem_R m_r4) K.rowv)) hin) (fun _=>?_) (fun h=>(h trivial).elim)) ICmp.eq rfl) ?_) ?_) fun _ _ h=>h
   ·rw [← hidx]
    exact Ev.bin (Ev.index rfl rfl rfl (by exact Ev.name 1 sl1 rfl) (Ev.toI (t:=tw) (by exact Ev.cell 9 sl9 rfl (mem_R m_w4) hcw')) (mem_R m_r4) K.rowv (by exact Nat.le_trans hl (nb rfl)) hmem) Ev.int IOp.add
   ·rintro _ ⟨b,rfl,hb⟩
    exact ⟨congrArg Value.bool (hb.mpr rfl),rfl⟩
   ·rintro _ _ ⟨rfl,rfl⟩
    obtain ⟨r,l',h1,h2⟩:=hL3
    exact ⟨r,l',h1,rfl,h2⟩
  ·have hin:(row.any (· == wt)=true)↔False:=by
    refine ⟨fun h=>?_,fun h=>h.elim⟩
    obtain ⟨x,hx,e⟩:=List.any_eq_true.mp h
    obtain ⟨q,hq,rfl⟩:=List.getElem_of_mem hx
    have:=hno ((q:Int)+1) (by exact lq [_] [] [] (.le Kr (.a Nq Kr)) [] rfl) (by exact Int.ofNat_lt.2 hq)
    dsimp only at this
    rw [show ((q:Int)+1 - 1).toNat=q by exact lq [_,_] [] [.tn 0 (.s (.a Nr Kr) Kr)] (.e Nq Nr) [[10100,11000],[]] rfl rfl,List.getD_eq_getElem?_getD,List.getElem?_eq_getElem hq] at this
    simp [hq] at this e
    exact this e
   refine HS.retH (P:=fun r l=>r=.bool true∧Left3 w A ra ba Z J l) (HE.fin (P:=fun v l=>v=.bool true∧l=TL w.params A C R4) (Ev.toHE (V:=.b True) (Ev.cmpV (a:=.none) (b:=.none) (by exact Ev.name 7 sl7 rfl) (Ev.ite (EvT.congr (EvT.cmpV' (x:=.int wt tw) (y:=.ref ra) (nb rfl) (by exact Ev.cell 9 sl9 rfl (mem_R m_w4) hcw') (by exact Ev.name 1 sl1 rfl) rfl (CmpIs.inInts (mem_R m_r4) K.rowv)) hin) (fun h=>h.elim) (fun _=>by (exact Ev.none))) (VCmp.nones trivial) rfl) ?_) ?_) fun _ _ h=>h
   ·rintro _ ⟨b,rfl,hb⟩
    exact ⟨congrArg Value.bool (hb.mpr trivial),rfl⟩
   ·rintro _ _ ⟨rfl,rfl⟩
    obtain ⟨r,l',h1,h2⟩:=hL3
    exact ⟨r,l',h1,rfl,h2⟩
 | cons kv l =>
  obtain ⟨T,key,rfl,rfl,hkey⟩:=hP
  obtain ⟨k,v⟩:=kv
  obtain ⟨a1,a2⟩:=ents_look hT.wf (show (k,v)∈ents C 0 by rw [hE]; simp)
  dsimp only at a1 a2 hkey
  have hs0:=hT.live k (by rw [a1]; exact a2)
  have hok:=ok_of_s0 hkey hs0
  refine Tst.mk' (by exact Ev.isNot (Ev.name 6 sl6 rfl)) (fun _=>?_) (fun h=>(h fun e=>by cases e).elim)
  cases key <;> simp only [ky,reduceCtorEq] at hkey
  ·rename_i n t
   refine HS.tt (p:=true=true) (EvT.ofV (by exact Ev.callB rfl (Ev.blt 13 sl13 (by k_is) (by boot_by_name) (by kernel_rfl)) (Evs.cons rfl (Ev.tup0 (Ev.name 6 sl6 rfl) (mem_R (.tail _ (.tail _ (.tail _ (.tail _ (Iff.mpr List.mem_append (Or.inl List.mem_cons_self)))))))) (Evs.cons rfl (Ev.blt 14 sl14 (by k_is) (by boot_by_name) (by kernel_rfl)) Evs.nil)) CT.isi_ii) rfl) rfl ?_
   refine HS.expr rfl (HE.l_append (rv:=ms) (n:=e) (v:=.int n t) (l':=TL w.params A C ((KL,listOf (ms++[Value.int n t]).toArray (e+1))::(540,tabObj ps')::(L₁+1+1+1,cw)::(L₁+1+1,ck')::(T,tupObj #[.int n t,v])::Y2)) rfl rfl rfl (by exact Ev.cell 8 sl8 rfl (mem_R (.tail _ (.tail _ (.tail _ List.mem_cons_self)))) hck') (by exact Ev.tup0 (Ev.name 6 sl6 rfl) (mem_R (.tail _ (.tail _ (.tail _ (.tail _ (Iff.mpr List.mem_append (Or.inl List.mem_cons_self)))))))) (mem_R (.head _)) (by exact Nat.le_trans hvl (nb rfl)) (Rep.tl .head)) ?_
   rintro _ _ ⟨rfl,rfl⟩
   refine HS.nil ?_
   refine HS.assignH _ (by (exact sl6)) rfl (HE.meth (by exact Ev.cell 0 sl0 rfl (mem_R (.tail _ (.tail _ (.tail _ (.tail _ (.tail _ m_t)))))) hct) InsAt.tab (by (exact ⟨by k_is,by k_is,by k_is,by k_is⟩)) rfl rfl (by exact Evs.cons rfl (Ev.tup0 (Ev.name 6 sl6 rfl) (mem_R (.tail _ (.tail _ (.tail _ (.tail _ List.mem_cons_self)))))) Evs.nil) (nb rfl) (spec_next' A C _ (.int n t) k v p l hT.wf hok hkey hp.symm)) ?_
   rintro r _ ⟨X',rfl,hP',p',hp'⟩
   refine HS.drop (r:=[(T,tupObj #[.int n t,v])]) (l':=TL w.params A C ((KL,listOf (ms++[Value.int n t]).toArray (e+1))::(540,tabObj ps')::(L₁+1+1+1,cw)::(L₁+1+1,ck')::(X'++Y2))) (tl_cons.trans ((tl_congr pm_n).trans (tl_app X'))) ?_
   refine HS.nil (HS.done ?_)
   exact next ⟨pre++[(k,v)],l,p',r,X',_,_⟩ _ ⟨by rw [hE]; simp,hp',hP',by obtain rfl:=Option.some.inj hkey; rw [intsOf_snoc]; exact intsAre_snoc hvs _ _⟩ (by simp) (by exact NM.Sub.same rfl (NM.Sub.same rfl (NM.Sub.same rfl (NM.Sub.same rfl (NM.Sub.same rfl (NM.Sub.same rfl NM.Sub.nil))))))
  ·rename_i b t
   refine HS.ff (p:=false=true) (EvT.ofV (by exact Ev.callB rfl (Ev.blt 13 sl13 (by k_is) (by boot_by_name) (by kernel_rfl)) (Evs.cons rfl (Ev.tup0 (Ev.name 6 sl6 rfl) (mem_R (.tail _ (.tail _ (.tail _ (.tail _ (Iff.mpr List.mem_append (Or.inl List.mem_cons_self)))))))) (Evs.cons rfl (Ev.blt 14 sl14 (by k_is) (by boot_by_name) (by kernel_rfl)) Evs.nil)) (CT.isi_b (fun _=>(by kit_is)))) rfl) nofun ?_
   refine HS.nil ?_
   refine HS.assignH _ (by (exact sl6)) rfl (HE.meth (by exact Ev.cell 0 sl0 rfl (mem_R (.tail _ (.tail _ (.tail _ (.tail _ (List.mem_append_right ([(T,Mine.tupObj #[PySem.Value.bytes b t,(k,v).snd])]) m_t)))))) hct) InsAt.tab (by (exact ⟨by k_is,by k_is,by k_is,by k_is⟩)) rfl rfl (by exact Evs.cons rfl (Ev.tup0 (Ev.name 6 sl6 rfl) (mem_R (.tail _ (.tail _ (.tail _ (.tail _ (Iff.mpr List.mem_append (Or.inl List.mem_cons_self)))))))) Evs.nil) (nb rfl) (spec_next' A C _ (.bytes b t) k v p l hT.wf hok hkey hp.symm)) ?_
   rintro r _ ⟨X',rfl,hP',p',hp'⟩
   refine HS.drop (r:=[(T,tupObj #[.bytes b t,v])]) (l':=TL w.params A C ((KL,listOf ms.toArray e)::(540,tabObj ps')::(L₁+1+1+1,cw)::(L₁+1+1,ck')::(X'++Y2))) (tl_cons.trans ((tl_congr pm_n).trans (tl_app X'))) ?_
   refine HS.nil (HS.done ?_)
   exact next ⟨pre++[(k,v)],l,p',r,X',_,_⟩ _ ⟨by rw [hE]; simp,hp',hP',by obtain rfl:=Option.some.inj hkey; rw [intsOf_snoc,List.append_nil]; exact hvs⟩ (by simp) (by exact NM.Sub.same rfl (NM.Sub.same rfl (NM.Sub.same rfl (NM.Sub.same rfl (NM.Sub.same rfl (NM.Sub.same rfl NM.Sub.nil))))))
end
section
theorem Left3.drop {A:TA} {ra ba:Addr} {q:Addr×Obj} {Z J l:Led} (h:Left3 w A ra ba Z (q::J) l):Left3 w A ra ba Z J l:=by
 obtain ⟨C,row,rv,re,kvs,bo,p1,p2,p3,W,e,K⟩:=h
 have hs:∀ p∈W++Z,p∈(W++[q])++Z:=fun p hp=>(List.mem_append.mp hp).elim (fun h=>List.mem_append_left _ (List.mem_append_left _ h)) (List.mem_append_right _)
 exact ⟨C,row,rv,re,kvs,bo,p1,p2,p3,W++[q],by rw [e,List.append_assoc]; rfl,K.held,K.rowv,K.dict,K.t1.mono hs,K.t2.mono hs,K.t3.mono hs⟩
theorem spec_done_by (A:TA) (C:TC) (ra ba:Addr) (row:List Int) (rv:List Value) (re:Nat) (kvs:List (Ky×Value)) (bo:Obj) (p1 p2 p3:Array Value) (J Z:Led) (number:Int) (tn:Tok)
  (hz:∀ p∈Z,p∈J) (K:LawOk w C row rv kvs bo p1 p2 p3 Z) (h0:¬ (number.fmod 8 < 3∧row.length < 24)) (h3:¬ number.fmod 8=3) (h7:¬ number.fmod 8=7) :
  Spec w mean mg mb (.ref 550) [.ref A.t,.ref ra,.ref ba,.int number tn] 210 (LL w.params A C ra ba rv re bo p1 p2 p3 J) (fun r l=>r=.bool true∧Left3 w A ra ba Z J l):=by
 have hlv:rv.length=row.length:=K.rowv.length
 have hl:=K.held.len
 have hlz:rv.length < 2 ^ 62:=by exact lq [_,_] [] [.e Nq Nr,.l Nr (.k 24)] (.t Nq (.k 4611686018427387904)) [[11010]] rfl hlv hl
 refine Spec.enterCH (cm:=upd (fun z9=>none) "t" (.ref A.t)) (cl:=fun L=>[("t",L+1)]) (by k_is) (by k_is) (fun s X=>BindsTo.of_eq rfl) rfl (by decide) (by first | exact .cons sl3 rfl (.cons sl2 rfl (.cons sl1 rfl .nil)) | exact .cons sl2 rfl (.cons sl1 rfl .nil)) (by first | exact bc_of (l:=[(_,_),(_,_),(_,_),(_,_)]) rfl (fun y=>rfl) | exact bc_of (l:=[(_,_),(_,_),(_,_)]) rfl (fun y=>rfl)) (fun L=>rfl) rfl rfl rfl (by kernel_rfl) hap_one ?_
 intro L₁ cells Y
 obtain ⟨ct,rfl,hct⟩:=CellsAre.one Y
 rw [show upd (fun z9=>none) "t" (.ref A.t) "t"=some (.ref A.t) from upd_hit] at hct
 clear Y
 refine HS.perm (l':=LL w.params A C ra ba rv re bo p1 p2 p3 ((L₁+1,ct)::J)) ((tl_congr (List.perm_middle (l₁:=[_,_,_,_,_]))).trans tl_cons.symm) ?_
 have hz1:∀ p∈Z,p∈(L₁+1,ct)::J:=fun p hp=>.tail _ (hz p hp)
 rw [← hlv] at h0
 refine HS.assign2 4 5 sl4 sl5 (fun z9=>rfl) rfl rfl (Ev.bin (Ev.nameI 3 sl3 rfl) Ev.int (IOp.mod (by decide))) (Ev.bin (Ev.nameI 3 sl3 rfl) Ev.int (IOp.fdiv (by decide) (by decide))) (HS.ite (EvT.and (EvT.cmp (Ev.name 4 sl4 rfl) Ev.int ICmp.lt rfl) (fun z9=>(EvT.cmp (Ev.callB rfl (Ev.blt 10 sl10 (by k_is) (by boot_by_name) (by kernel_rfl)) (Evs.cons rfl (Ev.name 1 sl1 rfl) Evs.nil) (CT.len (mem_R (.tail _ (.tail _ (.tail _ List.mem_cons_self)))) hlz)) Ev.int ICmp.lt rfl))) (fun z9=>(False.elim (by exact lq [_] [_] [.or (.nt Zq (.k 3)) (.gt Nq (.k 24)),.an (.lt Zq (.k 3)) (.lt Nq (.k 24))] .f [[10110],[11010]] rfl (nab h0) z9))) (fun z9=>(HS.nil (HS.ite (EvT.cmp (Ev.name 4 sl4 rfl) Ev.int ICmp.eq rfl) (fun z9=>(False.elim (by contradiction))) (fun z9=>(HS.nil (HS.ite (EvT.cmp (Ev.name 4 sl4 rfl) Ev.int ICmp.eq rfl) (fun z9=>?_) (fun z9=>(HS.nil (HS.ite (EvT.cmp (Ev.name 4 sl4 rfl) Ev.int ICmp.eq rfl) (fun z9=>(False.elim (by contradiction))) (fun z9=>(HS.nil ?_))))))))))))
 ·refine HS.retH (HE.callK rfl (by exact Ev.glob 14 sl14 (by k_is)) (by exact Evs.cons rfl (Ev.cell 0 sl0 rfl (mem_R (.tail _ (.tail _ (.tail _ (.tail _ (.tail _ List.mem_cons_self)))))) hct) (Evs.cons rfl (Ev.name 1 sl1 rfl) (Evs.cons rfl (Ev.name 5 sl5 rfl) Evs.nil))) (by k_is) (nb rfl) (fun t=>spec_sorted A C ra ba row rv re kvs bo p1 p2 p3 ((L₁+1,ct)::J) Z (number.fdiv 8) t hz1 K)) ?_
  rintro _ _ ⟨rfl,h⟩
  exact ⟨rfl,h.drop⟩
 ·refine HS.retH (HE.callK rfl (by exact Ev.glob 15 sl15 (by k_is)) (by exact Evs.cons rfl (Ev.cell 0 sl0 rfl (mem_R (.tail _ (.tail _ (.tail _ (.tail _ (.tail _ List.mem_cons_self)))))) hct) (Evs.cons rfl (Ev.name 1 sl1 rfl) (Evs.cons rfl (Ev.name 5 sl5 rfl) Evs.nil))) (by k_is) (nb rfl) (fun t=>spec_told A C ra ba row rv re kvs bo p1 p2 p3 ((L₁+1,ct)::J) Z (number.fdiv 8) t hz1 K)) ?_
  rintro _ _ ⟨rfl,h⟩
  exact ⟨rfl,h.drop⟩
theorem spec_done (A:TA) (C:TC) (ra ba:Addr) (row:List Int) (rv:List Value) (re:Nat) (kvs:List (Ky×Value)) (bo:Obj) (p1 p2 p3:Array Value) (J Z:Led) (number:Int) (tn:Tok)
  (hz:∀ p∈Z,p∈J) (K:LawOk w C row rv kvs bo p1 p2 p3 Z) (hn:0≤number) :
  Spec w mean mg mb (.ref 550) [.ref A.t,.ref ra,.ref ba,.int number tn] 210 (LL w.params A C ra ba rv re bo p1 p2 p3 J) (fun r l=>r=.bool true∧Left3 w A ra ba Z J l):=by
 by_cases h0:number.fmod 8 < 3∧row.length < 24
 ·exact (spec_done_ins A C ra ba row rv re kvs bo p1 p2 p3 J Z number tn hz K hn h0.1 h0.2).mono (by decide) fun z9 z9 h=>h
 by_cases h3:number.fmod 8=3
 ·exact (spec_done_rem A C ra ba row rv re kvs bo p1 p2 p3 J Z number tn hz K h3).mono (by decide) fun z9 z9 h=>h
 by_cases h7:number.fmod 8=7
 ·exact (spec_done_bes A C ra ba row rv re kvs bo p1 p2 p3 J Z number tn hz K h7).mono (by decide) fun z9 z9 h=>h
 exact spec_done_by A C ra ba row rv re kvs bo p1 p2 p3 J Z number tn hz K h0 h3 h7
end
theorem law_cx {w:World} {mean:ExcName→Option Value} {mg mb:Names} {Ar:Around} {env:Env} {g:Heap} {L:Addr} {pv:Program} {lo:List Str} (hAr:Ar=callerA.deeper env) (X:(hd.heap_1_39 w.params).In g) (T:Top pv lo mean mg mb g) (B:Below callerA g [] g) (hf:env.frame=some L) (hk:env.scope.kind=.function):Cx w mean mg mb Ar env g L 250:=by
 subst hAr
 exact ⟨X,⟨_,_,T⟩,⟨[],_,_,Around.frames_deeper B.stack,B⟩,rfl,hf,hk,by simp only [depth_deeper,depth_caller]; decide,Nat.le_of_ble_eq_true rfl⟩
theorem sl_base {prog:Program} {w:World} {Ar:Around} {E:Value→Shared→Prop} {h₀:Heap} {L:Addr} {m:Names} {Q:Value→Shared→Prop} {value slice:PySem.Expr} {l:Addr} {vs:List Value} {news:Led} {vl vu:Value} {lo hi:Option Int} {h:Heap} {g:Array GenState} {d:Drawn} {tk:Nat} {o:OsState} (F:Fr h₀ L h m) (N:News h₀ L h news) (D:Apart news) (hl:h₀.IsList l vs.toArray) (pl:IsPart vl lo) (pu:IsPart vu hi) (hz:vs.length < 1000)
  (hs:subscripted slice false (.ref l) (.ref h.objs.size)=operate [.ref h.objs.size,.ref l] (getItem (.ref l) (.ref h.objs.size)))
  (k:∀ D' h',Fr h₀ L h' m→News h₀ L h' ((D',listOf (kms_pick vs lo hi).toArray 0)::news)→Apart ((D',listOf (kms_pick vs lo hi).toArray 0)::news)→Q (.ref D') ⟨h',g,d,tk,o⟩) :
  wpAny (model prog w) Ar (subscriptTail value slice (.ref l) (.ref h.objs.size)) Q E ⟨h.push { cls:=.type "slice",data:=.fields #[vl,vu,.none] },g,d,tk,o⟩ :=
 kba_turn (value':=PySem.Expr.Name (PySem.Str.ofString "x") ⟨0,0,0,0⟩) (fun z9=>rfl) <| kms_slice_lit (s:=⟨h,g,d,tk,o⟩) (its:=vs.toArray) F N (let ⟨o,ho,r⟩:=hl; ⟨o,F.keep _ _ ho,r⟩) pl pu rfl (fun D' h' F' N' l1=>k D' h' F' N' (D.cons l1)) hs (fun z9=>rfl) (by rw [List.size_toArray]; exact Nat.le_trans (Nat.le_of_lt hz) (by decide:1000≤sizeLine))
theorem dict_new {w:World} {Ar:Around} {E:Value→Shared→Prop} {h₀ h:Heap} {L:Addr} {m:Names} {news:Led} {env:Env} {pos:Pos} {Q:Value→Shared→Prop} {g:Array GenState} {d:Drawn} {tk:Nat} {o:OsState} (F:Fr h₀ L h m) (N:News h₀ L h news) (D:Apart news) (hbig:sysModules < h₀.objs.size)
  (k:∀ ba h' bo,Fr h₀ L h' m→News h₀ L h' ((ba,bo)::news)→Apart ((ba,bo)::news)→(ba == sysModules)=false→bo.IsDictOf (kyKind MProg w) []→Q (.ref ba) ⟨h',g,d,tk,o⟩) :
  wpAny (model MProg w) Ar (eval (.Dict [] [] pos) env) Q E ⟨h,g,d,tk,o⟩ :=
 PyProof.Rows.Dict_empty_made (kyKind MProg w) (fun z9=>PyData.none) F N hbig fun h' bo F' N' hlo hbo z9 z9=>k _ h' bo F' N' (D.cons fun q hq=>Heap.lt_size (N q hq).1) hlo hbo
theorem pm_law {α:Type} {b l c x y z:α}:[b,l,c,x,y,z].Perm [z,x,y,l,b,c] :=
 (List.perm_append_comm (l₁:=[b,l,c,x,y]) (l₂:=[z])).trans (.cons _ ((List.perm_append_comm (l₁:=[b,l,c]) (l₂:=[x,y])).trans (.cons _ (.cons _ (List.Perm.swap l b [c])))))
section
variable {c:Cn} {m:NM} {l:Led} {pos:Pos} {ss:List Stmt} {K:List (List Stmt)} {Q:Flow→NM→Led→Prop}
theorem HE.dict0:HE ⟨c,m,l⟩ (.Dict [] [] pos) fun v l'=>∃ ba bo,v=.ref ba∧l'=(ba,bo)::l∧(ba == sysModules)=false∧Obj.IsDictOf (kyKind MProg c.w) bo []:=by
 intro Ar g L s T R
 obtain ⟨nm,F,H⟩:=R.F
 obtain ⟨pv,lo,Tp⟩:=T.C.T
 exact dict_new F R.N R.D (modules_low (topRead_of Tp).nolimit) fun ba h' bo F' N' D' hlo hbo=>⟨h',_,m,(ba,bo)::l,rfl,⟨⟨nm,F',H⟩,N',D'⟩,rfl,ba,bo,rfl,rfl,hlo,hbo⟩
theorem HS.ffOr {f e2:PySem.Expr} {as:List PySem.Expr} {cp np ip:Pos} {a b:List Stmt} (h:HE ⟨c,m,l⟩ (.Call f as [] cp) fun v l1=>v=.bool true∧EvT ⟨c,m,l1⟩ e2 False∧HS c (b::ss::K) m l1 Q):HS c ((.If (.BoolOp .Or [.UnaryOp .Not (.Call f as [] cp) np,e2] pos) a b ip::ss)::K) m l Q :=
 HS.step fun Ar z9 z9 s T R=>wpAny_If (isTrue_or (isTrue_not (isTrue_plain (h.use T R fun v h1 tk1 l1 p1 R1=>by
  obtain ⟨rfl,p2,p3⟩:=p1
  refine wpAny_truthy_bool (isTrue_or (EvT.use (σ:=⟨c,m,l1⟩) (s:={ s with heap:=h1,toks:=tk1 }) p2 T R1 fun x h2 tk2 hx R2=>?_))
  cases x with
  | true=>exact (hx.mp rfl).elim
  | false=>exact isTrue_or_nil (HS.into (T:=T) (tk:=tk2) R2 p3)) (test_of rfl))))
end
theorem law_some {c:Cn} {m:NM} {l:Led} {Ar:Around} {g:Heap} {L:Addr} {s:Shared} {E Q:Value→Shared→Prop} {x:Str} {src:PySem.Expr} {ap xp cp p2 p3 p4 px sp1 sp2 pos:Pos} {kk k2:Nat} {scope:Scope} {a:Addr} {vs:List Value} {ns:List Int} (T:Rt c Ar g L) (R:RS ⟨c,m,l⟩ g L s.heap) (hclos:∀ L,closureFor scope (c.sh.env L)=pure []) (hcell:∀ y∈scope.names,y.2≠.cell) (hkind:scope.kind=.function)
  (hnames:∀ y∈scope.names,y.2=.local→scope.names.lookup y.1=some .local) (hx:scope.names.lookup x=some .local) (hfold:∀ L v,foldedSetIterable (.Subscript src (.Slice none (some (.Constant (.int 16) k2 p4)) none sp1) sp2) (c.sh.env L) v=pure v) (hkx:∀ L C,(compEnvC scope [] C (c.sh.env L)).kindOf x=some .local) (hka:∀ L C,(compEnvC scope [] C (c.sh.env L)).kindOf (Str.ofString "abs")=some .globalImplicit)
  (hdx:(x == Str.ofString "__debug__")=false) (h1:EvS ⟨c,m,l⟩ src (.v (.ref a))) (lifted:g.IsList a vs.toArray) (hI:IntsAre vs ns) (hz:vs.length < 1000)
  (k:∀ D ys zs h tk,IntsAre ys zs→ys.length≤16→(∀ z∈zs,0≤z)→RS ⟨c,m,(D,listOf (List.toArray ys) ys.length)::l⟩ g L h→Q (.ref D) { s with heap:=h,toks:=tk }) :
  wpAny (Md c) Ar (eval (.ListComp (.BinOp (.Call (.Name (Str.ofString "abs") ap) [.Name x xp] [] cp) .Mod (.Constant (.int 1009) kk p2) p3) [⟨.Name x px,.Subscript src (.Slice none (some (.Constant (.int 16) k2 p4)) none sp1) sp2,[],0⟩] scope pos) (c.sh.env L)) Q E s:=by
 obtain ⟨nm,F,H⟩:=R.F
 obtain ⟨pv,lo',Tp⟩:=T.C.T
 refine LCg.ListComp_U F (hclos L) hcell hkind hnames hx (Subscript_ (h1 _ _ _ _ _ _ T R fun v tk1 hv=>?_)) (hfold L)
 cases hv
 refine wpAny_Slice (evalPart_none_step (evalPart_some_step (wpAny_Constant_int (evalPart_none_step ?_))))
 refine sl_base F R.N R.D lifted .none (.int 16 _) hz rfl fun D8 h8 F8 N8 D8'=>?_
 rw [pick_upto (by (first | exact Int.natCast_nonneg _))] at N8 D8'
 have hI2:=hI.take (Int.toNat 16)
 have hl2:=hI2.length
 have hl3:(ns.take (Int.toNat 16)).length≤16:=by rw [List.length_take]; exact Nat.min_le_left _ _
 generalize vs.take (Int.toNat 16)=us at N8 D8' hI2 hl2
 generalize ns.take (Int.toNat 16)=ms at hI2 hl2 hl3
 refine LCg.CompSrc.ledger T.C.n F8 N8 (.head _) (by rw [List.size_toArray,sizeLine_eq]; exact lq [_,_] [] [.e Nq Nr,.l Nr (.k 16)] (.l Nq (.k 16777216)) [[11010]] rfl hl2 hl3) (fun g'=>?_)
 rw [List.size_toArray]
 refine comp_led (n:=us.length) (fun i ys led=>led=(D8,listOf us.toArray 0)::l∧∃ zs:List Int,IntsAre ys zs∧zs.length=i∧∀ z∈zs,0≤z) ?_ ?_ us.length 0 [] _ rfl ⟨rfl,[],.nil,rfl,fun z9 h=>nomatch h⟩ D8'
 ·rintro i v I oI Cm oC Dm m₂ h tk ys led E' hi hP hC hx ⟨rfl,zs,hzs,hzl,hz0⟩ F₂ N₂ D₂
  obtain ⟨tv,ev⟩:=ints_get hI2 i (by exact hl2▸hi)
  have ev':v=.int (ms.getD i 0) tv:=by
   have:us[i]?=some v:=by simpa using hP
   rw [ev] at this
   exact (Option.some.inj this).symm
  subst ev'
  refine wpAny_BinOp (Call_ (LCgL.ld_built F₂ T.C.X Tp (by k_is) (by boot_by_name) (by decide) ?_ rfl rfl hkind (hka _ _)) (callee_of rfl))
  refine callWith_builtin1 (args_cons (LCgL.ld_own N₂ (.tail _ (.head _)) hC hx (args_nil (call_abs_int ?_)) hkind (hkx _ _) hdx) rfl) rfl rfl
  intro u tk'
  refine wpAny_Constant_int (mod_int' (by decide) ?_)
  have hz1:=(fmod_in (a:=if ms.getD i 0 < 0 then -ms.getD i 0 else ms.getD i 0) (b:=1009) (by exact Int.natCast_nonneg _)).1
  exact cp_next F₂ N₂ D₂ ⟨[],.refl _⟩ (.inr ⟨_,.head _,rfl,_,rfl⟩) ⟨rfl,zs++[_],intsAre_snoc hzs _ _,by rw [List.length_append,hzl]; rfl,fun z hzm=>(List.mem_append.mp hzm).elim (hz0 z) fun h=>by rw [List.mem_singleton.mp h]; exact hz1⟩
 ·rintro ys led ⟨rfl,zs,hzs,hzl,hz0⟩ hA
  refine fin_e hA fun Dl h₂ tk₂ F₂ N₂ D₂=>?_
  exact k Dl ys zs h₂ tk₂ hzs (by have:=hzs.length; exact lq [_,_,_,_] [] [.e Nq Nr,.l Nr (.k 16),.e Ns Nq,.e (.n 3) Ns] (.l (.n 3) (.k 16)) [[101011010]] rfl hl2 hl3 hzl this) hz0 ⟨⟨nm,F₂,H⟩,News.sub N₂ fun p hp=>(List.mem_cons.mp hp).elim (fun h=>h▸.head _) fun h=>.tail _ (.tail _ h),D₂.sub (List.Sublist.cons_cons _ (List.sublist_cons_self _ _))⟩
theorem law_run {w:World} {mean:ExcName→Option Value} {mg mb:Names} {sh:Sh} {g:Heap} {L:Addr} {env:Env} {pv:Program} {lo:List Str} {body:List Stmt} {h:Heap} {gs:Array GenState} {d:Drawn} {tk:Nat} {o:OsState} {Q:Flow→Shared→Prop} {E:Value→Shared→Prop} {m:NM} {l:Led} {nm:Names} (henv:env=sh.env L) (hok:scOk sh.sc=true) (hk:sh.sc.kind=.function) (X:(hd.heap_1_39 w.params).In g) (T:Top pv lo mean mg mb g) (B:Below callerA g [] g)
  (F:Fr g L h nm) (N:News g L h l) (D:Apart l) (H:NMok sh.sc m nm) (hw:∀ Ar,Rt ⟨w,mean,mg,mb,sh,250⟩ Ar g L→RS ⟨⟨w,mean,mg,mb,sh,250⟩,m,l⟩ g L h→∀ Q':Flow→Shared→Prop,(∀ fl h' tk' m' l',RS ⟨⟨w,mean,mg,mb,sh,250⟩,m',l'⟩ g L h'→(fl=.ret (.bool true)∧∃ p1 p2 p3,∀ p∈[(540,tabObj p2),(535,tabObj p1),(545,tabObj p3)],p∈l')→Q' fl ⟨h',gs,d,tk',o⟩)→wpAny (model MProg w) Ar (execs body (sh.env L)) Q' (fun z9 z9=>False) ⟨h,gs,d,tk,o⟩)
  (hq:∀ h' tk' m' p1 p2 p3,Fr g L h' m'→News g L h' [(540,tabObj p2),(535,tabObj p1),(545,tabObj p3)]→Q (.ret (.bool true)) ⟨h',gs,d,tk',o⟩):wpAny (model MProg w) (callerA.deeper env) (execs body env) Q E ⟨h,gs,d,tk,o⟩:=by
 subst henv
 refine wpAny_mono (hw _ ⟨hok,law_cx rfl X T B rfl hk⟩ ⟨⟨nm,F,H⟩,N,D⟩ Q fun fl h' tk' m' l' R' p=>?_) (fun z9 z9 x=>x) fun z9 z9 x=>x.elim
 obtain ⟨rfl,p1,p2,p3,hs⟩:=p
 obtain ⟨nm',F',_⟩:=R'.F
 exact hq h' tk' nm' p1 p2 p3 F' (News.sub R'.N hs)
theorem isAll_ints {ns:List Int}:∀ {vs:List Value},IsAll (ns.map Vl.i) vs→IntsAre vs ns:=by
 induction ns with
 | nil=>intro vs h; cases h; exact .nil
 | cons n r ih =>
  intro vs h
  cases h with
  | cons a b =>
   obtain ⟨t,rfl⟩:=a
   exact .cons n t (ih b)
theorem HE.listI {c:Cn} {m:NM} {l:Led} {es:List PySem.Expr} {Vs:List Vl} {lp:Pos} (h:Evs ⟨c,m,l⟩ es Vs) (hz:Nat.ble Vs.length 100=true):HE ⟨c,m,l⟩ (.List es lp) fun v l'=>∃ D vs,v=.ref D∧l'=(D,listOf (List.toArray vs) 0)::l∧IsAll Vs vs :=
 fun z9 z9 z9 s T R=>List_ (h.use T R fun vs z9 z9 hvs R1=>by
  obtain ⟨nm,F,H⟩:=R1.F
  refine newList_K F R1.N (fun D' h2 F2 N2 lt=>⟨h2,_,m,(D',listOf vs.toArray 0)::l,rfl,⟨⟨nm,F2,H⟩,N2,R1.D.cons lt⟩,rfl,D',vs,rfl,rfl,hvs⟩) ?_
  rw [hvs.len]
  exact Nat.le_trans (Nat.le_of_ble_eq_true hz) (nb rfl))
structure LSt where
 C:TC
 row:List Int
 rv:List Value
 re:Nat
 kvs:List (Ky×Value)
 bo:Obj
 p1:Array Value
 p2:Array Value
 p3:Array Value
 W:Led
theorem lawLit {P:Params} {oc:Value} {od:Option Addr} {osl:Array (Option Value)} {name qual:Str} {params:Arguments} {body b:List Stmt} {scope sc:Scope} {dV kV doc pm:Value} {an:Option Addr} {cdv ct:Value} (ho:(hd.heap_1_39 P).lookup 555=some ⟨oc,od,.func (fnOf name qual params body scope dV kV doc pm an cdv ct),osl⟩) (h:IsLaw P sc b):sc=scope∧b=body:=by
 obtain ⟨_,_,_,_,_,_,_,_,_,_,_,_,_,h⟩:=h
 have e:=Data.func.inj (Obj.mk.inj (Option.some.inj (h.symm.trans ho))).2.2.1
 exact ⟨congrArg FuncData.scope e,FuncBody.stmts.inj (congrArg FuncData.body e)⟩
theorem law_at:Psi (w,mean,mg,mb):=by
 intro sc0 b0 hlaw
 obtain ⟨rfl,rfl⟩:=lawLit (by k_is) hlaw
 clear hlaw
 intro fa cd Ar g h₁ L₁ gs d tk0 o0 sc vs ns lifted hI hc1 Tr R Q' hret
 have hvl:=hI.length
 dsimp only
 refine wpAny_execs_cons (wpAny_Assign_Name (wpAny_BinOp (law_some Tr R (fun _=>rfl) (by decide) rfl (by decide) rfl (fun _ _=>rfl) (fun _ _=>by kernel_rfl) (fun _ _=>by kernel_rfl) (by kernel_rfl) (by exact EvS.name 0 sl0 rfl) lifted hI (by exact lq [_,_] [] [.nt (.c (.k 63)) Nq,.e Nr Nq] (.t Nr (.k 1000)) [[10110]] rfl hc1 hvl) fun D ys zs h tk hys hyl hpos R1=>?_)) rfl)
 refine (HE.listI (c:=⟨w,_,mg,mb,_,250⟩) (by exact Evs.cons rfl Ev.int (Evs.cons rfl Ev.int (Evs.cons rfl Ev.int (Evs.cons rfl Ev.int (Evs.cons rfl Ev.int (Evs.cons rfl Ev.int (Evs.cons rfl Ev.int (Evs.cons rfl Ev.int (Evs.cons rfl Ev.int Evs.nil))))))))) rfl).use Tr R1 ?_
 rintro _ h2 tk2 _ ⟨Dc,vs2,rfl,rfl,hall2⟩ R2
 have hall:=hys.append (isAll_ints (ns:=[16,0,25,41,4,3,5,6,7]) hall2)
 have hpos2:∀ z∈zs++[16,0,25,41,4,3,5,6,7],0≤z:=fun z h=>(List.mem_append.mp h).elim (hpos z) fun h=>(by decide:∀ z∈([16,0,25,41,4,3,5,6,7]:List Int),0≤z) z h
 have hl2:vs2.length=9:=hall2.len
 obtain ⟨nm2,F2,H2⟩:=R2.F
 refine add_led F2 R2.N R2.D (.tail _ (.head _)) (.head _) (by exact lq [_,_] [] [.l Nq (.k 16),.e Nr (.k 9)] (.l (.a Nq Nr) (.k 1000)) [[10110]] rfl hyl hl2) fun D3 h3 F3 N3 D3'=>?_
 generalize ys++vs2=sv at N3 D3' hall
 generalize zs++[16,0,25,41,4,3,5,6,7]=so at hall hpos2
 refine store_slot (c:=⟨w,_,mg,mb,_,250⟩) (m:=NM.nil.set 0 (.v (.ref sc))) (l:=[(D3,listOf sv.toArray 0),(540,tabObj #[]),(535,tabObj #[]),(545,tabObj #[])]) (V:=.v (.ref D3)) (by (exact sl2)) rfl Tr ⟨⟨nm2,F3,H2⟩,News.sub N3 fun p hp=>(List.mem_cons.mp hp).elim (fun h=>h▸.head _) fun h=>.tail _ (.tail _ (.tail _ h)),D3'.sub (List.Sublist.cons_cons _ (List.Sublist.cons _ (List.Sublist.cons _ (List.Sublist.refl _))))⟩ fun h4 tk4 R4=>?_
 clear hall2 hpos hyl hys R1 R2 F2 H2 F3 N3 D3' hI hvl lifted R
 refine HS.run (Q:=fun fl _ l=>fl=.ret (.bool true)∧∃ p1 p2 p3,∀ p∈[(540,tabObj p2),(535,tabObj p1),(545,tabObj p3)],p∈l) (K:=[]) ?_ Tr R4 fun fl h' tk' m' l' R' p=>hret fl h' tk' m' l' R' (by cases fl <;> exact p)
 clear hret R4 Tr
 refine HS.assign3 _ _ _ (by (exact sl3)) (by (exact sl4)) (by (exact sl5)) (fun _=>rfl) (P:=fun vs l'=>∃ (A:TA) (C:TC) (ra ba:Addr) (bo:Obj),vs=[.ref A.t,.ref ra,.ref ba]∧l'=LL w.params A C ra ba [] 0 bo #[] #[] #[] [(D3,listOf sv.toArray 0)]∧C.arr=[]∧C.nodes=[]∧C.fr=0∧(ba == sysModules)=false∧bo.IsDictOf (kyKind MProg w) []) (HEs.cons rfl (HE.callK rfl (by exact Ev.glob 6 sl6 (by k_is)) (by exact Evs.cons rfl Ev.int Evs.nil) (by k_is) (nb rfl) (fun t=>spec_Table 1 t _)) ?_) ?_
 ·rintro _ _ ⟨A,C,rfl,rfl,ha,hn,hf⟩
  refine HEs.cons rfl HE.list0 ?_
  rintro _ _ ⟨ra,rfl,rfl⟩
  refine HEs.cons rfl HE.dict0 ?_
  rintro _ _ ⟨ba,bo,rfl,rfl,hlo,hbo⟩
  exact HEs.perm ((tl_congr pm_law.symm).trans (tl_app [_,_])) (HEs.nil ⟨A,C,ra,ba,bo,rfl,rfl,ha,hn,hf,hlo,hbo⟩)
 rintro _ _ ⟨A,C,ra,ba,bo,rfl,rfl,ha,hn,hf,hlo,hbo⟩
 refine ⟨_,_,_,rfl,?_⟩
 obtain ⟨hT0,hT1⟩:=tab_new (P:=w.params) (A:=A) ha hn hf
 refine HS.forL (X:=LSt) (a:=D3) (vs:=sv) (n:=0) _ (by (exact sl1)) (fun _ _=>rfl) (by exact Ev.name 2 sl2 rfl) (fun _ x=>LawOk w x.C x.row x.rv x.kvs x.bo x.p1 x.p2 x.p3 x.W) (fun _ m=>m) (fun x=>LL w.params A x.C ra ba x.rv x.re x.bo x.p1 x.p2 x.p3 (x.W++[(D3,listOf sv.toArray 0)])) ⟨C,[],[],0,[],bo,#[],#[],#[],[]⟩ ?h0 ?hm ?hl ?hmem ?_ ?_
 case h0=>exact ⟨Held.nil hT0 hT1,.nil,hbo,.nil _ _,.nil _ _,.nil _ _⟩
 case hm=>exact .rfl
 case hl=>exact rfl
 case hmem=>exact fun x=>mem_R (.tail _ (.tail _ (.tail _ (.tail _ (.tail _ (List.mem_append_right _ (.head _)))))))
 ·clear hbo hT0 hT1 ha hn hf
  rintro I o i v ⟨C,row,rv,re,kvs,bo,p1,p2,p3,W⟩ hv K Q2 next _ _
  dsimp only at K next ⊢
  have hi:i < so.length:=by rw [← hall.length]; exact (List.getElem?_eq_some_iff.mp hv).1
  obtain ⟨tv,ev⟩:=ints_get hall i hi
  have e:v=.int (so.getD i 0) tv:=Option.some.inj (hv.symm.trans ev)
  subst e
  have hz0:0≤so.getD i 0:=hpos2 _ (by rw [List.getD_eq_getElem?_getD,List.getElem?_eq_getElem hi]; exact List.getElem_mem hi)
  clear hv ev
  generalize so.getD i 0=number at hz0 ⊢
  refine HS.perm (l':=LL w.params A C ra ba rv re bo p1 p2 p3 ((I,o)::(W++[(D3,listOf sv.toArray 0)]))) ((tl_congr (List.perm_middle (l₁:=[_,_,_,_,_]))).trans tl_cons.symm) ?_
  refine HS.ffOr (HE.callK rfl (by exact Ev.glob 7 sl7 (by k_is)) (by exact Evs.cons rfl (Ev.name 3 sl3 rfl) (Evs.cons rfl (Ev.name 4 sl4 rfl) (Evs.cons rfl (Ev.name 5 sl5 rfl) (Evs.cons rfl (Ev.name 1 sl1 rfl) Evs.nil)))) (by k_is) (nb rfl) ((spec_done A C ra ba row rv re kvs bo p1 p2 p3 ((I,o)::(W++[(D3,listOf sv.toArray 0)])) W number tv (fun p hp=>.tail _ (List.mem_append_left _ hp)) K hz0).mono (Nat.le_refl _) ?_))
  rintro r l ⟨rfl,C',row',rv',re',kvs',bo',q1,q2,q3,W',rfl,K'⟩
  have hB:=K'.held.bord
  have hT:=K'.held.tab
  have hl:=K'.held.len
  have hlv:rv'.length=row'.length:=K'.rowv.length
  have hlz:rv'.length < 2 ^ 62:=by exact lq [_,_] [] [.l Nq (.k 24),.e Nr Nq] (.t Nr (.k 4611686018427387904)) [[10110]] rfl hl hlv
  refine ⟨rfl,?_,?_⟩
  ·exact EvT.congr (EvT.cmp (a:=(row'.length:Int)) (b:=(rv'.length:Int)) (Ev.of (HE.meth (by exact Ev.name 3 sl3 rfl) InsAt.tab (by (exact ⟨by k_is,by k_is,by k_is,by k_is⟩)) rfl rfl .nil (nb rfl) (spec_length A C' _ row'.length hT.wf hB (by exact Nat.le_trans hl (nb rfl))))) (by exact Ev.callB rfl (Ev.blt 8 sl8 (by k_is) (by boot_by_name) (by kernel_rfl)) (Evs.cons rfl (Ev.name 4 sl4 rfl) Evs.nil) (CT.len (mem_R (.tail _ (.tail _ (.tail _ List.mem_cons_self)))) hlz)) ICmp.ne rfl) (by simp [hlv])
  refine HS.nil (HS.ff (p:=(number.fmod 8=3∨number.fmod 8=4∨number.fmod 8=7)∧¬ (true=true)) ?_ (fun h=>h.2 rfl) (HS.nil ?_))
  ·refine EvT.and (by exact EvT.in3 (Ev.bin (Ev.nameI 1 sl1 rfl) Ev.int (IOp.mod (by decide))) Ev.int Ev.int Ev.int rfl rfl rfl rfl) (fun _=>EvT.not (EvT.ofV (b:=true) (Ev.of (HE.callK rfl (by exact Ev.glob 9 sl9 (by k_is)) (by exact Evs.cons rfl (Ev.name 3 sl3 rfl) (Evs.cons rfl (Ev.name 4 sl4 rfl) (Evs.cons rfl (Ev.name 5 sl5 rfl) Evs.nil))) (by k_is) (nb rfl) (spec_stands A C' ra ba row' rv' re' kvs' bo' q1 q2 q3 (W'++(I,o)::(W++[(D3,listOf sv.toArray 0)])) _ K' hlo))) rfl))
  refine HS.nil (HS.done ?_)
  refine next ⟨C',row',rv',re',kvs',bo',q1,q2,q3,W'++W⟩ _ _ K' (by exact NM.Sub.same rfl (NM.Sub.same rfl (NM.Sub.same rfl (NM.Sub.same rfl (NM.Sub.same rfl NM.Sub.nil))))) ⟨[],?_⟩
  show ((I,o)::LL w.params A C' ra ba rv' re' bo' q1 q2 q3 ((W'++W)++[(D3,listOf sv.toArray 0)])).Perm _
  rw [List.append_assoc]
  exact tl_cons.trans (tl_congr (List.perm_middle (l₁:=_::_::_::_::_::W')).symm)
 ·clear hbo hT0 hT1 ha hn hf
  rintro ⟨C,row,rv,re,kvs,bo,p1,p2,p3,W⟩ K
  dsimp only at K ⊢
  refine HS.retH (HE.callK rfl (by exact Ev.glob 9 sl9 (by k_is)) (by exact Evs.cons rfl (Ev.name 3 sl3 rfl) (Evs.cons rfl (Ev.name 4 sl4 rfl) (Evs.cons rfl (Ev.name 5 sl5 rfl) Evs.nil))) (by k_is) (nb rfl) (spec_stands A C ra ba row rv re kvs bo p1 p2 p3 (W++[(D3,listOf sv.toArray 0)]) _ K hlo)) ?_
  rintro _ _ ⟨rfl,rfl⟩
  refine ⟨rfl,p1,p2,p3,fun p hp=>?_⟩
  rcases List.mem_cons.mp hp with rfl | hp
  ·exact mem_R (.tail _ (.head _))
  rcases List.mem_cons.mp hp with rfl | hp
  ·exact mem_R (.tail _ (.tail _ (.head _)))
  rw [List.mem_singleton.mp hp]
  exact mem_R (.head _)
theorem law_all (c:Cfg):Psi c:=Classical.byContradiction fun h=>(Classical.epsilon_spec (p:=fun c=>¬ Psi c) ⟨c,h⟩:¬ Psi cfg) law_at
set_option Elab.async true in
theorem fin : PySem.Challenge.rw_pc0175_01.Holds := by
 w_on
 o_law
 o_head (kmHook hd.heap_1_39 [2,3,15,17,18,20,21,22,24,25,27,28,29,31,32,34,35,36,38,39,41,42,43,45,46,48,49,50,52,53,55,56,57,64,66,67,69,70,71,72,73,74,84,86,87,89,90,91,93,94,96,97,98,100,101,103,104,105,107,108,110,111,112,114,115,117,118,119,121,122,124,125,126,128,129,131,132,133,134,135,136,137,140,147,149,150,152,153,154,155,156,157,167,169,170,172,173,174,175,176,177,178,188,190,191,193,194,195,196,197,198,199,202,204,205,207,208,209,211,212,214,215,216,218,219,221,222,223,225,226,228,229,230,232,233,235,236,237,239,240,242,243,244,246,247,249,250,258,260,261,263,264,265,266,267,268,269,279,281,282,284,285,286,288,289,291,292,293,294,295,296,297,300,302,303,305,306,307,309,310,312,313,314,316,317,319,320,321,328,329,331,332,334,335,336,338,339,341,342,343,345,346,348,349,350,352,353,355,356,357,359,360,362,363,364,366,367,369,370,371,373,374,376,377,378,380,381,383,384,385,387,388,390,391,392,394,395,397,398,399,401,402,404,405,406,408,409,411,412,413,415,416,418,419,420,422,423,425,426,427,429,430,432,433,434,436,437,439,440,441,442,444,445,447,448,449,451,452,454,455,456,459,460,461,463,464,466,467,468,470,471,473,474,475,477,478,480,481,482,484,485,487,488,489,491,492,494,495,496,498,499,501,502,503,505,506,508,509,510,512,513,515,516,517,519,520,522,523,524,525,526,529,532,533,534,537,538,539,542,543,544,546,547,549,550,551,554,555] (fun _ => by kernel_rfl) [540,535,545])
 case hw => w_witness2
 k_go0
 (all_goals try k_fold)
 rename_i w s0 s1 mg mb G Y fa o pm cd doc kV ho hcd hg X V T B TE TW ns hs hlay0 hL1 hr1 hl2 w4 w3 sc vs w0 hL ra w1 r0 hI hr hc1 hc2 hD h₁ X' T' K' F' cH1 cH2 N' l0
 have hF0:(fun x=>List.lookup x [({ arg:=Str.ofString "script",annotation:=none,pos:=⟨578,8,578,14⟩:PySem.Arg }.arg,Value.ref sc)].reverse)=upd (fun _=>none) (Str.ofString "script") (.ref sc):=by
  funext y
  simp only [List.reverse_cons,List.reverse_nil,List.nil_append,lk_upd,List.lookup_nil]
 rw [hF0] at F'
 have kD:Apart [(540,tabObj #[]),(535,tabObj #[]),(545,tabObj #[])]:=by unfold Apart; decide
 refine law_run (sh:=⟨"law",_,_,_,[]⟩) rfl (by kernel_rfl) rfl X' T' K' F' N' kD (NMok.cons sl0 rfl NMok.nil) (fun Ar Tr R Q' hret=>?_) (fun h' tk' m' p1 p2 p3 F2 N2=>?_)
 ·exact law_all (w,_,mg,mb) _ _ ⟨_,_,_,_,_,_,_,_,_,_,_,_,_,by k_is⟩ fa cd Ar _ _ _ _ _ _ _ sc vs ns lifted hI hc1 Tr R Q' hret
 ·clear F' N' kD
  dsimp only
  refine ⟨?_,GrownAt.of N2 (.head _),GrownAt.of N2 (.tail _ (.head _)),GrownAt.of N2 (.tail _ (.tail _ (.head _))),trivial⟩
  refine goodW_bool F2 hg (raisesW_false ?_) ?_
  ·wrow_none_raised
  ·wrow_post
end Mine
theorem PySem.Challenge.cw_pc0175_01_holds : PySem.Challenge.rw_pc0175_01.Holds :=
  Mine.fin
